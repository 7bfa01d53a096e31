import PyProof.Rows.All
import Wide.All
import OpenK.AllK
import Wide.FinOn
import HandS.ForMost
import HandS.Exc
import HandS.WordsExc
import HandS.IsInst
import HandS.Conv
import HandS.Text
import HandS.TupAny
import HandS.Steps
import HandS.SortInts
import HandS.DictComp
import KE.KIsAll
import HandS.ExcOwn
import HandS.ExcIs
import HandS.ExcInit
import HandS.TryOnly
import KE.KExcIs
import KE.KSortTupG
import KE.KSortTupUse
import HandS.Iter
import HandS.DictTup
import HandS.SetKeys
import HandS.More
import HandS.SortKw
import KE.DataMinMax
import HandS.TupLe
import HandS.SetFor
import HandS.Strs
import HandS.Flow
import HandS.TupLen
import PyProof.DictMoreH
import HandS.Deep
import PyProof.ZipIter
import HandS.Set
import PyProof.Rows.SortStr
import HandS.WordsDict
import KE.GoesRaise
import Lean
import KE.KStateDown
import HandS.Defaults
import HandS.Head0
import HandS.Head1
import HandS.Head2
import HandS.HeadEnd
import HandS.HeadHook1
import HandS.HeadHook2
import HandS.HeadHook3
import HandS.HeadHook4
import PySem.Challenge.RW_postroad_k21_ways_set_and_dropped
set_option Elab.async false
set_option linter.all false
set_option maxRecDepth 100000
set_option maxHeartbeats 2000000
/-! Frozen data, owned cells, states: a small separation logic over the layer's readings. -/
namespace Sx
open PySem L2

/-! ### heaps -/
/-- B knows all that A knows -/
def Ex (A B : Hp) : Prop := ∀ x u, A x = some u → B x = some u
theorem Ex.rf {A : Hp} : Ex A A := fun _ _ q => q
theorem Ex.tr {A B C : Hp} (p : Ex A B) (q : Ex B C) : Ex A C := fun x u z => q x u (p x u z)
theorem Ex.mut {A B : Hp} {q : Addr} {u : HO} (s : Ex A B) (n : A q = none) : Ex A (upd B q u) := fun x v z => (upd_ne (ne_of_none z n)).trans (s x v z)
theorem Ex.new {A : Hp} {q : Addr} {u : HO} (n : A q = none) : Ex A (upd A q u) := Ex.rf.mut n
theorem Ex.free {A B : Hp} (s : Ex A B) {q : Addr} (n : B q = none) : A q = none := Option.eq_none_iff_forall_ne_some.mpr fun u z => by
  rw [s q u z] at n; cases n
theorem Ex.upd2 {A B : Hp} {q : Addr} {u : HO} (s : Ex A B) : Ex (upd A q u) (upd B q u) := fun x v z => by
  by_cases k : x = q
  · subst k; rw [upd_same] at z ⊢; exact z
  · rw [upd_ne k] at z ⊢; exact s x v z
theorem ex_rd {A B : Hp} {x : Addr} {u : HO} (s : Ex A B) : Rd A x u → Rd B x u := Or.imp (s x _) fun ⟨o, z⟩ => ⟨o, s x _ z⟩
theorem ex_l {K : PySem.W.Frag} {A B : Hp} {x : Addr} {vs : List V} (s : Ex A B) : SqL K A x vs → SqL K B x vs := Or.imp (ex_rd s) id
theorem ex_t {K : PySem.W.Frag} {A B : Hp} {x : Addr} {vs : List V} (s : Ex A B) : SqT K A x vs → SqT K B x vs := Or.imp (ex_rd s) id
def emp : Hp := fun _ => none
def one (p : Addr) (o : HO) : Hp := upd emp p o
def join (A B : Hp) : Hp := fun a => match A a with | some o => some o | none => B a
theorem join_l {A B : Hp} {a : Addr} {o : HO} (h : A a = some o) : join A B a = some o := by unfold join; rw [h]
theorem join_r {A B : Hp} {a : Addr} (h : A a = none) : join A B a = B a := by unfold join; rw [h]
theorem join_emp (A : Hp) : join A emp = A := by
  funext a; unfold join emp; cases A a <;> rfl
theorem emp_join (A : Hp) : join emp A = A := by
  funext a; unfold join emp; rfl
theorem join_some {A B : Hp} {a : Addr} {o : HO} (h : join A B a = some o) : A a = some o ∨ (A a = none ∧ B a = some o) := by
  unfold join at h
  cases q : A a with
  | some u => rw [q] at h; exact .inl h
  | none => rw [q] at h; exact .inr ⟨rfl, h⟩
theorem join_none {A B : Hp} {a : Addr} (h : join A B a = none) : A a = none ∧ B a = none := by
  unfold join at h
  cases q : A a with
  | some u => rw [q] at h; cases h
  | none => rw [q] at h; exact ⟨rfl, h⟩
theorem join_assoc (A B C : Hp) : join (join A B) C = join A (join B C) := by
  funext a; unfold join; cases A a <;> rfl
/-- nothing in common -/
def Dj (A B : Hp) : Prop := ∀ a o, A a = some o → B a = none
theorem Dj.sym {A B : Hp} (h : Dj A B) : Dj B A := fun a o e => by
  cases q : A a with
  | none => rfl
  | some u => rw [h a u q] at e; cases e
theorem Dj.comm {A B : Hp} (h : Dj A B) : join A B = join B A := by
  funext a
  unfold join
  cases q : A a with
  | none => cases B a <;> rfl
  | some u => rw [h a u q]
theorem Dj.emp (A : Hp) : Dj A emp := fun _ _ _ => rfl
theorem Dj.l {A B C : Hp} (h : Dj (join A B) C) : Dj A C := fun a o e => h a o (join_l e)
theorem Dj.r {A B C : Hp} (d : Dj A B) (h : Dj (join A B) C) : Dj B C := fun a o e => h a o (by rw [join_r (d.sym a o e)]; exact e)
theorem Dj.joinL {A B C : Hp} (h : Dj A C) (k : Dj B C) : Dj (join A B) C := fun a o e => by
  rcases join_some e with q | ⟨_, q⟩
  · exact h a o q
  · exact k a o q
theorem Ex.joinL {A B H : Hp} (h : Ex (join A B) H) : Ex A H := fun a o e => h a o (join_l e)
theorem Ex.joinR {A B H : Hp} (d : Dj A B) (h : Ex (join A B) H) : Ex B H := fun a o e => h a o (by rw [join_r (d.sym a o e)]; exact e)
theorem Ex.join {A B H : Hp} (h : Ex A H) (k : Ex B H) : Ex (join A B) H := fun a o e => by
  rcases join_some e with q | ⟨_, q⟩
  · exact h a o q
  · exact k a o q
theorem one_same {p : Addr} {o : HO} : one p o p = some o := upd_same
theorem one_some {p a : Addr} {o u : HO} (h : one p o a = some u) : a = p ∧ u = o := by
  unfold one upd emp at h
  by_cases e : a = p
  · rw [if_pos e] at h; exact ⟨e, (Option.some.inj h).symm⟩
  · rw [if_neg e] at h; cases h
theorem one_ne {p a : Addr} {o : HO} (h : a ≠ p) : one p o a = none := by
  unfold one; rw [upd_ne h]; rfl
/-! ### frozen data -/
/-- an exception, tracked -/
def exO (a : Addr) (cls : Value) (d : Option Addr) : HO := .ext fun h => ∃ oe, h.get? a = some oe ∧ Zc cls d oe ∧ ∃ vs, oe.data = .fields vs
inductive D where
  | non | bl (b : Bool) | int (i : Int) | str (x : Str) | adr (a : Addr) | ty (n : String)
  | lst (ds : List D) | tup (ds : List D) | ins (C : Addr) (fs : List (Str × D)) | scr (ds : List D) | dK (kvs : List (Key × D)) | dT (kvs : List (List Key × D)) | exc (C : Addr) (fs : List (Str × D)) | kt (k : List Key)

mutual
inductive Fd (K : PySem.W.Frag) (F : Hp) : V → D → Prop
  | non : Fd K F .non .non
  | bl (b : Bool) : Fd K F (.bl b) (.bl b)
  | int (i : Int) : Fd K F (.int i) (.int i)
  | str (x : Str) : Fd K F (.str x) (.str x)
  | adr (a : Addr) : Fd K F (.ref a) (.adr a)
  | ty (n : String) : Fd K F (.ty n) (.ty n)
  | lst {a : Addr} {vs : List V} {ds : List D} : F a = some (.lst vs) → FdAll K F vs ds → Fd K F (.ref a) (.lst ds)
  | tup {a : Addr} {vs : List V} {ds : List D} : SqT K F a vs → FdAll K F vs ds → Fd K F (.ref a) (.tup ds)
  | ins {a C dx : Addr} {vs : List (Str × V)} {fs : List (Str × D)} : F a = some (.ins C dx vs) → FdFs K F vs fs → Fd K F (.ref a) (.ins C fs)
  | scr {a : Addr} {vs : List V} {ds : List D} : SqL K F a vs → FdAll K F vs ds → Fd K F (.ref a) (.scr ds)
  | dK {a : Addr} {vs : List (Key × V)} {kvs : List (Key × D)} : F a = some (.dK vs) → FdFs K F vs kvs → Fd K F (.ref a) (.dK kvs)
  | dT {a : Addr} {vs : List (List Key × V)} {kvs : List (List Key × D)} : F a = some (.dT vs) → FdFs K F vs kvs → Fd K F (.ref a) (.dT kvs)
  | exc {a C : Addr} {vs : List (Str × V)} {fs : List (Str × D)} {d : Option Addr} : F a = some (exO a (.ref C) d) → (d = none ∧ vs = [] ∨ ∃ dx, d = some dx ∧ F dx = some (.xd vs)) → FdFs K F vs fs → Fd K F (.ref a) (.exc C fs)
  | kt {a : Addr} {k : List Key} : F a = some (.tup (k.map kV)) → Fd K F (.ref a) (.kt k)
inductive FdAll (K : PySem.W.Frag) (F : Hp) : List V → List D → Prop
  | nil : FdAll K F [] []
  | cons {v : V} {vs : List V} {d : D} {ds : List D} : Fd K F v d → FdAll K F vs ds → FdAll K F (v :: vs) (d :: ds)
inductive FdFs (K : PySem.W.Frag) (F : Hp) : {κ : Type} → List (κ × V) → List (κ × D) → Prop
  | nil {κ : Type} : FdFs K F (κ := κ) [] []
  | cons {κ : Type} {n : κ} {v : V} {vs : List (κ × V)} {d : D} {ds : List (κ × D)} : Fd K F v d → FdFs K F vs ds → FdFs K F ((n, v) :: vs) ((n, d) :: ds)
end

section
variable {K : PySem.W.Frag} {F F' : Hp}
mutual
theorem Fd.go (e : Ex F F') : ∀ {v : V} {d : D}, Fd K F v d → Fd K F' v d
  | _, _, .non => .non
  | _, _, .bl _ => .bl _
  | _, _, .int _ => .int _
  | _, _, .str _ => .str _
  | _, _, .adr _ => .adr _
  | _, _, .ty _ => .ty _
  | _, _, .lst s a => .lst (e _ _ s) (FdAll.go e a)
  | _, _, .tup s a => .tup (ex_t e s) (FdAll.go e a)
  | _, _, .ins s a => .ins (e _ _ s) (FdFs.go e a)
  | _, _, .scr s a => .scr (ex_l e s) (FdAll.go e a)
  | _, _, .dK s a => .dK (e _ _ s) (FdFs.go e a)
  | _, _, .dT s a => .dT (e _ _ s) (FdFs.go e a)
  | _, _, .exc s q a => .exc (e _ _ s) (q.imp id fun ⟨dx, h1, h2⟩ => ⟨dx, h1, e _ _ h2⟩) (FdFs.go e a)
  | _, _, .kt s => .kt (e _ _ s)
theorem FdAll.go (e : Ex F F') : ∀ {vs : List V} {ds : List D}, FdAll K F vs ds → FdAll K F' vs ds
  | _, _, .nil => .nil
  | _, _, .cons a b => .cons (Fd.go e a) (FdAll.go e b)
theorem FdFs.go (e : Ex F F') : ∀ {κ : Type} {vs : List (κ × V)} {ds : List (κ × D)}, FdFs K F vs ds → FdFs K F' vs ds
  | _, _, _, .nil => .nil
  | _, _, _, .cons a b => .cons (Fd.go e a) (FdFs.go e b)
end
theorem Fd.mono (e : Ex F F') (d : D) {v : V} (h : Fd K F v d) : Fd K F' v d := Fd.go e h
theorem FdAll.mono (e : Ex F F') (ds : List D) {vs : List V} (h : FdAll K F vs ds) : FdAll K F' vs ds := FdAll.go e h
theorem FdFs.mono {κ : Type} (e : Ex F F') (ds : List (κ × D)) {vs : List (κ × V)} (h : FdFs K F vs ds) : FdFs K F' vs ds := FdFs.go e h
theorem FdAll.length : ∀ {vs : List V} {ds : List D}, FdAll K F vs ds → vs.length = ds.length
  | _, _, .nil => rfl
  | _, _, .cons _ t => by rw [List.length_cons, List.length_cons, FdAll.length t]
theorem FdAll.get : ∀ {vs : List V} {ds : List D} {i : Nat} {d : D}, FdAll K F vs ds → ds[i]? = some d → ∃ v, vs[i]? = some v ∧ Fd K F v d
  | _, _, i, _, .nil, e => by simp at e
  | _, _, 0, _, .cons h _, e => by simp at e; subst e; exact ⟨_, rfl, h⟩
  | _, _, i + 1, _, .cons _ t, e => by
    obtain ⟨v, h1, h2⟩ := FdAll.get (i := i) t (by simpa using e)
    exact ⟨v, by simpa using h1, h2⟩
theorem FdAll.app : ∀ {vs ws : List V} {ds es : List D}, FdAll K F vs ds → FdAll K F ws es → FdAll K F (vs ++ ws) (ds ++ es)
  | _, _, _, _, .nil, h => h
  | _, _, _, _, .cons h t, k => .cons h (FdAll.app t k)
theorem FdAll.take : ∀ {vs : List V} {ds : List D} (n : Nat), FdAll K F vs ds → FdAll K F (vs.take n) (ds.take n)
  | _, _, 0, _ => by simp; exact .nil
  | _, _, _ + 1, .nil => by simp; exact .nil
  | _, _, n + 1, .cons h t => .cons h (FdAll.take n t)
theorem FdAll.drop : ∀ {vs : List V} {ds : List D} (n : Nat), FdAll K F vs ds → FdAll K F (vs.drop n) (ds.drop n)
  | _, _, 0, h => h
  | _, _, _ + 1, .nil => by simp; exact .nil
  | _, _, n + 1, .cons _ t => FdAll.drop n t
theorem FdAll.set : ∀ {vs : List V} {ds : List D} (n : Nat) {v : V} {d : D}, FdAll K F vs ds → Fd K F v d → FdAll K F (vs.set n v) (ds.set n d)
  | _, _, _, _, _, .nil, _ => .nil
  | _, _, 0, _, _, .cons _ t, k => .cons k t
  | _, _, n + 1, _, _, .cons h t, k => .cons h (FdAll.set n t k)
theorem FdAll.replicate {v : V} {d : D} (h : Fd K F v d) : ∀ n, FdAll K F (List.replicate n v) (List.replicate n d)
  | 0 => .nil
  | n + 1 => .cons h (FdAll.replicate h n)
theorem FdFs.names {κ : Type} : ∀ {vs : List (κ × V)} {ds : List (κ × D)}, FdFs K F vs ds → vs.map (·.1) = ds.map (·.1)
  | _, _, .nil => rfl
  | _, _, .cons _ t => by rw [List.map_cons, List.map_cons, FdFs.names t]
theorem FdFs.length {κ : Type} {vs : List (κ × V)} {ds : List (κ × D)} (h : FdFs K F vs ds) : vs.length = ds.length := by
  have e := congrArg List.length h.names
  rw [List.length_map, List.length_map] at e
  exact e
theorem FdFs.look {f : Str} {d : D} : ∀ {vs : List (Str × V)} {ds : List (Str × D)}, FdFs K F vs ds → ds.lookup f = some d → ∃ v, vs.lookup f = some v ∧ Fd K F v d
  | _, _, .nil, e => by simp at e
  | _, _, .cons (n := n) h t, e => by
    rw [List.lookup_cons] at e ⊢
    cases q : (f == n) with
    | true => rw [q] at e; cases e; exact ⟨_, rfl, h⟩
    | false => rw [q] at e; exact FdFs.look t e
theorem FdFs.nolook {f : Str} : ∀ {vs : List (Str × V)} {ds : List (Str × D)}, FdFs K F vs ds → ds.lookup f = none → vs.lookup f = none
  | _, _, .nil, _ => rfl
  | _, _, .cons (n := n) h t, e => by
    rw [List.lookup_cons] at e ⊢
    cases q : (f == n) with
    | true => rw [q] at e; cases e
    | false => rw [q] at e; exact FdFs.nolook t e
def putD (f : Str) (d : D) : List (Str × D) → List (Str × D)
  | [] => [(f, d)]
  | (g, x) :: r => if g = f then (g, d) :: r else (g, x) :: putD f d r
theorem FdFs.put {f : Str} {v : V} {d : D} (k : Fd K F v d) : ∀ {vs : List (Str × V)} {ds : List (Str × D)}, FdFs K F vs ds → FdFs K F (putF f v vs) (putD f d ds)
  | _, _, .nil => .cons k .nil
  | _, _, .cons (n := n) h t => by
    unfold putF putD
    by_cases e : n = f
    · rw [if_pos e, if_pos e]; exact .cons k t
    · rw [if_neg e, if_neg e]; exact .cons h (FdFs.put k t)
theorem FdAll.ints : ∀ {vs : List V} {ns : List Int}, FdAll K F vs (ns.map D.int) → vs = ns.map V.int
  | _, [], h => by cases h; rfl
  | _, n :: ns, h => by cases h with | cons a b => cases a; rw [List.map_cons, FdAll.ints b]
theorem FdAll.bls : ∀ {vs : List V} {ns : List Bool}, FdAll K F vs (ns.map D.bl) → vs = ns.map V.bl
  | _, [], h => by cases h; rfl
  | _, n :: ns, h => by cases h with | cons a b => cases a; rw [List.map_cons, FdAll.bls b]
theorem FdAll.ofInts : ∀ (ns : List Int), FdAll K F (ns.map V.int) (ns.map D.int)
  | [] => .nil
  | n :: ns => .cons (.int n) (FdAll.ofInts ns)
end

/-! ### owned cells -/
structure Res where
  P : Hp → Hp → Prop
  mono : ∀ {F F' M : Hp}, Ex F F' → P F M → P F' M
  nt : ∀ {F M : Hp}, P F M → ∀ x xs, M x ≠ some (.tup xs)
def Rs : List Res → Hp → Hp → Prop
  | [], _, M => M = emp
  | r :: l, F, M => ∃ A B, M = join A B ∧ Dj A B ∧ r.P F A ∧ Rs l F B
theorem Rs.mono {F F' : Hp} (e : Ex F F') : ∀ {l : List Res} {M : Hp}, Rs l F M → Rs l F' M
  | [], _, h => h
  | r :: l, _, ⟨A, B, h1, h2, h3, h4⟩ => ⟨A, B, h1, h2, r.mono e h3, Rs.mono e h4⟩
theorem Rs.nt {F : Hp} : ∀ {l : List Res} {M : Hp}, Rs l F M → ∀ x xs, M x ≠ some (.tup xs)
  | [], M, h, x, xs, e => by
    have h : M = emp := h
    subst h; cases e
  | r :: l, M, ⟨A, B, h1, _, h3, h4⟩, x, xs, e => by
    subst h1
    rcases join_some e with q | ⟨_, q⟩
    · exact r.nt h3 x xs q
    · exact Rs.nt h4 x xs q
theorem Rs.split {F : Hp} : ∀ {l k : List Res} {M : Hp}, Rs (l ++ k) F M → ∃ A B, M = join A B ∧ Dj A B ∧ Rs l F A ∧ Rs k F B
  | [], _, M, h => ⟨emp, M, (emp_join M).symm, (Dj.emp M).sym, rfl, h⟩
  | r :: l, k, M, ⟨A, B, h1, h2, h3, h4⟩ => by
    obtain ⟨A', B', g1, g2, g3, g4⟩ := Rs.split h4
    subst g1
    refine ⟨join A A', B', by rw [h1, join_assoc], ?_, ⟨A, A', rfl, (Dj.l h2.sym).sym, h3, g3⟩, g4⟩
    exact Dj.joinL ((Dj.r g2 h2.sym).sym) g2
theorem Rs.app {F : Hp} : ∀ {l k : List Res} {A B : Hp}, Rs l F A → Rs k F B → Dj A B → Rs (l ++ k) F (join A B)
  | [], _, _, _, h, g, _ => by
    have e : _ = emp := h
    subst e
    rw [emp_join]; exact g
  | r :: l, k, _, B, ⟨A1, A2, h1, h2, h3, h4⟩, g, d => by
    subst h1
    rw [join_assoc]
    refine ⟨A1, join A2 B, rfl, ?_, h3, Rs.app h4 g (Dj.r h2 d)⟩
    exact (Dj.joinL h2.sym (Dj.l d).sym).sym
/-- the k-th one apart -/
theorem Rs.at {F : Hp} : ∀ {l : List Res} {k : Nat} {r : Res} {M : Hp}, l[k]? = some r → Rs l F M → ∃ A B, M = join A B ∧ Dj A B ∧ r.P F A ∧ ∀ r' A' F', Ex F F' → r'.P F' A' → Dj A' B → Rs (l.set k r') F' (join A' B)
  | [], k, r, M, e, _ => by simp at e
  | r0 :: l, 0, r, M, e, ⟨A, B, h1, h2, h3, h4⟩ => by
    simp at e; subst e
    exact ⟨A, B, h1, h2, h3, fun r' A' F' x p d => ⟨A', B, rfl, d, p, Rs.mono x h4⟩⟩
  | r0 :: l, k + 1, r, M, e, ⟨A, B, h1, h2, h3, h4⟩ => by
    obtain ⟨A2, B2, g1, g2, g3, g4⟩ := Rs.at (k := k) (r := r) (by simpa using e) h4
    subst g1
    refine ⟨A2, join A B2, ?_, ?_, g3, fun r' A' F' x p d => ?_⟩
    · rw [h1, ← join_assoc, ← join_assoc, (Dj.l h2.sym).comm]
    · exact (Dj.joinL (Dj.l h2.sym).sym g2.sym).sym
    · rw [List.set_cons_succ]
      have dA : Dj A A' := Dj.l d.sym
      have dAB : Dj A B2 := (Dj.r g2 h2.sym).sym
      have dB : Dj A' B2 := (Dj.r dAB d.sym).sym
      refine ⟨A, join A' B2, ?_, ?_, r0.mono x h3, g4 r' A' F' x p dB⟩
      · rw [← join_assoc, ← join_assoc, dA.comm]
      · exact (Dj.joinL dA.sym dAB.sym).sym

/-! ### states -/
structure Tm where
  P : Hp → Prop
  mono : ∀ {F F' : Hp}, Ex F F' → P F → P F'
def Tm.tt : Tm := ⟨fun _ => True, fun _ _ => trivial⟩
def Tm.and (K : PySem.W.Frag) (T : Tm) (v : V) (d : D) : Tm := ⟨fun F => Fd K F v d ∧ T.P F, fun e h => ⟨Fd.mono e d h.1, T.mono e h.2⟩⟩
def Tm.ands (K : PySem.W.Frag) (T : Tm) (vs : List V) (ds : List D) : Tm := ⟨fun F => FdAll K F vs ds ∧ T.P F, fun e h => ⟨FdAll.mono e ds h.1, T.mono e h.2⟩⟩
def Tm.ex (T : Tm) (F0 : Hp) : Tm := ⟨fun F => Ex F0 F ∧ T.P F, fun e h => ⟨h.1.tr e, T.mono e h.2⟩⟩
abbrev Gm := List (Option D)
def nth : Gm → Nat → Option D
  | [], _ => none
  | d :: _, 0 => d
  | _ :: r, i + 1 => nth r i
inductive Sl (K : PySem.W.Frag) (F : Hp) : Gm → St → Prop
  | nil : Sl K F [] []
  | any {o : Option V} {g : Gm} {σ : St} : Sl K F g σ → Sl K F (none :: g) (o :: σ)
  | cons {v : V} {d : D} {g : Gm} {σ : St} : Fd K F v d → Sl K F g σ → Sl K F (some d :: g) (some v :: σ)
section
variable {K : PySem.W.Frag} {F F' : Hp}
theorem Sl.mono (e : Ex F F') : ∀ {g : Gm} {σ : St}, Sl K F g σ → Sl K F' g σ
  | _, _, .nil => .nil
  | _, _, .any h => .any (Sl.mono e h)
  | _, _, .cons a h => .cons (Fd.mono e _ a) (Sl.mono e h)
theorem Sl.nth : ∀ {g : Gm} {σ : St} {i : Nat} {d : D}, Sl K F g σ → Sx.nth g i = some d → ∃ v, σ[i]? = some (some v) ∧ Fd K F v d
  | _, _, _, _, .nil, e => by cases e
  | _, _, 0, _, .any _, e => by cases e
  | _, _, i + 1, d, .any h, e => by
    obtain ⟨v, h1, h2⟩ := Sl.nth (i := i) (d := d) h e
    exact ⟨v, by simpa using h1, h2⟩
  | _, _, 0, _, .cons a _, e => by cases e; exact ⟨_, rfl, a⟩
  | _, _, i + 1, d, .cons _ h, e => by
    obtain ⟨v, h1, h2⟩ := Sl.nth (i := i) (d := d) h e
    exact ⟨v, by simpa using h1, h2⟩
theorem Sl.set : ∀ {g : Gm} {σ : St} (i : Nat) {v : V} {d : D}, Sl K F g σ → Fd K F v d → Sl K F (g.set i (some d)) (σ.set i (some v))
  | _, _, _, _, _, .nil, _ => .nil
  | _, _, 0, _, _, .any h, k => .cons k h
  | _, _, i + 1, _, _, .any h, k => .any (Sl.set i h k)
  | _, _, 0, _, _, .cons _ h, k => .cons k h
  | _, _, i + 1, _, _, .cons a h, k => .cons a (Sl.set i h k)
theorem Sl.clear : ∀ {g : Gm} {σ : St} (i : Nat) {o : Option V}, Sl K F g σ → Sl K F (g.set i none) (σ.set i o)
  | _, _, _, _, .nil => .nil
  | _, _, 0, _, .any h => .any h
  | _, _, i + 1, _, .any h => .any (Sl.clear i h)
  | _, _, 0, _, .cons _ h => .any h
  | _, _, i + 1, _, .cons a h => .cons a (Sl.clear i h)
/-- forgetting -/
inductive Wk : Gm → Gm → Prop
  | nil : Wk [] []
  | any {o : Option D} {g g' : Gm} : Wk g g' → Wk (o :: g) (none :: g')
  | keep {o : Option D} {g g' : Gm} : Wk g g' → Wk (o :: g) (o :: g')
theorem Wk.rf : ∀ {g : Gm}, Wk g g
  | [] => .nil
  | _ :: _ => .keep Wk.rf
theorem Sl.weak : ∀ {g g' : Gm} {σ : St}, Wk g g' → Sl K F g σ → Sl K F g' σ
  | _, _, _, .nil, h => h
  | _, _, _, .any w, .any h => .any (Sl.weak w h)
  | _, _, _, .any w, .cons _ h => .any (Sl.weak w h)
  | _, _, _, .keep w, .any h => .any (Sl.weak w h)
  | _, _, _, .keep w, .cons a h => .cons a (Sl.weak w h)
theorem Sl.len : ∀ {g : Gm} {σ : St}, Sl K F g σ → g.length = σ.length
  | _, _, .nil => rfl
  | _, _, .any h => by rw [List.length_cons, List.length_cons, Sl.len h]
  | _, _, .cons _ h => by rw [List.length_cons, List.length_cons, Sl.len h]
theorem Sl.nones : ∀ n, Sl K F (List.replicate n none) (List.replicate n none)
  | 0 => .nil
  | n + 1 => .any (Sl.nones n)
theorem Sl.args : ∀ {vs : List V} {ds : List D} (n : Nat), FdAll K F vs ds → Sl K F (ds.map some ++ List.replicate n none) (vs.map some ++ List.replicate n none)
  | _, _, n, .nil => Sl.nones n
  | _, _, n, .cons a h => .cons a (Sl.args n h)
end
/-- a def's entry: what was frozen, what was owned, the heap -/
structure En where
  F : Hp
  M : Hp
  H : Hp
structure At (K : PySem.W.Frag) (e : En) (g : Gm) (T : Tm) (l : List Res) (σ : St) (H F M : Hp) : Prop where
  exF : Ex F H
  exM : Ex M H
  dj : Dj F M
  eF : Ex e.F F
  nF : ∀ a o, F a = some o → e.F a = some o ∨ e.H a = none ∨ (∃ u, e.M a = some u) ∨ ∃ xs, o = .tup xs
  nM : ∀ a o, M a = some o → e.H a = none ∨ ∃ u, e.M a = some u
  fr : ∀ a o, e.H a = some o → e.M a = none → H a = some o
  sl : Sl K F g σ
  tm : T.P F
  rs : Rs l F M
def S (K : PySem.W.Frag) (e : En) (g : Gm) (T : Tm) (l : List Res) (σ : St) (H : Hp) : Prop := ∃ F M, At K e g T l σ H F M
/-- something new is frozen -/
structure New (F H F' H' : Hp) : Prop where
  f : Ex F F'
  h : Ex H H'
  i : Ex F' H'
  n : ∀ a o, F' a = some o → F a = some o ∨ H a = none ∨ ∃ xs, o = .tup xs
theorem New.rf {F H : Hp} (e : Ex F H) : New F H F H := ⟨.rf, .rf, e, fun _ _ h => .inl h⟩
theorem New.tr {F H F1 H1 F2 H2 : Hp} (a : New F H F1 H1) (b : New F1 H1 F2 H2) : New F H F2 H2 :=
  ⟨a.f.tr b.f, a.h.tr b.h, b.i, fun x o h => by
    rcases b.n x o h with q | q | q
    · exact a.n x o q
    · exact .inr (.inl (a.h.free q))
    · exact .inr (.inr q)⟩
theorem New.upd {F H : Hp} {p : Addr} {o : HO} (e : Ex F H) (h : H p = none) : New F H (upd F p o) (L2.upd H p o) :=
  ⟨.new (e.free h), .new h, e.upd2, fun a u q => by
    by_cases z : a = p
    · subst z; exact .inr (.inl h)
    · rw [upd_ne z] at q; exact .inl q⟩
section
variable {K : PySem.W.Frag} {e : En} {g g' : Gm} {T T' : Tm} {l l' : List Res} {σ σ' : St} {H H' F F' M M' : Hp}
theorem At.new (a : At K e g T l σ H F M) (n : New F H F' H') : At K e g T l σ H' F' M :=
  ⟨n.i, a.exM.tr n.h, fun x o h => by
    rcases n.n x o h with q | q | ⟨xs, q⟩
    · exact a.dj x o q
    · exact a.exM.free q
    · cases z : M x with
      | none => rfl
      | some u =>
        have e1 := n.h x u (a.exM x u z)
        rw [n.i x o h] at e1
        cases e1
        exact absurd (q ▸ z) (a.rs.nt x xs),
   a.eF.tr n.f, fun x o h => by
    rcases n.n x o h with q | q | q
    · exact a.nF x o q
    · by_cases z : e.M x = none
      · right; left
        cases w : e.H x with
        | none => rfl
        | some u => rw [a.fr x u w z] at q; cases q
      · right; right; left
        cases w : e.M x with
        | none => exact absurd w z
        | some u => exact ⟨u, rfl⟩
    · exact .inr (.inr (.inr q)),
   a.nM, fun x o h1 h2 => n.h x o (a.fr x o h1 h2), a.sl.mono n.f, T.mono n.f a.tm, a.rs.mono n.f⟩
theorem At.tmp (a : At K e g T l σ H F M) (h : T'.P F) : At K e g T' l σ H F M := ⟨a.exF, a.exM, a.dj, a.eF, a.nF, a.nM, a.fr, a.sl, h, a.rs⟩
theorem At.slots (a : At K e g T l σ H F M) (h : Sl K F g' σ') : At K e g' T l σ' H F M := ⟨a.exF, a.exM, a.dj, a.eF, a.nF, a.nM, a.fr, h, a.tm, a.rs⟩
theorem At.entry (ef : Ex F H) (em : Ex M H) (d : Dj F M) (s : Sl K F g σ) (t : T.P F) (r : Rs l F M) : At K ⟨F, M, H⟩ g T l σ H F M :=
  ⟨ef, em, d, .rf, fun _ _ h => .inl h, fun _ o h => .inr ⟨o, h⟩, fun _ _ h _ => h, s, t, r⟩
/-- a part of the state apart: what runs on F, A (of M = join A B) gives back the whole -/
theorem At.frame {A B : Hp} {lA lB : List Res} (a : At K e g T l σ H F (join A B)) (d : Dj A B) (rB : Rs lB F B) {g2 : Gm} {σ2 : St} {T2 : Tm} {F2 M2 : Hp} (b : At K ⟨F, A, H⟩ g2 T2 lA σ2 H' F2 M2) :
    At K e g T (lA ++ lB) σ H' F2 (join M2 B) := by
  have eB : Ex B H' := fun x o h => b.fr x o (a.exM x o (by rw [join_r (d.sym x o h)]; exact h)) (d.sym x o h)
  have dB : Dj M2 B := fun x o h => by
    cases q : B x with
    | none => rfl
    | some u =>
      rcases b.nM x o h with z | ⟨w, z⟩
      · have := a.exM x u (by rw [join_r (d.sym x u q)]; exact q)
        rw [show H x = none from z] at this; cases this
      · rw [d x w z] at q; cases q
  refine ⟨b.exF, b.exM.join eB, ?_, a.eF.tr b.eF, ?_, ?_, ?_, a.sl.mono b.eF, T.mono b.eF a.tm, Rs.app b.rs (rB.mono b.eF) dB⟩
  · intro x o h
    cases q : join M2 B x with
    | none => rfl
    | some u =>
      rcases join_some q with z | ⟨_, z⟩
      · rw [b.dj x o h] at z; cases z
      · rcases b.nF x o h with w | w | ⟨w, y⟩ | ⟨xs, w⟩
        · have := a.dj x o w
          rw [join_r (d.sym x u z), z] at this; cases this
        · have := a.exM x u (by rw [join_r (d.sym x u z)]; exact z)
          rw [show H x = none from w] at this; cases this
        · rw [d x w y] at z; cases z
        · have e1 := eB x u z
          rw [b.exF x o h] at e1
          cases e1
          exact absurd (join_r (A := A) (d.sym x o z) ▸ w ▸ z) (a.rs.nt x xs)
  · intro x o h
    rcases b.nF x o h with w | w | ⟨w, y⟩ | w
    · exact a.nF x o w
    · cases q : e.H x with
      | none => exact .inr (.inl rfl)
      | some u =>
        cases z : e.M x with
        | some y => exact .inr (.inr (.inl ⟨y, rfl⟩))
        | none =>
          have w' : H x = none := w
          rw [a.fr x u q z] at w'; cases w'
    · rcases a.nM x w (join_l y) with q | q
      · exact .inr (.inl q)
      · exact .inr (.inr (.inl q))
    · exact .inr (.inr (.inr w))
  · intro x o h
    rcases join_some h with z | ⟨_, z⟩
    · rcases b.nM x o z with w | ⟨w, y⟩
      · cases q : e.H x with
        | none => exact .inl rfl
        | some u =>
          cases k : e.M x with
          | some y => exact .inr ⟨y, rfl⟩
          | none =>
            have w' : H x = none := w
            rw [a.fr x u q k] at w'; cases w'
      · exact a.nM x w (join_l y)
    · exact a.nM x o (by rw [join_r (d.sym x o z)]; exact z)
  · intro x o h1 h2
    refine b.fr x o (a.fr x o h1 h2) ?_
    show A x = none
    cases q : A x with
    | none => rfl
    | some u =>
      rcases a.nM x u (join_l q) with z | ⟨w, z⟩
      · rw [h1] at z; cases z
      · rw [h2] at z; cases z
/-- the k-th one first -/
theorem perm_at {r : Res} : ∀ {l : List Res} {k : Nat}, l[k]? = some r → l.Perm (r :: l.eraseIdx k)
  | [], _, h => by simp at h
  | a :: l, 0, h => by simp at h; subst h; exact .refl _
  | a :: l, k + 1, h => by
    have ih := perm_at (l := l) (k := k) (by simpa using h)
    rw [List.eraseIdx_cons_succ]
    exact (ih.cons a).trans (.swap _ _ _)
/-- lk is a part of l -/
def SubR (l lk : List Res) : Prop := ∃ junk, l.Perm (lk ++ junk)
theorem subr0 {l : List Res} : SubR l [] := ⟨l, .refl _⟩
theorem subr1 {l : List Res} {r : Res} (k : Nat) (h : l[k]? = some r) : SubR l [r] := ⟨l.eraseIdx k, perm_at h⟩
theorem subr2 {l : List Res} {r r2 : Res} (k k2 : Nat) (h : l[k]? = some r) (h2 : (l.eraseIdx k)[k2]? = some r2) : SubR l [r, r2] := ⟨(l.eraseIdx k).eraseIdx k2, (perm_at h).trans ((perm_at h2).cons r)⟩
theorem Rs.permA {F : Hp} : ∀ {l k : List Res}, l.Perm k → ∀ {M : Hp}, Rs l F M → Rs k F M := by
  intro l k h
  induction h with
  | nil => exact fun h => h
  | cons x _ ih => exact fun ⟨A, B, h1, h2, h3, h4⟩ => ⟨A, B, h1, h2, h3, ih h4⟩
  | swap x y l =>
    rintro M ⟨A, B, h1, h2, h3, ⟨A', B', g1, g2, g3, g4⟩⟩
    subst g1; subst h1
    have dAA : Dj A A' := (Dj.l h2.sym).sym
    have dAB : Dj A B' := (Dj.r g2 h2.sym).sym
    exact ⟨A', join A B', by rw [← join_assoc, ← join_assoc, dAA.comm], (Dj.joinL dAA g2.sym).sym, g3, A, B', rfl, dAB, h3, g4⟩
  | trans _ _ h1 h2 => exact fun h => h2 (h1 h)
theorem Rs.sub {F M H : Hp} {l lk : List Res} (s : SubR l lk) (h : Rs l F M) (e : Ex M H) : ∃ M', Rs lk F M' ∧ Ex M' H := by
  obtain ⟨junk, p⟩ := s
  obtain ⟨A, B, rfl, _, h1, _⟩ := Rs.split (Rs.permA p h)
  exact ⟨A, h1, fun x o q => e x o (join_l q)⟩
theorem S.weak (s : S K e g T l σ H) (w : Wk g g') : S K e g' T l σ H := let ⟨F, M, a⟩ := s; ⟨F, M, a.slots (a.sl.weak w)⟩
end
end Sx
set_option Elab.async false
set_option linter.all false
set_option maxRecDepth 100000
set_option maxHeartbeats 2000000
/-! Judgements: expressions, tests, arguments, blocks over states. -/
namespace Sx
open PySem L2

/-! ### the weakest readings -/
def wpE (X : Cx) (e : Expr) : TE := fun σ H Q => ∀ pins s, Inv X pins σ H s → wpAny (model X.prog X.w) X.A (eval e X.env) (EP X pins σ Q) X.xe s
def wpT (X : Cx) (e : Expr) : TT := fun σ H Q => ∀ pins s, Inv X pins σ H s → wpAny (model X.prog X.w) X.A (isTrue e X.env (eval e X.env)) (TP X pins σ Q) X.xe s
def wpW (X : Cx) (e : Expr) : TT := fun σ H Q => ∀ whole pins s, Inv X pins σ H s → wpAny (model X.prog X.w) X.A (isTrue e X.env whole) (TP X pins σ Q) X.xe s
def wpA (X : Cx) (es : List Expr) : TA := fun σ H Q => ∀ pos pins s, Inv X pins σ H s → wpAny (model X.prog X.w) X.A (spliced (backTo pos (starEach es X.env))) (AP X pins σ Q) X.xe s
def wpS (X : Cx) (sts : List Stmt) : TS := fun D σ H => ∀ pins s, Inv X pins σ H s → wpAny (model X.prog X.w) X.A (execs sts X.env) (SP X pins D) X.xe s
section
variable {X : Cx} {σ : L2.St} {H : Hp}
theorem pe_wp {e : Expr} : PE X e (wpE X e) := ⟨fun pins s _ _ _ I h => h pins s I⟩
theorem pt_wp {e : Expr} : PT X e (wpT X e) := ⟨fun pins s _ _ _ I h => h pins s I⟩
theorem pw_wp {e : Expr} : PW X e (wpW X e) := ⟨fun whole pins s _ _ _ I h => h whole pins s I⟩
theorem pa_wp {es : List Expr} : PA X es (wpA X es) := ⟨fun pos pins s _ _ _ I h => h pos pins s I⟩
theorem pss_wp {sts : List Stmt} : PSs X sts (wpS X sts) := ⟨fun pins s _ _ _ I h => h pins s I⟩
theorem wpE_of {e : Expr} {t : TE} {Q : VK} (h : PE X e t) (q : t σ H Q) : wpE X e σ H Q := fun pins s I => h.run pins s σ H Q I q
theorem wpT_of {e : Expr} {t : TT} {Q : Bool → Hp → Prop} (h : PT X e t) (q : t σ H Q) : wpT X e σ H Q := fun pins s I => h.run pins s σ H Q I q
theorem wpW_of {e : Expr} {t : TT} {Q : Bool → Hp → Prop} (h : PW X e t) (q : t σ H Q) : wpW X e σ H Q := fun whole pins s I => h.run whole pins s σ H Q I q
theorem wpA_of {es : List Expr} {t : TA} {Q : List V → Hp → Prop} (h : PA X es t) (q : t σ H Q) : wpA X es σ H Q := fun pos pins s I => h.run pos pins s σ H Q I q
theorem wpS_of {sts : List Stmt} {t : TS} {D : Ends} (h : PSs X sts t) (q : t D σ H) : wpS X sts D σ H := fun pins s I => h.run pins s σ H D I q
end

/-! ### judgements -/
/-- e evaluates to the datum d, changing nothing that is owned -/
def Px (X : Cx) (e : Expr) (g : Gm) (l : List Res) (d : D) : Prop := ∀ en T σ H (Q : VK), S X.K en g T l σ H → (∀ v H', S X.K en g (T.and X.K v d) l σ H' → Q v H') → wpE X e σ H Q
/-- e evaluates to one of the data that Psi tells, with what is owned then -/
def Ev (X : Cx) (e : Expr) (g : Gm) (l : List Res) (Psi : D → List Res → Prop) : Prop := ∀ en T σ H (Q : VK), S X.K en g T l σ H → (∀ v d l' H', Psi d l' → S X.K en g (T.and X.K v d) l' σ H' → Q v H') → wpE X e σ H Q
def Pa (X : Cx) (es : List Expr) (g : Gm) (l : List Res) (ds : List D) : Prop := ∀ en T σ H (Q : List V → Hp → Prop), S X.K en g T l σ H → (∀ vs H', S X.K en g (T.ands X.K vs ds) l σ H' → Q vs H') → wpA X es σ H Q
def Ts (X : Cx) (e : Expr) (g : Gm) (l : List Res) (b : Bool) : Prop := ∀ en T σ H (Q : Bool → Hp → Prop), S X.K en g T l σ H → (∀ H', S X.K en g T l σ H' → Q b H') → wpT X e σ H Q
def Tw (X : Cx) (e : Expr) (g : Gm) (l : List Res) (b : Bool) : Prop := ∀ en T σ H (Q : Bool → Hp → Prop), S X.K en g T l σ H → (∀ H', S X.K en g T l σ H' → Q b H') → wpW X e σ H Q
/-- operations on values -/
def Op1 (K : PySem.W.Frag) (l : List Res) (r : V → Hp → VK → Prop) (a d : D) : Prop := ∀ F M H v (Q : VK), Ex F H → Ex M H → Dj F M → Rs l F M → Fd K F v a → (∀ v F' H', New F H F' H' → Fd K F' v d → Q v H') → r v H Q
def Op2 (K : PySem.W.Frag) (l : List Res) (r : R2) (a b d : D) : Prop := ∀ F M H v u (Q : VK), Ex F H → Ex M H → Dj F M → Rs l F M → Fd K F v a → Fd K F u b → (∀ v F' H', New F H F' H' → Fd K F' v d → Q v H') → r v u H Q
def OpN (K : PySem.W.Frag) (l : List Res) (r : List V → Hp → VK → Prop) (as : List D) (d : D) : Prop := ∀ F M H vs (Q : VK), Ex F H → Ex M H → Dj F M → Rs l F M → FdAll K F vs as → (∀ v F' H', New F H F' H' → Fd K F' v d → Q v H') → r vs H Q
def OpM (K : PySem.W.Frag) (l : List Res) (r : V → List V → Hp → VK → Prop) (a : D) (as : List D) (d : D) : Prop := ∀ F M H v vs (Q : VK), Ex F H → Ex M H → Dj F M → Rs l F M → Fd K F v a → FdAll K F vs as → (∀ v F' H', New F H F' H' → Fd K F' v d → Q v H') → r v vs H Q

/-- what is wanted behind a block -/
structure Po where
  nx : Gm → List Res → Prop
  rt : D → List Res → Prop
  bk : Gm → List Res → Prop := fun _ _ => False
  ct : Gm → List Res → Prop := fun _ _ => False
  ex : Value → Option Addr → Gm → List Res → Prop := fun _ _ _ _ => False
structure Mt (K : PySem.W.Frag) (W : L2.WX) (en : En) (T : Tm) (Φ : Po) (D : Ends) : Prop where
  nx : ∀ g l σ H, Φ.nx g l → S K en g T l σ H → D.nx σ H
  rt : ∀ d l v H, Φ.rt d l → S K en [] (T.and K v d) l [] H → D.rt v H
  bk : ∀ g l σ H, Φ.bk g l → S K en g T l σ H → D.bk σ H
  ct : ∀ g l σ H, Φ.ct g l → S K en g T l σ H → D.ct σ H
  ex : ∀ cls d g l σ H, Φ.ex cls d g l → S K en g T l σ H → W cls d σ H
def Blk (X : Cx) (W : WX) (sts : List Stmt) (g : Gm) (l : List Res) (Φ : Po) : Prop := ∀ en T σ H D, S X.K en g T l σ H → Mt X.K W en T Φ D → wpS X sts D σ H

section
variable {X : Cx} {W : WX} {g g' : Gm} {l l' : List Res} {Φ : Po} {e e2 a b c o : Expr} {es : List Expr} {d d1 d2 d3 : D} {pos p : Pos}

theorem S.drop {K : PySem.W.Frag} {en : En} {T : Tm} {σ : L2.St} {H : Hp} {v : V} {d : D} (s : S K en g (T.and K v d) l σ H) : S K en g T l σ H := let ⟨F, M, a⟩ := s; ⟨F, M, a.tmp a.tm.2⟩
theorem S.slotless {K : PySem.W.Frag} {en : En} {T : Tm} {σ : L2.St} {H : Hp} (s : S K en g T l σ H) : S K en [] T l [] H := let ⟨F, M, a⟩ := s; ⟨F, M, a.slots .nil⟩

/-! ### expressions -/
theorem px_var {i : Nat} (h : PE X e (tVar i)) (hd : nth g i = some d) : Px X e g l d := fun en T σ H Q s k => wpE_of h (by
  obtain ⟨F, M, a⟩ := s
  obtain ⟨v, h1, h2⟩ := a.sl.nth hd
  exact ⟨v, h1, k v H ⟨F, M, a.tmp ⟨h2, a.tm⟩⟩⟩)
theorem px_c {v : V} (h : PE X e (tC v)) (hd : ∀ F, Fd X.K F v d) : Px X e g l d := fun en T σ H Q s k => wpE_of h (by
  obtain ⟨F, M, a⟩ := s
  exact k v H ⟨F, M, a.tmp ⟨hd F, a.tm⟩⟩)
theorem px_int {i : Int} {j} : Px X (.Constant (.int i) j pos) g l (.int i) := px_c pe_int fun _ => .int _
theorem px_bl {b : Bool} {j} : Px X (.Constant (.bool b) j pos) g l (.bl b) := px_c pe_bl fun _ => .bl _
theorem px_non {j} : Px X (.Constant .none j pos) g l .non := px_c pe_non fun _ => .non
theorem px_str {x : Str} {j} : Px X (.Constant (.str x) j pos) g l (.str x) := px_c pe_str fun _ => .str _
theorem Px.to (h : Px X e g l d) (q : d = d1) : Px X e g l d1 := q ▸ h
theorem Px.ev (h : Px X e g l d) : Ev X e g l (fun d' l' => d' = d ∧ l' = l) := fun en T σ H Q s k => h en T σ H Q s fun v H' s' => k v d l H' ⟨rfl, rfl⟩ s'
theorem Ev.imp {Psi Chi : D → List Res → Prop} (h : Ev X e g l Psi) (i : ∀ d l', Psi d l' → Chi d l') : Ev X e g l Chi := fun en T σ H Q s k => h en T σ H Q s fun v d l' H' p s' => k v d l' H' (i _ _ p) s'
theorem Ev.px (h : Ev X e g l (fun d' l' => d' = d ∧ l' = l)) : Px X e g l d := fun en T σ H Q s k => h en T σ H Q s fun v d' l' H' p s' => k v H' (by obtain ⟨rfl, rfl⟩ := p; exact s')
theorem px_2 {r : R2} (he : PE X e2 (tOp r (wpE X a) (wpE X b))) (hr : Op2 X.K l r d1 d2 d) (ha : Px X a g l d1) (hb : Px X b g l d2) : Px X e2 g l d := fun en T σ H Q s k => wpE_of he (by
  refine ha en T σ H _ s fun v H1 s1 => ?_
  refine hb en _ σ H1 _ s1 fun u H2 s2 => ?_
  obtain ⟨F, M, q⟩ := s2
  exact hr F M H2 v u Q q.exF q.exM q.dj q.rs q.tm.2.1 q.tm.1 fun w F' H' n f => k w H' ⟨F', M, (q.new n).tmp ⟨f, T.mono n.f q.tm.2.2⟩⟩)
theorem px_op {op : Operator} {r : R2} (ho : OpR X (binaryOp op) r) (ha : Px X a g l d1) (hb : Px X b g l d2) (hr : Op2 X.K l r d1 d2 d) : Px X (.BinOp a op b pos) g l d := px_2 (pe_op ho pe_wp pe_wp) hr ha hb
theorem px_cmp {op : CmpOp} {r : R2} (ho : OpR X (compareOp op) r) (ha : Px X a g l d1) (hb : Px X b g l d2) (hr : Op2 X.K l r d1 d2 d) (hm : behindInMarks op b = false := by first | exact nomark _ | rfl) : Px X (.Compare a [op] [b] pos) g l d := px_2 (pe_cmpR ho pe_wp pe_wp hm) hr ha hb
theorem px_ix {r : R2} (hi : IxR X r) (ha : Px X a g l d1) (hb : Px X b g l d2) (hr : Op2 X.K l r d1 d2 d) (hs : PlainIx b := by intro _ _; rfl) : Px X (.Subscript a b pos) g l d := px_2 (pe_ix hi pe_wp pe_wp hs) hr ha hb
theorem px_chain {op op' : CmpOp} {r r' : R2} {k k' : Bool} (ho : OpR X (compareOp op) r) (ho' : OpR X (compareOp op') r') (ha : Px X a g l d1) (hb : Px X b g l d2) (hr : Op2 X.K l r d1 d2 (.bl k)) (hc : Px X c g l d3) (hr' : k = true → Op2 X.K l r' d2 d3 (.bl k'))
    (hm : lastMarks [op, op'] [b, c] = false := by with_unfolding_all rfl) : Px X (.Compare a [op, op'] [b, c] pos) g l (.bl (k && k')) := fun en T σ H Q s kk => wpE_of (pe_chain ho ho' pe_wp pe_wp pe_wp hm) (by
  refine ha en T σ H _ s fun v H1 s1 => ?_
  refine hb en _ σ H1 _ s1 fun u H2 s2 => ?_
  obtain ⟨F, M, q⟩ := s2
  refine hr F M H2 v u _ q.exF q.exM q.dj q.rs q.tm.2.1 q.tm.1 fun w F' H' n f => ?_
  cases f
  refine ⟨k, rfl, ?_⟩
  have q' := q.new n
  cases k with
  | false => exact kk _ H' ⟨F', M, q'.tmp ⟨.bl _, T.mono n.f q.tm.2.2⟩⟩
  | true =>
    show wpE X c σ H' _
    refine hc en _ σ H' _ ⟨F', M, q'⟩ fun w H3 s3 => ?_
    obtain ⟨F3, M3, q3⟩ := s3
    exact hr' rfl F3 M3 H3 u w Q q3.exF q3.exM q3.dj q3.rs q3.tm.2.1 q3.tm.1 fun w F' H' n f => kk w H' ⟨F', M3, (q3.new n).tmp ⟨f, T.mono n.f q3.tm.2.2.2⟩⟩)
/-- a new list, frozen; a new tuple -/
theorem px_lst {ds : List D} (h : Pa X es g l ds) (hz : ds.length ≤ sizeLine := by first | decide | exact Nat.le_of_ble_eq_true rfl) : Px X (.List es pos) g l (.lst ds) := fun en T σ H Q s k => wpE_of (pe_lst pa_wp) (by
  refine h en T σ H _ s fun vs H1 s1 => ?_
  obtain ⟨F, M, q⟩ := s1
  refine ⟨by rw [q.tm.1.length]; exact hz, fun p hp => ?_⟩
  have n := New.upd (o := .lst vs) q.exF hp
  exact k _ _ ⟨_, M, (q.new n).tmp ⟨.lst upd_same (FdAll.mono n.f _ q.tm.1), T.mono n.f q.tm.2⟩⟩)
theorem px_tup {ds : List D} {x1} (h : Pa X es g l ds) (hz : ds.length ≤ sizeLine := by first | decide | exact Nat.le_of_ble_eq_true rfl) : Px X (.Tuple es x1 pos) g l (.tup ds) := fun en T σ H Q s k => wpE_of (pe_tup pa_wp) (by
  refine h en T σ H _ s fun vs H1 s1 => ?_
  obtain ⟨F, M, q⟩ := s1
  refine ⟨by rw [q.tm.1.length]; exact hz, fun p hp => ?_⟩
  have n := New.upd (o := .tup vs) q.exF hp
  exact k _ _ ⟨_, M, (q.new n).tmp ⟨.tup (SqT.of upd_same) (FdAll.mono n.f _ q.tm.1), T.mono n.f q.tm.2⟩⟩)
theorem pa_n : Pa X [] g l [] := fun en T σ H Q s k => wpA_of pa_nil (by
  obtain ⟨F, M, a⟩ := s
  exact k [] H ⟨F, M, a.tmp ⟨.nil, a.tm⟩⟩)
theorem pa_c {ds : List D} (he : Px X e g l d) (h : Pa X es g l ds) (hs : starEach (e :: es) X.env = (false, eval e X.env) :: starEach es X.env := by rfl) : Pa X (e :: es) g l (d :: ds) := fun en T σ H Q s k => wpA_of (pa_cons pe_wp pa_wp hs) (by
  refine he en T σ H _ s fun v H1 s1 => ?_
  refine h en _ σ H1 _ s1 fun vs H2 s2 => ?_
  obtain ⟨F, M, a⟩ := s2
  exact k _ H2 ⟨F, M, a.tmp ⟨.cons a.tm.2.1 a.tm.1, a.tm.2.2⟩⟩)
theorem px_and {rest : List Expr} {k k' : Bool} (ha : Px X a g l (.bl k)) (hb : k = true → Px X (.BoolOp .And (b :: rest) pos) g l (.bl k')) : Px X (.BoolOp .And (a :: b :: rest) pos) g l (.bl (k && k')) := fun en T σ H Q s kk => wpE_of (pe_and pe_wp pe_wp) (by
  refine ha en T σ H _ s fun v H1 s1 => ?_
  obtain ⟨F, M, q⟩ := s1
  have f := q.tm.1
  cases f
  refine ⟨k, rfl, ?_⟩
  cases k with
  | true => exact hb rfl en T σ H1 Q ⟨F, M, q.tmp q.tm.2⟩ kk
  | false => exact kk _ H1 ⟨F, M, q⟩)
theorem px_one {op} (h : Px X a g l d) : Px X (.BoolOp op [a] pos) g l d := fun en T σ H Q s k => wpE_of (pe_one pe_wp) (h en T σ H Q s k)
theorem px_not {k : Bool} (h : Px X a g l (.bl k)) : Px X (.UnaryOp .Not a pos) g l (.bl (!k)) := fun en T σ H Q s kk => wpE_of (pe_not pe_wp) (by
  refine h en T σ H _ s fun v H1 s1 => ?_
  obtain ⟨F, M, q⟩ := s1
  have f := q.tm.1
  cases f
  exact ⟨k, rfl, kk _ H1 ⟨F, M, q.tmp ⟨.bl _, q.tm.2⟩⟩⟩)
/-- an attribute of a frozen instance -/
theorem px_fld {C : Addr} {fs : List (Str × D)} {f : Str} (ho : Px X o g l (.ins C fs)) (hc : Cls X.K C) (hn : NoAttr X.K C f) (hl : fs.lookup f = some d) (hb : attributeBase o f X.env (eval o X.env) = eval o X.env := by rfl) : Px X (.Attribute o f pos) g l d := fun en T σ H Q s k => wpE_of (pe_fld pe_wp hb) (by
  refine ho en T σ H _ s fun v H1 s1 => ?_
  obtain ⟨F, M, q⟩ := s1
  obtain ⟨hf, ht⟩ := q.tm
  cases hf with
  | ins h1 h2 =>
    obtain ⟨v, e1, e2⟩ := h2.look hl
    exact ⟨_, C, _, _, v, rfl, q.exF _ _ h1, hc, hn, e1, k v H1 ⟨F, M, q.tmp ⟨e2, ht⟩⟩⟩)
/-! ### calls of what is built in -/
theorem px_b {r : List V → Hp → VK → Prop} {ds : List D} (he : PE X e2 (tCB r (wpA X es))) (hr : OpN X.K l r ds d) (ha : Pa X es g l ds) : Px X e2 g l d := fun en T σ H Q s k => wpE_of he (by
  refine ha en T σ H _ s fun vs H1 s1 => ?_
  obtain ⟨F, M, q⟩ := s1
  exact hr F M H1 vs Q q.exF q.exM q.dj q.rs q.tm.1 fun u F' H' n f => k u H' ⟨F', M, (q.new n).tmp ⟨f, T.mono n.f q.tm.2⟩⟩)
/-! ### tests -/
theorem ts_val {k : Bool} (h : Px X e g l (.bl k)) (he : ∀ whole, isTrue e X.env whole = (do let v ← whole; standAt e.pos; holding [v] (truthy v)) := by intro _; rfl) : Ts X e g l k := fun en T σ H Q s kk => wpT_of (pt_val pe_wp he) (by
  refine h en T σ H _ s fun v H1 s1 => ?_
  obtain ⟨F, M, q⟩ := s1
  have f := q.tm.1
  cases f
  exact ⟨k, rfl, kk H1 ⟨F, M, q.tmp q.tm.2⟩⟩)
theorem ts_cmp {op : CmpOp} {r : R2} {k : Bool} (ho : OpR X (compareOp op) r) (ha : Px X a g l d1) (hb : Px X b g l d2) (hr : Op2 X.K l r d1 d2 (.bl k)) (hm : behindInMarks op b = false := by first | exact nomark _ | rfl) : Ts X (.Compare a [op] [b] pos) g l k := fun en T σ H Q s kk => wpT_of (pt_cmpR ho pe_wp pe_wp hm) (by
  refine ha en T σ H _ s fun v H1 s1 => ?_
  refine hb en _ σ H1 _ s1 fun u H2 s2 => ?_
  obtain ⟨F, M, q⟩ := s2
  refine hr F M H2 v u _ q.exF q.exM q.dj q.rs q.tm.2.1 q.tm.1 fun w F' H' n f => ?_
  cases f
  exact ⟨k, rfl, kk H' ⟨F', M, (q.new n).tmp (T.mono n.f q.tm.2.2)⟩⟩)
theorem ts_chain {op op' : CmpOp} {r r' : R2} {k k' : Bool} (ho : OpR X (compareOp op) r) (ho' : OpR X (compareOp op') r') (ha : Px X a g l d1) (hb : Px X b g l d2) (hr : Op2 X.K l r d1 d2 (.bl k)) (hc : Px X c g l d3) (hr' : k = true → Op2 X.K l r' d2 d3 (.bl k'))
    (hm : lastMarks [op, op'] [b, c] = false := by with_unfolding_all rfl) : Ts X (.Compare a [op, op'] [b, c] pos) g l (k && k') := fun en T σ H Q s kk => wpT_of (pt_chain ho ho' pe_wp pe_wp pe_wp hm) (by
  refine ha en T σ H _ s fun v H1 s1 => ?_
  refine hb en _ σ H1 _ s1 fun u H2 s2 => ?_
  obtain ⟨F, M, q⟩ := s2
  refine hr F M H2 v u _ q.exF q.exM q.dj q.rs q.tm.2.1 q.tm.1 fun w F' H' n f => ?_
  cases f
  refine ⟨k, rfl, ?_⟩
  have q' := q.new n
  cases k with
  | false => exact ⟨false, rfl, kk H' ⟨F', M, q'.tmp (T.mono n.f q.tm.2.2)⟩⟩
  | true =>
    show wpE X c σ H' _
    refine hc en _ σ H' _ ⟨F', M, q'⟩ fun w H3 s3 => ?_
    obtain ⟨F3, M3, q3⟩ := s3
    refine hr' rfl F3 M3 H3 u w _ q3.exF q3.exM q3.dj q3.rs q3.tm.2.1 q3.tm.1 fun w F' H' n f => ?_
    cases f
    exact ⟨k', rfl, kk H' ⟨F', M3, (q3.new n).tmp (T.mono n.f q3.tm.2.2.2)⟩⟩)
theorem ts_not {k : Bool} (h : Ts X a g l k) : Ts X (.UnaryOp .Not a pos) g l (!k) := fun en T σ H Q s kk => wpT_of (pt_not pt_wp) (h en T σ H _ s kk)
theorem tw_and1 {k : Bool} (h : Ts X a g l k) : Tw X (.BoolOp .And [a] pos) g l k := fun en T σ H Q s kk => wpW_of (pw_and1 pt_wp) (h en T σ H _ s kk)
theorem tw_or1 {k : Bool} (h : Ts X a g l k) : Tw X (.BoolOp .Or [a] pos) g l k := fun en T σ H Q s kk => wpW_of (pw_or1 pt_wp) (h en T σ H _ s kk)
theorem tw_and {rest : List Expr} {k k' : Bool} (ha : Ts X a g l k) (hb : k = true → Tw X (.BoolOp .And (b :: rest) pos) g l k') : Tw X (.BoolOp .And (a :: b :: rest) pos) g l (k && k') := fun en T σ H Q s kk => wpW_of (pw_and pt_wp pw_wp) (by
  refine ha en T σ H _ s fun H1 s1 => ?_
  cases k with
  | true => exact hb rfl en T σ H1 _ s1 kk
  | false => exact kk H1 s1)
theorem tw_or {rest : List Expr} {k k' : Bool} (ha : Ts X a g l k) (hb : k = false → Tw X (.BoolOp .Or (b :: rest) pos) g l k') : Tw X (.BoolOp .Or (a :: b :: rest) pos) g l (k || k') := fun en T σ H Q s kk => wpW_of (pw_or pt_wp pw_wp) (by
  refine ha en T σ H _ s fun H1 s1 => ?_
  cases k with
  | false => exact hb rfl en T σ H1 _ s1 kk
  | true => exact kk H1 s1)
theorem ts_w {k : Bool} (h : Tw X e g l k) : Ts X e g l k := fun en T σ H Q s kk => wpT_of (pw_wp).pt (h en T σ H _ s kk)
theorem Ts.to {k k' : Bool} (h : Ts X e g l k) (q : k = k') : Ts X e g l k' := q ▸ h

/-! ### blocks -/
theorem Blk.imp {Ψ : Po} {sts : List Stmt} (h : Blk X W sts g l Φ) (n : ∀ g l, Φ.nx g l → Ψ.nx g l) (r : ∀ d l, Φ.rt d l → Ψ.rt d l) (b : ∀ g l, Φ.bk g l → Ψ.bk g l) (c : ∀ g l, Φ.ct g l → Ψ.ct g l) (x : ∀ c d g l, Φ.ex c d g l → Ψ.ex c d g l) : Blk X W sts g l Ψ := fun en T σ H D s m =>
  h en T σ H D s ⟨fun g l σ H p => m.nx g l σ H (n _ _ p), fun d l v H p => m.rt d l v H (r _ _ p), fun g l σ H p => m.bk g l σ H (b _ _ p), fun g l σ H p => m.ct g l σ H (c _ _ p), fun c d g l σ H p => m.ex c d g l σ H (x _ _ _ _ p)⟩
theorem Blk.weak {sts : List Stmt} (w : Wk g g') (h : Blk X W sts g' l Φ) : Blk X W sts g l Φ := fun en T σ H D s m => h en T σ H D (s.weak w) m
theorem blk_nil (h : Φ.nx g l) : Blk X W [] g l Φ := fun en T σ H D s m => wpS_of pss_nil (m.nx g l σ H h s)
variable {rest : List Stmt}
theorem blk_ret (he : Px X e g l d) (h : Φ.rt d l) : Blk X W (.Return (some e) pos :: rest) g l Φ := fun en T σ H D s m => wpS_of (pss_cons (ps_ret pe_wp) pss_wp) (he en T σ H _ s fun v H' s' => m.rt d l v H' h s'.slotless)
theorem blk_retX {Psi : D → List Res → Prop} (he : Ev X e g l Psi) (h : ∀ d l', Psi d l' → Φ.rt d l') : Blk X W (.Return (some e) pos :: rest) g l Φ := fun en T σ H D s m => wpS_of (pss_cons (ps_ret pe_wp) pss_wp) (he en T σ H _ s fun v d l' H' p s' => m.rt d l' v H' (h d l' p) s'.slotless)
theorem Mt.seq {K : PySem.W.Frag} {en : En} {T : Tm} {D : Ends} (m : Mt K W en T Φ D) {nx : Gm → List Res → Prop} {n : St → Hp → Prop} (h : ∀ g l σ H, nx g l → S K en g T l σ H → n σ H) : Mt K W en T { Φ with nx := nx } { D with nx := n } := ⟨h, m.rt, m.bk, m.ct, m.ex⟩
theorem blk_if {k : Bool} {A B : List Stmt} (hc : Ts X c g l k) (h1 : k = true → Blk X W A g l { Φ with nx := fun g' l' => Blk X W rest g' l' Φ }) (h2 : k = false → Blk X W B g l { Φ with nx := fun g' l' => Blk X W rest g' l' Φ }) : Blk X W (.If c A B pos :: rest) g l Φ := fun en T σ H D s m =>
  wpS_of (pss_cons (ps_if pt_wp pss_wp pss_wp) pss_wp) (by
    refine hc en T σ H _ s fun H1 s1 => ?_
    have mm : Mt X.K W en T { Φ with nx := fun g' l' => Blk X W rest g' l' Φ } { D with nx := wpS X rest D } := m.seq fun g' l' σ' H' p s' => p en T σ' H' D s' m
    cases k with
    | true => exact h1 rfl en T σ H1 _ s1 mm
    | false => exact h2 rfl en T σ H1 _ s1 mm)
/-- .. the ways meet at Mid -/
theorem blk_ifJ {k : Bool} {A B : List Stmt} (Mid : Gm → List Res → Prop) (hc : Ts X c g l k) (h1 : k = true → Blk X W A g l { Φ with nx := Mid }) (h2 : k = false → Blk X W B g l { Φ with nx := Mid }) (hm : ∀ g' l', Mid g' l' → Blk X W rest g' l' Φ) : Blk X W (.If c A B pos :: rest) g l Φ :=
  blk_if hc (fun e => (h1 e).imp (fun g' l' p => hm g' l' p) (fun _ _ p => p) (fun _ _ p => p) (fun _ _ p => p) (fun _ _ _ _ p => p)) (fun e => (h2 e).imp (fun g' l' p => hm g' l' p) (fun _ _ p => p) (fun _ _ p => p) (fun _ _ p => p) (fun _ _ _ _ p => p))
theorem blk_expr {Psi : D → List Res → Prop} (he : Ev X e g l Psi) (h : ∀ d l', Psi d l' → Blk X W rest g l' Φ) (hs : swapsWith e none pos.line X.env = pure false := by rfl) : Blk X W (.Expr e pos :: rest) g l Φ := fun en T σ H D s m => wpS_of (pss_cons (ps_expr pe_wp hs) pss_wp) (he en T σ H _ s fun v d l' H' p s' => h d l' p en T σ H' D s'.drop m)
theorem blk_set {i : Nat} {x : Str} {pos' : Pos} (hN : X.N.Nodup) (hi : X.N[i]? = some x) (hx : Loc X.env.scope x) (he : Px X e g l d) (h : Blk X W rest (g.set i (some d)) l Φ) (hs : swapsWith e (some (.Name x pos')) pos.line X.env = pure false := by rfl) (hf : X.fn x = true ∨ X.env.scope.names.lookup x = some .local := by first | exact .inl rfl | exact .inr rfl | assumption) :
    Blk X W (.Assign [.Name x pos'] e pos :: rest) g l Φ := fun en T σ H D s m => wpS_of (pss_cons (ps_set hN hi hx pe_wp hs hf) pss_wp) (he en T σ H _ s fun v H' s' => by
      obtain ⟨F, M, a⟩ := s'
      exact h en T (σ.set i (some v)) H' D ⟨F, M, (a.tmp a.tm.2).slots (a.sl.set i a.tm.1)⟩ m)
theorem blk_setX {Psi : D → List Res → Prop} {i : Nat} {x : Str} {pos' : Pos} (hN : X.N.Nodup) (hi : X.N[i]? = some x) (hx : Loc X.env.scope x) (he : Ev X e g l Psi) (h : ∀ d l', Psi d l' → Blk X W rest (g.set i (some d)) l' Φ) (hs : swapsWith e (some (.Name x pos')) pos.line X.env = pure false := by rfl) (hf : X.fn x = true ∨ X.env.scope.names.lookup x = some .local := by first | exact .inl rfl | exact .inr rfl | assumption) :
    Blk X W (.Assign [.Name x pos'] e pos :: rest) g l Φ := fun en T σ H D s m => wpS_of (pss_cons (ps_set hN hi hx pe_wp hs hf) pss_wp) (he en T σ H _ s fun v d l' H' p s' => by
      obtain ⟨F, M, a⟩ := s'
      exact h d l' p en T (σ.set i (some v)) H' D ⟨F, M, (a.tmp a.tm.2).slots (a.sl.set i a.tm.1)⟩ m)
end

/-! ### owned lists, instances -/
def ownL (K : PySem.W.Frag) (p : Addr) (ds : List D) : Res := ⟨fun F M => ∃ vs, FdAll K F vs ds ∧ M = one p (.lst vs), fun e ⟨vs, h, m⟩ => ⟨vs, FdAll.mono e _ h, m⟩, fun ⟨_, _, m⟩ x xs e => by rw [m] at e; obtain ⟨_, e⟩ := one_some e; cases e⟩
def ownI (K : PySem.W.Frag) (p C : Addr) (fs : List (Str × D)) : Res := ⟨fun F M => ∃ vs dx, dx ≠ p ∧ FdFs K F vs fs ∧ M = join (one p (.ins C dx vs)) (one dx (.own p)), fun e ⟨vs, dx, n, h, m⟩ => ⟨vs, dx, n, FdFs.mono e _ h, m⟩, fun ⟨_, _, _, _, m⟩ x xs e => by
  rw [m] at e
  rcases join_some e with e | ⟨_, e⟩
  · obtain ⟨_, e⟩ := one_some e; cases e
  · obtain ⟨_, e⟩ := one_some e; cases e⟩
section
variable {K : PySem.W.Frag} {F H M : Hp} {l : List Res}
theorem Rs.own {k : Nat} {p : Addr} {ds : List D} (h : Rs l F M) (e : l[k]? = some (ownL K p ds)) (m : Ex M H) : ∃ vs, FdAll K F vs ds ∧ H p = some (.lst vs) := by
  obtain ⟨A, B, rfl, dj, ⟨vs, f, rfl⟩, _⟩ := Rs.at e h
  exact ⟨vs, f, m p _ (join_l one_same)⟩
theorem Rs.ins {k : Nat} {p C : Addr} {fs : List (Str × D)} (h : Rs l F M) (e : l[k]? = some (ownI K p C fs)) (m : Ex M H) : ∃ dx vs, FdFs K F vs fs ∧ H p = some (.ins C dx vs) := by
  obtain ⟨A, B, rfl, dj, ⟨vs, dx, n, f, rfl⟩, _⟩ := Rs.at e h
  exact ⟨dx, vs, f, m p _ (join_l (join_l one_same))⟩
variable {en : En} {g : Gm} {T : Tm} {σ : L2.St}
/-- an owned list is written -/
theorem At.putL {k : Nat} {p : Addr} {ds ds' : List D} {vs' : List V} (a : At K en g T l σ H F M) (e : l[k]? = some (ownL K p ds)) (f : FdAll K F vs' ds') : ∃ M', At K en g T (l.set k (ownL K p ds')) σ (upd H p (.lst vs')) F M' := by
  obtain ⟨A, B, rfl, dj, ⟨vs, f0, rfl⟩, put⟩ := Rs.at e a.rs
  have hp : H p = some (.lst vs) := a.exM p _ (join_l one_same)
  have hF : F p = none := a.dj.sym p (.lst vs) (join_l one_same)
  have dB : ∀ u, Dj (one p u) B := fun u x o h => by
    obtain ⟨rfl, _⟩ := one_some h
    exact dj x _ one_same
  have hB : B p = none := dj p _ one_same
  have pM : en.H p = none ∨ ∃ u, en.M p = some u := a.nM p _ (join_l one_same)
  refine ⟨join (one p (.lst vs')) B, a.exF.mut hF, ?_, ?_, a.eF, a.nF, ?_, ?_, a.sl, a.tm, put _ _ F .rf ⟨vs', f, rfl⟩ (dB _)⟩
  · intro x o h
    rcases join_some h with q | ⟨n, q⟩
    · obtain ⟨rfl, rfl⟩ := one_some q
      exact upd_same
    · have ne : x ≠ p := fun z => by rw [z, hB] at q; cases q
      rw [upd_ne ne]
      exact a.exM x o (by rw [join_r (one_ne ne)]; exact q)
  · intro x o h
    have ne : x ≠ p := fun z => by rw [z, hF] at h; cases h
    have := a.dj x o h
    rw [join_r (one_ne ne)] at this ⊢
    exact this
  · intro x o h
    rcases join_some h with q | ⟨n, q⟩
    · obtain ⟨rfl, rfl⟩ := one_some q
      exact pM
    · have ne : x ≠ p := fun z => by rw [z, hB] at q; cases q
      exact a.nM x o (by rw [join_r (one_ne ne)]; exact q)
  · intro x o h1 h2
    have ne : x ≠ p := fun z => by
      subst z
      rcases pM with q | ⟨u, q⟩
      · rw [h1] at q; cases q
      · rw [h2] at q; cases q
    rw [upd_ne ne]
    exact a.fr x o h1 h2
/-- an owned instance's attribute is written -/
theorem At.putI {k : Nat} {p C dx : Addr} {fs fs' : List (Str × D)} {vs vs' : List (Str × V)} (a : At K en g T l σ H F M) (e : l[k]? = some (ownI K p C fs)) (hp : H p = some (.ins C dx vs)) (f : FdFs K F vs' fs') : ∃ M', At K en g T (l.set k (ownI K p C fs')) σ (upd H p (.ins C dx vs')) F M' := by
  obtain ⟨A, B, rfl, dj, ⟨vs0, dx0, nd, f0, rfl⟩, put⟩ := Rs.at e a.rs
  have hp0 : H p = some (.ins C dx0 vs0) := a.exM p _ (join_l (join_l one_same))
  rw [hp] at hp0
  obtain ⟨rfl, rfl⟩ : dx = dx0 ∧ vs = vs0 := by injection hp0 with z; injection z with z1 z2 z3; exact ⟨z2, z3⟩
  have hF : F p = none := a.dj.sym p _ (join_l (join_l one_same))
  have dB : ∀ u, Dj (join (one p u) (one dx (.own p))) B := fun u x o h => by
    rcases join_some h with q | ⟨_, q⟩
    · obtain ⟨rfl, _⟩ := one_some q
      exact dj x _ (join_l one_same)
    · obtain ⟨rfl, _⟩ := one_some q
      exact dj x _ (by rw [join_r (one_ne nd)]; exact one_same)
  have hB : B p = none := dj p _ (join_l one_same)
  have pM : en.H p = none ∨ ∃ u, en.M p = some u := a.nM p _ (join_l (join_l one_same))
  refine ⟨join (join (one p (.ins C dx vs')) (one dx (.own p))) B, a.exF.mut hF, ?_, ?_, a.eF, a.nF, ?_, ?_, a.sl, a.tm, put _ _ F .rf ⟨vs', dx, nd, f, rfl⟩ (dB _)⟩
  · intro x o h
    rcases join_some h with q | ⟨n, q⟩
    · rcases join_some q with q | ⟨n, q⟩
      · obtain ⟨rfl, rfl⟩ := one_some q
        exact upd_same
      · obtain ⟨rfl, rfl⟩ := one_some q
        rw [upd_ne nd]
        exact a.exM x _ (join_l (by rw [join_r (one_ne nd)]; exact one_same))
    · have ne : x ≠ p := fun z => by rw [z, hB] at q; cases q
      rw [upd_ne ne]
      have nx : x ≠ dx := fun z => by
        rw [z, join_r (one_ne nd), one_same] at n; cases n
      exact a.exM x o (by rw [join_r (by rw [join_r (one_ne ne)]; exact one_ne nx)]; exact q)
  · intro x o h
    have ne : x ≠ p := fun z => by rw [z, hF] at h; cases h
    have := a.dj x o h
    obtain ⟨q1, q2⟩ := join_none this
    obtain ⟨q3, q4⟩ := join_none q1
    rw [join_r (by rw [join_r (one_ne ne)]; exact q4)]
    exact q2
  · intro x o h
    rcases join_some h with q | ⟨n, q⟩
    · rcases join_some q with q | ⟨n, q⟩
      · obtain ⟨rfl, rfl⟩ := one_some q
        exact pM
      · obtain ⟨rfl, rfl⟩ := one_some q
        exact a.nM x (.own p) (join_l (by rw [join_r (one_ne nd)]; exact one_same))
    · have ne : x ≠ p := fun z => by rw [z, hB] at q; cases q
      have nx : x ≠ dx := fun z => by
        rw [z, join_r (one_ne nd), one_same] at n; cases n
      exact a.nM x o (by rw [join_r (by rw [join_r (one_ne ne)]; exact one_ne nx)]; exact q)
  · intro x o h1 h2
    have ne : x ≠ p := fun z => by
      subst z
      rcases pM with q | ⟨u, q⟩
      · rw [h1] at q; cases q
      · rw [h2] at q; cases q
    rw [upd_ne ne]
    exact a.fr x o h1 h2
/-- something new, owned -/
theorem At.newO {r : Res} {A H' : Hp} (a : At K en g T l σ H F M) (h : Ex H H') (hA : Ex A H') (n : ∀ x o, A x = some o → H x = none) (p : r.P F A) : At K en g T (r :: l) σ H' F (join A M) := by
  have dA : Dj A M := fun x o q => by
    cases z : M x with
    | none => rfl
    | some u => have := a.exM x u z; rw [n x o q] at this; cases this
  refine ⟨a.exF.tr h, hA.join (a.exM.tr h), fun x o q => ?_, a.eF, a.nF, fun x o q => ?_, fun x o h1 h2 => h x o (a.fr x o h1 h2), a.sl, a.tm, ⟨A, M, rfl, dA, p, a.rs⟩⟩
  · cases z : join A M x with
    | none => rfl
    | some u =>
      rcases join_some z with y | ⟨_, y⟩
      · have := a.exF x o q; rw [n x u y] at this; cases this
      · rw [a.dj x o q] at y; cases y
  · rcases join_some q with y | ⟨_, y⟩
    · cases w : en.H x with
      | none => exact .inl rfl
      | some u =>
        cases z : en.M x with
        | some y => exact .inr ⟨y, rfl⟩
        | none => have := a.fr x u w z; rw [n x o y] at this; cases this
    · exact a.nM x o y
/-- what is owned at the front is frozen -/
theorem At.frz {r : Res} {P : Hp → Prop} (a : At K en g T (r :: l) σ H F M) (f : ∀ A, r.P F A → P (join F A)) : ∃ F' M', At K en g T l σ H F' M' ∧ P F' ∧ Ex F F' := by
  obtain ⟨A, B, rfl, dj, p, rs⟩ := a.rs
  have dF : Dj F A := fun x o h => (join_none (a.dj x o h)).1
  have eF : Ex F (join F A) := fun x o h => join_l h
  refine ⟨join F A, B, ⟨a.exF.join a.exM.joinL, a.exM.joinR dj, ?_, a.eF.tr eF, ?_, fun x o h => a.nM x o (by rw [join_r (dj.sym x o h)]; exact h), a.fr, a.sl.mono eF, T.mono eF a.tm, rs.mono eF⟩, f A p, eF⟩
  · intro x o h
    rcases join_some h with q | ⟨_, q⟩
    · exact (join_none (a.dj x o q)).2
    · exact dj x o q
  · intro x o h
    rcases join_some h with q | ⟨_, q⟩
    · exact a.nF x o q
    · rcases a.nM x o (join_l q) with z | z
      · exact .inr (.inl z)
      · exact .inr (.inr (.inl z))
theorem Rs.perm {F : Hp} : ∀ {l k : List Res}, l.Perm k → ∀ {M : Hp}, Rs l F M → Rs k F M := by
  intro l k h
  induction h with
  | nil => exact fun h => h
  | cons x _ ih => exact fun ⟨A, B, h1, h2, h3, h4⟩ => ⟨A, B, h1, h2, h3, ih h4⟩
  | swap x y l =>
    rintro M ⟨A, B, h1, h2, h3, ⟨A', B', g1, g2, g3, g4⟩⟩
    subst g1; subst h1
    have dAA : Dj A A' := (Dj.l h2.sym).sym
    have dAB : Dj A B' := (Dj.r g2 h2.sym).sym
    exact ⟨A', join A B', by rw [← join_assoc, ← join_assoc, dAA.comm], (Dj.joinL dAA g2.sym).sym, g3, A, B', rfl, dAB, h3, g4⟩
  | trans _ _ h1 h2 => exact fun h => h2 (h1 h)
theorem S.perm {l' : List Res} (h : l.Perm l') (s : S K en g T l σ H) : S K en g T l' σ H := let ⟨F, M, a⟩ := s; ⟨F, M, a.exF, a.exM, a.dj, a.eF, a.nF, a.nM, a.fr, a.sl, a.tm, a.rs.perm h⟩
end

section
variable {X : Cx} {W : WX} {g g' : Gm} {l l' : List Res} {Φ : Po} {e a b c o : Expr} {es : List Expr} {d d1 d2 d3 : D} {pos p : Pos} {rest : List Stmt}
theorem Blk.perm {sts : List Stmt} (h : l.Perm l') (k : Blk X W sts g l' Φ) : Blk X W sts g l Φ := fun en T σ H D s m => k en T σ H D (s.perm h) m
/-- a new list, owned -/
theorem ev_lst {ds : List D} (h : Pa X es g l ds) (hz : ds.length ≤ sizeLine := by first | decide | exact Nat.le_of_ble_eq_true rfl) : Ev X (.List es pos) g l (fun d' l' => ∃ p, d' = .adr p ∧ l' = ownL X.K p ds :: l) := fun en T σ H Q s k => wpE_of (pe_lst pa_wp) (by
  refine h en T σ H _ s fun vs H1 s1 => ?_
  obtain ⟨F, M, q⟩ := s1
  refine ⟨by rw [q.tm.1.length]; exact hz, fun p hp => ?_⟩
  have q2 := q.tmp (T' := T) q.tm.2
  have q3 := q2.newO (r := ownL X.K p ds) (A := one p (.lst vs)) (H' := upd H1 p (.lst vs)) (.new hp) (fun x o z => by obtain ⟨rfl, rfl⟩ := one_some z; exact upd_same) (fun x o z => by obtain ⟨rfl, rfl⟩ := one_some z; exact hp) ⟨vs, q.tm.1, rfl⟩
  exact k _ (.adr p) _ _ ⟨p, rfl, rfl⟩ ⟨F, _, q3.tmp ⟨.adr p, q.tm.2⟩⟩)
/-- a list just made is frozen -/
theorem Ev.frz {ds : List D} (h : Ev X e g l (fun d' l' => ∃ p, d' = .adr p ∧ l' = ownL X.K p ds :: l)) : Px X e g l (.lst ds) := fun en T σ H Q s k => h en T σ H Q s fun v d l' H' p s' => by
  obtain ⟨p, rfl, rfl⟩ := p
  obtain ⟨F, M, q⟩ := s'
  have hv := q.tm.1
  cases hv
  obtain ⟨F', M', q', f, _⟩ := q.frz (P := fun F' => Fd X.K F' (.ref p) (.lst ds)) fun A hA => by
    obtain ⟨vs, f, rfl⟩ := hA
    have hF : F p = none := by
      obtain ⟨A, B, rfl, _, ⟨_, _, rfl⟩, _⟩ := q.rs
      exact q.dj.sym p _ (join_l one_same)
    exact .lst (by rw [join_r hF]; exact one_same) (FdAll.mono (fun x o h => join_l h) _ f)
  exact k _ H' ⟨F', M', q'.tmp ⟨f, q'.tm.2⟩⟩
/-- a slot's owned list (at the front) is frozen -/
theorem Blk.frz {sts : List Stmt} {p : Addr} {ds : List D} {i : Nat} (hi : nth g i = some (.adr p)) (k : Blk X W sts (g.set i (some (.lst ds))) l Φ) : Blk X W sts g (ownL X.K p ds :: l) Φ := fun en T σ H D s m => by
  obtain ⟨F, M, q⟩ := s
  obtain ⟨v, hv, fv⟩ := q.sl.nth hi
  cases fv
  obtain ⟨F', M', q', f, _⟩ := q.frz (P := fun F' => Fd X.K F' (.ref p) (.lst ds)) fun A hA => by
    obtain ⟨vs, f, rfl⟩ := hA
    have hF : F p = none := by
      obtain ⟨A, B, rfl, _, ⟨_, _, rfl⟩, _⟩ := q.rs
      exact q.dj.sym p _ (join_l one_same)
    exact .lst (by rw [join_r hF]; exact one_same) (FdAll.mono (fun x o h => join_l h) _ f)
  refine k en T σ H D ⟨F', M', q'.slots ?_⟩ m
  have w := q'.sl.set i f
  have e : σ.set i (some (.ref p)) = σ := by
    apply List.ext_getElem?
    intro j
    by_cases z : j = i
    · subst z
      obtain ⟨h1, h2⟩ := List.getElem?_eq_some_iff.mp hv
      rw [List.getElem?_set_self h1, hv]
    · rw [List.getElem?_set_ne (Ne.symm z)]
  rw [e] at w
  exact w
/-- x.append(e), x an owned list -/
theorem blk_app {k : Nat} {p : Addr} {ds : List D} {apos cpos : Pos} (ho : Px X o g l (.adr p)) (he : Px X e g l d) (hk : l[k]? = some (ownL X.K p ds)) (hz : ds.length < sizeLine) (h : Blk X W rest g (l.set k (ownL X.K p (ds ++ [d]))) Φ)
    (hp : PS X (.Expr (.Call (.Attribute o "append" apos) [e] [] cpos) pos) (tDrop (tBM X.K "list" rAppend (wpE X o) (tCons (wpE X e) tNil)))) : Blk X W (.Expr (.Call (.Attribute o "append" apos) [e] [] cpos) pos :: rest) g l Φ := fun en T σ H D s m => wpS_of (pss_cons hp pss_wp) (by
  refine ho en T σ H _ s fun v H1 s1 => ?_
  obtain ⟨F1, M1, q1⟩ := id s1
  have fv := q1.tm.1
  cases fv
  obtain ⟨vs1, _, hp1⟩ := q1.rs.own hk q1.exM
  refine ⟨.inl ⟨rfl, _, SqL.of hp1⟩, ?_⟩
  refine he en _ σ H1 _ s1 fun u H2 s2 => ?_
  obtain ⟨F, M, q⟩ := s2
  obtain ⟨vs, fvs, hp⟩ := q.rs.own hk q.exM
  refine ⟨p, vs, u, rfl, rfl, hp, by rw [fvs.length]; exact hz, ?_⟩
  obtain ⟨M', q'⟩ := (q.tmp (T' := T) q.tm.2.2).putL hk (fvs.app (.cons q.tm.1 .nil))
  exact h en T σ _ D ⟨F, M', q'⟩ m)
end
end Sx
set_option Elab.async false
set_option linter.all false
set_option maxRecDepth 100000
set_option maxHeartbeats 2000000
/-! Operations by value, calls, loops, comprehensions. -/
namespace Sx
open PySem L2

/-! ### operations -/
section
variable {K : PySem.W.Frag} {l : List Res} {d d1 d2 d3 : D} {i j : Int}
theorem o2_I0 {g : Int → Int → V} (h : ∀ F, Fd K F (g i j) d) : Op2 K l (rI0 g) (.int i) (.int j) d := fun F M H v u Q eF eM dj rs f1 f2 k => by
  cases f1; cases f2
  exact ⟨i, j, rfl, rfl, k _ F H (.rf eF) (h F)⟩
theorem o2_I {C : Int → Int → Prop} {g : Int → Int → V} (hc : C i j) (h : ∀ F, Fd K F (g i j) d) : Op2 K l (rI C g) (.int i) (.int j) d := fun F M H v u Q eF eM dj rs f1 f2 k => by
  cases f1; cases f2
  exact ⟨i, j, rfl, rfl, hc, k _ F H (.rf eF) (h F)⟩
theorem o_add : Op2 K l (rI0 fun i j => .int (i + j)) (.int i) (.int j) (.int (i + j)) := o2_I0 fun _ => .int _
theorem o_sub : Op2 K l (rI0 fun i j => .int (i - j)) (.int i) (.int j) (.int (i - j)) := o2_I0 fun _ => .int _
theorem o_mul (hc : CMul i j) : Op2 K l (rI CMul fun i j => .int (i * j)) (.int i) (.int j) (.int (i * j)) := o2_I hc fun _ => .int _
theorem o_mulR (h1 : -(2 ^ 64) < j := by decide) (h2 : j < 2 ^ 64 := by decide) : Op2 K l (rI CMul fun i j => .int (i * j)) (.int i) (.int j) (.int (i * j)) := o_mul (.inr ⟨h1, h2⟩)
theorem o_mulL (h1 : -(2 ^ 64) < i := by decide) (h2 : i < 2 ^ 64 := by decide) : Op2 K l (rI CMul fun i j => .int (i * j)) (.int i) (.int j) (.int (i * j)) := o_mul (.inl ⟨h1, h2⟩)
theorem o_mod (hc : 0 < j := by decide) : Op2 K l (rI (fun _ j => 0 < j) fun i j => .int (i % j)) (.int i) (.int j) (.int (i % j)) := o2_I hc fun _ => .int _
theorem o_fdiv (h1 : 0 < j := by decide) (h2 : j < 1073741824 := by decide) : Op2 K l (rI CDiv fun i j => .int (i / j)) (.int i) (.int j) (.int (i / j)) := o2_I ⟨h1, h2⟩ fun _ => .int _
theorem o_pow (hc : CPow i j := by exact ⟨by decide, by decide, by decide⟩) : Op2 K l (rI CPow fun i j => .int (i ^ j.toNat)) (.int i) (.int j) (.int (i ^ j.toNat)) := o2_I hc fun _ => .int _
theorem o_lt : Op2 K l (rI0 fun i j => .bl (decide (i < j))) (.int i) (.int j) (.bl (decide (i < j))) := o2_I0 fun _ => .bl _
theorem o_le : Op2 K l (rI0 fun i j => .bl (decide (i ≤ j))) (.int i) (.int j) (.bl (decide (i ≤ j))) := o2_I0 fun _ => .bl _
theorem o_gt : Op2 K l (rI0 fun i j => .bl (decide (j < i))) (.int i) (.int j) (.bl (decide (j < i))) := o2_I0 fun _ => .bl _
/-- scalars -/
def D.v : D → Option V
  | .non => some .non | .bl b => some (.bl b) | .int i => some (.int i) | .str x => some (.str x) | .ty n => some (.ty n) | _ => none
theorem D.v_eq {F : Hp} {d : D} {v w : V} (f : Fd K F v d) (h : d.v = some w) : v = w := by
  cases f <;> first | (cases h; rfl) | cases h
theorem o_eq {v1 v2 : V} (h1 : d1.v = some v1) (h2 : d2.v = some v2) (hs : scal v1 v2 = true := by rfl) : Op2 K l rEq d1 d2 (.bl (decide (v1 = v2))) := fun F M H v u Q eF eM dj rs f1 f2 k => by
  have e1 := D.v_eq f1 h1
  have e2 := D.v_eq f2 h2
  subst e1; subst e2
  exact ⟨hs, k _ F H (.rf eF) (.bl _)⟩
theorem o_ne {v1 v2 : V} (h1 : d1.v = some v1) (h2 : d2.v = some v2) (hs : scal v1 v2 = true := by rfl) : Op2 K l rNe d1 d2 (.bl (!decide (v1 = v2))) := fun F M H v u Q eF eM dj rs f1 f2 k => by
  have e1 := D.v_eq f1 h1
  have e2 := D.v_eq f2 h2
  subst e1; subst e2
  exact ⟨hs, k _ F H (.rf eF) (.bl _)⟩
theorem int_dec (i j : Int) : decide (V.int i = V.int j) = decide (i = j) := by
  by_cases e : i = j
  · subst e; simp
  · have : ¬ V.int i = V.int j := fun q => e (V.int.inj q)
    rw [decide_eq_false e, decide_eq_false this]
theorem str_dec (i j : Str) : decide (V.str i = V.str j) = decide (i = j) := by
  by_cases e : i = j
  · subst e; simp
  · have : ¬ V.str i = V.str j := fun q => e (V.str.inj q)
    rw [decide_eq_false e, decide_eq_false this]
theorem o_eqI : Op2 K l rEq (.int i) (.int j) (.bl (decide (i = j))) := by
  rw [← int_dec]; exact o_eq rfl rfl
theorem o_neI : Op2 K l rNe (.int i) (.int j) (.bl (!decide (i = j))) := by
  rw [← int_dec]; exact o_ne rfl rfl
theorem o_eqS {x y : Str} : Op2 K l rEq (.str x) (.str y) (.bl (decide (x = y))) := by
  rw [← str_dec]; exact o_eq rfl rfl
theorem o_neS {x y : Str} : Op2 K l rNe (.str x) (.str y) (.bl (!decide (x = y))) := by
  rw [← str_dec]; exact o_ne rfl rfl
/-- is None -/
def D.isNon : D → Bool
  | .non => true | _ => false
theorem D.isNon_eq {F : Hp} {d : D} {v : V} (f : Fd K F v d) : decide (v = .non) = d.isNon := by
  cases f <;> simp [D.isNon]
theorem o_isN : Op2 K l (fun x y H Q => y = .non ∧ Q (.bl (decide (x = .non))) H) d .non (.bl d.isNon) := fun F M H v u Q eF eM dj rs f1 f2 k => by
  cases f2
  refine ⟨rfl, ?_⟩
  rw [D.isNon_eq f1]
  exact k _ F H (.rf eF) (.bl _)
theorem o_addS {x y : Str} (h : x.length + y.length ≤ sizeLine) : Op2 K l (fun x y H Q => ∃ i j, x = .str i ∧ y = .str j ∧ i.length + j.length ≤ sizeLine ∧ Q (.str (i ++ j)) H) (.str x) (.str y) (.str (x ++ y)) := fun F M H v u Q eF eM dj rs f1 f2 k => by
  cases f1; cases f2
  exact ⟨x, y, rfl, rfl, h, k _ F H (.rf eF) (.str _)⟩
theorem atI_fd {F : Hp} {vs : List V} {ds : List D} (f : FdAll K F vs ds) (h : atI ds i = some d) : ∃ v, atI vs i = some v ∧ Fd K F v d := by
  unfold atI at h ⊢
  rw [f.length]
  cases e : ixN ds.length i with
  | none => rw [e] at h; cases h
  | some n =>
    rw [e] at h
    exact f.get h
theorem o_ixT {ds : List D} (h : atI ds i = some d) : Op2 K l (rIxT K) (.tup ds) (.int i) d := fun F M H v u Q eF eM dj rs f1 f2 k => by
  cases f2
  cases f1 with
  | tup s a =>
    obtain ⟨w, h1, h2⟩ := atI_fd a h
    exact ⟨_, _, i, w, rfl, rfl, ex_t eF s, h1, k w F H (.rf eF) h2⟩
theorem o_ixL {ds : List D} (h : atI ds i = some d) : Op2 K l (rIxL K) (.lst ds) (.int i) d := fun F M H v u Q eF eM dj rs f1 f2 k => by
  cases f2
  cases f1 with
  | lst s a =>
    obtain ⟨w, h1, h2⟩ := atI_fd a h
    exact ⟨_, _, i, w, rfl, rfl, SqL.of (eF _ _ s), h1, k w F H (.rf eF) h2⟩
theorem o_ixR {ds : List D} (h : atI ds i = some d) : Op2 K l (rIxL K) (.scr ds) (.int i) d := fun F M H v u Q eF eM dj rs f1 f2 k => by
  cases f2
  cases f1 with
  | scr s a =>
    obtain ⟨w, h1, h2⟩ := atI_fd a h
    exact ⟨_, _, i, w, rfl, rfl, ex_l eF s, h1, k w F H (.rf eF) h2⟩
theorem o_ixS {x : Str} {c : Nat} (h : x.length ≤ sizeLine) (ha : atI x.cps.toList i = some c) : Op2 K l rIxS (.str x) (.int i) (.str ⟨#[c]⟩) := fun F M H v u Q eF eM dj rs f1 f2 k => by
  cases f1; cases f2
  exact ⟨x, i, c, rfl, rfl, h, ha, k _ F H (.rf eF) (.str _)⟩
/-- x in xs, flat things -/
def D.flat (d : D) : Bool := match d.v with | some v => flatV v | none => false
def D.vv (d : D) : V := d.v.getD .non
theorem D.vv_eq {F : Hp} {d : D} {v : V} (f : Fd K F v d) (h : d.flat = true) : v = d.vv ∧ flatV v = true := by
  cases f <;> first | exact ⟨rfl, h⟩ | cases h
theorem D.vvs {F : Hp} : ∀ {vs : List V} {ds : List D}, FdAll K F vs ds → ds.all D.flat = true → vs = ds.map D.vv ∧ vs.all flatV = true
  | _, _, .nil, _ => ⟨rfl, rfl⟩
  | _, _, .cons a b, h => by
    rw [List.all_cons, Bool.and_eq_true] at h
    obtain ⟨q1, q2⟩ := D.vv_eq a h.1
    obtain ⟨r1, r2⟩ := D.vvs b h.2
    refine ⟨by rw [List.map_cons, ← q1, ← r1], by rw [List.all_cons, q2, r2]; rfl⟩
theorem o_in {neg : Bool} {ds : List D} {d0 : D} (hd : d0 = .lst ds ∨ d0 = .tup ds) (hx : d.flat = true) (hs : ds.all D.flat = true) : Op2 K l (rIn K neg) d d0 (.bl (if neg then !inV d.vv (ds.map D.vv) else inV d.vv (ds.map D.vv))) := fun F M H v u Q eF eM dj rs f1 f2 k => by
  obtain ⟨q1, q2⟩ := D.vv_eq f1 hx
  subst q1
  have kk := k (.bl (if neg then !inV d.vv (ds.map D.vv) else inV d.vv (ds.map D.vv))) F H (.rf eF) (.bl _)
  rcases hd with rfl | rfl
  · cases f2 with
    | lst s a =>
      obtain ⟨r1, r2⟩ := D.vvs a hs
      subst r1
      exact ⟨_, _, rfl, .inl (SqL.of (eF _ _ s)), q2, r2, kk⟩
  · cases f2 with
    | tup s a =>
      obtain ⟨r1, r2⟩ := D.vvs a hs
      subst r1
      exact ⟨_, _, rfl, .inr (ex_t eF s), q2, r2, kk⟩
theorem inV_str {x : Str} {xs : List Str} : inV (.str x) (xs.map V.str) = decide (x ∈ xs) := by
  induction xs with
  | nil => rfl
  | cons y r ih =>
    have e : inV (.str x) ((y :: r).map V.str) = ((y == x) || inV (.str x) (r.map V.str)) := rfl
    rw [e, ih]
    by_cases q : y = x
    · subst q; simp
    · have q' : ¬ x = y := fun z => q z.symm
      simp [q, q']
theorem inV_int {x : Int} {xs : List Int} : inV (.int x) (xs.map V.int) = decide (x ∈ xs) := by
  induction xs with
  | nil => rfl
  | cons y r ih =>
    have e : inV (.int x) ((y :: r).map V.int) = ((y == x) || inV (.int x) (r.map V.int)) := rfl
    rw [e, ih]
    by_cases q : y = x
    · subst q; simp
    · have q' : ¬ x = y := fun z => q z.symm
      simp [q, q']
theorem flat_strs {xs : List Str} : (xs.map D.str).all D.flat = true := by
  induction xs with
  | nil => rfl
  | cons y r ih => rw [List.map_cons, List.all_cons, ih]; rfl
theorem vv_strs {xs : List Str} : (xs.map D.str).map D.vv = xs.map V.str := by
  rw [List.map_map]; rfl
theorem flat_ints {xs : List Int} : (xs.map D.int).all D.flat = true := by
  induction xs with
  | nil => rfl
  | cons y r ih => rw [List.map_cons, List.all_cons, ih]; rfl
theorem vv_ints {xs : List Int} : (xs.map D.int).map D.vv = xs.map V.int := by
  rw [List.map_map]; rfl
theorem o_inS {x : Str} {xs : List Str} {d0 : D} (hd : d0 = .lst (xs.map D.str) ∨ d0 = .tup (xs.map D.str)) : Op2 K l (rIn K false) (.str x) d0 (.bl (decide (x ∈ xs))) := by
  have h := o_in (K := K) (l := l) (neg := false) hd (d := .str x) rfl flat_strs
  rw [vv_strs] at h
  have e : (if false = true then !inV (D.str x).vv (xs.map V.str) else inV (D.str x).vv (xs.map V.str)) = decide (x ∈ xs) := inV_str
  rw [e] at h; exact h
theorem o_ninS {x : Str} {xs : List Str} {d0 : D} (hd : d0 = .lst (xs.map D.str) ∨ d0 = .tup (xs.map D.str)) : Op2 K l (rIn K true) (.str x) d0 (.bl (!decide (x ∈ xs))) := by
  have h := o_in (K := K) (l := l) (neg := true) hd (d := .str x) rfl flat_strs
  rw [vv_strs] at h
  have e : (if true = true then !inV (D.str x).vv (xs.map V.str) else inV (D.str x).vv (xs.map V.str)) = !decide (x ∈ xs) := congrArg (!·) inV_str
  rw [e] at h; exact h
/- == of data -/
mutual
def D.py : D → Option PyData
  | .non => some .none | .bl b => some (.bool b) | .int i => some (.int i) | .str x => some (.str x)
  | .lst ds => (D.pys ds).map .list
  | .tup ds => (D.pys ds).map .tuple
  | .adr _ => none | .ty _ => none | .ins _ _ => none | .scr _ => none | .dK _ => none | .dT _ => none | .exc _ _ => none | .kt _ => none
def D.pys : List D → Option (List PyData)
  | [] => some []
  | d :: r => (D.py d).bind fun a => (D.pys r).map fun b => a :: b
end
mutual
theorem Fd.dp {F H : Hp} (e : Ex F H) : ∀ (d : D) {v : V} {p : PyData}, Fd K F v d → D.py d = some p → Dp K H v p
  | .non, _, _, h, q => by cases h; cases q; exact .non
  | .bl _, _, _, h, q => by cases h; cases q; exact .bl _
  | .int _, _, _, h, q => by cases h; cases q; exact .int _
  | .str _, _, _, h, q => by cases h; cases q; exact .str _
  | .lst ds, _, _, h, q => by
    unfold D.py at q
    obtain ⟨ps, h1, rfl⟩ := Option.map_eq_some_iff.mp q
    cases h with
    | lst s a => exact .lst (SqL.of (e _ _ s)) (FdAll.dp e ds a h1)
  | .tup ds, _, _, h, q => by
    unfold D.py at q
    obtain ⟨ps, h1, rfl⟩ := Option.map_eq_some_iff.mp q
    cases h with
    | tup s a => exact .tup (ex_t e s) (FdAll.dp e ds a h1)
  | .adr _, _, _, h, q => by cases q
  | .ty _, _, _, h, q => by cases q
  | .ins _ _, _, _, h, q => by cases q
  | .scr _, _, _, h, q => by cases q
  | .dK _, _, _, h, q => by cases q
  | .dT _, _, _, h, q => by cases q
  | .exc _ _, _, _, h, q => by cases q
  | .kt _, _, _, h, q => by cases q
theorem FdAll.dp {F H : Hp} (e : Ex F H) : ∀ (ds : List D) {vs : List V} {ps : List PyData}, FdAll K F vs ds → D.pys ds = some ps → DpAll K H vs ps
  | [], _, _, h, q => by cases h; cases q; exact .nil
  | d :: r, _, _, h, q => by
    unfold D.pys at q
    obtain ⟨a, h1, q⟩ := Option.bind_eq_some_iff.mp q
    obtain ⟨b, h2, rfl⟩ := Option.map_eq_some_iff.mp q
    cases h with
    | cons x y => exact .cons (Fd.dp e d x h1) (FdAll.dp e r y h2)
end
theorem o_neD {p q : PyData} (h1 : d1.py = some p) (h2 : d2.py = some q) (s1 : SeqAt.shaped p = true) (s2 : SeqAt.shaped q = true) : Op2 K l (rNeD K) d1 d2 (.bl (!PyData.eqv p q)) := fun F M H v u Q eF eM dj rs f1 f2 k =>
  ⟨p, q, Fd.dp eF _ f1 h1, Fd.dp eF _ f2 h2, s1, s2, k _ F H (.rf eF) (.bl _)⟩
end

/-! ### a def's promise -/
/-- called with the data args a (owned: own a), where ok a holds, it gives back what post tells, or raises what epost tells -/
def FnX (K : PySem.W.Frag) {α : Type} (ok : α → Prop) (args : α → List D) (own : α → List Res) (post : α → D → List Res → Prop) (epost : α → Value → Option Addr → List Res → Prop) : Sp := fun vs H Q E =>
  ∃ (a : α) (F M : Hp), ok a ∧ Ex F H ∧ Ex M H ∧ Dj F M ∧ FdAll K F vs (args a) ∧ Rs (own a) F M ∧
    (∀ v d l' H', post a d l' → S K ⟨F, M, H⟩ [] (Tm.tt.and K v d) l' [] H' → Q v H') ∧ (∀ cls d l' H', epost a cls d l' → S K ⟨F, M, H⟩ [] Tm.tt l' [] H' → E cls d H')
abbrev noE {α : Type} : α → Value → Option Addr → List Res → Prop := fun _ _ _ _ => False
/-- a def that changes nothing and gives back f a -/
abbrev Pu (K : PySem.W.Frag) {α : Type} (ok : α → Prop) (args : α → List D) (f : α → D) : Sp := FnX K ok args (fun _ => []) (fun a d l' => d = f a ∧ l' = []) noE
section
variable {P : Program} {w : World} {K : PySem.W.Frag} {mg : Str → Option Value} {base : Heap}
theorem fn_ok {α : Type} {ok : α → Prop} {args : α → List D} {own : α → List Res} {post : α → D → List Res → Prop} {epost : α → Value → Option Addr → List Res → Prop} {x qual : Str} {st : Stmt} {f : Addr} {fd : FuncData} {N ps : List Str} {k : Nat}
    (F : Fun K x qual st f fd) (Sc : FnScope N ps (defScope st)) (hlen : ∀ a, (args a).length = ps.length)
    (hbody : ∀ (cdv : Value) (A : Around) (outer : List Env) (s : Shared) (H : Hp) (E : XK) (a : α), Room k (A.deeper (PyProof.Rows.envOfC qual (defScope st) s.heap.objs.size f cdv)) → ok a →
      Blk (cxOf CX0 P w K mg base N qual (defScope st) f cdv A outer s H E).nox (fun _ _ _ _ => False) (defBody st) ((args a).map some ++ List.replicate (N.length - (args a).length) none) (own a) { nx := fun _ l' => post a .non l', rt := post a }) :
    FnOk P w K mg base CX0 (k + 1) f fd ps (FnX K ok args own post epost) := by
  refine F.ok Sc (fun vs H Q E h => ?_) (fun cdv A outer s H vs Q E hr h => ⟨wpS _ (defBody st), pss_wp, ?_⟩)
  · obtain ⟨a, _, _, _, _, _, _, h, _⟩ := h
    rw [h.length, hlen]
  · obtain ⟨a, F, M, hok, eF, eM, dj, fa, rs, hq, _⟩ := h
    have e : vs.length = (args a).length := fa.length
    refine hbody cdv A outer s H E a hr hok ⟨F, M, H⟩ Tm.tt _ H _ ⟨F, M, At.entry eF eM dj ?_ trivial rs⟩ ⟨fun g l σ H' p s' => ?_, fun d l v H' p s' => hq v d l H' p s', fun _ _ _ _ h => h.elim, fun _ _ _ _ h => h.elim, fun _ _ _ _ _ _ h => h.elim⟩
    · unfold L2.start
      rw [e]
      exact Sl.args _ fa
    · obtain ⟨F', M', q⟩ := s'
      exact hq .non .non l H' p ⟨F', M', (q.tmp (T' := Tm.tt.and K .non .non) ⟨.non, trivial⟩).slots .nil⟩
theorem fn_okX {α : Type} {ok : α → Prop} {args : α → List D} {own : α → List Res} {post : α → D → List Res → Prop} {epost : α → Value → Option Addr → List Res → Prop} {x qual : Str} {st : Stmt} {f : Addr} {fd : FuncData} {N ps : List Str} {k : Nat}
    (F : Fun K x qual st f fd) (Sc : FnScope N ps (defScope st)) (hlen : ∀ a, (args a).length = ps.length)
    (hbody : ∀ (cdv : Value) (A : Around) (outer : List Env) (s : Shared) (H : Hp) (E : XK) (a : α), Room k (A.deeper (PyProof.Rows.envOfC qual (defScope st) s.heap.objs.size f cdv)) → ok a →
      Blk (cxOf (L2.CX P w) P w K mg base N qual (defScope st) f cdv A outer s H E) (fun cls d _ H => E cls d H) (defBody st) ((args a).map some ++ List.replicate (N.length - (args a).length) none) (own a) { nx := fun _ l' => post a .non l', rt := post a, ex := fun cls d _ l' => epost a cls d l' }) :
    FnOk P w K mg base (L2.CX P w) (k + 1) f fd ps (FnX K ok args own post epost) := by
  refine F.okX Sc (fun vs H Q E h => ?_) (fun cdv A outer s H vs Q E hr h => ⟨wpS _ (defBody st), pss_wp, ?_⟩)
  · obtain ⟨a, _, _, _, _, _, _, h, _⟩ := h
    rw [h.length, hlen]
  · obtain ⟨a, F, M, hok, eF, eM, dj, fa, rs, hq, he⟩ := h
    have e : vs.length = (args a).length := fa.length
    refine hbody cdv A outer s H E a hr hok ⟨F, M, H⟩ Tm.tt _ H _ ⟨F, M, At.entry eF eM dj ?_ trivial rs⟩ ⟨fun g l σ H' p s' => ?_, fun d l v H' p s' => hq v d l H' p s', fun _ _ _ _ h => h.elim, fun _ _ _ _ h => h.elim, fun cls d g l σ H' p s' => he cls d l H' p s'.slotless⟩
    · unfold L2.start
      rw [e]
      exact Sl.args _ fa
    · obtain ⟨F', M', q⟩ := s'
      exact hq .non .non l H' p ⟨F', M', (q.tmp (T' := Tm.tt.and K .non .non) ⟨.non, trivial⟩).slots .nil⟩
/-- a def of the module under its name, with its promise -/
def Glo (P : Program) (w : World) (K : PySem.W.Frag) (mg : Str → Option Value) (base : Heap) (k : Nat) (x : Str) (ps : List Str) (sp : Sp) : Prop :=
  ∃ f fd, FnOk P w K mg base CX0 k f fd ps sp ∧ mg x = some (.ref f) ∧ PySem.W.keepIn K (.ref f) = true ∧ Binds K fd ps []
/-- a class's method, with its promise -/
def GloM (P : Program) (w : World) (K : PySem.W.Frag) (mg : Str → Option Value) (base : Heap) (k : Nat) (C : Addr) (m : Str) (ps : List Str) (sp : Sp) : Prop :=
  ∃ f fd, FnOk P w K mg base CX0 k f fd ps sp ∧ Cls K C ∧ Meth K C m f ∧ Binds K fd ps []
/-- a class under its name with its __init__ -/
def GloC (P : Program) (w : World) (K : PySem.W.Frag) (mg : Str → Option Value) (base : Heap) (k : Nat) (C : Addr) (x : Str) (ps : List Str) (sp : Sp) : Prop :=
  ∃ f fd, FnOk P w K mg base CX0 k f fd ps sp ∧ Mk K C f ∧ mg x = some (.ref C) ∧ Binds K fd ps []
end

section
variable {X : Cx} {W : WX} {g g' : Gm} {l l' : List Res} {Φ : Po} {e e2 a b c o : Expr} {es : List Expr} {d d1 d2 d3 : D} {pos p p2 : Pos} {rest : List Stmt}
/-- o.m(es) is got as a method -/
abbrev MthE (X : Cx) (o : Expr) (m : Str) (apos pos : Pos) (es : List Expr) (pl : Sem Bool) : Prop := eval (.Call (.Attribute o m apos) es [] pos) X.env = (do let ov ← eval o X.env; standAt apos.atName; let (f, r) ← holding [ov] (getMethod ov m pl); callWith pos f r (backTo pos (starEach es X.env)) (backToKw pos (keywordEach [] X.env)))
/-- what a promise gives where the state is known -/
theorem FnX.use {α : Type} {ok : α → Prop} {args : α → List D} {own : α → List Res} {post : α → D → List Res → Prop} {epost : α → Value → Option Addr → List Res → Prop} {K : PySem.W.Frag} {en : En} {T : Tm} {σ : L2.St} {H : Hp} {vs : List V} {lr : List Res} {Q : VK} {E : XK}
    (a : α) (hok : ok a) (s : S K en g (T.ands K vs (args a)) (own a ++ lr) σ H) (hq : ∀ v d l' H', post a d l' → S K en g (T.and K v d) (l' ++ lr) σ H' → Q v H') (he : ∀ cls d l' H', epost a cls d l' → S K en g T (l' ++ lr) σ H' → E cls d H') :
    FnX K ok args own post epost vs H Q E := by
  obtain ⟨F, M, q⟩ := s
  obtain ⟨A, B, rfl, dj, r1, r2⟩ := q.rs.split
  refine ⟨a, F, A, hok, q.exF, q.exM.joinL, (Dj.l q.dj.sym).sym, q.tm.1, r1, fun v d l' H' hp s' => ?_, fun cls d l' H' hp s' => ?_⟩
  · obtain ⟨F2, M2, b⟩ := s'
    have z := (q.tmp (T' := T) q.tm.2).frame dj r2 b
    exact hq v d l' H' hp ⟨F2, _, z.tmp ⟨b.tm.1, z.tm⟩⟩
  · obtain ⟨F2, M2, b⟩ := s'
    have z := (q.tmp (T' := T) q.tm.2).frame dj r2 b
    exact he cls d l' H' hp ⟨F2, _, z⟩
theorem ev_call {α : Type} {ok : α → Prop} {args : α → List D} {own : α → List Res} {post : α → D → List Res → Prop} {x : Str} {ps : List Str} {k j : Nat} {lr : List Res} {Psi : D → List Res → Prop}
    (G : Glo X.prog X.w X.K X.mg X.base k x ps (FnX X.K ok args own post noE)) (hr : Room j X.A) (hj : k ≤ j) (a : α) (hok : ok a) (ha : Pa X (e :: es) g (own a ++ lr) (args a)) (hq : ∀ d l', post a d l' → Psi d (l' ++ lr))
    (hg : Gl X x := by rfl) (hdb : (x == ("__debug__" : Str)) = false := by decide) (he : starEach (e :: es) X.env = (false, eval e X.env) :: starEach es X.env := by rfl) (hpl : (backTo pos (starEach es X.env)).any (·.1) = false := by rfl) :
    Ev X (.Call (.Name x p) (e :: es) [] pos) g (own a ++ lr) Psi := fun en T σ H Q s kk => by
  obtain ⟨f, fd, F, hm, hk, hb⟩ := G
  refine wpE_of (pe_call F (hr.mono hj) hg hm hk hb .nil pass0 pa_wp hdb he hpl) ?_
  refine ha en T σ H _ s fun vs H1 s1 => ?_
  rw [List.append_nil]
  exact FnX.use a hok s1 (fun v d l' H' hp s' => kk v d _ H' (hq d l' hp) s') fun _ _ _ _ h => h.elim
/-- a def that changes nothing -/
theorem px_call {α : Type} {ok : α → Prop} {args : α → List D} {f : α → D} {x : Str} {ps : List Str} {k j : Nat} 
    (G : Glo X.prog X.w X.K X.mg X.base k x ps (Pu X.K ok args f)) (hr : Room j X.A) (hj : k ≤ j) (a : α) (hok : ok a) (ha : Pa X (e :: es) g l (args a))
    (hg : Gl X x := by rfl) (hdb : (x == ("__debug__" : Str)) = false := by decide) (he : starEach (e :: es) X.env = (false, eval e X.env) :: starEach es X.env := by rfl) (hpl : (backTo pos (starEach es X.env)).any (·.1) = false := by rfl) :
    Px X (.Call (.Name x p) (e :: es) [] pos) g l (f a) :=
  Ev.px (ev_call (lr := l) (own := fun _ => []) G hr hj a hok ha (fun d l' h => ⟨h.1, by rw [h.2]; rfl⟩) hg hdb he hpl)
/-- o.m(..) -/
theorem ev_meth {α : Type} {ok : α → Prop} {args : α → List D} {own : α → List Res} {post : α → D → List Res → Prop} {C : Addr} {m : Str} {ps : List Str} {k j : Nat} {lr : List Res} {Psi : D → List Res → Prop} {ds : List D} {apos : Pos} {pl : Sem Bool}
    (G : GloM X.prog X.w X.K X.mg X.base k C m ps (FnX X.K ok args own post noE)) (hr : Room j X.A) (hj : k ≤ j) (a : α) (hok : ok a) (ho : Px X o g (own a ++ lr) d1)
    (hd : ∀ F M H v, Ex F H → Ex M H → Rs (own a ++ lr) F M → Fd X.K F v d1 → ∃ q dx fs, v = .ref q ∧ H q = some (.ins C dx fs) ∧ fs.lookup m = none)
    (ha : Pa X (e :: es) g (own a ++ lr) ds) (hds : args a = d1 :: ds) (hq : ∀ d l', post a d l' → Psi d (l' ++ lr))
    (hst : starEach (e :: es) X.env = (false, eval e X.env) :: starEach es X.env := by rfl) (hpl : (backTo pos (starEach es X.env)).any (·.1) = false := by rfl)
    (ht : MthE X o m apos pos (e :: es) pl := by rfl) :
    Ev X (.Call (.Attribute o m apos) (e :: es) [] pos) g (own a ++ lr) Psi := fun en T σ H Q s kk => by
  obtain ⟨f, fd, F, hc, hm, hb⟩ := G
  refine wpE_of (pe_meth pe_wp hc hm F (hr.mono hj) hb .nil pass0 pa_wp hst hpl ht) ?_
  refine ho en T σ H _ s fun v H1 s1 => ?_
  have s1' := s1
  obtain ⟨F1, M1, q1⟩ := s1
  obtain ⟨q, dx, fs, rfl, h1, h2⟩ := hd F1 M1 H1 v q1.exF q1.exM q1.rs q1.tm.1
  refine ⟨q, dx, fs, rfl, h1, h2, ?_⟩
  refine ha en _ σ H1 _ s1' fun vs H2 s2 => ?_
  rw [List.append_nil]
  refine FnX.use a hok (T := T) (g := g) (en := en) (σ := σ) (lr := lr) ?_ (fun v d l' H' hp s' => kk v d _ H' (hq d l' hp) s') fun _ _ _ _ h => h.elim
  obtain ⟨F, M, q⟩ := s2
  exact ⟨F, M, q.tmp ⟨by rw [hds]; exact .cons q.tm.2.1 q.tm.1, q.tm.2.2⟩⟩
theorem ev_meth0 {α : Type} {ok : α → Prop} {args : α → List D} {own : α → List Res} {post : α → D → List Res → Prop} {C : Addr} {m : Str} {ps : List Str} {k j : Nat} {lr : List Res} {Psi : D → List Res → Prop} {apos : Pos} {pl : Sem Bool}
    (G : GloM X.prog X.w X.K X.mg X.base k C m ps (FnX X.K ok args own post noE)) (hr : Room j X.A) (hj : k ≤ j) (a : α) (hok : ok a) (ho : Px X o g (own a ++ lr) d1)
    (hd : ∀ F M H v, Ex F H → Ex M H → Rs (own a ++ lr) F M → Fd X.K F v d1 → ∃ q dx fs, v = .ref q ∧ H q = some (.ins C dx fs) ∧ fs.lookup m = none)
    (hds : args a = [d1]) (hq : ∀ d l', post a d l' → Psi d (l' ++ lr))
    (ht : MthE X o m apos pos [] pl := by rfl) :
    Ev X (.Call (.Attribute o m apos) [] [] pos) g (own a ++ lr) Psi := fun en T σ H Q s kk => by
  obtain ⟨f, fd, F, hc, hm, hb⟩ := G
  refine wpE_of (pe_meth0 pe_wp hc hm F (hr.mono hj) hb .nil pass0 ht) ?_
  refine ho en T σ H _ s fun v H1 s1 => ?_
  have s1' := s1
  obtain ⟨F1, M1, q1⟩ := s1
  obtain ⟨q, dx, fs, rfl, h1, h2⟩ := hd F1 M1 H1 v q1.exF q1.exM q1.rs q1.tm.1
  refine ⟨q, dx, fs, rfl, h1, h2, ?_⟩
  show FnX _ _ _ _ _ _ (V.ref q :: ([] ++ [])) H1 Q _
  refine FnX.use a hok (T := T) (g := g) (en := en) (σ := σ) (lr := lr) ?_ (fun v d l' H' hp s' => kk v d _ H' (hq d l' hp) s') fun _ _ _ _ h => h.elim
  exact ⟨F1, M1, q1.tmp ⟨by rw [hds]; exact .cons q1.tm.1 .nil, q1.tm.2⟩⟩
/-- the receiver: a frozen instance, an owned one -/
theorem rc_ins {K : PySem.W.Frag} {C : Addr} {fs : List (Str × D)} {m : Str} (h : fs.lookup m = none) : ∀ F M H v, Ex F H → Ex M H → Rs l F M → Fd K F v (.ins C fs) → ∃ q dx fs, v = .ref q ∧ H q = some (.ins C dx fs) ∧ fs.lookup m = none := fun F M H v eF eM rs f => by
  cases f with
  | ins h1 h2 => exact ⟨_, _, _, rfl, eF _ _ h1, h2.nolook h⟩
theorem rc_own {K : PySem.W.Frag} {C p : Addr} {fs : List (Str × D)} {m : Str} {k : Nat} (hk : l[k]? = some (ownI K p C fs)) (h : fs.lookup m = none) : ∀ F M H v, Ex F H → Ex M H → Rs l F M → Fd K F v (.adr p) → ∃ q dx fs, v = .ref q ∧ H q = some (.ins C dx fs) ∧ fs.lookup m = none := fun F M H v eF eM rs f => by
  cases f
  obtain ⟨dx, vs, f, hp⟩ := rs.ins hk eM
  exact ⟨p, dx, vs, rfl, hp, f.nolook h⟩
theorem px_meth {α : Type} {ok : α → Prop} {args : α → List D} {f : α → D} {C : Addr} {m : Str} {ps : List Str} {k j : Nat} {ds : List D} {apos : Pos} {pl : Sem Bool} {fs : List (Str × D)}
    (G : GloM X.prog X.w X.K X.mg X.base k C m ps (Pu X.K ok args f)) (hr : Room j X.A) (hj : k ≤ j) (a : α) (hok : ok a) (ho : Px X o g l (.ins C fs)) (hfs : fs.lookup m = none) (ha : Pa X (e :: es) g l ds) (hds : args a = .ins C fs :: ds)
    (hst : starEach (e :: es) X.env = (false, eval e X.env) :: starEach es X.env := by rfl) (hpl : (backTo pos (starEach es X.env)).any (·.1) = false := by rfl)
    (ht : MthE X o m apos pos (e :: es) pl := by rfl) : Px X (.Call (.Attribute o m apos) (e :: es) [] pos) g l (f a) :=
  Ev.px (ev_meth (lr := l) (own := fun _ => []) G hr hj a hok ho (rc_ins hfs) ha hds (fun d l' h => ⟨h.1, by rw [h.2]; rfl⟩) hst hpl ht)
/-- C(..), C with an own __init__ -/
theorem ev_make {α : Type} {ok : α → Prop} {args : α → List D} {own : α → List Res} {post : α → D → List Res → Prop} {C : Addr} {x : Str} {ps : List Str} {k j : Nat} {lr : List Res} {Psi : D → List Res → Prop} {ds : List D}
    (G : GloC X.prog X.w X.K X.mg X.base k C x ps (FnX X.K ok args own post noE)) (hr : Room j X.A) (hj : k + 1 ≤ j) (a : Addr → α) (hok : ∀ q, ok (a q)) (ha : Pa X (e :: es) g lr ds)
    (hds : ∀ q, args (a q) = .adr q :: ds) (hown : ∀ q, own (a q) = [ownI X.K q C []]) (hq : ∀ q d l', post (a q) d l' → d = .non ∧ Psi (.adr q) (l' ++ lr))
    (hg : Gl X x := by rfl) (hdb : (x == ("__debug__" : Str)) = false := by decide) (he : starEach (e :: es) X.env = (false, eval e X.env) :: starEach es X.env := by rfl) (hpl : (backTo pos (starEach es X.env)).any (·.1) = false := by rfl) :
    Ev X (.Call (.Name x p) (e :: es) [] pos) g lr Psi := fun en T σ H Q s kk => by
  obtain ⟨f, fd, F, M, hm, hb⟩ := G
  refine wpE_of (pe_make M F (hr.mono hj) hg hm hb .nil pass0 pa_wp hdb he hpl) ?_
  refine ha en T σ H _ s fun vs H1 s1 => ?_
  intro x dx nx ndx ne
  rw [List.append_nil]
  obtain ⟨F1, M1, q1⟩ := s1
  have n2 : (upd H1 dx (.own x)) x = none := by rw [upd_ne (Ne.symm ne)]; exact nx
  have q2 := q1.newO (r := ownI X.K x C []) (A := join (one x (.ins C dx [])) (one dx (.own x))) (H' := upd (upd H1 dx (.own x)) x (.ins C dx [])) ((Ex.new ndx).tr (.new n2))
    (fun y o z => by
      rcases join_some z with w | ⟨w, w'⟩
      · obtain ⟨rfl, rfl⟩ := one_some w; exact upd_same
      · obtain ⟨rfl, rfl⟩ := one_some w'
        rw [upd_ne ne, upd_same])
    (fun y o z => by
      rcases join_some z with w | ⟨w, w'⟩
      · obtain ⟨rfl, rfl⟩ := one_some w; exact nx
      · obtain ⟨rfl, rfl⟩ := one_some w'; exact ndx) ⟨[], dx, ne, .nil, rfl⟩
  have s2 : S X.K en g ((T.and X.K (.ref x) (.adr x)).ands X.K (.ref x :: vs) (args (a x))) (own (a x) ++ lr) σ (upd (upd H1 dx (.own x)) x (.ins C dx [])) := by
    rw [hown]
    exact ⟨F1, _, q2.tmp ⟨by rw [hds]; exact .cons (.adr x) q1.tm.1, .adr x, q1.tm.2⟩⟩
  refine FnX.use (a x) (hok x) s2 (fun v d l' H' hp s' => ?_) fun _ _ _ _ h => h.elim
  · obtain ⟨e1, e2⟩ := hq x d l' hp
    subst e1
    obtain ⟨F3, M3, q3⟩ := s'
    have f3 := q3.tm.1
    cases f3
    exact ⟨rfl, kk _ _ _ H' e2 ⟨F3, M3, q3.tmp q3.tm.2⟩⟩
/-- an instance just made is frozen -/
theorem Ev.frzI {C : Addr} {fs : List (Str × D)} (h : Ev X e g l (fun d' l' => ∃ p, d' = .adr p ∧ l' = ownI X.K p C fs :: l)) : Px X e g l (.ins C fs) := fun en T σ H Q s k => h en T σ H Q s fun v d l' H' p s' => by
  obtain ⟨p, rfl, rfl⟩ := p
  obtain ⟨F, M, q⟩ := s'
  have hv := q.tm.1
  cases hv
  obtain ⟨F', M', q', f, _⟩ := q.frz (P := fun F' => Fd X.K F' (.ref p) (.ins C fs)) fun A hA => by
    obtain ⟨vs, dx, n, f, rfl⟩ := hA
    have hF : F p = none := by
      obtain ⟨A, B, rfl, _, ⟨_, dx, n, _, rfl⟩, _⟩ := q.rs
      exact q.dj.sym p _ (join_l (join_l one_same))
    exact .ins (by rw [join_r hF]; exact join_l one_same) (FdFs.mono (fun x o h => join_l h) _ f)
  exact k _ H' ⟨F', M', q'.tmp ⟨f, q'.tm.2⟩⟩
/-- self.f = e, self an owned instance -/
theorem blk_fld {k : Nat} {C q : Addr} {fs : List (Str × D)} {f : Str} {pos' : Pos} (he : Px X e g l d) (ho : Px X o g l (.adr q)) (hk : l[k]? = some (ownI X.K q C fs)) (hc : Cls X.K C) (hn : NoAttr X.K C f) (hz : fs.length < 1000)
    (h : Blk X W rest g (l.set k (ownI X.K q C (putD f d fs))) Φ) (hs : swapsWith e (some (.Attribute o f pos')) pos.line X.env = pure false := by rfl) : Blk X W (.Assign [.Attribute o f pos'] e pos :: rest) g l Φ := fun en T σ H D s m => wpS_of (pss_cons (ps_fld pe_wp pe_wp hs) pss_wp) (by
  refine he en T σ H _ s fun v H1 s1 => ?_
  refine ho en _ σ H1 _ s1 fun u H2 s2 => ?_
  obtain ⟨F, M, q2⟩ := s2
  have fu := q2.tm.1
  cases fu
  obtain ⟨dx, vs, ff, hp⟩ := q2.rs.ins hk q2.exM
  refine ⟨q, C, dx, vs, rfl, hp, hc, hn, by rw [ff.length]; exact hz, ?_⟩
  obtain ⟨M', q'⟩ := (q2.tmp (T' := T) q2.tm.2.2).putI hk hp (ff.put q2.tm.2.1)
  exact h en T σ _ D ⟨F, M', q'⟩ m)
/-- an attribute of an owned instance -/
theorem px_fldO {k : Nat} {C q : Addr} {fs : List (Str × D)} {f : Str} (ho : Px X o g l (.adr q)) (hk : l[k]? = some (ownI X.K q C fs)) (hc : Cls X.K C) (hn : NoAttr X.K C f) (hl : fs.lookup f = some d) (hb : attributeBase o f X.env (eval o X.env) = eval o X.env := by rfl) : Px X (.Attribute o f pos) g l d := fun en T σ H Q s kk => wpE_of (pe_fld pe_wp hb) (by
  refine ho en T σ H _ s fun v H1 s1 => ?_
  obtain ⟨F, M, q1⟩ := s1
  obtain ⟨hf, ht⟩ := q1.tm
  cases hf
  obtain ⟨dx, vs, ff, hp⟩ := q1.rs.ins hk q1.exM
  obtain ⟨v, e1, e2⟩ := ff.look hl
  exact ⟨_, C, _, _, v, rfl, hp, hc, hn, e1, kk v H1 ⟨F, M, q1.tmp ⟨e2, ht⟩⟩⟩)

/-! ### targets -/
def setsV (σ : L2.St) : List Nat → List V → L2.St
  | i :: is, v :: vs => setsV (σ.set i (some v)) is vs
  | _, _ => σ
def sets (g : Gm) : List Nat → List D → Gm
  | i :: is, d :: ds => sets (g.set i (some d)) is ds
  | _, _ => g
theorem Sl.sets {K : PySem.W.Frag} {F : Hp} : ∀ {is : List Nat} {g : Gm} {σ : L2.St} {vs : List V} {ds : List D}, Sl K F g σ → FdAll K F vs ds → Sl K F (sets g is ds) (setsV σ is vs)
  | [], _, _, _, _, h, .nil => h
  | [], _, _, _, _, h, .cons _ _ => h
  | _ :: _, _, _, _, _, h, .nil => h
  | i :: is, _, _, _, _, h, .cons a b => Sl.sets (is := is) (h.set i a) b
/-- a target takes a datum apart into the slots is -/
def Tg (K : PySem.W.Frag) (t : TG) (is : List Nat) (d : D) (ds : List D) : Prop := ∀ F H v σ (Q : L2.St → Hp → Prop), Ex F H → Fd K F v d → (∀ vs, FdAll K F vs ds → Q (setsV σ is vs) H) → t v σ H Q
theorem tg_name {K : PySem.W.Frag} {i : Nat} : Tg K (gName i) [i] d [d] := fun F H v σ Q e f k => k [v] (.cons f .nil)
theorem tg_seq {K : PySem.W.Frag} : ∀ {is : List Nat} {ds : List D} {vs : List V} {F H : Hp} {σ : L2.St} {Q : L2.St → Hp → Prop}, is.length = ds.length → FdAll K F vs ds → Q (setsV σ is vs) H → (is.foldr (fun i t => gCons (gName i) t) gNil) vs σ H Q
  | [], [], _, _, _, _, _, _, .nil, h => ⟨rfl, h⟩
  | i :: is, d :: ds, _, _, _, σ, _, e, .cons (v := v) a b, h => ⟨_, _, rfl, tg_seq (is := is) (by simpa using e) b h⟩
  | [], _ :: _, _, _, _, _, _, e, _, _ => by cases e
  | _ :: _, [], _, _, _, _, _, e, _, _ => by cases e
theorem tg_tup {K : PySem.W.Frag} {is : List Nat} {ds : List D} {n : Nat} (h : is.length = ds.length) (hn : ds.length = n) : Tg K (gTup K n (is.foldr (fun i t => gCons (gName i) t) gNil)) is (.tup ds) ds := fun F H v σ Q e f k => by
  cases f with
  | tup s a => exact ⟨_, _, rfl, ex_t e s, by rw [a.length]; exact hn, tg_seq h a (k _ a)⟩
/-! ### walks -/
/-- the iterator J gives the data ds, one after another, while F stands -/
def JG (K : PySem.W.Frag) (lk : List Res) (F : Hp) (J : It) (ds : List D) : Prop := ∀ F' M' H, Ex F F' → Ex F' H → Ex M' H → Rs lk F' M' → (∀ i, i < ds.length → J.go i H) ∧ J.stop ds.length H ∧ ∀ i d x H', ds[i]? = some d → J.yld i H x H' → ∃ F'', New F' H F'' H' ∧ Fd K F'' x d
def ItwP (X : Cx) (tg iter : Expr) (g : Gm) (l lk : List Res) (ds : List D) : Prop := ∃ wi, PI X tg iter wi ∧ ∀ en T σ H (R : It → Hp → Prop), S X.K en g T l σ H → (∀ J H1 F M, At X.K en g T l σ H1 F M → JG X.K lk F J ds → R J H1) → wi σ H R
abbrev Itw (X : Cx) (tg iter : Expr) (g : Gm) (l : List Res) (ds : List D) : Prop := ItwP X tg iter g l [] ds
theorem jg_list {lk : List Res} {K : PySem.W.Frag} {F : Hp} {a : Addr} {vs : List V} {ds : List D} (s : SqL K F a vs) (f : FdAll K F vs ds) : JG K lk F (Itl K a) ds := fun F' M' H e1 e2 _ _ => by
  have s2 : SqL K H a vs := ex_l (e1.tr e2) s
  refine ⟨fun i hi => ?_, ⟨vs, s2, by rw [f.length]; exact Nat.le_refl _⟩, fun i d x H' hd hy => ?_⟩
  · have q : i < vs.length := by rw [f.length]; exact hi
    exact ⟨vs, vs[i], s2, List.getElem?_eq_getElem q⟩
  · obtain ⟨rfl, h⟩ := hy
    obtain ⟨v, h1, h2⟩ := f.get hd
    have e := h vs s2
    rw [h1] at e
    cases e
    exact ⟨F', .rf e2, h2.mono e1⟩
theorem jg_tup {lk : List Res} {K : PySem.W.Frag} {F : Hp} {a : Addr} {vs : List V} {ds : List D} (s : SqT K F a vs) (f : FdAll K F vs ds) : JG K lk F (Itt K a) ds := fun F' M' H e1 e2 _ _ => by
  have s2 : SqT K H a vs := ex_t (e1.tr e2) s
  refine ⟨fun i hi => ?_, ⟨vs, s2, by rw [f.length]; exact Nat.le_refl _⟩, fun i d x H' hd hy => ?_⟩
  · have q : i < vs.length := by rw [f.length]; exact hi
    exact ⟨vs, vs[i], s2, List.getElem?_eq_getElem q⟩
  · obtain ⟨rfl, h⟩ := hy
    obtain ⟨v, h1, h2⟩ := f.get hd
    have e := h vs s2
    rw [h1] at e
    cases e
    exact ⟨F', .rf e2, h2.mono e1⟩
theorem it_list {tg : Expr} {ds : List D} (h : Px X e g l (.lst ds)) : Itw X tg e g l ds := ⟨_, pi_list pe_wp, fun en T σ H R s k => h en T σ H _ s fun v H1 s1 => by
  obtain ⟨F, M, q⟩ := s1
  obtain ⟨f, t⟩ := q.tm
  cases f with
  | lst sq a => exact ⟨_, rfl, ⟨_, SqL.of (q.exF _ _ sq)⟩, k _ H1 F M (q.tmp t) (jg_list (SqL.of sq) a)⟩⟩
theorem it_tup {tg : Expr} {ds : List D} (h : Px X e g l (.tup ds)) : Itw X tg e g l ds := ⟨_, pi_tup pe_wp, fun en T σ H R s k => h en T σ H _ s fun v H1 s1 => by
  obtain ⟨F, M, q⟩ := s1
  obtain ⟨f, t⟩ := q.tm
  cases f with
  | tup sq a => exact ⟨_, rfl, ⟨_, ex_t q.exF sq⟩, k _ H1 F M (q.tmp t) (jg_tup sq a)⟩⟩
def rng (lo : Int) (n : Nat) : List D := (List.range n).map fun i : Nat => D.int (lo + (i : Int))
theorem rng_len {lo : Int} {n : Nat} : (rng lo n).length = n := by unfold rng; rw [List.length_map, List.length_range]
theorem rng_get {lo : Int} {n i : Nat} {d : D} (h : (rng lo n)[i]? = some d) : i < n ∧ d = .int (lo + (i : Int)) := by
  unfold rng at h
  rw [List.getElem?_map] at h
  cases q : (List.range n)[i]? with
  | none => rw [q] at h; cases h
  | some j =>
    rw [q] at h
    obtain ⟨h1, h2⟩ := List.getElem?_eq_some_iff.mp q
    rw [List.length_range] at h1
    rw [List.getElem_range] at h2
    subst h2
    exact ⟨h1, (Option.some.inj h).symm⟩
theorem jg_range {lk : List Res} {K : PySem.W.Frag} {F : Hp} {lo : Int} {n : Nat} : JG K lk F (L2.Itr lo n) (rng lo n) := fun F' M' H e1 e2 _ _ => by
  refine ⟨fun i hi => by rw [rng_len] at hi; exact hi, by show n ≤ _; rw [rng_len]; exact Nat.le_refl _, fun i d x H' hd hy => ?_⟩
  obtain ⟨rfl, rfl⟩ := hy
  obtain ⟨_, rfl⟩ := rng_get hd
  exact ⟨F', .rf e2, .int _⟩
theorem it_range {tg : Expr} {j : Int} {pp : Pos} (h : Px X e g l (.int j)) (h1 : -(2 ^ 62) ≤ j) (h2 : j < 2 ^ 62) (hm : X.mg "range" = none) (hg : Gl X "range" := by rfl) (hs : starEach [e] X.env = [(false, eval e X.env)] := by rfl) : Itw X tg (.Call (.Name "range" p) [e] [] pp) g l (rng 0 j.toNat) :=
  ⟨_, pi_range1 hg hm (pa_wp (es := [e])) hs, fun en T σ H R s k => pa_c h pa_n hs en T σ H _ s fun vs H1 s1 => by
  obtain ⟨F, M, q⟩ := s1
  obtain ⟨f, t⟩ := q.tm
  cases f with
  | cons a b =>
    cases a; cases b
    exact ⟨j, rfl, h1, h2, k _ H1 F M (q.tmp t) jg_range⟩⟩
/-- pairs of a number and an item -/
def enumD (ds : List D) : List D := ds.zipIdx.map fun q => D.tup [.int (q.2 : Nat), q.1]
theorem enumD_len {ds : List D} : (enumD ds).length = ds.length := by unfold enumD; rw [List.length_map, List.length_zipIdx]
theorem enumD_get {ds : List D} {i : Nat} {d : D} (h : (enumD ds)[i]? = some d) : ∃ d', ds[i]? = some d' ∧ d = .tup [.int (i : Nat), d'] := by
  unfold enumD at h
  rw [List.getElem?_map, List.getElem?_zipIdx] at h
  cases q : ds[i]? with
  | none => rw [q] at h; cases h
  | some d' =>
    rw [q] at h
    refine ⟨d', rfl, ?_⟩
    have e := Option.some.inj h
    rw [← e]
    simp
theorem jg_enum {lk : List Res} {K : PySem.W.Frag} {F : Hp} {a : Addr} {vs : List V} {ds : List D} (s : SqL K F a vs) (f : FdAll K F vs ds) : JG K lk F (Ite K a) (enumD ds) := fun F' M' H e1 e2 _ _ => by
  have s2 : SqL K H a vs := ex_l (e1.tr e2) s
  refine ⟨fun i hi => ?_, ⟨vs, s2, by rw [enumD_len, f.length]; exact Nat.le_refl _⟩, fun i d x H' hd hy => ?_⟩
  · have q : i < vs.length := by rw [f.length]; rw [enumD_len] at hi; exact hi
    exact ⟨vs, vs[i], s2, List.getElem?_eq_getElem q⟩
  · obtain ⟨T, y, rfl, hT, rfl, h⟩ := hy
    obtain ⟨d', hd', rfl⟩ := enumD_get hd
    obtain ⟨v, h1, h2⟩ := f.get hd'
    have e := Option.some.inj (h1.symm.trans (h vs s2))
    subst e
    have n := New.upd (o := .tup [.int (i : Nat), v]) e2 hT
    exact ⟨_, n, .tup (SqT.of upd_same) (.cons (.int _) (.cons (h2.mono (e1.tr n.f)) .nil))⟩
theorem it_enum {elts : List Expr} {kk : Nat} {tpos pp : Pos} {ds : List D} (h : Px X e g l (.lst ds)) (hm : X.mg "enumerate" = none) (hg : Gl X "enumerate" := by rfl) (hs : starEach [e] X.env = [(false, eval e X.env)] := by rfl) : Itw X (.Tuple elts kk tpos) (.Call (.Name "enumerate" p) [e] [] pp) g l (enumD ds) :=
  ⟨_, pi_enum hg hm (pa_wp (es := [e])) hs, fun en T σ H R s k => pa_c h pa_n hs en T σ H _ s fun vs H1 s1 => by
  obtain ⟨F, M, q⟩ := s1
  obtain ⟨f, t⟩ := q.tm
  cases f with
  | cons a b =>
    cases b
    cases a with
    | lst sq a => exact ⟨_, _, rfl, SqL.of (q.exF _ _ sq), k _ H1 F M (q.tmp t) (jg_enum (SqL.of sq) a)⟩⟩
def zipD (ds es : List D) : List D := (ds.zip es).map fun q => D.tup [q.1, q.2]
/-- text, sign by sign -/
def signs (x : Str) : List D := x.cps.toList.map fun c => D.str ⟨#[c]⟩
theorem it_str {tg : Expr} {x : Str} (h : Px X e g l (.str x)) : Itw X tg e g l (signs x) := ⟨_, pi_str pe_wp, fun en T σ H R s k => h en T σ H _ s fun v H1 s1 => by
  obtain ⟨F, M, q⟩ := s1
  obtain ⟨f, t⟩ := q.tm
  cases f
  refine ⟨x, rfl, k _ H1 F M (q.tmp t) fun F' M' H' e1 e2 _ _ => ?_⟩
  have el : (signs x).length = x.cps.size := by unfold signs; rw [List.length_map, Array.length_toList]
  refine ⟨fun i hi => by rw [el] at hi; exact hi, by show x.cps.size ≤ _; rw [el]; exact Nat.le_refl _, fun i d y H'' hd hy => ?_⟩
  obtain ⟨rfl, c, hc, rfl⟩ := hy
  unfold signs at hd
  rw [List.getElem?_map, Array.getElem?_toList, hc] at hd
  cases hd
  exact ⟨F', .rf e2, .str _⟩⟩
/-- for target in ..: body -/
theorem blk_for {tg iter : Expr} {lk : List Res} {body : List Stmt} {gt : TG} {is : List Nat} {ds : List D} (I : Nat → Gm → List Res → Prop) (hp : PassesOwn (model X.prog X.w) X.A X.env X.xe) (hc : X.calm = true) (hi : ItwP X tg iter g l lk ds) (hg : PG X tg gt) (h0 : I 0 g l)
    (hs : ∀ i d g' l', ds[i]? = some d → I i g' l' → ∃ es, Tg X.K gt is d es ∧ Blk X W body (sets g' is es) l' { nx := I (i + 1), ct := I (i + 1), bk := fun g2 l2 => Blk X W rest g2 l2 Φ, rt := Φ.rt, ex := Φ.ex })
    (hd : ∀ g' l', I ds.length g' l' → Blk X W rest g' l' Φ) (hf : ∀ x, foldedSetIterable iter X.env x = pure x := by intro _; rfl) (hk : ∀ i g' l', I i g' l' → SubR l' lk := by intro i g' l' h; exact subr0) : Blk X W (.For tg iter body [] pos :: rest) g l Φ := fun en T σ H D s m => by
  obtain ⟨wi, pi, hw⟩ := hi
  refine wpS_of (pss_cons (ps_for hp hc pi hg pss_wp hf) pss_wp) ?_
  refine hw en T σ H _ s fun J H1 F0 M0 q0 jg => ?_
  refine ⟨fun i m σ' H' => i + m = ds.length ∧ ∃ g' l', I i g' l' ∧ S X.K en g' (T.ex F0) l' σ' H', ⟨ds.length, by simp, g, l, h0, F0, M0, q0.tmp ⟨.rf, q0.tm⟩⟩, fun i n σ' H' hW => ?_⟩
  obtain ⟨em, g', l', hI, F, M, q⟩ := hW
  obtain ⟨Mk, rk, ek⟩ := Rs.sub (hk i g' l' hI) q.rs q.exM
  obtain ⟨jgo, jst, jy⟩ := jg F Mk H' q.tm.1 q.exF ek rk
  cases n with
  | zero =>
    have e : i = ds.length := by omega
    subst e
    exact .inl ⟨jst, hd g' l' hI en T σ' H' D ⟨F, M, q.tmp q.tm.2⟩ m⟩
  | succ n =>
    have hi : i < ds.length := by omega
    refine .inr ⟨jgo i hi, fun σ2 H2 => ∃ g2 l2, I (i + 1) g2 l2 ∧ S X.K en g2 (T.ex F0) l2 σ2 H2, fun σ2 H2 ⟨g2, l2, h1, h2⟩ => ⟨n, by omega, by omega, g2, l2, h1, h2⟩, fun x H2 hy => ?_⟩
    obtain ⟨es, htg, hb⟩ := hs i ds[i] g' l' (List.getElem?_eq_getElem hi) hI
    obtain ⟨F2, nw, fx⟩ := jy i ds[i] x H2 (List.getElem?_eq_getElem hi) hy
    have q2 := q.new nw
    refine htg F2 H2 x σ' _ q2.exF fx fun vs fvs => ?_
    refine hb en (T.ex F0) _ H2 _ ⟨F2, M, q2.slots (q2.sl.sets fvs)⟩ ⟨fun g2 l2 σ2 H2 h s2 => ⟨g2, l2, h, s2⟩, fun d l v H h s2 => ?_, fun g2 l2 σ2 H2 h s2 => ?_, fun g2 l2 σ2 H2 h s2 => ⟨g2, l2, h, s2⟩, fun cls d g l σ H h s2 => ?_⟩
    · obtain ⟨F, M, q⟩ := s2
      exact m.rt d l v H h ⟨F, M, q.tmp ⟨q.tm.1, q.tm.2.2⟩⟩
    · obtain ⟨F, M, q⟩ := s2
      exact h en T σ2 H2 D ⟨F, M, q.tmp q.tm.2⟩ m
    · obtain ⟨F, M, q⟩ := s2
      exact m.ex cls d g l σ H h ⟨F, M, q.tmp q.tm.2⟩
end
end Sx
set_option Elab.async false
set_option linter.all false
set_option maxRecDepth 100000
set_option maxHeartbeats 2000000
/-! List comprehensions. -/
namespace Sx
open PySem L2

theorem wipe_at {σ : L2.St} {j : Nat} : ∀ {vs : List Nat}, (wipe σ vs)[j]? = if j ∈ vs then (σ[j]?).map (fun _ => none) else σ[j]?
  | [] => by simp [wipe]
  | v :: vs => by
    unfold wipe
    by_cases e : v = j
    · subst e
      rw [if_pos List.mem_cons_self]
      by_cases h : v < σ.length
      · rw [List.getElem?_set_self (by rw [wipe_length]; exact h), List.getElem?_eq_getElem h]; rfl
      · rw [List.getElem?_eq_none (by rw [List.length_set, wipe_length]; omega), List.getElem?_eq_none (by omega)]; rfl
    · rw [List.getElem?_set_ne e, wipe_at (vs := vs)]
      have q : j ∈ v :: vs ↔ j ∈ vs := by
        rw [List.mem_cons]
        exact ⟨fun h => h.elim (fun z => absurd z.symm e) id, .inr⟩
      by_cases z : j ∈ vs
      · rw [if_pos z, if_pos (q.mpr z)]
      · rw [if_neg z, if_neg (fun y => z (q.mp y))]
theorem wipe_set {σ : L2.St} {vs : List Nat} {i : Nat} {x : Option V} (h : i ∈ vs) : wipe (σ.set i x) vs = wipe σ vs := by
  apply List.ext_getElem?
  intro j
  rw [wipe_at, wipe_at]
  by_cases z : j ∈ vs
  · rw [if_pos z, if_pos z]
    by_cases e : i = j
    · subst e
      by_cases q : i < σ.length
      · rw [List.getElem?_set_self q, List.getElem?_eq_getElem q]; rfl
      · rw [List.getElem?_eq_none (by rw [List.length_set]; omega), List.getElem?_eq_none (by omega)]
    · rw [List.getElem?_set_ne e]
  · rw [if_neg z, if_neg z]
    rw [List.getElem?_set_ne (fun e => z (by rw [← e]; exact h))]
theorem wipe_wipe {σ : L2.St} {vs : List Nat} : wipe (wipe σ vs) vs = wipe σ vs := by
  apply List.ext_getElem?
  intro j
  rw [wipe_at, wipe_at]
  by_cases z : j ∈ vs
  · rw [if_pos z, if_pos z]; cases σ[j]? <;> rfl
  · rw [if_neg z, if_neg z]
theorem wipe_sets {vs : List Nat} : ∀ {is : List Nat} {ws : List V} {σ : L2.St}, (∀ i ∈ is, i ∈ vs) → wipe (setsV σ is ws) vs = wipe σ vs
  | [], _, _, _ => by unfold setsV; rfl
  | _ :: _, [], _, _ => by unfold setsV; rfl
  | i :: is, w :: ws, σ, h => by
    unfold setsV
    rw [wipe_sets (is := is) fun j hj => h j (List.mem_cons_of_mem _ hj), wipe_set (h i List.mem_cons_self)]
def wipeG (g : Gm) : List Nat → Gm
  | [] => g
  | v :: vs => (wipeG g vs).set v none
theorem Sl.wipe {K : PySem.W.Frag} {F : Hp} {g : Gm} {σ : L2.St} (h : Sl K F g σ) : ∀ vs, Sl K F (wipeG g vs) (L2.wipe σ vs)
  | [] => h
  | v :: vs => by
    unfold wipeG L2.wipe
    exact (Sl.wipe h vs).clear v
section
variable {X : Cx} {W : WX} {g g' : Gm} {l l' : List Res} {Φ : Po} {e e2 a b c o : Expr} {es : List Expr} {d d1 d2 d3 : D} {pos p p2 : Pos} {rest : List Stmt}
/-- a part that is owned and not touched -/
theorem S.fr {K : PySem.W.Frag} {en : En} {T : Tm} {r : Res} {σ : L2.St} {H : Hp} (s : S K en g T (r :: l) σ H) : ∃ en', S K en' g T l σ H ∧ ∀ {T' : Tm} {H' : Hp} {g' : Gm} {σ' : L2.St}, S K en' g' T' l σ' H' → S K en g' T' (r :: l) σ' H' := by
  obtain ⟨F, M, q⟩ := s
  obtain ⟨A, B, rfl, dj, p, rs⟩ := q.rs
  refine ⟨⟨F, B, H⟩, ⟨F, B, At.entry q.exF (q.exM.joinR dj) (Dj.r dj q.dj.sym).sym q.sl q.tm rs⟩, fun {T'} {H'} {g'} {σ'} ⟨F2, M2, b⟩ => ?_⟩
  have e : join A B = join B A := dj.comm
  rw [e] at q
  have z := q.frame (lB := [r]) dj.sym ⟨A, emp, (join_emp A).symm, Dj.emp A, p, rfl⟩ b
  have z2 : At K en g' T' (l ++ [r]) σ' H' F2 (join M2 A) := (z.tmp b.tm).slots b.sl
  exact S.perm (List.perm_append_singleton r l) ⟨F2, _, z2⟩
theorem Px.fr {r : Res} (h : Px X e g l d) : Px X e g (r :: l) d := fun en T σ H Q s k => by
  obtain ⟨en', s', back⟩ := s.fr
  exact h en' T σ H Q s' fun v H' s2 => k v H' (back s2)
theorem Ts.fr {r : Res} {k : Bool} (h : Ts X e g l k) : Ts X e g (r :: l) k := fun en T σ H Q s kk => by
  obtain ⟨en', s', back⟩ := s.fr
  exact h en' T σ H Q s' fun H' s2 => kk H' (back s2)
/-- the slots as they stood -/
def Tm.sl (K : PySem.W.Frag) (T : Tm) (g : Gm) (σ : L2.St) : Tm := ⟨fun F => Sl K F g σ ∧ T.P F, fun e h => ⟨h.1.mono e, T.mono e h.2⟩⟩
/-- what is kept -/
def keepL (rs : List (Option D)) : List D := rs.filterMap id
theorem keepL_some {rs : List D} : keepL (rs.map some) = rs := by
  unfold keepL
  rw [List.filterMap_map]
  show List.filterMap (fun x => some x) rs = rs
  rw [List.filterMap_some]
theorem keepL_len {rs : List (Option D)} : (keepL rs).length ≤ rs.length := List.length_filterMap_le _ _
abbrev Blkc (X : Cx) (scope : Scope) (Pp : Cx → Prop) : Prop := ∀ (s : Shared) (H : Hp) (C : Addr) (cl : List (Str × Addr)) (fp : List Addr), Pp (X.blk s H scope (compEnvC scope cl C X.env) fp)
/-- the reading of a comprehension -/
theorem lc_read {lk : List Res} {own : List (Str × Nat)} {gt : TG} {is : List Nat} {ds : List D} {rs : List (Option D)} {wi : TI} {te : TE} {tt : TT}
    (hw : ∀ en T σ H (R : It → Hp → Prop), S X.K en g T l σ H → (∀ J H1 F M, At X.K en g T l σ H1 F M → JG X.K lk F J ds → R J H1) → wi σ H R) (hk : SubR l lk)
    (his : ∀ i ∈ is, i ∈ own.map (·.2)) (hlen : rs.length = ds.length) (hz : rs.length ≤ sizeLine)
    (hs : ∀ (i : Nat) (d : D), ds[i]? = some d → ∃ es k r, Tg X.K gt is d es ∧ rs[i]? = some (if k = true then some r else none) ∧
      (∀ r0 en T σ H (Q : Bool → Hp → Prop), S X.K en (sets (wipeG g (own.map (·.2))) is es) T (r0 :: l) σ H → (∀ H', S X.K en (sets (wipeG g (own.map (·.2))) is es) T (r0 :: l) σ H' → Q k H') → tt σ H Q) ∧
      (k = true → ∀ r0 en T σ H (Q : VK), S X.K en (sets (wipeG g (own.map (·.2))) is es) T (r0 :: l) σ H → (∀ v H', S X.K en (sets (wipeG g (own.map (·.2))) is es) (T.and X.K v r) (r0 :: l) σ H' → Q v H') → te σ H Q))
    {en : En} {T : Tm} {σ : L2.St} {H : Hp} {Q : VK} (s : S X.K en g T l σ H) (kk : ∀ p H', S X.K en g T (ownL X.K p (keepL rs) :: l) σ H' → Q (.ref p) H') : tLc wi gt tt te (own.map (·.2)) σ H Q := by
  refine hw en T σ H _ s fun J H1 F0 M0 q0 jg => ?_
  intro Dl hD
  refine ⟨fun i m H' => i + m = ds.length ∧ S X.K en (wipeG g (own.map (·.2))) ((T.sl X.K g σ).ex F0) (ownL X.K Dl (keepL (rs.take i)) :: l) (L2.wipe σ (own.map (·.2))) H', ⟨ds.length, by simp, ?_⟩, fun i m H' hW => ?_⟩
  · have q1 := q0.newO (r := ownL X.K Dl []) (A := one Dl (.lst [])) (H' := upd H1 Dl (.lst [])) (.new hD) (fun x o z => by obtain ⟨rfl, rfl⟩ := one_some z; exact upd_same) (fun x o z => by obtain ⟨rfl, rfl⟩ := one_some z; exact hD) ⟨[], .nil, rfl⟩
    rw [List.take_zero]
    exact ⟨F0, _, (q1.tmp (T' := (T.sl X.K g σ).ex F0) ⟨.rf, q0.sl, q0.tm⟩).slots (q0.sl.wipe _)⟩
  · obtain ⟨em, F, M, q⟩ := hW
    obtain ⟨junk0, pk0⟩ := id hk
    obtain ⟨Mk, rk, ek⟩ := Rs.sub (lk := lk) ⟨junk0 ++ [ownL X.K Dl (keepL (rs.take i))], by
      have z := (pk0.cons (ownL X.K Dl (keepL (rs.take i)))).trans (List.perm_append_comm (l₁ := [_]))
      rw [← List.append_assoc]; exact z⟩ q.rs q.exM
    obtain ⟨jgo, jst, jy⟩ := jg F Mk H' q.tm.1 q.exF ek rk
    cases m with
    | zero =>
      have e : i = ds.length := by omega
      subst e
      refine .inl ⟨jst, kk Dl H' ⟨F, M, ?_⟩⟩
      rw [List.take_of_length_le (by omega)] at q
      exact (q.tmp (T' := T) q.tm.2.2).slots q.tm.2.1
    | succ m =>
      have hi : i < ds.length := by omega
      refine .inr ⟨jgo i hi, fun H2 => S X.K en (wipeG g (own.map (·.2))) ((T.sl X.K g σ).ex F0) (ownL X.K Dl (keepL (rs.take (i + 1))) :: l) (L2.wipe σ (own.map (·.2))) H2, fun H2 h => ⟨m, by omega, by omega, h⟩, fun x H2 hy => ?_⟩
      obtain ⟨es, b, r, htg, hr, ht, he⟩ := hs i ds[i] (List.getElem?_eq_getElem hi)
      obtain ⟨F2, nw, fx⟩ := jy i ds[i] x H2 (List.getElem?_eq_getElem hi) hy
      have q2 := q.new nw
      refine htg F2 H2 x _ _ q2.exF fx fun vs fvs => ?_
      refine ⟨by rw [wipe_sets his, wipe_wipe], ?_⟩
      have et : rs.take (i + 1) = rs.take i ++ [if b = true then some r else none] := by
        rw [List.take_add_one, hr]; rfl
      refine ht _ en ((((T.sl X.K g σ).ex F0)).sl X.K (wipeG g (own.map (·.2))) (L2.wipe σ (own.map (·.2)))) _ H2 _ ⟨F2, M, (q2.tmp (T' := (((T.sl X.K g σ).ex F0)).sl X.K (wipeG g (own.map (·.2))) (L2.wipe σ (own.map (·.2)))) ⟨q2.sl, q2.tm⟩).slots (q2.sl.sets fvs)⟩ fun H3 s3 => ?_
      cases b with
      | false =>
        show S X.K en _ _ _ _ H3
        obtain ⟨F3, M3, q3⟩ := s3
        rw [et]
        have e2 : keepL (rs.take i ++ [if false = true then some r else none]) = keepL (rs.take i) := by
          unfold keepL
          rw [List.filterMap_append]
          show _ ++ [] = _
          rw [List.append_nil]
        rw [e2]
        exact ⟨F3, M3, (q3.tmp q3.tm.2).slots q3.tm.1⟩
      | true =>
        show te _ H3 _
        refine he rfl _ en _ _ H3 _ s3 fun v H4 s4 => ?_
        obtain ⟨F4, M4, q4⟩ := s4
        obtain ⟨ws, fw, hp⟩ := q4.rs.own (k := 0) rfl q4.exM
        refine ⟨ws, hp, ?_, ?_⟩
        · rw [fw.length]
          have h1 := keepL_len (rs := rs.take i)
          rw [List.length_take] at h1
          omega
        · obtain ⟨M5, q5⟩ := (q4.tmp q4.tm.2).putL (k := 0) rfl (fw.app (.cons q4.tm.1 .nil))
          rw [et]
          have e2 : keepL (rs.take i ++ [if true = true then some r else none]) = keepL (rs.take i) ++ [r] := by
            unfold keepL
            rw [List.filterMap_append]
            rfl
          rw [e2]
          exact ⟨F4, M5, (q5.tmp q5.tm.2).slots q5.tm.1⟩
def teB (X : Cx) (scope : Scope) (e : Expr) : TE := fun σ H Q => Blkc X scope fun Y => wpE Y e σ H Q
def ttB (X : Cx) (scope : Scope) (e : Expr) : TT := fun σ H Q => Blkc X scope fun Y => wpT Y e σ H Q
theorem teB_pe {scope : Scope} : ∀ (s : Shared) (H : Hp) (C : Addr) (cl : List (Str × Addr)) (fp : List Addr), PE (X.blk s H scope (compEnvC scope cl C X.env) fp) e (teB X scope e) := fun s H C cl fp => ⟨fun pins s' σ H' Q I h => h s H C cl fp pins s' I⟩
theorem ttB_pt {scope : Scope} : ∀ (s : Shared) (H : Hp) (C : Addr) (cl : List (Str × Addr)) (fp : List Addr), PT (X.blk s H scope (compEnvC scope cl C X.env) fp) e (ttB X scope e) := fun s H C cl fp => ⟨fun pins s' σ H' Q I h => h s H C cl fp pins s' I⟩
/-- [elt for tg in iter], a new list -/
theorem ev_lc {tg iter elt : Expr} {scope : Scope} {own : List (Str × Nat)} {lk : List Res} {gt : TG} {is : List Nat} {ds rs : List D} (hc : X.calm = true) (hN : X.N.Nodup) (hi : ItwP X tg iter g l lk ds) (ok : BlkOk X.N X.env.scope scope own)
    (hg : Blkc X scope fun Y => PG Y tg gt) (his : ∀ i ∈ is, i ∈ own.map (·.2)) (hlen : rs.length = ds.length) (hz : rs.length ≤ sizeLine)
    (hs : ∀ (i : Nat) (d : D), ds[i]? = some d → ∃ es r, Tg X.K gt is d es ∧ rs[i]? = some r ∧ Blkc X scope fun Y => Px Y elt (sets (wipeG g (own.map (·.2))) is es) l r) (hf : ∀ x, foldedSetIterable iter X.env x = pure x := by intro _; rfl) (hk : SubR l lk := by first | exact subr0 | exact subr1 0 rfl | exact subr1 1 rfl | exact subr1 2 rfl | exact subr1 3 rfl | exact subr1 4 rfl | exact subr1 5 rfl | exact subr2 0 0 rfl rfl | exact subr2 1 0 rfl rfl | exact subr2 0 1 rfl rfl | exact subr2 1 1 rfl rfl | exact subr2 2 0 rfl rfl | exact subr2 2 1 rfl rfl) :
    Ev X (.ListComp elt [⟨tg, iter, [], 0⟩] scope pos) g l (fun d' l' => ∃ p, d' = .adr p ∧ l' = ownL X.K p rs :: l) := fun en T σ H Q s k => by
  obtain ⟨wi, pi, hw⟩ := hi
  refine wpE_of (pe_lc hc hN pi ok hg (fun _ _ _ _ _ => pts_nil) teB_pe hf) ?_
  refine lc_read (rs := rs.map some) hw hk his (by rw [List.length_map]; exact hlen) (by rw [List.length_map]; exact hz) (fun i d hd => ?_) s fun p H' s' => ?_
  · obtain ⟨es, r, h1, h2, h3⟩ := hs i d hd
    refine ⟨es, true, r, h1, by rw [List.getElem?_map, h2]; rfl, fun r0 en T σ H Q s kk => kk H s, fun _ r0 en T σ H Q s kk => ?_⟩
    intro s0 H0 C cl fp
    exact (h3 s0 H0 C cl fp).fr en T σ H Q s kk
  · rw [keepL_some] at s'
    obtain ⟨F, M, q⟩ := s'
    exact k _ _ _ H' ⟨p, rfl, rfl⟩ ⟨F, M, q.tmp ⟨.adr p, q.tm⟩⟩
theorem px_lc {tg iter elt : Expr} {scope : Scope} {own : List (Str × Nat)} {lk : List Res} {gt : TG} {is : List Nat} {ds rs : List D} (hc : X.calm = true) (hN : X.N.Nodup) (hi : ItwP X tg iter g l lk ds) (ok : BlkOk X.N X.env.scope scope own)
    (hg : Blkc X scope fun Y => PG Y tg gt) (his : ∀ i ∈ is, i ∈ own.map (·.2)) (hlen : rs.length = ds.length) (hz : rs.length ≤ sizeLine)
    (hs : ∀ (i : Nat) (d : D), ds[i]? = some d → ∃ es r, Tg X.K gt is d es ∧ rs[i]? = some r ∧ Blkc X scope fun Y => Px Y elt (sets (wipeG g (own.map (·.2))) is es) l r) (hf : ∀ x, foldedSetIterable iter X.env x = pure x := by intro _; rfl) (hk : SubR l lk := by first | exact subr0 | exact subr1 0 rfl | exact subr1 1 rfl | exact subr1 2 rfl | exact subr1 3 rfl | exact subr1 4 rfl | exact subr1 5 rfl | exact subr2 0 0 rfl rfl | exact subr2 1 0 rfl rfl | exact subr2 0 1 rfl rfl | exact subr2 1 1 rfl rfl | exact subr2 2 0 rfl rfl | exact subr2 2 1 rfl rfl) :
    Px X (.ListComp elt [⟨tg, iter, [], 0⟩] scope pos) g l (.lst rs) := (ev_lc hc hN hi ok hg his hlen hz hs hf hk).frz
/-- [elt for tg in iter if c] -/
theorem ev_lcIf {tg iter elt : Expr} {scope : Scope} {own : List (Str × Nat)} {lk : List Res} {gt : TG} {is : List Nat} {ds : List D} {rs : List (Option D)} (hc : X.calm = true) (hN : X.N.Nodup) (hi : ItwP X tg iter g l lk ds) (ok : BlkOk X.N X.env.scope scope own)
    (hg : Blkc X scope fun Y => PG Y tg gt) (his : ∀ i ∈ is, i ∈ own.map (·.2)) (hlen : rs.length = ds.length) (hz : rs.length ≤ sizeLine)
    (hs : ∀ (i : Nat) (d : D), ds[i]? = some d → ∃ es k r, Tg X.K gt is d es ∧ rs[i]? = some (if k = true then some r else none) ∧ (Blkc X scope fun Y => Ts Y c (sets (wipeG g (own.map (·.2))) is es) l k) ∧ (k = true → Blkc X scope fun Y => Px Y elt (sets (wipeG g (own.map (·.2))) is es) l r)) (hf : ∀ x, foldedSetIterable iter X.env x = pure x := by intro _; rfl) (hk : SubR l lk := by first | exact subr0 | exact subr1 0 rfl | exact subr1 1 rfl | exact subr1 2 rfl | exact subr1 3 rfl | exact subr1 4 rfl | exact subr1 5 rfl | exact subr2 0 0 rfl rfl | exact subr2 1 0 rfl rfl | exact subr2 0 1 rfl rfl | exact subr2 1 1 rfl rfl | exact subr2 2 0 rfl rfl | exact subr2 2 1 rfl rfl) :
    Ev X (.ListComp elt [⟨tg, iter, [c], 0⟩] scope pos) g l (fun d' l' => ∃ p, d' = .adr p ∧ l' = ownL X.K p (keepL rs) :: l) := fun en T σ H Q s k => by
  obtain ⟨wi, pi, hw⟩ := hi
  refine wpE_of (pe_lc hc hN pi ok hg (fun s H C cl fp => pts_one (ttB_pt s H C cl fp)) teB_pe hf) ?_
  refine lc_read (rs := rs) hw hk his hlen hz (fun i d hd => ?_) s fun p H' s' => ?_
  · obtain ⟨es, b, r, h1, h2, h3, h4⟩ := hs i d hd
    refine ⟨es, b, r, h1, h2, fun r0 en T σ H Q s kk => ?_, fun hb r0 en T σ H Q s kk => ?_⟩
    · intro s0 H0 C cl fp
      exact (h3 s0 H0 C cl fp).fr en T σ H Q s kk
    · intro s0 H0 C cl fp
      exact (h4 hb s0 H0 C cl fp).fr en T σ H Q s kk
  · obtain ⟨F, M, q⟩ := s'
    exact k _ _ _ H' ⟨p, rfl, rfl⟩ ⟨F, M, q.tmp ⟨.adr p, q.tm⟩⟩
/-- x = [..] on one line, x a local name -/
theorem blk_setLcX {tg iter elt : Expr} {ifs : List Expr} {scope : Scope} {own : List (Str × Nat)} {i : Nat} {y : Str} {py spos : Pos} {Psi : D → List Res → Prop} {wi : TI} {gt : TG} {tt : TT} {te : TE}
    (hps : PS X (.Assign [.Name y py] (.ListComp elt [⟨tg, iter, ifs, 0⟩] scope pos) spos) (tAsg (tLc wi gt tt te (own.map (·.2))) (gName i)))
    (hr : ∀ en T σ H (Q : VK), S X.K en g T l σ H → (∀ v d l' H', Psi d l' → S X.K en g (T.and X.K v d) l' σ H' → Q v H') → tLc wi gt tt te (own.map (·.2)) σ H Q)
    (h : ∀ d l', Psi d l' → Blk X W rest (g.set i (some d)) l' Φ) : Blk X W (.Assign [.Name y py] (.ListComp elt [⟨tg, iter, ifs, 0⟩] scope pos) spos :: rest) g l Φ := fun en T σ H D s m => wpS_of (pss_cons hps pss_wp) (by
  show tLc wi gt tt te (own.map (·.2)) σ H (fun x H1 => gName i x σ H1 (wpS X rest D))
  refine hr en T σ H _ s fun v d l' H' p s' => ?_
  obtain ⟨F, M, a⟩ := s'
  exact h d l' p en T (σ.set i (some v)) H' D ⟨F, M, (a.tmp a.tm.2).slots (a.sl.set i a.tm.1)⟩ m)
theorem blk_setLcO {tg iter elt : Expr} {scope : Scope} {own : List (Str × Nat)} {lk : List Res} {gt : TG} {is : List Nat} {ds rs : List D} {i : Nat} {y : Str} {py spos : Pos} (hc : X.calm = true) (hN : X.N.Nodup) (hy : X.N[i]? = some y) (hyl : X.env.scope.names.lookup y = some .local)
    (hsw : swapsWith (.ListComp elt [⟨tg, iter, [], 0⟩] scope pos) (some (.Name y py)) spos.line X.env = pure true) (hi : ItwP X tg iter g l lk ds) (ok : BlkOk X.N X.env.scope scope own)
    (hg : Blkc X scope fun Y => PG Y tg gt) (his : ∀ i ∈ is, i ∈ own.map (·.2)) (hlen : rs.length = ds.length) (hz : rs.length ≤ sizeLine)
    (hs : ∀ (i : Nat) (d : D), ds[i]? = some d → ∃ es r, Tg X.K gt is d es ∧ rs[i]? = some r ∧ Blkc X scope fun Y => Px Y elt (sets (wipeG g (own.map (·.2))) is es) l r)
    (h : ∀ p, Blk X W rest (g.set i (some (.adr p))) (ownL X.K p rs :: l) Φ) (hf : ∀ x, foldedSetIterable iter X.env x = pure x := by intro _; rfl) (hk : SubR l lk := by first | exact subr0 | exact subr1 0 rfl | exact subr1 1 rfl | exact subr1 2 rfl | exact subr1 3 rfl | exact subr1 4 rfl | exact subr1 5 rfl | exact subr2 0 0 rfl rfl | exact subr2 1 0 rfl rfl | exact subr2 0 1 rfl rfl | exact subr2 1 1 rfl rfl | exact subr2 2 0 rfl rfl | exact subr2 2 1 rfl rfl) : Blk X W (.Assign [.Name y py] (.ListComp elt [⟨tg, iter, [], 0⟩] scope pos) spos :: rest) g l Φ := by
  obtain ⟨wi, pi, hw⟩ := hi
  refine blk_setLcX (Psi := fun d' l' => ∃ p, d' = .adr p ∧ l' = ownL X.K p rs :: l) (ps_setLc hc hN hy hyl hsw pi ok hg (fun _ _ _ _ _ => pts_nil) teB_pe hf) (fun en T σ H Q s k => ?_) fun d l' ⟨p, e1, e2⟩ => by subst e1; subst e2; exact h p
  refine lc_read (rs := rs.map some) hw hk his (by rw [List.length_map]; exact hlen) (by rw [List.length_map]; exact hz) (fun i d hd => ?_) s fun p H' s' => ?_
  · obtain ⟨es, r, h1, h2, h3⟩ := hs i d hd
    refine ⟨es, true, r, h1, by rw [List.getElem?_map, h2]; rfl, fun r0 en T σ H Q s kk => kk H s, fun _ r0 en T σ H Q s kk => ?_⟩
    intro s0 H0 C cl fp
    exact (h3 s0 H0 C cl fp).fr en T σ H Q s kk
  · rw [keepL_some] at s'
    obtain ⟨F, M, q⟩ := s'
    exact k _ _ _ H' ⟨p, rfl, rfl⟩ ⟨F, M, q.tmp ⟨.adr p, q.tm⟩⟩
theorem blk_setLcIfO {tg iter elt : Expr} {scope : Scope} {own : List (Str × Nat)} {lk : List Res} {gt : TG} {is : List Nat} {ds : List D} {rs : List (Option D)} {i : Nat} {y : Str} {py spos : Pos} (hc : X.calm = true) (hN : X.N.Nodup) (hy : X.N[i]? = some y) (hyl : X.env.scope.names.lookup y = some .local)
    (hsw : swapsWith (.ListComp elt [⟨tg, iter, [c], 0⟩] scope pos) (some (.Name y py)) spos.line X.env = pure true) (hi : ItwP X tg iter g l lk ds) (ok : BlkOk X.N X.env.scope scope own)
    (hg : Blkc X scope fun Y => PG Y tg gt) (his : ∀ i ∈ is, i ∈ own.map (·.2)) (hlen : rs.length = ds.length) (hz : rs.length ≤ sizeLine)
    (hs : ∀ (i : Nat) (d : D), ds[i]? = some d → ∃ es k r, Tg X.K gt is d es ∧ rs[i]? = some (if k = true then some r else none) ∧ (Blkc X scope fun Y => Ts Y c (sets (wipeG g (own.map (·.2))) is es) l k) ∧ (k = true → Blkc X scope fun Y => Px Y elt (sets (wipeG g (own.map (·.2))) is es) l r))
    (h : ∀ p, Blk X W rest (g.set i (some (.adr p))) (ownL X.K p (keepL rs) :: l) Φ) (hf : ∀ x, foldedSetIterable iter X.env x = pure x := by intro _; rfl) (hk : SubR l lk := by first | exact subr0 | exact subr1 0 rfl | exact subr1 1 rfl | exact subr1 2 rfl | exact subr1 3 rfl | exact subr1 4 rfl | exact subr1 5 rfl | exact subr2 0 0 rfl rfl | exact subr2 1 0 rfl rfl | exact subr2 0 1 rfl rfl | exact subr2 1 1 rfl rfl | exact subr2 2 0 rfl rfl | exact subr2 2 1 rfl rfl) : Blk X W (.Assign [.Name y py] (.ListComp elt [⟨tg, iter, [c], 0⟩] scope pos) spos :: rest) g l Φ := by
  obtain ⟨wi, pi, hw⟩ := hi
  refine blk_setLcX (Psi := fun d' l' => ∃ p, d' = .adr p ∧ l' = ownL X.K p (keepL rs) :: l) (ps_setLc hc hN hy hyl hsw pi ok hg (fun s H C cl fp => pts_one (ttB_pt s H C cl fp)) teB_pe hf) (fun en T σ H Q s k => ?_) fun d l' ⟨p, e1, e2⟩ => by subst e1; subst e2; exact h p
  refine lc_read (rs := rs) hw hk his hlen hz (fun i d hd => ?_) s fun p H' s' => ?_
  · obtain ⟨es, b, r, h1, h2, h3, h4⟩ := hs i d hd
    refine ⟨es, b, r, h1, h2, fun r0 en T σ H Q s kk => ?_, fun hb r0 en T σ H Q s kk => ?_⟩
    · intro s0 H0 C cl fp
      exact (h3 s0 H0 C cl fp).fr en T σ H Q s kk
    · intro s0 H0 C cl fp
      exact (h4 hb s0 H0 C cl fp).fr en T σ H Q s kk
  · obtain ⟨F, M, q⟩ := s'
    exact k _ _ _ H' ⟨p, rfl, rfl⟩ ⟨F, M, q.tmp ⟨.adr p, q.tm⟩⟩
end
end Sx
set_option Elab.async false
set_option linter.all false
set_option maxRecDepth 100000
set_option maxHeartbeats 2000000
/-! What a text's top has written; a law's own end. -/
namespace Sx
open PySem L2
/-- a def of the module | a method | a class | a class with its __init__ -/
def Dfn (K : PySem.W.Frag) (mg : Str → Option Value) (x : Str) (st : Stmt) : Prop := ∃ f fd, Fun K x x st f fd ∧ mg x = some (.ref f)
def Dmt (K : PySem.W.Frag) (C : Addr) (m qual : Str) (st : Stmt) : Prop := ∃ f fd, Fun K m qual st f fd ∧ Meth K C m f
def Din (K : PySem.W.Frag) (C : Addr) (qual : Str) (st : Stmt) : Prop := ∃ f fd, Fun K "__init__" qual st f fd ∧ Mk K C f
structure Dcl (K : PySem.W.Frag) (mg : Str → Option Value) (x : Str) (C : Addr) : Prop where
  mg : mg x = some (.ref C)
  cl : Cls K C
  kp : PySem.W.keepIn K (.ref C) = true
/-- an own class that isinstance may be asked about -/
structure Isi (K : PySem.W.Frag) (C : Addr) : Prop where
  (ha : PySem.W.findIn K (.ref C) "__class__" = some (some (.builtin "object.__class__"))) (hn : PySem.W.specialIn K (.builtin "object.__class__") "__get__" = some (some (.builtin "getset_descriptor.__get__")))
  (htk : PySem.W.takesIn K (.builtin "object.__class__") = some true) (hm : PySem.W.mroIn K C (.type "object") = some true)
section
variable {K : PySem.W.Frag} {h : Heap} {mg : Str → Option Value} {C f : Addr} {x m qual : Str} {st : Stmt} {oc kV doc pm cdv ct : Value} {od an : Option Addr} {osl : Array (Option Value)}
end
section
variable {P : Program} {w : World} {K : PySem.W.Frag} {mg : Str → Option Value} {base : Heap} {k : Nat} {x m qual : Str} {st : Stmt} {ps : List Str} {sp : Sp} {C : Addr}
abbrev Bnd (x qual : Str) (st : Stmt) (ps : List Str) : Prop := ∀ (kV doc pm : Value) (an : Option Addr) (cdv ct : Value) (us : List Value), us.length = ps.length → bindArgs (PySem.W.fnOf x qual (defArgs st) (defBody st) (defScope st) .none kV doc pm an cdv ct) ⟨us, []⟩ = pure (ps.zip us)
theorem glo_of (d : Dfn K mg x st) (b : Bnd x x st ps) (h : ∀ f fd, Fun K x x st f fd → FnOk P w K mg base CX0 k f fd ps sp) : Glo P w K mg base k x ps sp := by
  obtain ⟨f, fd, F, hm⟩ := d
  exact ⟨f, fd, h f fd F, hm, F.kp, F.binds b⟩
theorem glom_of (d : Dmt K C m qual st) (c : Cls K C) (b : Bnd m qual st ps) (h : ∀ f fd, Fun K m qual st f fd → FnOk P w K mg base CX0 k f fd ps sp) : GloM P w K mg base k C m ps sp := by
  obtain ⟨f, fd, F, hm⟩ := d
  exact ⟨f, fd, h f fd F, c, hm, F.binds b⟩
theorem gloc_of (d : Din K C qual st) (c : Dcl K mg x C) (b : Bnd "__init__" qual st ps) (h : ∀ f fd, Fun K "__init__" qual st f fd → FnOk P w K mg base CX0 k f fd ps sp) : GloC P w K mg base k C x ps sp := by
  obtain ⟨f, fd, F, hm⟩ := d
  exact ⟨f, fd, h f fd F, hm, c.mg, F.binds b⟩
theorem Glo.mono {j : Nat} (g : Glo P w K mg base k x ps sp) (h : k ≤ j) : Glo P w K mg base j x ps sp := let ⟨f, fd, F, r⟩ := g; ⟨f, fd, F.mono h, r⟩
/-- the law: any script of at most 63 ints, True comes out -/
abbrev spL (K : PySem.W.Frag) : Sp := Pu K (fun ns : List Int => ns.length ≤ 63) (fun ns => [.scr (ns.map .int)]) (fun _ => .bl true)
def spLaw (K : PySem.W.Frag) : Sp := fun vs Hh Q _ => ∃ (q : Addr) (ns : List Int), vs = [.ref q] ∧ SqL K Hh q (ns.map V.int) ∧ ns.length ≤ 63 ∧ ∀ H2, Q (.bl true) H2
theorem law_imp {f : Addr} {fd : FuncData} (F : FnOk P w K mg base CX0 k f fd ps (spL K)) : FnOk P w K mg base CX0 k f fd ps (spLaw K) := F.imp fun vs H Q E h => by
  obtain ⟨a, ns, rfl, hS, hl, q⟩ := h
  refine ⟨ns, H, emp, hl, .rf, fun _ _ z => (by cases z), .emp _, .cons (.scr hS (FdAll.ofInts ns)) .nil, rfl, fun v d l' H' hp s => ?_, fun _ _ _ _ z => z.elim⟩
  obtain ⟨rfl, rfl⟩ := hp
  obtain ⟨F, M, a⟩ := s
  have f := a.tm.1
  cases f
  exact q H'
/-- as walk_of asks it -/
theorem law_end {pn : Str} {fa : Addr} {st : Stmt} (d : Dfn K mg "law" st) (hfa : mg "law" = some (.ref fa)) (hb : ∀ (kV doc pm : Value) (an : Option Addr) (cdv ct : Value) (s : Shared) (v : Value), BindsTo s (PySem.W.fnOf "law" "law" (defArgs st) (defBody st) (defScope st) .none kV doc pm an cdv ct) ⟨[v], []⟩ [(pn, v)])
    (h : ∀ base : Heap, K.In base → base.Ns mainGlobals mg → ∀ f fd, Fun K "law" "law" st f fd → FnOk P w K mg base CX0 k f fd [pn] (spL K)) :
    ∃ fd : FuncData, (∀ (s : Shared) (v : Value), BindsTo s fd ⟨[v], []⟩ [(pn, v)]) ∧ ∀ base : Heap, K.In base → base.Ns mainGlobals mg → FnOk P w K mg base CX0 k fa fd [pn] (spLaw K) := by
  obtain ⟨f, fd, F, hm⟩ := d
  rw [hfa] at hm
  cases hm
  obtain ⟨oc, od, kV, doc, pm, an, cdv, ct, osl, rfl, lk, hcd⟩ := id F.ex
  exact ⟨_, hb kV doc pm an cdv ct, fun base h1 h2 => law_imp (h base h1 h2 fa _ F)⟩
end
section
variable {X : Cx} {g : Gm} {l : List Res} {e c : Expr} {d : D} {p pos : Pos}
/-- .. of flat things, lists and tuples, against a built-in class -/
def D.tyv : D → Option String
  | .non => some "NoneType" | .bl _ => some "bool" | .int _ => some "int" | .str _ => some "str" | .lst _ => some "list" | .tup _ => some "tuple" | .scr _ => some "list" | .dK _ => some "dict" | .dT _ => some "dict" | _ => none
theorem tyx_l {K : PySem.W.Frag} {H : Hp} {a : Addr} {xs : List V} (s : SqL K H a xs) : TyX K H (.ref a) (.type "list") := by
  rcases s with (s | ⟨o, s⟩) | ⟨o, its, n, h1, h2, _⟩
  · exact .base (.lst s)
  · exact .base (.frz s)
  · exact .kList h1 h2
theorem tyx_t {K : PySem.W.Frag} {H : Hp} {a : Addr} {xs : List V} (s : SqT K H a xs) : TyX K H (.ref a) (.type "tuple") := by
  rcases s with (s | ⟨o, s⟩) | ⟨o, its, n, h1, h2, _⟩
  · exact .base (.tup s)
  · exact .fTuple s
  · exact .kTuple h1 h2
theorem Fd.tyx {K : PySem.W.Frag} {F H : Hp} {v : V} {d : D} {t : String} (e : Ex F H) (f : Fd K F v d) (h : d.tyv = some t) : TyX K H v (.type t) := by
  cases f with
  | non => cases h; exact .base .non
  | bl b => cases h; exact .base (.bl b)
  | int i => cases h; exact .base (.int i)
  | str x => cases h; exact .base (.str x)
  | lst s a => cases h; exact tyx_l (SqL.of (e _ _ s))
  | scr s a => cases h; exact tyx_l (ex_l e s)
  | dK s a => cases h; exact .base (.dK (e _ _ s))
  | dT s a => cases h; exact .base (.dT (e _ _ s))
  | tup s a => cases h; exact tyx_t (ex_t e s)
  | adr a => cases h
  | ty n => cases h
  | ins a b => cases h
  | exc a b c => cases h
  | kt a => cases h
theorem o_isiT {t n : String} {b : Bool} (ht : d.tyv = some t) (hk : kitB t n = some b) : OpN X.K l (rIsi X.K) [d, .ty n] (.bl b) := fun F M H vs Q eF eM dj rs f k => by
  cases f with
  | cons f1 f2 =>
    cases f2 with
    | cons f2 f3 =>
      cases f2; cases f3
      exact ⟨_, _, _, _, b, rfl, .ty n, f1.tyx eF ht, kit_ty hk, k _ F H (.rf eF) (.bl _)⟩
theorem px_bi {id : String} {x : Str} {r : List V → Hp → VK → Prop} {e1 : Expr} {e2 : List Expr} {ds : List D} (hc : CallR X (.builtin id) r) (hm : X.mg x = none) (ha : Pa X (e1 :: e2) g l ds) (hr : OpN X.K l r ds d) (hg : Gl X x := by rfl) (hv : bootBuiltins x = some (.builtin id) := by decide +kernel) (hn : x ≠ "__name__" := by decide) (hdb : (x == ("__debug__" : Str)) = false := by decide)
    (hs : starEach (e1 :: e2) X.env = (false, eval e1 X.env) :: starEach e2 X.env := by rfl) (hpl : (backTo pos (starEach e2 X.env)).any (·.1) = false := by rfl) : Px X (.Call (.Name x p) (e1 :: e2) [] pos) g l d := px_b (ds := ds) (pe_callB hc hg hm hv pa_wp hn hdb hs hpl) hr ha
theorem px_ty {T : String} {x : Str} {r : List V → Hp → VK → Prop} {e1 : Expr} {e2 : List Expr} {ds : List D} (hc : CallR X (.type T) r) (hm : X.mg x = none) (ha : Pa X (e1 :: e2) g l ds) (hr : OpN X.K l r ds d) (hg : Gl X x := by rfl) (hv : bootBuiltins x = some (.type T) := by decide +kernel) (hn : x ≠ "__name__" := by decide) (hdb : (x == ("__debug__" : Str)) = false := by decide)
    (hs : starEach (e1 :: e2) X.env = (false, eval e1 X.env) :: starEach e2 X.env := by rfl) (hpl : (backTo pos (starEach e2 X.env)).any (·.1) = false := by rfl) : Px X (.Call (.Name x p) (e1 :: e2) [] pos) g l d := px_b (ds := ds) (pe_callTy hc hg hm hv pa_wp hn hdb hs hpl) hr ha
/-- a class of the module, a built-in class, as a value -/
theorem px_cls {C : Addr} {x : Str} (h : X.mg x = some (.ref C)) (hg : Gl X x := by rfl) (hd : (x == ("__debug__" : Str)) = false := by decide) : Px X (.Name x pos) g l (.adr C) := px_c (pe_glob (v := .ref C) hg h rfl hd) fun _ => .adr C
theorem px_tyn {x : Str} {n : String} (hm : X.mg x = none) (hv : bootBuiltins x = some (.type n) := by decide +kernel) (hg : Gl X x := by rfl) (hn : x ≠ "__name__" := by decide) (hd : (x == ("__debug__" : Str)) = false := by decide) : Px X (.Name x pos) g l (.ty n) := px_c (pe_bltn (v := .ty n) hg hm hv rfl hn hd) fun _ => .ty n
theorem px_gi {x : Str} {i : Int} (h : ∃ t, X.mg x = some (.int i t)) (hg : Gl X x := by rfl) (hd : (x == ("__debug__" : Str)) = false := by decide) : Px X (.Name x pos) g l (.int i) := by
  obtain ⟨t, h⟩ := h
  exact px_c (pe_glob (v := .int i) hg h ⟨t, rfl⟩ hd) fun _ => .int i
theorem px_gs {x z : Str} (h : ∃ t, X.mg x = some (.str z t)) (hg : Gl X x := by rfl) (hd : (x == ("__debug__" : Str)) = false := by decide) : Px X (.Name x pos) g l (.str z) := by
  obtain ⟨t, h⟩ := h
  exact px_c (pe_glob (v := .str z) hg h ⟨t, rfl⟩ hd) fun _ => .str z
theorem px_isT (n t : String) (b : Bool) {x : Str} {p2 : Pos} (z : X.mg "isinstance" = none) (zx : X.mg x = none) (h : Px X e g l d) (ht : d.tyv = some t := by rfl) (hk : kitB t n = some b := by decide +kernel) (hv : bootBuiltins x = some (.type n) := by decide +kernel)
    (hg : Gl X "isinstance" := by rfl) (hgx : Gl X x := by rfl) (hn : x ≠ "__name__" := by decide) (hd : (x == ("__debug__" : Str)) = false := by decide)
    (hs : starEach [e, .Name x p2] X.env = (false, eval e X.env) :: starEach [.Name x p2] X.env := by rfl) (hs2 : starEach [.Name x p2] X.env = [(false, eval (.Name x p2) X.env)] := by rfl) (hpl : (backTo pos (starEach [.Name x p2] X.env)).any (·.1) = false := by rfl) :
    Px X (.Call (.Name "isinstance" p) [e, .Name x p2] [] pos) g l (.bl b) := px_bi call_isi z (pa_c h (pa_c (px_tyn zx hv hgx hn hd) pa_n hs2) hs) (o_isiT ht hk) hg (by decide +kernel) (by decide) (by decide) hs hpl
end
section
variable {K : PySem.W.Frag} {l : List Res} {d : D}
/-- len, str, int, list, tuple, max, min -/
abbrev rLen1 (K : PySem.W.Frag) : List V → Hp → VK → Prop := fun xs H Q => ∃ p ys, xs = [.ref p] ∧ (SqL K H p ys ∨ SqT K H p ys) ∧ Q (.int ys.length) H
theorem o_len {ds : List D} {d0 : D} (h : d0 = .lst ds ∨ d0 = .tup ds ∨ d0 = .scr ds) : OpN K l (rLen1 K) [d0] (.int ds.length) := fun F M H vs Q eF eM dj rs f k => by
  cases f with
  | cons f1 f2 =>
    cases f2
    rcases h with rfl | rfl | rfl
    · cases f1 with
      | lst s a =>
        refine ⟨_, _, rfl, .inl (SqL.of (eF _ _ s)), ?_⟩
        rw [a.length]
        exact k _ F H (.rf eF) (.int _)
    · cases f1 with
      | tup s a =>
        refine ⟨_, _, rfl, .inr (ex_t eF s), ?_⟩
        rw [a.length]
        exact k _ F H (.rf eF) (.int _)
    · cases f1 with
      | scr s a =>
        refine ⟨_, _, rfl, .inl (ex_l eF s), ?_⟩
        rw [a.length]
        exact k _ F H (.rf eF) (.int _)
theorem o_lenL {ds : List D} : OpN K l (rLen1 K) [.lst ds] (.int ds.length) := o_len (.inl rfl)
theorem o_lenT {ds : List D} : OpN K l (rLen1 K) [.tup ds] (.int ds.length) := o_len (.inr (.inl rfl))
theorem o_lenR {ds : List D} : OpN K l (rLen1 K) [.scr ds] (.int ds.length) := o_len (.inr (.inr rfl))
theorem o_lenS {x : Str} (h : x.length ≤ sizeLine) : OpN K l (fun xs H Q => ∃ z, xs = [.str z] ∧ z.length ≤ sizeLine ∧ Q (.int z.length) H) [.str x] (.int x.length) := fun F M H vs Q eF eM dj rs f k => by
  cases f with
  | cons f1 f2 =>
    cases f2; cases f1
    exact ⟨x, rfl, h, k _ F H (.rf eF) (.int _)⟩
/-- an item at a place that lies in it -/
theorem atI_in {α : Type} {xs : List α} {i : Int} {x0 : α} (h0 : 0 ≤ i) (h1 : i < xs.length) : atI xs i = some (xs.getD i.toNat x0) := by
  have h2 : i.toNat < xs.length := by omega
  unfold atI ixN
  rw [if_pos h0, if_pos h1]
  show xs[i.toNat]? = _
  rw [List.getElem?_eq_getElem h2, List.getD_eq_getElem?_getD, List.getElem?_eq_getElem h2]
  rfl
theorem atI_map {α β : Type} {f : α → β} {xs : List α} {i : Int} {y : α} (h : atI xs i = some y) : atI (xs.map f) i = some (f y) := by
  unfold atI at h ⊢
  rw [List.length_map]
  cases e : ixN xs.length i with
  | none => rw [e] at h; cases h
  | some n =>
    rw [e] at h
    show (xs.map f)[n]? = some (f y)
    have h' : xs[n]? = some y := h
    rw [List.getElem?_map, h']
    rfl
end
/-- a class without an __init__ of its own -/
structure Mk0 (K : PySem.W.Frag) (C : Addr) : Prop where
  (makes : PySem.W.makesIn K C = true) (kp : PySem.W.keepIn K (.ref C) = true) (init : PySem.W.findIn K (.ref C) "__init__" = some (some (.builtin "object.__init__")))
section
open PySem.W in
end
section
variable {X : Cx} {g : Gm} {l : List Res} {p pos : Pos} {C : Addr} {x : Str}
end
end Sx
set_option Elab.async false
set_option linter.all false
set_option maxRecDepth 100000
set_option maxHeartbeats 2000000
/-! More rules: owned things read as if frozen, slices, new lists, texts. -/
namespace Sx
open PySem L2
section
variable {K : PySem.W.Frag} {l : List Res} {d d1 d2 : D} {ds es : List D}
/-- a list: frozen or owned -/
inductive Lv (K : PySem.W.Frag) (l : List Res) : D → List D → Prop
  | f {ds : List D} : Lv K l (.lst ds) ds
  | o {k : Nat} {p : Addr} {ds : List D} (h : l[k]? = some (ownL K p ds)) : Lv K l (.adr p) ds
/-- .. or the script -/
inductive Lq (K : PySem.W.Frag) (l : List Res) : D → List D → Prop
  | v {d : D} {ds : List D} (h : Lv K l d ds) : Lq K l d ds
  | s {ds : List D} : Lq K l (.scr ds) ds
/-- .. or a tuple -/
inductive Sv (K : PySem.W.Frag) (l : List Res) : D → List D → Prop
  | q {d : D} {ds : List D} (h : Lq K l d ds) : Sv K l d ds
  | t {ds : List D} : Sv K l (.tup ds) ds
abbrev Lq.f : Lq K l (.lst ds) ds := .v .f
abbrev Lq.o {k : Nat} {p : Addr} (h : l[k]? = some (ownL K p ds)) : Lq K l (.adr p) ds := .v (.o h)
abbrev Sv.f : Sv K l (.lst ds) ds := .q (.v .f)
abbrev Sv.o {k : Nat} {p : Addr} (h : l[k]? = some (ownL K p ds)) : Sv K l (.adr p) ds := .q (.v (.o h))
abbrev Sv.s : Sv K l (.scr ds) ds := .q .s
theorem Lv.get {F M H : Hp} {v : V} (h : Lv K l d ds) (eF : Ex F H) (eM : Ex M H) (rs : Rs l F M) (f : Fd K F v d) : ∃ a vs, v = .ref a ∧ H a = some (.lst vs) ∧ FdAll K F vs ds := by
  cases h with
  | f => cases f with | lst s a => exact ⟨_, _, rfl, eF _ _ s, a⟩
  | o h =>
    cases f
    obtain ⟨vs, f, hp⟩ := rs.own h eM
    exact ⟨_, vs, rfl, hp, f⟩
theorem Lq.get {F M H : Hp} {v : V} (h : Lq K l d ds) (eF : Ex F H) (eM : Ex M H) (rs : Rs l F M) (f : Fd K F v d) : ∃ a vs, v = .ref a ∧ SqL K H a vs ∧ FdAll K F vs ds := by
  cases h with
  | v h =>
    obtain ⟨a, vs, e, hp, f⟩ := h.get eF eM rs f
    exact ⟨a, vs, e, SqL.of hp, f⟩
  | s => cases f with | scr s a => exact ⟨_, _, rfl, ex_l eF s, a⟩
theorem Sv.get {F M H : Hp} {v : V} (h : Sv K l d ds) (eF : Ex F H) (eM : Ex M H) (rs : Rs l F M) (f : Fd K F v d) : ∃ a vs, v = .ref a ∧ (SqL K H a vs ∨ SqT K H a vs) ∧ FdAll K F vs ds := by
  cases h with
  | q h =>
    obtain ⟨a, vs, e, hp, f⟩ := h.get eF eM rs f
    exact ⟨a, vs, e, .inl hp, f⟩
  | t => cases f with | tup s a => exact ⟨_, _, rfl, .inr (ex_t eF s), a⟩
end
section
variable {X : Cx} {W : WX} {g g' : Gm} {l l' : List Res} {Φ : Po} {e e2 a b c o : Expr} {es : List Expr} {d d1 d2 d3 : D} {ds ds1 ds2 : List D} {pos p p2 : Pos} {rest : List Stmt}
/-! ### owned things read as if frozen -/
theorem Px.all (h : Px X e g [] d) : Px X e g l d := by
  induction l with
  | nil => exact h
  | cons r l ih => exact ih.fr
/-! ### new lists -/
abbrev NewL (X : Cx) (g : Gm) (l : List Res) (t : TE) (ds : List D) : Prop := ∀ en T σ H (Q : VK), S X.K en g T l σ H → (∀ p ws H1 F M, At X.K en g T l σ H1 F M → FdAll X.K F ws ds → H1 p = none → Q (.ref p) (upd H1 p (.lst ws))) → t σ H Q
abbrev EvL (X : Cx) (e : Expr) (g : Gm) (l : List Res) (ds : List D) : Prop := Ev X e g l (fun d' l' => ∃ p, d' = .adr p ∧ l' = ownL X.K p ds :: l)
theorem ev_new {t : TE} (he : PE X e t) (h : NewL X g l t ds) : EvL X e g l ds := fun en T σ H Q s k => wpE_of he (h en T σ H Q s fun p ws H1 F M q f hp => by
  have q3 := q.newO (r := ownL X.K p ds) (A := one p (.lst ws)) (H' := upd H1 p (.lst ws)) (.new hp) (fun x o z => by obtain ⟨rfl, rfl⟩ := one_some z; exact upd_same) (fun x o z => by obtain ⟨rfl, rfl⟩ := one_some z; exact hp) ⟨ws, f, rfl⟩
  exact k _ (.adr p) _ _ ⟨p, rfl, rfl⟩ ⟨F, _, q3.tmp ⟨.adr p, q.tm⟩⟩)
/-! ### slices -/
def cut {α : Type} (xs : List α) (lo hi : Option Int) : List α := (xs.drop (HT.sIx xs.length 0 lo)).take (HT.sIx xs.length xs.length hi - HT.sIx xs.length 0 lo)
theorem cut_take {α : Type} {xs : List α} {n : Int} (h : 0 ≤ n) : cut xs none (some n) = xs.take n.toNat := by
  unfold cut
  have e : HT.sIx xs.length xs.length (some n) = min n.toNat xs.length := by
    show (if n < 0 then _ else _) = _
    rw [if_neg (by omega)]
  rw [e]
  show (xs.drop 0).take (min n.toNat xs.length - 0) = _
  rw [List.drop_zero, Nat.sub_zero, ← List.take_take, List.take_length]
theorem FdAll.cut {K : PySem.W.Frag} {F : Hp} {vs : List V} {ds : List D} (f : FdAll K F vs ds) (lo hi : Option Int) : FdAll K F (cutV vs lo hi) (cut ds lo hi) := by
  unfold cutV Sx.cut
  rw [f.length]
  exact (f.drop _).take _
/-- a slice's part -/
def Pz (X : Cx) (e : Option Expr) (g : Gm) (l : List Res) (o : Option Int) : Prop := ∃ t, PO X e t ∧ ∀ en T σ H (R : Option Int → Hp → Prop), S X.K en g T l σ H → (∀ H', S X.K en g T l σ H' → R o H') → t σ H R
theorem pz_n : Pz X none g l none := ⟨_, po_none, fun en T σ H R s k => k H s⟩
theorem pz_s {i : Int} (h : Px X e g l (.int i)) : Pz X (some e) g l (some i) := ⟨_, po_some pe_wp, fun en T σ H R s k => h en T σ H _ s fun v H' s' => by
  obtain ⟨F, M, q⟩ := s'
  have f := q.tm.1
  cases f
  exact ⟨i, rfl, k H' ⟨F, M, q.tmp q.tm.2⟩⟩⟩
theorem ev_slL {lo hi : Option Expr} {i j : Option Int} (ho : Px X o g l d) (hd : Lq X.K l d ds) (hl : Pz X lo g l i) (hu : Pz X hi g l j) : EvL X (.Subscript o (.Slice lo hi none p2) pos) g l (cut ds i j) := by
  obtain ⟨tl, pl, hl⟩ := hl
  obtain ⟨tu, pu, hu⟩ := hu
  refine ev_new (pe_slice sl_list pe_wp pl pu) fun en T σ H Q s k => ?_
  refine ho en T σ H _ s fun v H1 s1 => ?_
  refine hl en _ σ H1 _ s1 fun H2 s2 => ?_
  refine hu en _ σ H2 _ s2 fun H3 s3 => ?_
  obtain ⟨F, M, q⟩ := s3
  obtain ⟨a, vs, rfl, sq, f⟩ := hd.get q.exF q.exM q.rs q.tm.1
  exact ⟨a, vs, rfl, sq, fun p hp => k p _ H3 F M (q.tmp q.tm.2) (f.cut i j) hp⟩
theorem px_slL {lo hi : Option Expr} {i j : Option Int} (ho : Px X o g l d) (hd : Lq X.K l d ds) (hl : Pz X lo g l i) (hu : Pz X hi g l j) : Px X (.Subscript o (.Slice lo hi none p2) pos) g l (.lst (cut ds i j)) := (ev_slL ho hd hl hu).frz
theorem px_slT {lo hi : Option Expr} {i j : Option Int} (ho : Px X o g l (.tup ds)) (hl : Pz X lo g l i) (hu : Pz X hi g l j) : Px X (.Subscript o (.Slice lo hi none p2) pos) g l (.tup (cut ds i j)) := fun en T σ H Q s k => by
  obtain ⟨tl, pl, hl⟩ := hl
  obtain ⟨tu, pu, hu⟩ := hu
  refine wpE_of (pe_slice sl_tupA pe_wp pl pu) ?_
  refine ho en T σ H _ s fun v H1 s1 => ?_
  refine hl en _ σ H1 _ s1 fun H2 s2 => ?_
  refine hu en _ σ H2 _ s2 fun H3 s3 => ?_
  obtain ⟨F, M, q⟩ := s3
  obtain ⟨f, t⟩ := q.tm
  cases f with
  | tup sq f =>
    rename_i a vs
    refine ⟨a, vs, rfl, ex_t q.exF sq, fun hw => ?_, fun hw p hp => ?_⟩
    · refine k _ H3 ⟨F, M, q.tmp ⟨?_, t⟩⟩
      have e : cut ds i j = ds := by
        unfold cut
        rw [← f.length, hw.1, hw.2, List.drop_zero, Nat.sub_zero, f.length, List.take_length]
      rw [e]
      exact .tup sq f
    · have n := New.upd (o := .tup (cutV vs i j)) q.exF hp
      exact k _ _ ⟨_, M, (q.new n).tmp ⟨.tup (SqT.of upd_same) (FdAll.mono n.f _ (f.cut i j)), T.mono n.f t⟩⟩
/-! ### + and * of lists, list(x), tuple(x) -/
theorem ev_listOf {e1 : Expr} (ha : Px X e1 g l d) (hd : Sv X.K l d ds) (hm : X.mg "list" = none) (hg : Gl X "list" := by rfl) (hs : starEach [e1] X.env = (false, eval e1 X.env) :: starEach [] X.env := by rfl) : EvL X (.Call (.Name "list" p) [e1] [] pos) g l ds :=
  ev_new (pe_callTy call_list_of hg hm (by decide +kernel) (pa_wp (es := [e1])) (by decide) (by decide) hs rfl) fun en T σ H Q s k => by
  refine pa_c ha pa_n hs en T σ H _ s fun vs H1 s1 => ?_
  obtain ⟨F, M, q⟩ := s1
  obtain ⟨f, t⟩ := q.tm
  cases f with
  | cons f1 f2 =>
    cases f2
    obtain ⟨a, ws, rfl, sq, f⟩ := hd.get q.exF q.exM q.rs f1
    exact ⟨a, ws, rfl, sq, fun p hp => k p _ H1 F M (q.tmp t) f hp⟩
theorem px_listOf {e1 : Expr} (ha : Px X e1 g l d) (hd : Sv X.K l d ds) (hm : X.mg "list" = none) (hg : Gl X "list" := by rfl) (hs : starEach [e1] X.env = (false, eval e1 X.env) :: starEach [] X.env := by rfl) : Px X (.Call (.Name "list" p) [e1] [] pos) g l (.lst ds) := (ev_listOf ha hd hm hg hs).frz
/-! ### texts -/
end
section
variable {K : PySem.W.Frag} {l : List Res} {d d1 d2 : D} {ds es : List D}
theorem Op2.to {r : R2} {a b d d' : D} (h : Op2 K l r a b d) (q : d = d') : Op2 K l r a b d' := q ▸ h
theorem OpN.to {r : List V → Hp → VK → Prop} {as : List D} {d d' : D} (h : OpN K l r as d) (q : d = d') : OpN K l r as d' := q ▸ h
/-- a sign in a text -/
theorem o_inX {c : Nat} {z : Str} : Op2 K l (fun x y H Q => ∃ (c : Nat) (z : Str), x = .str ⟨#[c]⟩ ∧ y = .str z ∧ Q (.bl (decide (c ∈ z.cps.toList))) H) (.str ⟨#[c]⟩) (.str z) (.bl (decide (c ∈ z.cps.toList))) := fun F M H v u Q eF eM dj rs f1 f2 k => by
  cases f1; cases f2
  exact ⟨c, z, rfl, rfl, k _ F H (.rf eF) (.bl _)⟩
theorem o_all {bs : List Bool} (h : Lq K l d (bs.map .bl)) : OpN K l (rAll K) [d] (.bl (bs.all id)) := fun F M H vs Q eF eM dj rs f k => by
  cases f with
  | cons f1 f2 =>
    cases f2
    obtain ⟨a, ws, rfl, sq, f⟩ := h.get eF eM rs f1
    have e := f.bls
    subst e
    exact ⟨a, bs, rfl, sq, k _ F H (.rf eF) (.bl _)⟩
/-- the greatest, the least of ints -/
def maxL : List Int → Int
  | [] => 0
  | [a] => a
  | a :: b :: r => max a (maxL (b :: r))
def minL : List Int → Int
  | [] => 0
  | [a] => a
  | a :: b :: r => min a (minL (b :: r))
/-- len of any -/
theorem o_lenV (h : Sv K l d ds) : OpN K l (rLen1 K) [d] (.int ds.length) := fun F M H vs Q eF eM dj rs f k => by
  cases f with
  | cons f1 f2 =>
    cases f2
    obtain ⟨a, ws, rfl, sq, f⟩ := h.get eF eM rs f1
    refine ⟨a, ws, rfl, sq, ?_⟩
    rw [f.length]
    exact k _ F H (.rf eF) (.int _)
/-- an item of any list -/
theorem o_ixV {i : Int} (h : Lq K l d1 ds) (hi : atI ds i = some d) : Op2 K l (rIxL K) d1 (.int i) d := fun F M H v u Q eF eM dj rs f1 f2 k => by
  cases f2
  obtain ⟨a, ws, rfl, sq, f⟩ := h.get eF eM rs f1
  obtain ⟨w, h1, h2⟩ := atI_fd f hi
  exact ⟨_, _, i, w, rfl, rfl, sq, h1, k w F H (.rf eF) h2⟩
/-- == of lists, one owned -/
theorem Lv.dp {F M H : Hp} {v : V} {ps : List PyData} (h : Lv K l d ds) (eF : Ex F H) (eM : Ex M H) (rs : Rs l F M) (f : Fd K F v d) (hp : D.pys ds = some ps) : Dp K H v (.list ps) := by
  obtain ⟨a, vs, rfl, sq, f⟩ := h.get eF eM rs f
  exact .lst (SqL.of sq) (FdAll.dp eF ds f hp)
end
section
variable {X : Cx} {W : WX} {g g' : Gm} {l l' : List Res} {Φ : Po} {e e2 a b c o : Expr} {es : List Expr} {d d1 d2 d3 : D} {ds ds1 ds2 : List D} {pos p p2 : Pos} {rest : List Stmt}
/-- x.append(e), x an owned list -/
theorem blk_add {k : Nat} {q : Addr} {apos cpos : Pos} (ho : Px X o g l (.adr q)) (he : Px X e g l d) (hk : l[k]? = some (ownL X.K q ds)) (hz : ds.length < sizeLine) (h : Blk X W rest (g) (l.set k (ownL X.K q (ds ++ [d]))) Φ)
    (hp : PS X (.Expr (.Call (.Attribute o "append" apos) [e] [] cpos) pos) (tDrop (tBM X.K "list" rAppend (wpE X o) (tCons (wpE X e) tNil))) := by exact ps_expr (pe_bm PySem.F.plainAttrs_list PySem.F.slot_list_append PySem.F.type_list_append mt_append pe_wp (pa_cons pe_wp pa_nil))) :
    Blk X W (.Expr (.Call (.Attribute o "append" apos) [e] [] cpos) pos :: rest) g l Φ := blk_app ho he hk hz h hp
end
end Sx
set_option Elab.async false
set_option linter.all false
set_option maxRecDepth 100000
set_option maxHeartbeats 2000000
/-! == of data that are alike. -/
namespace Sx
open PySem L2
theorem Dj.r' {A B C : Hp} (h : Dj C (join A B)) : Dj C B := fun x o e => (join_none (h x o e)).2
theorem nth_set : ∀ {g : Gm} {i : Nat} {d : D}, i < g.length → nth (g.set i (some d)) i = some d
  | [], _, _, h => absurd h (Nat.not_lt_zero _)
  | o :: _, 0, d, _ => by cases o <;> rfl
  | o :: g, i + 1, d, h => by
    have := nth_set (g := g) (i := i) (d := d) (Nat.lt_of_succ_lt_succ h)
    cases o <;> exact this
/-- a datum of plain things, at most k deep -/
def Dp' (k : Nat) (d : D) : Prop := ∃ p, d.py = some p ∧ p.canLay0 = true ∧ p.depth ≤ k
theorem Dp'.non {k : Nat} : Dp' k .non := ⟨_, rfl, rfl, Nat.zero_le _⟩
theorem Dp'.bl {k : Nat} {b : Bool} : Dp' k (.bl b) := ⟨_, rfl, rfl, Nat.zero_le _⟩
theorem Dp'.int {k : Nat} {i : Int} : Dp' k (.int i) := ⟨_, rfl, rfl, Nat.zero_le _⟩
theorem Dp'.str {k : Nat} {x : Str} (h : PySem.PyData.strOk x = true := by decide +kernel) : Dp' k (.str x) := ⟨_, rfl, h, Nat.zero_le _⟩
theorem Dp'.all {k : Nat} : ∀ {ds : List D}, (∀ d ∈ ds, Dp' k d) → ∃ ps, D.pys ds = some ps ∧ PyData.canLayAll0 ps = true ∧ PyData.depthAll ps ≤ k
  | [], _ => ⟨[], rfl, rfl, Nat.zero_le _⟩
  | d :: r, h => by
    obtain ⟨p, h1, h2, h3⟩ := h d List.mem_cons_self
    obtain ⟨ps, h4, h5, h6⟩ := Dp'.all (ds := r) fun z hz => h z (List.mem_cons_of_mem _ hz)
    refine ⟨p :: ps, ?_, ?_, ?_⟩
    · show (D.py d).bind (fun a => (D.pys r).map fun b => a :: b) = _
      rw [h1, h4]
      rfl
    · show (PyData.canLay0 p && PyData.canLayAll0 ps) = true
      rw [h2, h5]
      rfl
    · show max (PyData.depth p) (PyData.depthAll ps) ≤ k
      exact Nat.max_le.mpr ⟨h3, h6⟩
theorem Dp'.lst {k : Nat} {ds : List D} (h : ∀ d ∈ ds, Dp' k d) : Dp' (k + 1) (.lst ds) := by
  obtain ⟨ps, h1, h2, h3⟩ := Dp'.all h
  refine ⟨.list ps, ?_, h2, Nat.succ_le_succ h3⟩
  show (D.pys ds).map PyData.list = _
  rw [h1]
  rfl
theorem Dp'.tup {k : Nat} {ds : List D} (h : ∀ d ∈ ds, Dp' k d) : Dp' (k + 1) (.tup ds) := by
  obtain ⟨ps, h1, h2, h3⟩ := Dp'.all h
  refine ⟨.tuple ps, ?_, h2, Nat.succ_le_succ h3⟩
  show (D.pys ds).map PyData.tuple = _
  rw [h1]
  rfl
theorem Dp'.mono {j k : Nat} {d : D} (h : Dp' j d) (e : j ≤ k) : Dp' k d := let ⟨p, h1, h2, h3⟩ := h; ⟨p, h1, h2, Nat.le_trans h3 e⟩
theorem Dp'.ints {k : Nat} {ns : List Int} : ∀ d ∈ ns.map D.int, Dp' k d := fun d h => by
  obtain ⟨n, _, rfl⟩ := List.mem_map.mp h
  exact .int
section
variable {K : PySem.W.Frag} {l : List Res} {d d1 d2 : D} {ds es : List D} {k : Nat}
theorem shaped_of {p : PyData} (h1 : p.canLay0 = true) (h2 : p.depth ≤ k) (h3 : k ≤ 64) : SeqAt.shaped p = true := by
  show (p.canLay0 && decide (p.depth ≤ 64)) = true
  rw [h1, decide_eq_true (Nat.le_trans h2 h3)]
  rfl
end
section
variable {X : Cx} {W : WX} {g : Gm} {l l' : List Res} {Φ : Po}
/-- what is owned is given up -/
theorem S.dropO {K : PySem.W.Frag} {en : En} {T : Tm} {σ : L2.St} {H : Hp} (s : S K en g T (l' ++ l) σ H) : S K en g T l σ H := by
  obtain ⟨F, M, a⟩ := s
  obtain ⟨A, B, rfl, dj, r1, r2⟩ := a.rs.split
  exact ⟨F, B, a.exF, a.exM.joinR dj, Dj.r' a.dj, a.eF, a.nF, fun x o h => a.nM x o (by rw [join_r (dj.sym x o h)]; exact h), a.fr, a.sl, a.tm, r2⟩
theorem Blk.dropO {sts : List Stmt} (h : Blk X W sts g l Φ) : Blk X W sts g (l' ++ l) Φ := fun en T σ H D s m => h en T σ H D s.dropO m
theorem blk_frzAll {sts : List Stmt} (h : Blk X W sts g [] Φ) : Blk X W sts g l Φ := fun en T σ H D s m => h en T σ H D (S.dropO (l' := l) (by rw [List.append_nil]; exact s)) m
/-- x = [..] on one line, the list not changed behind it -/
theorem Blk.frz' {sts : List Stmt} {p : Addr} {ds : List D} {i : Nat} (hi : i < g.length) (k : Blk X W sts (g.set i (some (.lst ds))) l Φ) : Blk X W sts (g.set i (some (.adr p))) (ownL X.K p ds :: l) Φ := by
  refine Blk.frz (i := i) ?_ ?_
  · exact nth_set hi
  · rw [List.set_set]
    exact k
variable {rest : List Stmt} {pos : Pos} {c : Expr}
end
end Sx
set_option Elab.async false
set_option linter.all false
set_option maxRecDepth 100000
set_option maxHeartbeats 2000000
/-! Slices with a step; dicts. -/
namespace Sx
open PySem L2 PyProof.Rows
/-! ### slices with a step -/
def pickN {α : Type} (xs : List α) (js : List Nat) : List α := js.filterMap (xs[·]?)
theorem pickN_cons {α : Type} (xs : List α) (j : Nat) (js : List Nat) : pickN xs (j :: js) = (match xs[j]? with | some x => [x] | none => []) ++ pickN xs js := by
  unfold pickN
  rw [List.filterMap_cons]
  cases xs[j]? <;> rfl
theorem pickN_map {α β : Type} (f : α → β) (xs : List α) : ∀ js, pickN (xs.map f) js = (pickN xs js).map f
  | [] => rfl
  | j :: js => by
    rw [pickN_cons, pickN_cons, pickN_map f xs js, List.getElem?_map, List.map_append]
    cases xs[j]? <;> rfl
theorem pickN_len {α : Type} (xs : List α) (js : List Nat) : (pickN xs js).length ≤ js.length := List.length_filterMap_le _ _
theorem vals_get : ∀ {vs : List V} {us : List Value} (j : Nat), Vals vs us → (vs[j]? = none ∧ us[j]? = none) ∨ ∃ v u, vs[j]? = some v ∧ us[j]? = some u ∧ RelV v u
  | _, _, _, .nil => .inl ⟨rfl, rfl⟩
  | _, _, 0, .cons r _ => .inr ⟨_, _, rfl, rfl, r⟩
  | _, _, j + 1, .cons _ t => by
    rcases vals_get j t with ⟨h1, h2⟩ | ⟨v, u, h1, h2, h3⟩
    · exact .inl ⟨by rw [List.getElem?_cons_succ]; exact h1, by rw [List.getElem?_cons_succ]; exact h2⟩
    · exact .inr ⟨v, u, by rw [List.getElem?_cons_succ]; exact h1, by rw [List.getElem?_cons_succ]; exact h2, h3⟩
theorem vals_pick {vs : List V} {us : List Value} (h : Vals vs us) : ∀ js, Vals (pickN vs js) (pickN us js)
  | [] => .nil
  | j :: js => by
    rw [pickN_cons, pickN_cons]
    have ih := vals_pick h js
    rcases vals_get j h with ⟨h1, h2⟩ | ⟨v, u, h1, h2, h3⟩
    · rw [h1, h2]; exact ih
    · rw [h1, h2]; exact .cons h3 ih
theorem FdAll.pick {K : PySem.W.Frag} {F : Hp} {vs : List V} {ds : List D} (h : FdAll K F vs ds) : ∀ js, FdAll K F (pickN vs js) (pickN ds js)
  | [] => .nil
  | j :: js => by
    rw [pickN_cons, pickN_cons]
    have ih := FdAll.pick h js
    cases e : ds[j]? with
    | none =>
      have : vs[j]? = none := by
        rw [List.getElem?_eq_none_iff] at e ⊢
        rw [h.length]; exact e
      rw [this]; exact ih
    | some d =>
      obtain ⟨v, h1, h2⟩ := h.get e
      rw [h1]; exact .cons h2 ih
/-- which places xs[lo:hi:st] takes -/
def places (n : Nat) (lo hi st : Option Int) : List Nat := let b := sliceBounds lo hi st n; sliceRange b.1 b.2.1 b.2.2
theorem stride_at {xs : List Value} {lo hi st : Option Int} : slicePick xs.toArray lo hi st = (pickN xs (places xs.length lo hi st)).toArray := by
  unfold slicePick pickN places
  rw [List.size_toArray]
  congr 2
  funext j
  rw [List.getElem?_toArray]
/-- at most so many -/
theorem places_len {n : Nat} {lo hi st : Int} (h1 : 0 ≤ lo) (h2 : lo ≤ hi) (h3 : 0 < st) : (places n (some lo) (some hi) (some st)).length ≤ ((hi - lo + st - 1) / st).toNat := by
  unfold places sliceBounds
  simp only [Option.getD_some, if_pos h3, show ¬ lo < 0 by omega, show ¬ hi < 0 by omega, if_false]
  unfold sliceRange
  rw [List.length_map, List.length_range, if_pos h3]
  split
  · have : (max 0 (min hi (n : Int)) - max 0 (min lo (n : Int)) + st - 1) / st ≤ (hi - lo + st - 1) / st := Int.ediv_le_ediv h3 (by omega)
    omega
  · show (0 : Int).toNat ≤ _
    exact Nat.zero_le _
section
variable {X : Cx} {W : WX} {g g' : Gm} {l l' : List Res} {Φ : Po} {e e2 a b c o v : Expr} {es : List Expr} {d d1 d2 d3 : D} {ds ds1 ds2 : List D} {pos p p2 : Pos} {rest : List Stmt}
def tStride (K : PySem.W.Frag) (te : TE) (tl th ts : TO) : TE := fun σ H Q => te σ H fun x H1 => tl σ H1 fun i H2 => th σ H2 fun j H3 => ts σ H3 fun k H4 => k ≠ some 0 ∧ ∃ q xs, x = .ref q ∧ SqL K H4 q xs ∧ ((pickN xs (places xs.length i j k)).length ≤ sizeLine) ∧ ∀ r, H4 r = none → Q (.ref r) (upd H4 r (.lst (pickN xs (places xs.length i j k))))
theorem pe_stride {te : TE} {tl th ts : TO} {lo hi : Option Expr} {st : Expr} (he : PE X e te) (hl : PO X lo tl) (hu : PO X hi th) (hk : PO X (some st) ts) (hx : ∀ (x y : Value), subscripted (.Slice lo hi (some st) p2) false x y = operate [x, y] (getItem x y) := by intros; with_unfolding_all rfl) :
    PE X (.Subscript e (.Slice lo hi (some st) p2) pos) (tStride X.K te tl th ts) := by
  refine ⟨fun pins t0 σ H Q I h => ?_⟩
  refine Subscript_ (thn (he.run pins t0 σ H _ I h) fun w t1 ⟨x, H1, I1, r1, q1⟩ => ?_)
  refine wpAny_Slice ?_
  refine thn (hl.run pins t1 σ H1 _ I1 q1) fun vi t2 ⟨i, H2, I2, pi, q2⟩ => ?_
  refine thn (hu.run pins t2 σ H2 _ I2 q2) fun vj t3 ⟨j, H3, I3, pj, q3⟩ => ?_
  refine thn (hk.run pins t3 σ H3 _ I3 q3) fun vk t4 ⟨k, H4, I4, pk, nz, q, xs, ex, sq, hz, q4⟩ => ?_
  subst ex
  cases r1
  have J : Inv X pins σ H4 { t4 with heap := t4.heap.push { cls := .type "slice", data := .fields #[vi, vj, vk] } } := I4.kept (t' := t4.toks) fun _ _ z => Heap.get?_push_of_some _ z
  obtain ⟨us, rv, ht, hw⟩ := J.list sq
  have hlen := rv.length
  refine tail_any (T := "list") (id := "list.__getitem__") (ops := [.ref q, .ref t4.heap.objs.size]) ht.isList.typeIs slot_list_getitem.lookup ?_ (hx _ _)
  refine wpAny_getItem_list_slice ht.isList (Heap.IsSliceOf.new ..) pi pj pk nz ?_ (by rw [List.size_toArray] <;> omega)
  rw [stride_at, ← hlen]
  refine ⟨.ref _, _, J.laid (t' := t4.toks) (o := .lst (pickN xs (places xs.length i j k))) (fun _ _ z => Heap.get?_push_of_some _ z) (Nat.le_refl _) ?_, rfl, q4 _ (J.hok.fresh (Nat.le_refl _))⟩
  exact ⟨hz, _, 0, vals_pick rv _, Heap.get?_push_size _ rfl⟩
theorem ev_stride {lo hi : Option Expr} {st : Expr} {i j k : Option Int} (ho : Px X o g l d) (hd : Lq X.K l d ds) (hl : Pz X lo g l i) (hu : Pz X hi g l j) (hs : Pz X (some st) g l k) (hn : k ≠ some 0) (hz : (pickN ds (places ds.length i j k)).length ≤ sizeLine)
    (hx : ∀ (x y : Value), subscripted (.Slice lo hi (some st) p2) false x y = operate [x, y] (getItem x y) := by intros; with_unfolding_all rfl) : EvL X (.Subscript o (.Slice lo hi (some st) p2) pos) g l (pickN ds (places ds.length i j k)) := by
  obtain ⟨tl, pl, hl⟩ := hl
  obtain ⟨tu, pu, hu⟩ := hu
  obtain ⟨ts, ps, hs⟩ := hs
  refine ev_new (pe_stride pe_wp pl pu ps hx) fun en T σ H Q s kk => ?_
  refine ho en T σ H _ s fun v H1 s1 => ?_
  refine hl en _ σ H1 _ s1 fun H2 s2 => ?_
  refine hu en _ σ H2 _ s2 fun H3 s3 => ?_
  refine hs en _ σ H3 _ s3 fun H4 s4 => ?_
  obtain ⟨F, M, q⟩ := s4
  obtain ⟨a, vs, rfl, sq, f⟩ := hd.get q.exF q.exM q.rs q.tm.1
  refine ⟨hn, a, vs, rfl, sq, ?_, fun p hp => ?_⟩
  · rw [f.length, (f.pick _).length]; exact hz
  · rw [f.length]
    exact kk p _ H4 F M (q.tmp q.tm.2) (f.pick _) hp
/-! ### dicts -/
def valD {κ : Type} [DecidableEq κ] (kvs : List (κ × D)) (k : κ) : Option D := (kvs.find? fun kv => decide (kv.1 = k)).map (·.2)
def putKD {κ : Type} [DecidableEq κ] (kvs : List (κ × D)) (k : κ) (d : D) : List (κ × D) :=
  if (kvs.any fun kv => decide (kv.1 = k)) = true then kvs.map (fun kv => if kv.1 = k then (kv.1, d) else kv) else kvs ++ [(k, d)]
section
variable {K : PySem.W.Frag} {F : Hp} {κ : Type} [DecidableEq κ]
theorem FdFs.valV {k : κ} {d : D} : ∀ {vs : List (κ × V)} {kvs : List (κ × D)}, FdFs K F vs kvs → valD kvs k = some d → ∃ v, L2.valV vs k = some v ∧ Fd K F v d
  | _, _, .nil, h => by cases h
  | (n, v) :: vs, (_, d') :: kvs, .cons a b, h => by
    unfold valD at h
    unfold L2.valV
    rw [List.find?_cons] at h ⊢
    by_cases e : n = k
    · rw [decide_eq_true e] at h ⊢
      cases h
      exact ⟨v, rfl, a⟩
    · rw [decide_eq_false e] at h ⊢
      exact FdFs.valV b h
theorem FdFs.noV {k : κ} : ∀ {vs : List (κ × V)} {kvs : List (κ × D)}, FdFs K F vs kvs → valD kvs k = none → L2.valV vs k = none
  | _, _, .nil, h => rfl
  | (n, v) :: vs, (_, d') :: kvs, .cons a b, h => by
    unfold valD at h
    unfold L2.valV
    rw [List.find?_cons] at h ⊢
    by_cases e : n = k
    · rw [decide_eq_true e] at h
      cases h
    · rw [decide_eq_false e] at h ⊢
      exact FdFs.noV b h
theorem FdFs.anyK {k : κ} : ∀ {vs : List (κ × V)} {kvs : List (κ × D)}, FdFs K F vs kvs → (vs.any fun kv => decide (kv.1 = k)) = kvs.any fun kv => decide (kv.1 = k)
  | _, _, .nil => rfl
  | (n, v) :: vs, (_, d') :: kvs, .cons a b => by
    rw [List.any_cons, List.any_cons, FdFs.anyK b]
theorem FdFs.mapK {k : κ} {v : V} {d : D} (h : Fd K F v d) : ∀ {vs : List (κ × V)} {kvs : List (κ × D)}, FdFs K F vs kvs → FdFs K F (vs.map (fun kv => if kv.1 = k then (kv.1, v) else kv)) (kvs.map fun kv => if kv.1 = k then (kv.1, d) else kv)
  | _, _, .nil => .nil
  | (n, v') :: vs, (_, d') :: kvs, .cons a b => by
    rw [List.map_cons, List.map_cons]
    by_cases e : n = k
    · show FdFs K F ((if n = k then (n, v) else (n, v')) :: _) ((if n = k then (n, d) else (n, d')) :: _)
      rw [if_pos e, if_pos e]
      exact .cons h (FdFs.mapK h b)
    · show FdFs K F ((if n = k then (n, v) else (n, v')) :: _) ((if n = k then (n, d) else (n, d')) :: _)
      rw [if_neg e, if_neg e]
      exact .cons a (FdFs.mapK h b)
theorem FdFs.app1 {k : κ} {v : V} {d : D} (h : Fd K F v d) : ∀ {vs : List (κ × V)} {kvs : List (κ × D)}, FdFs K F vs kvs → FdFs K F (vs ++ [(k, v)]) (kvs ++ [(k, d)])
  | _, _, .nil => .cons h .nil
  | _, _, .cons a b => .cons a (FdFs.app1 h b)
theorem FdFs.putK {k : κ} {v : V} {d : D} {vs : List (κ × V)} {kvs : List (κ × D)} (f : FdFs K F vs kvs) (h : Fd K F v d) : FdFs K F (L2.putK vs k v) (putKD kvs k d) := by
  unfold L2.putK putKD
  rw [f.anyK]
  split
  · exact f.mapK h
  · exact f.app1 h
end
def ownD (K : PySem.W.Frag) (p : Addr) (kvs : List (Key × D)) : Res := ⟨fun F M => ∃ vs, FdFs K F vs kvs ∧ M = one p (.dK vs), fun e ⟨vs, h, m⟩ => ⟨vs, FdFs.mono e _ h, m⟩, fun ⟨_, _, m⟩ x xs e => by rw [m] at e; obtain ⟨_, e⟩ := one_some e; cases e⟩
def ownT (K : PySem.W.Frag) (p : Addr) (kvs : List (List Key × D)) : Res := ⟨fun F M => ∃ vs, FdFs K F vs kvs ∧ M = one p (.dT vs), fun e ⟨vs, h, m⟩ => ⟨vs, FdFs.mono e _ h, m⟩, fun ⟨_, _, m⟩ x xs e => by rw [m] at e; obtain ⟨_, e⟩ := one_some e; cases e⟩
/-- .. while it is walked over -/
def ownDz (K : PySem.W.Frag) (p : Addr) (od : Obj) (vs : List (Key × V)) (kvs : List (Key × D)) : Res := ⟨fun F M => FdFs K F vs kvs ∧ M = one p (.frz od (.dK vs)), fun e ⟨h, m⟩ => ⟨FdFs.mono e _ h, m⟩, fun ⟨_, m⟩ x xs e => by rw [m] at e; obtain ⟨_, e⟩ := one_some e; cases e⟩
def ownTz (K : PySem.W.Frag) (p : Addr) (od : Obj) (vs : List (List Key × V)) (kvs : List (List Key × D)) : Res := ⟨fun F M => FdFs K F vs kvs ∧ M = one p (.frz od (.dT vs)), fun e ⟨h, m⟩ => ⟨FdFs.mono e _ h, m⟩, fun ⟨_, m⟩ x xs e => by rw [m] at e; obtain ⟨_, e⟩ := one_some e; cases e⟩
/-- a dict with single keys: frozen or owned | .. with tuples as keys -/
inductive Dv (K : PySem.W.Frag) (l : List Res) : D → List (Key × D) → Prop
  | f {kvs : List (Key × D)} : Dv K l (.dK kvs) kvs
  | o {k : Nat} {p : Addr} {kvs : List (Key × D)} (h : l[k]? = some (ownD K p kvs)) : Dv K l (.adr p) kvs
  | z {k : Nat} {p : Addr} {od : Obj} {vs : List (Key × V)} {kvs : List (Key × D)} (h : l[k]? = some (ownDz K p od vs kvs)) : Dv K l (.adr p) kvs
inductive Du (K : PySem.W.Frag) (l : List Res) : D → List (Key × D) → Prop
  | f {kvs : List (Key × D)} : Du K l (.dK kvs) kvs
  | o {k : Nat} {p : Addr} {kvs : List (Key × D)} (h : l[k]? = some (ownD K p kvs)) : Du K l (.adr p) kvs
inductive Dw (K : PySem.W.Frag) (l : List Res) : D → List (List Key × D) → Prop
  | f {kvs : List (List Key × D)} : Dw K l (.dT kvs) kvs
  | o {k : Nat} {p : Addr} {kvs : List (List Key × D)} (h : l[k]? = some (ownT K p kvs)) : Dw K l (.adr p) kvs
  | z {k : Nat} {p : Addr} {od : Obj} {vs : List (List Key × V)} {kvs : List (List Key × D)} (h : l[k]? = some (ownTz K p od vs kvs)) : Dw K l (.adr p) kvs
section
variable {K : PySem.W.Frag} {F M H : Hp} {v : V}
theorem Rs.ownD {k : Nat} {p : Addr} {kvs : List (Key × D)} (h : Rs l F M) (e : l[k]? = some (ownD K p kvs)) (m : Ex M H) : ∃ vs, FdFs K F vs kvs ∧ H p = some (.dK vs) := by
  obtain ⟨A, B, rfl, dj, ⟨vs, f, rfl⟩, _⟩ := Rs.at e h
  exact ⟨vs, f, m p _ (join_l one_same)⟩
theorem Rs.ownT {k : Nat} {p : Addr} {kvs : List (List Key × D)} (h : Rs l F M) (e : l[k]? = some (ownT K p kvs)) (m : Ex M H) : ∃ vs, FdFs K F vs kvs ∧ H p = some (.dT vs) := by
  obtain ⟨A, B, rfl, dj, ⟨vs, f, rfl⟩, _⟩ := Rs.at e h
  exact ⟨vs, f, m p _ (join_l one_same)⟩
theorem Du.get {kvs : List (Key × D)} (h : Du K l d kvs) (eF : Ex F H) (eM : Ex M H) (rs : Rs l F M) (f : Fd K F v d) : ∃ a vs, v = .ref a ∧ H a = some (.dK vs) ∧ FdFs K F vs kvs := by
  cases h with
  | f => cases f with | dK s a => exact ⟨_, _, rfl, eF _ _ s, a⟩
  | o h =>
    cases f
    obtain ⟨vs, f, hp⟩ := rs.ownD h eM
    exact ⟨_, vs, rfl, hp, f⟩
theorem Rs.ownDz {k : Nat} {p : Addr} {od : Obj} {vs : List (Key × V)} {kvs : List (Key × D)} (h : Rs l F M) (e : l[k]? = some (ownDz K p od vs kvs)) (m : Ex M H) : FdFs K F vs kvs ∧ H p = some (.frz od (.dK vs)) := by
  obtain ⟨A, B, rfl, dj, ⟨f, rfl⟩, _⟩ := Rs.at e h
  exact ⟨f, m p _ (join_l one_same)⟩
theorem Dv.get {kvs : List (Key × D)} (h : Dv K l d kvs) (eF : Ex F H) (eM : Ex M H) (rs : Rs l F M) (f : Fd K F v d) : ∃ a vs, v = .ref a ∧ Rd H a (.dK vs) ∧ FdFs K F vs kvs := by
  cases h with
  | f => cases f with | dK s a => exact ⟨_, _, rfl, .inl (eF _ _ s), a⟩
  | o h =>
    cases f
    obtain ⟨vs, f, hp⟩ := rs.ownD h eM
    exact ⟨_, vs, rfl, .inl hp, f⟩
  | z h =>
    cases f
    obtain ⟨f, hp⟩ := rs.ownDz h eM
    exact ⟨_, _, rfl, .inr ⟨_, hp⟩, f⟩
theorem Rs.ownTz {k : Nat} {p : Addr} {od : Obj} {vs : List (List Key × V)} {kvs : List (List Key × D)} (h : Rs l F M) (e : l[k]? = some (ownTz K p od vs kvs)) (m : Ex M H) : FdFs K F vs kvs ∧ H p = some (.frz od (.dT vs)) := by
  obtain ⟨A, B, rfl, dj, ⟨f, rfl⟩, _⟩ := Rs.at e h
  exact ⟨f, m p _ (join_l one_same)⟩
theorem Dw.get {kvs : List (List Key × D)} (h : Dw K l d kvs) (eF : Ex F H) (eM : Ex M H) (rs : Rs l F M) (f : Fd K F v d) : ∃ a vs, v = .ref a ∧ Rd H a (.dT vs) ∧ FdFs K F vs kvs := by
  cases h with
  | f => cases f with | dT s a => exact ⟨_, _, rfl, .inl (eF _ _ s), a⟩
  | o h =>
    cases f
    obtain ⟨vs, f, hp⟩ := rs.ownT h eM
    exact ⟨_, vs, rfl, .inl hp, f⟩
  | z h =>
    cases f
    obtain ⟨f, hp⟩ := rs.ownTz h eM
    exact ⟨_, _, rfl, .inr ⟨_, hp⟩, f⟩
end
/-- an owned cell is written -/
theorem At.putOne {K : PySem.W.Frag} {en : En} {T : Tm} {σ : L2.St} {H F M : Hp} {k : Nat} {p : Addr} {r r' : Res} {o' : HO} (a : At K en g T l σ H F M) (e : l[k]? = some r) (h : ∀ A, r.P F A → ∃ o, A = one p o) (h' : r'.P F (one p o')) : ∃ M', At K en g T (l.set k r') σ (upd H p o') F M' := by
  obtain ⟨A, B, rfl, dj, pA, put⟩ := Rs.at e a.rs
  obtain ⟨o, rfl⟩ := h A pA
  have hp : H p = some o := a.exM p _ (join_l one_same)
  have hF : F p = none := a.dj.sym p o (join_l one_same)
  have dB : ∀ u, Dj (one p u) B := fun u x w h => by
    obtain ⟨rfl, _⟩ := one_some h
    exact dj x _ one_same
  have hB : B p = none := dj p _ one_same
  have pM : en.H p = none ∨ ∃ u, en.M p = some u := a.nM p _ (join_l one_same)
  refine ⟨join (one p o') B, a.exF.mut hF, ?_, ?_, a.eF, a.nF, ?_, ?_, a.sl, a.tm, put _ _ F .rf h' (dB _)⟩
  · intro x w h
    rcases join_some h with q | ⟨n, q⟩
    · obtain ⟨rfl, rfl⟩ := one_some q
      exact upd_same
    · have ne : x ≠ p := fun z => by rw [z, hB] at q; cases q
      rw [upd_ne ne]
      exact a.exM x w (by rw [join_r (one_ne ne)]; exact q)
  · intro x w h
    have ne : x ≠ p := fun z => by rw [z, hF] at h; cases h
    have := a.dj x w h
    rw [join_r (one_ne ne)] at this ⊢
    exact this
  · intro x w h
    rcases join_some h with q | ⟨n, q⟩
    · obtain ⟨rfl, rfl⟩ := one_some q
      exact pM
    · have ne : x ≠ p := fun z => by rw [z, hB] at q; cases q
      exact a.nM x w (by rw [join_r (one_ne ne)]; exact q)
  · intro x w h1 h2
    have ne : x ≠ p := fun z => by
      subst z
      rcases pM with q | ⟨u, q⟩
      · rw [h1] at q; cases q
      · rw [h2] at q; cases q
    rw [upd_ne ne]
    exact a.fr x w h1 h2
/-- a key as a datum -/
def kD : Key → D
  | .inl i => .int i
  | .inr x => .str x
theorem Fd.key {K : PySem.W.Frag} {F : Hp} {v : V} {k : Key} (f : Fd K F v (kD k)) : v = kV k := by
  cases k with
  | inl i => cases f; rfl
  | inr x => cases f; rfl
theorem Px.units (hu : X.A.units + 64 < cLine) : X.A.units + 1 < cLine := by omega
end
section
variable {K : PySem.W.Frag} {l : List Res} {d1 d2 : D}
end
/-- a def that gives back a new list -/
abbrev Fr (K : PySem.W.Frag) {α : Type} (ok : α → Prop) (args : α → List D) (f : α → List D) : Sp := FnX K ok args (fun _ => []) (fun a d l => ∃ p, d = .adr p ∧ l = [ownL K p (f a)]) noE
section
variable {X : Cx} {g : Gm} {l : List Res} {e o : Expr} {es : List Expr} {p pos apos : Pos} {α : Type} {ok : α → Prop} {args : α → List D} {f : α → List D} {x m : Str} {ps : List Str} {k j : Nat}
theorem ev_callL (G : Glo X.prog X.w X.K X.mg X.base k x ps (Fr X.K ok args f)) (hr : Room j X.A) (hj : k ≤ j) (a : α) (hok : ok a) (ha : Pa X (e :: es) g l (args a))
    (hg : Gl X x := by rfl) (hdb : (x == ("__debug__" : Str)) = false := by decide) (he : starEach (e :: es) X.env = (false, eval e X.env) :: starEach es X.env := by rfl) (hpl : (backTo pos (starEach es X.env)).any (·.1) = false := by rfl) :
    EvL X (.Call (.Name x p) (e :: es) [] pos) g l (f a) :=
  ev_call (lr := l) (own := fun _ => []) G hr hj a hok ha (fun d l' ⟨q, e1, e2⟩ => ⟨q, e1, by rw [e2]; rfl⟩) hg hdb he hpl
theorem px_callL (G : Glo X.prog X.w X.K X.mg X.base k x ps (Fr X.K ok args f)) (hr : Room j X.A) (hj : k ≤ j) (a : α) (hok : ok a) (ha : Pa X (e :: es) g l (args a))
    (hg : Gl X x := by rfl) (hdb : (x == ("__debug__" : Str)) = false := by decide) (he : starEach (e :: es) X.env = (false, eval e X.env) :: starEach es X.env := by rfl) (hpl : (backTo pos (starEach es X.env)).any (·.1) = false := by rfl) :
    Px X (.Call (.Name x p) (e :: es) [] pos) g l (.lst (f a)) := (ev_callL G hr hj a hok ha hg hdb he hpl).frz
end
end Sx
set_option Elab.async false
set_option linter.all false
set_option maxRecDepth 100000
set_option maxHeartbeats 2000000
/-! d.get(k), d.get(k, x); a new dict asked at once. -/
namespace Sx
open PySem L2 PyProof.Rows
section
variable {X : Cx} {W : WX} {g g' : Gm} {l l' : List Res} {Φ : Po} {e e2 a b c o v : Expr} {es : List Expr} {d d1 d2 d3 : D} {pos p p2 apos : Pos} {rest : List Stmt}
/-- a call as a statement that gives nothing of worth -/
theorem blk_do {e : Expr} (he : Px X e g l d) (h : Blk X W rest g l Φ) (hs : swapsWith e none pos.line X.env = pure false := by rfl) : Blk X W (.Expr e pos :: rest) g l Φ := blk_expr he.ev (fun d l' ⟨_, e2⟩ => by subst e2; exact h) hs
end
end Sx
set_option Elab.async false
set_option linter.all false
set_option maxRecDepth 100000
set_option maxHeartbeats 2000000
/-! Dicts with tuples as keys, the key written out at the place. -/
namespace Sx
open PySem L2 PyProof.Rows
theorem FdAll.keys {K : PySem.W.Frag} {F : Hp} : ∀ {vs : List V} {ks : List Key}, FdAll K F vs (ks.map kD) → vs = ks.map kV
  | _, [], .nil => rfl
  | _, k :: ks, .cons a b => by rw [List.map_cons, a.key, FdAll.keys b]
section
variable {X : Cx} {W : WX} {g g' : Gm} {l l' : List Res} {Φ : Po} {e e2 a b c o v : Expr} {es : List Expr} {d d1 d2 d3 : D} {pos p p2 apos kp : Pos} {rest : List Stmt} {x1 : Nat} {ds : List D}
theorem FdFs.valO' {κ : Type} [DecidableEq κ] {K : PySem.W.Frag} {F : Hp} {k : κ} {vs : List (κ × V)} {kvs : List (κ × D)} (f : FdFs K F vs kvs) {z : V} {dz : D} (h : Fd K F z dz) : Fd K F ((L2.valV vs k).getD z) ((valD kvs k).getD dz) := by
  cases q : valD kvs k with
  | none => rw [f.noV q]; exact h
  | some d => obtain ⟨w, h1, h2⟩ := f.valV q; rw [h1]; exact h2
/-- d.get((..)) -/
theorem px_tget1 {kvs : List (List Key × D)} {k : List Key} (hu : X.A.units + 1 < cLine) (ho : Px X o g l d1) (hd : Dw X.K l d1 kvs) (hi : Pa X es g l ds) (hk : ds = k.map kD) (hz : k.length ≤ sizeLine := by first | decide | exact Nat.le_of_ble_eq_true rfl) (hm : M1 X o "get" apos (.Tuple es x1 kp) pos := by constructor <;> rfl) : Px X (.Call (.Attribute o "get" apos) [.Tuple es x1 kp] [] pos) g l ((valD kvs k).getD .non) := fun en T σ H Q s kk => wpE_of (pe_dget1 hu pe_wp (pe_tup pa_wp) hm) (by
  subst hk
  refine ho en T σ H _ s fun v H1 s1 => ?_
  obtain ⟨F1, M1, q1⟩ := id s1
  obtain ⟨a, vs, rfl, hp, f⟩ := hd.get q1.exF q1.exM q1.rs q1.tm.1
  refine ⟨a, rfl, .inr ⟨vs, hp⟩, ?_⟩
  refine hi en _ σ H1 _ s1 fun us H2 s2 => ?_
  obtain ⟨F, M, q⟩ := s2
  have ek := q.tm.1.keys
  subst ek
  refine ⟨by rw [List.length_map]; exact hz, fun p hp => ?_⟩
  have n := New.upd (o := .tup (k.map kV)) q.exF hp
  have q3 := q.new n
  obtain ⟨a2, vs, e2, hp2, f⟩ := hd.get q3.exF q3.exM q3.rs q3.tm.2.1
  cases e2
  exact ⟨_, .inr ⟨vs, k, p, hp2, rfl, upd_same, rfl⟩, kk _ _ ⟨_, M, q3.tmp ⟨f.valO' .non, q3.tm.2.2⟩⟩⟩)
/-- d[..] -/
theorem px_tget {kvs : List (List Key × D)} {k : List Key} (hu : X.A.units + 1 < cLine) (ho : Px X o g l d1) (hd : Dw X.K l d1 kvs) (hi : Pa X es g l ds) (hk : ds = k.map kD) (hv : valD kvs k = some d) (hz : k.length ≤ sizeLine := by first | decide | exact Nat.le_of_ble_eq_true rfl) (hs : NoSl (.Tuple es x1 kp) := by intro _ _; rfl) : Px X (.Subscript o (.Tuple es x1 kp) pos) g l d := fun en T σ H Q s kk => wpE_of (pe_dget hu pe_wp (pe_tup pa_wp) hs) (by
  subst hk
  refine ho en T σ H _ s fun v H1 s1 => ?_
  refine hi en _ σ H1 _ s1 fun us H2 s2 => ?_
  obtain ⟨F, M, q⟩ := s2
  have ek := q.tm.1.keys
  subst ek
  refine ⟨by rw [List.length_map]; exact hz, fun p hp => ?_⟩
  have n := New.upd (o := .tup (k.map kV)) q.exF hp
  have q3 := q.new n
  obtain ⟨a, vs, rfl, hp2, f⟩ := hd.get q3.exF q3.exM q3.rs q3.tm.2.1
  obtain ⟨w, h1, h2⟩ := f.valV hv
  exact ⟨a, w, rfl, .inr ⟨vs, k, p, hp2, rfl, upd_same, h1.symm⟩, kk w _ ⟨_, M, q3.tmp ⟨h2, q3.tm.2.2⟩⟩⟩)
/-- d[..] = v -/
theorem blk_tput {kvs : List (List Key × D)} {n : Nat} {q : Addr} {k : List Key} {pos' : Pos} (hu : X.A.units + 1 < cLine) (hv : Px X v g l d) (ho : Px X o g l (.adr q)) (hi : Pa X es g l ds) (hk : ds = k.map kD) (hl : l[n]? = some (ownT X.K q kvs)) (hz : kvs.length < 10000)
    (h : Blk X W rest g (l.set n (ownT X.K q (putKD kvs k d))) Φ) (hkz : k.length ≤ sizeLine := by first | decide | exact Nat.le_of_ble_eq_true rfl) (hs : swapsWith v (some (.Subscript o (.Tuple es x1 kp) pos')) pos.line X.env = pure false := by rfl) : Blk X W (.Assign [.Subscript o (.Tuple es x1 kp) pos'] v pos :: rest) g l Φ := fun en T σ H D s mm => wpS_of (pss_cons (ps_dput hu pe_wp (pe_tup pa_wp) pe_wp hs) pss_wp) (by
  subst hk
  refine hv en T σ H _ s fun w H1 s1 => ?_
  refine ho en _ σ H1 _ s1 fun u H2 s2 => ?_
  refine hi en _ σ H2 _ s2 fun us H3 s3 => ?_
  obtain ⟨F, M, a⟩ := s3
  have ek := a.tm.1.keys
  subst ek
  have fu := a.tm.2.1
  cases fu
  refine ⟨by rw [List.length_map]; exact hkz, fun p hp => ?_⟩
  have nw := New.upd (o := .tup (k.map kV)) a.exF hp
  have a3 := a.new nw
  obtain ⟨vs, fv, hq⟩ := a3.rs.ownT hl a3.exM
  refine ⟨q, _, rfl, .inr ⟨vs, k, p, hq, rfl, upd_same, ?_, rfl⟩, ?_⟩
  · rw [fv.length]; exact Nat.lt_of_lt_of_le hz (by decide)
  · obtain ⟨M', a'⟩ := (a3.tmp (T' := T) a3.tm.2.2.2).putOne (k := n) (p := q) (r' := ownT X.K q (putKD kvs k d)) (o' := .dT (L2.putK vs k w)) hl (fun A ⟨_, _, e⟩ => ⟨_, e⟩) ⟨_, fv.putK a3.tm.2.2.1, rfl⟩
    exact h en T σ _ D ⟨_, M', a'⟩ mm)
/-- {} that will have tuples as keys -/
theorem ev_t0 : Ev X (.Dict [] [] pos) g l (fun d' l' => ∃ p, d' = .adr p ∧ l' = ownT X.K p [] :: l) := fun en T σ H Q s k => wpE_of pe_dnewT (by
  intro p hp
  obtain ⟨F, M, q⟩ := s
  have q3 := q.newO (r := ownT X.K p []) (A := one p (.dT [])) (H' := upd H p (.dT [])) (.new hp) (fun x o z => by obtain ⟨rfl, rfl⟩ := one_some z; exact upd_same) (fun x o z => by obtain ⟨rfl, rfl⟩ := one_some z; exact hp) ⟨[], .nil, rfl⟩
  exact k _ (.adr p) _ _ ⟨p, rfl, rfl⟩ ⟨F, _, q3.tmp ⟨.adr p, q.tm⟩⟩)
end
end Sx
set_option Elab.async false
set_option linter.all false
set_option maxRecDepth 100000
set_option maxHeartbeats 2000000
/-! A caught exception that is kept: the state is widened by its object. -/
namespace Sx
open PySem L2 PyProof.Rows
theorem exO_ok {P : Program} {w : World} {H : Hp} {h : Heap} {a : Addr} {cls : Value} {d : Option Addr} {oe : Obj} {vs : Array Value} (he : h.get? a = some oe) (hz : Zc cls d oe) (hd : oe.data = .fields vs) : ObjOk P w H h a (exO a cls d) :=
  ⟨⟨oe, he, hz, vs, hd⟩, ⟨oe, he⟩, fun _ _ ⟨o1, q, z, v, dd⟩ k => ⟨o1, k _ q, z, v, dd⟩⟩
theorem un_wide {fs ex : List Addr} {H H' : Hp} {h h' : Heap} {a : Addr} {o : HO} (u : Un fs ex H H' h h') (n : h.get? a = none) (hn : H' a = none) : Un fs ex H (upd H' a o) h h' where
  keep := u.keep
  slot := u.slot
  free := fun b ob q hb hx => by
    have ne : b ≠ a := fun e => by rw [e, n] at q; cases q
    rw [upd_ne ne]
    exact u.free b ob q hb hx
  there := u.there
  tups := fun b xs q => by
    have z := u.tups b xs q
    rw [upd_ne (ne_of_none z hn)]
    exact z
  frzs := fun b ob v q => by
    have z := u.frzs b ob v q
    rw [upd_ne (ne_of_none z hn)]
    exact z
  tbls := fun b ps q => by
    obtain ⟨more, z⟩ := u.tbls b ps q
    exact ⟨more, by rw [upd_ne (ne_of_none z hn)]; exact z⟩
theorem inv_wide {X : Cx} {pins : List (Addr × Obj)} {σ : L2.St} {H : Hp} {s : Shared} {a : Addr} {o : HO} (I : Inv X pins σ H s) (n : X.s_0.heap.get? a = none) (hn : H a = none) (np : ∀ p ∈ X.pn ++ pins, p.1 ≠ a) (nL : a ≠ X.env.locals)
    (nc : ∀ x c, X.env.cells.lookup x = some c → c ≠ a) (new : ObjOk X.prog X.w (upd H a o) s.heap a o) : Inv X pins σ (upd H a o) s :=
  ⟨I.ok, I.os, I.bare, un_wide I.base n hn, I.loc, I.cell, by rw [upd_ne (Ne.symm nL)]; exact I.free, fun x c e => by rw [upd_ne (nc x c e)]; exact I.freeC x c e,
    fun p hp => by
      obtain ⟨h1, h2, h3⟩ := I.pin p hp
      exact ⟨h1, by rw [upd_ne (np p hp)]; exact h2, h3⟩,
    fun b u e => by
      by_cases z : b = a
      · subst z
        rw [upd_same] at e
        cases e
        exact new
      · rw [upd_ne z] at e
        exact (I.hok b u e).stay (fun _ _ _ q => q) (fun b' q => by rw [upd_ne (ne_of_none q hn)]; exact q) fun b' xs q => by rw [upd_ne (ne_of_none q hn)]; exact q,
    I.len⟩
/-- a kept exception, owned: of the class at cls, no attributes of its own -/
def ownX (p : Addr) (cls : Value) (d : Option Addr) : Res := ⟨fun _ M => M = one p (exO p cls d), fun _ h => h, fun m x xs e => by rw [m] at e; obtain ⟨_, e⟩ := one_some e; exact nomatch e⟩
end Sx
set_option Elab.async false
set_option linter.all false
set_option maxRecDepth 100000
set_option maxHeartbeats 2000000
/-! Models: what a block computes, told beside the block. -/
namespace Sx
open PySem L2

theorem Wk.set {g1 g2 : Gm} (w : Wk g1 g2) : ∀ (i : Nat) (o : Option D), Wk (g1.set i o) (g2.set i o) := by
  induction w with
  | nil => intro i o; exact .nil
  | any w ih => intro i o; cases i with
    | zero => exact .keep w
    | succ i => exact .any (ih i o)
  | keep w ih => intro i o; cases i with
    | zero => exact .keep w
    | succ i => exact .keep (ih i o)
theorem Wk.sets {is : List Nat} : ∀ {es : List D} {g1 g2 : Gm}, Wk g1 g2 → Wk (sets g1 is es) (sets g2 is es) := by
  induction is with
  | nil => intro es g1 g2 w; cases es <;> exact w
  | cons i is ih =>
    intro es g1 g2 w
    cases es with
    | nil => exact w
    | cons e es => exact ih (w.set i _)
/-- the model's let -/
def lt {α β : Type} (x : α) (k : α → β) : β := k x
/-- what a block with ways out comes to -/
inductive Cf (Rr Ll Ss : Type) where
  | nx (s : Ss) | rt (r : Rr) | bk (s : Ll) | ct (s : Ll)
def bnd {Rr Ll Ss S2 : Type} (o : Cf Rr Ll Ss) (k : Ss → Cf Rr Ll S2) : Cf Rr Ll S2 := match o with
  | .nx s => k s | .rt r => .rt r | .bk s => .bk s | .ct s => .ct s
def bndV {Rr Ss : Type} (o : Cf Rr Empty Ss) (k : Ss → Rr) : Rr := match o with
  | .nx s => k s | .rt r => r | .bk s => nomatch s | .ct s => nomatch s
def loop {α Rr Ll Ss : Type} (step : Ss → α → Cf Rr Ss Ss) : List α → Ss → Cf Rr Ll Ss
  | [], s => .nx s
  | x :: xs, s => match step s x with
    | .nx s' => loop step xs s' | .ct s' => loop step xs s' | .bk s' => .nx s' | .rt r => .rt r
def whileF {Ss : Type} (c : Ss → Bool) (step : Ss → Ss) : Nat → Ss → Ss
  | 0, s => s
  | n + 1, s => cond (c s) (whileF c step n (step s)) s
def whileR {Rr Ll Ss : Type} (c : Ss → Bool) (step : Ss → Cf Rr Ss Ss) : Nat → Ss → Cf Rr Ll Ss
  | 0, s => .nx s
  | n + 1, s => cond (c s) (match step s with
    | .nx s' => whileR c step n s' | .ct s' => whileR c step n s' | .bk s' => .nx s' | .rt r => .rt r) (.nx s)

section
variable {X : Cx} {W : WX} {g g' : Gm} {l l' : List Res} {e c o : Expr} {d : D} {pos p : Pos} {rest A B body : List Stmt}
variable {α β Rr Ll Ss S1 : Type}
/-- what a def's giving back (and its raising) means -/
structure Re where
  rt : D → List Res → Prop
  ex : Value → Option Addr → Gm → List Res → Prop := fun _ _ _ _ => False
/-- at the state s the slots are G s, what is owned R s -/
def Nx (G : Ss → Gm) (R : Ss → List Res) (s : Ss) : Po := { nx := fun g l => g = G s ∧ l = R s, rt := fun _ _ => False }
def Rt (RT : Rr → Re) (r : Rr) : Po := { nx := fun _ _ => False, rt := (RT r).rt, ex := (RT r).ex }
/-- .. of a def that may run off its end -/
def Rv (RT : Rr → Re) (r : Rr) : Po := { nx := fun _ l => (RT r).rt .non l, rt := (RT r).rt, ex := (RT r).ex }
def Ou (RT : Rr → Re) (GL : Ll → Gm) (RL : Ll → List Res) (NX : Ss → Gm → List Res → Prop) : Cf Rr Ll Ss → Po
  | .nx s => { nx := NX s, rt := fun _ _ => False }
  | .rt r => { nx := fun _ _ => False, rt := (RT r).rt, ex := (RT r).ex }
  | .bk s => { nx := fun _ _ => False, rt := fun _ _ => False, bk := fun g l => g = GL s ∧ l = RL s }
  | .ct s => { nx := fun _ _ => False, rt := fun _ _ => False, ct := fun g l => g = GL s ∧ l = RL s }
abbrev NxP (G : Ss → Gm) (R : Ss → List Res) : Ss → Gm → List Res → Prop := fun s g l => g = G s ∧ l = R s
abbrev NoNx : Ss → Gm → List Res → Prop := fun _ _ _ => False
/-- the block sts, from g and l on, comes to what m tells by Om -/
def Bo (X : Cx) (W : WX) (sts : List Stmt) (g : Gm) (l : List Res) (Om : β → Po) (m : β) : Prop := Blk X W sts g l (Om m)
/-- what leaves by A leaves by B; A does not run through -/
structure Le0 (A B : Po) : Prop where
  nx : ∀ g l, ¬ A.nx g l
  rt : ∀ d l, A.rt d l → B.rt d l
  bk : ∀ g l, A.bk g l → B.bk g l
  ct : ∀ g l, A.ct g l → B.ct g l
  ex : ∀ c d g l, A.ex c d g l → B.ex c d g l
variable {Om : β → Po} {m m1 m2 : β} {k : α → β} {x0 : α} {b : Bool}
theorem Bo.weak {sts : List Stmt} (w : Wk g g') (h : Bo X W sts g' l Om m) : Bo X W sts g l Om m := Blk.weak w h
theorem Bo.perm {sts : List Stmt} (w : l.Perm l') (h : Bo X W sts g l' Om m) : Bo X W sts g l Om m := Blk.perm w h
/-- x = e -/
theorem bo_set {i : Nat} {x : Str} {pos' : Pos} (enc : α → D) (hN : X.N.Nodup) (hi : X.N[i]? = some x) (hx : Loc X.env.scope x) (he : Px X e g l (enc x0)) (h : ∀ y, y = x0 → Bo X W rest (g.set i (some (enc y))) l Om (k y))
    (hs : swapsWith e (some (.Name x pos')) pos.line X.env = pure false := by rfl) (hf : X.fn x = true ∨ X.env.scope.names.lookup x = some .local := by first | exact .inl rfl | exact .inr rfl | assumption) :
    Bo X W (.Assign [.Name x pos'] e pos :: rest) g l Om (lt x0 k) := blk_set hN hi hx he (h x0 rfl) hs hf
/-- an expression that changes nothing, as a statement -/
theorem bo_do {e : Expr} (he : Px X e g l d) (h : Bo X W rest g l Om m) (hs : swapsWith e none pos.line X.env = pure false := by rfl) : Bo X W (.Expr e pos :: rest) g l Om m := blk_do he h hs
/-! ### ifs -/
/-- an if that is the last -/
theorem bo_if (hc : Ts X c g l b) (h1 : b = true → Bo X W A g l Om m1) (h2 : b = false → Bo X W B g l Om m2) : Bo X W [.If c A B pos] g l Om (cond b m1 m2) :=
  blk_if hc (fun e => by subst e; exact (h1 rfl).imp (fun _ _ h => blk_nil h) (fun _ _ h => h) (fun _ _ h => h) (fun _ _ h => h) (fun _ _ _ _ h => h)) (fun e => by subst e; exact (h2 rfl).imp (fun _ _ h => blk_nil h) (fun _ _ h => h) (fun _ _ h => h) (fun _ _ h => h) (fun _ _ _ _ h => h))
/-- an if whose first way does not run through -/
theorem bo_ifR {RT : Rr → Re} {r1 r2 : Rr} (hc : Ts X c g l b) (h1 : b = true → Bo X W A g l (Rt RT) r1) (h2 : b = false → Bo X W rest g l (Rt RT) r2) : Bo X W (.If c A [] pos :: rest) g l (Rt RT) (cond b r1 r2) :=
  blk_if hc (fun e => by subst e; exact (h1 rfl).imp (fun _ _ h => h.elim) (fun _ _ h => h) (fun _ _ h => h) (fun _ _ h => h) (fun _ _ _ _ h => h)) (fun e => by subst e; exact blk_nil (h2 rfl))
theorem bo_ifRv {RT : Rr → Re} {r1 r2 : Rr} (hc : Ts X c g l b) (h1 : b = true → Bo X W A g l (Rt RT) r1) (h2 : b = false → Bo X W rest g l (Rv RT) r2) : Bo X W (.If c A [] pos :: rest) g l (Rv RT) (cond b r1 r2) :=
  blk_if hc (fun e => by subst e; exact (h1 rfl).imp (fun _ _ h => h.elim) (fun _ _ h => h) (fun _ _ h => h) (fun _ _ h => h) (fun _ _ _ _ h => h)) (fun e => by subst e; exact blk_nil (h2 rfl))
/-- the ways of an if meet -/
theorem bo_ifS {S1 : Type} {s1 s2 : S1} {k : S1 → β} (G : S1 → Gm) (R : S1 → List Res) (hc : Ts X c g l b) (h1 : b = true → Bo X W A g l (Nx G R) s1) (h2 : b = false → Bo X W B g l (Nx G R) s2) (h : ∀ s, s = cond b s1 s2 → Bo X W rest (G s) (R s) Om (k s)) : Bo X W (.If c A B pos :: rest) g l Om (lt (cond b s1 s2) k) :=
  blk_if hc (fun e => by
    subst e
    exact (h1 rfl).imp (fun g' l' ⟨w, q⟩ => by subst w; subst q; exact h s1 rfl) (fun _ _ h => h.elim) (fun _ _ h => h.elim) (fun _ _ h => h.elim) (fun _ _ _ _ h => h.elim)) (fun e => by
    subst e
    exact (h2 rfl).imp (fun g' l' ⟨w, q⟩ => by subst w; subst q; exact h s2 rfl) (fun _ _ h => h.elim) (fun _ _ h => h.elim) (fun _ _ h => h.elim) (fun _ _ _ _ h => h.elim))
/-! ### leaves -/
theorem bo_nx {G : Ss → Gm} {R : Ss → List Res} {s : Ss} (w : Wk g (G s)) (h : l = R s) : Bo X W [] g l (Nx G R) s := Blk.weak w (blk_nil ⟨rfl, h⟩)
theorem bo_nxO {RT : Rr → Re} {GL : Ll → Gm} {RL : Ll → List Res} {G : Ss → Gm} {R : Ss → List Res} {s : Ss} (w : Wk g (G s)) (h : l = R s) : Bo X W [] g l (Ou RT GL RL (NxP G R)) (.nx s) := Blk.weak w (blk_nil ⟨rfl, h⟩)
/-- what a def gives back: frozen; a new list -/
abbrev PuR (enc : Rr → D) : Rr → Re := fun r => { rt := fun d l => d = enc r ∧ l = [] }
abbrev FrR (K : PySem.W.Frag) (enc : α → D) : List α → Re := fun r => { rt := fun d l => ∃ p, d = .adr p ∧ l = [ownL K p (r.map enc)] }
theorem Px.drop (h : Px X e g l d) : Ev X e g l (fun d' l' => d' = d ∧ l' = []) := fun en T σ H Q s k => h en T σ H Q s fun v H' s' => k v d [] H' ⟨rfl, rfl⟩ (S.dropO (l' := l) (by rw [List.append_nil]; exact s'))
theorem bo_ret {enc : Rr → D} {r : Rr} (he : Px X e g l (enc r)) : Bo X W (.Return (some e) pos :: rest) g l (Rt (PuR enc)) r := blk_retX he.drop fun d l' h => h
theorem bo_retO {enc : Rr → D} {GL : Ll → Gm} {RL : Ll → List Res} {NX : Ss → Gm → List Res → Prop} {r : Rr} (he : Px X e g l (enc r)) : Bo X W (.Return (some e) pos :: rest) g l (Ou (PuR enc) GL RL NX) (.rt r) := blk_retX he.drop fun d l' h => h
theorem bo_end {enc : Rr → D} {r : Rr} (he : enc r = .non) : Bo X W [] g l (Rv (PuR enc)) r := blk_frzAll (blk_nil ⟨he.symm, rfl⟩)
theorem Ev.dropL {ds : List D} (h : EvL X e g l ds) : Ev X e g l (fun d' l' => ∃ p, d' = .adr p ∧ l' = [ownL X.K p ds]) := fun en T σ H Q s k => h en T σ H Q s fun v d l' H' ⟨p, e1, e2⟩ s' => by
  subst e1; subst e2
  exact k v _ _ H' ⟨p, rfl, rfl⟩ (S.dropO (l' := l) (S.perm (List.perm_append_comm (l₁ := [ownL X.K p ds]) (l₂ := l)) s'))
theorem bo_retL {α : Type} {enc : α → D} {r : List α} (he : EvL X e g l (r.map enc)) : Bo X W (.Return (some e) pos :: rest) g l (Rt (FrR X.K enc)) r := blk_retX he.dropL fun d l' h => h
/-- an owned list is frozen -/
theorem bo_frz {sts : List Stmt} {q : Addr} {ds : List D} {i kk : Nat} (hi : nth g i = some (.adr q)) (hk : l[kk]? = some (ownL X.K q ds)) (h : Bo X W sts (g.set i (some (.lst ds))) (l.eraseIdx kk) Om m) : Bo X W sts g l Om m := Blk.perm (perm_at hk) (Blk.frz hi h)
/-! ### loops -/
theorem loop_step {step : S1 → α → Cf Rr S1 S1} {xs : List α} {i : Nat} {x : α} {s : S1} (h : xs[i]? = some x) : (loop step (xs.drop i) s : Cf Rr Ll S1) = match step s x with
    | .nx s' => loop step (xs.drop (i + 1)) s' | .ct s' => loop step (xs.drop (i + 1)) s' | .bk s' => .nx s' | .rt r => .rt r := by
  obtain ⟨hl, e⟩ := List.getElem?_eq_some_iff.mp h
  rw [List.drop_eq_getElem_cons hl, e]
  rfl
theorem loop_end {step : S1 → α → Cf Rr S1 S1} {xs : List α} {s : S1} : (loop step (xs.drop xs.length) s : Cf Rr Ll S1) = .nx s := by
  rw [List.drop_length]; rfl
theorem bo_forV {RT : Rr → Re} {tg iter : Expr} {lk : List Res} {gt : TG} {is : List Nat} {xs : List α} {step : S1 → α → Cf Rr S1 S1} {s0 : S1} {k : S1 → Rr} (enc : α → D) (G : S1 → Gm) (R : S1 → List Res) (J : Nat → S1 → Prop) (Jb : S1 → Prop) (hp : PassesOwn (model X.prog X.w) X.A X.env X.xe) (hc : X.calm = true) (hi : ItwP X tg iter g l lk (xs.map enc)) (hg : PG X tg gt)
    (h0 : Wk g (G s0)) (hl : l = R s0) (j0 : J 0 s0)
    (hs : ∀ i x s, xs[i]? = some x → (loop step (xs.drop i) s : Cf Rr Empty S1) = loop step xs s0 → J i s → ((∀ s', step s x = .nx s' → J (i + 1) s') ∧ (∀ s', step s x = .ct s' → J (i + 1) s') ∧ ∀ s', step s x = .bk s' → Jb s') ∧ ∃ es, Tg X.K gt is (enc x) es ∧ Bo X W body (sets (G s) is es) (R s) (Ou RT G R (NxP G R)) (step s x))
    (jb : ∀ s, J xs.length s → Jb s) (h : ∀ s, (loop step xs s0 : Cf Rr Empty S1) = .nx s → Jb s → Bo X W rest (G s) (R s) (Rt RT) (k s)) (hf : ∀ x, foldedSetIterable iter X.env x = pure x := by intro _; rfl) (hk : ∀ s, SubR (R s) lk := by intro s; first | exact subr0 | exact subr1 0 rfl | exact subr1 1 rfl | exact subr1 2 rfl | exact subr1 3 rfl | exact subr1 4 rfl | exact subr1 5 rfl | exact subr2 0 0 rfl rfl | exact subr2 1 0 rfl rfl | exact subr2 0 1 rfl rfl | exact subr2 1 1 rfl rfl | exact subr2 2 0 rfl rfl | exact subr2 2 1 rfl rfl) : Bo X W (.For tg iter body [] pos :: rest) g l (Rt RT) (bndV (loop step xs s0) k) := by
  subst hl
  refine blk_for (is := is) (fun i g' l' => (i = 0 ∧ g' = g ∧ l' = R s0) ∨ ∃ s, (loop step (xs.drop i) s : Cf Rr Empty S1) = loop step xs s0 ∧ J i s ∧ g' = G s ∧ l' = R s) hp hc hi hg (.inl ⟨rfl, rfl, rfl⟩) (fun i d g' l' hd hI => ?_) (fun g' l' hI => ?_) hf (fun i g' l' hI => by
      rcases hI with ⟨_, _, rfl⟩ | ⟨s, _, _, _, rfl⟩
      · exact hk _
      · exact hk _)
  · rw [List.getElem?_map] at hd
    cases q : xs[i]? with
    | none => rw [q] at hd; cases hd
    | some x =>
      rw [q] at hd
      cases hd
      obtain ⟨s, e1, e2, e3, e4⟩ : ∃ s, (loop step (xs.drop i) s : Cf Rr Empty S1) = loop step xs s0 ∧ J i s ∧ Wk g' (G s) ∧ l' = R s := by
        rcases hI with ⟨rfl, rfl, rfl⟩ | ⟨s, h1, h2, rfl, rfl⟩
        · exact ⟨s0, rfl, j0, h0, rfl⟩
        · exact ⟨s, h1, h2, .rf, rfl⟩
      subst e4
      obtain ⟨⟨h1, h1', h1b⟩, es, h2, h3⟩ := hs i x s q e1 e2
      refine ⟨es, h2, ?_⟩
      rw [loop_step q] at e1
      refine Blk.weak e3.sets ?_
      unfold Bo at h3
      generalize step s x = o at e1 h1 h1' h1b h3
      cases o with
      | nx s' => exact h3.imp (fun g2 l2 h => .inr ⟨s', e1, h1 s' rfl, h.1, h.2⟩) (fun _ _ h => h.elim) (fun _ _ h => h.elim) (fun _ _ h => h.elim) (fun _ _ _ _ h => h.elim)
      | ct s' => exact h3.imp (fun g2 l2 h => h.elim) (fun _ _ h => h.elim) (fun _ _ h => h.elim) (fun _ _ h => .inr ⟨s', e1, h1' s' rfl, h.1, h.2⟩) (fun _ _ _ _ h => h.elim)
      | rt r =>
        have e1 : (.rt r : Cf Rr Empty S1) = loop step xs s0 := e1
        rw [← e1]
        exact h3.imp (fun g2 l2 h => h.elim) (fun _ _ h => h) (fun _ _ h => h.elim) (fun _ _ h => h.elim) (fun _ _ _ _ h => h)
      | bk s' =>
        have e1 : (.nx s' : Cf Rr Empty S1) = loop step xs s0 := e1
        have z := h s' e1.symm (h1b s' rfl)
        rw [← e1]
        exact h3.imp (fun g2 l2 h => h.elim) (fun _ _ h => h.elim) (fun g2 l2 hh => by obtain ⟨w, q2⟩ := hh; subst w; subst q2; exact z) (fun _ _ h => h.elim) (fun _ _ _ _ h => h.elim)
  · rw [List.length_map] at hI
    obtain ⟨s, e1, e2, e3, e4⟩ : ∃ s, (loop step (xs.drop xs.length) s : Cf Rr Empty S1) = loop step xs s0 ∧ J xs.length s ∧ Wk g' (G s) ∧ l' = R s := by
      rcases hI with ⟨h1, rfl, rfl⟩ | ⟨s, h1, h2, rfl, rfl⟩
      · have : xs = [] := List.eq_nil_of_length_eq_zero h1
        subst this
        exact ⟨s0, rfl, j0, h0, rfl⟩
      · exact ⟨s, h1, h2, .rf, rfl⟩
    rw [loop_end] at e1
    subst e4
    have z := h s e1.symm (jb s e2)
    refine Blk.weak (g' := G s) e3 ?_
    rw [← e1]
    exact z
end
end Sx
set_option Elab.async false
set_option linter.all false
set_option maxRecDepth 100000
set_option maxHeartbeats 2000000
/-! Models: what is walked, comprehensions, things got from lists. -/
namespace Sx
open PySem L2
section
variable {X : Cx} {W : WX} {g g' : Gm} {l l' : List Res} {e e2 c o : Expr} {d d1 d2 : D} {pos p p2 : Pos} {rest A B body : List Stmt}
variable {α β γ : Type}
theorem Itw.to {lk : List Res} {tg iter : Expr} {ds ds' : List D} (h : ItwP X tg iter g l lk ds) (q : ds = ds') : ItwP X tg iter g l lk ds' := q ▸ h
/-- the whole numbers from lo on -/
def rngI (lo : Int) (n : Nat) : List Int := (List.range n).map fun i : Nat => lo + (i : Int)
theorem rngI_len {lo : Int} {n : Nat} : (rngI lo n).length = n := by unfold rngI; rw [List.length_map, List.length_range]
def enumI (xs : List α) : List (Int × α) := xs.zipIdx.map fun q => ((q.2 : Int), q.1)
theorem enumI_map {xs : List α} {enc : α → D} : enumD (xs.map enc) = (enumI xs).map fun q => D.tup [.int q.1, enc q.2] := by
  unfold enumD enumI
  rw [List.map_map, List.zipIdx_map, List.map_map]
  rfl
theorem enumI_len {xs : List α} : (enumI xs).length = xs.length := by unfold enumI; rw [List.length_map, List.length_zipIdx]
theorem enumI_get {xs : List α} {i : Nat} {x : Int × α} (h : (enumI xs)[i]? = some x) : x.1 = (i : Int) ∧ xs[i]? = some x.2 := by
  unfold enumI at h
  rw [List.getElem?_map, List.getElem?_zipIdx] at h
  cases q : xs[i]? with
  | none => rw [q] at h; cases h
  | some y =>
    rw [q] at h
    cases h
    exact ⟨by simp, rfl⟩
def oneC (c : Nat) : Str := ⟨#[c]⟩
/-- what stands at a place, counted from the end where it is below nought -/
def pyAt (xs : List α) (i : Int) (x0 : α) : α := xs.getD (if i < 0 then i + (xs.length : Int) else i).toNat x0
/-! ### comprehensions -/
theorem ev_lcM {tg iter elt : Expr} {scope : Scope} {own : List (Str × Nat)} {lk : List Res} {gt : TG} {is : List Nat} {xs : List α} (enc : α → D) (encR : β → D) (F : α → β) (hc : X.calm = true) (hN : X.N.Nodup) (hi : ItwP X tg iter g l lk (xs.map enc)) (ok : BlkOk X.N X.env.scope scope own)
    (hg : Blkc X scope fun Y => PG Y tg gt) (his : ∀ i ∈ is, i ∈ own.map (·.2)) (hz : xs.length ≤ 10000)
    (hs : ∀ (i : Nat) (x : α), xs[i]? = some x → ∃ es, Tg X.K gt is (enc x) es ∧ Blkc X scope fun Y => Px Y elt (sets (wipeG g (own.map (·.2))) is es) l (encR (F x))) (hf : ∀ x, foldedSetIterable iter X.env x = pure x := by intro _; rfl) (hk : SubR l lk := by first | exact subr0 | exact subr1 0 rfl | exact subr1 1 rfl | exact subr1 2 rfl | exact subr1 3 rfl | exact subr1 4 rfl | exact subr1 5 rfl | exact subr2 0 0 rfl rfl | exact subr2 1 0 rfl rfl | exact subr2 0 1 rfl rfl | exact subr2 1 1 rfl rfl | exact subr2 2 0 rfl rfl | exact subr2 2 1 rfl rfl) :
    EvL X (.ListComp elt [⟨tg, iter, [], 0⟩] scope pos) g l ((xs.map F).map encR) :=
  ev_lc (rs := (xs.map F).map encR) hc hN hi ok hg his (by simp) (by rw [List.length_map, List.length_map]; exact Nat.le_trans hz (by decide)) (fun i d hd => by
    rw [List.getElem?_map] at hd
    obtain ⟨x, hx, rfl⟩ := Option.map_eq_some_iff.mp hd
    obtain ⟨es, h1, h2⟩ := hs i x hx
    exact ⟨es, _, h1, by rw [List.getElem?_map, List.getElem?_map, hx]; rfl, h2⟩) hf hk
theorem keepL_filt {xs : List α} {F : α → β} {encR : β → D} {cb : α → Bool} : keepL (xs.map fun x => if cb x = true then some (encR (F x)) else none) = ((xs.filter cb).map F).map encR := by
  induction xs with
  | nil => rfl
  | cons x xs ih =>
    rw [List.map_cons, List.filter_cons]
    cases h : cb x with
    | true =>
      rw [if_pos rfl, if_pos rfl, List.map_cons, List.map_cons, ← ih]
      rfl
    | false =>
      rw [if_neg (by simp), if_neg (by simp), ← ih]
      rfl
theorem ev_lcF {tg iter elt c : Expr} {scope : Scope} {own : List (Str × Nat)} {lk : List Res} {gt : TG} {is : List Nat} {xs : List α} (enc : α → D) (encR : β → D) (cb : α → Bool) (F : α → β) (hc : X.calm = true) (hN : X.N.Nodup) (hi : ItwP X tg iter g l lk (xs.map enc)) (ok : BlkOk X.N X.env.scope scope own)
    (hg : Blkc X scope fun Y => PG Y tg gt) (his : ∀ i ∈ is, i ∈ own.map (·.2)) (hz : xs.length ≤ 10000)
    (hs : ∀ (i : Nat) (x : α), xs[i]? = some x → ∃ es, Tg X.K gt is (enc x) es ∧ (Blkc X scope fun Y => Ts Y c (sets (wipeG g (own.map (·.2))) is es) l (cb x)) ∧ (cb x = true → Blkc X scope fun Y => Px Y elt (sets (wipeG g (own.map (·.2))) is es) l (encR (F x)))) (hf : ∀ x, foldedSetIterable iter X.env x = pure x := by intro _; rfl) (hk : SubR l lk := by first | exact subr0 | exact subr1 0 rfl | exact subr1 1 rfl | exact subr1 2 rfl | exact subr1 3 rfl | exact subr1 4 rfl | exact subr1 5 rfl | exact subr2 0 0 rfl rfl | exact subr2 1 0 rfl rfl | exact subr2 0 1 rfl rfl | exact subr2 1 1 rfl rfl | exact subr2 2 0 rfl rfl | exact subr2 2 1 rfl rfl) :
    EvL X (.ListComp elt [⟨tg, iter, [c], 0⟩] scope pos) g l (((xs.filter cb).map F).map encR) := by
  rw [← keepL_filt]
  exact ev_lcIf (rs := xs.map fun x => if cb x = true then some (encR (F x)) else none) hc hN hi ok hg his (by simp) (by rw [List.length_map]; exact Nat.le_trans hz (by decide)) (fun i d hd => by
    rw [List.getElem?_map] at hd
    obtain ⟨x, hx, rfl⟩ := Option.map_eq_some_iff.mp hd
    obtain ⟨es, h1, h2, h3⟩ := hs i x hx
    exact ⟨es, cb x, encR (F x), h1, by rw [List.getElem?_map, hx]; rfl, h2, h3⟩) hf hk
variable {S1 : Type} {Om : S1 → Po}
/-- x = [..], on one line; (f: x is not changed behind it) -/
theorem bo_lcL {tg iter elt : Expr} {scope : Scope} {own : List (Str × Nat)} {lk : List Res} {gt : TG} {is : List Nat} {xs : List α} {i : Nat} {y : Str} {py spos : Pos} {k : List β → S1} (enc : α → D) (encR : β → D) (F : α → β) (hN : X.N.Nodup) (hy : X.N[i]? = some y) (hyl : X.env.scope.names.lookup y = some .local) (hc : X.calm = true) (hi : ItwP X tg iter g l lk (xs.map enc)) (ok : BlkOk X.N X.env.scope scope own)
    (hg : Blkc X scope fun Y => PG Y tg gt) (his : ∀ i ∈ is, i ∈ own.map (·.2)) (hz : xs.length ≤ 10000)
    (hs : ∀ (i : Nat) (x : α), xs[i]? = some x → ∃ es, Tg X.K gt is (enc x) es ∧ Blkc X scope fun Y => Px Y elt (sets (wipeG g (own.map (·.2))) is es) l (encR (F x)))
    (h : ∀ p ys, ys = xs.map F → Bo X W rest (g.set i (some (.adr p))) (ownL X.K p (ys.map encR) :: l) Om (k ys))
    (hsw : swapsWith (.ListComp elt [⟨tg, iter, [], 0⟩] scope pos) (some (.Name y py)) spos.line X.env = pure true := by rfl) (hf : ∀ x, foldedSetIterable iter X.env x = pure x := by intro _; rfl) (hk : SubR l lk := by first | exact subr0 | exact subr1 0 rfl | exact subr1 1 rfl | exact subr1 2 rfl | exact subr1 3 rfl | exact subr1 4 rfl | exact subr1 5 rfl | exact subr2 0 0 rfl rfl | exact subr2 1 0 rfl rfl | exact subr2 0 1 rfl rfl | exact subr2 1 1 rfl rfl | exact subr2 2 0 rfl rfl | exact subr2 2 1 rfl rfl) : Bo X W (.Assign [.Name y py] (.ListComp elt [⟨tg, iter, [], 0⟩] scope pos) spos :: rest) g l Om (lt (xs.map F) k) :=
  blk_setLcO (rs := (xs.map F).map encR) hc hN hy hyl hsw hi ok hg his (by simp) (by rw [List.length_map, List.length_map]; exact Nat.le_trans hz (by decide)) (fun i d hd => by
    rw [List.getElem?_map] at hd
    obtain ⟨x, hx, rfl⟩ := Option.map_eq_some_iff.mp hd
    obtain ⟨es, h1, h2⟩ := hs i x hx
    exact ⟨es, _, h1, by rw [List.getElem?_map, List.getElem?_map, hx]; rfl, h2⟩) (fun p => h p _ rfl) hf hk
theorem bo_lcLF {tg iter elt c : Expr} {scope : Scope} {own : List (Str × Nat)} {lk : List Res} {gt : TG} {is : List Nat} {xs : List α} {i : Nat} {y : Str} {py spos : Pos} {k : List β → S1} (enc : α → D) (encR : β → D) (cb : α → Bool) (F : α → β) (hN : X.N.Nodup) (hy : X.N[i]? = some y) (hyl : X.env.scope.names.lookup y = some .local) (hc : X.calm = true) (hi : ItwP X tg iter g l lk (xs.map enc)) (ok : BlkOk X.N X.env.scope scope own)
    (hg : Blkc X scope fun Y => PG Y tg gt) (his : ∀ i ∈ is, i ∈ own.map (·.2)) (hz : xs.length ≤ 10000)
    (hs : ∀ (i : Nat) (x : α), xs[i]? = some x → ∃ es, Tg X.K gt is (enc x) es ∧ (Blkc X scope fun Y => Ts Y c (sets (wipeG g (own.map (·.2))) is es) l (cb x)) ∧ (cb x = true → Blkc X scope fun Y => Px Y elt (sets (wipeG g (own.map (·.2))) is es) l (encR (F x))))
    (h : ∀ p ys, ys = (xs.filter cb).map F → Bo X W rest (g.set i (some (.adr p))) (ownL X.K p (ys.map encR) :: l) Om (k ys))
    (hsw : swapsWith (.ListComp elt [⟨tg, iter, [c], 0⟩] scope pos) (some (.Name y py)) spos.line X.env = pure true := by rfl) (hf : ∀ x, foldedSetIterable iter X.env x = pure x := by intro _; rfl) (hk : SubR l lk := by first | exact subr0 | exact subr1 0 rfl | exact subr1 1 rfl | exact subr1 2 rfl | exact subr1 3 rfl | exact subr1 4 rfl | exact subr1 5 rfl | exact subr2 0 0 rfl rfl | exact subr2 1 0 rfl rfl | exact subr2 0 1 rfl rfl | exact subr2 1 1 rfl rfl | exact subr2 2 0 rfl rfl | exact subr2 2 1 rfl rfl) : Bo X W (.Assign [.Name y py] (.ListComp elt [⟨tg, iter, [c], 0⟩] scope pos) spos :: rest) g l Om (lt ((xs.filter cb).map F) k) :=
  blk_setLcIfO (rs := xs.map fun x => if cb x = true then some (encR (F x)) else none) hc hN hy hyl hsw hi ok hg his (by simp) (by rw [List.length_map]; exact Nat.le_trans hz (by decide)) (fun i d hd => by
    rw [List.getElem?_map] at hd
    obtain ⟨x, hx, rfl⟩ := Option.map_eq_some_iff.mp hd
    obtain ⟨es, h1, h2, h3⟩ := hs i x hx
    exact ⟨es, cb x, encR (F x), h1, by rw [List.getElem?_map, hx]; rfl, h2, h3⟩) (fun p => by rw [keepL_filt]; exact h p _ rfl) hf hk
theorem bo_lc {tg iter elt : Expr} {scope : Scope} {own : List (Str × Nat)} {lk : List Res} {gt : TG} {is : List Nat} {xs : List α} {i : Nat} {y : Str} {py spos : Pos} {k : List β → S1} (enc : α → D) (encR : β → D) (F : α → β) (hN : X.N.Nodup) (hy : X.N[i]? = some y) (hyl : X.env.scope.names.lookup y = some .local) (hil : i < g.length) (hc : X.calm = true) (hi : ItwP X tg iter g l lk (xs.map enc)) (ok : BlkOk X.N X.env.scope scope own)
    (hg : Blkc X scope fun Y => PG Y tg gt) (his : ∀ i ∈ is, i ∈ own.map (·.2)) (hz : xs.length ≤ 10000)
    (hs : ∀ (i : Nat) (x : α), xs[i]? = some x → ∃ es, Tg X.K gt is (enc x) es ∧ Blkc X scope fun Y => Px Y elt (sets (wipeG g (own.map (·.2))) is es) l (encR (F x)))
    (h : ∀ ys, ys = xs.map F → Bo X W rest (g.set i (some (.lst (ys.map encR)))) l Om (k ys))
    (hsw : swapsWith (.ListComp elt [⟨tg, iter, [], 0⟩] scope pos) (some (.Name y py)) spos.line X.env = pure true := by rfl) (hf : ∀ x, foldedSetIterable iter X.env x = pure x := by intro _; rfl) (hk : SubR l lk := by first | exact subr0 | exact subr1 0 rfl | exact subr1 1 rfl | exact subr1 2 rfl | exact subr1 3 rfl | exact subr1 4 rfl | exact subr1 5 rfl | exact subr2 0 0 rfl rfl | exact subr2 1 0 rfl rfl | exact subr2 0 1 rfl rfl | exact subr2 1 1 rfl rfl | exact subr2 2 0 rfl rfl | exact subr2 2 1 rfl rfl) : Bo X W (.Assign [.Name y py] (.ListComp elt [⟨tg, iter, [], 0⟩] scope pos) spos :: rest) g l Om (lt (xs.map F) k) :=
  bo_lcL enc encR F hN hy hyl hc hi ok hg his hz hs (fun p ys e => Blk.frz' hil (h ys e)) hsw hf hk
theorem bo_lcF {tg iter elt c : Expr} {scope : Scope} {own : List (Str × Nat)} {lk : List Res} {gt : TG} {is : List Nat} {xs : List α} {i : Nat} {y : Str} {py spos : Pos} {k : List β → S1} (enc : α → D) (encR : β → D) (cb : α → Bool) (F : α → β) (hN : X.N.Nodup) (hy : X.N[i]? = some y) (hyl : X.env.scope.names.lookup y = some .local) (hil : i < g.length) (hc : X.calm = true) (hi : ItwP X tg iter g l lk (xs.map enc)) (ok : BlkOk X.N X.env.scope scope own)
    (hg : Blkc X scope fun Y => PG Y tg gt) (his : ∀ i ∈ is, i ∈ own.map (·.2)) (hz : xs.length ≤ 10000)
    (hs : ∀ (i : Nat) (x : α), xs[i]? = some x → ∃ es, Tg X.K gt is (enc x) es ∧ (Blkc X scope fun Y => Ts Y c (sets (wipeG g (own.map (·.2))) is es) l (cb x)) ∧ (cb x = true → Blkc X scope fun Y => Px Y elt (sets (wipeG g (own.map (·.2))) is es) l (encR (F x))))
    (h : ∀ ys, ys = (xs.filter cb).map F → Bo X W rest (g.set i (some (.lst (ys.map encR)))) l Om (k ys))
    (hsw : swapsWith (.ListComp elt [⟨tg, iter, [c], 0⟩] scope pos) (some (.Name y py)) spos.line X.env = pure true := by rfl) (hf : ∀ x, foldedSetIterable iter X.env x = pure x := by intro _; rfl) (hk : SubR l lk := by first | exact subr0 | exact subr1 0 rfl | exact subr1 1 rfl | exact subr1 2 rfl | exact subr1 3 rfl | exact subr1 4 rfl | exact subr1 5 rfl | exact subr2 0 0 rfl rfl | exact subr2 1 0 rfl rfl | exact subr2 0 1 rfl rfl | exact subr2 1 1 rfl rfl | exact subr2 2 0 rfl rfl | exact subr2 2 1 rfl rfl) : Bo X W (.Assign [.Name y py] (.ListComp elt [⟨tg, iter, [c], 0⟩] scope pos) spos :: rest) g l Om (lt ((xs.filter cb).map F) k) :=
  bo_lcLF enc encR cb F hN hy hyl hc hi ok hg his hz hs (fun p ys e => Blk.frz' hil (h ys e)) hsw hf hk
/-! ### optional things -/
def optE (f : α → D) : Option α → D
  | none => .non
  | some x => f x
theorem optE_non {f : α → D} (hf : ∀ x, (f x).isNon = false) (o : Option α) : (optE f o).isNon = o.isNone := by cases o with | none => rfl | some x => exact hf x
end
end Sx
set_option Elab.async false
set_option linter.all false
set_option maxRecDepth 100000
set_option maxHeartbeats 2000000
/-! Operations over encoded things, as the walker (walk.py) names them. -/
namespace Sx
open PySem L2
section
variable {X : Cx} {W : WX} {g g' : Gm} {l l' : List Res} {e e2 c a b o : Expr} {d d1 d2 : D} {pos p p2 : Pos} {rest A B body : List Stmt} {es : List Expr}
variable {α β γ : Type} {xs ys : List α} {enc : α → D} {K : PySem.W.Frag}
abbrev lstE (f : α → D) (xs : List α) : D := .lst (xs.map f)
abbrev tlE (f : α → D) (xs : List α) : D := .tup (xs.map f)
theorem ev_strideM (enc : α → D) {lo hi : Option Expr} {st : Expr} {i j : Option Int} {k : Int} (ho : Px X o g l d) (hd : Lq X.K l d (xs.map enc)) (hl : Pz X lo g l i) (hu : Pz X hi g l j) (hs : Pz X (some st) g l (some k)) (hn : k ≠ 0) (hz : (pickN xs (places xs.length i j (some k))).length ≤ 10000) : EvL X (.Subscript o (.Slice lo hi (some st) p2) pos) g l ((pickN xs (places xs.length i j (some k))).map enc) := by
  have := ev_stride (pos := pos) (p2 := p2) ho hd hl hu hs (fun h => hn (Option.some.inj h)) (by rw [List.length_map, pickN_map, List.length_map]; exact Nat.le_trans hz (by decide))
  rw [List.length_map, pickN_map] at this
  exact this
theorem px_strideM (enc : α → D) {lo hi : Option Expr} {st : Expr} {i j : Option Int} {k : Int} (ho : Px X o g l d) (hd : Lq X.K l d (xs.map enc)) (hl : Pz X lo g l i) (hu : Pz X hi g l j) (hs : Pz X (some st) g l (some k)) (hn : k ≠ 0) (hz : (pickN xs (places xs.length i j (some k))).length ≤ 10000) : Px X (.Subscript o (.Slice lo hi (some st) p2) pos) g l (lstE enc (pickN xs (places xs.length i j (some k)))) := (ev_strideM enc ho hd hl hu hs hn hz).frz
theorem o_ixM (enc : α → D) {x0 : α} {i : Int} (h : Lq K l d (xs.map enc)) (h0 : 0 ≤ i) (h1 : i < xs.length) : Op2 K l (rIxL K) d (.int i) (enc (xs.getD i.toNat x0)) := o_ixV h (atI_map (atI_in h0 h1))
theorem o_lenM (h : Sv K l d (xs.map enc)) : OpN K l (rLen1 K) [d] (.int (xs.length : Int)) := by
  have := o_lenV h
  rw [List.length_map] at this
  exact this
theorem o_isNo {f : α → D} (hf : ∀ x, (f x).isNon = false) {o : Option α} : Op2 K l (fun x y H Q => y = .non ∧ Q (.bl (decide (x = .non))) H) (optE f o) .non (.bl o.isNone) := by
  rw [← optE_non hf o]; exact o_isN
theorem o_ninI {x : Int} {ns : List Int} {d0 : D} (hd : d0 = .lst (ns.map D.int) ∨ d0 = .tup (ns.map D.int)) : Op2 K l (rIn K true) (.int x) d0 (.bl (!decide (x ∈ ns))) := by
  have h := o_in (K := K) (l := l) (neg := true) hd (d := .int x) rfl flat_ints
  rw [vv_ints] at h
  have e : (if true = true then !inV (D.int x).vv (ns.map V.int) else inV (D.int x).vv (ns.map V.int)) = !decide (x ∈ ns) := congrArg (!·) inV_int
  rw [e] at h; exact h
theorem o_intB {b : Bool} : OpN K l (fun xs H Q => (∃ i, xs = [.int i] ∧ Q (.int i) H) ∨ ∃ k, xs = [.bl k] ∧ Q (.int (if k then 1 else 0)) H) [.bl b] (.int (if b then 1 else 0)) := fun F M H vs Q eF eM dj rs f k => by
  cases f with
  | cons f1 f2 =>
    cases f2; cases f1
    exact .inr ⟨b, rfl, k _ F H (.rf eF) (.int _)⟩
/-- a method that gives a new list -/
theorem ev_methM {α : Type} {ok : α → Prop} {args : α → List D} {f : α → List D} {C : Addr} {m : Str} {ps : List Str} {k j : Nat} {ds : List D} {apos : Pos} {pl : Sem Bool} {fs : List (Str × D)}
    (G : GloM X.prog X.w X.K X.mg X.base k C m ps (Fr X.K ok args f)) (hr : Room j X.A) (hj : k ≤ j) (a : α) (hok : ok a) (ho : Px X o g l (.ins C fs)) (hfs : fs.lookup m = none) (ha : Pa X (e :: es) g l ds) (hds : args a = .ins C fs :: ds)
    (hst : starEach (e :: es) X.env = (false, eval e X.env) :: starEach es X.env := by rfl) (hpl : (backTo pos (starEach es X.env)).any (·.1) = false := by rfl)
    (ht : MthE X o m apos pos (e :: es) pl := by rfl) : EvL X (.Call (.Attribute o m apos) (e :: es) [] pos) g l (f a) :=
  ev_meth (lr := l) (own := fun _ => []) G hr hj a hok ho (rc_ins hfs) ha hds (fun d l' h => by obtain ⟨p, rfl, rfl⟩ := h; exact ⟨p, rfl, rfl⟩) hst hpl ht
theorem look_hd {k : Str} {d : D} {r : List (Str × D)} : List.lookup k ((k, d) :: r) = some d := by rw [List.lookup_cons, beq_self_eq_true]
theorem look_tl {k k' : Str} {d' : D} {r : List (Str × D)} {o : Option D} (h : List.lookup k r = o) (n : (k == k') = false := by decide +kernel) : List.lookup k ((k', d') :: r) = o := by rw [List.lookup_cons, n]; exact h
theorem look_nil {k : Str} : List.lookup k ([] : List (Str × D)) = none := rfl
variable {Om : β → Po} {v : Expr}
end
end Sx
namespace Sx
theorem cond_keep {S1 : Type} {P : S1 → Prop} {b : Bool} {x y : S1} (hx : b = true → P x) (hy : b = false → P y) : P (cond b x y) := by
  cases b
  · exact hy rfl
  · exact hx rfl
end Sx
set_option Elab.async false
set_option linter.all false
set_option maxRecDepth 100000
set_option maxHeartbeats 2000000
/-! Models of dicts: lists of pairs. -/
namespace Sx
open PySem L2
section
variable {κ κ' β γ : Type} [DecidableEq κ] [DecidableEq κ']
def aget (m : List (κ × β)) (k : κ) : Option β := (m.find? fun kv => decide (kv.1 = k)).map (·.2)
def aput (m : List (κ × β)) (k : κ) (v : β) : List (κ × β) :=
  if (m.any fun kv => decide (kv.1 = k)) = true then m.map (fun kv => if kv.1 = k then (kv.1, v) else kv) else m ++ [(k, v)]
def adel (m : List (κ × β)) (k : κ) : List (κ × β) := m.filter fun kv => decide (kv.1 ≠ k)
abbrev dE (kf : κ → κ') (enc : β → D) (m : List (κ × β)) : List (κ' × D) := m.map fun kv => (kf kv.1, enc kv.2)
variable {kf : κ → κ'} {enc : β → D} {m : List (κ × β)} {k : κ} {v : β}
theorem dec_inj (inj : ∀ a b, kf a = kf b → a = b) (a b : κ) : decide (kf a = kf b) = decide (a = b) := by
  by_cases h : a = b
  · subst h; simp
  · rw [decide_eq_false h, decide_eq_false fun z => h (inj a b z)]
theorem val_aget (inj : ∀ a b, kf a = kf b → a = b) : ∀ {m : List (κ × β)}, valD (dE kf enc m) (kf k) = (aget m k).map enc
  | [] => rfl
  | (a, b) :: m => by
    have ih := val_aget (m := m) inj
    unfold valD aget dE at ih ⊢
    rw [List.map_cons, List.find?_cons, List.find?_cons, dec_inj inj]
    cases decide (a = k) with
    | true => rfl
    | false => exact ih
theorem any_inj (inj : ∀ a b, kf a = kf b → a = b) : ((dE kf enc m).any fun kv => decide (kv.1 = kf k)) = m.any fun kv => decide (kv.1 = k) := by
  unfold dE
  rw [List.any_map]
  congr 1
  funext x
  exact dec_inj inj x.1 k
theorem put_aput (inj : ∀ a b, kf a = kf b → a = b) : putKD (dE kf enc m) (kf k) (enc v) = dE kf enc (aput m k v) := by
  unfold putKD aput
  rw [any_inj inj]
  split
  · unfold dE
    rw [List.map_map, List.map_map]
    refine List.map_congr_left fun x _ => ?_
    show (if kf x.1 = kf k then (kf x.1, enc v) else (kf x.1, enc x.2)) = _
    by_cases h : x.1 = k
    · subst h
      rw [if_pos rfl]
      show _ = (fun kv : κ × β => (kf kv.1, enc kv.2)) (if x.1 = x.1 then (x.1, v) else x)
      rw [if_pos rfl]
    · rw [if_neg fun z => h (inj _ _ z)]
      show _ = (fun kv : κ × β => (kf kv.1, enc kv.2)) (if x.1 = k then (x.1, v) else x)
      rw [if_neg h]
  · unfold dE
    rw [List.map_append]
    rfl
theorem aput_keys : (aput m k v).map (·.1) = if k ∈ m.map (·.1) then m.map (·.1) else m.map (·.1) ++ [k] := by
  have e : (m.any fun kv => decide (kv.1 = k)) = decide (k ∈ m.map (·.1)) := by
    by_cases h : k ∈ m.map (·.1)
    · rw [decide_eq_true h]
      obtain ⟨x, hx, hk⟩ := List.mem_map.mp h
      exact List.any_eq_true.mpr ⟨x, hx, decide_eq_true hk⟩
    · rw [decide_eq_false h]
      refine List.any_eq_false.mpr fun x hx hd => h (List.mem_map.mpr ⟨x, hx, of_decide_eq_true hd⟩)
  unfold aput
  rw [e]
  by_cases h : k ∈ m.map (·.1)
  · rw [decide_eq_true h, if_pos rfl, if_pos h, List.map_map]
    refine List.map_congr_left fun x _ => ?_
    show (if x.1 = k then (x.1, v) else x).1 = x.1
    split <;> rfl
  · rw [decide_eq_false h, if_neg (by simp), if_neg h, List.map_append]
    rfl
theorem aput_len : (aput m k v).length ≤ m.length + 1 := by
  have := congrArg List.length (aput_keys (m := m) (k := k) (v := v))
  rw [List.length_map] at this
  rw [this]
  split
  · rw [List.length_map]; omega
  · rw [List.length_append, List.length_map]; exact Nat.le_refl _
theorem aget_none {m : List (κ × β)} : aget m k = none ↔ k ∉ m.map (·.1) := by
  unfold aget
  rw [Option.map_eq_none_iff, List.find?_eq_none]
  constructor
  · intro h hm
    obtain ⟨x, hx, hk⟩ := List.mem_map.mp hm
    exact h x hx (decide_eq_true hk)
  · intro h x hx hd
    exact h (List.mem_map.mpr ⟨x, hx, of_decide_eq_true hd⟩)
end
def kS (x : Str) : Key := .inr x
def kI (i : Int) : Key := .inl i
def kII (x : Int × Int) : List Key := [.inl x.1, .inl x.2]
def kSS (x : Str × Str) : List Key := [.inr x.1, .inr x.2]
def kSI (x : Str × Int) : List Key := [.inr x.1, .inl x.2]
theorem kSS_inj (a b : Str × Str) (h : kSS a = kSS b) : a = b := by
  obtain ⟨x, y⟩ := a; obtain ⟨z, w⟩ := b
  unfold kSS at h
  injection h with h1 h2
  injection h2 with h2 _
  exact Prod.ext (Sum.inr.inj h1) (Sum.inr.inj h2)
abbrev dkE {κ β : Type} [DecidableEq κ] (kf : κ → Key) (enc : β → D) (m : List (κ × β)) : D := .dK (dE kf enc m)
abbrev dtE {κ β : Type} [DecidableEq κ] (kf : κ → List Key) (enc : β → D) (m : List (κ × β)) : D := .dT (dE kf enc m)
theorem optE_map {β : Type} {enc : β → D} {o : Option β} : (o.map enc).getD .non = optE enc o := by cases o <;> rfl
section
variable {X : Cx} {W : WX} {g g' : Gm} {l l' : List Res} {e e2 c a b o v : Expr} {d d1 d2 : D} {pos p p2 apos kp : Pos} {rest : List Stmt} {es : List Expr} {x1 : Nat} {ds : List D}
variable {κ β γ : Type} [DecidableEq κ] {m : List (κ × β)} {k : κ} {enc : β → D}
section
variable {kf : κ → Key}
end
variable {S1 : Type} {Om : S1 → Po} {kk : List (κ × β) → S1}
section
variable {kf : κ → List Key}
theorem px_tgetM (inj : ∀ a b, kf a = kf b → a = b) (enc : β → D) {x0 : β} (hu : X.A.units + 64 < cLine) (ho : Px X o g l d1) (hd : Dw X.K l d1 (dE kf enc m)) (hi : Pa X es g l ((kf k).map kD)) (hz : (kf k).length ≤ sizeLine) (hv : (aget m k).isSome = true) (hs : NoSl (.Tuple es x1 kp) := by intro _ _; rfl) : Px X (.Subscript o (.Tuple es x1 kp) pos) g l (enc ((aget m k).getD x0)) :=
  px_tget (Px.units hu) ho hd hi rfl (by
    rw [val_aget inj]
    cases h : aget m k with
    | none => rw [h] at hv; cases hv
    | some x => rfl) hz hs
theorem px_tget1M (inj : ∀ a b, kf a = kf b → a = b) (enc : β → D) (hu : X.A.units + 64 < cLine) (ho : Px X o g l d1) (hd : Dw X.K l d1 (dE kf enc m)) (hi : Pa X es g l ((kf k).map kD)) (hz : (kf k).length ≤ sizeLine) (hm : M1 X o "get" apos (.Tuple es x1 kp) pos := by constructor <;> rfl) : Px X (.Call (.Attribute o "get" apos) [.Tuple es x1 kp] [] pos) g l (optE enc (aget m k)) := by
  have := px_tget1 (Px.units hu) ho hd hi rfl hz hm
  rw [val_aget inj, optE_map] at this
  exact this
theorem bo_tput {n : Nat} {q : Addr} {pos' : Pos} {v0 : β} (inj : ∀ a b, kf a = kf b → a = b) (enc : β → D) (hu : X.A.units + 64 < cLine) (hv : Px X v g l (enc v0)) (ho : Px X o g l (.adr q)) (hi : Pa X es g l ((kf k).map kD)) (hkz : (kf k).length ≤ sizeLine) (hl : l[n]? = some (ownT X.K q (dE kf enc m))) (hz : m.length < 10000)
    (h : ∀ m2, m2 = aput m k v0 → Bo X W rest g (l.set n (ownT X.K q (dE kf enc m2))) Om (kk m2)) (hs : swapsWith v (some (.Subscript o (.Tuple es x1 kp) pos')) pos.line X.env = pure false := by rfl) : Bo X W (.Assign [.Subscript o (.Tuple es x1 kp) pos'] v pos :: rest) g l Om (lt (aput m k v0) kk) :=
  blk_tput (Px.units hu) hv ho hi rfl hl (by rw [List.length_map]; exact hz) (by rw [put_aput inj]; exact h _ rfl) hkz hs
end
end
end Sx
namespace Sx
open PySem L2
section
variable {X : Cx} {g : Gm} {l : List Res} {e o : Expr} {d1 : D} {pos : Pos} {κ β : Type} [DecidableEq κ] {m : List (κ × β)} {k : κ} {kf : κ → Key}
end
end Sx
set_option Elab.async false
set_option linter.all false
set_option maxRecDepth 100000
set_option maxHeartbeats 2000000
/-! Plain: loops of the models, sums, counts. -/
namespace Sx
open PySem L2
def sumZ {α : Type} (f : α → Int) (xs : List α) : Int := (xs.map f).sum
end Sx
set_option Elab.async false
set_option linter.all false
set_option maxRecDepth 100000
set_option maxHeartbeats 2000000
/-! Exceptions: calls that may raise, raise, a caught one that is kept, what it is. -/
namespace Sx
open PySem L2 PyProof.Rows

/-! ### readings -/
section
variable {X : Cx} {CX : CXT} {k : Nat} {f C : Addr} {fd : FuncData} {ps : List Str} {sp : Sp} {E : L2.St → XK} {m : Str} {pos apos : Pos} {e o : Expr} {es : List Expr} {ta : TE} {t : TA} {pl : Sem Bool}
/-- o.m(..) where what is wished of an exception may hang on the slots -/
def tMthS (C : Addr) (m : Str) (sp : Sp) (E : L2.St → XK) (ta : TE) (t : TA) : TE := fun σ H Q => ta σ H fun x H1 => ∃ a dx fs, x = .ref a ∧ H1 a = some (.ins C dx fs) ∧ fs.lookup m = none ∧ t σ H1 fun vs H2 => sp (x :: vs) H2 Q (E σ)
theorem pe_mthS (ho : PE X o ta) (hc : Cls X.K C) (hm : Meth X.K C m f) (F : FnOk X.prog X.w X.K X.mg X.base CX k f fd ps sp) (hr : Room k X.A) (hb : Binds X.K fd ps []) (hx : ∀ σ, PassesAt CX X σ (E σ)) (ha : PA X (e :: es) t)
    (hst : starEach (e :: es) X.env = (false, eval e X.env) :: starEach es X.env := by rfl) (hpl : (backTo pos (starEach es X.env)).any (·.1) = false := by rfl) (ht : MthE X o m apos pos (e :: es) pl := by rfl) :
    PE X (.Call (.Attribute o m apos) (e :: es) [] pos) (tMthS C m sp E ta t) := by
  refine ⟨fun pins s σ H Q I h => ?_⟩
  refine PySem.W.methodCall_KW (pl := pl) (thn (ho.run pins s σ H _ I h) fun u s1 hh => ?_) ht
  obtain ⟨x, H1, I1, rx, q, dx, fs, ex, ea, lk, hq⟩ := hh
  subst ex
  have eu : u = Value.ref q := rx
  subst eu
  refine getmeth_ok I1 ea hc hm lk ?_
  refine PySem.W.callWith_K (first := [.ref q]) (h₀ := X.base) I.ok.mod.kin hm.kp (thn (ha.run pos pins s1 σ H1 _ I1 hq) fun us s2 h2 => ?_) hst hpl
  obtain ⟨vs, H2, I2, r, q2⟩ := h2
  exact ⟨I2.kIn, run_fnS (us := .ref q :: us) (vs := .ref q :: vs) F hr hb (hx σ) I2 (.cons rfl r) q2⟩
end

/-! ### judgements -/
/-- e gives a datum as Psi tells, or raises as XP tells -/
def Exv (X : Cx) (W : WX) (e : Expr) (g : Gm) (l : List Res) (Psi : D → List Res → Prop) (XP : Value → Option Addr → List Res → Prop) : Prop := ∀ en T σ H (Q : VK), S X.K en g T l σ H → (∀ v d l' H', Psi d l' → S X.K en g (T.and X.K v d) l' σ H' → Q v H') → (∀ cls dd l' H', XP cls dd l' → S X.K en g T l' σ H' → W cls dd σ H') → wpE X e σ H Q
/-- a def that may raise -/
def GloX (P : Program) (w : World) (K : PySem.W.Frag) (mg : Str → Option Value) (base : Heap) (k : Nat) (x : Str) (ps : List Str) (sp : Sp) : Prop :=
  ∃ f fd, FnOk P w K mg base (L2.CX P w) k f fd ps sp ∧ mg x = some (.ref f) ∧ PySem.W.keepIn K (.ref f) = true ∧ Binds K fd ps []
def GloMX (P : Program) (w : World) (K : PySem.W.Frag) (mg : Str → Option Value) (base : Heap) (k : Nat) (C : Addr) (m : Str) (ps : List Str) (sp : Sp) : Prop :=
  ∃ f fd, FnOk P w K mg base (L2.CX P w) k f fd ps sp ∧ Cls K C ∧ Meth K C m f ∧ Binds K fd ps []
section
variable {P : Program} {w : World} {K : PySem.W.Frag} {mg : Str → Option Value} {base : Heap} {k : Nat} {C : Addr} {x m qual : Str} {ps : List Str} {sp : Sp} {st : Stmt}
theorem glomx_of (d : Dmt K C m qual st) (c : Cls K C) (b : Bnd m qual st ps) (h : ∀ f fd, Fun K m qual st f fd → FnOk P w K mg base (L2.CX P w) k f fd ps sp) : GloMX P w K mg base k C m ps sp := by
  obtain ⟨f, fd, F, hm⟩ := d
  have F0 := F
  obtain ⟨⟨oc, od, kV, doc, pm, an, cdv, ct, osl, e, lk, hcd⟩, kp⟩ := F
  exact ⟨f, fd, h f fd F0, c, hm, Binds.all fun us hl => by rw [e]; exact b kV doc pm an cdv ct us hl⟩
end
section
variable {X : Cx} {W : WX} {g g' : Gm} {l l' : List Res} {Φ : Po} {e e2 a b c o : Expr} {es : List Expr} {d d1 d2 : D} {pos p p2 apos : Pos} {rest : List Stmt}
theorem FnX.useX {α : Type} {ok : α → Prop} {args : α → List D} {own : α → List Res} {post : α → D → List Res → Prop} {epost : α → Value → Option Addr → List Res → Prop} {K : PySem.W.Frag} {en : En} {T : Tm} {σ : L2.St} {H : Hp} {vs : List V} {lr : List Res} {Q : VK}
    (a : α) (hok : ok a) (s : S K en g (T.ands K vs (args a)) (own a ++ lr) σ H) (hq : ∀ v d l' H', post a d l' → S K en g (T.and K v d) (l' ++ lr) σ H' → Q v H') (he : ∀ cls d l' H', epost a cls d l' → S K en g T (l' ++ lr) σ H' → W cls d σ H') :
    FnX K ok args own post epost vs H Q (WE W σ) := FnX.use a hok s hq he
theorem exv_meth {α : Type} {ok : α → Prop} {args : α → List D} {own : α → List Res} {post : α → D → List Res → Prop} {epost : α → Value → Option Addr → List Res → Prop} {C : Addr} {m : Str} {ps : List Str} {k j : Nat} {lr : List Res} {Psi : D → List Res → Prop} {XP : Value → Option Addr → List Res → Prop} {ds : List D} {pl : Sem Bool}
    (tk : Takes X W) (G : GloMX X.prog X.w X.K X.mg X.base k C m ps (FnX X.K ok args own post epost)) (hr : Room j X.A) (hj : k ≤ j) (a : α) (hok : ok a) (ho : Px X o g (own a ++ lr) d1)
    (hd : ∀ F M H v, Ex F H → Ex M H → Rs (own a ++ lr) F M → Fd X.K F v d1 → ∃ q dx fs, v = .ref q ∧ H q = some (.ins C dx fs) ∧ fs.lookup m = none)
    (ha : Pa X (e :: es) g (own a ++ lr) ds) (hds : args a = d1 :: ds) (hq : ∀ d l', post a d l' → Psi d (l' ++ lr)) (hx : ∀ cls d l', epost a cls d l' → XP cls d (l' ++ lr))
    (hst : starEach (e :: es) X.env = (false, eval e X.env) :: starEach es X.env := by rfl) (hpl : (backTo pos (starEach es X.env)).any (·.1) = false := by rfl)
    (ht : MthE X o m apos pos (e :: es) pl := by rfl) :
    Exv X W (.Call (.Attribute o m apos) (e :: es) [] pos) g (own a ++ lr) Psi XP := fun en T σ H Q s kk kx => by
  obtain ⟨f, fd, F, hc, hm, hb⟩ := G
  refine wpE_of (pe_mthS pe_wp hc hm F (hr.mono hj) hb (passAt tk) pa_wp hst hpl ht) ?_
  refine ho en T σ H _ s fun v H1 s1 => ?_
  have s1' := s1
  obtain ⟨F1, M1, q1⟩ := s1
  obtain ⟨q, dx, fs, rfl, h1, h2⟩ := hd F1 M1 H1 v q1.exF q1.exM q1.rs q1.tm.1
  refine ⟨q, dx, fs, rfl, h1, h2, ?_⟩
  refine ha en _ σ H1 _ s1' fun vs H2 s2 => ?_
  refine FnX.useX a hok (T := T) (g := g) (en := en) (σ := σ) (lr := lr) ?_ (fun v d l' H' hp s' => kk v d _ H' (hq d l' hp) s') (fun cls d l' H' hp s' => kx cls d _ H' (hx cls d l' hp) s')
  obtain ⟨F, M, q⟩ := s2
  exact ⟨F, M, q.tmp ⟨by rw [hds]; exact .cons q.tm.2.1 q.tm.1, q.tm.2.2⟩⟩
/-! ### statements -/
theorem blk_exprX {Psi : D → List Res → Prop} {XP : Value → Option Addr → List Res → Prop} (he : Exv X W e g l Psi XP) (h : ∀ d l', Psi d l' → Blk X W rest g l' Φ) (hx : ∀ cls d l', XP cls d l' → Φ.ex cls d g l') (hs : swapsWith e none pos.line X.env = pure false := by rfl) : Blk X W (.Expr e pos :: rest) g l Φ := fun en T σ H D s m => wpS_of (pss_cons (ps_expr pe_wp hs) pss_wp) (he en T σ H _ s (fun v d l' H' p s' => h d l' p en T σ H' D s'.drop m) fun cls d l' H' p s' => m.ex cls d g l' σ H' (hx cls d l' p) s')
theorem blk_setXX {Psi : D → List Res → Prop} {XP : Value → Option Addr → List Res → Prop} {i : Nat} {x : Str} {pos' : Pos} (hN : X.N.Nodup) (hi : X.N[i]? = some x) (hx : Loc X.env.scope x) (he : Exv X W e g l Psi XP) (h : ∀ d l', Psi d l' → Blk X W rest (g.set i (some d)) l' Φ) (hxx : ∀ cls d l', XP cls d l' → Φ.ex cls d g l') (hs : swapsWith e (some (.Name x pos')) pos.line X.env = pure false := by rfl) (hf : X.fn x = true ∨ X.env.scope.names.lookup x = some .local := by first | exact .inl rfl | exact .inr rfl | assumption) :
    Blk X W (.Assign [.Name x pos'] e pos :: rest) g l Φ := fun en T σ H D s m => wpS_of (pss_cons (ps_set hN hi hx pe_wp hs hf) pss_wp) (he en T σ H _ s (fun v d l' H' p s' => by
      obtain ⟨F, M, a⟩ := s'
      exact h d l' p en T (σ.set i (some v)) H' D ⟨F, M, (a.tmp a.tm.2).slots (a.sl.set i a.tm.1)⟩ m) fun cls d l' H' p s' => m.ex cls d g l' σ H' (hxx cls d l' p) s')
/-- what the written part says of an exception class that keeps no values -/
structure Dxc (K : PySem.W.Frag) (mg : Str → Option Value) (x : Str) (C : Addr) : Prop where
  nm : mg x = some (.ref C)
  kp : PySem.W.keepIn K (.ref C) = true
  sub : PySem.W.subIn K (.ref C) (.type "BaseException") = some true
  ty : PySem.W.typeIn K (.ref C) = some (.type "type")
  ec : ExcC K C
abbrev vErr : List Value := [.type "ValueError", .type "Exception", .type "BaseException", .type "object"]
theorem blk_raise {x m : Str} {j : Nat} {C : Addr} {pr : Pos} (hc : X.calm = true) (tk : Takes X W) (x0 : Dxc X.K X.mg x C) (xi : PySem.W.excIn X.K C vErr "ValueError.__new__" = true) (h : Φ.ex (.ref C) none g l) (hg : Gl X x := by rfl) (hdb : (x == ("__debug__" : Str)) = false := by decide) : Blk X W (.Raise (some (.Call (.Name x p) [.Constant (.str m) j p2] [] pos)) none pr :: rest) g l Φ := fun en T σ H D s mt =>
  wpS_of (pss_cons (ps_raise hc tk (pmk_own F.excBase_ValueError xi x0.nm x0.kp (raises_own x0.sub x0.ty) hg hdb)) pss_wp) (mt.ex _ _ g l σ H h s)
end

/-! ### a caught exception that is kept -/
section
variable {X : Cx} {x n y : Str} {c : Value} {i j : Nat} {body : List Stmt} {np pos pos' py pn ap : Pos} {tb : WX → TS} {Wout : WX}
/-- what the clause 'except x as n: y = n' wishes of an exception of the body -/
def wKeep (K : PySem.W.Frag) (c : Value) (i j : Nat) (Wout : WX) (D : Ends) : WX := fun cls d σ H =>
  ∃ b, PySem.W.exmOne K cls c = some b ∧ (b = true → ∀ a, H a = none → D.nx (((σ.set i (some (.ref a))).set j (some (.ref a))).set i none) (upd H a (exO a cls d))) ∧ (b = false → Wout cls d σ H)
end
section
variable {X : Cx} {W : WX} {g g' : Gm} {l l' : List Res} {Φ : Po} {body rest : List Stmt} {x n y : Str} {C : Addr} {i j : Nat} {np pos pos' py pn ap : Pos}
/-! ### what a kept one is -/
def rIsK (K : PySem.W.Frag) : List V → Hp → VK → Prop := fun xs H Q => ∃ (a D : Addr) (c : V) (cv : Value) (b : Bool), xs = [.ref a, c] ∧ H a = some (exO a (.ref D) none) ∧ ExcC K D ∧ ClsV c cv ∧ PySem.W.kitOne K (.ref D) cv = some b ∧ Q (.bl b) H
def rIsKT (K : PySem.W.Frag) : List V → Hp → VK → Prop := fun xs H Q => ∃ (a D tp : Addr) (cs : List V) (ws : List Value) (b : Bool), xs = [.ref a, .ref tp] ∧ H a = some (exO a (.ref D) none) ∧ ExcC K D ∧ SqT K H tp cs ∧ Paired ClsV cs ws ∧ PySem.W.kitAny K (.ref D) ws = some b ∧ Q (.bl b) H
theorem Rs.exc {F M H : Hp} {k : Nat} {a : Addr} {cls : Value} {d : Option Addr} (h : Rs l F M) (e : l[k]? = some (ownX a cls d)) (m : Ex M H) : H a = some (exO a cls d) := by
  obtain ⟨A, B, rfl, dj, rfl, _⟩ := Rs.at e h
  exact m a _ (join_l one_same)
end
end Sx
set_option Elab.async false
set_option linter.all false
set_option maxRecDepth 100000
set_option maxHeartbeats 2000000
/-! == of encoded things. -/
namespace Sx
open PySem L2
/-- == of things encoded by enc is equality -/
structure EqS {α : Type} [DecidableEq α] (k : Nat) (ok : α → Prop) (enc : α → D) : Prop where
  ex : ∀ x, ok x → ∃ p, (enc x).py = some p ∧ p.canLay0 = true ∧ p.depth ≤ k
  eq : ∀ x y p q, (enc x).py = some p → (enc y).py = some q → PyData.eqv p q = decide (x = y)
theorem beq_dec {α : Type} [DecidableEq α] [BEq α] [LawfulBEq α] (x y : α) : (x == y) = decide (x = y) := by
  by_cases h : x = y
  · subst h; simp
  · rw [decide_eq_false h]; exact beq_false_of_ne h
theorem eqs_int : EqS 0 (fun _ => True) D.int := ⟨fun x _ => ⟨_, rfl, rfl, Nat.le_refl _⟩, fun x y p q h1 h2 => by cases h1; cases h2; exact beq_dec x y⟩
theorem eqs_bool : EqS 0 (fun _ => True) D.bl := ⟨fun x _ => ⟨_, rfl, rfl, Nat.le_refl _⟩, fun x y p q h1 h2 => by cases h1; cases h2; exact beq_dec x y⟩
theorem eqs_str : EqS 0 (fun x => PySem.PyData.strOk x = true) D.str := ⟨fun x h => ⟨_, rfl, h, Nat.le_refl _⟩, fun x y p q h1 h2 => by cases h1; cases h2; exact beq_dec x y⟩
section
variable {α β γ δ : Type} [DecidableEq α] [DecidableEq β] [DecidableEq γ] [DecidableEq δ] {k : Nat} {ok : α → Prop} {ok2 : β → Prop} {ok3 : γ → Prop} {ok4 : δ → Prop} {enc : α → D} {enc2 : β → D} {enc3 : γ → D} {enc4 : δ → D}
theorem pys_cons {d : D} {ds : List D} {ps : List PyData} (h : D.pys (d :: ds) = some ps) : ∃ a b, d.py = some a ∧ D.pys ds = some b ∧ ps = a :: b := by
  unfold D.pys at h
  obtain ⟨a, h1, h⟩ := Option.bind_eq_some_iff.mp h
  obtain ⟨b, h2, h⟩ := Option.map_eq_some_iff.mp h
  exact ⟨a, b, h1, h2, h.symm⟩
theorem EqS.all (E : EqS k ok enc) : ∀ {xs : List α}, (∀ x ∈ xs, ok x) → ∃ ps, D.pys (xs.map enc) = some ps ∧ PyData.canLayAll0 ps = true ∧ PyData.depthAll ps ≤ k := fun {xs} h =>
  Dp'.all fun d hd => by
    obtain ⟨x, hx, rfl⟩ := List.mem_map.mp hd
    exact E.ex x (h x hx)
theorem EqS.eqAll (E : EqS k ok enc) : ∀ {xs ys : List α} {ps qs : List PyData}, D.pys (xs.map enc) = some ps → D.pys (ys.map enc) = some qs → PyData.eqvAll ps qs = decide (xs = ys)
  | [], [], _, _, h1, h2 => by cases h1; cases h2; rfl
  | [], y :: ys, _, _, h1, h2 => by
    cases h1
    rw [List.map_cons] at h2
    obtain ⟨a, b, _, _, rfl⟩ := pys_cons h2
    rfl
  | x :: xs, [], _, _, h1, h2 => by
    cases h2
    rw [List.map_cons] at h1
    obtain ⟨a, b, _, _, rfl⟩ := pys_cons h1
    rfl
  | x :: xs, y :: ys, _, _, h1, h2 => by
    rw [List.map_cons] at h1 h2
    obtain ⟨a, b, e1, e2, rfl⟩ := pys_cons h1
    obtain ⟨a', b', e3, e4, rfl⟩ := pys_cons h2
    show (PyData.eqv a a' && PyData.eqvAll b b') = _
    rw [E.eq x y a a' e1 e3, EqS.eqAll E e2 e4]
    by_cases h : x = y
    · subst h
      by_cases h' : xs = ys
      · subst h'; simp
      · simp [h']
    · simp [h]
theorem eqs_lst (E : EqS k ok enc) : EqS (k + 1) (fun xs : List α => ∀ x ∈ xs, ok x) (lstE enc) := ⟨fun xs h => Dp'.lst fun d hd => by
    obtain ⟨x, hx, rfl⟩ := List.mem_map.mp hd
    exact E.ex x (h x hx), fun x y p q h1 h2 => by
    unfold D.py at h1 h2
    obtain ⟨ps, h3, rfl⟩ := Option.map_eq_some_iff.mp h1
    obtain ⟨qs, h4, rfl⟩ := Option.map_eq_some_iff.mp h2
    exact E.eqAll h3 h4⟩
theorem tup_py {ds : List D} {p : PyData} (h : (D.tup ds).py = some p) : ∃ ps, D.pys ds = some ps ∧ p = .tuple ps := by
  unfold D.py at h
  obtain ⟨ps, h1, rfl⟩ := Option.map_eq_some_iff.mp h
  exact ⟨ps, h1, rfl⟩
theorem eqs_t3 {k2 k3 : Nat} {e : α × β × γ → D} (E : EqS k ok enc) (E2 : EqS k2 ok2 enc2) (E3 : EqS k3 ok3 enc3) (he : ∀ x, e x = .tup [enc x.1, enc2 x.2.1, enc3 x.2.2] := by intro x; rfl) : EqS (max k (max k2 k3) + 1) (fun x : α × β × γ => ok x.1 ∧ ok2 x.2.1 ∧ ok3 x.2.2) e := ⟨fun x h => by
    rw [he]
    refine Dp'.tup fun d hd => ?_
    simp only [List.mem_cons, List.not_mem_nil, or_false] at hd
    rcases hd with rfl | rfl | rfl
    · exact Dp'.mono (E.ex _ h.1) (by omega)
    · exact Dp'.mono (E2.ex _ h.2.1) (by omega)
    · exact Dp'.mono (E3.ex _ h.2.2) (by omega), fun x y p q h1 h2 => by
    rw [he] at h1 h2
    obtain ⟨ps, h3, rfl⟩ := tup_py h1
    obtain ⟨qs, h4, rfl⟩ := tup_py h2
    obtain ⟨a1, b1, u1, v1, rfl⟩ := pys_cons h3
    obtain ⟨a2, b2, u2, v2, rfl⟩ := pys_cons v1
    obtain ⟨a3, b3, u3, v3, rfl⟩ := pys_cons v2
    cases v3
    obtain ⟨c1, d1, w1, z1, rfl⟩ := pys_cons h4
    obtain ⟨c2, d2, w2, z2, rfl⟩ := pys_cons z1
    obtain ⟨c3, d3, w3, z3, rfl⟩ := pys_cons z2
    cases z3
    show (PyData.eqv a1 c1 && (PyData.eqv a2 c2 && (PyData.eqv a3 c3 && true))) = _
    rw [E.eq _ _ _ _ u1 w1, E2.eq _ _ _ _ u2 w2, E3.eq _ _ _ _ u3 w3]
    obtain ⟨x1, x2, x3⟩ := x; obtain ⟨y1, y2, y3⟩ := y
    simp [Prod.mk.injEq]⟩
theorem eqs_opt (E : EqS k ok enc) (hn : ∀ x p, (enc x).py = some p → PyData.eqv .none p = false ∧ PyData.eqv p .none = false := by intro x p h; cases h; exact ⟨rfl, rfl⟩) : EqS k (fun o : Option α => ∀ x, o = some x → ok x) (optE enc) := ⟨fun o h => by
    cases o with
    | none => exact ⟨_, rfl, rfl, Nat.zero_le _⟩
    | some x => exact E.ex x (h x rfl), fun o o' p q h1 h2 => by
    cases o with
    | none => cases o' with
      | none => cases h1; cases h2; rfl
      | some y => cases h1; rw [(hn y q h2).1]; rfl
    | some x => cases o' with
      | none => cases h2; rw [(hn x p h1).2]; rfl
      | some y =>
        rw [E.eq x y p q h1 h2]
        by_cases h : x = y
        · subst h; simp
        · have : ¬ some x = some y := fun e => h (Option.some.inj e)
          rw [decide_eq_false h, decide_eq_false this]⟩
theorem EqS.imp {ok' : α → Prop} (E : EqS k ok enc) (h : ∀ x, ok' x → ok x) : EqS k ok' enc := ⟨fun x hx => E.ex x (h x hx), E.eq⟩
variable {K : PySem.W.Frag} {l : List Res} {d1 d2 : D} {x y : α} {xs ys : List α}
/-- .. of lists, owned or not -/
theorem o_eqLE (E : EqS k ok enc) (hd1 : Lv K l d1 (xs.map enc)) (hd2 : Lv K l d2 (ys.map enc)) (hx : ∀ x ∈ xs, ok x) (hy : ∀ x ∈ ys, ok x) (hk : k ≤ 60 := by decide) : Op2 K l (rEqD K) d1 d2 (.bl (decide (xs = ys))) := fun F M H v u Q eF eM dj rs f1 f2 kk => by
  obtain ⟨ps, h1, h2, h3⟩ := E.all hx
  obtain ⟨qs, g1, g2, g3⟩ := E.all hy
  have e := E.eqAll h1 g1
  refine ⟨.list ps, .list qs, hd1.dp eF eM rs f1 h1, hd2.dp eF eM rs f2 g1, shaped_of (k := 61) (by exact h2) (by show _ + 1 ≤ 61; omega) (by decide), shaped_of (k := 61) (by exact g2) (by show _ + 1 ≤ 61; omega) (by decide), ?_⟩
  have e2 : PyData.eqv (.list ps) (.list qs) = decide (xs = ys) := e
  rw [e2]
  exact kk _ F H (.rf eF) (.bl _)
theorem o_neLE (E : EqS k ok enc) (hd1 : Lv K l d1 (xs.map enc)) (hd2 : Lv K l d2 (ys.map enc)) (hx : ∀ x ∈ xs, ok x) (hy : ∀ x ∈ ys, ok x) (hk : k ≤ 60 := by decide) : Op2 K l (rNeD K) d1 d2 (.bl (!decide (xs = ys))) := fun F M H v u Q eF eM dj rs f1 f2 kk => by
  obtain ⟨ps, h1, h2, h3⟩ := E.all hx
  obtain ⟨qs, g1, g2, g3⟩ := E.all hy
  have e := E.eqAll h1 g1
  refine ⟨.list ps, .list qs, hd1.dp eF eM rs f1 h1, hd2.dp eF eM rs f2 g1, shaped_of (k := 61) (by exact h2) (by show _ + 1 ≤ 61; omega) (by decide), shaped_of (k := 61) (by exact g2) (by show _ + 1 ≤ 61; omega) (by decide), ?_⟩
  have e2 : PyData.eqv (.list ps) (.list qs) = decide (xs = ys) := e
  rw [e2]
  exact kk _ F H (.rf eF) (.bl _)
end
end Sx
set_option Elab.async false
set_option linter.all false
set_option maxRecDepth 100000
set_option maxHeartbeats 2000000
/-! More rules for the walker: dropping, borrowing, ways that are never gone. -/
namespace Sx
open PySem L2
section
variable {X : Cx} {W : WX} {g g' : Gm} {l l' : List Res} {e e2 c a b o : Expr} {d d1 d2 : D} {pos p p2 : Pos} {rest A B body sts : List Stmt} {es : List Expr} {β : Type} {Om : β → Po} {m : β} {bb : Bool} {ds ds2 : List D}
/-- a way that is never gone -/
theorem bo_ifD (hc : Ts X c g l bb) (hb : bb = false) (h : Bo X W rest g l Om m) : Bo X W (.If c A [] pos :: rest) g l Om m :=
  blk_if hc (fun e => by rw [hb] at e; cases e) (fun _ => blk_nil h)
/-- a raising def's own wish is taken -/
theorem takes_cx {P : Program} {w : World} {K : PySem.W.Frag} {mg : Str → Option Value} {base : Heap} {N : List Str} {qual : Str} {scope : Scope} {f : Addr} {cd : Value} {A : Around} {outer : List Env} {s : Shared} {H : Hp} {E : XK} :
    Takes (cxOf (L2.CX P w) P w K mg base N qual scope f cd A outer s H E) (fun cls d _ H => E cls d H) := takes_of rfl rfl rfl rfl
theorem takes_no {X : Cx} : Takes X (fun _ _ _ _ => False) := fun u s' ⟨_, _, _, _, _, _, _, _, _, _, _, _, _, _, _, _, z⟩ => z.elim
end
end Sx
set_option Elab.async false
set_option linter.all false
set_option maxRecDepth 100000
set_option maxHeartbeats 2000000
/-! Exceptions that keep values: their __init__, their raise; a clause without a name. -/
namespace Sx
open PySem L2 PyProof.Rows
/-- an exception that is being made, at a | its dict | an exception's dict -/
def ownEo (a C : Addr) (d : Option Addr) : Res := ⟨fun _ M => M = one a (exo a C d), fun _ h => h, fun m x xs e => by rw [m] at e; obtain ⟨_, e⟩ := one_some e; exact exo_tup e.symm⟩
def ownEd (K : PySem.W.Frag) (dx : Addr) (fs : List (Str × D)) : Res := ⟨fun F M => ∃ vs, FdFs K F vs fs ∧ M = one dx (exd dx vs), fun e ⟨vs, h, m⟩ => ⟨vs, FdFs.mono e _ h, m⟩, fun ⟨_, _, m⟩ x xs e => by rw [m] at e; obtain ⟨_, e⟩ := one_some e; exact exd_tup e.symm⟩
def ownXd (K : PySem.W.Frag) (dx : Addr) (fs : List (Str × D)) : Res := ⟨fun F M => ∃ vs, FdFs K F vs fs ∧ M = one dx (.xd vs), fun e ⟨vs, h, m⟩ => ⟨vs, FdFs.mono e _ h, m⟩, fun ⟨_, _, m⟩ x xs e => by rw [m] at e; obtain ⟨_, e⟩ := one_some e; cases e⟩
/-- what the class R (no own __init__, above it ValueError) must say, so that R.__init__(self, ..) is got -/
structure Rin (K : PySem.W.Frag) (R : Addr) : Prop where
  rd : PySem.W.readsIn K R (.type "type") = true
  fc : PySem.W.findCls K (.ref R) (.type "type") "__init__" = some (.val (.builtin "ValueError.__init__"))
  sp : PySem.W.specialIn K (.ref R) "__getattribute__" = some (some (.builtin "type.__getattribute__"))
section
variable {X : Cx} {o e : Expr} {es : List Expr} {to te : TE} {ta : TA} {f : Str} {p p' p1 p2 pos : Pos} {x : Str} {R : Addr}
end
section
variable {K : PySem.W.Frag} {F H M : Hp} {l : List Res}
theorem Rs.ed {k : Nat} {dx : Addr} {fs : List (Str × D)} (h : Rs l F M) (e : l[k]? = some (ownEd K dx fs)) (m : Ex M H) : ∃ vs, FdFs K F vs fs ∧ H dx = some (exd dx vs) := by
  obtain ⟨A, B, rfl, dj, ⟨vs, f, rfl⟩, _⟩ := Rs.at e h
  exact ⟨vs, f, m dx _ (join_l one_same)⟩
end
section
variable {X : Cx} {W : WX} {g g' : Gm} {l l' : List Res} {Φ : Po} {e e2 o : Expr} {es : List Expr} {d : D} {ds : List D} {pos p p1 p2 pos' : Pos} {rest : List Stmt} {x f : Str} {R a C : Addr}
end
/-- what the __init__ of an exception class keeps: the fields fl tells -/
abbrev XiSp (K : PySem.W.Frag) (C : Addr) {α : Type} (ok : α → Prop) (args : α → List D) (fl : α → List (Str × D)) : Sp := FnX K (fun a : Addr × α => ok a.2) (fun a => .adr a.1 :: args a.2) (fun a => [ownEo a.1 C none]) (fun a d l => d = .non ∧ ∃ dx, l = [ownEd K dx (fl a.2), ownEo a.1 C (some dx)]) noE
/-- what the written part says of an exception class with an own __init__ -/
structure Dxi (K : PySem.W.Frag) (mg : Str → Option Value) (x : Str) (C fI : Addr) : Prop where
  nm : mg x = some (.ref C)
  T : OexC K C
  iC : PySem.W.findIn K (.ref C) "__init__" = some (some (.ref fI))
  tI : PySem.W.typeIn K (.ref fI) = some (.type "function")
section
variable {X : Cx} {W : WX} {g g' : Gm} {l l' : List Res} {Φ : Po} {e : Expr} {es : List Expr} {pos p pr : Pos} {rest : List Stmt} {x : Str} {C fI : Addr} {fd : FuncData} {ps : List Str} {kk j : Nat}
end
section
variable {X : Cx} {W : WX} {g g' : Gm} {l l' : List Res} {Φ : Po} {body rest : List Stmt} {x : Str} {C : Addr} {np pos pos' p1 : Pos} {e : Expr}
end
end Sx
set_option Elab.async false
set_option linter.all false
set_option maxRecDepth 100000
set_option maxHeartbeats 2000000
/-! Owned lists handed in; a list of owned lists; a reversed list. -/
namespace Sx
open PySem L2
section
variable {X : Cx} {W : WX} {g g' : Gm} {l l' : List Res} {Φ : Po} {e e2 a b c o : Expr} {es : List Expr} {d d1 d2 d3 : D} {ds ds1 ds2 : List D} {pos p p2 : Pos} {rest : List Stmt}
end
end Sx
set_option Elab.async false
set_option linter.all false
set_option maxRecDepth 100000
set_option maxHeartbeats 4000000
/-! Defs that may raise: what they raise is a datum of the model; caught ones are frozen data. -/
namespace Sx
open PySem L2 PyProof.Rows
structure Xd where
  C : Addr
  fs : List (Str × D)
/-- an exception as it flies -/
def XE (K : PySem.W.Frag) (x : Xd) (cls : Value) (dd : Option Addr) (l : List Res) : Prop := cls = .ref x.C ∧ (x.fs = [] ∧ dd = none ∧ l = [] ∨ ∃ dx, dd = some dx ∧ l = [ownXd K dx x.fs])
abbrev Xd.d (x : Xd) : D := .exc x.C x.fs
def Exr (X : Cx) (W : WX) (e : Expr) (g : Gm) (l : List Res) (x : Xd) : Prop := Exv X W e g l (fun _ _ => False) (fun cls dd l' => ∃ lx, XE X.K x cls dd lx ∧ l' = lx ++ l)
/-- what giving back or raising means; raised, what was owned stands as before -/
def XR {β ε : Type} (K : PySem.W.Frag) (own : List Res) (RT : β → Re) (xc : ε → Xd) : Except ε β → Re
  | .ok v => RT v
  | .error e => { rt := fun _ _ => False, ex := fun cls dd _ l => ∃ lx, XE K (xc e) cls dd lx ∧ l = lx ++ own }
abbrev SpX (K : PySem.W.Frag) {α β ε : Type} (ok : α → Prop) (args : α → List D) (own : α → List Res) (RT : α → β → Re) (m : α → Except ε β) (xc : ε → Xd) : Sp :=
  FnX K ok args own (fun a d l => (XR K (own a) (RT a) xc (m a)).rt d l) (fun a cls dd l => (XR K (own a) (RT a) xc (m a)).ex cls dd [] l)
abbrev SpN (K : PySem.W.Frag) {α β : Type} (ok : α → Prop) (args : α → List D) (own : α → List Res) (RT : α → β → Re) (m : α → β) : Sp := FnX K ok args own (fun a d l => (RT a (m a)).rt d l) noE
/-- an exception x from g, l on is what Φ takes -/
def ExTo (K : PySem.W.Frag) (x : Xd) (Φ : Po) (g : Gm) (l : List Res) : Prop := ∀ cls dd lx, XE K x cls dd lx → ∃ l2 junk, (lx ++ l).Perm (l2 ++ junk) ∧ Φ.ex cls dd g l2
def xb {ε α β : Type} (o : Except ε α) (k : α → β) (er : ε → β) : β := match o with | .ok v => k v | .error e => er e
section
variable {X : Cx} {W : WX} {g g' : Gm} {l l' own junk : List Res} {Φ : Po} {x : Xd} {e a b c o : Expr} {es : List Expr} {d d1 d2 : D} {pos p p2 apos : Pos} {rest sts : List Stmt}
theorem S.perm2 {K : PySem.W.Frag} {en : En} {T : Tm} {σ : L2.St} {H : Hp} {l l2 junk : List Res} (p : l.Perm (l2 ++ junk)) (s : S K en g T l σ H) : S K en g T l2 σ H := S.dropO (l' := junk) (S.perm (p.trans List.perm_append_comm) s)
/-- a block whose exceptions are told plainly -/
theorem Blk.exD (h : Blk X W sts g l { Φ with ex := fun cls dd g' l' => ∃ lx, XE X.K x cls dd lx ∧ g' = g ∧ l' = lx ++ l }) (hx : ExTo X.K x Φ g l) : Blk X W sts g l Φ := fun en T σ H D s m =>
  h en T σ H D s ⟨m.nx, m.rt, m.bk, m.ct, fun cls dd g' l' σ' H' q s' => by
    obtain ⟨lx, h1, rfl, rfl⟩ := q
    obtain ⟨l2, junk, p, h2⟩ := hx cls dd lx h1
    exact m.ex cls dd g' l2 σ' H' h2 (s'.perm2 p)⟩
theorem exto_of (p : l.Perm (own ++ junk)) (h : ∀ cls dd lx, XE X.K x cls dd lx → Φ.ex cls dd g (lx ++ own)) : ExTo X.K x Φ g l := fun cls dd lx q => ⟨lx ++ own, junk, by rw [List.append_assoc]; exact p.append_left lx, h cls dd lx q⟩
section
variable {β ε Ll Ss : Type} {RT : β → Re} {xc : ε → Xd} {e0 : ε} {GL : Ll → Gm} {RL : Ll → List Res} {NX : Ss → Gm → List Res → Prop}
theorem exto_rt (p : l.Perm (own ++ junk)) : ExTo X.K (xc e0) (Rt (XR X.K own RT xc) (.error e0)) g l := exto_of (X := X) p fun _ _ lx h => ⟨lx, h, rfl⟩
theorem exto_rv (p : l.Perm (own ++ junk)) : ExTo X.K (xc e0) (Rv (XR X.K own RT xc) (.error e0)) g l := exto_of (X := X) p fun _ _ lx h => ⟨lx, h, rfl⟩
theorem exto_ou (p : l.Perm (own ++ junk)) : ExTo X.K (xc e0) (Ou (XR X.K own RT xc) GL RL NX (.rt (.error e0))) g l := exto_of (X := X) p fun _ _ lx h => ⟨lx, h, rfl⟩
theorem exto_rt0 : ExTo X.K (xc e0) (Rt (XR X.K [] RT xc) (.error e0)) g l := exto_rt (own := []) (junk := l) (.refl _)
theorem exto_rv0 : ExTo X.K (xc e0) (Rv (XR X.K [] RT xc) (.error e0)) g l := exto_rv (own := []) (junk := l) (.refl _)
theorem exto_ou0 : ExTo X.K (xc e0) (Ou (XR X.K [] RT xc) GL RL NX (.rt (.error e0))) g l := exto_ou (own := []) (junk := l) (.refl _)
end
theorem bo_xb {ε α β : Type} {Om : β → Po} {o : Except ε α} {k : α → β} {er : ε → β} (h1 : ∀ v, o = .ok v → Bo X W sts g l Om (k v)) (h2 : ∀ e, o = .error e → Bo X W sts g l Om (er e)) : Bo X W sts g l Om (xb o k er) := by
  unfold xb
  cases o with
  | ok v => exact h1 v rfl
  | error e => exact h2 e rfl
/-! ### calls -/
theorem Exv.mono {Psi Psi' : D → List Res → Prop} {XP XP' : Value → Option Addr → List Res → Prop} (h : Exv X W e g l Psi XP) (h1 : ∀ d l, Psi d l → Psi' d l) (h2 : ∀ cls d l, XP cls d l → XP' cls d l) : Exv X W e g l Psi' XP' := fun en T σ H Q s k kx => h en T σ H Q s (fun v d l' H' p s' => k v d l' H' (h1 d l' p) s') fun cls d l' H' p s' => kx cls d l' H' (h2 cls d l' p) s'
theorem Exv.ev {Psi : D → List Res → Prop} (h : Exv X (fun _ _ _ _ => False) e g l Psi (fun _ _ _ => False)) : Ev X e g l Psi := fun en T σ H Q s k => h en T σ H Q s k fun _ _ _ _ p _ => p.elim
theorem Ev.pxR (h : Ev X e g l (fun d' l' => d' = d ∧ l' = l)) : Px X e g l d := fun en T σ H Q s k => h en T σ H Q s fun v d l' H' p s' => by
  obtain ⟨rfl, rfl⟩ := p
  exact k v H' s'
section
variable {α β ε : Type} {ok : α → Prop} {args : α → List D} {enc : β → D} {m : α → Except ε β} {xc : ε → Xd} {y : Str} {ps : List Str} {k j : Nat} {C : Addr} {mm : Str} {ds : List D} {pl : Sem Bool} {v : β} {e0 : ε}
theorem px_methOk (G : GloMX X.prog X.w X.K X.mg X.base k C mm ps (SpX X.K ok args (fun _ => []) (fun _ => PuR enc) m xc)) (hr : Room j X.A) (hj : k ≤ j) (a : α) (hok : ok a) (hv : m a = .ok v) {fs : List (Str × D)} (ho : Px X o g l (.ins C fs)) (hl : fs.lookup mm = none) (ha : Pa X (e :: es) g l ds) (hds : args a = .ins C fs :: ds)
    (hst : starEach (e :: es) X.env = (false, eval e X.env) :: starEach es X.env := by rfl) (hpl : (backTo pos (starEach es X.env)).any (·.1) = false := by rfl) (ht : MthE X o mm apos pos (e :: es) pl := by rfl) :
    Px X (.Call (.Attribute o mm apos) (e :: es) [] pos) g l (enc v) :=
  Ev.pxR (Exv.ev (exv_meth (lr := l) (own := fun _ => []) takes_no G hr hj a hok ho (rc_ins hl) ha hds (fun d l' h => by rw [hv] at h; exact ⟨h.1, by rw [h.2]; rfl⟩) (fun cls d l' h => by rw [hv] at h; exact h) hst hpl ht))
theorem exr_meth (tk : Takes X W) {RT : α → β → Re} (G : GloMX X.prog X.w X.K X.mg X.base k C mm ps (SpX X.K ok args (fun _ => []) RT m xc)) (hr : Room j X.A) (hj : k ≤ j) (a : α) (hok : ok a) (hv : m a = .error e0) {fs : List (Str × D)} (ho : Px X o g l (.ins C fs)) (hl : fs.lookup mm = none) (ha : Pa X (e :: es) g l ds) (hds : args a = .ins C fs :: ds)
    (hst : starEach (e :: es) X.env = (false, eval e X.env) :: starEach es X.env := by rfl) (hpl : (backTo pos (starEach es X.env)).any (·.1) = false := by rfl) (ht : MthE X o mm apos pos (e :: es) pl := by rfl) :
    Exr X W (.Call (.Attribute o mm apos) (e :: es) [] pos) g l (xc e0) :=
  exv_meth (lr := l) (own := fun _ => []) tk G hr hj a hok ho (rc_ins hl) ha hds (fun d l' h => by rw [hv] at h; exact h) (fun cls d l' h => by
    rw [hv] at h
    obtain ⟨lx, h1, rfl⟩ := h
    exact ⟨lx, h1, by rw [List.append_nil]⟩) hst hpl ht
end
section
variable {α β ε : Type} {ok : α → Prop} {args : α → List D} {enc : β → D} {m : α → Except ε (List β)} {xc : ε → Xd} {y : Str} {ps : List Str} {k j : Nat} {C : Addr} {mm : Str} {ds : List D} {pl : Sem Bool} {v : List β}
end
/-! ### statements that raise -/
section
variable {β : Type} {Om : β → Po} {mo : β}
theorem bo_xexpr (he : Exr X W e g l x) (hx : ExTo X.K x (Om mo) g l) (hs : swapsWith e none pos.line X.env = pure false := by rfl) : Bo X W (.Expr e pos :: rest) g l Om mo := Blk.exD (x := x) (blk_exprX he (fun _ _ h => h.elim) (fun cls d l' ⟨lx, h, q⟩ => ⟨lx, h, rfl, q⟩) hs) hx
theorem bo_xset {i : Nat} {y : Str} {pos' : Pos} (hN : X.N.Nodup) (hi : X.N[i]? = some y) (hl : Loc X.env.scope y) (he : Exr X W e g l x) (hx : ExTo X.K x (Om mo) g l) (hs : swapsWith e (some (.Name y pos')) pos.line X.env = pure false := by rfl) (hf : X.fn y = true ∨ X.env.scope.names.lookup y = some .local := by first | exact .inl rfl | exact .inr rfl | assumption) :
    Bo X W (.Assign [.Name y pos'] e pos :: rest) g l Om mo := Blk.exD (x := x) (blk_setXX hN hi hl he (fun _ _ h => h.elim) (fun cls d l' ⟨lx, h, q⟩ => ⟨lx, h, rfl, q⟩) hs hf) hx
theorem bo_raise {y m : Str} {j : Nat} {C : Addr} {pr : Pos} (hc : X.calm = true) (tk : Takes X W) (x0 : Dxc X.K X.mg y C) (xi : PySem.W.excIn X.K C vErr "ValueError.__new__" = true) (hx : ExTo X.K ⟨C, []⟩ (Om mo) g l) (hg : Gl X y := by rfl) (hdb : (y == ("__debug__" : Str)) = false := by decide) :
    Bo X W (.Raise (some (.Call (.Name y p) [.Constant (.str m) j p2] [] pos)) none pr :: rest) g l Om mo := Blk.exD (x := ⟨C, []⟩) (blk_raise hc tk x0 xi ⟨[], ⟨rfl, .inl ⟨rfl, rfl, rfl⟩⟩, rfl, rfl⟩ hg hdb) hx
end
end
/-! ### try with several clauses that keep what they caught -/
/-- clauses 'except x as n: y = n': the class at c, the slots of n and y -/
inductive Hks (X : Cx) : List ExceptHandler → List (Value × Nat × Nat) → Prop
  | nil : Hks X [] []
  | cons {hs : List ExceptHandler} {ks : List (Value × Nat × Nat)} {x n y : Str} {c : Value} {i j : Nat} {np pos' py pn ap : Pos} (hi : X.N[i]? = some n) (hln : X.env.kindOf n = some .local) (hj : X.N[j]? = some y) (hly : X.env.kindOf y = some .local) (hij : i ≠ j)
    (hil : i < X.N.length) (hvn : Vis X.env.scope n) (hdn : (n == ("__debug__" : Str)) = false) (hcn : (n == ("__classdict__" : Str)) = false) (hc : Names X x c) (hsw : ∀ Y : Cx, Y.env = X.env → swapsWith (.Name n pn) (some (.Name y py)) ap.line Y.env = pure false) (h : Hks X hs ks) :
    Hks X (.ExceptHandler (some (.Name x np)) (some n) [.Assign [.Name y py] (.Name n pn) ap] pos' :: hs) ((c, i, j) :: ks)
def wKeeps (K : PySem.W.Frag) (Wout : WX) (D : Ends) : List (Value × Nat × Nat) → WX
  | [] => Wout
  | (c, i, j) :: ks => fun cls d σ H => ∃ b, PySem.W.exmOne K cls c = some b ∧ (b = true → ∀ a, H a = none → D.nx (((σ.set i (some (.ref a))).set j (some (.ref a))).set i none) (upd H a (exO a cls d))) ∧ (b = false → wKeeps K Wout D ks cls d σ H)
section
variable {X : Cx} {body : List Stmt} {pos : Pos} {tb : WX → TS} {Wout : WX}
theorem ps_try_keeps {hks : List ExceptHandler} {ks : List (Value × Nat × Nat)} (hr : Hks X hks ks) (hne : hks ≠ []) (hs : X.stack = X.env :: X.outer) (hf : X.env.frame = some X.env.locals) (hex : X.ex = []) (hN : X.N.Nodup) (tk : Takes X Wout)
    (hb : ∀ (W : WX) (pn : List (Addr × Obj)) (xe : Value → Shared → Prop), Takes (X.tr pn xe) W → PassesOwn (model X.prog X.w) X.A X.env xe → PSs (X.tr pn xe) body (tb W)) :
    PS X (.Try body hks [] [] pos) (fun D σ H => tb (wKeeps X.K Wout D ks) D σ H) := by
  refine ⟨fun pins s σ H D I h => ?_⟩
  have ok := I.ok
  have hfr : X.A.frames = some (X.env :: X.outer) := by rw [ok.frames, hs]
  obtain ⟨h0, hk0, rfl⟩ := List.exists_cons_of_ne_nil hne
  refine wpAny_Try_except ?_
  refine wpAny_mono ((hb (wKeeps X.K Wout D ks) (X.pn ++ pins) (fun e s₁ => wpAny (model X.prog X.w) X.A (noteFrame e X.env) (fun _ s₂ => wpAny (model X.prog X.w) X.A (setFlight e none) (fun _ s₃ =>
    wpAny (model X.prog X.w) X.A (handleBy e X.env (h0 :: hk0)) (SP X pins D) X.xe s₃) X.xe s₂) X.xe s₁) (fun u s' xx => ?_) PassesOwn.looking).run [] s σ H D (I.toTry _) h) (fun f s1 hsp => ?_) (fun e s1 he => he)
  · obtain ⟨a, B, sI, pins', σ', H', cls, d, rfl, J', nb, up, sky, na, os, ag, hww⟩ := xx
    have J : Inv X pins σ' H' sI := J'.ofTry ok
    have sky' : Sky B (X.env :: X.outer) a (Zc cls d) X.env.locals s'.heap := by rw [← hs]; exact sky
    show wpAny (model X.prog X.w) X.A (noteFrame (.ref a) X.env) _ _ _
    refine Sky.land Zc.steady hfr hf sky' fun h3 fl3 up3 => ?_
    have J3 : Inv X pins σ' H' { s' with heap := h3 } := J.landed nb fl3.1 (up.trans up3) os ag
    obtain ⟨oe3, vs3, he3, hz3, hd3⟩ := fl3.there
    have nfr : a ∉ frs (X.env :: X.outer) := fun hm => by
      obtain ⟨_, o', e', hnf⟩ := fl3.2.2.1.mem hm
      rw [he3] at e'; cases e'
      exact hnf _ hd3
    have nL : a ≠ X.env.locals := fun z => nfr (List.mem_filterMap.mpr ⟨X.env, List.mem_cons_self, by rw [hf, z]⟩)
    have nF : a ∉ X.fs := fun hm => by
      obtain ⟨e, he, q⟩ := List.mem_filterMap.mp hm
      exact nfr (List.mem_filterMap.mpr ⟨e, List.mem_cons_of_mem _ he, q⟩)
    have nS : a ∉ frs X.stack := by rw [hs]; exact nfr
    -- it was not there ahead
    have nI : sI.heap.get? a = none := by
      cases q : sI.heap.get? a with
      | none => rfl
      | some o => have z := nb a o q nS; rw [fl3.2.1] at z; cases z
    have n0 : X.s_0.heap.get? a = none := by
      cases q : X.s_0.heap.get? a with
      | none => rfl
      | some o =>
        obtain ⟨o', z⟩ := J.base.there a o q (by rw [hex]; exact fun z => nomatch z)
        rw [nI] at z; cases z
    have npn : ∀ p ∈ X.pn ++ pins, p.1 ≠ a := fun p hp e => by
      have z := (J.pin p hp).1
      rw [e, nI] at z; cases z
    have nc : ∀ x c, X.env.cells.lookup x = some c → c ≠ a := fun x c e z => by
      obtain ⟨v, oc, q, _⟩ := J.cell x c e
      rw [z, nI] at q; cases q
    have S3 := J3.suite he3 hd3 na nL nF
    have key : ∀ {hks : List ExceptHandler} {ks : List (Value × Nat × Nat)}, Hks X hks ks → wKeeps X.K Wout D ks cls d σ' H' → wpAny (model X.prog X.w) X.A (handleBy (.ref a) X.env hks) (SP X pins D) X.xe { s' with heap := h3 } := by
      intro hks ks rel
      induction rel with
      | nil =>
        intro hno
        refine wpAny_handleBy_nil ?_
        obtain ⟨k1, k2, k3, oe, vs, T, oT, ts', he, hz, hd, h1, hr⟩ := id fl3
        unfold PySem.passOn
        refine wpAny_bind (wpAny_field he hd h1 ?_)
        rw [if_neg (show ¬ ((Value.ref T == Value.none) = true) from by simp)]
        have fin : wpAny (model X.prog X.w) X.A (setFlight (.ref a) X.env.frame) (fun _ s4 => wpAny (model X.prog X.w) X.A (throw (.ref a) : Sem Flow) (SP X pins D) X.xe s4) X.xe { s' with heap := h3 } := by
          rw [hf]
          refine HandSPX.setFlight_upZ fl3 fun h4 hh4 up4 => wpAny_throw (tk _ _ ?_)
          exact ⟨a, B, sI, pins, σ', H', cls, d, rfl, J, nb, (up.trans up3).trans up4, .inr (.inr (by rw [hs]; exact hh4)), na, os, ag, hno⟩
        first
          | exact wpAny_bind (wpAny_pure (wpAny_bind fin))
          | exact wpAny_bind fin
      | @cons hs0 ks0 x n y c i j np pos' py pn ap hi hln hj hly hij hil hvn hdn hcn hc hsw rel ih =>
        intro hww
        obtain ⟨b, hb1, hyes, hno⟩ := hww
        have hloc : Loc X.env.scope n := .inl hln
        have hlocy : Loc X.env.scope y := .inl hly
        refine wpAny_handleBy_cons (codeAny_handlers_test ?_) (by intro q; cases q)
        have LT : PySem.W.Looks (model X.prog X.w) h3 (typeOf (.ref a)) cls := fun A Q E s k q => wpAny_typeOf_ref (k _ _ he3) (by rw [hz3.1]; exact q)
        have LM := PySem.W.exm_one (M := model X.prog X.w) (J3.kIn) LT hb1
        have test : ∀ {Q : Value → Shared → Prop} {E : Value → Shared → Prop}, Q c { s' with heap := h3 } → wpAny (model X.prog X.w) (X.A.mark (some (.ref a))) (eval (.Name x np) X.env) Q E { s' with heap := h3 } := fun {Q E} q => by
          obtain ⟨hg, hdbg, hm | ⟨hm, hv, hnn⟩⟩ := hc
          · exact ld_glob (X := X.suite a ((a, oe3) :: (X.pn ++ pins))) S3 hg hm q hdbg
          · exact ld_blt (X := X.suite a ((a, oe3) :: (X.pn ++ pins))) S3 hg hm hv q hnn hdbg
        refine test (LM.here ?_)
        cases b with
        | true =>
          refine codeAny_handlers_suite_as ?_
          refine HandSPX.lands_againZ fl3 fun h4 fl4 up4 => ?_
          have J4 : Inv X pins σ' H' { s' with heap := h4 } := J.landed nb fl4.1 ((up.trans up3).trans up4) os ag
          obtain ⟨oe4, vs4, he4, hz4, hd4⟩ := fl4.there
          have S4 := J4.suite he4 hd4 na nL nF
          refine store_ok (X := X.suite a ((a, oe4) :: (X.pn ++ pins))) (v := .ref a) S4 hN hi hloc rfl (fun s5 S5 => ?_) (.inr hln)
          have hvar : PE (X.suite a ((a, oe4) :: (X.pn ++ pins))) (.Name n pn) (tVar i) := pe_var hi hvn hdn hcn
          have hsu : PSs (X.suite a ((a, oe4) :: (X.pn ++ pins))) [.Assign [.Name y py] (.Name n pn) ap] (tAsg (tVar i) (gName j)) := pss_one (ps_set hN hj hlocy hvar (hsw _ rfl) (.inr hly))
          have hsl : i < (σ'.set i (some (.ref a))).length := by rw [List.length_set, J4.len]; exact hil
          refine wpAny_mono (hsu.run [] s5 _ H' { nx := fun σ6 H6 => σ6 = (σ'.set i (some (.ref a))).set j (some (.ref a)) ∧ H6 = H', rt := fun _ _ => False, bk := fun _ _ => False, ct := fun _ _ => False } S5 ⟨.ref a, by rw [List.getElem?_set_self (by rw [List.length_set] at hsl; exact hsl)], rfl, rfl⟩) (fun f s6 hsp => ?_) (fun _ _ z => False.elim z)
          cases f with
          | next =>
            obtain ⟨σ6, H6, S6, e6, e7⟩ := hsp
            subst e6; subst e7
            refine gone_ok (X := X.suite a ((a, oe4) :: (X.pn ++ pins))) S6 hN hi hln fun s7 I7 => ?_
            have g7 := (I7.pin (a, oe4) (by rw [List.append_nil]; exact List.mem_cons_self)).1
            exact ⟨_, _, inv_wide (I7.unsuite ok) n0 na npn nL nc (exO_ok g7 hz4 hd4), hyes rfl a na⟩
          | brk =>
            obtain ⟨_, _, _, z⟩ := hsp
            exact z.elim
          | cont =>
            obtain ⟨_, _, _, z⟩ := hsp
            exact z.elim
          | ret u =>
            obtain ⟨_, _, _, _, _, z⟩ := hsp
            exact z.elim
        | false =>
          exact ih (hno rfl)
    exact key hr hww
  · cases f with
    | next =>
      obtain ⟨σ', H', J', q⟩ := hsp
      exact wpAny_execs_nil ⟨σ', H', J'.ofTry ok, q⟩
    | brk =>
      obtain ⟨σ', H', J', q⟩ := hsp
      exact ⟨σ', H', J'.ofTry ok, q⟩
    | cont =>
      obtain ⟨σ', H', J', q⟩ := hsp
      exact ⟨σ', H', J'.ofTry ok, q⟩
    | ret u =>
      obtain ⟨v, σ', H', J', r, q⟩ := hsp
      exact ⟨v, σ', H', J'.ofTry ok, r, q⟩
end
section
variable {X : Cx} {W : WX} {g g' : Gm} {l l' : List Res} {Φ : Po} {x : Xd} {body rest : List Stmt} {pos : Pos}
/-- caught: frozen -/
theorem S.caught {K : PySem.W.Frag} {en : En} {T : Tm} {σ : L2.St} {H : Hp} {lx : List Res} {cls : Value} {dd : Option Addr} {a : Addr} (s : S K en g T (lx ++ l) σ H) (hx : XE K x cls dd lx) (ha : H a = none) (i j : Nat) :
    S K en (((g.set i none).set j (some x.d)).set i none) T l (((σ.set i (some (.ref a))).set j (some (.ref a))).set i none) (upd H a (exO a cls dd)) := by
  obtain ⟨rfl, h⟩ := hx
  obtain ⟨F, M, q⟩ := s
  have q1 := q.newO (r := ownX a (.ref x.C) dd) (A := one a (exO a (.ref x.C) dd)) (H' := upd H a (exO a (.ref x.C) dd)) (.new ha) (fun z o w => by obtain ⟨rfl, rfl⟩ := one_some w; exact upd_same) (fun z o w => by obtain ⟨rfl, rfl⟩ := one_some w; exact ha) rfl
  obtain ⟨F1, M1, q2, h1, e1⟩ := q1.frz (P := fun F' => F' a = some (exO a (.ref x.C) dd)) fun A hA => by
    have hA : A = one a (exO a (.ref x.C) dd) := hA
    subst hA
    have hF : F a = none := q.exF.free ha
    rw [join_r hF]; exact one_same
  rcases h with ⟨f0, rfl, rfl⟩ | ⟨dx, rfl, rfl⟩
  · have fd : Fd K F1 (.ref a) x.d := .exc h1 (.inl ⟨rfl, rfl⟩) (by rw [f0]; exact .nil)
    exact ⟨F1, M1, q2.slots ((((q2.sl.clear i).set j fd)).clear i)⟩
  · obtain ⟨F2, M2, q3, ⟨vs, h2, h3⟩, e2⟩ := q2.frz (P := fun F' => ∃ vs, F' dx = some (.xd vs) ∧ FdFs K F' vs x.fs) fun A hA => by
      obtain ⟨vs, f, rfl⟩ := hA
      have hF : F1 dx = none := by
        obtain ⟨A, B, hM, _, ⟨_, _, rfl⟩, _⟩ := q2.rs
        exact q2.dj.sym dx _ (by rw [hM]; exact join_l one_same)
      exact ⟨vs, by rw [join_r hF]; exact one_same, FdFs.mono (fun x o h => join_l h) _ f⟩
    have fd : Fd K F2 (.ref a) x.d := .exc (e2 _ _ h1) (.inr ⟨dx, rfl, h2⟩) h3
    exact ⟨F2, M2, q3.slots ((((q3.sl.clear i).set j fd)).clear i)⟩
def Catch (X : Cx) (W : WX) (rest : List Stmt) (g : Gm) (l : List Res) (Φ : Po) (x : Xd) : List (Addr × Nat × Nat) → Prop
  | [] => ExTo X.K x Φ g l
  | (C, i, j) :: ks => ∃ b, PySem.W.exmOne X.K (.ref x.C) (.ref C) = some b ∧ (b = true → Blk X W rest (((g.set i none).set j (some x.d)).set i none) l Φ) ∧ (b = false → Catch X W rest g l Φ x ks)
theorem catch_keeps {en : En} {T : Tm} {σ : L2.St} {H : Hp} {D : Ends} {cls : Value} {dd : Option Addr} {lx : List Res} (m : Mt X.K W en T Φ D) (hx : XE X.K x cls dd lx) (s : S X.K en g T (lx ++ l) σ H) : ∀ {ks : List (Addr × Nat × Nat)}, Catch X W rest g l Φ x ks → wKeeps X.K W { D with nx := wpS X rest D } (ks.map fun q => (.ref q.1, q.2.1, q.2.2)) cls dd σ H
  | [], h => by
    obtain ⟨l2, junk, p, h2⟩ := h cls dd lx hx
    exact m.ex cls dd g l2 σ H h2 (s.perm2 p)
  | (C, i, j) :: ks, h => by
    obtain ⟨b, h1, h2, h3⟩ := h
    have ec := hx.1
    subst ec
    exact ⟨b, h1, fun hb a ha => h2 hb en T _ _ D (s.caught hx ha i j) m, fun hb => catch_keeps m hx s (h3 hb)⟩
theorem blk_tryF {hks : List ExceptHandler} {ks : List (Addr × Nat × Nat)} (EX : Xd → Prop) (tk : Takes X W) (hN : X.N.Nodup) (hr : Hks X hks (ks.map fun q => (.ref q.1, q.2.1, q.2.2))) (hne : hks ≠ [])
    (hb : ∀ (W' : WX) (pn : List (Addr × Obj)) (xe : Value → Shared → Prop), Takes (X.tr pn xe) W' → PassesOwn (model X.prog X.w) X.A X.env xe → Blk (X.tr pn xe) W' body g l { Φ with nx := fun g' l' => Blk X W rest g' l' Φ, ex := fun cls dd g' l' => ∃ x lx, EX x ∧ XE X.K x cls dd lx ∧ g' = g ∧ l' = lx ++ l })
    (hx : ∀ x, EX x → Catch X W rest g l Φ x ks) (hs : X.stack = X.env :: X.outer := by rfl) (hf : X.env.frame = some X.env.locals := by rfl) (hex : X.ex = [] := by rfl) :
    Blk X W (.Try body hks [] [] pos :: rest) g l Φ := fun en T σ H D s m =>
  wpS_of (pss_cons (ps_try_keeps (tb := fun W' => fun D' σ' H' => ∀ pn xe, Takes (X.tr pn xe) W' → PassesOwn (model X.prog X.w) X.A X.env xe → wpS (X.tr pn xe) body D' σ' H') hr hne hs hf hex hN tk
    (fun W' pn xe t1 t2 => ⟨fun pins s1 σ1 H1 D1 I h => h pn xe t1 t2 pins s1 I⟩)) pss_wp) (fun pn xe t1 t2 => by
      refine hb _ pn xe t1 t2 en T σ H _ s ⟨fun g' l' σ' H' p s' => p en T σ' H' D s' m, m.rt, m.bk, m.ct, fun cls d g' l' σ' H' p s' => ?_⟩
      obtain ⟨x, lx, h1, h2, rfl, rfl⟩ := p
      exact catch_keeps m h2 s' (hx x h1))
end
/-! ### try, its model -/
/-- a try's body: raised, what was known and owned stands as ahead -/
def XT {β ε : Type} (K : PySem.W.Frag) (g0 : Gm) (l0 : List Res) (RT : β → Re) (xc : ε → Xd) : Except ε β → Re
  | .ok v => RT v
  | .error e => { rt := fun _ _ => False, ex := fun cls dd g l => ∃ lx, XE K (xc e) cls dd lx ∧ g = g0 ∧ l = lx ++ l0 }
def tryN {Rr ε Ll Ss : Type} (tb : Cf (Except ε Rr) Ll Ss) (h : ε → Ss) : Cf Rr Ll Ss := match tb with
  | .nx s => .nx s | .rt (.ok r) => .rt r | .rt (.error e) => .nx (h e) | .bk s => .bk s | .ct s => .ct s
def tryK {Rr ε Ll Ss : Type} (tb : Cf (Except ε Rr) Ll Ss) (c : ε → Bool) (h : ε → Ss) : Cf (Except ε Rr) Ll Ss := match tb with
  | .rt (.error e) => cond (c e) (.nx (h e)) (.rt (.error e)) | o => o
section
variable {X : Cx} {W : WX} {g g' : Gm} {l l' : List Res} {body rest : List Stmt} {pos : Pos} {Rr ε Ll Ss S1 : Type} {RT : Rr → Re} {xc : ε → Xd} {GL : Ll → Gm} {RL : Ll → List Res} {NX : Ss → Gm → List Res → Prop} {e0 : ε}
theorem exto_xt : ExTo X.K (xc e0) (Ou (XT X.K g l RT xc) GL RL NX (.rt (.error e0))) g l := fun cls dd lx h => ⟨lx ++ l, [], by rw [List.append_nil], lx, h, rfl, rfl⟩
theorem try_core {hks : List ExceptHandler} {ks : List (Addr × Nat × Nat)} {tb : Cf (Except ε Rr) Ll S1} {Φ : Po} (G : S1 → Gm) (R : S1 → List Res) (tk : Takes X W) (hN : X.N.Nodup) (hr : Hks X hks (ks.map fun q => (.ref q.1, q.2.1, q.2.2))) (hne : hks ≠ [])
    (hb : ∀ (W' : WX) (pn : List (Addr × Obj)) (xe : Value → Shared → Prop), Takes (X.tr pn xe) W' → PassesOwn (model X.prog X.w) X.A X.env xe → Bo (X.tr pn xe) W' body g l (Ou (XT X.K g l RT xc) GL RL (NxP G R)) tb)
    (hnx : ∀ s, tb = .nx s → Blk X W rest (G s) (R s) Φ) (hrt : ∀ r, tb = .rt (.ok r) → (∀ d l, (RT r).rt d l → Φ.rt d l) ∧ ∀ c d g l, (RT r).ex c d g l → False) (hbk : ∀ s, tb = .bk s → ∀ g l, g = GL s ∧ l = RL s → Φ.bk g l) (hct : ∀ s, tb = .ct s → ∀ g l, g = GL s ∧ l = RL s → Φ.ct g l)
    (hx : ∀ e, tb = .rt (.error e) → Catch X W rest g l Φ (xc e) ks) (hs : X.stack = X.env :: X.outer) (hf : X.env.frame = some X.env.locals) (hex : X.ex = []) :
    Blk X W (.Try body hks [] [] pos :: rest) g l Φ := by
  refine blk_tryF (fun x => ∃ e, tb = .rt (.error e) ∧ x = xc e) tk hN hr hne (fun W' pn xe t1 t2 => ?_) (fun x ⟨e, h1, h2⟩ => by subst h2; exact hx e h1) hs hf hex
  have z := hb W' pn xe t1 t2
  unfold Bo at z
  cases tb with
  | nx s => exact z.imp (fun g' l' hh => by obtain ⟨w, q⟩ := hh; subst w; subst q; exact hnx s rfl) (fun _ _ h => h.elim) (fun _ _ h => h.elim) (fun _ _ h => h.elim) (fun _ _ _ _ h => h.elim)
  | bk s => exact z.imp (fun _ _ h => h.elim) (fun _ _ h => h.elim) (fun g l h => hbk s rfl g l h) (fun _ _ h => h.elim) (fun _ _ _ _ h => h.elim)
  | ct s => exact z.imp (fun _ _ h => h.elim) (fun _ _ h => h.elim) (fun _ _ h => h.elim) (fun g l h => hct s rfl g l h) (fun _ _ _ _ h => h.elim)
  | rt r => cases r with
    | ok r => exact z.imp (fun _ _ h => h.elim) (fun d l h => (hrt r rfl).1 d l h) (fun _ _ h => h.elim) (fun _ _ h => h.elim) (fun c d g l h => ((hrt r rfl).2 c d g l h).elim)
    | error e => exact z.imp (fun _ _ h => h.elim) (fun _ _ h => h.elim) (fun _ _ h => h.elim) (fun _ _ h => h.elim) (fun c d g l h => by
        obtain ⟨lx, h1, h2, h3⟩ := h
        exact ⟨_, lx, ⟨e, rfl, rfl⟩, h1, h2, h3⟩)
/-- the state behind a clause -/
abbrev after (g : Gm) (i j : Nat) (x : Xd) : Gm := ((g.set i none).set j (some x.d)).set i none
/-- in a def that does not raise: all is caught -/
theorem bo_tryNV {hks : List ExceptHandler} {ks : List (Addr × Nat × Nat)} {GL : Empty → Gm} {RL : Empty → List Res} {tb : Cf (Except ε Rr) Empty S1} {h' : ε → S1} {k : S1 → Rr} (G : S1 → Gm) (R : S1 → List Res) (i j : Nat) (tk : Takes X W) (hN : X.N.Nodup) (hr : Hks X hks (ks.map fun q => (.ref q.1, q.2.1, q.2.2))) (hne : hks ≠ [])
    (hb : ∀ (W' : WX) (pn : List (Addr × Obj)) (xe : Value → Shared → Prop), Takes (X.tr pn xe) W' → PassesOwn (model X.prog X.w) X.A X.env xe → Bo (X.tr pn xe) W' body g l (Ou (XT X.K g l RT xc) GL RL (NxP G R)) tb)
    (hnr : ∀ r c d g l, (RT r).ex c d g l → False) (hc : ∀ e Q, tb = .rt (.error e) → Blk X W rest (after g i j (xc e)) l Q → Catch X W rest g l Q (xc e) ks) (hg : ∀ e, tb = .rt (.error e) → Wk (after g i j (xc e)) (G (h' e)) ∧ l = R (h' e))
    (h : ∀ s, tryN tb h' = .nx s → Bo X W rest (G s) (R s) (Rt RT) (k s)) (hs : X.stack = X.env :: X.outer := by rfl) (hf : X.env.frame = some X.env.locals := by rfl) (hex : X.ex = [] := by rfl) : Bo X W (.Try body hks [] [] pos :: rest) g l (Rt RT) (bndV (tryN tb h') k) := by
  refine try_core G R tk hN hr hne hb (fun s e => ?_) (fun r e => ⟨fun d l z => ?_, fun c d g l z => hnr r c d g l z⟩) (fun s _ => nomatch s) (fun s _ => nomatch s) (fun e he => ?_) hs hf hex
  · subst e; exact h s rfl
  · subst e; exact z
  · have hg0 := hg e he
    clear hg
    refine hc e _ he ?_
    subst he
    have z := h (h' e) rfl
    rw [← hg0.2] at z
    exact Blk.weak hg0.1 z
/-- one clause, two clauses that take all -/
theorem catch1 {C : Addr} {i j : Nat} {x : Xd} {Q : Po} (h1 : PySem.W.exmOne X.K (.ref x.C) (.ref C) = some true) (z : Blk X W rest (after g i j x) l Q) : Catch X W rest g l Q x [(C, i, j)] := ⟨true, h1, fun _ => z, fun h => by cases h⟩
theorem catch2 {C C2 : Addr} {i j : Nat} {x : Xd} {Q : Po} {b : Bool} (h1 : PySem.W.exmOne X.K (.ref x.C) (.ref C) = some b) (h2 : b = false → PySem.W.exmOne X.K (.ref x.C) (.ref C2) = some true) (z : Blk X W rest (after g i j x) l Q) : Catch X W rest g l Q x [(C, i, j), (C2, i, j)] := ⟨b, h1, fun _ => z, fun h => ⟨true, h2 h, fun _ => z, fun h => by cases h⟩⟩
end
/-! ### what a caught one is -/
/-- the type of what stands at v -/
def TyE (K : PySem.W.Frag) (H : Hp) (v : V) (t : Value) : Prop := TyX K H v t ∨ ∃ (a D : Addr) (d : Option Addr) (vs : List (Str × V)), v = .ref a ∧ t = .ref D ∧ H a = some (exO a (.ref D) d) ∧ (d = none ∧ vs = [] ∨ ∃ dx, d = some dx ∧ H dx = some (.xd vs)) ∧ ExcC K D
theorem exO_instD {P : Program} {w : World} {H : Hp} {h : Heap} {a D : Addr} {d : Option Addr} {vs : List (Str × V)} (hok : HOk P w H h) (ha : H a = some (exO a (.ref D) d)) (hd : d = none ∧ vs = [] ∨ ∃ dx, d = some dx ∧ H dx = some (.xd vs)) :
    ∃ oe od, PySem.W.InstAt h a oe D od ∧ (∀ f v, vs.lookup f = some v → ∃ o u, od = some o ∧ PySem.W.lookIn f o = some (some u) ∧ RelV v u) := by
  have x : ObjOk P w H h a (exO a (.ref D) d) := hok a _ ha
  obtain ⟨⟨oe, h1, h2, ws, h3⟩, _⟩ := x
  have nc : PySem.W.notCls oe = true := by unfold PySem.W.notCls; rw [h3] <;> rfl
  rcases hd with ⟨rfl, rfl⟩ | ⟨dx, rfl, hdx⟩
  · exact ⟨oe, none, ⟨h1, h2.1, nc, by rw [h2.2]; trivial⟩, fun f v e => by cases e⟩
  · have hx : ObjOk P w H h dx (.xd vs) := hok dx _ hdx
    obtain ⟨mA, hns, hr⟩ := hx
    obtain ⟨od, ho, hl⟩ := lookIn_ns hns
    refine ⟨oe, some od, ⟨h1, h2.1, nc, by rw [h2.2]; exact ho⟩, fun f v e => ?_⟩
    obtain ⟨u, hu, ru⟩ := RelO.some_of (v := v) (o := mA f) (by rw [← e]; exact hr f)
    exact ⟨od, u, rfl, by rw [hl, hu], ru⟩
section
variable {X : Cx} {W : WX} {g g' : Gm} {l l' : List Res} {e o : Expr} {d d1 d2 : D} {pos p p2 : Pos}
theorem kit_ofE {pins : List (Addr × Obj)} {σ : L2.St} {H : Hp} {s : Shared} {x : V} {u t : Value} (I : Inv X pins σ H s) (rx : RelV x u) (ty : TyE X.K H x t) : ∃ P : Heap → Prop, PySem.W.KitX X.K u t P ∧ P s.heap ∧ u ≠ .builtin "__main__.__loader__#opaque" := by
  rcases ty with ty | ⟨a, D, d, vs, rfl, rfl, ha, hd, ec⟩
  · exact kit_of I rx ty
  · cases (show u = Value.ref a from rx)
    obtain ⟨oe, od, J, _⟩ := exO_instD I.hok ha hd
    have hcl : (PySem.W.clsIn X.K D).isSome = true := by
      obtain ⟨cd, hc, _⟩ := PySem.W.any_some ec.hd
      rw [hc]; rfl
    exact ⟨_, PySem.W.kitx_exc hcl ec.hg ec.hk ec.hs ec.ha ec.hn ec.ht ec.hm, J, fun z => nomatch z⟩
def rIsE (K : PySem.W.Frag) : List V → Hp → VK → Prop := fun xs H Q => ∃ (x c : V) (t cv : Value) (b : Bool), xs = [x, c] ∧ ClsV c cv ∧ TyE K H x t ∧ PySem.W.kitOne K t cv = some b ∧ Q (.bl b) H
def rIsET (K : PySem.W.Frag) : List V → Hp → VK → Prop := fun xs H Q => ∃ (x : V) (t : Value) (tp : Addr) (cs : List V) (ws : List Value) (b : Bool), xs = [x, .ref tp] ∧ TyE K H x t ∧ SqT K H tp cs ∧ Paired ClsV cs ws ∧ PySem.W.kitAny K t ws = some b ∧ Q (.bl b) H
theorem call_isE : CallR X (.builtin "isinstance") (rIsE X.K) := by
  intro pins s σ H xs us Q I r h
  obtain ⟨x, c, t, cv, b, rfl, k, ty, e, q⟩ := h
  obtain ⟨u1, u2, rfl, r1, r2⟩ := vals2 r
  have e2 := k.eq r2
  subst e2
  obtain ⟨P, Z, p, hx⟩ := kit_ofE I r1 ty
  exact PySem.W.kia_one Z I.kIn p e hx fun tk => ⟨.bl b, H, I.tok tk, rfl, q⟩
theorem Fd.tyE {K : PySem.W.Frag} {F H : Hp} {v : V} {C : Addr} {fs : List (Str × D)} (e : Ex F H) (f : Fd K F v (.exc C fs)) (ec : ExcC K C) : TyE K H v (.ref C) := by
  cases f with
  | @exc a _ vs _ d h1 h2 h3 => exact .inr ⟨a, C, d, vs, rfl, rfl, e _ _ h1, h2.imp id fun ⟨dx, q1, q2⟩ => ⟨dx, q1, e _ _ q2⟩, ec⟩
/-- a class as a value -/
inductive ClsD : D → Value → Prop
  | own (C : Addr) : ClsD (.adr C) (.ref C)
  | ty (n : String) : ClsD (.ty n) (.type n)
theorem ClsD.v {K : PySem.W.Frag} {F : Hp} {c : D} {cv : Value} {v : V} (k : ClsD c cv) (f : Fd K F v c) : ClsV v cv := by
  cases k with
  | own C => cases f; exact .own C
  | ty n => cases f; exact .ty n
theorem o_isE {C : Addr} {fs : List (Str × D)} {c : D} {cv : Value} {b : Bool} (ec : ExcC X.K C) (k : ClsD c cv) (h : PySem.W.kitOne X.K (.ref C) cv = some b) : OpN X.K l (rIsE X.K) [.exc C fs, c] (.bl b) := fun F M H vs Q eF eM dj rs f kk => by
  cases f with
  | cons f1 f2 => cases f2 with
    | cons f2 f3 =>
      cases f3
      exact ⟨_, _, _, cv, b, rfl, k.v f2, f1.tyE eF ec, h, kk _ F H (.rf eF) (.bl _)⟩
theorem o_isEn {c : D} {cv : Value} {b : Bool} (k : ClsD c cv) (h : PySem.W.kitOne X.K (.type "NoneType") cv = some b) : OpN X.K l (rIsE X.K) [.non, c] (.bl b) := fun F M H vs Q eF eM dj rs f kk => by
  cases f with
  | cons f1 f2 => cases f2 with
    | cons f2 f3 =>
      cases f3
      exact ⟨_, _, _, cv, b, rfl, k.v f2, .inl (f1.tyx eF rfl), h, kk _ F H (.rf eF) (.bl _)⟩
/-- isinstance(kept, C), kept an exception or None -/
theorem px_isX {ε : Type} {xc : ε → Xd} {o : Option ε} {ce : Expr} {c : D} {cv : Value} {q : ε → Bool} (z : X.mg "isinstance" = none) (h : Px X e g l (optE (fun x => (xc x).d) o)) (hcl : Px X ce g l c) (k : ClsD c cv) (ec : ∀ x, ExcC X.K (xc x).C) (hk : ∀ x, PySem.W.kitOne X.K (.ref (xc x).C) cv = some (q x)) (hn : PySem.W.kitOne X.K (.type "NoneType") cv = some false)
    (hg : Gl X "isinstance" := by rfl) (hs : starEach [e, ce] X.env = (false, eval e X.env) :: starEach [ce] X.env := by rfl) (hs2 : starEach [ce] X.env = [(false, eval ce X.env)] := by rfl) (hpl : (backTo pos (starEach [ce] X.env)).any (·.1) = false := by rfl) :
    Px X (.Call (.Name "isinstance" p) [e, ce] [] pos) g l (.bl (o.any q)) := by
  cases o with
  | none => exact px_bi call_isE z (pa_c h (pa_c hcl pa_n hs2) hs) (o_isEn k hn) hg (by decide +kernel) (by decide) (by decide) hs hpl
  | some x => exact px_bi call_isE z (pa_c h (pa_c hcl pa_n hs2) hs) (o_isE (ec x) k (hk x)) hg (by decide +kernel) (by decide) (by decide) hs hpl
/-- kept.f -/
def tXg (K : PySem.W.Frag) (f : Str) (te : TE) : TE := fun σ H Q => te σ H fun x H1 => ∃ (a C : Addr) (d : Option Addr) (vs : List (Str × V)) (v : V), x = .ref a ∧ H1 a = some (exO a (.ref C) d) ∧ (d = none ∧ vs = [] ∨ ∃ dx, d = some dx ∧ H1 dx = some (.xd vs)) ∧ ExcC K C ∧ PySem.W.findIn K (.ref C) f = some none ∧ vs.lookup f = some v ∧ Q v H1
end
/-! ### for the walker -/
section
variable {X : Cx} {W : WX} {g g' : Gm} {l l' own junk : List Res} {sts : List Stmt} {Rr ε Ll Ss : Type} {RT : Rr → Re} {xc : ε → Xd} {GL : Ll → Gm} {RL : Ll → List Res} {NX : Ss → Gm → List Res → Prop} {v : Rr}
theorem bo_ok (h : Bo X W sts g l (Rt RT) v) : Bo X W sts g l (Rt (XR X.K own RT xc)) (.ok v) := h
theorem bo_okv (h : Bo X W sts g l (Rv RT) v) : Bo X W sts g l (Rv (XR X.K own RT xc)) (.ok v) := h
end
/-- an exception class under its name with its own __init__ -/
def GloXi (P : Program) (w : World) (K : PySem.W.Frag) (mg : Str → Option Value) (base : Heap) (k : Nat) (C : Addr) (x : Str) (ps : List Str) (sp : Sp) : Prop := ∃ f fd, FnOk P w K mg base CX0 k f fd ps sp ∧ Dxi K mg x C f ∧ Binds K fd ps []
def okv {ε α : Type} (o : Except ε α) (d : α) : α := match o with | .ok v => v | .error _ => d
end Sx
set_option Elab.async false
set_option linter.all false
set_option maxRecDepth 100000
set_option maxHeartbeats 4000000
/-! Owned instances: what they own stands beside them; defs that are handed owned things. -/
namespace Sx
open PySem L2 PyProof.Rows
/-- what a def gives back with what is owned then: for some addresses i -/
abbrev OwnR {ι Rr : Type} (dd : ι → Rr → D) (ll : ι → Rr → List Res) : Rr → Re := fun r => { rt := fun d l => ∃ i, d = dd i r ∧ l = ll i r }
theorem putD_tl {f g : Str} {d x : D} {r r' : List (Str × D)} (h : putD f d r = r') (n : g ≠ f := by decide +kernel) : putD f d ((g, x) :: r) = (g, x) :: r' := by
  show (if g = f then _ else _) = _
  rw [if_neg n, h]
theorem putD_nil {f : Str} {d : D} : putD f d [] = [(f, d)] := rfl
section
variable {X : Cx} {W : WX} {g g' : Gm} {l l' l2 lr : List Res} {Φ : Po} {e a b c o : Expr} {es : List Expr} {d d1 d2 : D} {pos p p2 apos : Pos} {rest sts : List Stmt}
theorem Px.perm (q : l.Perm l2) (h : Px X e g l2 d) : Px X e g l d := fun en T σ H Q s k => h en T σ H Q (s.perm q) fun v H' s' => k v H' (s'.perm q.symm)
theorem Ev.perm {Psi : D → List Res → Prop} (q : l.Perm l2) (h : Ev X e g l2 Psi) : Ev X e g l Psi := fun en T σ H Q s k => h en T σ H Q (s.perm q) k
theorem Exv.perm {Psi : D → List Res → Prop} {XP : Value → Option Addr → List Res → Prop} (q : l.Perm l2) (h : Exv X W e g l2 Psi (fun cls dd l' => ∃ lx, XP cls dd lx ∧ l' = lx ++ l2)) : Exv X W e g l Psi (fun cls dd l' => ∃ lx, XP cls dd lx ∧ l' = lx ++ l) := fun en T σ H Q s k kx => h en T σ H Q (s.perm q) k fun cls dd l' H' z s' => by
  obtain ⟨lx, h1, rfl⟩ := z
  exact kx cls dd _ H' ⟨lx, h1, rfl⟩ (s'.perm (q.symm.append_left lx))
/-! ### calls -/
section
variable {α β ι ε : Type} {ok : α → Prop} {args : α → List D} {own : α → List Res} {dd : α → ι → β → D} {ll : α → ι → β → List Res} {y mm : Str} {ps : List Str} {k j : Nat} {C : Addr} {ds : List D} {pl : Sem Bool}
theorem ev_callO {m : α → β} (G : Glo X.prog X.w X.K X.mg X.base k y ps (SpN X.K ok args own (fun a => OwnR (dd a) (ll a)) m)) (hr : Room j X.A) (hj : k ≤ j) (a : α) (hok : ok a) (q : l.Perm (own a ++ lr)) (ha : Pa X (e :: es) g (own a ++ lr) (args a))
    (hg : Gl X y := by rfl) (hdb : (y == ("__debug__" : Str)) = false := by decide) (he : starEach (e :: es) X.env = (false, eval e X.env) :: starEach es X.env := by rfl) (hpl : (backTo pos (starEach es X.env)).any (·.1) = false := by rfl) :
    Ev X (.Call (.Name y p) (e :: es) [] pos) g l (fun d l' => ∃ i, d = dd a i (m a) ∧ l' = ll a i (m a) ++ lr) :=
  Ev.perm q (ev_call G hr hj a hok ha (fun d l' ⟨i, h1, h2⟩ => ⟨i, h1, by rw [h2]⟩) hg hdb he hpl)
theorem ev_methO0 {m : α → β} {k0 : Nat} {q0 : Addr} {fs : List (Str × D)} (G : GloM X.prog X.w X.K X.mg X.base k C mm ps (SpN X.K ok args own (fun a => OwnR (dd a) (ll a)) m)) (hr : Room j X.A) (hj : k ≤ j) (a : α) (hok : ok a) (q : l.Perm (own a ++ lr)) (ho : Px X o g (own a ++ lr) (.adr q0)) (hk : (own a ++ lr)[k0]? = some (ownI X.K q0 C fs)) (hl : fs.lookup mm = none) (hds : args a = [.adr q0])
    (ht : MthE X o mm apos pos [] pl := by rfl) : Ev X (.Call (.Attribute o mm apos) [] [] pos) g l (fun d l' => ∃ i, d = dd a i (m a) ∧ l' = ll a i (m a) ++ lr) :=
  Ev.perm q (ev_meth0 G hr hj a hok ho (rc_own hk hl) hds (fun d l' ⟨i, h1, h2⟩ => ⟨i, h1, by rw [h2]⟩) ht)
theorem exv_methO {m : α → Except ε β} {xc : ε → Xd} {k0 : Nat} {q0 : Addr} {fs : List (Str × D)} (tk : Takes X W) (G : GloMX X.prog X.w X.K X.mg X.base k C mm ps (SpX X.K ok args own (fun a => OwnR (dd a) (ll a)) m xc)) (hr : Room j X.A) (hj : k ≤ j) (a : α) (hok : ok a) (q : l.Perm (own a ++ lr)) (ho : Px X o g (own a ++ lr) (.adr q0)) (hk : (own a ++ lr)[k0]? = some (ownI X.K q0 C fs)) (hl : fs.lookup mm = none) (ha : Pa X (e :: es) g (own a ++ lr) ds) (hds : args a = .adr q0 :: ds)
    (hst : starEach (e :: es) X.env = (false, eval e X.env) :: starEach es X.env := by rfl) (hpl : (backTo pos (starEach es X.env)).any (·.1) = false := by rfl) (ht : MthE X o mm apos pos (e :: es) pl := by rfl) :
    Exv X W (.Call (.Attribute o mm apos) (e :: es) [] pos) g l (fun d l' => ∃ v, m a = .ok v ∧ ∃ i, d = dd a i v ∧ l' = ll a i v ++ lr) (fun cls d0 l' => ∃ lx, (∃ e0, m a = .error e0 ∧ XE X.K (xc e0) cls d0 lx) ∧ l' = lx ++ l) :=
  Exv.perm q (exv_meth tk G hr hj a hok ho (rc_own hk hl) ha hds (fun d l' h => by
    generalize m a = r at h
    cases r with
    | ok v => obtain ⟨i, h1, h2⟩ := h; exact ⟨v, rfl, i, h1, by rw [h2]⟩
    | error e => exact h.elim) (fun cls d0 l' h => by
    generalize m a = r at h
    cases r with
    | ok v => exact h.elim
    | error e => obtain ⟨lx, h1, h2⟩ := h; exact ⟨lx, ⟨e, rfl, h1⟩, by rw [h2, List.append_assoc]⟩) hst hpl ht)
/-- it gives something back -/
theorem exv_ok {o0 : Except ε β} {v : β} {Psi : β → D → List Res → Prop} {XP : ε → Value → Option Addr → List Res → Prop} (h : Exv X (fun _ _ _ _ => False) e g l (fun d l' => ∃ v, o0 = .ok v ∧ Psi v d l') (fun cls d0 l' => ∃ lx, (∃ e0, o0 = .error e0 ∧ XP e0 cls d0 lx) ∧ l' = lx ++ l)) (hv : o0 = .ok v) : Ev X e g l (Psi v) :=
  Exv.ev (Exv.mono h (fun d l' ⟨v', h1, h2⟩ => by rw [hv] at h1; cases h1; exact h2) (fun cls d0 l' ⟨lx, ⟨e0, h1, _⟩, _⟩ => by rw [hv] at h1; cases h1))
/-- it raises -/
theorem exv_er {o0 : Except ε β} {e0 : ε} {xc : ε → Xd} {Psi : β → D → List Res → Prop} (h : Exv X W e g l (fun d l' => ∃ v, o0 = .ok v ∧ Psi v d l') (fun cls d0 l' => ∃ lx, (∃ e0, o0 = .error e0 ∧ XE X.K (xc e0) cls d0 lx) ∧ l' = lx ++ l)) (hv : o0 = .error e0) : Exr X W e g l (xc e0) :=
  Exv.mono h (fun d l' ⟨v', h1, h2⟩ => by rw [hv] at h1; cases h1) (fun cls d0 l' ⟨lx, ⟨e1, h1, h2⟩, h3⟩ => by rw [hv] at h1; cases h1; exact ⟨lx, h2, h3⟩)
end
/-! ### statements -/
section
variable {α β ι : Type} {Om : β → Po} {mo : β} {k : α → β} {s0 : α}
/-- x = e, e gives something owned -/
theorem bo_setO {i : Nat} {y : Str} {pos' : Pos} {dd : ι → α → D} {ll : ι → α → List Res} (hN : X.N.Nodup) (hi : X.N[i]? = some y) (hx : Loc X.env.scope y) (he : Ev X e g l (fun d l' => ∃ j, d = dd j s0 ∧ l' = ll j s0)) (h : ∀ j s, s = s0 → Bo X W rest (g.set i (some (dd j s))) (ll j s) Om (k s))
    (hs : swapsWith e (some (.Name y pos')) pos.line X.env = pure false := by rfl) (hf : X.fn y = true ∨ X.env.scope.names.lookup y = some .local := by first | exact .inl rfl | exact .inr rfl | assumption) :
    Bo X W (.Assign [.Name y pos'] e pos :: rest) g l Om (lt s0 k) := blk_setX hN hi hx he (fun d l' ⟨j, e1, e2⟩ => by subst e1; subst e2; exact h j s0 rfl) hs hf
theorem bo_mov {sts : List Stmt} (q : l.Perm l2) (h : Bo X W sts g l2 Om mo) : Bo X W sts g l Om mo := Blk.perm q h
/-- a target taken apart, the right side giving something owned -/
theorem blk_fldX {C q : Addr} {f : Str} {pos' : Pos} {Psi : D → List Res → Prop} (he : Ev X e g l Psi) (hc : Cls X.K C) (hn : NoAttr X.K C f) (h : ∀ d l', Psi d l' → Px X o g l' (.adr q) ∧ ∃ n fs, l'[n]? = some (ownI X.K q C fs) ∧ fs.length < 1000 ∧ Blk X W rest g (l'.set n (ownI X.K q C (putD f d fs))) Φ)
    (hs : swapsWith e (some (.Attribute o f pos')) pos.line X.env = pure false := by rfl) : Blk X W (.Assign [.Attribute o f pos'] e pos :: rest) g l Φ := fun en T σ H D s m => wpS_of (pss_cons (ps_fld pe_wp pe_wp hs) pss_wp) (by
  refine he en T σ H _ s fun v d l' H1 hp s1 => ?_
  obtain ⟨ho, n, fs, hk, hz, h⟩ := h d l' hp
  refine ho en _ σ H1 _ s1 fun u H2 s2 => ?_
  obtain ⟨F, M, q2⟩ := s2
  have fu := q2.tm.1
  cases fu
  obtain ⟨dx, vs, ff, hp⟩ := q2.rs.ins hk q2.exM
  refine ⟨q, C, dx, vs, rfl, hp, hc, hn, by rw [ff.length]; exact hz, ?_⟩
  obtain ⟨M', q'⟩ := (q2.tmp (T' := T) q2.tm.2.2).putI hk hp (ff.put q2.tm.2.1)
  exact h en T σ _ D ⟨F, M', q'⟩ m)
/-- self.f = e, frozen -/
theorem bo_fldF {n : Nat} {C q : Addr} {fs : List (Str × D)} {fs' : α → List (Str × D)} {f : Str} {pos' : Pos} (enc : α → D) (he : Px X e g l (enc s0)) (ho : Px X o g l (.adr q)) (hk : l[n]? = some (ownI X.K q C fs)) (hc : Cls X.K C) (hn : NoAttr X.K C f) (hp : ∀ y, putD f (enc y) fs = fs' y) (h : ∀ y, y = s0 → Bo X W rest g (l.set n (ownI X.K q C (fs' y))) Om (k y))
    (hz : fs.length < 1000 := by exact Nat.le_of_ble_eq_true rfl) (hs : swapsWith e (some (.Attribute o f pos')) pos.line X.env = pure false := by rfl) : Bo X W (.Assign [.Attribute o f pos'] e pos :: rest) g l Om (lt s0 k) := blk_fld he ho hk hc hn hz (by
  have := h s0 rfl
  rw [← hp] at this
  exact this) hs
/-- self.f = e, e gives something owned -/
theorem bo_fldO {n : ι → Nat} {C q : Addr} {fs : List (Str × D)} {fs' : ι → α → List (Str × D)} {f : Str} {pos' : Pos} {dd : ι → α → D} {ll : ι → α → List Res} (he : Ev X e g l (fun d l' => ∃ j, d = dd j s0 ∧ l' = ll j s0)) (ho : ∀ j, Px X o g (ll j s0) (.adr q)) (hk : ∀ j, (ll j s0)[n j]? = some (ownI X.K q C fs)) (hc : Cls X.K C) (hn : NoAttr X.K C f) (hp : ∀ j y, putD f (dd j y) fs = fs' j y) (h : ∀ j y, y = s0 → Bo X W rest g ((ll j y).set (n j) (ownI X.K q C (fs' j y))) Om (k y))
    (hz : fs.length < 1000 := by exact Nat.le_of_ble_eq_true rfl) (hs : swapsWith e (some (.Attribute o f pos')) pos.line X.env = pure false := by rfl) : Bo X W (.Assign [.Attribute o f pos'] e pos :: rest) g l Om (lt s0 k) :=
  blk_fldX (Psi := fun d l' => ∃ j, d = dd j s0 ∧ l' = ll j s0) he hc hn (fun d l' ⟨j, e1, e2⟩ => by
    subst e1; subst e2
    refine ⟨ho j, n j, fs, hk j, hz, ?_⟩
    have := h j s0 rfl
    rw [← hp] at this
    exact this) hs
/-- self.f += e -/
theorem bo_retG {Rr : Type} {dd : ι → Rr → D} {ll : ι → Rr → List Res} {r : Rr} {junk : List Res} (i : ι) (he : Px X e g l (dd i r)) (q : l.Perm (ll i r ++ junk)) : Bo X W (.Return (some e) pos :: rest) g l (Rt (OwnR dd ll)) r :=
  blk_retX (Psi := fun d l' => d = dd i r ∧ l' = ll i r) (fun en T σ H Q s k => he en T σ H Q s fun v H' s' => k v _ _ H' ⟨rfl, rfl⟩ (s'.perm2 q)) fun d l' h => ⟨i, h.1, h.2⟩
/-- .. of a new list -/
theorem bo_retH {Rr ι' : Type} {dd : ι → Rr → D} {ll : ι → Rr → List Res} {r : Rr} {junk : ι' → List Res} {d0 : ι' → D} {l0 : ι' → List Res} (he : Ev X e g l (fun d l' => ∃ j, d = d0 j ∧ l' = l0 j)) (q : ∀ j, ∃ i, d0 j = dd i r ∧ (l0 j).Perm (ll i r ++ junk j)) : Bo X W (.Return (some e) pos :: rest) g l (Rt (OwnR dd ll)) r :=
  blk_retX (Psi := fun d l' => ∃ i, d = dd i r ∧ l' = ll i r) (fun en T σ H Q s k => he en T σ H Q s fun v d l' H' ⟨j, h1, h2⟩ s' => by
    obtain ⟨i, h3, h4⟩ := q j
    subst h1; subst h2
    exact k v _ _ H' ⟨i, h3, rfl⟩ (s'.perm2 h4)) fun d l' h => h
theorem bo_endG {Rr : Type} {dd : ι → Rr → D} {ll : ι → Rr → List Res} {r : Rr} {junk : List Res} (i : ι) (he : dd i r = .non) (q : l.Perm (ll i r ++ junk)) : Bo X W [] g l (Rv (OwnR dd ll)) r := Blk.perm (q.trans List.perm_append_comm) (Blk.dropO (blk_nil ⟨i, he.symm, rfl⟩))
end
end
/-! ### freezing -/
section
variable {X : Cx} {W : WX} {g g' : Gm} {l l' : List Res} {Φ : Po} {rest sts : List Stmt}
section
variable {β : Type} {Om : β → Po} {mo : β}
end
end
end Sx
set_option Elab.async false
set_option linter.all false
set_option maxRecDepth 100000
set_option maxHeartbeats 4000000
/-! Walks over owned lists and dicts; sorting; pop. -/
namespace Sx
open PySem L2 PyProof.Rows
section
variable {X : Cx} {W : WX} {g g' : Gm} {l l' lk : List Res} {Φ : Po} {e e2 a b c o : Expr} {es : List Expr} {d d1 d2 : D} {pos p p2 apos : Pos} {rest sts : List Stmt}
/-! ### owned lists -/
/-- enumerate, zip of lists, owned or not -/
inductive Lz (K : PySem.W.Frag) : List Res → D → List D → Prop
  | f {ds : List D} : Lz K [] (.lst ds) ds
  | o {q : Addr} {ds : List D} : Lz K [ownL K q ds] (.adr q) ds
theorem Lz.get {K : PySem.W.Frag} {F M H : Hp} {lk : List Res} {d : D} {ds : List D} {v : V} (z : Lz K lk d ds) (f : Fd K F v d) (eF : Ex F H) (eM : Ex M H) (rs : Rs lk F M) : ∃ a vs, v = .ref a ∧ SqL K H a vs ∧ FdAll K F vs ds := by
  cases z with
  | f => cases f with | lst s a => exact ⟨_, _, rfl, SqL.of (eF _ _ s), a⟩
  | o =>
    cases f
    obtain ⟨vs, f, hq⟩ := rs.own (k := 0) rfl eM
    exact ⟨_, vs, rfl, SqL.of hq, f⟩
theorem Lz.ref {K : PySem.W.Frag} {F : Hp} {lk : List Res} {d : D} {ds : List D} {v : V} (z : Lz K lk d ds) (f : Fd K F v d) : ∃ a, v = .ref a := by
  cases z with
  | f => cases f; exact ⟨_, rfl⟩
  | o => cases f; exact ⟨_, rfl⟩
/-! ### dicts, locked -/
theorem New.tup {F H : Hp} {q : Addr} {xs : List V} (e : Ex F H) (h : H q = some (.tup xs)) : New F H (L2.upd F q (.tup xs)) H := ⟨fun x u z => by
    by_cases k : x = q
    · subst k
      have := e _ _ z
      rw [h] at this; cases this
      exact upd_same
    · rw [upd_ne k]; exact z, .rf, fun x u z => by
    by_cases k : x = q
    · subst k; rw [upd_same] at z; cases z; exact h
    · rw [upd_ne k] at z; exact e _ _ z, fun x u z => by
    by_cases k : x = q
    · subst k; rw [upd_same] at z; cases z; exact .inr (.inr ⟨_, rfl⟩)
    · rw [upd_ne k] at z; exact .inl z⟩
theorem FdFs.get {κ : Type} {K : PySem.W.Frag} {F : Hp} : ∀ {vs : List (κ × V)} {ds : List (κ × D)} {i : Nat} {k : κ} {v : V}, FdFs K F vs ds → vs[i]? = some (k, v) → ∃ d, ds[i]? = some (k, d) ∧ Fd K F v d
  | _, _, i, _, _, .nil, e => by simp at e
  | _, _, 0, _, _, .cons h _, e => by simp at e; obtain ⟨rfl, rfl⟩ := e; exact ⟨_, rfl, h⟩
  | _, _, i + 1, _, _, .cons _ t, e => by
    obtain ⟨d, h1, h2⟩ := FdFs.get (i := i) t (by simpa using e)
    exact ⟨d, by simpa using h1, h2⟩
theorem keysD {K : PySem.W.Frag} {F : Hp} : ∀ k : List Key, FdAll K F (k.map kV) (k.map kD)
  | [] => .nil
  | .inl i :: r => .cons (.int i) (keysD r)
  | .inr x :: r => .cons (.str x) (keysD r)
theorem jg_keysT {K : PySem.W.Frag} {F : Hp} {q : Addr} {od : Obj} {vs : List (List Key × V)} {kvs : List (List Key × D)} : JG K [ownTz K q od vs kvs] F (Itkt q od vs) (kvs.map fun kv => .tup (kv.1.map kD)) := fun F' M' H e1 e2 eM rs => by
  obtain ⟨f, hq⟩ := rs.ownTz (k := 0) rfl eM
  have hl : vs.length = kvs.length := f.length
  refine ⟨fun i hi => ⟨hq, by rw [List.length_map] at hi; rw [hl]; exact hi⟩, ⟨hq, by rw [List.length_map, hl]; exact Nat.le_refl _⟩, fun i d x H' hd hy => ?_⟩
  obtain ⟨rfl, k, v, q', h1, rfl, h3⟩ := hy
  obtain ⟨d0, h4, _⟩ := f.get h1
  rw [List.getElem?_map, h4] at hd
  cases hd
  exact ⟨_, New.tup e2 h3, .tup (SqT.of upd_same) (keysD k)⟩
theorem it_keysT {tg : Expr} {q : Addr} {od : Obj} {vs : List (List Key × V)} {kvs : List (List Key × D)} {k : Nat} (h : Px X e g l (.adr q)) (hk : l[k]? = some (ownTz X.K q od vs kvs)) : ItwP X tg e g l [ownTz X.K q od vs kvs] (kvs.map fun kv => .tup (kv.1.map kD)) := ⟨_, pi_keys pe_wp, fun en T σ H R s kk => h en T σ H _ s fun v H1 s1 => by
  obtain ⟨F, M, a⟩ := s1
  obtain ⟨f, t⟩ := a.tm
  cases f
  obtain ⟨f, hq⟩ := a.rs.ownTz hk a.exM
  exact ⟨_, _, rfl, .inr ⟨vs, hq, kk _ H1 F M (a.tmp t) jg_keysT⟩⟩⟩
theorem S.lockT {K : PySem.W.Frag} {en : En} {T : Tm} {σ : L2.St} {H : Hp} {n : Nat} {q : Addr} {kvs : List (List Key × D)} (s : S K en g T l σ H) (hk : l[n]? = some (ownT K q kvs)) : ∃ vs, H q = some (.dT vs) ∧ ∀ od, S K en g T (l.set n (ownTz K q od vs kvs)) σ (upd H q (.frz od (.dT vs))) := by
  obtain ⟨F, M, a⟩ := s
  obtain ⟨vs, f, hq⟩ := a.rs.ownT hk a.exM
  refine ⟨vs, hq, fun od => ?_⟩
  obtain ⟨M', b⟩ := a.putOne (r' := ownTz K q od vs kvs) (o' := .frz od (.dT vs)) hk (fun A ⟨_, _, e⟩ => ⟨_, e⟩) ⟨f, rfl⟩
  exact ⟨F, M', b⟩
theorem S.unlockT {K : PySem.W.Frag} {en : En} {T : Tm} {σ : L2.St} {H : Hp} {n : Nat} {q : Addr} {od : Obj} {vs : List (List Key × V)} {kvs : List (List Key × D)} (s : S K en g T l σ H) (hk : l[n]? = some (ownTz K q od vs kvs)) : H q = some (.frz od (.dT vs)) ∧ S K en g T (l.set n (ownT K q kvs)) σ (upd H q (.dT vs)) := by
  obtain ⟨F, M, a⟩ := s
  obtain ⟨f, hq⟩ := a.rs.ownTz hk a.exM
  refine ⟨hq, ?_⟩
  obtain ⟨M', b⟩ := a.putOne (r' := ownT K q kvs) (o' := .dT vs) hk (fun A ⟨_, e⟩ => ⟨_, e⟩) ⟨vs, f, rfl⟩
  exact ⟨F, M', b⟩
theorem set_back {l : List Res} {n : Nat} {r r' : Res} (h : l[n]? = some r) : (l.set n r').set n r = l := by
  rw [List.set_set]
  apply List.ext_getElem?
  intro i
  by_cases z : i = n
  · subst z
    obtain ⟨h1, h2⟩ := List.getElem?_eq_some_iff.mp h
    rw [List.getElem?_set_self h1, h]
  · rw [List.getElem?_set_ne (Ne.symm z)]
theorem set_at {l : List Res} {n : Nat} {r : Res} (h : l[n]? = some r) : l.set n r = l := by
  apply List.ext_getElem?
  intro i
  by_cases z : i = n
  · subst z
    obtain ⟨h1, h2⟩ := List.getElem?_eq_some_iff.mp h
    rw [List.getElem?_set_self h1, h]
  · rw [List.getElem?_set_ne (Ne.symm z)]
/-- an expression that gives a new list while a dict is walked over -/
theorem evl_lockT {n : Nat} {q : Addr} {kvs : List (List Key × D)} {ds : List D} (hk : l[n]? = some (ownT X.K q kvs)) (h : ∀ od vs, EvL X e g (l.set n (ownTz X.K q od vs kvs)) ds) : EvL X e g l ds := fun en T σ H Q s k => wpE_of (pe_lock pe_wp) (by
  obtain ⟨vs, hq, hl⟩ := s.lockT hk
  refine ⟨q, _, hq, trivial, fun od => ?_⟩
  refine h od vs en T σ _ _ (hl od) fun v d l' H' hp s' => ?_
  obtain ⟨p, rfl, rfl⟩ := hp
  have hlt : n < l.length := (List.getElem?_eq_some_iff.mp hk).1
  obtain ⟨h1, h2⟩ := s'.unlockT (n := n + 1) (q := q) (od := od) (vs := vs) (kvs := kvs) (by rw [List.getElem?_cons_succ, List.getElem?_set_self hlt])
  refine ⟨h1, k _ _ _ _ ⟨p, rfl, rfl⟩ ?_⟩
  rw [List.set_cons_succ, set_back hk] at h2
  exact h2)
/-! ### sorting -/
/-- insertion sort -/
def ins {α : Type} (le : α → α → Bool) (x : α) : List α → List α
  | [] => [x]
  | y :: r => cond (le x y) (x :: y :: r) (y :: ins le x r)
def isort {α : Type} (le : α → α → Bool) : List α → List α
  | [] => []
  | x :: r => ins le x (isort le r)
section
variable {α : Type} {le : α → α → Bool}
theorem ins_perm (x : α) : ∀ r : List α, (ins le x r).Perm (x :: r)
  | [] => .refl _
  | y :: r => by
    show (cond (le x y) (x :: y :: r) (y :: ins le x r)).Perm _
    cases le x y with
    | true => exact .refl _
    | false => exact ((ins_perm x r).cons y).trans (.swap x y r)
theorem isort_perm : ∀ r : List α, (isort le r).Perm r
  | [] => .refl _
  | x :: r => (ins_perm x _).trans ((isort_perm r).cons x)
theorem ins_srt (tot : ∀ x y, le x y = false → le y x = true) (tr : ∀ x y z, le x y = true → le y z = true → le x z = true) (x : α) : ∀ r : List α, r.Pairwise (fun a b => le a b = true) → (ins le x r).Pairwise (fun a b => le a b = true)
  | [], _ => List.pairwise_singleton _ _
  | y :: r, h => by
    obtain ⟨h1, h2⟩ := List.pairwise_cons.mp h
    show (cond (le x y) (x :: y :: r) (y :: ins le x r)).Pairwise _
    cases q : le x y with
    | true => exact List.pairwise_cons.mpr ⟨fun z hz => by
        rcases List.mem_cons.mp hz with rfl | hz
        · exact q
        · exact tr _ _ _ q (h1 z hz), h⟩
    | false => exact List.pairwise_cons.mpr ⟨fun z hz => by
        rcases List.mem_cons.mp ((ins_perm x r).mem_iff.mp hz) with rfl | hz
        · exact tot _ _ q
        · exact h1 z hz, ins_srt tot tr x r h2⟩
theorem isort_srt (tot : ∀ x y, le x y = false → le y x = true) (tr : ∀ x y z, le x y = true → le y z = true → le x z = true) : ∀ r : List α, (isort le r).Pairwise (fun a b => le a b = true)
  | [] => .nil
  | x :: r => ins_srt tot tr x _ (isort_srt tot tr r)
theorem srt_uniq (anti : ∀ x y, le x y = true → le y x = true → x = y) : ∀ {l m : List α}, l.Perm m → l.Pairwise (fun a b => le a b = true) → m.Pairwise (fun a b => le a b = true) → l = m
  | [], m, p, _, _ => by rw [List.nil_perm.mp p]
  | x :: l, [], p, _, _ => by cases (List.perm_nil.mp p)
  | x :: l, y :: m, p, h1, h2 => by
    obtain ⟨a1, a2⟩ := List.pairwise_cons.mp h1
    obtain ⟨b1, b2⟩ := List.pairwise_cons.mp h2
    have e : x = y := by
      rcases List.mem_cons.mp (p.mem_iff.mp List.mem_cons_self) with z | z
      · exact z
      · rcases List.mem_cons.mp (p.mem_iff.mpr List.mem_cons_self) with w | w
        · exact w.symm
        · exact anti _ _ (a1 _ w) (b1 _ z)
    subst e
    rw [srt_uniq anti (List.Perm.cons_inv p) a2 b2]
theorem isort_uniq (tot : ∀ x y, le x y = false → le y x = true) (tr : ∀ x y z, le x y = true → le y z = true → le x z = true) (anti : ∀ x y, le x y = true → le y x = true → x = y) {l m : List α} (p : l.Perm m) (h : l.Pairwise (fun a b => le a b = true)) : l = isort le m := srt_uniq anti (p.trans (isort_perm m).symm) h (isort_srt tot tr m)
end
abbrev sortI (ns : List Int) : List Int := isort (fun a b => decide (a ≤ b)) ns
/-- keys of tuples of ints and texts -/
def kN : Key → Int ⊕ List Nat
  | .inl i => .inl i
  | .inr x => .inr x.cps.toList
abbrev Oi : KeyOrd := listOrd itemOrd
def bltK (a b : List Key) : Bool := Oi.blt (a.map kN) (b.map kN)
def leK {α : Type} (key : α → List Key) (x y : α) : Bool := !bltK (key y) (key x)
abbrev sortK {α : Type} (key : α → List Key) (xs : List α) : List α := isort (leK key) xs
theorem kN_inj : ∀ a b : Key, kN a = kN b → a = b
  | .inl i, .inl j, h => by cases h; rfl
  | .inl i, .inr y, h => by cases h
  | .inr x, .inl j, h => by cases h
  | .inr x, .inr y, h => by
    have : x.cps.toList = y.cps.toList := Sum.inr.inj h
    have e : x.cps = y.cps := Array.toList_inj.mp this
    cases x; cases y; cases e; rfl
theorem bltK_total {a b : List Key} (h1 : bltK a b = false) (h2 : bltK b a = false) : a = b := by
  have := Oi.total _ _ h1 h2
  exact (List.map_inj_right kN_inj).mp this
section
variable {α : Type} {key : α → List Key}
theorem leK_tot : ∀ x y : α, leK key x y = false → leK key y x = true := fun x y h => by
  have h : bltK (key y) (key x) = true := by unfold leK at h; simpa using h
  unfold leK
  cases q : bltK (key x) (key y) with
  | false => rfl
  | true =>
    have := Oi.trans _ _ _ h q
    rw [Oi.irrefl] at this; cases this
theorem leK_tr : ∀ x y z : α, leK key x y = true → leK key y z = true → leK key x z = true := fun x y z h1 h2 => by
  unfold leK at *
  have h1 : bltK (key y) (key x) = false := by simpa using h1
  have h2 : bltK (key z) (key y) = false := by simpa using h2
  cases q : bltK (key z) (key x) with
  | false => rfl
  | true =>
    rcases Oi.negTrans _ ((key y).map kN) _ q with w | w
    · have w : bltK (key z) (key y) = true := w
      rw [h2] at w; cases w
    · have w : bltK (key y) (key x) = true := w
      rw [h1] at w; cases w
theorem leK_anti (inj : ∀ x y, key x = key y → x = y) : ∀ x y : α, leK key x y = true → leK key y x = true → x = y := fun x y h1 h2 => by
  unfold leK at *
  exact inj _ _ (bltK_total (by simpa using h2) (by simpa using h1))
theorem sortK_uniq (inj : ∀ x y, key x = key y → x = y) {l m : List α} (p : l.Perm m) (h : l.Pairwise (fun a b => leK key a b = true)) : l = sortK key m := isort_uniq leK_tot leK_tr (leK_anti inj) p h
end
/-- the kinds of a tuple's places -/
def shOk (sh : Nat → Bool) : Nat → List Key → Bool
  | _, [] => true
  | i, .inl _ :: r => !sh i && shOk sh (i + 1) r
  | i, .inr _ :: r => sh i && shOk sh (i + 1) r
theorem items_of {sh : Nat → Bool} : ∀ {i : Nat} {k : List Key} {us : List Value}, shOk sh i k = true → Vals (k.map kV) us → tupItems sh i us = some (k.map kN)
  | _, [], _, _, .nil => rfl
  | i, .inl n :: r, _, h, .cons q t => by
    obtain ⟨h1, h2⟩ := Bool.and_eq_true_iff.mp h
    obtain ⟨tk, rfl⟩ := q
    have h1 : sh i = false := by simpa using h1
    unfold tupItems
    rw [h1, items_of h2 t]
    rfl
  | i, .inr x :: r, _, h, .cons q t => by
    obtain ⟨h1, h2⟩ := Bool.and_eq_true_iff.mp h
    obtain ⟨tk, rfl⟩ := q
    unfold tupItems
    rw [h1, items_of h2 t]
    rfl
def rSortK (K : PySem.W.Frag) (sh : Nat → Bool) : List V → Hp → VK → Prop := fun vs H Q => ∃ (a : Addr) (zs : List (V × List Key)), vs = [V.ref a] ∧ SqL K H a (zs.map (·.1)) ∧ (∀ z ∈ zs, ∃ t, z.1 = V.ref t ∧ SqT K H t (z.2.map kV) ∧ shOk sh 0 z.2 = true ∧ z.2 ≠ []) ∧
  ∀ (zs' : List (V × List Key)) (p : Addr), zs'.Perm zs → zs'.Pairwise (fun x y => bltK y.2 x.2 = false) → H p = none → Q (.ref p) (upd H p (.lst (zs'.map (·.1))))
theorem perm_lift {α β : Type} {f : α → β} : ∀ {ys m : List β}, ys.Perm m → ∀ {zs : List α}, zs.map f = m → ∃ zs' : List α, zs'.Perm zs ∧ zs'.map f = ys := by
  intro ys m h
  induction h with
  | nil => intro zs e; exact ⟨[], by rw [List.map_eq_nil_iff.mp e], rfl⟩
  | cons x _ ih =>
    intro zs e
    cases zs with
    | nil => cases e
    | cons z zs =>
      rw [List.map_cons] at e
      obtain ⟨e1, e2⟩ := List.cons.inj e
      obtain ⟨zs', h1, h2⟩ := ih e2
      exact ⟨z :: zs', h1.cons z, by rw [List.map_cons, h2, e1]⟩
  | swap x y l =>
    intro zs e
    match zs, e with
    | z1 :: z2 :: zs, e =>
      rw [List.map_cons, List.map_cons] at e
      obtain ⟨e1, e⟩ := List.cons.inj e
      obtain ⟨e2, e3⟩ := List.cons.inj e
      exact ⟨z2 :: z1 :: zs, .swap _ _ _, by rw [List.map_cons, List.map_cons, e1, e2, e3]⟩
  | trans _ _ ih1 ih2 =>
    intro zs e
    obtain ⟨z2, h1, h2⟩ := ih2 e
    obtain ⟨z1, h3, h4⟩ := ih1 h2
    exact ⟨z1, h3.trans h1, h4⟩
section
variable {X : Cx}
theorem cr_sortK {sh : Nat → Bool} : CallR X (.builtin "sorted") (rSortK X.K sh) := by
  intro pins s σ H vs us Q I r h
  obtain ⟨a, zs, rfl, hs, hx, q⟩ := h
  obtain ⟨its, rv, hl, hz⟩ := I.list hs
  obtain ⟨u, rfl, ru⟩ := vals1 r
  obtain rfl : u = Value.ref a := ru
  obtain ⟨e1, e2⟩ := refs_back rv fun x m => by
    obtain ⟨z, hz, rfl⟩ := List.mem_map.mp m
    obtain ⟨t, e, _⟩ := hx z hz
    exact ⟨t, e⟩
  have keyz : ∀ z ∈ zs, ∃ t, z.1 = V.ref t ∧ G.tupKeyC s.heap sh (.ref t) = some (z.2.map kN) ∧ ∃ f, TupOf s.heap sh (.ref t) f := fun z hz => by
    obtain ⟨t, e, ht, hsh, hne⟩ := hx z hz
    obtain ⟨its2, r2, ⟨o, ho, hc, n, hd⟩, _⟩ := I.tuple ht
    refine ⟨t, e, G.tupKeyC_of ho hc hd (items_of hsh r2), ?_⟩
    obtain ⟨k0, kr, hk⟩ := List.exists_cons_of_ne_nil hne
    rw [hk] at r2 hsh
    cases r2 with
    | @cons _ u _ us qq tt =>
      refine ⟨u, t, o, _, n, rfl, ho, hc, hd, rfl, fun h0 => ?_, fun h0 => ?_⟩
      · cases k0 with
        | inl i => obtain ⟨tk, rfl⟩ := qq; exact ⟨i, tk, rfl⟩
        | inr x => have := (Bool.and_eq_true_iff.mp hsh).1; rw [h0] at this; cases this
      · cases k0 with
        | inl i => have := (Bool.and_eq_true_iff.mp hsh).1; rw [h0] at this; cases this
        | inr x => obtain ⟨tk, rfl⟩ := qq; exact ⟨x, tk, rfl⟩
  have key : ∀ v ∈ its, (∃ l, G.tupKeyC s.heap sh v = some l) ∧ ∃ f, TupOf s.heap sh v f := fun v hv => by
    obtain ⟨t, rfl⟩ := e2 v hv
    have hm : V.ref t ∈ zs.map (·.1) := by rw [e1]; exact List.mem_map.mpr ⟨_, hv, rfl⟩
    obtain ⟨z, hz, ez⟩ := List.mem_map.mp hm
    obtain ⟨t', e, h1, h2⟩ := keyz z hz
    rw [e] at ez
    cases ez
    exact ⟨⟨_, h1⟩, h2⟩
  obtain ⟨fs, hfs⟩ : ∃ fs, TupsOf s.heap sh its fs := by
    have : ∀ l : List Value, (∀ v ∈ l, ∃ f, TupOf s.heap sh v f) → ∃ fs, TupsOf s.heap sh l fs := by
      intro l
      induction l with
      | nil => exact fun _ => ⟨[], .nil⟩
      | cons v l ih =>
        intro h
        obtain ⟨f, hf⟩ := h v List.mem_cons_self
        obtain ⟨fs, hfs⟩ := ih fun x hx => h x (List.mem_cons_of_mem _ hx)
        exact ⟨f :: fs, .cons hf hfs⟩
    exact this its fun v hv => (key v hv).2
  refine G.sorted_tups hl.isList hfs (fun v hv => (key v hv).1) (by rw [← rv.length]; exact hz) fun st' h1 h2 _ => ?_
  have hp : (arrOf st').toList.Perm (its.zip its) := by
    have z := Array.perm_iff_toList_perm.mp h1
    rw [pairsOf_toList] at z
    exact z
  have hpm : ((arrOf st').map (·.2)).toList.Perm its := by
    rw [Array.toList_map]
    have z := hp.map (·.2)
    have e : (its.zip its).map (·.2) = its := by rw [List.map_snd_zip]; exact Nat.le_refl _
    rw [e] at z
    exact z
  have h3 : ∀ u ∈ ((arrOf st').map (·.2)).toList, ∃ a, u = Value.ref a := fun u hu => e2 u (hpm.mem_iff.mp hu)
  obtain ⟨n, hn⟩ := sortedAll_at s.heap its ((arrOf st').map (·.2))
  have hpx : (((arrOf st').map (·.2)).toList.map backV).Perm (zs.map (·.1)) := by rw [e1]; exact hpm.map backV
  obtain ⟨zs', hz1, hz2⟩ := perm_lift hpx rfl
  refine ⟨.ref _, upd H (s.heap.objs.size + 1) (.lst (((arrOf st').map (·.2)).toList.map backV)), I.laid (t' := s.toks) (fun _ _ => sortedAll_old) (Nat.le_succ _) ⟨?_, ((arrOf st').map (·.2)).toList, n, vals_back h3, hn⟩, rfl, ?_⟩
  · rw [hpx.length_eq]; exact hz
  · rw [← hz2]
    refine q _ _ hz1 ?_ (I.hok.fresh (Nat.le_succ _))
    rw [List.pairwise_iff_getElem]
    intro i j hi hj hij
    have hsz : (arrOf st').toList.length = (pairsOf its).size := by rw [pairsOf_size, hp.length_eq, List.length_zip]; omega
    have hlz : zs'.length = (arrOf st').toList.length := by
      have := congrArg List.length hz2
      rw [List.length_map, List.length_map, Array.toList_map, List.length_map] at this
      exact this
    have z := h2 i j (Nat.le_of_lt hij) (by rw [← hsz, ← hlz]; exact hj)
    have fst : ∀ (i : Nat) (hi : i < (arrOf st').toList.length), (arrOf st').toList[i].1 = (arrOf st').toList[i].2 ∧ (arrOf st').toList[i].1 ∈ its := fun i hi => mem_zip_self (hp.mem_iff.mp (List.getElem_mem hi))
    have kk_at : ∀ (i : Nat) (hi : i < zs'.length), KK (G.tupKindC s.heap sh) (arrOf st') i = zs'[i].2.map kN := fun i hi => by
      have hi' : i < (arrOf st').toList.length := by rw [← hlz]; exact hi
      unfold KK
      rw [← Array.getElem?_toList, List.getElem?_eq_getElem hi']
      show (G.tupKeyC s.heap sh (arrOf st').toList[i].1).getD _ = _
      obtain ⟨t, e, h4, _⟩ := keyz zs'[i] (hz1.mem_iff.mp (List.getElem_mem hi))
      have e5 : zs'[i].1 = backV (arrOf st').toList[i].2 := by
        have h5 := congrArg (fun l => l[i]?) hz2
        rw [List.getElem?_map, List.getElem?_map, List.getElem?_eq_getElem hi, Array.toList_map, List.getElem?_map, List.getElem?_eq_getElem hi'] at h5
        exact Option.some.inj h5
      obtain ⟨t2, e6⟩ := e2 _ (fst i hi').2
      rw [(fst i hi').1] at e6
      rw [e6, e] at e5
      cases e5
      rw [(fst i hi').1, e6, h4]
      rfl
    rw [kk_at i hi, kk_at j hj] at z
    exact z
end
/-! sorted(..) of tuples of ints and texts, of ints: a new list -/
theorem fd_tupK {K : PySem.W.Frag} {F : Hp} {v : V} {k : List Key} (f : Fd K F v (.tup (k.map kD))) : ∃ t, v = .ref t ∧ SqT K F t (k.map kV) := by
  cases f with
  | tup s a => rw [a.keys] at s; exact ⟨_, rfl, s⟩
theorem zip_fd {K : PySem.W.Frag} {F : Hp} {α : Type} {enc : α → D} {key : α → List Key} (he : ∀ x, enc x = .tup ((key x).map kD)) : ∀ {vs : List V} {xs : List α}, FdAll K F vs (xs.map enc) → ∃ zs : List (V × α), zs.map (·.1) = vs ∧ zs.map (·.2) = xs ∧ ∀ z ∈ zs, Fd K F z.1 (enc z.2)
  | _, [], .nil => ⟨[], rfl, rfl, fun z h => nomatch h⟩
  | _, x :: xs, .cons (v := v) a b => by
    obtain ⟨zs, h1, h2, h3⟩ := zip_fd he b
    refine ⟨(v, x) :: zs, by rw [List.map_cons, h1], by rw [List.map_cons, h2], fun z hz => ?_⟩
    rcases List.mem_cons.mp hz with rfl | hz
    · exact a
    · exact h3 z hz
theorem fd_zip {K : PySem.W.Frag} {F : Hp} {α : Type} {enc : α → D} : ∀ {zs : List (V × α)}, (∀ z ∈ zs, Fd K F z.1 (enc z.2)) → FdAll K F (zs.map (·.1)) ((zs.map (·.2)).map enc)
  | [], _ => .nil
  | z :: zs, h => .cons (h z List.mem_cons_self) (fd_zip fun y hy => h y (List.mem_cons_of_mem _ hy))
theorem ev_sortT {α : Type} {enc : α → D} {key : α → List Key} {xs : List α} (sh : Nat → Bool) (he : ∀ x, enc x = .tup ((key x).map kD)) (inj : ∀ x y, key x = key y → x = y) (hsh : ∀ x, shOk sh 0 (key x) = true) (hne : ∀ x, key x ≠ []) {e1 : Expr} (ha : Px X e1 g l d) (hd : Lq X.K l d (xs.map enc)) (hm : X.mg "sorted" = none)
    (hg : Gl X "sorted" := by rfl) (hs : starEach [e1] X.env = (false, eval e1 X.env) :: starEach [] X.env := by rfl) : EvL X (.Call (.Name "sorted" p) [e1] [] pos) g l ((sortK key xs).map enc) :=
  ev_new (pe_callB (cr_sortK (sh := sh)) hg hm (by decide +kernel) (pa_wp (es := [e1])) (by decide) (by decide) hs rfl) fun en T σ H Q s k => by
  refine pa_c ha pa_n hs en T σ H _ s fun vs H1 s1 => ?_
  obtain ⟨F, M, q⟩ := s1
  obtain ⟨f, t⟩ := q.tm
  cases f with
  | cons f1 f2 =>
    cases f2
    obtain ⟨a, ws, rfl, sq, f⟩ := hd.get q.exF q.exM q.rs f1
    obtain ⟨zs, h1, h2, h3⟩ := zip_fd he f
    refine ⟨a, zs.map fun z => (z.1, key z.2), rfl, ?_, fun z hz => ?_, fun zs' p hp hs' hn => ?_⟩
    · rw [List.map_map]
      have e : (zs.map ((fun z : V × List Key => z.1) ∘ fun z : V × α => (z.1, key z.2))) = ws := h1
      rw [e]; exact sq
    · obtain ⟨y, hy, rfl⟩ := List.mem_map.mp hz
      have fy := h3 y hy
      rw [he] at fy
      obtain ⟨t, e, sq⟩ := fd_tupK fy
      exact ⟨t, e, ex_t q.exF sq, hsh _, hne _⟩
    · obtain ⟨ys, hy1, hy2⟩ := perm_lift hp rfl
      subst hy2
      have e1 : (ys.map (·.2)) = sortK key xs := by
        refine sortK_uniq inj (by rw [← h2]; exact hy1.map _) ?_
        rw [List.pairwise_map] at hs' ⊢
        exact hs'.imp fun h => by unfold leK; rw [h]; rfl
      have e2 : (List.map (fun x : V × List Key => x.1) (ys.map fun z : V × α => (z.1, key z.2))) = ys.map (·.1) := by rw [List.map_map]; rfl
      have z := k p (ys.map (·.1)) H1 F M (q.tmp t) (by rw [← e1]; exact fd_zip fun z hz => h3 z (hy1.mem_iff.mp hz)) hn
      rw [e2]; exact z
theorem px_sortT {α : Type} {enc : α → D} {key : α → List Key} {xs : List α} (sh : Nat → Bool) (he : ∀ x, enc x = .tup ((key x).map kD)) (inj : ∀ x y, key x = key y → x = y) (hsh : ∀ x, shOk sh 0 (key x) = true) (hne : ∀ x, key x ≠ []) {e1 : Expr} (ha : Px X e1 g l d) (hd : Lq X.K l d (xs.map enc)) (hm : X.mg "sorted" = none)
    (hg : Gl X "sorted" := by rfl) (hs : starEach [e1] X.env = (false, eval e1 X.env) :: starEach [] X.env := by rfl) : Px X (.Call (.Name "sorted" p) [e1] [] pos) g l (.lst ((sortK key xs).map enc)) := (ev_sortT sh he inj hsh hne ha hd hm hg hs).frz
/-! ### pop -/
theorem FdFs.delK {κ : Type} [DecidableEq κ] {K : PySem.W.Frag} {F : Hp} {k : κ} : ∀ {vs : List (κ × V)} {ds : List (κ × D)}, FdFs K F vs ds → FdFs K F (L2.dropK vs k) (ds.filter fun kv => decide (kv.1 ≠ k))
  | _, _, .nil => .nil
  | _, _, .cons (n := n) (vs := vs) (ds := ds) a b => by
    unfold L2.dropK
    rw [List.filter_cons, List.filter_cons]
    by_cases e : n = k
    · rw [if_neg (by simp [e]), if_neg (by simp [e])]; exact FdFs.delK b
    · rw [if_pos (by simp [e]), if_pos (by simp [e])]; exact .cons a (FdFs.delK b)
theorem FdFs.noval {κ : Type} [DecidableEq κ] {K : PySem.W.Frag} {F : Hp} {k : κ} : ∀ {vs : List (κ × V)} {ds : List (κ × D)}, FdFs K F vs ds → L2.valV vs k = none → (ds.filter fun kv => decide (kv.1 ≠ k)) = ds
  | _, _, .nil, _ => rfl
  | _, _, .cons (n := n) (vs := vs) (ds := ds) a b, h => by
    by_cases e : n = k
    · rw [valV_pos e] at h; cases h
    · rw [valV_neg e] at h
      rw [List.filter_cons, if_pos (by simp [e]), FdFs.noval b h]
/-- d.pop((..), None), d owned -/
theorem bo_tpop {κ β S1 : Type} [DecidableEq κ] {Om : S1 → Po} {kk : List (κ × β) → S1} {kf : κ → List Key} {m : List (κ × β)} {k : κ} {n : Nat} {q : Addr} {cpos tp : Pos} {x1 : Nat} {e3 : Expr} (inj : ∀ a b, kf a = kf b → a = b) (enc : β → D) (hu : X.A.units + 64 < cLine) (ho : Px X o g l (.adr q)) (hi : Pa X es g l ((kf k).map kD)) (hkz : (kf k).length ≤ sizeLine) (he : Px X e3 g l .non) (hl : l[n]? = some (ownT X.K q (dE kf enc m)))
    (h : ∀ m2, m2 = adel m k → Bo X W rest g (l.set n (ownT X.K q (dE kf enc m2))) Om (kk m2)) (hp : PS X (.Expr (.Call (.Attribute o "pop" apos) [.Tuple es x1 tp, e3] [] cpos) pos) (tDrop (tBM X.K "dict" L2.DX.rPopT (wpE X o) (tCons (tTup (wpA X es)) (tCons (wpE X e3) tNil)))) := by exact ps_expr (pe_bm PySem.F.plainAttrs_dict PySem.F.slot_dict_pop PySem.F.type_dict_pop (L2.DX.mt_popT (Px.units (by assumption))) pe_wp (pa_cons (pe_tup pa_wp) (pa_cons pe_wp pa_nil)))) :
    Bo X W (.Expr (.Call (.Attribute o "pop" apos) [.Tuple es x1 tp, e3] [] cpos) pos :: rest) g l Om (lt (adel m k) kk) := fun en T σ H D s mt => wpS_of (pss_cons hp pss_wp) (by
  refine ho en T σ H _ s fun v H1 s1 => ?_
  obtain ⟨F1, M1, q1⟩ := id s1
  have fv := q1.tm.1
  cases fv
  obtain ⟨vs1, _, hp1⟩ := q1.rs.ownT hl q1.exM
  refine ⟨.inr (.inr (.inl ⟨rfl, .inr ⟨_, hp1⟩⟩)), ?_⟩
  refine hi en _ σ H1 _ s1 fun us H2 s2 => ?_
  obtain ⟨F, M, q2⟩ := s2
  have ek := q2.tm.1.keys
  subst ek
  refine ⟨by rw [List.length_map]; exact hkz, fun p hpn => ?_⟩
  have nw := New.upd (o := .tup ((kf k).map kV)) q2.exF hpn
  have q3 := q2.new nw
  refine he en ((T.and X.K (.ref q) (.adr q)).ex (L2.upd F p (.tup ((kf k).map kV)))) σ _ _ ⟨_, M, q3.tmp ⟨.rf, T.mono nw.f q2.tm.2.2 |> fun z => ⟨.adr q, z⟩⟩⟩ fun z H3 s3 => ?_
  obtain ⟨F3, M3, q4⟩ := s3
  have fz := q4.tm.1
  cases fz
  obtain ⟨vs, fv, hq⟩ := q4.rs.ownT hl q4.exM
  have hkt : H3 p = some (.tup ((kf k).map kV)) := q4.exF _ _ (q4.tm.2.1 _ _ upd_same)
  have ed : (dE kf enc m).filter (fun kv => decide (kv.1 ≠ kf k)) = dE kf enc (adel m k) := by
    show (m.map _).filter _ = (m.filter _).map _
    rw [List.filter_map]
    congr 1
    apply List.filter_congr
    intro kv _
    show decide (kf kv.1 ≠ kf k) = decide (kv.1 ≠ k)
    by_cases e : kv.1 = k
    · rw [e]; simp
    · have : kf kv.1 ≠ kf k := fun z => e (inj _ _ z)
      simp [e, this]
  have q5 := q4.tmp (T' := T) q4.tm.2.2.2
  unfold L2.DX.rPopT
  refine ⟨q, vs, kf k, p, .non, rfl, rfl, hq, hkt, fun v hv => ?_, fun hv => ?_⟩
  · obtain ⟨M', q6⟩ := q5.putOne (r' := ownT X.K q (dE kf enc (adel m k))) (o' := .dT (L2.dropK vs (kf k))) hl (fun A ⟨_, _, e⟩ => ⟨_, e⟩) ⟨_, by rw [← ed]; exact fv.delK, rfl⟩
    exact h _ rfl en T σ _ D ⟨F3, M', q6⟩ mt
  · have z := h _ rfl en T σ H3 D ?_ mt
    · exact z
    · rw [← ed, fv.noval hv, set_at hl]
      exact ⟨F3, M3, q5⟩)
end
end Sx
set_option Elab.async false
set_option linter.all false
set_option maxRecDepth 100000
set_option maxHeartbeats 4000000
/-! More rules for the walker. -/
namespace Sx
open PySem L2 PyProof.Rows
section
variable {K : PySem.W.Frag} {l : List Res} {k : Nat} {p : Addr}
end
/-! tuple keys asked: (..) in d -/
section
variable {X : Cx} {W : WX} {g : Gm} {l : List Res} {e o : Expr} {d1 : D} {pos : Pos} {κ β : Type} [DecidableEq κ] {kf : κ → Key}
/-- a walk's list, while a dict is locked -/
theorem itP_to {lk : List Res} {tg iter : Expr} {ds ds' : List D} (h : ItwP X tg iter g l lk ds) (q : ds = ds') : ItwP X tg iter g l lk ds' := q ▸ h
theorem keysT_map {κ β α : Type} {kf : κ → List Key} {enc : β → D} {e : κ → D} {m : List (κ × β)} (he : ∀ k, e k = .tup ((kf k).map kD)) : ((dE kf enc m).map fun kv => D.tup (kv.1.map kD)) = (m.map (·.1)).map e := by
  rw [List.map_map, List.map_map]
  exact List.map_congr_left fun kv _ => (he kv.1).symm
end
section
variable {X : Cx} {g : Gm} {l : List Res} {e : Expr} {pos p : Pos}
end
theorem xr_ex {β ε : Type} {K : PySem.W.Frag} {own : List Res} {RT : β → Re} {xc : ε → Xd} {r : Except ε β} {cls : Value} {dd : Option Addr} {g g' : Gm} {l : List Res} (hR : ∀ v c d g l, (RT v).ex c d g l → False) (h : (XR K own RT xc r).ex cls dd g l) : (XR K own RT xc r).ex cls dd g' l := by
  cases r with
  | ok v => exact (hR v _ _ _ _ h).elim
  | error e => exact h
/-- nothing owned is changed: an expression like any other -/
theorem ev_still {X : Cx} {g : Gm} {l own0 : List Res} {e : Expr} {d : D} {Psi : D → List Res → Prop} (h : Ev X e g l Psi) (hp : ∀ d' l', Psi d' l' → d' = d ∧ l' = own0) (q : l.Perm own0) : Px X e g l d := fun en T σ H Q s k => h en T σ H Q s fun v d' l' H' z s' => by
  obtain ⟨h1, h2⟩ := hp d' l' z
  subst h1; subst h2
  exact k v H' (s'.perm q.symm)
end Sx
set_option Elab.async false
set_option linter.all false
set_option maxRecDepth 100000
set_option maxHeartbeats 2000000
/-! Owned dicts of owned lists. -/
namespace Sx
open PySem L2
/-- a dict and its lists, written out -/
abbrev dlRs (K : PySem.W.Frag) (p : Addr) (ts : List (Key × Addr × List D)) : List Res := ownD K p (ts.map fun t => (t.1, D.adr t.2.1)) :: ts.map fun t => ownL K t.2.1 t.2.2
abbrev dlK (ts : List (Key × Addr × List D)) : List (Key × List D) := ts.map fun t => (t.1, t.2.2)
def ownDL (K : PySem.W.Frag) (p : Addr) (kvs : List (Key × List D)) : Res := ⟨fun F M => ∃ ts, dlK ts = kvs ∧ Rs (dlRs K p ts) F M, fun e ⟨ts, h, r⟩ => ⟨ts, h, Rs.mono e r⟩, fun ⟨_, _, r⟩ => Rs.nt r⟩
section
variable {X : Cx} {W : WX} {g : Gm} {l : List Res} {Φ : Po} {sts rest : List Stmt} {p q : Addr} {o e x : Expr} {d : D} {pos p2 : Pos}
end
/-! told by the model: a list more at its key -/
def alapp {κ α : Type} [DecidableEq κ] : List (κ × List α) → κ → α → List (κ × List α)
  | [], k, v => [(k, [v])]
  | (k', ds) :: m, k, v => if k' = k then (k', ds ++ [v]) :: m else (k', ds) :: alapp m k v
abbrev dlE {κ α : Type} (kf : κ → Key) (enc : α → D) (m : List (κ × List α)) : List (Key × List D) := m.map fun kv => (kf kv.1, kv.2.map enc)
abbrev dlA (ts : List (Key × Addr × List D)) : List (Key × D) := ts.map fun t => (t.1, D.adr t.2.1)
section
variable {X : Cx} {W : WX} {g : Gm} {l : List Res} {rest : List Stmt} {q : Addr} {o e x : Expr} {pos p2 : Pos} {S1 : Type} {Om : S1 → Po}
end
/-! a dict of lists is frozen; an empty one -/
section
variable {X : Cx} {W : WX} {g : Gm} {l : List Res} {Φ : Po} {sts rest : List Stmt} {p q : Addr} {pos : Pos} {S1 : Type} {Om : S1 → Po}
end
/-! sorted(d), whole numbers as keys -/
section
variable {X : Cx} {g : Gm} {l : List Res} {d : D} {p pos : Pos}
end
theorem key_of {κ β : Type} [DecidableEq κ] {m : List (κ × β)} {k : κ} (h : k ∈ m.map (·.1)) : (aget m k).isSome = true := by
  cases q : aget m k with
  | none => exact absurd h (aget_none.mp q)
  | some v => rfl
theorem sortK_len {α : Type} {key : α → List Key} {l : List α} : (sortK key l).length = l.length := (isort_perm l).length_eq
/-! what is scalar, got with an owned dict of lists taken for frozen -/
section
variable {X : Cx} {g : Gm} {l : List Res} {e : Expr} {d : D} {q : Addr}
end
/-! try: .. except C: return a bool -/
section
variable {X : Cx} {W : WX} {g : Gm} {l : List Res} {Φ : Po} {body rest : List Stmt} {x : Str} {C : Addr} {vb : Bool} {jk : Nat} {p0 p1 p2 p3 pos : Pos}
end
def tryR {Rr ε Ll Ss : Type} (tb : Cf (Except ε Rr) Ll Ss) (r : Rr) : Cf Rr Ll Ss := match tb with
  | .nx s => .nx s | .rt (.ok v) => .rt v | .rt (.error _) => .rt r | .bk s => .bk s | .ct s => .ct s
section
variable {X : Cx} {W : WX} {g : Gm} {l : List Res} {body rest : List Stmt} {x : Str} {C : Addr} {vb : Bool} {jk : Nat} {p0 p1 p2 p3 pos : Pos} {Rr ε S1 : Type} {RT : Rr → Re} {xc : ε → Xd}
end
/-! x.extend(e), e frozen -/
section
variable {X : Cx} {W : WX} {g : Gm} {l : List Res} {Φ : Po} {rest : List Stmt} {p : Addr} {o e : Expr} {pos : Pos} {S1 : Type} {Om : S1 → Po}
end
end Sx
set_option Elab.async false
set_option linter.all false
set_option maxRecDepth 100000
set_option maxHeartbeats 2000000
/-! min(xs, default=d), whole numbers. -/
namespace Sx
open PySem L2
def minDf (ns : List Int) (d : Int) : Int := match ns with | [] => d | n :: r => r.foldl min n
section
variable {X : Cx} {g : Gm} {l : List Res} {d : D} {p pos : Pos}
def rMinDf (K : PySem.W.Frag) : List V → List V → Hp → VK → Prop := fun vs zs H Q => ∃ (a : Addr) (ns : List Int) (d : Int), vs = [V.ref a] ∧ zs = [.int d] ∧ SqL K H a (ns.map V.int) ∧ Q (.int (minDf ns d)) H
end
end Sx
set_option Elab.async false
set_option linter.all false
set_option maxRecDepth 100000
set_option maxHeartbeats 2000000
/-! Owned lists of owned lists; orders of pairs; keys that are tuples. -/
namespace Sx
open PySem L2
/-! ### pairs of whole numbers in order -/
def leII (a b : Int × Int) : Bool := decide (a.1 < b.1) || (decide (a.1 = b.1) && decide (a.2 ≤ b.2))
def rGeT (K : PySem.W.Frag) : R2 := fun x y H Q => ∃ (a b : Addr) (ns ms : List Int), x = .ref a ∧ y = .ref b ∧ SqT K H a (ns.map V.int) ∧ SqT K H b (ms.map V.int) ∧
  Q (.bl (Ob.lexAt (fun j => decide (ns.getD j 0 = ms.getD j 0)) (fun j => decide (ms.getD j 0 ≤ ns.getD j 0)) (decide (ns.length ≥ ms.length)) 0 (min ns.length ms.length))) H
section
variable {X : Cx}
open PyProof.Rows in
end
section
variable {K : PySem.W.Frag} {l : List Res}
end
/-! ### (a, b) in d -/
section
variable {X : Cx} {g : Gm} {l : List Res} {o : Expr} {es : List Expr} {d1 : D} {ds : List D} {pos kp : Pos} {x1 : Nat}
def Tm.at (T : Tm) (p : Addr) (o : HO) : Tm := ⟨fun F => F p = some o ∧ T.P F, fun e h => ⟨e _ _ h.1, T.mono e h.2⟩⟩
end
section
variable {X : Cx} {g : Gm} {l : List Res} {o : Expr} {es : List Expr} {d1 : D} {ds : List D} {pos kp : Pos} {x1 : Nat} {κ β : Type} [DecidableEq κ] {kf : κ → List Key} {m : List (κ × β)} {k : κ}
end
/-! ### lists of lists -/
abbrev llRs (K : PySem.W.Frag) (p : Addr) (ts : List (Addr × List D)) : List Res := ownL K p (ts.map fun t => D.adr t.1) :: ts.map fun t => ownL K t.1 t.2
def ownLL (K : PySem.W.Frag) (p : Addr) (dss : List (List D)) : Res := ⟨fun F M => ∃ ts : List (Addr × List D), ts.map (·.2) = dss ∧ Rs (llRs K p ts) F M, fun e ⟨ts, h, r⟩ => ⟨ts, h, Rs.mono e r⟩, fun ⟨_, _, r⟩ => Rs.nt r⟩
section
variable {X : Cx} {W : WX} {g : Gm} {l : List Res} {Φ : Po} {sts rest : List Stmt} {p q : Addr} {o e x : Expr} {d : D} {pos p2 : Pos}
theorem Px.frs {k : List Res} (h : Px X e g l d) : Px X e g (k ++ l) d := by
  induction k with
  | nil => exact h
  | cons r k ih => exact ih.fr
end
section
variable {X : Cx} {W : WX} {g : Gm} {l : List Res} {rest sts : List Stmt} {q : Addr} {o e x : Expr} {pos p2 : Pos} {S1 : Type} {Om : S1 → Po} {α : Type} {enc : α → D} {m : List (List α)}
abbrev llE (enc : α → D) (m : List (List α)) : List (List D) := m.map fun xs => xs.map enc
end
/-! [[] for x in xs] -/
section
variable {X : Cx} {W : WX} {g g' : Gm} {l l' : List Res} {pos p2 : Pos} {rest : List Stmt}
variable {S1 : Type} {Om : S1 → Po} {α β : Type}
end
/-! a dict with tuples as keys is frozen -/
section
variable {X : Cx} {W : WX} {g : Gm} {l : List Res} {Φ : Po} {S1 : Type}
end
/-! a target that takes a list apart -/
end Sx
set_option Elab.async false
set_option linter.all false
set_option maxRecDepth 100000
set_option maxHeartbeats 2000000
/-! max(xs, default=d), whole numbers; xs.index(v). -/
namespace Sx
open PySem L2
def maxDf (ns : List Int) (d : Int) : Int := match ns with | [] => d | n :: r => r.foldl max n
section
variable {X : Cx} {g : Gm} {l : List Res} {d : D} {p pos : Pos}
def rMaxDf (K : PySem.W.Frag) : List V → List V → Hp → VK → Prop := fun vs zs H Q => ∃ (a : Addr) (ns : List Int) (d : Int), vs = [V.ref a] ∧ zs = [.int d] ∧ SqL K H a (ns.map V.int) ∧ Q (.int (maxDf ns d)) H
end
/-! xs.index(v) -/
def idxI (v : Int) : List Int → Nat
  | [] => 0
  | x :: xs => if x = v then 0 else idxI v xs + 1
section
variable {X : Cx} {g : Gm} {l : List Res} {d : D} {o e : Expr} {apos pos : Pos}
end
/-! k not in d, as a value -/
section
variable {X : Cx} {g : Gm} {l : List Res} {e o : Expr} {d1 d2 : D} {pos : Pos}
variable {κ β : Type} [DecidableEq κ] {m : List (κ × β)} {k : κ} {kf : κ → Key}
end
/-! ### a call one of whose arguments makes something owned -/
def PaX (X : Cx) (es : List Expr) (g : Gm) (l : List Res) (Psi : List D → List Res → Prop) : Prop := ∀ en T σ H (Q : List V → Hp → Prop), S X.K en g T l σ H → (∀ vs ds l' H', Psi ds l' → S X.K en g (T.ands X.K vs ds) l' σ H' → Q vs H') → wpA X es σ H Q
section
variable {X : Cx} {g : Gm} {l : List Res} {e : Expr} {es : List Expr} {d : D} {ds : List D} {pos p : Pos} {Psi : D → List Res → Prop} {Chi Chi2 : List D → List Res → Prop}
theorem PaX.imp (h : PaX X es g l Chi) (i : ∀ ds l', Chi ds l' → Chi2 ds l') : PaX X es g l Chi2 := fun en T σ H Q s k => h en T σ H Q s fun vs ds l' H' p s' => k vs ds l' H' (i _ _ p) s'
variable {α β ι ι' : Type} {ok : α → Prop} {args : α → List D} {own : α → List Res} {dd : α → ι → β → D} {ll : α → ι → β → List Res} {y : Str} {ps : List Str} {k j : Nat}
/-- what else is owned then is forgotten -/
theorem evl_junk (h : Ev X e g l (fun d l' => ∃ (p : Addr) (junk : List Res), d = .adr p ∧ l' = ownL X.K p ds :: (junk ++ l))) : EvL X e g l ds := fun en T σ H Q s k => h en T σ H Q s fun v d l' H' ⟨p, junk, e1, e2⟩ s' => by
  subst e1; subst e2
  exact k v _ _ H' ⟨p, rfl, rfl⟩ (S.dropO (l' := junk) (s'.perm (List.perm_middle (l₁ := junk) (l₂ := l) (a := ownL X.K p ds)).symm))
end
end Sx
set_option Elab.async false
set_option linter.all false
set_option maxRecDepth 100000
set_option maxHeartbeats 2000000
/-! sorted(set(..)) of whole numbers; tests that change what is owned; or by truth; + of tuples. -/
namespace Sx
open PySem L2
/-! ### sorted(set(xs)) -/
def ddI : List Int → List Int
  | [] => []
  | x :: r => if x ∈ ddI r then ddI r else x :: ddI r
def setI (l : List Int) : List Int := sortI (ddI l)
section
variable {X : Cx}
open PyProof.Rows in
def rSetI (K : PySem.W.Frag) (w : World) : List V → Hp → VK → Prop := fun xs H Q => ∃ (p : Addr) (ns : List Int), xs = [.ref p] ∧ SqT K H p (ns.map V.int) ∧ ns.length ≤ 1000 ∧ ∀ a c, H a = none → c ≤ ns.length → Q (.ref a) (L2.upd H a (SetO w a (fun j => decide (j ∈ ns)) c))
open PyProof.Rows in
variable {g : Gm} {l : List Res} {d : D} {p pos p2 pos2 : Pos}
/-! ### + of tuples -/
/-! ### x or y by truth -/
/-- how a datum is by truth -/
def TrD (K : PySem.W.Frag) (d : D) (k : Bool) : Prop := ∀ F H v, Ex F H → Fd K F v d → TruV K v H k
/-! ### enumerate of an owned list -/
/-! ### len of a dict with tuple keys -/
/-! ### tests that change what is owned -/
variable {W : L2.WX} {α ι β Rr Ll Ss : Type}
/-- the test c tells b, what is owned is ll j then -/
def TsE (X : Cx) (e : Expr) (g : Gm) (l : List Res) (b : Bool) (ll : ι → List Res) : Prop := ∀ en T σ H (Q : Bool → Hp → Prop), S X.K en g T l σ H → (∀ j H', S X.K en g T (ll j) σ H' → Q b H') → wpT X e σ H Q
theorem blk_ifX {c : Expr} {A B rest : List Stmt} {pos : Pos} {Φ : Po} {b : Bool} {ll : ι → List Res} (hc : TsE X c g l b ll) (h1 : ∀ j, b = true → Blk X W A g (ll j) { Φ with nx := fun g' l' => Blk X W rest g' l' Φ }) (h2 : ∀ j, b = false → Blk X W B g (ll j) { Φ with nx := fun g' l' => Blk X W rest g' l' Φ }) : Blk X W (.If c A B pos :: rest) g l Φ := fun en T σ H D s m =>
  wpS_of (pss_cons (ps_if pt_wp pss_wp pss_wp) pss_wp) (by
    refine hc en T σ H _ s fun j H1 s1 => ?_
    have mm : Mt X.K W en T { Φ with nx := fun g' l' => Blk X W rest g' l' Φ } { D with nx := wpS X rest D } := m.seq fun g' l' σ' H' p s' => p en T σ' H' D s' m
    cases b with
    | true => exact h1 j rfl en T σ H1 _ s1 mm
    | false => exact h2 j rfl en T σ H1 _ s1 mm)
theorem bo_ifOX {c : Expr} {A rest : List Stmt} {pos : Pos} {RT : Rr → Re} {GL : Ll → Gm} {RL : Ll → List Res} {NX : Ss → Gm → List Res → Prop} {bv : α → Bool} {s0 : α} {o1 o2 : α → Cf Rr Ll Ss} {ll : ι → α → List Res} (hc : TsE X c g l (bv s0) (fun j => ll j s0)) (h1 : ∀ j s, s = s0 → bv s = true → Bo X W A g (ll j s) (Ou RT GL RL NoNx) (o1 s)) (h2 : ∀ j s, s = s0 → bv s = false → Bo X W rest g (ll j s) (Ou RT GL RL NX) (o2 s)) : Bo X W (.If c A [] pos :: rest) g l (Ou RT GL RL NX) (lt s0 fun s => cond (bv s) (o1 s) (o2 s)) := by
  show Bo X W _ g l (Ou RT GL RL NX) (cond (bv s0) (o1 s0) (o2 s0))
  refine blk_ifX hc (fun j e => ?_) fun j e => ?_
  · rw [e]
    have h1 := h1 j _ rfl e
    unfold Bo at h1
    show Blk X W A g (ll j s0) { Ou RT GL RL NX (o1 s0) with nx := _ }
    revert h1
    cases o1 s0 with
    | nx s => exact fun h1 => h1.imp (fun _ _ h => h.elim) (fun _ _ h => h.elim) (fun _ _ h => h.elim) (fun _ _ h => h.elim) (fun _ _ _ _ h => h.elim)
    | rt s => exact fun h1 => h1.imp (fun _ _ h => h.elim) (fun _ _ h => h) (fun _ _ h => h.elim) (fun _ _ h => h.elim) (fun _ _ _ _ h => h)
    | bk s => exact fun h1 => h1.imp (fun _ _ h => h.elim) (fun _ _ h => h.elim) (fun _ _ h => h) (fun _ _ h => h.elim) (fun _ _ _ _ h => h.elim)
    | ct s => exact fun h1 => h1.imp (fun _ _ h => h.elim) (fun _ _ h => h.elim) (fun _ _ h => h.elim) (fun _ _ h => h) (fun _ _ _ _ h => h.elim)
  · rw [e]
    have := h2 j _ rfl e
    exact blk_nil this
/-- xs.append(..), the list not read behind it -/
theorem bo_appJ {o e : Expr} {rest : List Stmt} {kk : Nat} {q : Addr} {apos cpos pos : Pos} {ds : List D} {d : D} {Om : β → Po} {m : β} (ho : Px X o g l (.adr q)) (hk : l[kk]? = some (ownL X.K q ds)) (he : Px X e g l d) (hz : ds.length < 10000) (h : Bo X W rest g (l.eraseIdx kk) Om m)
    (hp : PS X (.Expr (.Call (.Attribute o "append" apos) [e] [] cpos) pos) (tDrop (tBM X.K "list" rAppend (wpE X o) (tCons (wpE X e) tNil))) := by exact ps_expr (pe_bm PySem.F.plainAttrs_list PySem.F.slot_list_append PySem.F.type_list_append mt_append pe_wp (pa_cons pe_wp pa_nil))) :
    Bo X W (.Expr (.Call (.Attribute o "append" apos) [e] [] cpos) pos :: rest) g l Om m := by
  refine blk_app ho he hk (Nat.lt_of_lt_of_le hz (by decide)) ?_ hp
  have hlt := (List.getElem?_eq_some_iff.mp hk).1
  refine Blk.perm (l' := [ownL X.K q (ds ++ [d])] ++ l.eraseIdx kk) ?_ (Blk.dropO h)
  have := perm_at (l := l.set kk (ownL X.K q (ds ++ [d]))) (k := kk) (r := ownL X.K q (ds ++ [d])) (by rw [List.getElem?_set_self hlt])
  rw [List.eraseIdx_set_eq] at this
  exact this
end
end Sx
set_option Elab.async false
set_option linter.all false
set_option maxRecDepth 100000
set_option maxHeartbeats 2000000
/-! Owned dicts, keys tuples, of owned lists. -/
namespace Sx
open PySem L2
section
variable {X : Cx}
/-- d.setdefault(t, x), t a tuple -/
def rSetdT : V → List V → Hp → VK → Prop := fun x xs H Q => ∃ (a : Addr) (kvs : List (List Key × V)) (k : List Key) (b : Addr) (d : V), x = .ref a ∧ xs = [.ref b, d] ∧ H a = some (.dT kvs) ∧ H b = some (.tup (k.map kV)) ∧ kvs.length < sizeLine ∧
  (∀ v, valV kvs k = some v → Q v H) ∧ (valV kvs k = none → Q d (L2.upd H a (.dT (L2.putK kvs k d))))
end
/-- a dict and its lists, written out -/
abbrev tlRs (K : PySem.W.Frag) (p : Addr) (ts : List (List Key × Addr × List D)) : List Res := ownT K p (ts.map fun t => (t.1, D.adr t.2.1)) :: ts.map fun t => ownL K t.2.1 t.2.2
abbrev tlK (ts : List (List Key × Addr × List D)) : List (List Key × List D) := ts.map fun t => (t.1, t.2.2)
def ownTL (K : PySem.W.Frag) (p : Addr) (kvs : List (List Key × List D)) : Res := ⟨fun F M => ∃ ts, tlK ts = kvs ∧ Rs (tlRs K p ts) F M, fun e ⟨ts, h, r⟩ => ⟨ts, h, Rs.mono e r⟩, fun ⟨_, _, r⟩ => Rs.nt r⟩
section
variable {X : Cx} {W : WX} {g : Gm} {l : List Res} {Φ : Po} {sts rest : List Stmt} {p q : Addr} {o e x : Expr} {d : D} {pos p2 : Pos}
end
abbrev tlE' {κ α : Type} (kf : κ → List Key) (enc : α → D) (m : List (κ × List α)) : List (List Key × List D) := m.map fun kv => (kf kv.1, kv.2.map enc)
abbrev tlA (ts : List (List Key × Addr × List D)) : List (List Key × D) := ts.map fun t => (t.1, D.adr t.2.1)
section
variable {X : Cx} {W : WX} {g : Gm} {l : List Res} {rest : List Stmt} {q : Addr} {o e x : Expr} {pos p2 : Pos} {S1 : Type} {Om : S1 → Po}
end
/-! a dict of lists is frozen; an empty one -/
section
variable {X : Cx} {W : WX} {g : Gm} {l : List Res} {Φ : Po} {sts rest : List Stmt} {p q : Addr} {pos : Pos} {S1 : Type} {Om : S1 → Po}
end
/-! ### sorted(d) of a dict with tuple keys -/
def rSortDT (sh : Nat → Bool) : List V → Hp → VK → Prop := fun vs H Q => ∃ (d : Addr) (kvs : List (List Key × V)), vs = [V.ref d] ∧ Rd H d (.dT kvs) ∧ (∀ kv ∈ kvs, shOk sh 0 kv.1 = true ∧ kv.1 ≠ []) ∧
  ∀ (zs' : List (Addr × List Key)) (p : Addr), (zs'.map (·.2)).Perm (kvs.map (·.1)) → (∀ z ∈ zs', H z.1 = some (.tup (z.2.map kV))) → zs'.Pairwise (fun x y => bltK y.2 x.2 = false) → H p = none → Q (.ref p) (L2.upd H p (.lst (zs'.map fun z => V.ref z.1)))
section
variable {X : Cx}
open PyProof.Rows in
end
/-! told with what is frozen -/
section
variable {X : Cx} {g : Gm} {l : List Res} {d : D} {p pos : Pos}
end
/-! ### d[k], k a tuple by name -/
def rIxDT (K : PySem.W.Frag) : R2 := fun x y H Q => ∃ (a b : Addr) (kvs : List (List Key × V)) (k : List Key) (v : V), x = .ref a ∧ y = .ref b ∧ Rd H a (.dT kvs) ∧ SqT K H b (k.map kV) ∧ valV kvs k = some v ∧ Q v H
section
variable {X : Cx}
open PyProof.Rows in
theorem ix_dT (hu : X.A.units + 1 < cLine) : IxR X (rIxDT X.K) := by
  intro value slice pins s σ H x y v u Q I rx ry h hs
  obtain ⟨a, b, kvs, k, z, rfl, rfl, hd, hq, hv, q⟩ := h
  obtain rfl : v = Value.ref a := rx
  obtain rfl : u = Value.ref b := ry
  obtain ⟨_, hsy, xs, rel, dd⟩ := dt_rd I.hok hd
  obtain ⟨its, r, ⟨o, h1, h2, n, h3⟩, _⟩ := I.tuple hq
  have hk : (tupleKind (mixKind X.prog X.w)).is s.heap k b := ⟨o, its.toArray, n, h1, h2, h3, by simpa using items_are r⟩
  obtain ⟨w', hw, rw'⟩ := RelO.some_of (v := z) (o := (atKey xs k).map (·.2)) (by rw [← hv]; exact rel.val k)
  obtain ⟨p, hp, hp2⟩ := Option.map_eq_some_iff.mp hw
  refine tail_any dd.typeIs slot_dict_getitem.lookup (wpAny_getItem_heap (tupleKind_room_in1 hu) hk dd hp ?_) hs
  rw [hp2]
  exact ⟨z, H, I.tok _, rw', q⟩
variable {g : Gm} {l : List Res} {d1 d2 : D} {o e : Expr} {pos : Pos}
theorem o_ixDT {kvs : List (List Key × D)} {k : List Key} {d : D} (hd : Dw X.K l d1 kvs) (hv : valD kvs k = some d) : Op2 X.K l (rIxDT X.K) d1 (.tup (k.map kD)) d := fun F M H v u Q eF eM dj rs f1 f2 kk => by
  obtain ⟨a, vs, rfl, rd, fs⟩ := hd.get eF eM rs f1
  obtain ⟨t, rfl, st⟩ := fd_tupK f2
  obtain ⟨w, h1, h2⟩ := fs.valV hv
  exact ⟨a, t, vs, k, w, rfl, rfl, rd, ex_t eF st, h1, kk w F H (.rf eF) h2⟩
theorem px_tgetV {κ β : Type} [DecidableEq κ] {kf : κ → List Key} {m : List (κ × β)} {k : κ} (inj : ∀ a b, kf a = kf b → a = b) (enc : β → D) {x0 : β} (hu : X.A.units + 64 < cLine) (ho : Px X o g l d1) (hd : Dw X.K l d1 (dE kf enc m)) (hi : Px X e g l (.tup ((kf k).map kD))) (hv : (aget m k).isSome = true) (hs : PlainIx e := by intro _ _; rfl) : Px X (.Subscript o e pos) g l (enc ((aget m k).getD x0)) :=
  px_ix (ix_dT (Px.units hu)) ho hi (o_ixDT hd (by
    rw [val_aget inj]
    cases h : aget m k with
    | none => rw [h] at hv; cases hv
    | some v => rfl)) hs
end
/-! == of lists of two unlike things -/
theorem lst_py {ds : List D} {p : PyData} (h : (D.lst ds).py = some p) : ∃ ps, D.pys ds = some ps ∧ p = .list ps := by
  unfold D.py at h
  obtain ⟨ps, h1, rfl⟩ := Option.map_eq_some_iff.mp h
  exact ⟨ps, h1, rfl⟩
section
variable {α β : Type} [DecidableEq α] [DecidableEq β] {k : Nat} {ok : α → Prop} {ok2 : β → Prop} {enc : α → D} {enc2 : β → D}
end
end Sx
set_option Elab.async false
set_option linter.all false
set_option maxRecDepth 100000
set_option maxHeartbeats 2000000
/-! Things of any kind: the datum itself is the model's value. -/
namespace Sx
open PySem L2
/-- the built-in classes that isinstance asks for -/
inductive AK where
  | int | bool | str | list | tuple
def AK.name : AK → String
  | .int => "int" | .bool => "bool" | .str => "str" | .list => "list" | .tuple => "tuple"
def D.is : D → AK → Bool
  | .int _, .int => true | .bl _, .int => true | .bl _, .bool => true | .str _, .str => true | .lst _, .list => true | .tup _, .tuple => true | _, _ => false
/-- == of Python -/
def D.eq (a b : D) : Bool := match a.py, b.py with
  | some p, some q => PyData.eqv p q
  | _, _ => false
def D.inn (x : D) (ds : List D) : Bool := ds.any fun z => D.eq z x
def D.els : D → List D
  | .lst ds => ds | .tup ds => ds | _ => []
def D.seq : D → Bool
  | .lst _ => true | .tup _ => true | _ => false
def D.ix (d : D) (i : Nat) : D := d.els.getD i .non
def D.toI : D → Int
  | .int i => i | _ => 0
def D.toS : D → Str
  | .str x => x | _ => ""
def D.toB : D → Bool
  | .bl b => b | _ => false
def D.isI : D → Bool
  | .int _ => true | _ => false
def D.isS : D → Bool
  | .str _ => true | _ => false
/-- plain, at most twenty deep -/
abbrev Any (d : D) : Prop := Dp' 20 d
theorem Dp'.els {k : Nat} {d : D} (h : Dp' k d) : ∀ x ∈ d.els, Dp' k x := fun x hx => by
  have key : ∀ (ds : List D) (ps : List PyData), D.pys ds = some ps → PyData.canLayAll0 ps = true → PyData.depthAll ps ≤ k → x ∈ ds → Dp' k x := by
    intro ds
    induction ds with
    | nil => intro ps _ _ _ h; cases h
    | cons d ds ih =>
      intro ps h1 h2 h3 h4
      obtain ⟨a, b, e1, e2, rfl⟩ := pys_cons h1
      have h2 : (PyData.canLay0 a && PyData.canLayAll0 b) = true := h2
      have h3 : max (PyData.depth a) (PyData.depthAll b) ≤ k := h3
      obtain ⟨h5, h6⟩ := Bool.and_eq_true_iff.mp h2
      rcases List.mem_cons.mp h4 with z | z
      · subst z; exact ⟨a, e1, h5, Nat.le_trans (Nat.le_max_left _ _) h3⟩
      · exact ih b e2 h6 (Nat.le_trans (Nat.le_max_right _ _) h3) z
  obtain ⟨p, h1, h2, h3⟩ := h
  cases d with
  | lst ds =>
    obtain ⟨ps, h4, rfl⟩ := lst_py h1
    exact key ds ps h4 h2 (Nat.le_trans (Nat.le_succ _) h3) hx
  | tup ds =>
    unfold D.py at h1
    obtain ⟨ps, h4, rfl⟩ := Option.map_eq_some_iff.mp h1
    exact key ds ps h4 h2 (Nat.le_trans (Nat.le_succ _) h3) hx
  | _ => cases hx
theorem Any.py {d : D} (h : Any d) : ∃ p, d.py = some p ∧ SeqAt.shaped p = true := by
  obtain ⟨p, h1, h2, h3⟩ := h
  exact ⟨p, h1, shaped_of h2 h3 (by decide)⟩
theorem kit_non : ∀ k : AK, kitB "NoneType" k.name = some (D.is .non k) := fun k => by cases k <;> decide +kernel
theorem kit_bl : ∀ k : AK, kitB "bool" k.name = some (D.is (.bl true) k) := fun k => by cases k <;> decide +kernel
theorem kit_int : ∀ k : AK, kitB "int" k.name = some (D.is (.int 0) k) := fun k => by cases k <;> decide +kernel
theorem kit_str : ∀ k : AK, kitB "str" k.name = some (D.is (.str "") k) := fun k => by cases k <;> decide +kernel
theorem kit_lst : ∀ k : AK, kitB "list" k.name = some (D.is (.lst []) k) := fun k => by cases k <;> decide +kernel
theorem kit_tup : ∀ k : AK, kitB "tuple" k.name = some (D.is (.tup []) k) := fun k => by cases k <;> decide +kernel
theorem Any.tyv {d : D} (h : Any d) (k : AK) : ∃ t, d.tyv = some t ∧ kitB t k.name = some (d.is k) := by
  obtain ⟨p, h1, _⟩ := h
  cases d with
  | non => exact ⟨_, rfl, by cases k <;> exact kit_non _⟩
  | bl b => exact ⟨_, rfl, by cases k <;> exact kit_bl _⟩
  | int i => exact ⟨_, rfl, by cases k <;> exact kit_int _⟩
  | str x => exact ⟨_, rfl, by cases k <;> exact kit_str _⟩
  | lst ds => exact ⟨_, rfl, by cases k <;> exact kit_lst _⟩
  | tup ds => exact ⟨_, rfl, by cases k <;> exact kit_tup _⟩
  | adr a => cases h1
  | ty n => cases h1
  | ins C fs => cases h1
  | scr ds => cases h1
  | dK kvs => cases h1
  | dT kvs => cases h1
  | exc C fs => cases h1
  | kt k => cases h1
theorem D.eq_refl {d : D} (h : Any d) : D.eq d d = true := by
  obtain ⟨p, h1, h2, h3⟩ := h
  unfold D.eq
  rw [h1]
  exact PySem.SeqAt.eqv_refl p h2
theorem D.eq_py {a b : D} {p q : PyData} (h1 : a.py = some p) (h2 : b.py = some q) : D.eq a b = PyData.eqv p q := by unfold D.eq; rw [h1, h2]
theorem EqS.D {α : Type} [DecidableEq α] {k : Nat} {ok : α → Prop} {enc : α → Sx.D} (E : EqS k ok enc) {x y : α} (hx : ok x) (hy : ok y) : D.eq (enc x) (enc y) = decide (x = y) := by
  obtain ⟨p, h1, _⟩ := E.ex x hx
  obtain ⟨q, h2, _⟩ := E.ex y hy
  rw [D.eq_py h1 h2, E.eq x y p q h1 h2]
theorem EqS.any {α : Type} [DecidableEq α] {k : Nat} {ok : α → Prop} {enc : α → Sx.D} (E : EqS k ok enc) {x : α} (hx : ok x) (hk : k ≤ 20 := by decide) : Any (enc x) := Dp'.mono (E.ex x hx) hk
section
variable {K : PySem.W.Frag} {l : List Res} {d d1 d2 : D} {ds xs ys : List D}
theorem o_neAny (h1 : Any d1) (h2 : Any d2) : Op2 K l (rNeD K) d1 d2 (.bl (!D.eq d1 d2)) := by
  obtain ⟨p, h3, h4⟩ := h1.py
  obtain ⟨q, h5, h6⟩ := h2.py
  rw [D.eq_py h3 h5]
  exact o_neD h3 h5 h4 h6
end
section
variable {X : Cx} {W : WX} {g g' : Gm} {l l' : List Res} {e e2 c a b o : Expr} {d d1 d2 : D} {pos p p2 : Pos} {ds : List D} {x : Str}
/-! xs.count(v) -/
end
end Sx
set_option Elab.async false
set_option linter.all false
set_option maxRecDepth 100000
set_option maxHeartbeats 2000000
/-! Tuples that are keys, by name: a datum of their own (the tuple is a new object, not one of the module's). -/
namespace Sx
open PySem L2 PyProof.Rows
section
variable {X : Cx} {W : WX} {g g' : Gm} {l l' : List Res} {Φ : Po} {e e2 a b c o v x : Expr} {es : List Expr} {d d1 d2 d3 : D} {pos p p2 apos kp : Pos} {rest : List Stmt} {x1 : Nat} {ds : List D} {k : List Key} {kvs : List (List Key × D)}
end
section
variable {S1 : Type} {Om : S1 → Po} {X : Cx} {W : WX} {g : Gm} {l : List Res} {e o v x : Expr} {es : List Expr} {d1 : D} {pos p2 apos kp : Pos} {x1 : Nat} {rest : List Stmt} {κ β : Type} [DecidableEq κ] {kf : κ → List Key} {m : List (κ × β)} {k : κ} {kk : List (κ × β) → S1}
/-- set where it is not there -/
def asetd {κ β : Type} [DecidableEq κ] (m : List (κ × β)) (k : κ) (v : β) : List (κ × β) := cond (aget m k).isSome m (aput m k v)
end
section
variable {X : Cx} {e : Expr} {g : Gm} {l : List Res} {pos : Pos}
end
end Sx
set_option Elab.async false
set_option linter.all false
set_option maxRecDepth 100000
set_option maxHeartbeats 4000000
set_option pp.maxSteps 400
/-! zip of three lists. -/
namespace Sx
open PySem PySem.Spec PyProof.Rows L2
open Sem (wp)
abbrev Tri (h : Heap) (T : Addr) (a b c : Value) : Prop := h.get? T = some { cls := .type "tuple", data := .seq #[a, b, c] }
/-- five that are written, each apart from the others; four that are read, apart from these -/
structure Ap3 (z TO i j k TI a b c : Addr) : Prop where
  z1 : z ≠ TO
  z2 : z ≠ i
  z3 : z ≠ j
  z4 : z ≠ k
  o1 : TO ≠ i
  o2 : TO ≠ j
  o3 : TO ≠ k
  i1 : i ≠ j
  i2 : i ≠ k
  j1 : j ≠ k
  r : ∀ x, x = TI ∨ x = a ∨ x = b ∨ x = c → x ≠ z ∧ x ≠ TO ∧ x ≠ i ∧ x ≠ j ∧ x ≠ k
/-- what a zip of three has, item n next -/
structure Zs (h : Heap) (z TO i j k TI a b c : Addr) (f : Value) (m n p : Nat) (u v w : Value) (xs ys zs : Array Value) : Prop where
  z : IsZip h z TI TO f
  t : Tri h TO u v w
  i : h.IsListIter i a m
  j : h.IsListIter j b n
  k : h.IsListIter k c p
  a : h.IsList a xs
  b : h.IsList b ys
  c : h.IsList c zs
section
variable {prog : Program} {w : World} {A : Around} {E : Value → Shared → Prop} {s : Shared} {z TO i j k TI a b c : Addr} {m n p : Nat} {f u v y : Value} {xs ys zs : Array Value}
section
variable {h h' : Heap} (D : Ap3 z TO i j k TI a b c)
include D
end
theorem Zs.keep {h h' : Heap} (q : Zs h z TO i j k TI a b c f m n p u v y xs ys zs) (e : ∀ x o, h.get? x = some o → h'.get? x = some o) : Zs h' z TO i j k TI a b c f m n p u v y xs ys zs :=
  ⟨e _ _ q.z, e _ _ q.t, q.i.at fun o => e _ o, q.j.at fun o => e _ o, q.k.at fun o => e _ o, q.a.at fun o => e _ o, q.b.at fun o => e _ o, q.c.at fun o => e _ o⟩
/-- all but the five stays -/
def Kp5 (z TO i j k : Addr) (h h' : Heap) : Prop := ∀ x o, x ≠ z → x ≠ TO → x ≠ i → x ≠ j → x ≠ k → h.get? x = some o → h'.get? x = some o
set_option maxHeartbeats 16000000 in
set_option maxHeartbeats 16000000 in
/-! zip(..) of three -/
abbrev itO (a : Addr) : Obj := { cls := .type "list_iterator", data := .fields #[.ref a, .int 0 0] }
abbrev zh1 (h : Heap) (a : Addr) : Heap := h.push (itO a)
abbrev zh2 (h : Heap) (a b : Addr) : Heap := (zh1 h a).push (itO b)
abbrev zh3 (h : Heap) (a b c : Addr) : Heap := (zh2 h a b).push (itO c)
abbrev zh4 (h : Heap) (a b c : Addr) : Heap := (zh3 h a b c).push { cls := .type "tuple", data := .seq #[.ref h.objs.size, .ref (zh1 h a).objs.size, .ref (zh2 h a b).objs.size] }
abbrev zh5 (h : Heap) (a b c : Addr) : Heap := (zh4 h a b c).push { cls := .type "tuple", data := .seq #[.none, .none, .none] }
abbrev zh6 (h : Heap) (a b c : Addr) : Heap := (zh5 h a b c).push { cls := .type "zip", data := .fields #[.none, .bool false, .bool false, .ref (zh3 h a b c).objs.size, .ref (zh4 h a b c).objs.size] }
end
/-! the turn -/
def It3 (K : PySem.W.Frag) (a b c : Addr) : It :=
  ⟨fun i H => ∃ (xs ys zs : List V) (x y z : V), (SqL K H a xs ∧ SqL K H b ys ∧ SqL K H c zs) ∧ xs[i]? = some x ∧ ys[i]? = some y ∧ zs[i]? = some z,
    fun i H v H' => ∃ T x y z, v = .ref T ∧ H T = none ∧ H' = upd H T (.tup [x, y, z]) ∧ (∀ xs, SqL K H a xs → xs[i]? = some x) ∧ (∀ ys, SqL K H b ys → ys[i]? = some y) ∧ ∀ zs, SqL K H c zs → zs[i]? = some z,
    fun i H => ∃ xs ys zs : List V, (SqL K H a xs ∧ SqL K H b ys ∧ SqL K H c zs) ∧ (xs.length ≤ i ∨ ys.length ≤ i ∨ zs.length ≤ i)⟩
def iZip3 (K : PySem.W.Frag) (ta : TA) : TI := fun σ H R => ta σ H fun vs H1 => ∃ a b c xs ys zs, vs = [.ref a, .ref b, .ref c] ∧ SqL K H1 a xs ∧ SqL K H1 b ys ∧ SqL K H1 c zs ∧ R (It3 K a b c) H1
/-! as a list of triples -/
section
variable {X : Cx} {g : Gm} {l : List Res} {e e2 e3 : Expr} {p : Pos}
def zipD3 (ds es fs : List D) : List D := (ds.zip (es.zip fs)).map fun q => D.tup [q.1, q.2.1, q.2.2]
end
end Sx
set_option Elab.async false
set_option linter.all false
set_option maxRecDepth 100000
set_option maxHeartbeats 4000000
set_option pp.maxSteps 400
/-! sorted(set(xs)), xs a list of texts. -/
namespace Sx
open PySem PySem.Spec PyProof.Rows L2
/-- a set of texts: its members, each once -/
def StrSet (w : World) (h : Heap) (a : Addr) (ks : List Str) : Prop :=
  ∃ o es ep t, h.get? a = some o ∧ o.ExactSet ∧ o.data = .set es ep t ∧ (∀ e ∈ es.toList, ∃ k tk, e = (hashStr w k, Value.str k tk)) ∧ (es.toList.map fun e => strOf e.2).Perm ks ∧ ks.Nodup ∧
    es.size < scanBound ∧ t.fits es.size = true ∧ Ris t.place.toList ∧ (w.params.followText "set-order" = true ∨ t.led = true)
theorem StrSet.at {w : World} {h h' : Heap} {a : Addr} {ks : List Str} (R : StrSet w h a ks) (k : ∀ o, h.get? a = some o → h'.get? a = some o) : StrSet w h' a ks := by
  obtain ⟨o, es, ep, t, g, r⟩ := R
  exact ⟨o, es, ep, t, k o g, r⟩
section
variable {P : Program} {w : World} {A : Around} {E : Value → Shared → Prop} {s : Shared} {a : Addr} {ks : List Str}
/-- the members that come one by one -/
def gather (ks : List Str) (xs : List Str) : List Str := xs.foldl (fun ks x => if x ∈ ks then ks else x :: ks) ks
abbrev newSet (w : World) : Obj := { cls := .type "set", dict := none, data := .set #[] 0 (.fresh 0 0 (!w.params.followText "set-order")) }
set_option maxRecDepth 100000 in
set_option maxHeartbeats 8000000 in
end
/-! order of texts -/
def leS (x y : Str) : Bool := !decide (y.cps.toList < x.cps.toList)
abbrev sortS (xs : List Str) : List Str := isort leS xs
/-- the texts, each once, in order -/
def setS (xs : List Str) : List Str := sortS (gather [] xs)
section
variable {X : Cx}
def SetSO (w : World) (a : Addr) (ks : List Str) : HO := .ext fun h => StrSet w h a ks
def rSetSt (K : PySem.W.Frag) (w : World) : List V → Hp → VK → Prop := fun xs H Q => ∃ (p : Addr) (ss : List Str), xs = [.ref p] ∧ SqL K H p (ss.map V.str) ∧ ss.length ≤ 1000 ∧ ∀ a, H a = none → Q (.ref a) (L2.upd H a (SetSO w a (gather [] ss)))
def rSortSt (w : World) : List V → Hp → VK → Prop := fun vs H Q => ∃ (a : Addr) (ks : List Str), vs = [V.ref a] ∧ H a = some (SetSO w a ks) ∧ ks.length < 64 ∧
  ∀ (ys : List Str) (p : Addr), ys.Perm ks → sortedS ys = true → H p = none → Q (.ref p) (L2.upd H p (.lst (ys.map V.str)))
variable {g : Gm} {l : List Res} {d : D} {p pos p2 pos2 : Pos}
end
/-! xs.count(b), xs a list of truths -/
def eqb (k : Bool) : Value → Bool
  | .bool n => n == k
  | _ => false
def rCntB (K : PySem.W.Frag) : V → List V → Hp → VK → Prop := fun x xs H Q => ∃ (p : Addr) (bs : List Bool) (k : Bool), x = .ref p ∧ xs = [.bl k] ∧ SqL K H p (bs.map V.bl) ∧ Q (.int (bs.count k : Nat)) H
section
variable {X : Cx}
variable {g : Gm} {l : List Res} {d : D} {o e : Expr} {pos : Pos}
end
end Sx
set_option Elab.async false
set_option linter.all false
set_option maxRecDepth 100000
set_option maxHeartbeats 4000000
set_option pp.maxSteps 400
/-! a comprehension over an owned dict of tuple keys, set on one line; a loop over a frozen one. -/
namespace Sx
open PySem PySem.Spec PyProof.Rows L2
open Sem (wp)
section
variable {X : Cx} {W : WX} {g g' : Gm} {l l' : List Res} {o e c : Expr} {d d1 d2 : D} {pos : Pos} {rest body : List Stmt} {Φ Om : Po} {α β S1 : Type}
/-- a heap without one place -/
def erH (F : Hp) (q : Addr) : Hp := fun a => if a = q then none else F a
/-- data that reaches no heap -/
def Flat : D → Prop
  | .int _ => True | .str _ => True | .bl _ => True | .non => True | .adr _ => True | _ => False
theorem Flat.fd {K : PySem.W.Frag} {F F' : Hp} {v : V} {d : D} (h : Fd K F v d) (f : Flat d) : Fd K F' v d := by
  cases h <;> first | exact f.elim | constructor
/-- slots: what reaches no heap is kept -/
inductive WkN : Gm → Gm → Prop
  | nil : WkN [] []
  | any {o : Option D} {g r : Gm} : WkN g r → WkN (o :: g) (none :: r)
  | keep {d : D} {g r : Gm} (h : WkN g r) (f : Flat d := by trivial) : WkN (some d :: g) (some d :: r)
inductive WkI : Nat → Gm → (Addr → Gm) → Prop
  | here {d : D} {g r : Gm} : WkN g r → WkI 0 (some d :: g) (fun q => some (.adr q) :: r)
  | any {i : Nat} {o : Option D} {g : Gm} {r : Addr → Gm} : WkI i g r → WkI (i + 1) (o :: g) (fun q => none :: r q)
  | keep {i : Nat} {d : D} {g : Gm} {r : Addr → Gm} (h : WkI i g r) (f : Flat d := by trivial) : WkI (i + 1) (some d :: g) (fun q => some d :: r q)
theorem WkN.sl {K : PySem.W.Frag} {F F' : Hp} {g r : Gm} (w : WkN g r) : ∀ {σ : L2.St}, Sl K F g σ → Sl K F' r σ := by
  induction w with
  | nil => intro σ h; cases h; exact .nil
  | any _ ih => intro σ h; cases h with
    | any h => exact .any (ih h)
    | cons _ h => exact .any (ih h)
  | keep _ f ih => intro σ h; cases h with
    | cons h1 h2 => exact .cons (Flat.fd h1 f) (ih h2)
theorem WkI.sl {K : PySem.W.Frag} {F F' : Hp} {q : Addr} {i : Nat} {g : Gm} {r : Addr → Gm} (w : WkI i g r) : ∀ {σ : L2.St}, Sl K F g σ → σ[i]? = some (some (V.ref q)) → Sl K F' (r q) σ := by
  induction w with
  | here w => intro σ h e; cases h with
    | cons _ h2 =>
      have e := Option.some.inj (Option.some.inj e)
      subst e
      exact .cons (.adr _) (w.sl h2)
  | any _ ih => intro σ h e; cases h with
    | any h => exact .any (ih h e)
    | cons _ h => exact .any (ih h e)
  | keep _ f ih => intro σ h e; cases h with
    | cons h1 h2 => exact .cons (Flat.fd h1 f) (ih h2 e)
end
end Sx
set_option Elab.async false
set_option linter.all false
set_option maxRecDepth 100000
set_option maxHeartbeats 4000000
set_option pp.maxSteps 400
/-! sorted(texts), sorted(a dict of texts), abs. -/
namespace Sx
open PySem PySem.Spec PyProof.Rows L2
section
variable {X : Cx} {g : Gm} {l : List Res} {d : D} {p pos : Pos}
end
section
variable {K : PySem.W.Frag} {l : List Res} {d : D}
def absI (i : Int) : Int := if i < 0 then -i else i
end
end Sx
set_option Elab.async false
set_option linter.all false
set_option maxRecDepth 100000
set_option maxHeartbeats 4000000
set_option pp.maxSteps 400
/-! a comprehension over the values of a frozen dict, a tuple's third. -/
namespace Sx
open PySem PySem.Spec PyProof.Rows L2
open Sem (wp)
section
variable {X : Cx} {W : WX} {g g' : Gm} {l l' : List Res} {o e c elt : Expr} {d d1 d2 : D} {pos apos cpos : Pos} {α β S1 : Type}
end
end Sx
set_option Elab.async false
set_option linter.all false
set_option maxRecDepth 100000
set_option maxHeartbeats 2000000
/-! Classes whose __init__ may raise. -/
namespace Sx
open PySem L2 PyProof.Rows
section
variable {X : Cx} {CX : CXT} {k : Nat} {f C : Addr} {fd : FuncData} {ps : List Str} {sp : Sp} {x : Str} {p pos : Pos} {e : Expr} {es : List Expr} {t : TA} {E : L2.St → XK}
/-- C(..) where what is wished of an exception may hang on the slots -/
def tMakeS (C : Addr) (sp : Sp) (E : L2.St → XK) (t : TA) : TE := fun σ H Q => t σ H fun vs H1 => ∀ y dx, H1 y = none → H1 dx = none → dx ≠ y → sp (.ref y :: vs) (upd (upd H1 dx (.own y)) y (.ins C dx [])) (fun v H2 => v = .non ∧ Q (.ref y) H2) (E σ)
end
/-- a class under its name with its __init__, which may raise -/
def GloCX (P : Program) (w : World) (K : PySem.W.Frag) (mg : Str → Option Value) (base : Heap) (k : Nat) (C : Addr) (x : Str) (ps : List Str) (sp : Sp) : Prop :=
  ∃ f fd, FnOk P w K mg base (L2.CX P w) k f fd ps sp ∧ Mk K C f ∧ mg x = some (.ref C) ∧ Binds K fd ps []
section
variable {P : Program} {w : World} {K : PySem.W.Frag} {mg : Str → Option Value} {base : Heap} {k : Nat} {x qual : Str} {st : Stmt} {ps : List Str} {sp : Sp} {C : Addr}
end
section
variable {X : Cx} {W : WX} {g : Gm} {e : Expr} {es : List Expr} {p pos : Pos}
/-- == of lists (its instance of Decidable is the common one, also where one is empty) -/
abbrev decL {α : Type} [DecidableEq α] (xs ys : List α) : Bool := decide (xs = ys)
/-! ### isinstance by several classes -/
/-! ### things of any kind -/
variable {l : List Res} {o a b : Expr} {d : D} {p2 : Pos}
end
end Sx
set_option Elab.async false
set_option linter.all false
set_option maxRecDepth 100000
set_option maxHeartbeats 2000000
/-! Displays whose elements own; targets taken apart from such; tries walked twice, once for each end. -/
namespace Sx
open PySem L2 PyProof.Rows
section
variable {X : Cx} {W : WX} {g : Gm} {l : List Res} {e : Expr} {es : List Expr} {d : D} {pos p : Pos} {ι ι' : Type} {d0 : ι → D} {l0 : ι → List Res} {dt : ι' → List D} {lt1 : ι' → List Res} {ds0 : ι → ι' → List D} {l1 : ι → ι' → List Res}
theorem pax_z : PaX X [] g l (fun ds l' => ∃ _ : Unit, ds = [] ∧ l' = l) := fun en T σ H Q s k => wpA_of pa_nil (by
  obtain ⟨F, M, a⟩ := s
  exact k [] [] l H ⟨(), rfl, rfl⟩ ⟨F, M, a.tmp ⟨.nil, a.tm⟩⟩)
theorem pax_o (he : Ev X e g l (fun d l' => ∃ j, d = d0 j ∧ l' = l0 j)) (h : ∀ j, PaX X es g (l0 j) (fun ds l' => ∃ i, ds = ds0 j i ∧ l' = l1 j i)) (hs : starEach (e :: es) X.env = (false, eval e X.env) :: starEach es X.env := by rfl) :
    PaX X (e :: es) g l (fun ds l' => ∃ q : ι × ι', ds = d0 q.1 :: ds0 q.1 q.2 ∧ l' = l1 q.1 q.2) := fun en T σ H Q s k => wpA_of (pa_cons pe_wp pa_wp hs) (by
  refine he en T σ H _ s fun v d l' H1 hp s1 => ?_
  obtain ⟨j, e1, e2⟩ := hp
  subst e1; subst e2
  refine h j en _ σ H1 _ s1 fun vs ds' l' H2 hp s2 => ?_
  obtain ⟨i, e1, e2⟩ := hp
  obtain ⟨F, M, a⟩ := s2
  exact k _ _ _ H2 ⟨(j, i), by rw [e1], e2⟩ ⟨F, M, a.tmp ⟨.cons a.tm.2.1 a.tm.1, a.tm.2.2⟩⟩)
/-- a list whose own cells nobody changes, its elements owned -/
theorem ev_lstX (h : PaX X es g l (fun ds l' => ∃ i, ds = dt i ∧ l' = lt1 i)) (hz : ∀ i, (dt i).length ≤ sizeLine := by intro i; exact Nat.le_of_ble_eq_true rfl) : Ev X (.List es pos) g l (fun d l' => ∃ i, d = .lst (dt i) ∧ l' = lt1 i) := fun en T σ H Q s k => wpE_of (pe_lst pa_wp) (by
  refine h en T σ H _ s fun vs ds l' H1 hp s1 => ?_
  obtain ⟨i, e1, e2⟩ := hp
  subst e1
  obtain ⟨F, M, q⟩ := s1
  refine ⟨by rw [q.tm.1.length]; exact hz i, fun p hp => ?_⟩
  have n := New.upd (o := .lst vs) q.exF hp
  exact k _ _ _ _ ⟨i, rfl, e2⟩ ⟨_, M, (q.new n).tmp ⟨.lst upd_same (FdAll.mono n.f _ q.tm.1), T.mono n.f q.tm.2⟩⟩)
end
/-! ### a try, each end walked by itself -/
section
variable {X Y : Cx} {W W' : WX} {g : Gm} {l : List Res} {body rest : List Stmt} {pos : Pos} {β ε V : Type} {Om : β → Po}
/-- behind the body stands the rest -/
abbrev OmT (X : Cx) (W : WX) (rest : List Stmt) (Om : β → Po) : β → Po := fun m => { Om m with nx := fun g' l' => Blk X W rest g' l' (Om m), ex := fun _ _ _ _ => False }
/-- the body raises -/
abbrev OmX (K : PySem.W.Frag) (g : Gm) (l : List Res) (x : Xd) : Unit → Po := fun _ => { nx := fun _ _ => False, rt := fun _ _ => False, bk := fun _ _ => False, ct := fun _ _ => False, ex := fun cls dd g' l' => ∃ lx, XE K x cls dd lx ∧ g' = g ∧ l' = lx ++ l }
end
/-! ### raising among arguments -/
def XA (X : Cx) (W : WX) (es : List Expr) (g : Gm) (l : List Res) (x : Xd) : Prop := ∀ en T σ H (Q : List V → Hp → Prop), S X.K en g T l σ H → (∀ cls dd l' H', (∃ lx, XE X.K x cls dd lx ∧ l' = lx ++ l) → S X.K en g T l' σ H' → W cls dd σ H') → wpA X es σ H Q
section
variable {X : Cx} {W : WX} {g : Gm} {l : List Res} {e o : Expr} {es : List Expr} {d : D} {pos p : Pos} {x : Xd}
end
end Sx
set_option Elab.async false
set_option linter.all false
set_option maxRecDepth 100000
set_option maxHeartbeats 2000000
/-! sorted(t), t a tuple of whole numbers; classes that are handed what they keep. -/
namespace Sx
open PySem PyProof.Rows SrtO
section
variable {prog : Program} {w : World} {A : Around} {E : Value → Shared → Prop} {s : Shared}
end
open L2
def rSortTup (K : PySem.W.Frag) : List V → Hp → VK → Prop := fun vs H Q => ∃ (a : Addr) (ns : List Int), vs = [V.ref a] ∧ SqT K H a (ns.map V.int) ∧ ∀ (ms : List Int) (p : Addr), ms.Perm ns → ms.Pairwise (· ≤ ·) → H p = none → Q (.ref p) (L2.upd H p (.lst (ms.map V.int)))
section
variable {X : Cx} {g : Gm} {l : List Res} {d : D} {p pos : Pos}
end
end Sx
set_option Elab.async false
set_option linter.all false
set_option maxRecDepth 100000
set_option maxHeartbeats 2000000
/-! What is owned, read as if it were frozen, by an expression that changes nothing of it; owned again behind it. -/
namespace Sx
open PySem L2 PyProof.Rows
def minus (F M : Hp) : Hp := fun a => match M a with | some _ => none | none => F a
def NoT (M : Hp) : Prop := (∀ x xs, M x ≠ some (.tup xs)) ∧ ∀ x o xs, M x ≠ some (.frz o (.tup xs))
def NtR (l : List Res) : Prop := ∀ F M, Rs l F M → ∀ x o xs, M x ≠ some (.frz o (.tup xs))
def Nt1 (r : Res) : Prop := ∀ F M, r.P F M → ∀ x o xs, M x ≠ some (.frz o (.tup xs))
/-- what stays, whatever lists and the like are taken away -/
def Sf (K : PySem.W.Frag) (d : D) : Prop := ∀ F M v, NoT M → Ex M F → Fd K F v d → Fd K (minus F M) v d
def SfR (K : PySem.W.Frag) (l : List Res) : Prop := ∀ F A M, NoT M → Ex M F → Rs l F A → Rs l (minus F M) A
def Sf1 (K : PySem.W.Frag) (r : Res) : Prop := ∀ F A M, NoT M → Ex M F → r.P F A → r.P (minus F M) A
section
variable {K : PySem.W.Frag} {l : List Res}
/-- with what l owns, d is d' -/
def Rdz (K : PySem.W.Frag) (l : List Res) (d d' : D) : Prop := ∀ F M v, Dj F M → Rs l F M → Fd K F v d → Fd K (join F M) v d'
def RdA (K : PySem.W.Frag) (l : List Res) (ds ds' : List D) : Prop := ∀ F M vs, Dj F M → Rs l F M → FdAll K F vs ds → FdAll K (join F M) vs ds'
def RdG (K : PySem.W.Frag) (l : List Res) (g g' : Gm) : Prop := ∀ F M σ, Dj F M → Rs l F M → Sl K F g σ → Sl K (join F M) g' σ
theorem Sl.put : ∀ {g : Gm} {σ : L2.St} {F F' : Hp} {i : Nat} {d d' : D}, Ex F F' → Sl K F g σ → Sx.nth g i = some d → (∀ v, Fd K F v d → Fd K F' v d') → Sl K F' (g.set i (some d')) σ
  | _, _, _, _, _, _, _, _, .nil, _, _ => .nil
  | _, _, _, _, 0, _, _, _, .any _, e, _ => by cases e
  | _, _, _, _, i + 1, _, _, x, .any h, e, k => .any (Sl.put x h e k)
  | _, _, _, _, 0, _, _, x, .cons a h, e, k => by cases e; exact .cons (k _ a) (Sl.mono x h)
  | _, _, _, _, i + 1, _, _, x, .cons a h, e, k => .cons (Fd.mono x _ a) (Sl.put x h e k)
end
section
variable {X : Cx} {e : Expr} {g g' : Gm} {l : List Res}
end
end Sx
set_option Elab.async false
set_option linter.all false
set_option maxRecDepth 100000
set_option maxHeartbeats 4000000
/-! xs.index(b), xs a list of truths; len(set(xs)), xs a list of texts. -/
namespace Sx
open PySem PySem.Spec PyProof.Rows L2
def idxB (v : Bool) : List Bool → Nat
  | [] => 0
  | x :: xs => if x = v then 0 else idxB v xs + 1
section
variable {X : Cx} {g : Gm} {l : List Res} {d : D} {o e : Expr} {apos pos : Pos}
end
/-! a loop with ways out in a def that may run off its end -/
section
variable {X : Cx} {W : WX} {g : Gm} {l : List Res} {body rest : List Stmt} {pos : Pos} {Rr S1 α : Type}
end
section
variable {X : Cx} {g : Gm} {l : List Res} {d : D} {p pos p2 pos2 : Pos}
def rLenSt (w : World) : List V → Hp → VK → Prop := fun vs H Q => ∃ (a : Addr) (ks : List Str), vs = [V.ref a] ∧ H a = some (SetSO w a ks) ∧ Q (.int (ks.length : Nat)) H
end
end Sx
set_option Elab.async false
set_option linter.all false
set_option maxRecDepth 100000
set_option maxHeartbeats 4000000
/-! List comprehensions whose element changes what is owned. -/
namespace Sx
open PySem L2
def mapS {α β σ : Type} (F : σ → α → β × σ) : List α → σ → List β × σ
  | [], s => ([], s)
  | x :: xs, s => ((F s x).1 :: (mapS F xs (F s x).2).1, (mapS F xs (F s x).2).2)
section
variable {X : Cx} {W : WX} {g g' : Gm} {l l' : List Res} {Φ : Po} {e e2 a b c o : Expr} {es : List Expr} {d d1 d2 d3 : D} {pos p p2 : Pos} {rest : List Stmt}
variable {Sx1 : Type} {Om : Sx1 → Po}
end
end Sx
set_option Elab.async false
set_option linter.all false
set_option maxRecDepth 100000
set_option maxHeartbeats 4000000
/-! List comprehensions out of which an exception flies. -/
namespace L2
open PySem PySem.Spec PyProof.Rows
/-- a comprehension's block whose element may raise -/
abbrev Cx.blkX (X : Cx) (s : Shared) (H : Hp) (scope : Scope) (cenv : Env) (fp : List Addr) (xe : Value → Shared → Prop) : Cx := { X.blk s H scope cenv fp with xe := xe }
section
variable {M : Model} {A : Around} {E : Value → Shared → Prop} {s : Shared} {Z : Obj → Prop} {base : Heap} {env cenv : Env} {outer l : List Env} {L e : Addr}
end
section
variable {X : Cx}
end
end L2
namespace Sx
open PySem L2
/-- within a comprehension's block that may raise -/
abbrev BlkcX (X : Cx) (W : WX) (scope : Scope) (Pp : Cx → WX → Prop) : Prop := ∀ (σ : L2.St) (s : Shared) (H : Hp) (C : Addr) (cl : List (Str × Addr)) (fp : List Addr) (xe : Value → Shared → Prop), Takes (X.blkX s H scope (compEnvC scope cl C X.env) fp xe) (fun cls d _ H' => W cls d σ H') → Pp (X.blkX s H scope (compEnvC scope cl C X.env) fp xe) (fun cls d _ H' => W cls d σ H')
def teBX (X : Cx) (W : WX) (scope : Scope) (e : Expr) : L2.St → TE := fun σ0 σ H Q => ∀ (s : Shared) (H0 : Hp) (C : Addr) (cl : List (Str × Addr)) (fp : List Addr) (xe : Value → Shared → Prop), Takes (X.blkX s H0 scope (compEnvC scope cl C X.env) fp xe) (fun cls d _ H' => W cls d σ0 H') → wpE (X.blkX s H0 scope (compEnvC scope cl C X.env) fp xe) e σ H Q
section
variable {X : Cx} {W : WX} {g : Gm} {l : List Res}
/-! [f(x) for x in xs], f may raise -/
def mapE {α β ε : Type} (m : α → Except ε β) : List α → Except ε (List β)
  | [] => .ok []
  | x :: xs => match m x with
    | .error e => .error e
    | .ok v => match mapE m xs with
      | .error e => .error e
      | .ok vs => .ok (v :: vs)
end
end Sx
set_option Elab.async false
set_option linter.all false
set_option maxRecDepth 100000
set_option maxHeartbeats 4000000
/-! Ways by a constant; methods of what is made at once. -/
namespace Sx
open PySem L2
section
variable {X : Cx} {W : WX} {g : Gm} {l : List Res} {sts : List Stmt} {β : Type} {Om : β → Po} {b : Bool} {m1 m2 : β}
theorem bo_spl (h1 : b = true → Bo X W sts g l Om m1) (h2 : b = false → Bo X W sts g l Om m2) : Bo X W sts g l Om (cond b m1 m2) := by
  cases b with
  | true => exact h1 rfl
  | false => exact h2 rfl
end
section
variable {X : Cx} {g : Gm} {l : List Res} {o : Expr} {pos apos : Pos} {α β ι ι' : Type} {ok : α → Prop} {args : α → List D} {own : α → List Res} {dd : α → ι → β → D} {ll : α → ι → β → List Res} {mm : Str} {ps : List Str} {k j : Nat} {C : Addr} {pl : Sem Bool}
/-- a method of an instance that an expression makes -/
theorem ev_methE0 {m : α → β} {k0 : Nat} {q0 : ι' → Addr} {fs : ι' → List (Str × D)} {d0 : ι' → D} {l0 : ι' → List Res} (G : GloM X.prog X.w X.K X.mg X.base k C mm ps (SpN X.K ok args own (fun a => OwnR (dd a) (ll a)) m)) (hr : Room j X.A) (hj : k ≤ j) (a : ι' → α) (hok : ∀ i, ok (a i))
    (ho : Ev X o g l (fun d l' => ∃ i, d = d0 i ∧ l' = l0 i)) (hd : ∀ i, d0 i = .adr (q0 i)) (hl0 : ∀ i, l0 i = own (a i) ++ l) (hk : ∀ i, (own (a i) ++ l)[k0]? = some (ownI X.K (q0 i) C (fs i))) (hl : ∀ i, (fs i).lookup mm = none) (hds : ∀ i, args (a i) = [.adr (q0 i)])
    (ht : MthE X o mm apos pos [] pl := by rfl) : Ev X (.Call (.Attribute o mm apos) [] [] pos) g l (fun d l' => ∃ i i2, d = dd (a i) i2 (m (a i)) ∧ l' = ll (a i) i2 (m (a i)) ++ l) := fun en T σ H Q s kk => by
  obtain ⟨f, fd, F, hc, hm, hb⟩ := G
  refine wpE_of (pe_meth0 pe_wp hc hm F (hr.mono hj) hb .nil pass0 ht) ?_
  refine ho en T σ H _ s fun v d l' H1 ⟨i, e1, e2⟩ s1 => ?_
  rw [hd i] at e1
  rw [hl0 i] at e2
  subst e1; subst e2
  obtain ⟨F1, M1, q1⟩ := s1
  obtain ⟨q, dx, fs', rfl, h1, h2⟩ := rc_own (hk i) (hl i) F1 M1 H1 v q1.exF q1.exM q1.rs q1.tm.1
  refine ⟨q, dx, fs', rfl, h1, h2, ?_⟩
  show FnX _ _ _ _ _ _ (V.ref q :: ([] ++ [])) H1 Q _
  refine FnX.use (a i) (hok i) (T := T) (g := g) (en := en) (σ := σ) (lr := l) ?_ (fun v d l' H' hp s' => by
    obtain ⟨i2, g1, g2⟩ := hp
    exact kk v d _ H' ⟨i, i2, g1, by rw [g2]⟩ s') fun _ _ _ _ h => h.elim
  exact ⟨F1, M1, q1.tmp ⟨by rw [hds i]; exact .cons q1.tm.1 .nil, q1.tm.2⟩⟩
end
section
variable {X : Cx} {g : Gm} {l : List Res} {a b : Expr} {pos : Pos} {ι : Type} {d2 : D} {ll : ι → List Res} {rest : List Expr} {k k' : Bool}
/-- tests whose first call changes what is owned -/
theorem tse_cmpO {op : CmpOp} {r : R2} {dd : ι → D} (ho : OpR X (compareOp op) r) (ha : Ev X a g l (fun d l' => ∃ j, d = dd j ∧ l' = ll j)) (hb : ∀ j, Px X b g (ll j) d2) (hr : ∀ j, Op2 X.K (ll j) r (dd j) d2 (.bl k)) (hm : behindInMarks op b = false := by first | exact nomark _ | rfl) : TsE X (.Compare a [op] [b] pos) g l k ll := fun en T σ H Q s kk => wpT_of (pt_cmpR ho pe_wp pe_wp hm) (by
  refine ha en T σ H _ s fun v d1 l1 H1 ⟨j, h1, h2⟩ s1 => ?_
  subst h1; subst h2
  refine hb j en _ σ H1 _ s1 fun u H2 s2 => ?_
  obtain ⟨F, M, q⟩ := s2
  refine hr j F M H2 v u _ q.exF q.exM q.dj q.rs q.tm.2.1 q.tm.1 fun w F' H' n f => ?_
  cases f
  exact ⟨k, rfl, kk j H' ⟨F', M, (q.new n).tmp (T.mono n.f q.tm.2.2)⟩⟩)
end
end Sx
set_option Elab.async false
set_option linter.all false
set_option maxRecDepth 100000
set_option maxHeartbeats 2000000
/-! The head: what the top has written, told by names. -/
namespace Sx
open PySem L2
def isiB (K : PySem.W.Frag) (C : Addr) : Bool := decide (PySem.W.findIn K (.ref C) "__class__" = some (some (.builtin "object.__class__"))) && (decide (PySem.W.specialIn K (.builtin "object.__class__") "__get__" = some (some (.builtin "getset_descriptor.__get__"))) && (decide (PySem.W.takesIn K (.builtin "object.__class__") = some true) && decide (PySem.W.mroIn K C (.type "object") = some true)))
theorem isiB_ok {K : PySem.W.Frag} {C : Addr} (h : isiB K C = true) : Isi K C := by
  obtain ⟨h1, h⟩ := He.ba h
  obtain ⟨h2, h⟩ := He.ba h
  obtain ⟨h3, h4⟩ := He.ba h
  exact ⟨of_decide_eq_true h1, of_decide_eq_true h2, of_decide_eq_true h3, of_decide_eq_true h4⟩
/-- one more fact -/
inductive Fb where
  | isi (x : Str)
  | kit (x y : Str) (b : Bool)
  | mk0 (x : Str)
  | exc (x : Str)
  | xin (x : Str)
  | kitT (x : Str) (t : String) (b : Bool)
  | exm (x y : Str) (b : Bool)
  | kitN (y : Str)
  | oex (x : Str)
  | xno (x f : Str)
  | rin (x : Str)
def excB (K : PySem.W.Frag) (C : Addr) : Bool := PySem.W.keepIn K (.ref C) && (decide (PySem.W.subIn K (.ref C) (.type "BaseException") = some true) && (decide (PySem.W.typeIn K (.ref C) = some (.type "type")) && (decide (PySem.W.findIn K (.ref C) "__getattribute__" = some (some (.builtin "BaseException.__getattribute__"))) && (decide (PySem.W.findIn K (.ref C) "__getattr__" = some none) && (PySem.W.hasDictIn K C && isiB K C)))))
def oexB (K : PySem.W.Frag) (C : Addr) : Bool := match K.lookup C with
  | some ⟨.type "type", _, .cls cd, sl⟩ => (match cd.mro, sl.toList with
    | .ref C' :: bm, [_, _, _, _, some (.builtin n), _] => C' == C && n == "ValueError.__new__" && !cd.hasDel && cd.hasDict && PySem.HandSPX.refsVE bm
    | _, _ => false)
  | _ => false
def rinB (K : PySem.W.Frag) (R : Addr) : Bool := PySem.W.readsIn K R (.type "type") && ((match PySem.W.findCls K (.ref R) (.type "type") "__init__" with | some (.val (.builtin s)) => s == "ValueError.__init__" | _ => false) && decide (PySem.W.specialIn K (.ref R) "__getattribute__" = some (some (.builtin "type.__getattribute__"))))
def Fb.ok (K : PySem.W.Frag) : Fb → Bool
  | .isi x => isiB K (He.ga K x)
  | .kit x y b => decide (PySem.W.kitOne K (.ref (He.ga K x)) (.ref (He.ga K y)) = some b)
  | .mk0 x => PySem.W.makesIn K (He.ga K x) && decide (PySem.W.findIn K (.ref (He.ga K x)) "__init__" = some (some (.builtin "object.__init__")))
  | .exc x => excB K (He.ga K x)
  | .xin x => PySem.W.excIn K (He.ga K x) vErr "ValueError.__new__"
  | .kitT x t b => decide (PySem.W.kitOne K (.ref (He.ga K x)) (.type t) = some b)
  | .exm x y b => decide (PySem.W.exmOne K (.ref (He.ga K x)) (.ref (He.ga K y)) = some b)
  | .kitN y => decide (PySem.W.kitOne K (.type "NoneType") (.ref (He.ga K y)) = some false)
  | .oex x => oexB K (He.ga K x) && (decide (PySem.W.findIn K (.ref (He.ga K x)) "__setattr__" = some (some (.builtin "object.__setattr__"))) && (decide (PySem.W.subIn K (.ref (He.ga K x)) (.type "BaseException") = some true) && (decide (PySem.W.typeIn K (.ref (He.ga K x)) = some (.type "type")) && (PySem.W.keepIn K (.ref (He.ga K x)) && (decide (PySem.W.findIn K (.ref (He.ga K x)) "__init__" = some (some (.ref (He.ma K (He.ga K x) "__init__")))) && decide (PySem.W.typeIn K (.ref (He.ma K (He.ga K x) "__init__")) = some (.type "function")))))))
  | .xno x f => decide (PySem.W.findIn K (.ref (He.ga K x)) f = some none)
  | .rin x => rinB K (He.ga K x)
def exB (fb : List Fb) (K : PySem.W.Frag) : Bool := fb.all fun f => f.ok K
section
variable {K : PySem.W.Frag} {h : Heap} {mg : Str → Option Value} {fb : List Fb} {w : World} {fa : List He.Fa} {fn : List He.DefD}
theorem fb_at (c : exB fb K = true) (i : Nat) {f : Fb} (h : fb[i]? = some f := by rfl) : f.ok K = true := List.all_eq_true.mp c f (List.mem_of_getElem? h)
theorem kit_ok {x y : Str} {b : Bool} (h : (Fb.kit x y b).ok K = true) : PySem.W.kitOne K (.ref (He.ga K x)) (.ref (He.ga K y)) = some b := of_decide_eq_true h
theorem kitT_ok {x : Str} {t : String} {b : Bool} (h : (Fb.kitT x t b).ok K = true) : PySem.W.kitOne K (.ref (He.ga K x)) (.type t) = some b := of_decide_eq_true h
theorem exm_ok {x y : Str} {b : Bool} (h : (Fb.exm x y b).ok K = true) : PySem.W.exmOne K (.ref (He.ga K x)) (.ref (He.ga K y)) = some b := of_decide_eq_true h
theorem kitN_ok {y : Str} (h : (Fb.kitN y).ok K = true) : PySem.W.kitOne K (.type "NoneType") (.ref (He.ga K y)) = some false := of_decide_eq_true h
/-- an exception class with an own __init__ -/
def Dxin (K : PySem.W.Frag) (mg : Str → Option Value) (x : Str) (C : Addr) (qual : Str) (st : Stmt) : Prop := ∃ f fd, Fun K "__init__" qual st f fd ∧ Dxi K mg x C f
theorem xin_ok {x : Str} (h : (Fb.xin x).ok K = true) : PySem.W.excIn K (He.ga K x) vErr "ValueError.__new__" = true := h
theorem dxc_ok {x : Str} (h : (Fb.exc x).ok K = true) (hm : mg x = some (.ref (He.ga K x))) : Dxc K mg x (He.ga K x) := by
  obtain ⟨h1, h⟩ := He.ba h
  obtain ⟨h2, h⟩ := He.ba h
  obtain ⟨h3, h⟩ := He.ba h
  obtain ⟨h4, h⟩ := He.ba h
  obtain ⟨h5, h⟩ := He.ba h
  obtain ⟨h6, h7⟩ := He.ba h
  have i := isiB_ok h7
  exact ⟨hm, h1, of_decide_eq_true h2, of_decide_eq_true h3, ⟨of_decide_eq_true h4, of_decide_eq_true h5, of_decide_eq_true h2, h6, i.1, i.2, i.3, i.4⟩⟩
theorem fun_of {x qual : Str} {st : Stmt} {f : Addr} {fd : FuncData} (F : FunD K x qual (defArgs st) (defBody st) (defScope st) [] [] f fd) : Fun K x qual st f fd := by
  obtain ⟨oc, od, dV, kV, doc, pm, an, cdv, ct, osl, e, lk, hcd, hD, hK⟩ := F.ex
  rcases hD with ⟨_, rfl⟩ | ⟨z, _⟩
  · exact ⟨⟨oc, od, kV, doc, pm, an, cdv, ct, osl, e, lk, hcd⟩, F.kp⟩
  · exact absurd rfl z
abbrev dD (x : Str) (st : Stmt) : He.DefD := ⟨(x, none), x, x, defArgs st, defBody st, defScope st, [], []⟩
abbrev dM (C m qual : Str) (st : Stmt) : He.DefD := ⟨(C, some m), m, qual, defArgs st, defBody st, defScope st, [], []⟩
theorem dfn_of {x : Str} {st : Stmt} (c : He.SaysD fa fn K) (G : mg x = some (.ref (He.ga K x))) (i : Nat) (e : fn[i]? = some (dD x st) := by rfl) : Dfn K mg x st := by
  obtain ⟨fd, F⟩ := c.def_ i e
  exact ⟨_, fd, fun_of F, G⟩
theorem dmt_of {C m qual : Str} {st : Stmt} (c : He.SaysD fa fn K) (M : Meth K (He.ga K C) m (He.ma K (He.ga K C) m)) (i : Nat) (e : fn[i]? = some (dM C m qual st) := by rfl) : Dmt K (He.ga K C) m qual st := by
  obtain ⟨fd, F⟩ := c.def_ i e
  exact ⟨_, fd, fun_of F, M⟩
theorem din_of {C qual : Str} {st : Stmt} (c : He.SaysD fa fn K) (M : Mk K (He.ga K C) (He.ma K (He.ga K C) "__init__")) (i : Nat) (e : fn[i]? = some (dM C "__init__" qual st) := by rfl) : Din K (He.ga K C) qual st := by
  obtain ⟨fd, F⟩ := c.def_ i e
  exact ⟨_, fd, fun_of F, M⟩
end
/-! the hook: what the names reach in n steps, and the interpreter's statics -/
def asY (n : Nat) (g : Addr → Option Obj) : List Addr := He.asD g n ++ [cStatics]
abbrev kY (n : Nat) (g : Addr → Option Obj) : PySem.W.Frag := He.frT g (asY n g)
abbrev AlY : Type := He.AlT × Bool
def obsY (n : Nat) (fa : List He.Fa) (fn : List He.DefD) (ex : PySem.W.Frag → Bool) (g : Addr → Option Obj) : AlY := (He.obsT fa fn [] (kY n g), ex (kY n g))
theorem saysY {n : Nat} {fa : List He.Fa} {fn : List He.DefD} {ex : PySem.W.Frag → Bool} {w : World} {h : Heap} (e : obsY n fa fn ex h.get? = (He.valT fn [] w, true)) : He.SaysX fa fn [] [] ex w h (kY n h.get?) :=
  ⟨congrArg (fun z : AlY => z.1) e, congrArg (fun z : AlY => z.2) e, fun _ q => (by cases q), fun _ q => (by cases q), fun _ q => (by cases q)⟩
def hookY (n : Nat) (fa : List He.Fa) (fn : List He.DefD) (ex : PySem.W.Frag → Bool) : PySem.W.Hook where
  α := AlY
  obs := fun s => obsY n fa fn ex s.heap.get?
  val := fun w => (He.valT fn [] w, true)
  says := fun w h => ∃ K : PySem.W.Frag, K.In h ∧ He.SaysX fa fn [] [] ex w h K
  of := fun _ _ e => ⟨_, He.frT_in, saysY e⟩
  keeps := fun _ _ _ ⟨K, hK, c⟩ k => ⟨K, PySem.W.Frag.In.keeps hK k, ⟨c.t, c.more, c.hd, c.out, fun _ q => (by cases q)⟩⟩
theorem obsY_eq {n : Nat} {fa : List He.Fa} {fn : List He.DefD} {ex : PySem.W.Frag → Bool} {g : Addr → Option Obj} {s : Shared} (h : ∀ a, g a = s.heap.get? a) : obsY n fa fn ex g = (hookY n fa fn ex).obs s := by
  have e : g = s.heap.get? := funext h
  rw [e] <;> rfl
/-- two looks are one -/
theorem obsY_app {n : Nat} {fa fa' : List He.Fa} {fn fn' : List He.DefD} {fb fb' : List Fb} {g : Addr → Option Obj} {w : World} (h1 : obsY n fa fn (exB fb) g = (He.valT fn [] w, true)) (h2 : obsY n fa' fn' (exB fb') g = (He.valT fn' [] w, true)) :
    obsY n (fa ++ fa') (fn ++ fn') (exB (fb ++ fb')) g = (He.valT (fn ++ fn') [] w, true) := by
  unfold obsY at *
  generalize kY n g = K at *
  unfold He.obsT He.obsD He.valT He.valD exB at *
  obtain ⟨h1, e1⟩ := Prod.mk.inj h1
  obtain ⟨h2, e2⟩ := Prod.mk.inj h2
  obtain ⟨h1, _⟩ := Prod.mk.inj h1
  obtain ⟨h2, _⟩ := Prod.mk.inj h2
  obtain ⟨a1, m1⟩ := Prod.mk.inj h1
  obtain ⟨a2, m2⟩ := Prod.mk.inj h2
  obtain ⟨p1, q1⟩ := He.ba a1
  obtain ⟨p2, q2⟩ := He.ba a2
  rw [List.all_append, List.all_append, List.all_append, List.map_append, List.map_append, p1, p2, q1, q2, m1, m2, e1, e2]
  rfl
theorem map_obs {n : Nat} {fa fa' : List He.Fa} {fn fn' : List He.DefD} {fb fb' : List Fb} {w : World} {o : Option PySem.W.SharedT} (h1 : o.map (fun s => obsY n fa fn (exB fb) (HandSHeadRun.getT s)) = some (He.valT fn [] w, true)) (h2 : o.map (fun s => obsY n fa' fn' (exB fb') (HandSHeadRun.getT s)) = some (He.valT fn' [] w, true)) :
    o.map (fun s => obsY n (fa ++ fa') (fn ++ fn') (exB (fb ++ fb')) (HandSHeadRun.getT s)) = some (He.valT (fn ++ fn') [] w, true) := by
  obtain ⟨s, rfl, e1⟩ := Option.map_eq_some_iff.mp h1
  obtain ⟨s2, q2, e2⟩ := Option.map_eq_some_iff.mp h2
  cases q2
  exact congrArg some (obsY_app e1 e2)
end Sx
set_option Elab.async false
set_option linter.all false
set_option maxRecDepth 100000
set_option maxHeartbeats 2000000
/-! Owned instances within owned ones: a field's list frozen, += of a field, pop, a walk over an owned dict. -/
namespace Sx
open PySem L2
/-- fields, one of which held a list -/
abbrev FrF (K : PySem.W.Frag) (q : Addr) (ds : List D) (fs fs' : List (Str × D)) : Prop := ∀ F vs, Fd K F (.ref q) (.lst ds) → FdFs K F vs fs → FdFs K F vs fs'
section
variable {X : Cx} {W : WX} {g g' : Gm} {l l' : List Res} {e e2 c a b o : Expr} {d d1 d2 : D} {pos p2 apos : Pos} {ds : List D} {x : Str} {rest sts body : List Stmt} {β : Type} {Om : β → Po} {m : β}
end
section
variable {X : Cx} {W : WX} {g : Gm} {l : List Res} {sts rest : List Stmt} {p q : Addr} {pos : Pos} {S1 : Type} {Om : S1 → Po} {m1 : S1}
end
/-! what is owned at places that nobody tells -/
def packR {A : Type} (f : A → List Res) : Res := ⟨fun F M => ∃ a, Rs (f a) F M, fun e ⟨a, r⟩ => ⟨a, Rs.mono e r⟩, fun ⟨_, r⟩ => Rs.nt r⟩
section
variable {X : Cx} {W : WX} {g : Gm} {l : List Res} {sts : List Stmt} {β : Type} {Om : β → Po} {m : β}
end
end Sx
set_option Elab.async false
set_option linter.all false
set_option maxRecDepth 100000
set_option maxHeartbeats 4000000
namespace Lw
open PySem L2 Sx
/-! ### plain: names, roads, nets -/
theorem szS {n : Nat} (h : n ≤ 10000) : n ≤ sizeLine := Nat.le_trans h (by decide)
abbrev small : Str := "abcdefghijklmnopqrstuvwxyz"
theorem small_tl : TL.tl small = (List.range 26).map fun i => 97 + i := by decide +kernel
theorem small_in {c : Nat} : c ∈ TL.tl small ↔ 97 ≤ c ∧ c ≤ 122 := by
  rw [small_tl, List.mem_map]
  constructor
  · rintro ⟨i, hi, rfl⟩
    have := List.mem_range.mp hi
    omega
  · intro h
    exact ⟨c - 97, List.mem_range.mpr (by omega), by omega⟩
structure OkN (x : Str) : Prop where
  lo : 1 ≤ x.length
  hi : x.length ≤ 8
  sg : ∀ c ∈ TL.tl x, 97 ≤ c ∧ c ≤ 122
def nameB (x : Str) : Bool := decide (1 ≤ (x.length : Int)) && decide ((x.length : Int) ≤ 8) && ((TL.tl x).map fun c => decide (c ∈ TL.tl small)).all id
theorem nameB_iff {x : Str} : nameB x = true ↔ OkN x := by
  unfold nameB
  rw [Bool.and_eq_true, Bool.and_eq_true, decide_eq_true_iff, decide_eq_true_iff, List.all_map, List.all_eq_true]
  constructor
  · rintro ⟨⟨h1, h2⟩, h3⟩
    exact ⟨by omega, by omega, fun c hc => small_in.mp (of_decide_eq_true (h3 c hc))⟩
  · intro h
    exact ⟨⟨by have := h.lo; omega, by have := h.hi; omega⟩, fun c hc => decide_eq_true (small_in.mpr (h.sg c hc))⟩
theorem OkN.str {x : Str} (h : OkN x) : PySem.PyData.strOk x = true := by
  show x.cps.all (fun c => decide (c < 0x110000)) = true
  rw [← Array.all_toList]
  refine List.all_eq_true.mpr fun c hc => decide_eq_true ?_
  have := h.sg c hc
  omega
structure OkH (hs : List Str) : Prop where
  ok : ∀ h ∈ hs, OkN h
  nd : hs.Nodup
  le : hs.length ≤ 12
abbrev Road := Str × Str × Int × Int
structure OkR (hs : List Str) (r : Road) : Prop where
  b : r.1 ∈ hs
  e : r.2.1 ∈ hs
  ne : r.1 ≠ r.2.1
  t : 1 ≤ r.2.2.1 ∧ r.2.2.1 ≤ 9
  w : 1 ≤ r.2.2.2 ∧ r.2.2.2 ≤ 1000000000
structure OkG (n : List Str × List Road) : Prop where
  h : OkH n.1
  r : ∀ r ∈ n.2, OkR n.1 r
  le : n.2.length ≤ 40
def roadD (r : Road) : D := .tup [.str r.1, .str r.2.1, .int r.2.2.1, .int r.2.2.2]
abbrev housesD (hs : List Str) : List D := hs.map .str
abbrev roadsD (rs : List Road) : List D := rs.map roadD
theorem mem_take_nodup {hs : List Str} {i : Nat} {x : Str} (nd : hs.Nodup) (h : hs[i]? = some x) : x ∉ hs.take i := by
  intro hm
  obtain ⟨j, hj⟩ := List.getElem?_of_mem hm
  rw [List.getElem?_take] at hj
  split at hj
  · rename_i hlt
    have h1 := List.getElem?_eq_some_iff.mp h
    have h2 := List.getElem?_eq_some_iff.mp hj
    obtain ⟨l1, e1⟩ := h1
    obtain ⟨l2, e2⟩ := h2
    have := (List.nodup_iff_pairwise_ne.mp nd)
    have p := List.pairwise_iff_getElem.mp this j i l2 l1 hlt
    exact p (e2.trans e1.symm)
  · cases hj
end Lw
set_option Elab.async false
set_option linter.all false
set_option maxRecDepth 100000
set_option maxHeartbeats 4000000
namespace Lw
open PySem L2 Sx
def top (i : Nat) : Stmt := PySem.Challenge.pw_postroad_k21_ways_set_and_dropped.main.body.getD i (.Pass ⟨0, 0, 0, 0⟩)
abbrev s_wall : Stmt := top 0
abbrev s_is_whole : Stmt := top 12
abbrev s_is_name : Stmt := top 13
abbrev s_are_houses : Stmt := top 14
abbrev s_is_road : Stmt := top 15
abbrev s_law_cell_at : Stmt := top 20
abbrev s_law_houses : Stmt := top 21
abbrev s_law_road : Stmt := top 22
abbrev s_law_letter : Stmt := top 23
abbrev s_law_end : Stmt := top 24
abbrev s_law_deed : Stmt := top 25
abbrev s_law_asked : Stmt := top 26
abbrev s_law_due : Stmt := top 27
abbrev s_law_right : Stmt := top 28
abbrev s_law : Stmt := top 29
abbrev s_Net_init : Stmt := inClass (top 16) 0
abbrev s_Net_houses : Stmt := inClass (top 16) 1
abbrev s_Net_roads : Stmt := inClass (top 16) 2
abbrev s_Net_road : Stmt := inClass (top 16) 3
abbrev s_Net_known : Stmt := inClass (top 16) 4
abbrev s_Net_out_of : Stmt := inClass (top 16) 5
abbrev s_Net_into : Stmt := inClass (top 16) 6
abbrev s_Net_far : Stmt := inClass (top 16) 7
abbrev s_Ways_init : Stmt := inClass (top 18) 0
abbrev s_Ways_need_pair : Stmt := inClass (top 18) 1
abbrev s_Ways_set_way : Stmt := inClass (top 18) 2
abbrev s_Ways_drop_way : Stmt := inClass (top 18) 3
abbrev s_Ways_way : Stmt := inClass (top 18) 4
abbrev s_Ways_route : Stmt := inClass (top 18) 5
abbrev s_Ways_pairs : Stmt := inClass (top 18) 6
abbrev ns_wall : List Str := ["k"]
abbrev ns_is_whole : List Str := ["thing", "least", "greatest"]
theorem cs_is_whole : FnScope ns_is_whole ["thing", "least", "greatest"] (defScope s_is_whole) := ⟨rfl, rfl, rfl, by decide +kernel, rfl, by decide +kernel, by decide +kernel⟩
abbrev ns_is_name : List Str := ["thing", "sign"]
theorem cs_is_name : FnScope ns_is_name ["thing"] (defScope s_is_name) := ⟨rfl, rfl, rfl, by decide +kernel, rfl, by decide +kernel, by decide +kernel⟩
abbrev ns_are_houses : List Str := ["thing", "at", "name"]
theorem cs_are_houses : FnScope ns_are_houses ["thing"] (defScope s_are_houses) := ⟨rfl, rfl, rfl, by decide +kernel, rfl, by decide +kernel, by decide +kernel⟩
abbrev ns_is_road : List Str := ["thing", "names", "end"]
theorem cs_is_road : FnScope ns_is_road ["thing", "names"] (defScope s_is_road) := ⟨rfl, rfl, rfl, by decide +kernel, rfl, by decide +kernel, by decide +kernel⟩
abbrev ns_law_cell_at : List Str := ["_law_script", "_law_k"]
theorem cs_law_cell_at : FnScope ns_law_cell_at ["_law_script", "_law_k"] (defScope s_law_cell_at) := ⟨rfl, rfl, rfl, by decide +kernel, rfl, by decide +kernel, by decide +kernel⟩
abbrev ns_law_houses : List Str := ["_law_cell", "_law_many", "_law_letters", "_law_size", "_law_at", "_law_names", "_law_k", "_law_name", "_law_j", "_law_place"]
theorem cs_law_houses : FnScope ns_law_houses ["_law_cell", "_law_many"] (defScope s_law_houses) := ⟨rfl, rfl, rfl, by decide +kernel, rfl, by decide +kernel, by decide +kernel⟩
abbrev ns_law_road : List Str := ["_law_cell", "_law_names", "_law_n", "_law_many", "_law_first", "_law_last", "_law_room"]
theorem cs_law_road : FnScope ns_law_road ["_law_cell", "_law_names"] (defScope s_law_road) := ⟨rfl, rfl, rfl, by decide +kernel, rfl, by decide +kernel, by decide +kernel⟩
abbrev ns_law_letter : List Str := ["_law_cell", "_law_names", "_law_base", "_law_n", "_law_many", "_law_first", "_law_last"]
abbrev ns_law_end : List Str := ["_law_cell", "_law_names"]
theorem cs_law_end : FnScope ns_law_end ["_law_cell", "_law_names"] (defScope s_law_end) := ⟨rfl, rfl, rfl, by decide +kernel, rfl, by decide +kernel, by decide +kernel⟩
abbrev ns_law_deed : List Str := ["_law_table", "_law_house", "_law_goal", "_law_road_here", "_law_drops", "_law_error", "_law_found", "e"]
theorem cs_law_deed : FnScope ns_law_deed ["_law_table", "_law_house", "_law_goal", "_law_road_here", "_law_drops"] (defScope s_law_deed) := ⟨rfl, rfl, rfl, by decide +kernel, rfl, by decide +kernel, by decide +kernel⟩
abbrev ns_law_asked : List Str := ["_law_table", "_law_house", "_law_goal", "_law_error", "_law_found", "e"]
theorem cs_law_asked : FnScope ns_law_asked ["_law_table", "_law_house", "_law_goal"] (defScope s_law_asked) := ⟨rfl, rfl, rfl, by decide +kernel, rfl, by decide +kernel, by decide +kernel⟩
abbrev ns_law_due : List Str := ["_law_names", "_law_lines", "_law_house", "_law_goal", "_law_road_here", "_law_drops"]
theorem cs_law_due : FnScope ns_law_due ["_law_names", "_law_lines", "_law_house", "_law_goal", "_law_road_here", "_law_drops"] (defScope s_law_due) := ⟨rfl, rfl, rfl, by decide +kernel, rfl, by decide +kernel, by decide +kernel⟩
abbrev ns_law_right : List Str := ["_law_table", "_law_kept", "_law_found", "_law_due_here", "_law_key"]
theorem cs_law_right : FnScope ns_law_right ["_law_table", "_law_kept"] (defScope s_law_right) := ⟨rfl, rfl, rfl, by decide +kernel, rfl, by decide +kernel, by decide +kernel⟩
abbrev ns_law : List Str := ["_law_script", "_law_names", "_law_lines", "_law_net", "_law_tables", "_law_kept", "_law_cell", "_law_n", "_law_k", "_law_house", "_law_goal", "_law_road_here", "_law_drops", "_law_mine", "_law_due_here", "_law_told", "_law_number", "_law_line"]
theorem cs_law : FnScope ns_law ["_law_script"] (defScope s_law) := ⟨rfl, rfl, rfl, by decide +kernel, rfl, by decide +kernel, by decide +kernel⟩
abbrev ns_Net_init : List Str := ["self", "houses", "roads", "one"]
theorem cs_Net_init : FnScope ns_Net_init ["self", "houses", "roads"] (defScope s_Net_init) := ⟨rfl, rfl, rfl, by decide +kernel, rfl, by decide +kernel, by decide +kernel⟩
abbrev ns_Net_houses : List Str := ["self"]
abbrev ns_Net_roads : List Str := ["self"]
abbrev ns_Net_road : List Str := ["self", "number"]
abbrev ns_Net_known : List Str := ["self", "house"]
theorem cs_Net_known : FnScope ns_Net_known ["self", "house"] (defScope s_Net_known) := ⟨rfl, rfl, rfl, by decide +kernel, rfl, by decide +kernel, by decide +kernel⟩
abbrev ns_Net_out_of : List Str := ["self", "house", "number", "one"]
theorem cs_Net_out_of : FnScope ns_Net_out_of ["self", "house"] (defScope s_Net_out_of) := ⟨rfl, rfl, rfl, by decide +kernel, rfl, by decide +kernel, by decide +kernel⟩
abbrev ns_Net_into : List Str := ["self", "house"]
abbrev ns_Net_far : List Str := ["self", "house", "goal"]
abbrev ns_Ways_init : List Str := ["self", "net"]
theorem cs_Ways_init : FnScope ns_Ways_init ["self", "net"] (defScope s_Ways_init) := ⟨rfl, rfl, rfl, by decide +kernel, rfl, by decide +kernel, by decide +kernel⟩
abbrev ns_Ways_need_pair : List Str := ["self", "house", "goal"]
theorem cs_Ways_need_pair : FnScope ns_Ways_need_pair ["self", "house", "goal"] (defScope s_Ways_need_pair) := ⟨rfl, rfl, rfl, by decide +kernel, rfl, by decide +kernel, by decide +kernel⟩
abbrev ns_Ways_set_way : List Str := ["self", "house", "goal", "road"]
theorem cs_Ways_set_way : FnScope ns_Ways_set_way ["self", "house", "goal", "road"] (defScope s_Ways_set_way) := ⟨rfl, rfl, rfl, by decide +kernel, rfl, by decide +kernel, by decide +kernel⟩
abbrev ns_Ways_drop_way : List Str := ["self", "house", "goal"]
theorem cs_Ways_drop_way : FnScope ns_Ways_drop_way ["self", "house", "goal"] (defScope s_Ways_drop_way) := ⟨rfl, rfl, rfl, by decide +kernel, rfl, by decide +kernel, by decide +kernel⟩
abbrev ns_Ways_way : List Str := ["self", "house", "goal"]
theorem cs_Ways_way : FnScope ns_Ways_way ["self", "house", "goal"] (defScope s_Ways_way) := ⟨rfl, rfl, rfl, by decide +kernel, rfl, by decide +kernel, by decide +kernel⟩
abbrev ns_Ways_route : List Str := ["self", "house", "goal"]
abbrev ns_Ways_pairs : List Str := ["self", "house", "goal"]
theorem cs_Ways_pairs : FnScope ns_Ways_pairs ["self"] (defScope s_Ways_pairs) := ⟨rfl, rfl, rfl, by decide +kernel, rfl, by decide +kernel, by decide +kernel⟩
structure Cs where
  (RoadError NoNet NoHouse NoRoad Net Ways : Addr)
structure Top (K : PySem.W.Frag) (mg : Str → Option Value) (c : Cs) : Prop where
  z_ValueError : mg "ValueError" = none
  z_all : mg "all" = none
  z_enumerate : mg "enumerate" = none
  z_range : mg "range" = none
  z_len : mg "len" = none
  z_sorted : mg "sorted" = none
  z_isinstance : mg "isinstance" = none
  z_int : mg "int" = none
  z_list : mg "list" = none
  z_bool : mg "bool" = none
  z_str : mg "str" = none
  z_tuple : mg "tuple" = none
  d_wall : Dfn K mg "_wall" s_wall
  d_is_whole : Dfn K mg "is_whole" s_is_whole
  d_is_name : Dfn K mg "is_name" s_is_name
  d_are_houses : Dfn K mg "are_houses" s_are_houses
  d_is_road : Dfn K mg "is_road" s_is_road
  d_law_cell_at : Dfn K mg "_law_cell_at" s_law_cell_at
  d_law_houses : Dfn K mg "_law_houses" s_law_houses
  d_law_road : Dfn K mg "_law_road" s_law_road
  d_law_letter : Dfn K mg "_law_letter" s_law_letter
  d_law_end : Dfn K mg "_law_end" s_law_end
  d_law_deed : Dfn K mg "_law_deed" s_law_deed
  d_law_asked : Dfn K mg "_law_asked" s_law_asked
  d_law_due : Dfn K mg "_law_due" s_law_due
  d_law_right : Dfn K mg "_law_right" s_law_right
  d_law : Dfn K mg "law" s_law
  k_SMALL : ∃ t, mg "SMALL" = some (.str "abcdefghijklmnopqrstuvwxyz" t)
  k_MOST_HOUSES : ∃ t, mg "MOST_HOUSES" = some (.int 12 t)
  k_MOST_ROADS : ∃ t, mg "MOST_ROADS" = some (.int 40 t)
  k_LONGEST : ∃ t, mg "LONGEST" = some (.int 9 t)
  k_WIDEST : ∃ t, mg "WIDEST" = some (.int 1000000000 t)
  c_Net : Dcl K mg "Net" c.Net
  i_Net : Isi K c.Net
  d_Net_init : Din K c.Net "Net.__init__" s_Net_init
  d_Net_houses : Dmt K c.Net "houses" "Net.houses" s_Net_houses
  d_Net_roads : Dmt K c.Net "roads" "Net.roads" s_Net_roads
  d_Net_road : Dmt K c.Net "road" "Net.road" s_Net_road
  d_Net_known : Dmt K c.Net "known" "Net.known" s_Net_known
  d_Net_out_of : Dmt K c.Net "out_of" "Net.out_of" s_Net_out_of
  d_Net_into : Dmt K c.Net "into" "Net.into" s_Net_into
  d_Net_far : Dmt K c.Net "far" "Net.far" s_Net_far
  n_Net_names : NoAttr K c.Net "names"
  n_Net_lines : NoAttr K c.Net "lines"
  c_Ways : Dcl K mg "Ways" c.Ways
  i_Ways : Isi K c.Ways
  d_Ways_init : Din K c.Ways "Ways.__init__" s_Ways_init
  d_Ways_need_pair : Dmt K c.Ways "need_pair" "Ways.need_pair" s_Ways_need_pair
  d_Ways_set_way : Dmt K c.Ways "set_way" "Ways.set_way" s_Ways_set_way
  d_Ways_drop_way : Dmt K c.Ways "drop_way" "Ways.drop_way" s_Ways_drop_way
  d_Ways_way : Dmt K c.Ways "way" "Ways.way" s_Ways_way
  d_Ways_route : Dmt K c.Ways "route" "Ways.route" s_Ways_route
  d_Ways_pairs : Dmt K c.Ways "pairs" "Ways.pairs" s_Ways_pairs
  n_Ways_net : NoAttr K c.Ways "net"
  n_Ways_told : NoAttr K c.Ways "told"
  x_RoadError : Dxc K mg "RoadError" c.RoadError
  xi_RoadError : PySem.W.excIn K c.RoadError vErr "ValueError.__new__" = true
  x_NoNet : Dxc K mg "NoNet" c.NoNet
  xi_NoNet : PySem.W.excIn K c.NoNet vErr "ValueError.__new__" = true
  x_NoHouse : Dxc K mg "NoHouse" c.NoHouse
  xi_NoHouse : PySem.W.excIn K c.NoHouse vErr "ValueError.__new__" = true
  x_NoRoad : Dxc K mg "NoRoad" c.NoRoad
  xi_NoRoad : PySem.W.excIn K c.NoRoad vErr "ValueError.__new__" = true
  xk_NoNet_RoadError : PySem.W.kitOne K (.ref c.NoNet) (.ref c.RoadError) = some true
  xk_NoNet_NoHouse : PySem.W.kitOne K (.ref c.NoNet) (.ref c.NoHouse) = some false
  xm_NoNet_NoHouse : PySem.W.exmOne K (.ref c.NoNet) (.ref c.NoHouse) = some false
  xk_NoNet_NoRoad : PySem.W.kitOne K (.ref c.NoNet) (.ref c.NoRoad) = some false
  xm_NoNet_NoRoad : PySem.W.exmOne K (.ref c.NoNet) (.ref c.NoRoad) = some false
  xv_NoNet : PySem.W.kitOne K (.ref c.NoNet) (.type "ValueError") = some true
  xk_NoHouse_RoadError : PySem.W.kitOne K (.ref c.NoHouse) (.ref c.RoadError) = some true
  xk_NoHouse_NoHouse : PySem.W.kitOne K (.ref c.NoHouse) (.ref c.NoHouse) = some true
  xm_NoHouse_NoHouse : PySem.W.exmOne K (.ref c.NoHouse) (.ref c.NoHouse) = some true
  xk_NoHouse_NoRoad : PySem.W.kitOne K (.ref c.NoHouse) (.ref c.NoRoad) = some false
  xm_NoHouse_NoRoad : PySem.W.exmOne K (.ref c.NoHouse) (.ref c.NoRoad) = some false
  xv_NoHouse : PySem.W.kitOne K (.ref c.NoHouse) (.type "ValueError") = some true
  xk_NoRoad_RoadError : PySem.W.kitOne K (.ref c.NoRoad) (.ref c.RoadError) = some true
  xk_NoRoad_NoHouse : PySem.W.kitOne K (.ref c.NoRoad) (.ref c.NoHouse) = some false
  xm_NoRoad_NoHouse : PySem.W.exmOne K (.ref c.NoRoad) (.ref c.NoHouse) = some false
  xk_NoRoad_NoRoad : PySem.W.kitOne K (.ref c.NoRoad) (.ref c.NoRoad) = some true
  xm_NoRoad_NoRoad : PySem.W.exmOne K (.ref c.NoRoad) (.ref c.NoRoad) = some true
  xv_NoRoad : PySem.W.kitOne K (.ref c.NoRoad) (.type "ValueError") = some true
  xn_RoadError : PySem.W.kitOne K (.type "NoneType") (.ref c.RoadError) = some false
  xn_NoHouse : PySem.W.kitOne K (.type "NoneType") (.ref c.NoHouse) = some false
  xn_NoRoad : PySem.W.kitOne K (.type "NoneType") (.ref c.NoRoad) = some false
/-! ### the walk: names, roads, nets -/
section
variable {P : Program} {w : World} {K : PySem.W.Frag} {mg : Str → Option Value} {base : Heap} {c : Cs}
abbrev netD (c : Cs) (n : List Str × List Road) : D := .ins c.Net [("names", .lst (housesD n.1)), ("lines", .lst (roadsD n.2))]
theorem g_is_whole (T : Top K mg c) : Glo P w K mg base 1 "is_whole" ["thing", "least", "greatest"] (Pu K (fun _ : Int × Int × Int => True) (fun a => [.int a.1, .int a.2.1, .int a.2.2]) (fun a => .bl (decide (a.2.1 ≤ a.1) && decide (a.1 ≤ a.2.2)))) :=
  glo_of T.d_is_whole (fun _ _ _ _ _ _ us hl => match us, hl with | [_, _, _], _ => rfl) fun f fd F => fn_ok F cs_is_whole (fun _ => rfl) fun cdv A outer s H E a hr hok => by
    obtain ⟨t, lo, hi⟩ := a
    exact blk_ret (px_and (k := true) (px_isT "int" "int" true T.z_isinstance T.z_int (px_var (pv 0) rfl)) fun _ => px_and (k := true) (px_not (px_isT "bool" "int" false T.z_isinstance T.z_bool (px_var (pv 0) rfl))) fun _ => px_one (px_chain op_le op_le (px_var (pv 1) rfl) (px_var (pv 0) rfl) o_le (px_var (pv 2) rfl) (fun _ => o_le))) ⟨rfl, rfl⟩
theorem g_is_name (T : Top K mg c) : Glo P w K mg base 1 "is_name" ["thing"] (Pu K (fun x : Str => x.length ≤ 10000) (fun x => [.str x]) (fun x => .bl (nameB x))) :=
  glo_of T.d_is_name (fun _ _ _ _ _ _ us hl => match us, hl with | [_], _ => rfl) fun f fd F => fn_ok F cs_is_name (fun _ => rfl) fun cdv A outer s H E a hr hok => by
    have nd := cs_is_name.nd
    have hl : a.length ≤ 10000 := hok
    refine blk_if (ts_w (tw_or (k := false) (ts_not (ts_val (k := true) (px_isT "str" "str" true T.z_isinstance T.z_str (px_var (pv 0) rfl)))) fun _ => tw_or1 (ts_not (ts_chain op_le op_le px_int (px_bi call_len_str T.z_len (pa_c (px_var (pv 0) rfl) pa_n) (o_lenS (szS hl))) o_le px_int (fun _ => o_le))))) (fun h => ?_) (fun h => ?_)
    · refine blk_ret px_bl ⟨?_, rfl⟩
      have h : (!(decide (1 ≤ (a.length : Int)) && decide ((a.length : Int) ≤ 8))) = true := h
      show D.bl false = D.bl (nameB a)
      unfold nameB
      rw [Bool.not_eq_true'] at h
      rw [h]
      rfl
    · have h : (!(decide (1 ≤ (a.length : Int)) && decide ((a.length : Int) ≤ 8))) = false := h
      refine blk_nil (blk_ret (px_bi (cr_all rfl) T.z_all (pa_c (px_lc (own := [("sign", 1)]) (is := [1]) (rs := ((TL.tl a).map fun c => decide (c ∈ TL.tl small)).map .bl) rfl nd (it_str (px_var (pv 0) rfl)) (blkOk_by (N := ns_is_name) (sc := defScope s_is_name) (by decide +kernel)) (fun _ _ _ _ _ => pg_name (i := 1) nd rfl (.inl rfl)) (by decide) ?c1 ?c2 ?c3) pa_n) (o_all .f)) ⟨?c4, rfl⟩)
      case c1 => unfold signs; simp
      case c2 => rw [List.length_map, List.length_map, ← TL.len_tl]; exact szS hl
      case c3 =>
        intro i d hd
        unfold signs at hd
        rw [List.getElem?_map] at hd
        cases e : (TL.tl a)[i]? with
        | none => rw [e] at hd; cases hd
        | some ch =>
          rw [e] at hd
          cases hd
          refine ⟨_, .bl (decide (ch ∈ TL.tl small)), tg_name, by rw [List.getElem?_map, List.getElem?_map, e]; rfl, fun _ _ _ _ _ => ?_⟩
          exact px_cmp op_in_sign (px_var (pv 1) rfl) (px_gs T.k_SMALL) o_inX
      case c4 =>
        show _ = D.bl (nameB a)
        unfold nameB
        rw [Bool.not_eq_false'] at h
        rw [h]
        rfl
theorem g_are_houses (T : Top K mg c) : Glo P w K mg base 2 "are_houses" ["thing"] (Pu K (fun hs : List Str => OkH hs) (fun hs => [.lst (housesD hs)]) (fun _ => .bl true)) :=
  glo_of T.d_are_houses (fun _ _ _ _ _ _ us hl => match us, hl with | [_], _ => rfl) fun f fd F => fn_ok F cs_are_houses (fun _ => rfl) fun cdv A outer s H E hs hr hok => by
    have nd := cs_are_houses.nd
    have ok : OkH hs := hok
    refine blk_if (k := false) ((ts_w (tw_or (k := false) (ts_not (ts_val (k := true) (px_isT "list" "list" true T.z_isinstance T.z_list (px_var (pv 0) rfl)))) fun _ => tw_or1 (ts_cmp op_gt (px_bi call_len_seq T.z_len (pa_c (px_var (pv 0) rfl) pa_n) o_lenL) (px_gi T.k_MOST_HOUSES) o_gt))).to ?_) (fun h => by cases h) (fun _ => blk_nil ?_)
    · rw [List.length_map]
      have := ok.le
      exact decide_eq_false (by omega)
    refine blk_for (is := [1, 2]) (fun i g l => (∃ o o2, g = [some (.lst (housesD hs)), o, o2]) ∧ l = []) PassesOwn.never rfl (it_enum (px_var (pv 0) rfl) T.z_enumerate) (pg_tup rfl (pgs_cons (pg_name (i := 1) nd rfl (.inl rfl)) (pgs_cons (pg_name (i := 2) nd rfl (.inl rfl)) pgs_nil))) ⟨⟨none, none, rfl⟩, rfl⟩ (fun i d g l hd hI => ?_) (fun g l hI => ?_)
    · obtain ⟨⟨o, o2, rfl⟩, rfl⟩ := hI
      obtain ⟨d', hd', rfl⟩ := enumD_get hd
      obtain ⟨x, hx, rfl⟩ : ∃ x, hs[i]? = some x ∧ d' = .str x := by
        rw [List.getElem?_map] at hd'
        cases e : hs[i]? with
        | none => rw [e] at hd'; cases hd'
        | some x => rw [e] at hd'; cases hd'; exact ⟨x, rfl, rfl⟩
      have okx := ok.ok x (List.mem_of_getElem? hx)
      refine ⟨_, tg_tup rfl rfl, ?_⟩
      refine blk_if (k := false) ((ts_w (tw_or (k := false) ((ts_not (ts_val (px_call (g_is_name T) hr (by decide) x (Nat.le_trans okx.hi (by decide)) (pa_c (px_var (pv 2) rfl) pa_n)))).to (by rw [nameB_iff.mpr okx]; rfl)) fun _ => tw_or1 (ts_cmp op_in_seq (px_var (pv 2) rfl) ((px_slL (px_var (pv 0) rfl) .f pz_n (pz_s (px_var (pv 1) rfl))).to (d1 := .lst ((hs.take i).map .str)) ?_) (o_inS (.inl rfl))))).to ?_) (fun h => by cases h) (fun _ => blk_nil (blk_nil ⟨⟨_, _, rfl⟩, rfl⟩))
      · rw [cut_take (by omega), List.map_take]
        rfl
      · exact decide_eq_false (mem_take_nodup ok.nd hx)
    · obtain ⟨⟨o, o2, rfl⟩, rfl⟩ := hI
      exact blk_ret px_bl ⟨rfl, rfl⟩
theorem g_is_road (T : Top K mg c) : Glo P w K mg base 2 "is_road" ["thing", "names"] (Pu K (fun a : Road × List Str => OkH a.2 ∧ OkR a.2 a.1) (fun a => [roadD a.1, .lst (housesD a.2)]) (fun _ => .bl true)) :=
  glo_of T.d_is_road (fun _ _ _ _ _ _ us hl => match us, hl with | [_, _], _ => rfl) fun f fd F => fn_ok F cs_is_road (fun _ => rfl) fun cdv A outer s H E a hr hok => by
    have nd := cs_is_road.nd
    obtain ⟨⟨b, e, t, m⟩, hs⟩ := a
    obtain ⟨oh, orr⟩ : OkH hs ∧ OkR hs (b, e, t, m) := hok
    refine blk_if (k := false) (ts_w (tw_or (k := false) (ts_not (ts_val (k := true) (px_isT "tuple" "tuple" true T.z_isinstance T.z_tuple (px_var (pv 0) rfl)))) fun _ => tw_or1 (ts_cmp op_ne (px_bi call_len_seq T.z_len (pa_c (px_var (pv 0) rfl) pa_n) o_lenT) px_int o_neI))) (fun h => by cases h) (fun _ => blk_nil ?_)
    refine blk_for (is := [2]) (ds := [.str b, .str e]) (fun i g l => (∃ o, g = [some (roadD (b, e, t, m)), some (.lst (housesD hs)), o]) ∧ l = []) PassesOwn.never rfl (it_tup (px_slT (ds := [.str b, .str e, .int t, .int m]) (i := none) (j := some 2) (px_var (pv 0) rfl) pz_n (pz_s px_int))) (pg_name (i := 2) nd rfl (.inl rfl)) ⟨⟨none, rfl⟩, rfl⟩ (fun i d g l hd hI => ?_) (fun g l hI => ?_)
    · obtain ⟨⟨o, rfl⟩, rfl⟩ := hI
      obtain ⟨x, hx, rfl⟩ : ∃ x, x ∈ hs ∧ d = .str x := by
        have hm := List.mem_of_getElem? hd
        simp only [List.mem_cons, List.not_mem_nil, or_false] at hm
        rcases hm with rfl | rfl
        · exact ⟨_, orr.b, rfl⟩
        · exact ⟨_, orr.e, rfl⟩
      have okx := oh.ok x hx
      refine ⟨_, tg_name, ?_⟩
      refine blk_if (k := false) ((ts_w (tw_or (k := false) ((ts_not (ts_val (px_call (g_is_name T) hr (by decide) x (Nat.le_trans okx.hi (by decide)) (pa_c (px_var (pv 2) rfl) pa_n)))).to (by rw [nameB_iff.mpr okx]; rfl)) fun _ => tw_or1 (ts_cmp op_notIn_seq (px_var (pv 2) rfl) (px_var (pv 1) rfl) (o_ninS (xs := hs) (.inl rfl))))).to ?_) (fun h => by cases h) (fun _ => blk_nil (blk_nil ⟨⟨_, rfl⟩, rfl⟩))
      rw [decide_eq_true hx]
      rfl
    · obtain ⟨⟨o, rfl⟩, rfl⟩ := hI
      refine blk_ret (px_and (k := true) (k' := true) ((px_cmp op_ne (px_ix ix_tup (px_var (pv 0) rfl) px_int (o_ixT (d := .str b) rfl)) (px_ix ix_tup (px_var (pv 0) rfl) px_int (o_ixT (d := .str e) rfl)) o_neS).to ?_) fun _ => px_and (k := true) (k' := true) (Px.to (px_call (g_is_whole T) hr (by decide) (t, 1, 9) trivial (pa_c (px_ix ix_tup (px_var (pv 0) rfl) px_int (o_ixT (d := .int t) rfl)) (pa_c px_int (pa_c (px_gi T.k_LONGEST) pa_n)))) ?_) fun _ => px_one (Px.to (px_call (g_is_whole T) hr (by decide) (m, 1, 1000000000) trivial (pa_c (px_ix ix_tup (px_var (pv 0) rfl) px_int (o_ixT (d := .int m) rfl)) (pa_c px_int (pa_c (px_gi T.k_WIDEST) pa_n)))) ?_)) ⟨rfl, rfl⟩
      · have : ¬ b = e := orr.ne
        rw [decide_eq_false this]
        rfl
      · show D.bl (decide (1 ≤ t) && decide (t ≤ 9)) = _
        have := orr.t
        rw [decide_eq_true this.1, decide_eq_true this.2]
        rfl
      · show D.bl (decide (1 ≤ m) && decide (m ≤ 1000000000)) = _
        have := orr.w
        rw [decide_eq_true this.1, decide_eq_true this.2]
        rfl
theorem ne_nl : ¬ (("names" : Str) = "lines") := by decide +kernel
theorem g_Net (T : Top K mg c) : GloC P w K mg base 3 c.Net "Net" ["self", "houses", "roads"] (FnX K (fun a : Addr × List Str × List Road => OkG a.2) (fun a => [.adr a.1, .lst (housesD a.2.1), .lst (roadsD a.2.2)]) (fun a => [ownI K a.1 c.Net []]) (fun a d l => d = .non ∧ l = [ownI K a.1 c.Net [("names", .lst (housesD a.2.1)), ("lines", .lst (roadsD a.2.2))]]) noE) :=
  gloc_of T.d_Net_init T.c_Net (fun _ _ _ _ _ _ us hl => match us, hl with | [_, _, _], _ => rfl) fun f fd F => fn_ok F cs_Net_init (fun _ => rfl) fun cdv A outer s H E a hr hok => by
    have nd := cs_Net_init.nd
    obtain ⟨q, hs, rs⟩ := a
    have ok : OkG (hs, rs) := hok
    refine blk_if (k := false) ((ts_w (tw_or (k := false) (ts_not (ts_val (k := true) (px_call (g_are_houses T) hr (by decide) hs ok.h (pa_c (px_var (pv 1) rfl) pa_n)))) fun _ => tw_or (k := false) (ts_not (ts_val (k := true) (px_isT "list" "list" true T.z_isinstance T.z_list (px_var (pv 2) rfl)))) fun _ => tw_or1 (ts_cmp op_gt (px_bi call_len_seq T.z_len (pa_c (px_var (pv 2) rfl) pa_n) o_lenL) (px_gi T.k_MOST_ROADS) o_gt))).to ?_) (fun h => by cases h) (fun _ => blk_nil ?_)
    · rw [List.length_map]
      have : rs.length ≤ 40 := ok.le
      exact decide_eq_false (by show ¬ ((40 : Int) < (rs.length : Int)); omega)
    refine blk_if (k := false) (ts_not (ts_val (k := true) (px_bi (cr_all rfl) T.z_all (pa_c (px_lc (own := [("one", 3)]) (is := [3]) (rs := (rs.map fun _ => true).map .bl) rfl nd (it_list (px_var (pv 2) rfl)) (blkOk_by (N := ns_Net_init) (sc := defScope s_Net_init) (by decide +kernel)) (fun _ _ _ _ _ => pg_name (i := 3) nd rfl (.inl rfl)) (by decide) ?c1 ?c2 ?c3) pa_n) ?c4))) (fun h => by cases h) (fun _ => blk_nil ?_)
    case c1 => simp
    case c2 => rw [List.length_map, List.length_map]; have h : rs.length ≤ 40 := ok.le; exact Nat.le_trans h (szS (by decide))
    case c3 =>
      intro i d hd
      rw [List.getElem?_map] at hd
      cases e : rs[i]? with
      | none => rw [e] at hd; cases hd
      | some r =>
        rw [e] at hd
        cases hd
        refine ⟨_, .bl true, tg_name, by rw [List.getElem?_map, List.getElem?_map, e]; rfl, fun _ _ _ _ _ => ?_⟩
        exact px_call (g_is_road T) hr (by decide) (r, hs) ⟨ok.h, ok.r r (List.mem_of_getElem? e)⟩ (pa_c (px_var (pv 3) rfl) (pa_c (px_var (pv 1) rfl) pa_n))
    case c4 =>
      have q : (rs.map fun _ => true).all id = true := by simp
      exact (o_all .f).to (congrArg D.bl q)
    refine blk_fld (k := 0) (px_listOf (px_var (pv 1) rfl) .f T.z_list) (px_var (pv 0) rfl) rfl T.c_Net.cl T.n_Net_names (by decide) ?_
    refine blk_fld (k := 0) (px_listOf (px_var (pv 2) rfl) .f T.z_list) (px_var (pv 0) rfl) rfl T.c_Net.cl T.n_Net_lines (by show 1 < 1000; decide) ?_
    refine blk_nil ⟨rfl, ?_⟩
    show [ownI K q _ (putD _ _ (putD _ _ []))] = _
    show [ownI K q _ (if _ then _ else _)] = _
    rw [if_neg ne_nl]
    rfl
theorem look_names {d1 d2 : D} : List.lookup ("names" : Str) [(("names" : Str), d1), ("lines", d2)] = some d1 := by
  rw [List.lookup_cons, beq_self_eq_true]
theorem look_lines {d1 d2 : D} : List.lookup ("lines" : Str) [(("names" : Str), d1), ("lines", d2)] = some d2 := by
  rw [List.lookup_cons, show (("lines" : Str) == "names") = false by decide +kernel, List.lookup_cons, beq_self_eq_true]
theorem look_none {d1 d2 : D} {m : Str} (h1 : (m == "names") = false) (h2 : (m == "lines") = false) : List.lookup m [(("names" : Str), d1), ("lines", d2)] = none := by
  rw [List.lookup_cons, h1, List.lookup_cons, h2]
  rfl
section
variable {X : Cx} {g : Gm} {l : List Res} {e1 e2 o : Expr} {p pos : Pos} {j : Nat} {hs : List Str} {rs : List Road}
theorem px_Net (T : Top X.K X.mg c) (hr : Room j X.A) (hj : 4 ≤ j) (ok : OkG (hs, rs)) (h1 : Px X e1 g l (.lst (housesD hs))) (h2 : Px X e2 g l (.lst (roadsD rs))) (hg : Gl X "Net" := by rfl) (he : starEach [e1, e2] X.env = (false, eval e1 X.env) :: starEach [e2] X.env := by rfl) (hs2 : starEach [e2] X.env = [(false, eval e2 X.env)] := by rfl) (hpl : (backTo pos (starEach [e2] X.env)).any (·.1) = false := by rfl) :
    Px X (.Call (.Name "Net" p) [e1, e2] [] pos) g l (netD c (hs, rs)) :=
  (ev_make (g_Net T) hr hj (fun q => (q, hs, rs)) (fun _ => ok) (pa_c h1 (pa_c h2 pa_n hs2) he) (fun _ => rfl) (fun _ => rfl) (fun q d l' h => ⟨h.1, q, rfl, by rw [h.2]; rfl⟩) hg (by decide) he hpl).frzI
end
end

end Lw
set_option Elab.async false
set_option linter.all false
set_option maxRecDepth 100000
set_option maxHeartbeats 4000000
namespace Lw
open PySem L2 Sx
def hfn_0 : List He.DefD := [dD "_wall" s_wall, dD "is_whole" s_is_whole, dD "is_name" s_is_name, dD "are_houses" s_are_houses, dD "is_road" s_is_road, dD "_law_cell_at" s_law_cell_at, dD "_law_houses" s_law_houses, dD "_law_road" s_law_road, dD "_law_letter" s_law_letter, dD "_law_end" s_law_end, dD "_law_deed" s_law_deed, dD "_law_asked" s_law_asked, dD "_law_due" s_law_due, dD "_law_right" s_law_right, dD "law" s_law]
def hfn_1 : List He.DefD := [dM "Net" "__init__" "Net.__init__" s_Net_init, dM "Net" "houses" "Net.houses" s_Net_houses, dM "Net" "roads" "Net.roads" s_Net_roads, dM "Net" "road" "Net.road" s_Net_road, dM "Net" "known" "Net.known" s_Net_known, dM "Net" "out_of" "Net.out_of" s_Net_out_of, dM "Net" "into" "Net.into" s_Net_into, dM "Net" "far" "Net.far" s_Net_far, dM "Ways" "__init__" "Ways.__init__" s_Ways_init, dM "Ways" "need_pair" "Ways.need_pair" s_Ways_need_pair, dM "Ways" "set_way" "Ways.set_way" s_Ways_set_way, dM "Ways" "drop_way" "Ways.drop_way" s_Ways_drop_way, dM "Ways" "way" "Ways.way" s_Ways_way, dM "Ways" "route" "Ways.route" s_Ways_route, dM "Ways" "pairs" "Ways.pairs" s_Ways_pairs]
def hfn : List He.DefD := hfn_0 ++ hfn_1
def hfa_0 : List He.Fa := [.free "ValueError", .free "all", .free "enumerate", .free "range", .free "len", .free "sorted", .free "isinstance", .free "int", .free "list", .free "bool", .free "str", .free "tuple", .glo "_wall", .glo "is_whole", .glo "is_name", .glo "are_houses", .glo "is_road", .glo "_law_cell_at", .glo "_law_houses", .glo "_law_road", .glo "_law_letter", .glo "_law_end", .glo "_law_deed", .glo "_law_asked", .glo "_law_due", .glo "_law_right", .glo "law", .str "SMALL" "abcdefghijklmnopqrstuvwxyz", .int "MOST_HOUSES" 12, .int "MOST_ROADS" 40] ++ [.int "LONGEST" 9]
def hfa_1 : List He.Fa := [.int "WIDEST" 1000000000, .glo "Net", .cls "Net", .keep "Net", .mkr "Net", .meth "Net" "houses", .meth "Net" "roads", .meth "Net" "road", .meth "Net" "known", .meth "Net" "out_of", .meth "Net" "into", .meth "Net" "far", .noat "Net" "names", .noat "Net" "lines", .glo "Ways", .cls "Ways", .keep "Ways", .mkr "Ways", .meth "Ways" "need_pair", .meth "Ways" "set_way", .meth "Ways" "drop_way", .meth "Ways" "way", .meth "Ways" "route", .meth "Ways" "pairs", .noat "Ways" "net", .noat "Ways" "told", .glo "RoadError", .glo "NoNet", .glo "NoHouse", .glo "NoRoad"]
def hfa : List He.Fa := hfa_0 ++ hfa_1
def hfb_0 : List Fb := [.isi "Net", .isi "Ways", .exc "RoadError", .xin "RoadError", .exc "NoNet", .xin "NoNet", .exc "NoHouse", .xin "NoHouse", .exc "NoRoad", .xin "NoRoad", .kit "NoNet" "RoadError" true, .kit "NoNet" "NoHouse" false, .exm "NoNet" "NoHouse" false, .kit "NoNet" "NoRoad" false, .exm "NoNet" "NoRoad" false, .kitT "NoNet" "ValueError" true]
def hfb_1 : List Fb := [.kit "NoHouse" "RoadError" true, .kit "NoHouse" "NoHouse" true, .exm "NoHouse" "NoHouse" true, .kit "NoHouse" "NoRoad" false, .exm "NoHouse" "NoRoad" false, .kitT "NoHouse" "ValueError" true, .kit "NoRoad" "RoadError" true, .kit "NoRoad" "NoHouse" false, .exm "NoRoad" "NoHouse" false, .kit "NoRoad" "NoRoad" true, .exm "NoRoad" "NoRoad" true, .kitT "NoRoad" "ValueError" true, .kitN "RoadError", .kitN "NoHouse", .kitN "NoRoad"]
def hfb : List Fb := hfb_0 ++ hfb_1
abbrev hex : PySem.W.Frag → Bool := exB hfb
abbrev csK (K : PySem.W.Frag) : Cs := ⟨He.ga K "RoadError", He.ga K "NoNet", He.ga K "NoHouse", He.ga K "NoRoad", He.ga K "Net", He.ga K "Ways"⟩
theorem top_of {K : PySem.W.Frag} {h : Heap} {mg : Str → Option Value} {w : World} (X : K.In h) (G : h.Ns mainGlobals mg) (says : He.SaysX hfa hfn [] [] hex w h K) : Top K mg (csK K) := by
  have c : He.SaysD hfa hfn K := says.t.d
  have cx : exB hfb K = true := says.more
  exact {
    z_ValueError := He.free_ok X G (c.fact 0 (f := .free "ValueError") rfl)
    z_all := He.free_ok X G (c.fact 1 (f := .free "all") rfl)
    z_enumerate := He.free_ok X G (c.fact 2 (f := .free "enumerate") rfl)
    z_range := He.free_ok X G (c.fact 3 (f := .free "range") rfl)
    z_len := He.free_ok X G (c.fact 4 (f := .free "len") rfl)
    z_sorted := He.free_ok X G (c.fact 5 (f := .free "sorted") rfl)
    z_isinstance := He.free_ok X G (c.fact 6 (f := .free "isinstance") rfl)
    z_int := He.free_ok X G (c.fact 7 (f := .free "int") rfl)
    z_list := He.free_ok X G (c.fact 8 (f := .free "list") rfl)
    z_bool := He.free_ok X G (c.fact 9 (f := .free "bool") rfl)
    z_str := He.free_ok X G (c.fact 10 (f := .free "str") rfl)
    z_tuple := He.free_ok X G (c.fact 11 (f := .free "tuple") rfl)
    d_wall := dfn_of c (He.glo_ok X G (c.fact 12 (f := .glo "_wall") rfl)) 0
    d_is_whole := dfn_of c (He.glo_ok X G (c.fact 13 (f := .glo "is_whole") rfl)) 1
    d_is_name := dfn_of c (He.glo_ok X G (c.fact 14 (f := .glo "is_name") rfl)) 2
    d_are_houses := dfn_of c (He.glo_ok X G (c.fact 15 (f := .glo "are_houses") rfl)) 3
    d_is_road := dfn_of c (He.glo_ok X G (c.fact 16 (f := .glo "is_road") rfl)) 4
    d_law_cell_at := dfn_of c (He.glo_ok X G (c.fact 17 (f := .glo "_law_cell_at") rfl)) 5
    d_law_houses := dfn_of c (He.glo_ok X G (c.fact 18 (f := .glo "_law_houses") rfl)) 6
    d_law_road := dfn_of c (He.glo_ok X G (c.fact 19 (f := .glo "_law_road") rfl)) 7
    d_law_letter := dfn_of c (He.glo_ok X G (c.fact 20 (f := .glo "_law_letter") rfl)) 8
    d_law_end := dfn_of c (He.glo_ok X G (c.fact 21 (f := .glo "_law_end") rfl)) 9
    d_law_deed := dfn_of c (He.glo_ok X G (c.fact 22 (f := .glo "_law_deed") rfl)) 10
    d_law_asked := dfn_of c (He.glo_ok X G (c.fact 23 (f := .glo "_law_asked") rfl)) 11
    d_law_due := dfn_of c (He.glo_ok X G (c.fact 24 (f := .glo "_law_due") rfl)) 12
    d_law_right := dfn_of c (He.glo_ok X G (c.fact 25 (f := .glo "_law_right") rfl)) 13
    d_law := dfn_of c (He.glo_ok X G (c.fact 26 (f := .glo "law") rfl)) 14
    k_SMALL := He.str_ok X G (c.fact 27 (f := .str "SMALL" "abcdefghijklmnopqrstuvwxyz") rfl)
    k_MOST_HOUSES := He.int_ok X G (c.fact 28 (f := .int "MOST_HOUSES" 12) rfl)
    k_MOST_ROADS := He.int_ok X G (c.fact 29 (f := .int "MOST_ROADS" 40) rfl)
    k_LONGEST := He.int_ok X G (c.fact 30 (f := .int "LONGEST" 9) rfl)
    k_WIDEST := He.int_ok X G (c.fact 31 (f := .int "WIDEST" 1000000000) rfl)
    c_Net := ⟨He.glo_ok X G (c.fact 32 (f := .glo "Net") rfl), He.cls_ok (c.fact 33 (f := .cls "Net") rfl), He.keep_ok (c.fact 34 (f := .keep "Net") rfl)⟩
    i_Net := isiB_ok (fb_at cx 0 (f := .isi "Net") rfl)
    d_Net_init := din_of c (He.mkr_ok (c.fact 35 (f := .mkr "Net") rfl)) 15
    d_Net_houses := dmt_of c (He.meth_ok (c.fact 36 (f := .meth "Net" "houses") rfl)) 16
    d_Net_roads := dmt_of c (He.meth_ok (c.fact 37 (f := .meth "Net" "roads") rfl)) 17
    d_Net_road := dmt_of c (He.meth_ok (c.fact 38 (f := .meth "Net" "road") rfl)) 18
    d_Net_known := dmt_of c (He.meth_ok (c.fact 39 (f := .meth "Net" "known") rfl)) 19
    d_Net_out_of := dmt_of c (He.meth_ok (c.fact 40 (f := .meth "Net" "out_of") rfl)) 20
    d_Net_into := dmt_of c (He.meth_ok (c.fact 41 (f := .meth "Net" "into") rfl)) 21
    d_Net_far := dmt_of c (He.meth_ok (c.fact 42 (f := .meth "Net" "far") rfl)) 22
    n_Net_names := He.noat_ok (c.fact 43 (f := .noat "Net" "names") rfl)
    n_Net_lines := He.noat_ok (c.fact 44 (f := .noat "Net" "lines") rfl)
    c_Ways := ⟨He.glo_ok X G (c.fact 45 (f := .glo "Ways") rfl), He.cls_ok (c.fact 46 (f := .cls "Ways") rfl), He.keep_ok (c.fact 47 (f := .keep "Ways") rfl)⟩
    i_Ways := isiB_ok (fb_at cx 1 (f := .isi "Ways") rfl)
    d_Ways_init := din_of c (He.mkr_ok (c.fact 48 (f := .mkr "Ways") rfl)) 23
    d_Ways_need_pair := dmt_of c (He.meth_ok (c.fact 49 (f := .meth "Ways" "need_pair") rfl)) 24
    d_Ways_set_way := dmt_of c (He.meth_ok (c.fact 50 (f := .meth "Ways" "set_way") rfl)) 25
    d_Ways_drop_way := dmt_of c (He.meth_ok (c.fact 51 (f := .meth "Ways" "drop_way") rfl)) 26
    d_Ways_way := dmt_of c (He.meth_ok (c.fact 52 (f := .meth "Ways" "way") rfl)) 27
    d_Ways_route := dmt_of c (He.meth_ok (c.fact 53 (f := .meth "Ways" "route") rfl)) 28
    d_Ways_pairs := dmt_of c (He.meth_ok (c.fact 54 (f := .meth "Ways" "pairs") rfl)) 29
    n_Ways_net := He.noat_ok (c.fact 55 (f := .noat "Ways" "net") rfl)
    n_Ways_told := He.noat_ok (c.fact 56 (f := .noat "Ways" "told") rfl)
    x_RoadError := dxc_ok (fb_at cx 2 (f := .exc "RoadError") rfl) (He.glo_ok X G (c.fact 57 (f := .glo "RoadError") rfl))
    xi_RoadError := xin_ok (fb_at cx 3 (f := .xin "RoadError") rfl)
    x_NoNet := dxc_ok (fb_at cx 4 (f := .exc "NoNet") rfl) (He.glo_ok X G (c.fact 58 (f := .glo "NoNet") rfl))
    xi_NoNet := xin_ok (fb_at cx 5 (f := .xin "NoNet") rfl)
    x_NoHouse := dxc_ok (fb_at cx 6 (f := .exc "NoHouse") rfl) (He.glo_ok X G (c.fact 59 (f := .glo "NoHouse") rfl))
    xi_NoHouse := xin_ok (fb_at cx 7 (f := .xin "NoHouse") rfl)
    x_NoRoad := dxc_ok (fb_at cx 8 (f := .exc "NoRoad") rfl) (He.glo_ok X G (c.fact 60 (f := .glo "NoRoad") rfl))
    xi_NoRoad := xin_ok (fb_at cx 9 (f := .xin "NoRoad") rfl)
    xk_NoNet_RoadError := kit_ok (fb_at cx 10 (f := .kit "NoNet" "RoadError" true) rfl)
    xk_NoNet_NoHouse := kit_ok (fb_at cx 11 (f := .kit "NoNet" "NoHouse" false) rfl)
    xm_NoNet_NoHouse := exm_ok (fb_at cx 12 (f := .exm "NoNet" "NoHouse" false) rfl)
    xk_NoNet_NoRoad := kit_ok (fb_at cx 13 (f := .kit "NoNet" "NoRoad" false) rfl)
    xm_NoNet_NoRoad := exm_ok (fb_at cx 14 (f := .exm "NoNet" "NoRoad" false) rfl)
    xv_NoNet := kitT_ok (fb_at cx 15 (f := .kitT "NoNet" "ValueError" true) rfl)
    xk_NoHouse_RoadError := kit_ok (fb_at cx 16 (f := .kit "NoHouse" "RoadError" true) rfl)
    xk_NoHouse_NoHouse := kit_ok (fb_at cx 17 (f := .kit "NoHouse" "NoHouse" true) rfl)
    xm_NoHouse_NoHouse := exm_ok (fb_at cx 18 (f := .exm "NoHouse" "NoHouse" true) rfl)
    xk_NoHouse_NoRoad := kit_ok (fb_at cx 19 (f := .kit "NoHouse" "NoRoad" false) rfl)
    xm_NoHouse_NoRoad := exm_ok (fb_at cx 20 (f := .exm "NoHouse" "NoRoad" false) rfl)
    xv_NoHouse := kitT_ok (fb_at cx 21 (f := .kitT "NoHouse" "ValueError" true) rfl)
    xk_NoRoad_RoadError := kit_ok (fb_at cx 22 (f := .kit "NoRoad" "RoadError" true) rfl)
    xk_NoRoad_NoHouse := kit_ok (fb_at cx 23 (f := .kit "NoRoad" "NoHouse" false) rfl)
    xm_NoRoad_NoHouse := exm_ok (fb_at cx 24 (f := .exm "NoRoad" "NoHouse" false) rfl)
    xk_NoRoad_NoRoad := kit_ok (fb_at cx 25 (f := .kit "NoRoad" "NoRoad" true) rfl)
    xm_NoRoad_NoRoad := exm_ok (fb_at cx 26 (f := .exm "NoRoad" "NoRoad" true) rfl)
    xv_NoRoad := kitT_ok (fb_at cx 27 (f := .kitT "NoRoad" "ValueError" true) rfl)
    xn_RoadError := kitN_ok (fb_at cx 28 (f := .kitN "RoadError") rfl)
    xn_NoHouse := kitN_ok (fb_at cx 29 (f := .kitN "NoHouse") rfl)
    xn_NoRoad := kitN_ok (fb_at cx 30 (f := .kitN "NoRoad") rfl)
  }
abbrev R : PySem.W.OpenRow := PySem.W.OpenLaw.row PySem.Challenge.rw_postroad_k21_ways_set_and_dropped
abbrev hk : PySem.W.Hook := hookY 5 hfa hfn hex
def ob (s : PySem.W.SharedT) : AlY := obsY 5 hfa hfn hex (HandSHeadRun.getT s)
theorem ob_eq (s : PySem.W.SharedT) : ob s = hk.obs s.abs := obsY_eq (HandSHeadRun.getT_eq s)
def loose : List Str := ["_wall", "RoadError", "NoNet", "NoHouse", "NoRoad", "SMALL", "MOST_HOUSES", "MOST_ROADS", "LONGEST", "WIDEST", "is_whole", "is_name", "are_houses", "is_road", "Net", "Ways", "_law_cell_at", "_law_houses", "_law_road", "_law_letter", "_law_end", "_law_deed", "_law_asked", "_law_due", "_law_right"]
section
open PySem.W PySem.Calls PyProof.Rows HandSHeadRun
theorem run1 (w : World) (os : OsState) : (HandSHeadRun.endF (HandSHeadRun.stepQ (HandSHeadRun.denQ HandSHeadRun.tabQ) R.prog w) 20000 R.prog w os).map (fun s : PySem.W.SharedT => HandSHeadRun.looksF R.prog (boot_heap w.params) s.abs) = some true := by
  kernel_rfl
theorem run2 (w : World) (os : OsState) : (HandSHeadRun.endF (HandSHeadRun.stepQ (HandSHeadRun.denQ HandSHeadRun.tabQ) R.prog w) 20000 R.prog w os).map (fun s : PySem.W.SharedT => HandSHeadRun.seenQ (PySem.W.view R.prog [29]) loose (importedModules R.prog.main.body) (fun s => xlAt (PySem.W.view R.prog [29]) [] s && recOk R.toRowW.records s) s.abs) = some (PySem.W.openGood (PySem.W.view R.prog [29]) loose) := by
  kernel_rfl
theorem run3_0 (w : World) (os : OsState) : (HandSHeadRun.endF (HandSHeadRun.stepQ (HandSHeadRun.denQ HandSHeadRun.tabQ) R.prog w) 20000 R.prog w os).map (fun s => obsY 5 hfa_0 hfn_0 (exB hfb_0) (HandSHeadRun.getT s)) = some (He.valT hfn_0 [] w, true) := by
  kernel_rfl
theorem run3_1 (w : World) (os : OsState) : (HandSHeadRun.endF (HandSHeadRun.stepQ (HandSHeadRun.denQ HandSHeadRun.tabQ) R.prog w) 20000 R.prog w os).map (fun s => obsY 5 hfa_1 hfn_1 (exB hfb_1) (HandSHeadRun.getT s)) = some (He.valT hfn_1 [] w, true) := by
  kernel_rfl
theorem run3 (w : World) (os : OsState) : (HandSHeadRun.endF (HandSHeadRun.stepQ (HandSHeadRun.denQ HandSHeadRun.tabQ) R.prog w) 20000 R.prog w os).map ob = some (hk.val w) := (map_obs (run3_0 w os) (run3_1 w os))
end
theorem map3 {α A B C : Type} {o : Option α} {f : α → A} {g : α → B} {h : α → C} {a : A} {b : B} {c : C} (h1 : o.map f = some a) (h2 : o.map g = some b) (h3 : o.map h = some c) : o.map (fun s => (f s, g s, h s)) = some (a, b, c) := by
  obtain ⟨s, rfl, e1⟩ := Option.map_eq_some_iff.mp h1
  obtain ⟨s2, q2, e2⟩ := Option.map_eq_some_iff.mp h2
  obtain ⟨s3, q3, e3⟩ := Option.map_eq_some_iff.mp h3
  cases q2; cases q3; subst e1; subst e2; subst e3; rfl
theorem run (w : World) : HandSHeadRun.RunEq R (PySem.W.view R.prog [29]) hk ob 20000 loose w := by
  intro os
  exact map3 (run1 w os) (run2 w os) (run3 w os)

end Lw
set_option Elab.async false
set_option linter.all false
set_option maxRecDepth 100000
set_option maxHeartbeats 4000000
namespace Lw
open PySem L2 Sx
/-! ### plain: houses, roads, letters as the law draws them -/
def cellAt (ns : List Int) (k : Int) : Int := if k < (ns.length : Int) then ns.getD k.toNat 0 else 0
def abcAt (i : Int) : Str := ⟨#[(TL.tl small).getD i.toNat 0]⟩
def wordStep (s : Int × Str) : Int × Str := (s.1 / 26, s.2 ++ abcAt (s.1 % 26))
def wordSt (n0 : Int) : Nat → Int × Str
  | 0 => (n0, "")
  | i + 1 => wordStep (wordSt n0 i)
def wordN (cell : Int) : Int := cell * 1099087573 % 10000000000037
def wordA (cell : Int) : Str := (wordSt (wordN cell / 7) (1 + wordN cell % 7).toNat).2
theorem abcAt_sg {i : Int} (h0 : 0 ≤ i) (h1 : i < 26) : ∀ c ∈ TL.tl (abcAt i), 97 ≤ c ∧ c ≤ 122 := fun c hc => by
  have e : TL.tl (abcAt i) = [(TL.tl small).getD i.toNat 0] := rfl
  rw [e, List.mem_singleton] at hc
  subst hc
  refine small_in.mp ?_
  have hl : i.toNat < (TL.tl small).length := by rw [small_tl]; simp; omega
  rw [List.getD_eq_getElem?_getD, List.getElem?_eq_getElem hl]
  exact List.getElem_mem hl
def insA (x : Str) (at_ : Int) (ch : Str) : Str := cutS x none (some at_) ++ ch ++ cutS x (some at_) none
abbrev marks : Str := "kcxqamzftbje"
def oneS (c : Nat) : Str := ⟨#[c]⟩
def housesA (cell many : Int) : List Str := ((TL.tl marks).take many.toNat).map fun c => insA (wordA cell) (cell % ((wordA cell).length + 1)) (oneS c)
theorem getD_mem {α : Type} {xs : List α} {i : Int} {x0 : α} (h0 : 0 ≤ i) (h1 : i < xs.length) : xs.getD i.toNat x0 ∈ xs := by
  have hl : i.toNat < xs.length := by omega
  rw [List.getD_eq_getElem?_getD, List.getElem?_eq_getElem hl]
  exact List.getElem_mem hl
theorem getD_ne {α : Type} {xs : List α} {i j : Int} {x0 : α} (nd : xs.Nodup) (hi : 0 ≤ i ∧ i < xs.length) (hj : 0 ≤ j ∧ j < xs.length) (hne : i ≠ j) : xs.getD i.toNat x0 ≠ xs.getD j.toNat x0 := by
  have l1 : i.toNat < xs.length := by omega
  have l2 : j.toNat < xs.length := by omega
  rw [List.getD_eq_getElem?_getD, List.getElem?_eq_getElem l1, List.getD_eq_getElem?_getD, List.getElem?_eq_getElem l2]
  intro e
  have e : xs[i.toNat] = xs[j.toNat] := e
  have p := List.pairwise_iff_getElem.mp nd
  rcases Nat.lt_trichotomy i.toNat j.toNat with h | h | h
  · exact p _ _ l1 l2 h e
  · omega
  · exact p _ _ l2 l1 h e.symm
/-- a road's ends differ -/
theorem ends_ok {n m : Int} (hm : 2 ≤ m) (k : Int) : (0 ≤ n % m ∧ n % m < m) ∧ (0 ≤ (n % m + 1 + k % (m - 1)) % m ∧ (n % m + 1 + k % (m - 1)) % m < m) ∧ n % m ≠ (n % m + 1 + k % (m - 1)) % m := by
  have a1 := Int.emod_nonneg n (show m ≠ 0 by omega)
  have a2 := Int.emod_lt_of_pos n (show 0 < m by omega)
  have b1 := Int.emod_nonneg k (show m - 1 ≠ 0 by omega)
  have b2 := Int.emod_lt_of_pos k (show 0 < m - 1 by omega)
  refine ⟨⟨a1, a2⟩, ⟨Int.emod_nonneg _ (by omega), Int.emod_lt_of_pos _ (by omega)⟩, ?_⟩
  generalize n % m = x at a1 a2 ⊢
  generalize k % (m - 1) = y at b1 b2 ⊢
  by_cases h : x + 1 + y < m
  · rw [Int.emod_eq_of_lt (by omega) h]
    omega
  · have e : (x + 1 + y) % m = x + 1 + y - m := by
      rw [← Int.sub_emod_right (x + 1 + y) m]
      exact Int.emod_eq_of_lt (by omega) (by omega)
    rw [e]
    omega
def roadA (hs : List Str) (long cell : Int) : Road :=
  let n := cell * 48271 % 2147483647
  let m : Int := hs.length
  let b := n % m
  let e := (b + 1 + n / 12 % (m - 1)) % m
  (hs.getD b.toNat "", hs.getD e.toNat "", 1 + n / 2160 % long, if n / 432 % 5 = 1 then 1 + cell % 1000000000 else 1 + n / 144 % 3)
def roadsA (hs : List Str) (long : Int) (cells : List Int) : List Road := if 1 < hs.length then cells.map (roadA hs long) else []
abbrev Letter := Str × Int × Str
def letterD (a : Letter) : D := .tup [.str a.1, .int a.2.1, .str a.2.2]
abbrev lettersD (ls : List Letter) : List D := ls.map letterD
def letterA (hs : List Str) (goals base_ span cell : Int) : Letter :=
  let n := cell * 1220703125 % 2147483629
  let m : Int := hs.length
  (hs.getD ((n % goals + 1 + n / 12 % (m - 1)) % m).toNat "", base_ + n / 144 % span, hs.getD (n % goals).toNat "")
structure OkL (hs : List Str) (base_ span : Int) (a : Letter) : Prop where
  b : a.1 ∈ hs
  e : a.2.2 ∈ hs
  ne : a.1 ≠ a.2.2
  t : base_ ≤ a.2.1 ∧ a.2.1 < base_ + span
end Lw
set_option Elab.async false
set_option linter.all false
set_option maxRecDepth 100000
set_option maxHeartbeats 4000000
namespace Lw
open PySem L2 Sx
/-! ### plain: houses, roads, letters of the other laws -/
def placeB (cell : Int) (k j : Nat) : Int := cell / 64 + 5 * (j : Int) * (j : Int) + 2 * (k : Int) * (if (j : Int) = cell / 8 % (1 + cell % 8) then 1 else 0)
def preB (cell : Int) (k : Nat) : Nat → Str
  | 0 => ""
  | i + 1 => preB cell k i ++ abcAt (placeB cell k i % 26)
def sizeB (cell : Int) : Nat := (1 + cell % 8).toNat
def nameBk (cell : Int) (k : Nat) : Str := preB cell k (sizeB cell)
def housesB (cell : Int) (many : Nat) : List Str := (List.range many).map (nameBk cell)
theorem preB_tl (cell : Int) (k : Nat) : ∀ i, TL.tl (preB cell k i) = (List.range i).map fun j => (TL.tl small).getD (placeB cell k j % 26).toNat 0
  | 0 => by
    have e : TL.tl ("" : Str) = [] := by decide +kernel
    exact e
  | i + 1 => by
    show TL.tl (preB cell k i ++ abcAt _) = _
    rw [TL.tl_append, preB_tl cell k i, List.range_succ, List.map_append]
    rfl
theorem preB_ok (cell : Int) (k i : Nat) : (preB cell k i).length = i ∧ ∀ c ∈ TL.tl (preB cell k i), 97 ≤ c ∧ c ≤ 122 := by
  have e := preB_tl cell k i
  refine ⟨by rw [TL.len_tl, e]; simp, fun c hc => ?_⟩
  rw [e] at hc
  obtain ⟨j, _, rfl⟩ := List.mem_map.mp hc
  exact abcAt_sg (i := placeB cell k j % 26) (by omega) (by omega) _ (List.mem_singleton.mpr rfl)
theorem sizeB_ok (cell : Int) : 1 ≤ sizeB cell ∧ sizeB cell ≤ 8 := by
  unfold sizeB
  omega
theorem small_at {i : Nat} (h : i < 26) : (TL.tl small).getD i 0 = 97 + i := by
  rw [small_tl, List.getD_eq_getElem?_getD, List.getElem?_map, List.getElem?_range h]
  rfl
theorem nameBk_inj {cell : Int} {k k' : Nat} (h : k < 13) (h' : k' < 13) (e : nameBk cell k = nameBk cell k') : k = k' := by
  have e2 := congrArg TL.tl e
  unfold nameBk at e2
  rw [preB_tl, preB_tl] at e2
  have s1 := sizeB_ok cell
  have hz : 0 ≤ cell / 8 % (1 + cell % 8) ∧ cell / 8 % (1 + cell % 8) < 1 + cell % 8 := ⟨Int.emod_nonneg _ (by omega), Int.emod_lt_of_pos _ (by omega)⟩
  obtain ⟨p, hp⟩ : ∃ p : Nat, cell / 8 % (1 + cell % 8) = (p : Int) := ⟨(cell / 8 % (1 + cell % 8)).toNat, by omega⟩
  have hps : p < sizeB cell := by unfold sizeB; omega
  have g := congrArg (fun l : List Nat => l[p]?) e2
  simp only [List.getElem?_map, List.getElem?_range hps, Option.map_some] at g
  have g := Option.some.inj g
  have q1 : (placeB cell k p % 26).toNat < 26 := by omega
  have q2 : (placeB cell k' p % 26).toNat < 26 := by omega
  rw [small_at q1, small_at q2] at g
  have a1 : placeB cell k p = cell / 64 + 5 * (p : Int) * (p : Int) + 2 * (k : Int) := by
    unfold placeB
    rw [if_pos hp.symm, Int.mul_one]
  have a2 : placeB cell k' p = cell / 64 + 5 * (p : Int) * (p : Int) + 2 * (k' : Int) := by
    unfold placeB
    rw [if_pos hp.symm, Int.mul_one]
  rw [a1, a2] at g
  generalize cell / 64 + 5 * (p : Int) * (p : Int) = z at g
  omega
theorem housesB_len {cell : Int} {many : Nat} : (housesB cell many).length = many := by
  unfold housesB
  simp
theorem housesB_ok {cell : Int} {many : Nat} (h : many ≤ 12) : OkH (housesB cell many) := by
  refine ⟨fun x hx => ?_, ?_, by rw [housesB_len]; exact h⟩
  · unfold housesB at hx
    obtain ⟨k, _, rfl⟩ := List.mem_map.mp hx
    obtain ⟨h1, h2⟩ := preB_ok cell k (sizeB cell)
    have := sizeB_ok cell
    exact ⟨by show 1 ≤ (preB cell k (sizeB cell)).length; omega, by show (preB cell k (sizeB cell)).length ≤ 8; omega, h2⟩
  · unfold housesB
    have p : (List.range many).Pairwise (fun a b => a ≠ b ∧ a < 13 ∧ b < 13) := by
      refine List.Pairwise.imp_of_mem (fun {a b} ha hb hne => ⟨hne, ?_, ?_⟩) List.nodup_range
      · have := List.mem_range.mp ha; omega
      · have := List.mem_range.mp hb; omega
    exact List.Pairwise.map _ (fun a b ⟨h1, h2, h3⟩ e => h1 (nameBk_inj h2 h3 e)) p
def roadB (hs : List Str) (cell : Int) : Road :=
  let n := cell * 1099087573 % 10000000000037
  let m : Int := hs.length
  let b := n % m
  let e := (b + 1 + n / m % (m - 1)) % m
  (hs.getD b.toNat "", hs.getD e.toNat "", 1 + n / 1000 % 9, if n / 27000 % 5 = 0 then 1 + n / 135000 % 1000000000 else 1 + n / 9000 % 3)
theorem roadB_ok {hs : List Str} {cell : Int} (nd : hs.Nodup) (h2 : 2 ≤ hs.length) : OkR hs (roadB hs cell) := by
  have hm : (2 : Int) ≤ hs.length := by omega
  obtain ⟨a, b, c⟩ := ends_ok (n := cell * 1099087573 % 10000000000037) hm (cell * 1099087573 % 10000000000037 / (hs.length : Int))
  refine ⟨getD_mem a.1 a.2, getD_mem b.1 b.2, getD_ne nd a b c, ?_, ?_⟩
  · unfold roadB
    dsimp only
    omega
  · unfold roadB
    dsimp only
    split <;> omega
def letterB (hs : List Str) (base_ cell : Int) : Letter :=
  let n := cell * 982451653 % 10000000000037
  let m : Int := hs.length
  let b := n % m
  (hs.getD b.toNat "", base_ + n / 1000 % 31, hs.getD ((b + 1 + n / m % (m - 1)) % m).toNat "")
end Lw
set_option Elab.async false
set_option linter.all false
set_option maxRecDepth 100000
set_option maxHeartbeats 4000000
namespace Lw
open PySem L2 Sx
/-! ### the walk: what these laws draw -/
section
variable {P : Program} {w : World} {K : PySem.W.Frag} {mg : Str → Option Value} {base : Heap} {c : Cs}
theorem g_cell (T : Top K mg c) : Glo P w K mg base 1 "_law_cell_at" ["_law_script", "_law_k"] (Pu K (fun a : List Int × Int => 0 ≤ a.2) (fun a => [.scr (a.1.map .int), .int a.2]) (fun a => .int (cellAt a.1 a.2))) :=
  glo_of T.d_law_cell_at (fun _ _ _ _ _ _ us hl => match us, hl with | [_, _], _ => rfl) fun f fd F => fn_ok F cs_law_cell_at (fun _ => rfl) fun cdv A outer s H E a hr hok => by
    obtain ⟨ns, k⟩ := a
    have hk : 0 ≤ k := hok
    refine blk_if (ts_cmp op_lt (px_var (pv 1) rfl) (px_bi call_len_seq T.z_len (pa_c (px_var (pv 0) rfl) pa_n) o_lenR) o_lt) (fun h => ?_) (fun h => ?_)
    · have h1 : k < (ns.length : Int) := by
        have := of_decide_eq_true h
        rwa [List.length_map] at this
      refine blk_ret (px_ix ix_list (px_var (pv 0) rfl) (px_var (pv 1) rfl) (o_ixR (d := .int (ns.getD k.toNat 0)) (atI_map (atI_in hk h1)))) ⟨?_, rfl⟩
      show D.int _ = D.int (cellAt ns k)
      unfold cellAt
      rw [if_pos h1]
    · have h1 : ¬ k < (ns.length : Int) := by
        have := of_decide_eq_false h
        rwa [List.length_map] at this
      refine blk_nil (blk_ret px_int ⟨?_, rfl⟩)
      show D.int _ = D.int (cellAt ns k)
      unfold cellAt
      rw [if_neg h1]
/-- int(test) -/
theorem o_intB {K : PySem.W.Frag} {l : List Res} {b : Bool} : OpN K l (fun xs H Q => (∃ i, xs = [.int i] ∧ Q (.int i) H) ∨ ∃ k, xs = [.bl k] ∧ Q (.int (if k then 1 else 0)) H) [.bl b] (.int (if b then 1 else 0)) := fun F M H vs Q eF eM dj rs f k => by
  cases f with
  | cons f1 f2 =>
    cases f2; cases f1
    exact .inr ⟨b, rfl, k _ F H (.rf eF) (.int _)⟩
theorem g_housesB (T : Top K mg c) : Glo P w K mg base 1 "_law_houses" ["_law_cell", "_law_many"] (Fr K (fun a : Int × Int => 0 ≤ a.2 ∧ a.2 ≤ 12) (fun a => [.int a.1, .int a.2]) (fun a => housesD (housesB a.1 a.2.toNat))) :=
  glo_of T.d_law_houses (fun _ _ _ _ _ _ us hl => match us, hl with | [_, _], _ => rfl) fun f fd F => fn_ok F cs_law_houses (fun _ => rfl) fun cdv A outer s H E a hr hok => by
    have nd := cs_law_houses.nd
    obtain ⟨cell, many⟩ := a
    obtain ⟨hm0, hm1⟩ : 0 ≤ many ∧ many ≤ 12 := hok
    have s8 := sizeB_ok cell
    refine blk_set nd (i := 2) rfl (.inl rfl) px_str ?_
    refine blk_set nd (i := 3) (d := .int (1 + cell % 8)) rfl (.inl rfl) (px_op op_add px_int (px_op op_mod (px_var (pv 0) rfl) px_int o_mod) o_add) ?_
    refine blk_set nd (i := 4) (d := .int (cell / 8 % (1 + cell % 8))) rfl (.inl rfl) (px_op op_mod (px_op op_fdiv (px_var (pv 0) rfl) px_int o_fdiv) (px_var (pv 3) rfl) (o_mod (by omega))) ?_
    refine blk_setX nd (i := 5) rfl (.inl rfl) (ev_lst pa_n) fun d l' ⟨p, e1, e2⟩ => ?_
    subst e1; subst e2
    refine blk_for (is := [6]) (fun i g l => (∃ o6 o7 o8 o9, g = [some (.int cell), some (.int many), some (.str small), some (.int (1 + cell % 8)), some (.int (cell / 8 % (1 + cell % 8))), some (.adr p), o6, o7, o8, o9]) ∧ l = [ownL K p (housesD (housesB cell i))]) PassesOwn.never rfl
      (it_range (px_var (pv 1) rfl) (by omega) (by omega) T.z_range) (pg_name (i := 6) nd rfl (.inl rfl)) ⟨⟨none, none, none, none, rfl⟩, rfl⟩ (fun k d g l hd hI => ?_) (fun g l hI => ?_)
    · obtain ⟨⟨o6, o7, o8, o9, rfl⟩, rfl⟩ := hI
      obtain ⟨hk, rfl⟩ := rng_get hd
      have hk : k < many.toNat := hk
      refine ⟨_, tg_name, ?_⟩
      refine blk_set nd (i := 7) rfl (.inl rfl) px_str ?_
      refine blk_for (is := [8]) (fun i g l => (∃ o8 o9, g = [some (.int cell), some (.int many), some (.str small), some (.int (1 + cell % 8)), some (.int (cell / 8 % (1 + cell % 8))), some (.adr p), some (.int (0 + (k : Int))), some (.str (preB cell k i)), o8, o9]) ∧ l = [ownL K p (housesD (housesB cell k))]) PassesOwn.never rfl
        (it_range (px_var (pv 3) rfl) (by omega) (by omega) T.z_range) (pg_name (i := 8) nd rfl (.inl rfl)) ⟨⟨o8, o9, rfl⟩, rfl⟩ (fun i d g l hd hI => ?_) (fun g l hI => ?_)
      · obtain ⟨⟨o8, o9, rfl⟩, rfl⟩ := hI
        obtain ⟨hi, rfl⟩ := rng_get hd
        have hi : i < (1 + cell % 8).toNat := hi
        have h1 := (preB_ok cell k i).1
        have hp : 0 ≤ placeB cell k i % 26 ∧ placeB cell k i % 26 < 26 := by omega
        refine ⟨_, tg_name, ?_⟩
        refine blk_set nd (i := 9) (d := .int (placeB cell k i)) rfl (.inl rfl) (Px.to (px_op op_add (px_op op_add (px_op op_fdiv (px_var (pv 0) rfl) px_int o_fdiv) (px_op op_mul (px_op op_mul px_int (px_var (pv 8) rfl) o_mulL) (px_var (pv 8) rfl) (o_mulR (by omega) (by omega))) o_add) (px_op op_mul (px_op op_mul px_int (px_var (pv 6) rfl) o_mulL) (px_ty call_int1 T.z_int (pa_c (px_cmp op_eq (px_var (pv 8) rfl) (px_var (pv 4) rfl) o_eqI) pa_n) o_intB) (o_mulL (by omega) (by omega))) o_add) ?_) ?_
        · unfold placeB
          rw [Int.zero_add, Int.zero_add]
          congr 3
          by_cases z : (i : Int) = cell / 8 % (1 + cell % 8)
          · rw [decide_eq_true z, if_pos z]; rfl
          · rw [decide_eq_false z, if_neg z]; rfl
        refine blk_set nd (i := 7) (d := .str (preB cell k (i + 1))) rfl (.inl rfl) (px_op op_add_str (px_var (pv 7) rfl) (px_ix ix_str (px_var (pv 2) rfl) (px_op op_mod (px_var (pv 9) rfl) px_int o_mod) (o_ixS (c := (TL.tl small).getD (placeB cell k i % 26).toNat 0) (by decide) (atI_in hp.1 hp.2))) (o_addS ?_)) ?_
        · rw [h1]
          show i + 1 ≤ sizeLine
          exact Nat.le_trans (show i + 1 ≤ 100 by omega) (by decide)
        exact blk_nil ⟨⟨_, _, rfl⟩, rfl⟩
      · obtain ⟨⟨o8, o9, rfl⟩, rfl⟩ := hI
        rw [rng_len]
        refine blk_add (k := 0) (px_var (pv 5) rfl) (px_var (pv 7) rfl) rfl ?_ ?_
        · rw [List.length_map, housesB_len]
          exact Nat.lt_of_lt_of_le (show k < 10000 by omega) (szS (Nat.le_refl _))
        · refine blk_nil ⟨⟨_, _, _, _, rfl⟩, ?_⟩
          have e : housesB cell (k + 1) = housesB cell k ++ [nameBk cell k] := by
            unfold housesB
            rw [List.range_succ, List.map_append]
            rfl
          rw [e]
          show [ownL K p (housesD (housesB cell k) ++ [.str (preB cell k (1 + cell % 8).toNat)])] = [ownL K p ((housesB cell k ++ [nameBk cell k]).map D.str)]
          rw [List.map_append]
          rfl
    · obtain ⟨⟨o6, o7, o8, o9, rfl⟩, rfl⟩ := hI
      rw [rng_len]
      exact blk_ret (px_var (pv 5) rfl) ⟨p, rfl, rfl⟩
theorem g_roadB (T : Top K mg c) : Glo P w K mg base 1 "_law_road" ["_law_cell", "_law_names"] (Pu K (fun a : Int × List Str => 2 ≤ a.2.length ∧ a.2.length ≤ 12) (fun a => [.int a.1, .lst (housesD a.2)]) (fun a => roadD (roadB a.2 a.1))) :=
  glo_of T.d_law_road (fun _ _ _ _ _ _ us hl => match us, hl with | [_, _], _ => rfl) fun f fd F => fn_ok F cs_law_road (fun _ => rfl) fun cdv A outer s H E a hr hok => by
    have nd := cs_law_road.nd
    obtain ⟨cell, hs⟩ := a
    obtain ⟨h2, h12⟩ : 2 ≤ hs.length ∧ hs.length ≤ 12 := hok
    have el : (housesD hs).length = hs.length := List.length_map ..
    have hm : (2 : Int) ≤ hs.length := by omega
    have er : roadB hs cell = (hs.getD ((cell * 1099087573 % 10000000000037) % (hs.length : Int)).toNat "", hs.getD (((cell * 1099087573 % 10000000000037) % (hs.length : Int) + 1 + (cell * 1099087573 % 10000000000037) / (hs.length : Int) % ((hs.length : Int) - 1)) % (hs.length : Int)).toNat "", 1 + (cell * 1099087573 % 10000000000037) / 1000 % 9, if (cell * 1099087573 % 10000000000037) / 27000 % 5 = 0 then 1 + (cell * 1099087573 % 10000000000037) / 135000 % 1000000000 else 1 + (cell * 1099087573 % 10000000000037) / 9000 % 3) := rfl
    show Blk _ _ _ _ _ { nx := _, rt := fun d l' => d = roadD (roadB hs cell) ∧ l' = [] }
    refine blk_set nd (i := 2) (d := .int (cell * 1099087573 % 10000000000037)) rfl (.inl rfl) (px_op op_mod (px_op op_mul (px_var (pv 0) rfl) px_int o_mulR) px_int o_mod) ?_
    generalize cell * 1099087573 % 10000000000037 = n at er ⊢
    obtain ⟨a1, a2, a3⟩ := ends_ok (n := n) hm (n / (hs.length : Int))
    refine blk_set nd (i := 3) (d := .int (hs.length : Int)) rfl (.inl rfl) (Px.to (px_bi call_len_seq T.z_len (pa_c (px_var (pv 1) rfl) pa_n) o_lenL) (by rw [el])) ?_
    refine blk_set nd (i := 4) (d := .int (n % (hs.length : Int))) rfl (.inl rfl) (px_op op_mod (px_var (pv 2) rfl) (px_var (pv 3) rfl) (o_mod (by omega))) ?_
    refine blk_set nd (i := 5) (d := .int ((n % (hs.length : Int) + 1 + n / (hs.length : Int) % ((hs.length : Int) - 1)) % (hs.length : Int))) rfl (.inl rfl) (px_op op_mod (px_op op_add (px_op op_add (px_var (pv 4) rfl) px_int o_add) (px_op op_mod (px_op op_fdiv (px_var (pv 2) rfl) (px_var (pv 3) rfl) (o_fdiv (by omega) (by omega))) (px_op op_sub (px_var (pv 3) rfl) px_int o_sub) (o_mod (by omega))) o_add) (px_var (pv 3) rfl) (o_mod (by omega))) ?_
    generalize hb : n % (hs.length : Int) = b at a1 a2 a3 er ⊢
    generalize he : (b + 1 + n / (hs.length : Int) % ((hs.length : Int) - 1)) % (hs.length : Int) = e' at a2 a3 er ⊢
    refine blk_set nd (i := 6) (d := .int (1 + n / 9000 % 3)) rfl (.inl rfl) (px_op op_add px_int (px_op op_mod (px_op op_fdiv (px_var (pv 2) rfl) px_int o_fdiv) px_int o_mod) o_add) ?_
    refine blk_ifJ (fun g l => g = [some (.int cell), some (.lst (housesD hs)), some (.int n), some (.int (hs.length : Int)), some (.int b), some (.int e'), some (.int (if n / 27000 % 5 = 0 then 1 + n / 135000 % 1000000000 else 1 + n / 9000 % 3))] ∧ l = []) (ts_cmp op_eq (px_op op_mod (px_op op_fdiv (px_var (pv 2) rfl) px_int o_fdiv) px_int o_mod) px_int o_eqI) (fun h => ?_) (fun h => ?_) (fun g l hM => ?_)
    · have h : n / 27000 % 5 = 0 := of_decide_eq_true h
      refine blk_set nd (i := 6) (d := .int (1 + n / 135000 % 1000000000)) rfl (.inl rfl) (px_op op_add px_int (px_op op_mod (px_op op_fdiv (px_var (pv 2) rfl) px_int o_fdiv) (px_op op_pow px_int px_int o_pow) (o_mod (j := 1000000000))) o_add) ?_
      refine blk_nil ⟨?_, rfl⟩
      rw [if_pos h]
      rfl
    · have h : ¬ n / 27000 % 5 = 0 := of_decide_eq_false h
      refine blk_nil ⟨?_, rfl⟩
      rw [if_neg h]
      rfl
    · obtain ⟨rfl, rfl⟩ := hM
      refine blk_ret (Px.to (px_tup (pa_c (px_ix ix_list (px_var (pv 1) rfl) (px_var (pv 4) rfl) (o_ixL (d := .str (hs.getD b.toNat "")) (atI_map (atI_in a1.1 a1.2)))) (pa_c (px_ix ix_list (px_var (pv 1) rfl) (px_var (pv 5) rfl) (o_ixL (d := .str (hs.getD e'.toNat "")) (atI_map (atI_in a2.1 a2.2)))) (pa_c (px_op op_add px_int (px_op op_mod (px_op op_fdiv (px_var (pv 2) rfl) px_int o_fdiv) px_int o_mod) o_add) (pa_c (px_var (pv 6) rfl) pa_n))))) (by rw [er]; rfl)) ⟨rfl, rfl⟩
end
/-! ### the walk: letters -/
section
variable {P : Program} {w : World} {K : PySem.W.Frag} {mg : Str → Option Value} {base : Heap} {c : Cs}
end

end Lw
set_option Elab.async false
set_option linter.all false
set_option maxRecDepth 100000
set_option maxHeartbeats 4000000
namespace Lw
open PySem L2 Sx
inductive Exn where
  | NoNet
  | NoRoad
  | NoHouse
  deriving DecidableEq
def Exn.is_NoHouse : Exn → Bool
  | .NoNet => false
  | .NoRoad => false
  | .NoHouse => true
def Exn.is_NoRoad : Exn → Bool
  | .NoNet => false
  | .NoRoad => true
  | .NoHouse => false
def Exn.is_RoadError : Exn → Bool
  | .NoNet => true
  | .NoRoad => true
  | .NoHouse => true

def Net_known_m (self : List Str × List Road) (house : Str) : Unit :=
  ()

def Net_road_m (self : List Str × List Road) (number : Int) : Road :=
  (self.2.getD (number).toNat ("", "", 0, 0))

def Net_houses_m (self : List Str × List Road) : List Str :=
  self.1

def Net_out_of_m (self : List Str × List Road) (house : Str) : List Int :=
  (((enumI self.2).filter (fun z1 : Int × Road => (decide (z1.2.1 = house)))).map (fun z1 : Int × Road => z1.1))

def Net_known_x_m (self : List Str × List Road) (house : Str) : Except Exn Unit :=
  cond (!decide (house ∈ self.1)) (
    .error Exn.NoHouse) (
  .ok ())

def Ways_init_m (net : List Str × List Road) : ((List Str × List Road) × (List ((Str × Str) × Int))) :=
  lt net fun net_2 : List Str × List Road =>
  lt ([] : List ((Str × Str) × Int)) fun told : List ((Str × Str) × Int) =>
  (net_2, told)

def Ways_need_pair_x_m (self : (List Str × List Road) × (List ((Str × Str) × Int))) (house : Str) (goal : Str) : Except Exn Unit :=
  xb (Net_known_x_m self.1 house) (fun v1 =>
    xb (Net_known_x_m self.1 goal) (fun v2 =>
      cond (decide (house = goal)) (
        .error Exn.NoHouse) (
      .ok ())) (fun e2 => .error e2)) (fun e1 => .error e1)

def Ways_set_way_x_m (self : (List Str × List Road) × (List ((Str × Str) × Int))) (house : Str) (goal : Str) (road : Int) : Except Exn (((List Str × List Road) × (List ((Str × Str) × Int)))) :=
  xb (Ways_need_pair_x_m self house goal) (fun v1 =>
    cond (!decide (road ∈ (Net_out_of_m self.1 house))) (
      .error Exn.NoRoad) (
    lt (aput self.2 (house, goal) road) fun told =>
    .ok (self.1, told))) (fun e1 => .error e1)

def Ways_drop_way_x_m (self : (List Str × List Road) × (List ((Str × Str) × Int))) (house : Str) (goal : Str) : Except Exn (((List Str × List Road) × (List ((Str × Str) × Int)))) :=
  xb (Ways_need_pair_x_m self house goal) (fun v1 =>
    lt (adel self.2 (house, goal)) fun told =>
    .ok (self.1, told)) (fun e1 => .error e1)

def Ways_way_x_m (self : (List Str × List Road) × (List ((Str × Str) × Int))) (house : Str) (goal : Str) : Except Exn (Option Int) :=
  xb (Ways_need_pair_x_m self house goal) (fun v1 =>
    .ok (aget self.2 (house, goal))) (fun e1 => .error e1)

def Ways_pairs_s_m (self : (List Str × List Road) × (List ((Str × Str) × Int))) : (List (Str × Str × Int)) :=
  (sortK (fun x : Str × Str × Int => [.inr x.1, .inr x.2.1, .inl x.2.2]) ((self.2.map (·.1)).map (fun z1 : Str × Str => (z1.1, z1.2, ((aget self.2 (z1.1, z1.2)).getD 0)))))

def law_end_m (cell : Int) (names : List Str) : Str :=
  cond (decide ((cell % 9) = 0)) (
    (([("" : Str), ((names.getD 0 "") ++ "x"), "A", (((names.getD 0 "") ++ (names.getD 0 "")) ++ "aaaaaaaa")]).getD (((cell / 9) % 4)).toNat "")) (
  (names.getD (((cell / 9) % (names.length : Int))).toNat ""))

def law_deed_m (table : (List Str × List Road) × (List ((Str × Str) × Int))) (house : Str) (goal : Str) (road : Int) (drops : Bool) : D × ((List Str × List Road) × (List ((Str × Str) × Int))) :=
  lt none fun error : Option Exn =>
  lt () fun found : Unit =>
  bndV (tryN (
      cond drops (
        xb (Ways_drop_way_x_m table house goal) (fun v1 =>
          lt v1 fun found_2 =>
          .nx (found_2, (), error)) (fun e1 => .rt (.error e1))) (
        xb (Ways_set_way_x_m table house goal road) (fun v2 =>
          lt v2 fun found_3 =>
          .nx (found_3, (), error)) (fun e2 => .rt (.error e2)))) (fun e : Exn => (table, found, (some e)))) fun t1 : ((List Str × List Road) × (List ((Str × Str) × Int))) × Unit × Option Exn =>
  cond (t1.2.2.isNone) (
    (D.non, t1.1)) (
  cond ((!(t1.2.2.any Exn.is_RoadError)) || (!(t1.2.2.any fun _ => true))) (
    ((D.str "none"), t1.1)) (
  (((lstE D.bl) ([(t1.2.2.any Exn.is_NoHouse), (t1.2.2.any Exn.is_NoRoad)])), t1.1)))

def law_asked_m (table : (List Str × List Road) × (List ((Str × Str) × Int))) (house : Str) (goal : Str) : D :=
  lt none fun error : Option Exn =>
  lt none fun found : Option Int =>
  bndV (tryN (
      xb (Ways_way_x_m table house goal) (fun v1 =>
        lt v1 fun found_2 : Option Int =>
        .nx (found_2, error)) (fun e1 => .rt (.error e1))) (fun e : Exn => (found, (some e)))) fun t1 : Option Int × Option Exn =>
  cond (t1.2.isNone) (
    ((optE D.int) t1.1)) (
  ((lstE D.bl) ([(t1.2.any Exn.is_NoHouse), (t1.2.any Exn.is_NoRoad)])))

def law_due_m (names : List Str) (lines : List Road) (house : Str) (goal : Str) (road : Int) (drops : Bool) : D :=
  cond ((!decide (house ∈ names)) || ((!decide (goal ∈ names)) || (decide (house = goal)))) (
    ((lstE D.bl) ([true, false]))) (
  cond (drops || (((decide (0 ≤ road)) && (decide (road < (lines.length : Int)))) && (decide ((lines.getD (road).toNat ("", "", 0, 0)).1 = house)))) (
    D.non) (
  ((lstE D.bl) ([false, true]))))

def law_right_m (table : (List Str × List Road) × (List ((Str × Str) × Int))) (kept : List ((Str × Str) × Int)) : Bool :=
  lt (Ways_pairs_s_m table) fun found =>
  lt (sortK (fun x : Str × Str × Int => [.inr x.1, .inr x.2.1, .inl x.2.2]) ((kept.map (·.1)).map (fun z1 : Str × Str => (z1.1, z1.2, ((aget kept z1).getD 0))))) fun due : List (Str × Str × Int) =>
  (true && (decide (found = due)))

def law_m (script : List Int) : Bool :=
  lt (housesB (cellAt script 0) ((2 + ((cellAt script 1) % 11)) : Int).toNat) fun names : List Str =>
  lt ((pickN script (places script.length (some 2) (some 64) (some 2))).map (fun z1 : Int => (roadB names z1))) fun lines : List Road =>
  lt (names, lines) fun net : List Str × List Road =>
  lt (((Ways_init_m net), (Ways_init_m net)) : ((List Str × List Road) × (List ((Str × Str) × Int))) × ((List Str × List Road) × (List ((Str × Str) × Int)))) fun tables =>
  lt ((([] : List ((Str × Str) × Int)), ([] : List ((Str × Str) × Int))) : (List ((Str × Str) × Int)) × (List ((Str × Str) × Int))) fun kept =>
  bndV (loop (fun (s1 : (((List Str × List Road) × (List ((Str × Str) × Int))) × ((List Str × List Road) × (List ((Str × Str) × Int)))) × ((List ((Str × Str) × Int)) × (List ((Str × Str) × Int)))) (x1 : Int) =>
    lt ((x1 * 1099087573) % 10000000000037) fun n : Int =>
    lt (n % 2) fun k : Int =>
    cond (decide (k = 0)) (
      lt (law_end_m ((n / 2) % 1009) names) fun house : Str =>
      lt (law_end_m ((n / 2018) % 1013) names) fun goal : Str =>
      lt (((n / 7) % ((lines.length : Int) + 2)) - 1) fun road : Int =>
      lt (decide (((n / 1000003) % 4) = 0)) fun drops : Bool =>
      lt (((enumI lines).filter (fun z2 : Int × Road => (decide (z2.2.1 = house)))).map (fun z2 : Int × Road => z2.1)) fun mine : List Int =>
      lt (cond ((!(decide (mine = []))) && (decide (0 < ((n / 4000012) % 3)))) (
          lt (mine.getD (((n / 31) % (mine.length : Int))).toNat 0) fun road_2 : Int =>
          road_2) (
          road)) fun j1 : Int =>
      lt (law_due_m names lines house goal j1 drops) fun due : D =>
      lt ((law_deed_m s1.1.1 house goal j1 drops)) fun r2 : D × ((List Str × List Road) × (List ((Str × Str) × Int))) =>
      cond (!(D.eq r2.1 due)) (
        .rt false) (
      lt (cond ((due.isNon) && drops) (
          lt (adel s1.2.1 (house, goal)) fun kept_0 =>
          (kept_0, s1.2.2)) (
          cond (due.isNon) (
            lt (aput s1.2.1 (house, goal) j1) fun kept_0_2 =>
            (kept_0_2, s1.2.2)) (
            s1.2))) fun j3 : ((List ((Str × Str) × Int)) × (List ((Str × Str) × Int))) =>
      lt ((optE D.int) (aget j3.1 (house, goal))) fun due_2 : D =>
      lt (cond ((!decide (house ∈ names)) || ((!decide (goal ∈ names)) || (decide (house = goal)))) (
          lt ((lstE D.bl) ([true, false])) fun due_3 : D =>
          due_3) (
          due_2)) fun j5 : D =>
      cond ((!(D.eq (law_asked_m r2.2 house goal) j5)) || (!(law_right_m r2.2 j3.1))) (
        .rt false) (
        .nx ((r2.2, s1.1.2), j3)))) (
    lt (law_end_m ((n / 2) % 1009) names) fun house_2 : Str =>
    lt (law_end_m ((n / 2018) % 1013) names) fun goal_2 : Str =>
    lt (((n / 7) % ((lines.length : Int) + 2)) - 1) fun road_3 : Int =>
    lt (decide (((n / 1000003) % 4) = 0)) fun drops_2 : Bool =>
    lt (((enumI lines).filter (fun z3 : Int × Road => (decide (z3.2.1 = house_2)))).map (fun z3 : Int × Road => z3.1)) fun mine_2 : List Int =>
    lt (cond ((!(decide (mine_2 = []))) && (decide (0 < ((n / 4000012) % 3)))) (
        lt (mine_2.getD (((n / 31) % (mine_2.length : Int))).toNat 0) fun road_4 : Int =>
        road_4) (
        road_3)) fun j7 : Int =>
    lt (law_due_m names lines house_2 goal_2 j7 drops_2) fun due_4 : D =>
    lt ((law_deed_m s1.1.2 house_2 goal_2 j7 drops_2)) fun r8 : D × ((List Str × List Road) × (List ((Str × Str) × Int))) =>
    cond (!(D.eq r8.1 due_4)) (
      .rt false) (
    lt (cond ((due_4.isNon) && drops_2) (
        lt (adel s1.2.2 (house_2, goal_2)) fun kept_1 =>
        (s1.2.1, kept_1)) (
        cond (due_4.isNon) (
          lt (aput s1.2.2 (house_2, goal_2) j7) fun kept_1_2 =>
          (s1.2.1, kept_1_2)) (
          s1.2))) fun j9 : ((List ((Str × Str) × Int)) × (List ((Str × Str) × Int))) =>
    lt ((optE D.int) (aget j9.2 (house_2, goal_2))) fun due_5 : D =>
    lt (cond ((!decide (house_2 ∈ names)) || ((!decide (goal_2 ∈ names)) || (decide (house_2 = goal_2)))) (
        lt ((lstE D.bl) ([true, false])) fun due_6 : D =>
        due_6) (
        due_5)) fun j11 : D =>
    cond ((!(D.eq (law_asked_m r8.2 house_2 goal_2) j11)) || (!(law_right_m r8.2 j9.2))) (
      .rt false) (
      .nx ((s1.1.1, r8.2), j9))))) (pickN script (places script.length (some 3) (some 63) (some 2))) (tables, kept)) fun s1 : (((List Str × List Road) × (List ((Str × Str) × Int))) × ((List Str × List Road) × (List ((Str × Str) × Int)))) × ((List ((Str × Str) × Int)) × (List ((Str × Str) × Int))) =>
  lt (Ways_pairs_s_m s1.1.1) fun told =>
  ((law_right_m s1.1.1 s1.2.1) && ((law_right_m s1.1.2 s1.2.2) && (decide ((Ways_pairs_s_m (Ways_init_m net)) = []))))

end Lw
set_option Elab.async false
set_option linter.all false
set_option maxRecDepth 100000
set_option maxHeartbeats 4000000
namespace Lw
open PySem L2 Sx
abbrev S21 := (((List Str × List Road) × (List ((Str × Str) × Int))) × ((List Str × List Road) × (List ((Str × Str) × Int)))) × ((List ((Str × Str) × Int)) × (List ((Str × Str) × Int)))
def f1 (names : List Str) (lines : List Road) (s1 : S21) (x1 : Int) : Cf Bool S21 S21 :=
    lt ((x1 * 1099087573) % 10000000000037) fun n : Int =>
    lt (n % 2) fun k : Int =>
    cond (decide (k = 0)) (
      lt (law_end_m ((n / 2) % 1009) names) fun house : Str =>
      lt (law_end_m ((n / 2018) % 1013) names) fun goal : Str =>
      lt (((n / 7) % ((lines.length : Int) + 2)) - 1) fun road : Int =>
      lt (decide (((n / 1000003) % 4) = 0)) fun drops : Bool =>
      lt (((enumI lines).filter (fun z2 : Int × Road => (decide (z2.2.1 = house)))).map (fun z2 : Int × Road => z2.1)) fun mine : List Int =>
      lt (cond ((!(decide (mine = []))) && (decide (0 < ((n / 4000012) % 3)))) (
          lt (mine.getD (((n / 31) % (mine.length : Int))).toNat 0) fun road_2 : Int =>
          road_2) (
          road)) fun j1 : Int =>
      lt (law_due_m names lines house goal j1 drops) fun due : D =>
      lt ((law_deed_m s1.1.1 house goal j1 drops)) fun r2 : D × ((List Str × List Road) × (List ((Str × Str) × Int))) =>
      cond (!(D.eq r2.1 due)) (
        .rt false) (
      lt (cond ((due.isNon) && drops) (
          lt (adel s1.2.1 (house, goal)) fun kept_0 =>
          (kept_0, s1.2.2)) (
          cond (due.isNon) (
            lt (aput s1.2.1 (house, goal) j1) fun kept_0_2 =>
            (kept_0_2, s1.2.2)) (
            s1.2))) fun j3 : ((List ((Str × Str) × Int)) × (List ((Str × Str) × Int))) =>
      lt ((optE D.int) (aget j3.1 (house, goal))) fun due_2 : D =>
      lt (cond ((!decide (house ∈ names)) || ((!decide (goal ∈ names)) || (decide (house = goal)))) (
          lt ((lstE D.bl) ([true, false])) fun due_3 : D =>
          due_3) (
          due_2)) fun j5 : D =>
      cond ((!(D.eq (law_asked_m r2.2 house goal) j5)) || (!(law_right_m r2.2 j3.1))) (
        .rt false) (
        .nx ((r2.2, s1.1.2), j3)))) (
    lt (law_end_m ((n / 2) % 1009) names) fun house_2 : Str =>
    lt (law_end_m ((n / 2018) % 1013) names) fun goal_2 : Str =>
    lt (((n / 7) % ((lines.length : Int) + 2)) - 1) fun road_3 : Int =>
    lt (decide (((n / 1000003) % 4) = 0)) fun drops_2 : Bool =>
    lt (((enumI lines).filter (fun z3 : Int × Road => (decide (z3.2.1 = house_2)))).map (fun z3 : Int × Road => z3.1)) fun mine_2 : List Int =>
    lt (cond ((!(decide (mine_2 = []))) && (decide (0 < ((n / 4000012) % 3)))) (
        lt (mine_2.getD (((n / 31) % (mine_2.length : Int))).toNat 0) fun road_4 : Int =>
        road_4) (
        road_3)) fun j7 : Int =>
    lt (law_due_m names lines house_2 goal_2 j7 drops_2) fun due_4 : D =>
    lt ((law_deed_m s1.1.2 house_2 goal_2 j7 drops_2)) fun r8 : D × ((List Str × List Road) × (List ((Str × Str) × Int))) =>
    cond (!(D.eq r8.1 due_4)) (
      .rt false) (
    lt (cond ((due_4.isNon) && drops_2) (
        lt (adel s1.2.2 (house_2, goal_2)) fun kept_1 =>
        (s1.2.1, kept_1)) (
        cond (due_4.isNon) (
          lt (aput s1.2.2 (house_2, goal_2) j7) fun kept_1_2 =>
          (s1.2.1, kept_1_2)) (
          s1.2))) fun j9 : ((List ((Str × Str) × Int)) × (List ((Str × Str) × Int))) =>
    lt ((optE D.int) (aget j9.2 (house_2, goal_2))) fun due_5 : D =>
    lt (cond ((!decide (house_2 ∈ names)) || ((!decide (goal_2 ∈ names)) || (decide (house_2 = goal_2)))) (
        lt ((lstE D.bl) ([true, false])) fun due_6 : D =>
        due_6) (
        due_5)) fun j11 : D =>
    cond ((!(D.eq (law_asked_m r8.2 house_2 goal_2) j11)) || (!(law_right_m r8.2 j9.2))) (
      .rt false) (
      .nx ((s1.1.1, r8.2), j9))))
def tail0 (names : List Str) (lines : List Road) (s1 : S21) (house goal : Str) (j1 : Int) (drops : Bool) : Cf Bool S21 S21 :=
      lt (law_due_m names lines house goal j1 drops) fun due : D =>
      lt ((law_deed_m s1.1.1 house goal j1 drops)) fun r2 : D × ((List Str × List Road) × (List ((Str × Str) × Int))) =>
      cond (!(D.eq r2.1 due)) (
        .rt false) (
      lt (cond ((due.isNon) && drops) (
          lt (adel s1.2.1 (house, goal)) fun kept_0 =>
          (kept_0, s1.2.2)) (
          cond (due.isNon) (
            lt (aput s1.2.1 (house, goal) j1) fun kept_0_2 =>
            (kept_0_2, s1.2.2)) (
            s1.2))) fun j3 : ((List ((Str × Str) × Int)) × (List ((Str × Str) × Int))) =>
      lt ((optE D.int) (aget j3.1 (house, goal))) fun due_2 : D =>
      lt (cond ((!decide (house ∈ names)) || ((!decide (goal ∈ names)) || (decide (house = goal)))) (
          lt ((lstE D.bl) ([true, false])) fun due_3 : D =>
          due_3) (
          due_2)) fun j5 : D =>
      cond ((!(D.eq (law_asked_m r2.2 house goal) j5)) || (!(law_right_m r2.2 j3.1))) (
        .rt false) (
        .nx ((r2.2, s1.1.2), j3)))
def tail1 (names : List Str) (lines : List Road) (s1 : S21) (house_2 goal_2 : Str) (j7 : Int) (drops_2 : Bool) : Cf Bool S21 S21 :=
    lt (law_due_m names lines house_2 goal_2 j7 drops_2) fun due_4 : D =>
    lt ((law_deed_m s1.1.2 house_2 goal_2 j7 drops_2)) fun r8 : D × ((List Str × List Road) × (List ((Str × Str) × Int))) =>
    cond (!(D.eq r8.1 due_4)) (
      .rt false) (
    lt (cond ((due_4.isNon) && drops_2) (
        lt (adel s1.2.2 (house_2, goal_2)) fun kept_1 =>
        (s1.2.1, kept_1)) (
        cond (due_4.isNon) (
          lt (aput s1.2.2 (house_2, goal_2) j7) fun kept_1_2 =>
          (s1.2.1, kept_1_2)) (
          s1.2))) fun j9 : ((List ((Str × Str) × Int)) × (List ((Str × Str) × Int))) =>
    lt ((optE D.int) (aget j9.2 (house_2, goal_2))) fun due_5 : D =>
    lt (cond ((!decide (house_2 ∈ names)) || ((!decide (goal_2 ∈ names)) || (decide (house_2 = goal_2)))) (
        lt ((lstE D.bl) ([true, false])) fun due_6 : D =>
        due_6) (
        due_5)) fun j11 : D =>
    cond ((!(D.eq (law_asked_m r8.2 house_2 goal_2) j11)) || (!(law_right_m r8.2 j9.2))) (
      .rt false) (
      .nx ((s1.1.1, r8.2), j9)))
theorem need_in {t : (List Str × List Road) × (List ((Str × Str) × Int))} {h g : Str} {v : Unit} (e : Ways_need_pair_x_m t h g = .ok v) : h ∈ t.1.1 ∧ g ∈ t.1.1 ∧ h ≠ g := by
  unfold Ways_need_pair_x_m Net_known_x_m at e
  by_cases h1 : h ∈ t.1.1
  · by_cases h2 : g ∈ t.1.1
    · by_cases h3 : h = g
      · rw [decide_eq_true h1, decide_eq_true h2, decide_eq_true h3] at e; cases e
      · exact ⟨h1, h2, h3⟩
    · rw [decide_eq_true h1, decide_eq_false h2] at e; cases e
  · rw [decide_eq_false h1] at e; cases e
def bad21 (names : List Str) (h g : Str) : Bool := (!decide (h ∈ names)) || ((!decide (g ∈ names)) || (decide (h = g)))
theorem need_eq {names : List Str} {lines : List Road} {m : List ((Str × Str) × Int)} {h g : Str} : Ways_need_pair_x_m ((names, lines), m) h g = cond (bad21 names h g) (.error .NoHouse) (.ok ()) := by
  unfold Ways_need_pair_x_m Net_known_x_m bad21
  show xb (cond (!decide (h ∈ names)) _ _) _ _ = _
  cases q1 : decide (h ∈ names) with
  | false => rfl
  | true =>
    show xb (cond (!decide (g ∈ names)) _ _) _ _ = _
    cases q2 : decide (g ∈ names) with
    | false => rfl
    | true =>
      show cond (decide (h = g)) _ _ = _
      cases q3 : decide (h = g) <;> rfl
abbrev TabW := (List Str × List Road) × (List ((Str × Str) × Int))
theorem lb_any {bs : List Bool} : Any (lstE D.bl bs) := EqS.any (eqs_lst eqs_bool) (fun _ _ => trivial)
theorem oi_any {o : Option Int} : Any (optE D.int o) := EqS.any (eqs_opt eqs_int) (fun _ _ => trivial)
theorem non_any : Any D.non := oi_any (o := none)
theorem deed_val (t : TabW) (h g : Str) (r : Int) (drops : Bool) : law_deed_m t h g r drops = (match (cond drops (Ways_drop_way_x_m t h g) (Ways_set_way_x_m t h g r)) with
    | .ok t' => (D.non, t')
    | .error e => (lstE D.bl [e.is_NoHouse, e.is_NoRoad], t)) := by
  unfold law_deed_m
  cases drops with
  | true =>
    show _ = (match (Ways_drop_way_x_m t h g) with | .ok t' => (D.non, t') | .error e => (lstE D.bl [e.is_NoHouse, e.is_NoRoad], t))
    cases q : Ways_drop_way_x_m t h g with
    | ok v => simp only [lt, xb, tryN, bndV, cond, q]; rfl
    | error e => simp only [lt, xb, tryN, bndV, cond, q]; cases e <;> rfl
  | false =>
    show _ = (match (Ways_set_way_x_m t h g r) with | .ok t' => (D.non, t') | .error e => (lstE D.bl [e.is_NoHouse, e.is_NoRoad], t))
    cases q : Ways_set_way_x_m t h g r with
    | ok v => simp only [lt, xb, tryN, bndV, cond, q]; rfl
    | error e => simp only [lt, xb, tryN, bndV, cond, q]; cases e <;> rfl
theorem deed_any {t : TabW} {h g : Str} {r : Int} {drops : Bool} : Any (law_deed_m t h g r drops).1 := by
  rw [deed_val]
  split
  · exact non_any
  · exact lb_any
theorem need_err {t : TabW} {h g : Str} {e : Exn} (q : Ways_need_pair_x_m t h g = .error e) : e = .NoHouse := by
  obtain ⟨⟨names, lines⟩, m⟩ := t
  rw [need_eq] at q
  cases hb : bad21 names h g with
  | true => rw [hb] at q; cases q; rfl
  | false => rw [hb] at q; cases q
theorem way_err {t : TabW} {h g : Str} {e : Exn} (q : Ways_way_x_m t h g = .error e) : e = .NoHouse := by
  unfold Ways_way_x_m at q
  cases hn : Ways_need_pair_x_m t h g with
  | ok v => rw [hn] at q; cases q
  | error e' => rw [hn] at q; cases q; exact need_err hn
theorem drop_err {t : TabW} {h g : Str} {e : Exn} (q : Ways_drop_way_x_m t h g = .error e) : e = .NoHouse := by
  unfold Ways_drop_way_x_m at q
  cases hn : Ways_need_pair_x_m t h g with
  | ok v => rw [hn] at q; cases q
  | error e' => rw [hn] at q; cases q; exact need_err hn
theorem set_err {t : TabW} {h g : Str} {r : Int} {e : Exn} (q : Ways_set_way_x_m t h g r = .error e) : e = .NoHouse ∨ e = .NoRoad := by
  unfold Ways_set_way_x_m at q
  cases hn : Ways_need_pair_x_m t h g with
  | ok v =>
    rw [hn] at q
    cases hr : decide (r ∈ Net_out_of_m t.1 h) with
    | true => have q : cond (!decide (r ∈ Net_out_of_m t.1 h)) (Except.error Exn.NoRoad) (Except.ok (t.1, aput t.2 (h, g) r) : Except Exn TabW) = .error e := q; rw [hr] at q; cases q
    | false => have q : cond (!decide (r ∈ Net_out_of_m t.1 h)) (Except.error Exn.NoRoad) (Except.ok (t.1, aput t.2 (h, g) r) : Except Exn TabW) = .error e := q; rw [hr] at q; cases q; exact .inr rfl
  | error e' => rw [hn] at q; cases q; exact .inl (need_err hn)
theorem xb_err {V Rr Ll Ss : Type} {o : Except Exn V} {F : V → Ss} {e : Exn} (h : (xb o (fun v1 => (.nx (F v1) : Cf (Except Exn Rr) Ll Ss)) (fun e1 => .rt (.error e1))) = .rt (.error e)) : o = .error e := by
  cases o with
  | ok v => cases h
  | error x => cases h; rfl
theorem asked_caught {t : TabW} {h g : Str} {Rr Ll Ss : Type} {F : Option Int → Ss} {e : Exn} (he : (xb (Ways_way_x_m t h g) (fun v1 => (.nx (F v1) : Cf (Except Exn Rr) Ll Ss)) (fun e1 => .rt (.error e1))) = .rt (.error e)) : e.is_NoHouse = true := by
  rw [way_err (xb_err he)]; rfl
theorem deed_caught {t : TabW} {h g : Str} {r : Int} {drops : Bool} {Rr Ll Ss : Type} {F G : TabW → Ss} {e : Exn} (he : (cond drops (xb (Ways_drop_way_x_m t h g) (fun v1 => (.nx (F v1) : Cf (Except Exn Rr) Ll Ss)) (fun e1 => .rt (.error e1))) (xb (Ways_set_way_x_m t h g r) (fun v1 => (.nx (G v1) : Cf (Except Exn Rr) Ll Ss)) (fun e1 => .rt (.error e1)))) = .rt (.error e)) (hb : e.is_NoHouse = false) : e.is_NoRoad = true := by
  cases drops with
  | true => rw [drop_err (xb_err he)] at hb; cases hb
  | false =>
    rcases set_err (xb_err he) with q | q
    · rw [q] at hb; cases hb
    · rw [q]; rfl
theorem and_dec {r n : Int} (h : (decide (0 ≤ r) && decide (r < n)) = true) : 0 ≤ r ∧ r < n := by simpa using h
theorem mine_pos {outs : List Int} (h : (!decide (outs = [])) = true) : 0 < outs.length := List.length_pos_iff.mpr (by simpa using h)
theorem ix_mod {outs : List Int} (h : (!decide (outs = [])) = true) (c : Int) : 0 ≤ c % (outs.length : Int) ∧ c % (outs.length : Int) < (outs.length : Int) := by
  have : outs ≠ [] := by simpa using h
  have := List.length_pos_iff.mpr this
  exact ⟨Int.emod_nonneg _ (by omega), Int.emod_lt_of_pos _ (by omega)⟩
theorem sort_str {m : List ((Str × Str) × Int)} {F : Str × Str → Int} (h : ∀ k ∈ m.map (·.1), PySem.PyData.strOk k.1 = true ∧ PySem.PyData.strOk k.2 = true) : ∀ x ∈ sortK (fun x : Str × Str × Int => [.inr x.1, .inr x.2.1, .inl x.2.2]) ((m.map (·.1)).map (fun z1 : Str × Str => (z1.1, z1.2, F z1))), PySem.PyData.strOk x.1 = true ∧ PySem.PyData.strOk x.2.1 = true ∧ True := fun x hx => by
  obtain ⟨k, h1, rfl⟩ := List.mem_map.mp ((isort_perm _).mem_iff.mp hx)
  exact ⟨(h k h1).1, (h k h1).2, trivial⟩
theorem due_any {names : List Str} {lines : List Road} {h g : Str} {r : Int} {drops : Bool} : Any (law_due_m names lines h g r drops) := by
  unfold law_due_m
  exact cond_keep (P := Any) (fun _ => lb_any) fun _ => cond_keep (P := Any) (fun _ => non_any) fun _ => lb_any
theorem asked_val (t : TabW) (h g : Str) : law_asked_m t h g = (match Ways_way_x_m t h g with
    | .ok o => optE D.int o
    | .error e => lstE D.bl [e.is_NoHouse, e.is_NoRoad]) := by
  unfold law_asked_m
  cases q : Ways_way_x_m t h g with
  | ok v => simp only [lt, xb, tryN, bndV, cond, q]; rfl
  | error e => simp only [lt, xb, tryN, bndV, cond, q]; rfl
theorem asked_any {t : TabW} {h g : Str} : Any (law_asked_m t h g) := by
  rw [asked_val]
  split
  · exact oi_any
  · exact lb_any
theorem out_mem21 {net : List Str × List Road} {h : Str} {n : Int} : n ∈ Net_out_of_m net h ↔ (0 ≤ n ∧ n < (net.2.length : Int)) ∧ (net.2.getD n.toNat ("", "", 0, 0)).1 = h := by
  have e : Net_out_of_m net h = ((enumI net.2).filter (fun z : Int × Road => decide (z.2.1 = h))).map (fun z : Int × Road => z.1) := rfl
  rw [e, List.mem_map]
  constructor
  · rintro ⟨z, hz, rfl⟩
    obtain ⟨h1, h2⟩ := List.mem_filter.mp hz
    obtain ⟨k, hk⟩ := List.getElem?_of_mem h1
    obtain ⟨e1, e2⟩ := enumI_get hk
    have hl := (List.getElem?_eq_some_iff.mp e2).1
    refine ⟨by omega, ?_⟩
    rw [e1]
    show (net.2.getD ((k : Int)).toNat _).1 = h
    rw [Int.toNat_natCast, List.getD_eq_getElem?_getD, e2]
    exact of_decide_eq_true h2
  · rintro ⟨⟨h1, h2⟩, h3⟩
    have hl : n.toNat < net.2.length := by omega
    refine ⟨(n, net.2[n.toNat]), List.mem_filter.mpr ⟨?_, decide_eq_true ?_⟩, rfl⟩
    · have : (enumI net.2)[n.toNat]? = some (n, net.2[n.toNat]) := by
        have q := List.getElem?_eq_getElem (l := enumI net.2) (i := n.toNat) (by rw [enumI_len]; exact hl)
        obtain ⟨e1, e2⟩ := enumI_get q
        rw [q]
        rw [List.getElem?_eq_getElem hl] at e2
        refine congrArg some (Prod.ext ?_ (Option.some.inj e2).symm)
        rw [e1]; omega
      exact List.mem_of_getElem? this
    · have e2 := h3
      rw [List.getD_eq_getElem?_getD, List.getElem?_eq_getElem hl] at e2
      exact e2
def newm (due : D) (drops : Bool) (m : List ((Str × Str) × Int)) (h g : Str) (r : Int) : List ((Str × Str) × Int) := cond (due.isNon && drops) (adel m (h, g)) (cond due.isNon (aput m (h, g) r) m)
theorem deed_ok {names : List Str} {lines : List Road} {m : List ((Str × Str) × Int)} {h g : Str} {r : Int} {drops : Bool} : law_deed_m ((names, lines), m) h g r drops = (law_due_m names lines h g r drops, ((names, lines), newm (law_due_m names lines h g r drops) drops m h g r)) := by
  rw [deed_val]
  unfold law_due_m newm Ways_drop_way_x_m Ways_set_way_x_m
  rw [need_eq]
  have hb : ((!decide (h ∈ names)) || ((!decide (g ∈ names)) || (decide (h = g)))) = bad21 names h g := rfl
  rw [hb]
  cases bad21 names h g with
  | true => cases drops <;> rfl
  | false =>
    cases drops with
    | true => rfl
    | false =>
      have hm : decide (r ∈ Net_out_of_m (names, lines) h) = (((decide (0 ≤ r)) && (decide (r < (lines.length : Int)))) && (decide ((lines.getD (r).toNat ("", "", 0, 0)).1 = h))) := by
        rw [Bool.eq_iff_iff, decide_eq_true_iff, out_mem21, Bool.and_eq_true, Bool.and_eq_true, decide_eq_true_iff, decide_eq_true_iff, decide_eq_true_iff]
      rw [← hm]
      show (match xb (Except.ok () : Except Exn Unit) (fun v1 => cond (!decide (r ∈ Net_out_of_m (names, lines) h)) (Except.error Exn.NoRoad) (lt (aput m (h, g) r) fun told => (Except.ok ((names, lines), told) : Except Exn TabW))) (fun e1 => Except.error e1) with | .ok t' => (D.non, t') | .error e => (lstE D.bl [e.is_NoHouse, e.is_NoRoad], ((names, lines), m))) = _
      cases decide (r ∈ Net_out_of_m (names, lines) h) <;> rfl
theorem asked_ok {names : List Str} {lines : List Road} {m : List ((Str × Str) × Int)} {h g : Str} : law_asked_m ((names, lines), m) h g = cond (bad21 names h g) (lstE D.bl [true, false]) (optE D.int (aget m (h, g))) := by
  rw [asked_val]
  unfold Ways_way_x_m
  rw [need_eq]
  cases bad21 names h g <;> rfl
theorem right_ok {net : List Str × List Road} {m : List ((Str × Str) × Int)} : law_right_m (net, m) m = true := by
  unfold law_right_m
  show (true && decide (_ = _)) = true
  rw [Bool.true_and]
  exact decide_eq_true rfl
structure J21 (net : List Str × List Road) (i : Nat) (s : S21) : Prop where
  t0 : s.1.1 = (net, s.2.1)
  t1 : s.1.2 = (net, s.2.2)
  l0 : s.2.1.length ≤ i
  l1 : s.2.2.length ≤ i
  k0 : ∀ k ∈ s.2.1.map (·.1), k.1 ∈ net.1 ∧ k.2 ∈ net.1
  k1 : ∀ k ∈ s.2.2.map (·.1), k.1 ∈ net.1 ∧ k.2 ∈ net.1
theorem J21.mono {net : List Str × List Road} {i j : Nat} {s : S21} (h : J21 net i s) (le : i ≤ j) : J21 net j s := ⟨h.t0, h.t1, Nat.le_trans h.l0 le, Nat.le_trans h.l1 le, h.k0, h.k1⟩
theorem j21_0 {net : List Str × List Road} : J21 net 0 ((Ways_init_m net, Ways_init_m net), ([], [])) := ⟨rfl, rfl, Nat.le_refl 0, Nat.le_refl 0, fun _ h => (by cases h), fun _ h => (by cases h)⟩
theorem due_bad {names : List Str} {lines : List Road} {h g : Str} {r : Int} {drops : Bool} (hn : (law_due_m names lines h g r drops).isNon = true) : h ∈ names ∧ g ∈ names := by
  unfold law_due_m at hn
  by_cases h1 : h ∈ names
  · by_cases h2 : g ∈ names
    · exact ⟨h1, h2⟩
    · rw [decide_eq_true h1, decide_eq_false h2] at hn; cases hn
  · rw [decide_eq_false h1] at hn; cases hn
theorem newm_ok {names : List Str} {lines : List Road} {m : List ((Str × Str) × Int)} {h g : Str} {r : Int} {drops : Bool} {i : Nat} (hl : m.length ≤ i) (hk : ∀ k ∈ m.map (·.1), k.1 ∈ names ∧ k.2 ∈ names) :
    (newm (law_due_m names lines h g r drops) drops m h g r).length ≤ i + 1 ∧ ∀ k ∈ (newm (law_due_m names lines h g r drops) drops m h g r).map (·.1), k.1 ∈ names ∧ k.2 ∈ names := by
  unfold newm
  refine cond_keep (P := fun z : List ((Str × Str) × Int) => z.length ≤ i + 1 ∧ ∀ k ∈ z.map (·.1), k.1 ∈ names ∧ k.2 ∈ names) (fun _ => ?_) fun _ => cond_keep (P := fun z : List ((Str × Str) × Int) => z.length ≤ i + 1 ∧ ∀ k ∈ z.map (·.1), k.1 ∈ names ∧ k.2 ∈ names) (fun hn => ?_) fun _ => ⟨Nat.le_succ_of_le hl, hk⟩
  · unfold adel
    refine ⟨Nat.le_succ_of_le (Nat.le_trans (List.length_filter_le _ _) hl), fun k hk2 => ?_⟩
    obtain ⟨kv, h1, rfl⟩ := List.mem_map.mp hk2
    exact hk _ (List.mem_map.mpr ⟨kv, (List.mem_filter.mp h1).1, rfl⟩)
  · refine ⟨Nat.le_trans aput_len (Nat.succ_le_succ hl), fun k hk2 => ?_⟩
    rw [aput_keys] at hk2
    split at hk2
    · exact hk k hk2
    · rcases List.mem_append.mp hk2 with q | q
      · exact hk k q
      · rw [List.mem_singleton] at q
        subst q
        exact due_bad hn
theorem cut30 {s : List Int} : (pickN s (places s.length (some 3) (some 63) (some 2))).length ≤ 30 := Nat.le_trans (pickN_len _ _) (Nat.le_trans (places_len (by decide) (by decide) (by decide)) (by decide))
theorem cut31 {s : List Int} : (pickN s (places s.length (some 2) (some 64) (some 2))).length ≤ 40 := Nat.le_trans (pickN_len _ _) (Nat.le_trans (places_len (by decide) (by decide) (by decide)) (by decide))
theorem loop_keep {S1 α Rr Ll : Type} {f : S1 → α → Cf Rr S1 S1} {J : Nat → S1 → Prop} : ∀ (xs : List α) (i : Nat) (s : S1), J i s → (∀ i s x, J i s → x ∈ xs → ∃ s', f s x = .nx s' ∧ J (i + 1) s') → ∃ s', (loop f xs s : Cf Rr Ll S1) = .nx s' ∧ J (i + xs.length) s'
  | [], i, s, h, _ => ⟨s, rfl, h⟩
  | x :: xs, i, s, h, hf => by
    obtain ⟨s1, e1, h1⟩ := hf i s x h List.mem_cons_self
    obtain ⟨s2, e2, h2⟩ := loop_keep xs (i + 1) s1 h1 fun i s y hj hy => hf i s y hj (List.mem_cons_of_mem _ hy)
    refine ⟨s2, ?_, by rw [List.length_cons, ← Nat.add_assoc, Nat.add_right_comm]; exact h2⟩
    conv => lhs; unfold loop
    rw [e1]
    exact e2
theorem tail0_ok {names : List Str} {lines : List Road} {i : Nat} {s1 : S21} (j : J21 (names, lines) i s1) (house goal : Str) (j1 : Int) (drops : Bool) : ∃ s', tail0 names lines s1 house goal j1 drops = .nx s' ∧ J21 (names, lines) (i + 1) s' := by
  obtain ⟨⟨t0, t1⟩, m0, m1⟩ := s1
  obtain rfl : t0 = ((names, lines), m0) := j.t0
  obtain rfl : t1 = ((names, lines), m1) := j.t1
  obtain ⟨n1, n2⟩ := newm_ok (lines := lines) (h := house) (g := goal) (r := j1) (drops := drops) j.l0 j.k0
  unfold tail0
  simp only [lt, deed_ok]
  rw [D.eq_refl due_any]
  have e3 : (cond ((law_due_m names lines house goal j1 drops).isNon && drops) (adel m0 (house, goal), m1) (cond (law_due_m names lines house goal j1 drops).isNon (aput m0 (house, goal) j1, m1) (m0, m1)) : List ((Str × Str) × Int) × List ((Str × Str) × Int)) = (newm (law_due_m names lines house goal j1 drops) drops m0 house goal j1, m1) := by
    unfold newm
    cases (law_due_m names lines house goal j1 drops).isNon <;> cases drops <;> rfl
  rw [e3]
  generalize newm (law_due_m names lines house goal j1 drops) drops m0 house goal j1 = m' at n1 n2
  have hb : ((!decide (house ∈ names)) || ((!decide (goal ∈ names)) || (decide (house = goal)))) = bad21 names house goal := rfl
  rw [hb, asked_ok]
  show ∃ s', (cond (!true) _ (cond ((!(D.eq _ _)) || (!(law_right_m ((names, lines), m') m'))) (.rt false) (.nx ((((names, lines), m'), ((names, lines), m1)), (m', m1)))) : Cf Bool S21 S21) = _ ∧ _
  rw [right_ok, D.eq_refl (by exact cond_keep (P := Any) (fun _ => lb_any) fun _ => oi_any)]
  exact ⟨_, rfl, rfl, rfl, n1, Nat.le_succ_of_le j.l1, n2, j.k1⟩
theorem tail1_ok {names : List Str} {lines : List Road} {i : Nat} {s1 : S21} (j : J21 (names, lines) i s1) (house goal : Str) (j1 : Int) (drops : Bool) : ∃ s', tail1 names lines s1 house goal j1 drops = .nx s' ∧ J21 (names, lines) (i + 1) s' := by
  obtain ⟨⟨t0, t1⟩, m0, m1⟩ := s1
  obtain rfl : t0 = ((names, lines), m0) := j.t0
  obtain rfl : t1 = ((names, lines), m1) := j.t1
  obtain ⟨n1, n2⟩ := newm_ok (lines := lines) (h := house) (g := goal) (r := j1) (drops := drops) j.l1 j.k1
  unfold tail1
  simp only [lt, deed_ok]
  rw [D.eq_refl due_any]
  have e3 : (cond ((law_due_m names lines house goal j1 drops).isNon && drops) (m0, adel m1 (house, goal)) (cond (law_due_m names lines house goal j1 drops).isNon (m0, aput m1 (house, goal) j1) (m0, m1)) : List ((Str × Str) × Int) × List ((Str × Str) × Int)) = (m0, newm (law_due_m names lines house goal j1 drops) drops m1 house goal j1) := by
    unfold newm
    cases (law_due_m names lines house goal j1 drops).isNon <;> cases drops <;> rfl
  rw [e3]
  generalize newm (law_due_m names lines house goal j1 drops) drops m1 house goal j1 = m' at n1 n2
  have hb : ((!decide (house ∈ names)) || ((!decide (goal ∈ names)) || (decide (house = goal)))) = bad21 names house goal := rfl
  rw [hb, asked_ok]
  show ∃ s', (cond (!true) _ (cond ((!(D.eq _ _)) || (!(law_right_m ((names, lines), m') m'))) (.rt false) (.nx ((((names, lines), m0), ((names, lines), m')), (m0, m')))) : Cf Bool S21 S21) = _ ∧ _
  rw [right_ok, D.eq_refl (by exact cond_keep (P := Any) (fun _ => lb_any) fun _ => oi_any)]
  exact ⟨_, rfl, rfl, rfl, Nat.le_succ_of_le j.l0, n1, j.k0, n2⟩
theorem f1_ok {names : List Str} {lines : List Road} {i : Nat} {s1 : S21} {x1 : Int} (j : J21 (names, lines) i s1) : ∃ s', f1 names lines s1 x1 = .nx s' ∧ J21 (names, lines) (i + 1) s' := by
  unfold f1
  show ∃ s', cond (decide ((x1 * 1099087573) % 10000000000037 % 2 = 0)) _ _ = _ ∧ _
  cases decide ((x1 * 1099087573) % 10000000000037 % 2 = 0) with
  | true => exact tail0_ok j _ _ _ _
  | false => exact tail1_ok j _ _ _ _
theorem nx_of {Rr Ll Ss : Type} {P : Ss → Prop} {o : Cf Rr Ll Ss} {s : Ss} (h : ∃ s', o = .nx s' ∧ P s') (e : o = .nx s) : P s := by
  obtain ⟨s', e2, p⟩ := h
  rw [e2] at e
  cases e
  exact p
theorem no_bk {Rr Ll Ss : Type} {P : Ss → Prop} {o : Cf Rr Ll Ss} {s : Ll} {Q : Prop} (h : ∃ s', o = .nx s' ∧ P s') (e : o = .bk s) : Q := by
  obtain ⟨s', e2, p⟩ := h
  rw [e2] at e
  cases e
theorem no_ct {Rr Ll Ss : Type} {P : Ss → Prop} {o : Cf Rr Ll Ss} {s : Ll} {Q : Prop} (h : ∃ s', o = .nx s' ∧ P s') (e : o = .ct s) : Q := by
  obtain ⟨s', e2, p⟩ := h
  rw [e2] at e
  cases e
theorem j21_keys {names : List Str} {lines : List Road} {m : List ((Str × Str) × Int)} (oh : OkH names) (hk : ∀ k ∈ m.map (·.1), k.1 ∈ names ∧ k.2 ∈ names) : ∀ k ∈ m.map (·.1), PySem.PyData.strOk k.1 = true ∧ PySem.PyData.strOk k.2 = true := fun k h => ⟨(oh.ok _ (hk k h).1).str, (oh.ok _ (hk k h).2).str⟩
theorem law_true (script : List Int) : law_m script = true := by
  unfold law_m
  show bndV (loop (f1 (housesB (cellAt script 0) ((2 + ((cellAt script 1) % 11)) : Int).toNat) _) _ ((Ways_init_m (_, _), Ways_init_m (_, _)), ([], []))) _ = true
  generalize housesB (cellAt script 0) ((2 + ((cellAt script 1) % 11)) : Int).toNat = names
  generalize ((pickN script (places script.length (some 2) (some 64) (some 2))).map (fun z1 : Int => (roadB names z1))) = lines
  obtain ⟨s1, e1, j1⟩ := loop_keep (Ll := Empty) (f := f1 names lines) (J := fun i s => J21 (names, lines) i s) (pickN script (places script.length (some 3) (some 63) (some 2))) 0 _ j21_0 fun i s x j _ => f1_ok j
  rw [e1]
  rw [Nat.zero_add] at j1
  obtain ⟨⟨t0, t1⟩, m0, m1⟩ := s1
  obtain rfl : t0 = ((names, lines), m0) := j1.t0
  obtain rfl : t1 = ((names, lines), m1) := j1.t1
  show (law_right_m ((names, lines), m0) m0 && (law_right_m ((names, lines), m1) m1 && decide (_ = _))) = true
  rw [right_ok, right_ok]
  rfl
theorem js_f1 {names : List Str} {lines : List Road} {i : Nat} {s1 : S21} {x1 : Int} {Jb : S21 → Prop} (j : J21 (names, lines) i s1) : (∀ s', f1 names lines s1 x1 = .nx s' → J21 (names, lines) (i + 1) s') ∧ (∀ s', f1 names lines s1 x1 = .ct s' → J21 (names, lines) (i + 1) s') ∧ ∀ s', f1 names lines s1 x1 = .bk s' → Jb s' := ⟨fun _ e => nx_of (f1_ok j) e, fun _ e => no_ct (f1_ok j) e, fun _ e => no_bk (f1_ok j) e⟩
theorem pairs_len {t : TabW} : (Ways_pairs_s_m t).length = t.2.length := by
  unfold Ways_pairs_s_m
  rw [sortK_len, List.length_map, List.length_map]
abbrev OkR21 (t : TabW) (kept : List ((Str × Str) × Int)) : Prop := (t.2.length ≤ 1000 ∧ ∀ k ∈ t.2.map (·.1), PySem.PyData.strOk k.1 = true ∧ PySem.PyData.strOk k.2 = true) ∧ kept.length ≤ 1000 ∧ ∀ k ∈ kept.map (·.1), PySem.PyData.strOk k.1 = true ∧ PySem.PyData.strOk k.2 = true
theorem right_e0 {names : List Str} {lines : List Road} {s1 : S21} (oh : OkH names) (j : J21 (names, lines) 30 s1) : OkR21 s1.1.1 s1.2.1 := by
  rw [j.t0]
  exact ⟨⟨Nat.le_trans j.l0 (by decide), j21_keys (lines := lines) oh j.k0⟩, Nat.le_trans j.l0 (by decide), j21_keys (lines := lines) oh j.k0⟩
theorem right_e1 {names : List Str} {lines : List Road} {s1 : S21} (oh : OkH names) (j : J21 (names, lines) 30 s1) : OkR21 s1.1.2 s1.2.2 := by
  rw [j.t1]
  exact ⟨⟨Nat.le_trans j.l1 (by decide), j21_keys (lines := lines) oh j.k1⟩, Nat.le_trans j.l1 (by decide), j21_keys (lines := lines) oh j.k1⟩
theorem right0 {names : List Str} {lines : List Road} {i : Nat} {s1 : S21} {house goal : Str} {j1 : Int} {drops : Bool} {due : D} {r2 : D × TabW} {j3 : List ((Str × Str) × Int) × List ((Str × Str) × Int)} (oh : OkH names) (j : J21 (names, lines) i s1) (hi : i < 30) (hdue : due = law_due_m names lines house goal j1 drops) (hr2 : r2 = law_deed_m s1.1.1 house goal j1 drops)
    (hj3 : j3 = cond (due.isNon && drops) (adel s1.2.1 (house, goal), s1.2.2) (cond due.isNon (aput s1.2.1 (house, goal) j1, s1.2.2) s1.2)) : OkR21 r2.2 j3.1 := by
  obtain ⟨⟨t0, t1⟩, m0, m1⟩ := s1
  obtain rfl : t0 = ((names, lines), m0) := j.t0
  obtain ⟨n1, n2⟩ := newm_ok (lines := lines) (h := house) (g := goal) (r := j1) (drops := drops) j.l0 j.k0
  have e3 : j3.1 = newm (law_due_m names lines house goal j1 drops) drops m0 house goal j1 := by
    rw [hj3, hdue]
    unfold newm
    cases (law_due_m names lines house goal j1 drops).isNon <;> cases drops <;> rfl
  rw [e3, hr2, deed_ok]
  exact ⟨⟨Nat.le_trans n1 (by omega), j21_keys (lines := lines) oh n2⟩, Nat.le_trans n1 (by omega), j21_keys (lines := lines) oh n2⟩
theorem right1 {names : List Str} {lines : List Road} {i : Nat} {s1 : S21} {house goal : Str} {j1 : Int} {drops : Bool} {due : D} {r2 : D × TabW} {j3 : List ((Str × Str) × Int) × List ((Str × Str) × Int)} (oh : OkH names) (j : J21 (names, lines) i s1) (hi : i < 30) (hdue : due = law_due_m names lines house goal j1 drops) (hr2 : r2 = law_deed_m s1.1.2 house goal j1 drops)
    (hj3 : j3 = cond (due.isNon && drops) (s1.2.1, adel s1.2.2 (house, goal)) (cond due.isNon (s1.2.1, aput s1.2.2 (house, goal) j1) s1.2)) : OkR21 r2.2 j3.2 := by
  obtain ⟨⟨t0, t1⟩, m0, m1⟩ := s1
  obtain rfl : t1 = ((names, lines), m1) := j.t1
  obtain ⟨n1, n2⟩ := newm_ok (lines := lines) (h := house) (g := goal) (r := j1) (drops := drops) j.l1 j.k1
  have e3 : j3.2 = newm (law_due_m names lines house goal j1 drops) drops m1 house goal j1 := by
    rw [hj3, hdue]
    unfold newm
    cases (law_due_m names lines house goal j1 drops).isNon <;> cases drops <;> rfl
  rw [e3, hr2, deed_ok]
  exact ⟨⟨Nat.le_trans n1 (by omega), j21_keys (lines := lines) oh n2⟩, Nat.le_trans n1 (by omega), j21_keys (lines := lines) oh n2⟩

end Lw
set_option Elab.async false
set_option linter.all false
set_option maxRecDepth 100000
set_option maxHeartbeats 2000000
/-! Calls that change what is owned, within expressions: the call is what is evaluated first. -/
namespace Sx
open PySem L2
section
variable {X : Cx} {W : WX} {g : Gm} {l : List Res} {a b e : Expr} {pos : Pos} {rest : List Stmt} {ι : Type}
end
end Sx
set_option Elab.async false
set_option linter.all false
set_option maxRecDepth 100000
set_option maxHeartbeats 4000000
namespace Lw
open PySem L2 Sx
section
variable {P : Program} {w : World} {K : PySem.W.Frag} {mg : Str → Option Value} {base : Heap} {c : Cs}

def Exn.xd (c : Cs) : Exn → Xd
  | .NoNet => ⟨c.NoNet, []⟩
  | .NoRoad => ⟨c.NoRoad, []⟩
  | .NoHouse => ⟨c.NoHouse, []⟩
theorem Exn.ec (T : Top K mg c) : ∀ e : Exn, ExcC K (e.xd c).C
  | .NoNet => T.x_NoNet.ec
  | .NoRoad => T.x_NoRoad.ec
  | .NoHouse => T.x_NoHouse.ec
theorem k_NoHouse (T : Top K mg c) : ∀ e : Exn, PySem.W.kitOne K (.ref (e.xd c).C) (.ref c.NoHouse) = some e.is_NoHouse
  | .NoNet => T.xk_NoNet_NoHouse
  | .NoRoad => T.xk_NoRoad_NoHouse
  | .NoHouse => T.xk_NoHouse_NoHouse
theorem k_NoRoad (T : Top K mg c) : ∀ e : Exn, PySem.W.kitOne K (.ref (e.xd c).C) (.ref c.NoRoad) = some e.is_NoRoad
  | .NoNet => T.xk_NoNet_NoRoad
  | .NoRoad => T.xk_NoRoad_NoRoad
  | .NoHouse => T.xk_NoHouse_NoRoad
theorem k_RoadError (T : Top K mg c) : ∀ e : Exn, PySem.W.kitOne K (.ref (e.xd c).C) (.ref c.RoadError) = some e.is_RoadError
  | .NoNet => T.xk_NoNet_RoadError
  | .NoRoad => T.xk_NoRoad_RoadError
  | .NoHouse => T.xk_NoHouse_RoadError
theorem m_NoHouse (T : Top K mg c) : ∀ e : Exn, PySem.W.exmOne K (.ref (e.xd c).C) (.ref c.NoHouse) = some e.is_NoHouse
  | .NoNet => T.xm_NoNet_NoHouse
  | .NoRoad => T.xm_NoRoad_NoHouse
  | .NoHouse => T.xm_NoHouse_NoHouse
theorem m_NoRoad (T : Top K mg c) : ∀ e : Exn, PySem.W.exmOne K (.ref (e.xd c).C) (.ref c.NoRoad) = some e.is_NoRoad
  | .NoNet => T.xm_NoNet_NoRoad
  | .NoRoad => T.xm_NoRoad_NoRoad
  | .NoHouse => T.xm_NoHouse_NoRoad
theorem k_ValueError (T : Top K mg c) : ∀ e : Exn, PySem.W.kitOne K (.ref (e.xd c).C) (.type "ValueError") = some true
  | .NoNet => T.xv_NoNet
  | .NoRoad => T.xv_NoRoad
  | .NoHouse => T.xv_NoHouse
end

section
variable {P : Program} {w : World} {K : PySem.W.Frag} {mg : Str → Option Value} {base : Heap} {c : Cs}

theorem g_Net_known (T : Top K mg c) : GloM P w K mg base 1 c.Net "known" ["self", "house"] (Pu K (fun a : (List Str × List Road) × Str => (fun (self : List Str × List Road) (house : Str) => house ∈ self.1) a.1 a.2) (fun a => [((netD c) a.1), (D.str a.2)]) (fun a => D.non)) :=
  glom_of T.d_Net_known T.c_Net.cl (fun _ _ _ _ _ _ us hl => match us, hl with | [_, _], _ => rfl) fun f fd F => fn_ok F cs_Net_known (fun _ => rfl) fun cdv A outer s H E a hr hok => by
    have nd := cs_Net_known.nd
    obtain ⟨self, house⟩ := a
    have hok : house ∈ self.1 := hok
    refine Blk.imp (show Bo _ _ _ [some ((netD c) self), some (D.str house)] _ (Rv (PuR (fun x : Unit => D.non))) (Net_known_m self house) from ?_) (fun _ _ h => h) (fun _ _ h => h) (fun _ _ h => h.elim) (fun _ _ h => h.elim) (fun _ _ _ _ h => h.elim)
    unfold Net_known_m
    refine bo_ifD (ts_cmp op_notIn_seq (px_var (pv 1) rfl) (px_fld (px_var (pv 0) rfl) T.c_Net.cl T.n_Net_names look_names) (o_ninS (.inl rfl))) (by rw [decide_eq_true hok]; rfl) ?_
    -- if1f
    exact bo_end rfl

theorem g_Net_out_of (T : Top K mg c) : GloM P w K mg base 2 c.Net "out_of" ["self", "house"] (Fr K (fun a : (List Str × List Road) × Str => (fun (self : List Str × List Road) (house : Str) => house ∈ self.1 ∧ self.2.length ≤ 40) a.1 a.2) (fun a => [((netD c) a.1), (D.str a.2)]) (fun a => (Net_out_of_m a.1 a.2).map D.int)) :=
  glom_of T.d_Net_out_of T.c_Net.cl (fun _ _ _ _ _ _ us hl => match us, hl with | [_, _], _ => rfl) fun f fd F => fn_ok F cs_Net_out_of (fun _ => rfl) fun cdv A outer s H E a hr hok => by
    have nd := cs_Net_out_of.nd
    obtain ⟨self, house⟩ := a
    have hok : house ∈ self.1 ∧ self.2.length ≤ 40 := hok
    refine Blk.imp (show Bo _ _ _ [some ((netD c) self), some (D.str house), none, none] _ (Rt (FrR K D.int)) (Net_out_of_m self house) from ?_) (fun _ _ h => h.elim) (fun _ _ h => h) (fun _ _ h => h.elim) (fun _ _ h => h.elim) (fun _ _ _ _ h => h.elim)
    unfold Net_out_of_m
    refine bo_do (px_meth (g_Net_known T) hr (by decide) (self, house) /-ok_known_1-/(hok.1) (px_var (pv 0) rfl) (look_none (by decide +kernel) (by decide +kernel)) (pa_c (px_var (pv 1) rfl) pa_n) rfl) ?_
    exact bo_retL (ev_lcF (own := [("number", 2), ("one", 3)]) (gt := gTup K 2 (gCons (gName 2) (gCons (gName 3) gNil))) (is := [2, 3]) (fun x : Int × Road => D.tup [(D.int x.1), (roadD x.2)]) D.int (fun z1 : Int × Road => (decide (z1.2.1 = house))) (fun z1 : Int × Road => z1.1) rfl nd (Itw.to (it_enum (px_fld (px_var (pv 0) rfl) T.c_Net.cl T.n_Net_lines look_lines) T.z_enumerate) enumI_map) (blkOk_by (N := ns_Net_out_of) (sc := defScope s_Net_out_of) (by decide +kernel)) (fun _ _ _ _ _ => (pg_tup rfl (pgs_cons (pg_name (i := 2) nd rfl (.inl rfl)) (pgs_cons (pg_name (i := 3) nd rfl (.inl rfl)) pgs_nil)))) (by decide) /-csz1-/(by first | omega | (rw [rngI_len]; omega) | (rw [enumI_len]; omega) | (rw [List.length_zip]; omega)) (fun i z1 hz1 => by
      have hz11 := (enumI_get hz1).1
      have hz12 := (enumI_get hz1).2
      have hz1m := List.mem_of_getElem? hz12
      have hz1l := (List.getElem?_eq_some_iff.mp hz12).1
      exact ⟨_, tg_tup rfl rfl, fun _ _ _ _ _ => (ts_cmp op_eq (px_ix ix_tup (px_var (pv 3) rfl) px_int (o_ixT (d := (D.str z1.2.1)) rfl)) (px_var (pv 1) rfl) o_eqS), fun hcz1 => fun _ _ _ _ _ => (px_var (pv 2) rfl)⟩))

theorem g_Net_known_x (T : Top K mg c) : GloMX P w K mg base 1 c.Net "known" ["self", "house"] (SpX K (fun a : (List Str × List Road) × Str => True) (fun a => [((netD c) a.1), (D.str a.2)]) (fun _ => []) (fun _ => PuR (fun x : Unit => D.non)) (fun a => Net_known_x_m a.1 a.2) (Exn.xd c)) :=
  glomx_of T.d_Net_known T.c_Net.cl (fun _ _ _ _ _ _ us hl => match us, hl with | [_, _], _ => rfl) fun f fd F => fn_okX F cs_Net_known (fun _ => rfl) fun cdv A outer s H E a hr hok => by
    have nd := cs_Net_known.nd
    obtain ⟨self, house⟩ := a
    refine Blk.imp (show Bo _ _ _ [some ((netD c) self), some (D.str house)] _ (Rv (XR K [] (PuR (fun x : Unit => D.non)) (Exn.xd c))) (Net_known_x_m self house) from ?_) (fun _ _ h => h) (fun _ _ h => h) (fun _ _ h => h.elim) (fun _ _ h => h.elim) (fun _ _ _ _ h => xr_ex (fun _ _ _ _ _ h => h) h)
    unfold Net_known_x_m
    refine bo_ifRv (ts_cmp op_notIn_seq (px_var (pv 1) rfl) (px_fld (px_var (pv 0) rfl) T.c_Net.cl T.n_Net_names look_names) (o_ninS (.inl rfl))) (fun hi1 => ?_) (fun hi1 => ?_)
    · -- if1t
      exact bo_raise rfl takes_cx T.x_NoHouse T.xi_NoHouse (by first | exact exto_rt0 (xc := Exn.xd c) (e0 := Exn.NoHouse) | exact exto_rv0 (xc := Exn.xd c) (e0 := Exn.NoHouse) | exact exto_ou0 (xc := Exn.xd c) (e0 := Exn.NoHouse) | exact exto_xt (xc := Exn.xd c) (e0 := Exn.NoHouse))
    · -- if1f
      refine bo_okv ?_
      exact bo_end rfl

theorem g_Ways_init (T : Top K mg c) : GloC P w K mg base 1 c.Ways "Ways" ["self", "net"] (SpN K (fun a : Addr × (List Str × List Road) => True) (fun a => [.adr a.1, ((netD c) a.2)]) (fun a => [ownI K a.1 c.Ways []]) (fun a => OwnR (fun (i : Addr) (r : ((List Str × List Road) × (List ((Str × Str) × Int)))) => (.non : D)) (fun (i : Addr) (r : ((List Str × List Road) × (List ((Str × Str) × Int)))) => ([ownI K a.1 c.Ways [("net", ((netD c) r.1)), ("told", .adr i)], ownT K i (dE kSS D.int r.2)] : List Res))) (fun a => Ways_init_m a.2)) :=
  gloc_of T.d_Ways_init T.c_Ways (fun _ _ _ _ _ _ us hl => match us, hl with | [_, _], _ => rfl) fun f fd F => fn_ok F cs_Ways_init (fun _ => rfl) fun cdv A outer s H E a hr hok => by
    have nd := cs_Ways_init.nd
    obtain ⟨p_self, net⟩ := a
    refine Blk.imp (show Bo _ _ _ [some (D.adr p_self), some ((netD c) net)] [ownI K p_self c.Ways []] (Rv (OwnR (fun (i : Addr) (r : ((List Str × List Road) × (List ((Str × Str) × Int)))) => (.non : D)) (fun (i : Addr) (r : ((List Str × List Road) × (List ((Str × Str) × Int)))) => ([ownI K p_self c.Ways [("net", ((netD c) r.1)), ("told", .adr i)], ownT K i (dE kSS D.int r.2)] : List Res)))) (Ways_init_m net) from ?_) (fun _ _ h => h) (fun _ _ h => h) (fun _ _ h => h.elim) (fun _ _ h => h.elim) (fun _ _ _ _ h => h.elim)
    unfold Ways_init_m
    refine bo_fldF (n := 0) (fs' := fun net_2 => [("net", ((netD c) net_2))]) (netD c) (px_var (pv 1) rfl) (px_var (pv 0) rfl) rfl T.c_Ways.cl T.n_Ways_net (fun _ => putD_nil) (fun net_2 hnet_2 => ?_)
    show Bo _ _ _ [some (D.adr p_self), some ((netD c) net)] [ownI K p_self c.Ways [("net", ((netD c) net_2))]] _ _
    refine bo_fldO (n := fun _ => 1) (fs' := fun q_told told => [("net", ((netD c) net_2)), ("told", .adr q_told)]) (dd := fun (q_told : Addr) (told : List ((Str × Str) × Int)) => D.adr q_told) (ll := fun (q_told : Addr) (told : List ((Str × Str) × Int)) => [ownT K q_told (dE kSS D.int told), ownI K p_self c.Ways [("net", ((netD c) net_2))]]) ev_t0 (fun _ => (px_var (pv 0) rfl)) (fun _ => rfl) T.c_Ways.cl T.n_Ways_told (fun _ _ => (putD_tl putD_nil)) (fun q_told told htold => ?_)
    show Bo _ _ _ [some (D.adr p_self), some ((netD c) net)] [ownT K q_told (dE kSS D.int told), ownI K p_self c.Ways [("net", ((netD c) net_2)), ("told", .adr q_told)]] _ _
    exact bo_endG (junk := []) (r := (net_2, told)) q_told rfl ((perm_at (k := 1) rfl).trans (.cons _ ((perm_at (k := 0) rfl).trans (.cons _ (.refl _)))))
section
variable {X : Cx} {g : Gm} {l : List Res} {e1 : Expr} {es : List Expr} {p pos : Pos} {j : Nat}
theorem ev_new_Ways (T : Top X.K X.mg c) (hr : Room j X.A) (hj : 2 ≤ j) (a : (List Str × List Road)) (hok : True) (ha : Pa X (e1 :: es) g l [((netD c) a)]) (hg : Gl X "Ways" := by rfl) (he : starEach (e1 :: es) X.env = (false, eval e1 X.env) :: starEach es X.env := by rfl) (hpl : (backTo pos (starEach es X.env)).any (·.1) = false := by rfl) :
    Ev X (.Call (.Name "Ways" p) (e1 :: es) [] pos) g l (fun d l' => ∃ i : Addr × Addr, d = (fun (i : Addr × Addr) (_ : (List Str × List Road) × (List ((Str × Str) × Int))) => D.adr i.1) i (Ways_init_m a) ∧ l' = (fun (i : Addr × Addr) (r : (List Str × List Road) × (List ((Str × Str) × Int))) => (([ownI X.K i.1 c.Ways [("net", ((netD c) r.1)), ("told", .adr i.2)], ownT X.K i.2 (dE kSS D.int r.2)] : List Res) ++ l)) i (Ways_init_m a)) :=
  ev_make (g_Ways_init T) hr hj (fun q => (q, a)) (fun _ => hok) ha (fun _ => rfl) (fun _ => rfl) (fun q d l' ⟨i, h1, h2⟩ => ⟨h1, (q, i), rfl, by rw [h2]⟩) hg (by decide) he hpl
end

theorem g_Ways_need_pair_x (T : Top K mg c) : GloMX P w K mg base 2 c.Ways "need_pair" ["self", "house", "goal"] (SpX K (fun a : ((List Str × List Road) × (List ((Str × Str) × Int))) × Addr × Addr × Str × Str => True) (fun a => [.adr a.2.1, (D.str a.2.2.2.1), (D.str a.2.2.2.2)]) (fun a => [ownI K a.2.1 c.Ways [("net", ((netD c) a.1.1)), ("told", .adr a.2.2.1)], ownT K a.2.2.1 (dE kSS D.int a.1.2)]) (fun a => OwnR (fun (i : Unit) (r : Unit) => (.non : D)) (fun (i : Unit) (r : Unit) => ([ownI K a.2.1 c.Ways [("net", ((netD c) a.1.1)), ("told", .adr a.2.2.1)], ownT K a.2.2.1 (dE kSS D.int a.1.2)] : List Res))) (fun a => Ways_need_pair_x_m a.1 a.2.2.2.1 a.2.2.2.2) (Exn.xd c)) :=
  glomx_of T.d_Ways_need_pair T.c_Ways.cl (fun _ _ _ _ _ _ us hl => match us, hl with | [_, _, _], _ => rfl) fun f fd F => fn_okX F cs_Ways_need_pair (fun _ => rfl) fun cdv A outer s H E a hr hok => by
    have nd := cs_Ways_need_pair.nd
    obtain ⟨self, p_self, q_self_told, house, goal⟩ := a
    refine Blk.imp (show Bo _ _ _ [some (D.adr p_self), some (D.str house), some (D.str goal)] [ownI K p_self c.Ways [("net", ((netD c) self.1)), ("told", .adr q_self_told)], ownT K q_self_told (dE kSS D.int self.2)] (Rv (XR K [ownI K p_self c.Ways [("net", ((netD c) self.1)), ("told", .adr q_self_told)], ownT K q_self_told (dE kSS D.int self.2)] (OwnR (fun (i : Unit) (r : Unit) => (.non : D)) (fun (i : Unit) (r : Unit) => ([ownI K p_self c.Ways [("net", ((netD c) self.1)), ("told", .adr q_self_told)], ownT K q_self_told (dE kSS D.int self.2)] : List Res))) (Exn.xd c))) (Ways_need_pair_x_m self house goal) from ?_) (fun _ _ h => h) (fun _ _ h => h) (fun _ _ h => h.elim) (fun _ _ h => h.elim) (fun _ _ _ _ h => xr_ex (fun _ _ _ _ _ h => h) h)
    unfold Ways_need_pair_x_m
    refine bo_xb (fun v1 hv1 => ?_) (fun e1 he1 => ?_)
    · refine bo_do (px_methOk (g_Net_known_x T) hr (by decide) (self.1, house) /-ok_known_1-/(trivial) hv1 (px_fldO (px_var (pv 0) rfl) (k := 0) rfl T.c_Ways.cl T.n_Ways_net look_hd) (look_none (by decide +kernel) (by decide +kernel)) (pa_c (px_var (pv 1) rfl) pa_n) rfl) ?_
      refine bo_xb (fun v2 hv2 => ?_) (fun e2 he2 => ?_)
      · refine bo_do (px_methOk (g_Net_known_x T) hr (by decide) (self.1, goal) /-ok_known_2-/(trivial) hv2 (px_fldO (px_var (pv 0) rfl) (k := 0) rfl T.c_Ways.cl T.n_Ways_net look_hd) (look_none (by decide +kernel) (by decide +kernel)) (pa_c (px_var (pv 2) rfl) pa_n) rfl) ?_
        refine bo_ifRv (ts_cmp op_eq (px_var (pv 1) rfl) (px_var (pv 2) rfl) o_eqS) (fun hi1 => ?_) (fun hi1 => ?_)
        · -- if1t
          exact bo_raise rfl takes_cx T.x_NoHouse T.xi_NoHouse (by first | exact exto_rt (junk := []) (xc := Exn.xd c) (e0 := Exn.NoHouse) (.refl _) | exact exto_rv (junk := []) (xc := Exn.xd c) (e0 := Exn.NoHouse) (.refl _) | exact exto_ou (junk := []) (xc := Exn.xd c) (e0 := Exn.NoHouse) (.refl _))
        · -- if1f
          refine bo_okv ?_
          exact bo_endG (junk := []) (r := ()) () rfl (.refl _)
      · exact bo_xexpr (exr_meth takes_cx (g_Net_known_x T) hr (by decide) (self.1, goal) /-ok_known_2-/(trivial) he2 (px_fldO (px_var (pv 0) rfl) (k := 0) rfl T.c_Ways.cl T.n_Ways_net look_hd) (look_none (by decide +kernel) (by decide +kernel)) (pa_c (px_var (pv 2) rfl) pa_n) rfl) (by first | exact exto_rt (junk := []) (xc := Exn.xd c) (e0 := e2) (.refl _) | exact exto_rv (junk := []) (xc := Exn.xd c) (e0 := e2) (.refl _) | exact exto_ou (junk := []) (xc := Exn.xd c) (e0 := e2) (.refl _))
    · exact bo_xexpr (exr_meth takes_cx (g_Net_known_x T) hr (by decide) (self.1, house) /-ok_known_1-/(trivial) he1 (px_fldO (px_var (pv 0) rfl) (k := 0) rfl T.c_Ways.cl T.n_Ways_net look_hd) (look_none (by decide +kernel) (by decide +kernel)) (pa_c (px_var (pv 1) rfl) pa_n) rfl) (by first | exact exto_rt (junk := []) (xc := Exn.xd c) (e0 := e1) (.refl _) | exact exto_rv (junk := []) (xc := Exn.xd c) (e0 := e1) (.refl _) | exact exto_ou (junk := []) (xc := Exn.xd c) (e0 := e1) (.refl _))

theorem g_Ways_set_way_x (T : Top K mg c) : GloMX P w K mg base 3 c.Ways "set_way" ["self", "house", "goal", "road"] (SpX K (fun a : ((List Str × List Road) × (List ((Str × Str) × Int))) × Addr × Addr × Str × Str × Int => a.1.1.2.length ≤ 40 ∧ a.1.2.length < 1000) (fun a => [.adr a.2.1, (D.str a.2.2.2.1), (D.str a.2.2.2.2.1), (D.int a.2.2.2.2.2)]) (fun a => [ownI K a.2.1 c.Ways [("net", ((netD c) a.1.1)), ("told", .adr a.2.2.1)], ownT K a.2.2.1 (dE kSS D.int a.1.2)]) (fun a => OwnR (fun (i : Unit) (r : ((List Str × List Road) × (List ((Str × Str) × Int)))) => (.non : D)) (fun (i : Unit) (r : ((List Str × List Road) × (List ((Str × Str) × Int)))) => ([ownI K a.2.1 c.Ways [("net", ((netD c) r.1)), ("told", .adr a.2.2.1)], ownT K a.2.2.1 (dE kSS D.int r.2)] : List Res))) (fun a => Ways_set_way_x_m a.1 a.2.2.2.1 a.2.2.2.2.1 a.2.2.2.2.2) (Exn.xd c)) :=
  glomx_of T.d_Ways_set_way T.c_Ways.cl (fun _ _ _ _ _ _ us hl => match us, hl with | [_, _, _, _], _ => rfl) fun f fd F => fn_okX F cs_Ways_set_way (fun _ => rfl) fun cdv A outer s H E a hr hok => by
    have nd := cs_Ways_set_way.nd
    obtain ⟨self, p_self, q_self_told, house, goal, road⟩ := a
    have hok : self.1.2.length ≤ 40 ∧ self.2.length < 1000 := hok
    refine Blk.imp (show Bo _ _ _ [some (D.adr p_self), some (D.str house), some (D.str goal), some (D.int road)] [ownI K p_self c.Ways [("net", ((netD c) self.1)), ("told", .adr q_self_told)], ownT K q_self_told (dE kSS D.int self.2)] (Rv (XR K [ownI K p_self c.Ways [("net", ((netD c) self.1)), ("told", .adr q_self_told)], ownT K q_self_told (dE kSS D.int self.2)] (OwnR (fun (i : Unit) (r : ((List Str × List Road) × (List ((Str × Str) × Int)))) => (.non : D)) (fun (i : Unit) (r : ((List Str × List Road) × (List ((Str × Str) × Int)))) => ([ownI K p_self c.Ways [("net", ((netD c) r.1)), ("told", .adr q_self_told)], ownT K q_self_told (dE kSS D.int r.2)] : List Res))) (Exn.xd c))) (Ways_set_way_x_m self house goal road) from ?_) (fun _ _ h => h) (fun _ _ h => h) (fun _ _ h => h.elim) (fun _ _ h => h.elim) (fun _ _ _ _ h => xr_ex (fun _ _ _ _ _ h => h) h)
    unfold Ways_set_way_x_m
    refine bo_xb (fun v1 hv1 => ?_) (fun e1 he1 => ?_)
    · have hn := need_in hv1
      refine bo_do (ev_still (d := D.non) (own0 := [ownI K p_self c.Ways [("net", ((netD c) self.1)), ("told", .adr q_self_told)], ownT K q_self_told (dE kSS D.int self.2)] ++ []) (exv_ok (exv_methO (lr := []) takes_no (g_Ways_need_pair_x T) hr (by decide) (self, p_self, q_self_told, house, goal) /-ok_need_pair_1-/(trivial) (.refl _) (px_var (pv 0) rfl) (k0 := 0) rfl (look_tl (look_tl look_nil)) (pa_c (px_var (pv 1) rfl) (pa_c (px_var (pv 2) rfl) pa_n)) rfl) hv1) (fun _ _ ⟨_, h1, h2⟩ => ⟨h1, h2⟩) (.refl _)) ?_
      refine bo_ifRv (ts_cmp op_notIn_seq (px_var (pv 3) rfl) (Ev.frz (ev_methM (g_Net_out_of T) hr (by decide) (self.1, house) /-ok_out_of_1-/(⟨hn.1, hok.1⟩) (px_fldO (px_var (pv 0) rfl) (k := 0) rfl T.c_Ways.cl T.n_Ways_net look_hd) (look_none (by decide +kernel) (by decide +kernel)) (pa_c (px_var (pv 1) rfl) pa_n) rfl)) (o_ninI (.inl rfl))) (fun hi1 => ?_) (fun hi1 => ?_)
      · -- if1t
        exact bo_raise rfl takes_cx T.x_NoRoad T.xi_NoRoad (by first | exact exto_rt (junk := []) (xc := Exn.xd c) (e0 := Exn.NoRoad) (.refl _) | exact exto_rv (junk := []) (xc := Exn.xd c) (e0 := Exn.NoRoad) (.refl _) | exact exto_ou (junk := []) (xc := Exn.xd c) (e0 := Exn.NoRoad) (.refl _))
      · -- if1f
        refine bo_tput (n := 1) kSS_inj D.int hr.units (px_var (pv 3) rfl) (px_fldO (px_var (pv 0) rfl) (k := 0) rfl T.c_Ways.cl T.n_Ways_told (look_tl look_hd)) (pa_c (px_var (pv 1) rfl) (pa_c (px_var (pv 2) rfl) pa_n)) (szS (by exact Nat.le_of_ble_eq_true rfl)) rfl /-dsz1-/(by have := hok.2; omega) (fun told htold => ?_)
        refine bo_okv ?_
        exact bo_endG (junk := []) (r := (self.1, told)) () rfl (.refl _)
    · exact bo_xexpr (exv_er (exv_methO (lr := []) takes_cx (g_Ways_need_pair_x T) hr (by decide) (self, p_self, q_self_told, house, goal) /-ok_need_pair_1-/(trivial) (.refl _) (px_var (pv 0) rfl) (k0 := 0) rfl (look_tl (look_tl look_nil)) (pa_c (px_var (pv 1) rfl) (pa_c (px_var (pv 2) rfl) pa_n)) rfl) he1) (by first | exact exto_rt (junk := []) (xc := Exn.xd c) (e0 := e1) (.refl _) | exact exto_rv (junk := []) (xc := Exn.xd c) (e0 := e1) (.refl _) | exact exto_ou (junk := []) (xc := Exn.xd c) (e0 := e1) (.refl _))

theorem g_Ways_drop_way_x (T : Top K mg c) : GloMX P w K mg base 3 c.Ways "drop_way" ["self", "house", "goal"] (SpX K (fun a : ((List Str × List Road) × (List ((Str × Str) × Int))) × Addr × Addr × Str × Str => True) (fun a => [.adr a.2.1, (D.str a.2.2.2.1), (D.str a.2.2.2.2)]) (fun a => [ownI K a.2.1 c.Ways [("net", ((netD c) a.1.1)), ("told", .adr a.2.2.1)], ownT K a.2.2.1 (dE kSS D.int a.1.2)]) (fun a => OwnR (fun (i : Unit) (r : ((List Str × List Road) × (List ((Str × Str) × Int)))) => (.non : D)) (fun (i : Unit) (r : ((List Str × List Road) × (List ((Str × Str) × Int)))) => ([ownI K a.2.1 c.Ways [("net", ((netD c) r.1)), ("told", .adr a.2.2.1)], ownT K a.2.2.1 (dE kSS D.int r.2)] : List Res))) (fun a => Ways_drop_way_x_m a.1 a.2.2.2.1 a.2.2.2.2) (Exn.xd c)) :=
  glomx_of T.d_Ways_drop_way T.c_Ways.cl (fun _ _ _ _ _ _ us hl => match us, hl with | [_, _, _], _ => rfl) fun f fd F => fn_okX F cs_Ways_drop_way (fun _ => rfl) fun cdv A outer s H E a hr hok => by
    have nd := cs_Ways_drop_way.nd
    obtain ⟨self, p_self, q_self_told, house, goal⟩ := a
    refine Blk.imp (show Bo _ _ _ [some (D.adr p_self), some (D.str house), some (D.str goal)] [ownI K p_self c.Ways [("net", ((netD c) self.1)), ("told", .adr q_self_told)], ownT K q_self_told (dE kSS D.int self.2)] (Rv (XR K [ownI K p_self c.Ways [("net", ((netD c) self.1)), ("told", .adr q_self_told)], ownT K q_self_told (dE kSS D.int self.2)] (OwnR (fun (i : Unit) (r : ((List Str × List Road) × (List ((Str × Str) × Int)))) => (.non : D)) (fun (i : Unit) (r : ((List Str × List Road) × (List ((Str × Str) × Int)))) => ([ownI K p_self c.Ways [("net", ((netD c) r.1)), ("told", .adr q_self_told)], ownT K q_self_told (dE kSS D.int r.2)] : List Res))) (Exn.xd c))) (Ways_drop_way_x_m self house goal) from ?_) (fun _ _ h => h) (fun _ _ h => h) (fun _ _ h => h.elim) (fun _ _ h => h.elim) (fun _ _ _ _ h => xr_ex (fun _ _ _ _ _ h => h) h)
    unfold Ways_drop_way_x_m
    refine bo_xb (fun v1 hv1 => ?_) (fun e1 he1 => ?_)
    · refine bo_do (ev_still (d := D.non) (own0 := [ownI K p_self c.Ways [("net", ((netD c) self.1)), ("told", .adr q_self_told)], ownT K q_self_told (dE kSS D.int self.2)] ++ []) (exv_ok (exv_methO (lr := []) takes_no (g_Ways_need_pair_x T) hr (by decide) (self, p_self, q_self_told, house, goal) /-ok_need_pair_1-/(trivial) (.refl _) (px_var (pv 0) rfl) (k0 := 0) rfl (look_tl (look_tl look_nil)) (pa_c (px_var (pv 1) rfl) (pa_c (px_var (pv 2) rfl) pa_n)) rfl) hv1) (fun _ _ ⟨_, h1, h2⟩ => ⟨h1, h2⟩) (.refl _)) ?_
      refine bo_tpop (n := 1) kSS_inj D.int hr.units (px_fldO (px_var (pv 0) rfl) (k := 0) rfl T.c_Ways.cl T.n_Ways_told (look_tl look_hd)) (pa_c (px_var (pv 1) rfl) (pa_c (px_var (pv 2) rfl) pa_n)) (szS (by exact Nat.le_of_ble_eq_true rfl)) px_non rfl (fun told htold => ?_) (hp := by exact ps_expr (pe_bm PySem.F.plainAttrs_dict PySem.F.slot_dict_pop PySem.F.type_dict_pop (L2.DX.mt_popT (Px.units hr.units)) pe_wp (pa_cons (pe_tup pa_wp) (pa_cons pe_wp pa_nil))))
      refine bo_okv ?_
      exact bo_endG (junk := []) (r := (self.1, told)) () rfl (.refl _)
    · exact bo_xexpr (exv_er (exv_methO (lr := []) takes_cx (g_Ways_need_pair_x T) hr (by decide) (self, p_self, q_self_told, house, goal) /-ok_need_pair_1-/(trivial) (.refl _) (px_var (pv 0) rfl) (k0 := 0) rfl (look_tl (look_tl look_nil)) (pa_c (px_var (pv 1) rfl) (pa_c (px_var (pv 2) rfl) pa_n)) rfl) he1) (by first | exact exto_rt (junk := []) (xc := Exn.xd c) (e0 := e1) (.refl _) | exact exto_rv (junk := []) (xc := Exn.xd c) (e0 := e1) (.refl _) | exact exto_ou (junk := []) (xc := Exn.xd c) (e0 := e1) (.refl _))

theorem g_Ways_way_x (T : Top K mg c) : GloMX P w K mg base 3 c.Ways "way" ["self", "house", "goal"] (SpX K (fun a : ((List Str × List Road) × (List ((Str × Str) × Int))) × Addr × Addr × Str × Str => True) (fun a => [.adr a.2.1, (D.str a.2.2.2.1), (D.str a.2.2.2.2)]) (fun a => [ownI K a.2.1 c.Ways [("net", ((netD c) a.1.1)), ("told", .adr a.2.2.1)], ownT K a.2.2.1 (dE kSS D.int a.1.2)]) (fun a => OwnR (fun (i : Unit) (r : Option Int) => (((optE D.int) r) : D)) (fun (i : Unit) (r : Option Int) => ([ownI K a.2.1 c.Ways [("net", ((netD c) a.1.1)), ("told", .adr a.2.2.1)], ownT K a.2.2.1 (dE kSS D.int a.1.2)] : List Res))) (fun a => Ways_way_x_m a.1 a.2.2.2.1 a.2.2.2.2) (Exn.xd c)) :=
  glomx_of T.d_Ways_way T.c_Ways.cl (fun _ _ _ _ _ _ us hl => match us, hl with | [_, _, _], _ => rfl) fun f fd F => fn_okX F cs_Ways_way (fun _ => rfl) fun cdv A outer s H E a hr hok => by
    have nd := cs_Ways_way.nd
    obtain ⟨self, p_self, q_self_told, house, goal⟩ := a
    refine Blk.imp (show Bo _ _ _ [some (D.adr p_self), some (D.str house), some (D.str goal)] [ownI K p_self c.Ways [("net", ((netD c) self.1)), ("told", .adr q_self_told)], ownT K q_self_told (dE kSS D.int self.2)] (Rt (XR K [ownI K p_self c.Ways [("net", ((netD c) self.1)), ("told", .adr q_self_told)], ownT K q_self_told (dE kSS D.int self.2)] (OwnR (fun (i : Unit) (r : Option Int) => (((optE D.int) r) : D)) (fun (i : Unit) (r : Option Int) => ([ownI K p_self c.Ways [("net", ((netD c) self.1)), ("told", .adr q_self_told)], ownT K q_self_told (dE kSS D.int self.2)] : List Res))) (Exn.xd c))) (Ways_way_x_m self house goal) from ?_) (fun _ _ h => h.elim) (fun _ _ h => h) (fun _ _ h => h.elim) (fun _ _ h => h.elim) (fun _ _ _ _ h => xr_ex (fun _ _ _ _ _ h => h) h)
    unfold Ways_way_x_m
    refine bo_xb (fun v1 hv1 => ?_) (fun e1 he1 => ?_)
    · refine bo_do (ev_still (d := D.non) (own0 := [ownI K p_self c.Ways [("net", ((netD c) self.1)), ("told", .adr q_self_told)], ownT K q_self_told (dE kSS D.int self.2)] ++ []) (exv_ok (exv_methO (lr := []) takes_no (g_Ways_need_pair_x T) hr (by decide) (self, p_self, q_self_told, house, goal) /-ok_need_pair_1-/(trivial) (.refl _) (px_var (pv 0) rfl) (k0 := 0) rfl (look_tl (look_tl look_nil)) (pa_c (px_var (pv 1) rfl) (pa_c (px_var (pv 2) rfl) pa_n)) rfl) hv1) (fun _ _ ⟨_, h1, h2⟩ => ⟨h1, h2⟩) (.refl _)) ?_
      refine bo_ok ?_
      exact bo_retG (dd := (fun (i : Unit) (r : Option Int) => (((optE D.int) r) : D))) (ll := (fun (i : Unit) (r : Option Int) => ([ownI K p_self c.Ways [("net", ((netD c) self.1)), ("told", .adr q_self_told)], ownT K q_self_told (dE kSS D.int self.2)] : List Res))) (junk := []) (r := (aget self.2 (house, goal))) () (px_tget1M kSS_inj D.int hr.units (px_fldO (px_var (pv 0) rfl) (k := 0) rfl T.c_Ways.cl T.n_Ways_told (look_tl look_hd)) (.o (k := 1) rfl) (pa_c (px_var (pv 1) rfl) (pa_c (px_var (pv 2) rfl) pa_n)) (szS (by exact Nat.le_of_ble_eq_true rfl)) ) (.refl _)
    · exact bo_xexpr (exv_er (exv_methO (lr := []) takes_cx (g_Ways_need_pair_x T) hr (by decide) (self, p_self, q_self_told, house, goal) /-ok_need_pair_1-/(trivial) (.refl _) (px_var (pv 0) rfl) (k0 := 0) rfl (look_tl (look_tl look_nil)) (pa_c (px_var (pv 1) rfl) (pa_c (px_var (pv 2) rfl) pa_n)) rfl) he1) (by first | exact exto_rt (junk := []) (xc := Exn.xd c) (e0 := e1) (.refl _) | exact exto_rv (junk := []) (xc := Exn.xd c) (e0 := e1) (.refl _) | exact exto_ou (junk := []) (xc := Exn.xd c) (e0 := e1) (.refl _))

theorem g_Ways_pairs_s (T : Top K mg c) : GloM P w K mg base 3 c.Ways "pairs" ["self"] (SpN K (fun a : ((List Str × List Road) × (List ((Str × Str) × Int))) × Addr × Addr => a.1.2.length ≤ 1000) (fun a => [.adr a.2.1]) (fun a => [ownI K a.2.1 c.Ways [("net", ((netD c) a.1.1)), ("told", .adr a.2.2)], ownT K a.2.2 (dE kSS D.int a.1.2)]) (fun a => OwnR (fun (i : Addr) (r : (List (Str × Str × Int))) => (.adr i : D)) (fun (i : Addr) (r : (List (Str × Str × Int))) => ([ownL K i (r.map (fun x : Str × Str × Int => D.tup [(D.str x.1), (D.str x.2.1), (D.int x.2.2)])), ownI K a.2.1 c.Ways [("net", ((netD c) a.1.1)), ("told", .adr a.2.2)], ownT K a.2.2 (dE kSS D.int a.1.2)] : List Res))) (fun a => Ways_pairs_s_m a.1)) :=
  glom_of T.d_Ways_pairs T.c_Ways.cl (fun _ _ _ _ _ _ us hl => match us, hl with | [_], _ => rfl) fun f fd F => fn_ok F cs_Ways_pairs (fun _ => rfl) fun cdv A outer s H E a hr hok => by
    have nd := cs_Ways_pairs.nd
    obtain ⟨self, p_self, q_self_told⟩ := a
    have hok : self.2.length ≤ 1000 := hok
    refine Blk.imp (show Bo _ _ _ [some (D.adr p_self), none, none] [ownI K p_self c.Ways [("net", ((netD c) self.1)), ("told", .adr q_self_told)], ownT K q_self_told (dE kSS D.int self.2)] (Rt (OwnR (fun (i : Addr) (r : (List (Str × Str × Int))) => (.adr i : D)) (fun (i : Addr) (r : (List (Str × Str × Int))) => ([ownL K i (r.map (fun x : Str × Str × Int => D.tup [(D.str x.1), (D.str x.2.1), (D.int x.2.2)])), ownI K p_self c.Ways [("net", ((netD c) self.1)), ("told", .adr q_self_told)], ownT K q_self_told (dE kSS D.int self.2)] : List Res)))) (Ways_pairs_s_m self) from ?_) (fun _ _ h => h.elim) (fun _ _ h => h) (fun _ _ h => h.elim) (fun _ _ h => h.elim) (fun _ _ _ _ h => h.elim)
    unfold Ways_pairs_s_m
    refine bo_retH (r := (sortK (fun x : Str × Str × Int => [.inr x.1, .inr x.2.1, .inl x.2.2]) ((self.2.map (·.1)).map (fun z1 : Str × Str => (z1.1, z1.2, ((aget self.2 (z1.1, z1.2)).getD 0)))))) (d0 := fun j : Addr => D.adr j) (l0 := fun j : Addr => [ownL K j ((sortK (fun x : Str × Str × Int => [.inr x.1, .inr x.2.1, .inl x.2.2]) ((self.2.map (·.1)).map (fun z1 : Str × Str => (z1.1, z1.2, ((aget self.2 (z1.1, z1.2)).getD 0))))).map (fun x : Str × Str × Int => D.tup [(D.str x.1), (D.str x.2.1), (D.int x.2.2)])), ownI K p_self c.Ways [("net", ((netD c) self.1)), ("told", .adr q_self_told)], ownT K q_self_told (dE kSS D.int self.2)]) (junk := fun j : Addr => []) ?_ ?_
    rotate_left
    exact fun j => ⟨j, rfl, (.refl _)⟩
    exact (ev_sortT (enc := (fun x : Str × Str × Int => D.tup [(D.str x.1), (D.str x.2.1), (D.int x.2.2)])) (key := (fun x : Str × Str × Int => [.inr x.1, .inr x.2.1, .inl x.2.2])) (fun i => i == 0 || i == 1) (fun _ => rfl) (by rintro ⟨a0, a1, a2⟩ ⟨b0, b1, b2⟩ h; simp only [List.cons.injEq, Sum.inl.injEq, Sum.inr.injEq, and_true] at h; obtain ⟨h0, h1, h2⟩ := h; subst h0; subst h1; subst h2; rfl) (fun _ => rfl) (fun _ h => by cases h) (Ev.frz (evl_lockT (n := 1) rfl fun od vs0 => (ev_lcM (own := [("house", 1), ("goal", 2)]) (gt := gTup K 2 (gCons (gName 1) (gCons (gName 2) gNil))) (is := [1, 2]) (fun x : Str × Str => D.tup [(D.str x.1), (D.str x.2)]) (fun x : Str × Str × Int => D.tup [(D.str x.1), (D.str x.2.1), (D.int x.2.2)]) (fun z1 : Str × Str => (z1.1, z1.2, ((aget self.2 (z1.1, z1.2)).getD 0))) rfl nd (itP_to (it_keysT (px_fldO (px_var (pv 0) rfl) (k := 0) rfl T.c_Ways.cl T.n_Ways_told (look_tl look_hd)) (k := 1) rfl) (keysT_map (α := Unit) (kf := kSS) (enc := D.int) (e := (fun x : Str × Str => D.tup [(D.str x.1), (D.str x.2)])) (fun _ => rfl))) (blkOk_by (N := ns_Ways_pairs) (sc := defScope s_Ways_pairs) (by decide +kernel)) (fun _ _ _ _ _ => (pg_tup rfl (pgs_cons (pg_name (i := 1) nd rfl (.inl rfl)) (pgs_cons (pg_name (i := 2) nd rfl (.inl rfl)) pgs_nil)))) (by decide) /-csz1-/(by rw [List.length_map]; omega) (fun i z1 hz1 => by
      have hz1m := List.mem_of_getElem? hz1
      have hz1l := (List.getElem?_eq_some_iff.mp hz1).1
      exact ⟨_, tg_tup rfl rfl, fun _ _ _ _ _ => (px_tup (pa_c (px_var (pv 1) rfl) (pa_c (px_var (pv 2) rfl) (pa_c (px_tgetM kSS_inj D.int (x0 := 0) hr.units (px_fldO (px_var (pv 0) rfl) (k := 0) rfl T.c_Ways.cl T.n_Ways_told (look_tl look_hd)) (.z (k := 1) rfl) (pa_c (px_var (pv 1) rfl) (pa_c (px_var (pv 2) rfl) pa_n)) (szS (by exact Nat.le_of_ble_eq_true rfl)) /-key1-/(key_of (k := (z1.1, z1.2)) hz1m)) pa_n))))⟩)))) .f T.z_sorted)

theorem g_law_end (T : Top K mg c) : Glo P w K mg base 1 "_law_end" ["_law_cell", "_law_names"] (Pu K (fun a : Int × List Str => (fun (cell : Int) (names : List Str) => 0 ≤ cell ∧ 1 ≤ names.length ∧ OkH names) a.1 a.2) (fun a => [(D.int a.1), ((lstE D.str) a.2)]) (fun a => (D.str (law_end_m a.1 a.2)))) :=
  glo_of T.d_law_end (fun _ _ _ _ _ _ us hl => match us, hl with | [_, _], _ => rfl) fun f fd F => fn_ok F cs_law_end (fun _ => rfl) fun cdv A outer s H E a hr hok => by
    have nd := cs_law_end.nd
    obtain ⟨cell, names⟩ := a
    have hok : 0 ≤ cell ∧ 1 ≤ names.length ∧ OkH names := hok
    have h1 := hok.2.1
    have hz : (names.getD 0 "").length ≤ 8 := (hok.2.2.ok _ (getD_mem (i := 0) (by omega) (by omega))).hi
    have e1 : ("x" : Str).length = 1 := rfl
    have e8 : ("aaaaaaaa" : Str).length = 8 := rfl
    have hxx : ((names.getD 0 "") ++ (names.getD 0 "")).length ≤ 16 := by rw [Str.length_append]; omega
    have hz2 : (names.getD (Int.toNat 0) "").length ≤ 8 := hz
    have hxx2 : ((names.getD (Int.toNat 0) "") ++ (names.getD (Int.toNat 0) "")).length ≤ 16 := hxx
    have hm : 0 ≤ cell / 9 % (names.length : Int) ∧ cell / 9 % (names.length : Int) < (names.length : Int) := ⟨Int.emod_nonneg _ (by omega), Int.emod_lt_of_pos _ (by omega)⟩
    refine Blk.imp (show Bo _ _ _ [some (D.int cell), some ((lstE D.str) names)] _ (Rt (PuR D.str)) (law_end_m cell names) from ?_) (fun _ _ h => h.elim) (fun _ _ h => h) (fun _ _ h => h.elim) (fun _ _ h => h.elim) (fun _ _ _ _ h => h.elim)
    unfold law_end_m
    refine bo_ifR (ts_cmp op_eq (px_op op_mod (px_var (pv 0) rfl) px_int (o_mod (j := 9))) px_int o_eqI) (fun hi1 => ?_) (fun hi1 => ?_)
    · -- if1t
      exact bo_ret (px_ix ix_list (px_lst (pa_c px_str (pa_c (px_op op_add_str (px_ix ix_list (px_var (pv 1) rfl) px_int (o_ixM D.str (x0 := "") .f /-lo1-/(by omega) /-hi1-/(by omega))) px_str (o_addS /-cat1-/(szS (by omega)))) (pa_c px_str (pa_c (px_op op_add_str (px_op op_add_str (px_ix ix_list (px_var (pv 1) rfl) px_int (o_ixM D.str (x0 := "") .f /-lo2-/(by omega) /-hi2-/(by omega))) (px_ix ix_list (px_var (pv 1) rfl) px_int (o_ixM D.str (x0 := "") .f /-lo3-/(by omega) /-hi3-/(by omega))) (o_addS /-cat2-/(szS (by omega)))) px_str (o_addS /-cat3-/(szS (by omega)))) pa_n))))) (px_op op_mod (px_op op_fdiv (px_var (pv 0) rfl) px_int (o_fdiv (j := 9))) px_int (o_mod (j := 4))) (o_ixM D.str (x0 := "") .f /-lo4-/(by omega) /-hi4-/(by show _ < ((4 : Nat) : Int); omega)))
    · -- if1f
      exact bo_ret (px_ix ix_list (px_var (pv 1) rfl) (px_op op_mod (px_op op_fdiv (px_var (pv 0) rfl) px_int (o_fdiv (j := 9))) (px_bi call_len_seq T.z_len (pa_c (px_var (pv 1) rfl) pa_n) (o_lenM .f)) (o_mod /-mod1-/(by omega))) (o_ixM D.str (x0 := "") .f /-lo5-/(hm.1) /-hi5-/(hm.2)))

theorem g_law_deed (T : Top K mg c) : Glo P w K mg base 4 "_law_deed" ["_law_table", "_law_house", "_law_goal", "_law_road_here", "_law_drops"] (SpN K (fun a : ((List Str × List Road) × (List ((Str × Str) × Int))) × Addr × Addr × Str × Str × Int × Bool => a.1.1.2.length ≤ 40 ∧ a.1.2.length < 1000) (fun a => [.adr a.2.1, (D.str a.2.2.2.1), (D.str a.2.2.2.2.1), (D.int a.2.2.2.2.2.1), (D.bl a.2.2.2.2.2.2)]) (fun a => [ownI K a.2.1 c.Ways [("net", ((netD c) a.1.1)), ("told", .adr a.2.2.1)], ownT K a.2.2.1 (dE kSS D.int a.1.2)]) (fun a => OwnR (fun (i : Unit) (r : D × ((List Str × List Road) × (List ((Str × Str) × Int)))) => (r.1 : D)) (fun (i : Unit) (r : D × ((List Str × List Road) × (List ((Str × Str) × Int)))) => ([ownI K a.2.1 c.Ways [("net", ((netD c) r.2.1)), ("told", .adr a.2.2.1)], ownT K a.2.2.1 (dE kSS D.int r.2.2)] : List Res))) (fun a => law_deed_m a.1 a.2.2.2.1 a.2.2.2.2.1 a.2.2.2.2.2.1 a.2.2.2.2.2.2)) :=
  glo_of T.d_law_deed (fun _ _ _ _ _ _ us hl => match us, hl with | [_, _, _, _, _], _ => rfl) fun f fd F => fn_ok F cs_law_deed (fun _ => rfl) fun cdv A outer s H E a hr hok => by
    have nd := cs_law_deed.nd
    obtain ⟨table, p_table, q_table_told, house, goal, road, drops⟩ := a
    have hok : table.1.2.length ≤ 40 ∧ table.2.length < 1000 := hok
    refine Blk.imp (show Bo _ _ _ [some (D.adr p_table), some (D.str house), some (D.str goal), some (D.int road), some (D.bl drops), none, none, none] [ownI K p_table c.Ways [("net", ((netD c) table.1)), ("told", .adr q_table_told)], ownT K q_table_told (dE kSS D.int table.2)] (Rt (OwnR (fun (i : Unit) (r : D × ((List Str × List Road) × (List ((Str × Str) × Int)))) => (r.1 : D)) (fun (i : Unit) (r : D × ((List Str × List Road) × (List ((Str × Str) × Int)))) => ([ownI K p_table c.Ways [("net", ((netD c) r.2.1)), ("told", .adr q_table_told)], ownT K q_table_told (dE kSS D.int r.2.2)] : List Res)))) (law_deed_m table house goal road drops) from ?_) (fun _ _ h => h.elim) (fun _ _ h => h) (fun _ _ h => h.elim) (fun _ _ h => h.elim) (fun _ _ _ _ h => h.elim)
    unfold law_deed_m
    refine bo_set (optE (fun x : Exn => (Exn.xd c x).d)) nd (i := 5) rfl (.inl rfl) (Px.to px_non (rfl : _ = ((optE (fun x : Exn => (Exn.xd c x).d)) none))) (fun error herror => ?_)
    refine bo_set (fun x : Unit => D.non) nd (i := 6) rfl (.inl rfl) px_non (fun found hfound => ?_)
    refine bo_tryNV (xc := Exn.xd c) (ks := [(c.NoHouse, 7, 5), (c.NoRoad, 7, 5)]) (GL := fun _ => []) (RL := fun _ => []) (fun t1 : ((List Str × List Road) × (List ((Str × Str) × Int))) × Unit × Option Exn => [some (D.adr p_table), some (D.str house), some (D.str goal), some (D.int road), some (D.bl drops), some ((optE (fun x : Exn => (Exn.xd c x).d)) t1.2.2), some D.non, none]) (fun t1 : ((List Str × List Road) × (List ((Str × Str) × Int))) × Unit × Option Exn => [ownI K p_table c.Ways [("net", ((netD c) t1.1.1)), ("told", .adr q_table_told)], ownT K q_table_told (dE kSS D.int t1.1.2)]) 7 5 takes_no nd (.cons rfl rfl rfl rfl (show (7 : Nat) ≠ 5 by decide) (by exact Nat.le_of_ble_eq_true rfl) (.inl rfl) (by decide) (by decide) ⟨rfl, by decide, .inl T.x_NoHouse.nm⟩ (by intro Y e; rw [e]; rfl) (.cons rfl rfl rfl rfl (show (7 : Nat) ≠ 5 by decide) (by exact Nat.le_of_ble_eq_true rfl) (.inl rfl) (by decide) (by decide) ⟨rfl, by decide, .inl T.x_NoRoad.nm⟩ (by intro Y e; rw [e]; rfl) .nil)) (by simp) (fun W_1 pn_1 xe_1 t1_1 t2_1 => ?_) (fun _ _ _ _ _ h => h) (fun e Q he z => catch2 (m_NoHouse T e) (fun hb => (m_NoRoad T e).trans (congrArg some /-caught1-/(deed_caught he hb))) z) (fun e he => ⟨(.keep (.keep (.keep (.keep (.keep (.keep (.keep (.any .nil)))))))), rfl⟩) (fun t1 ht1 => ?_)
    · -- try1
      refine bo_if (ts_val (px_var (pv 4) rfl)) (fun hi1 => ?_) (fun hi1 => ?_)
      · -- if1t
        refine bo_xb (fun v1 hv1 => ?_) (fun e1 he1 => ?_)
        · refine bo_setO (dd := fun (i : Unit) (r : ((List Str × List Road) × (List ((Str × Str) × Int)))) => (.non : D)) (ll := fun (i : Unit) (r : ((List Str × List Road) × (List ((Str × Str) × Int)))) => ([ownI K p_table c.Ways [("net", ((netD c) r.1)), ("told", .adr q_table_told)], ownT K q_table_told (dE kSS D.int r.2)] : List Res)) nd (i := 6) rfl (.inl rfl) (exv_ok (exv_methO (lr := []) takes_no (g_Ways_drop_way_x T) hr (by decide) (table, p_table, q_table_told, house, goal) /-ok_drop_way_1-/(trivial) (.refl _) (px_var (pv 0) rfl) (k0 := 0) rfl (look_tl (look_tl look_nil)) (pa_c (px_var (pv 1) rfl) (pa_c (px_var (pv 2) rfl) pa_n)) rfl) hv1) (fun jfound_2 found_2 hfound_2 => ?_)
          clear jfound_2
          show Bo _ _ _ [some (D.adr p_table), some (D.str house), some (D.str goal), some (D.int road), some (D.bl drops), some ((optE (fun x : Exn => (Exn.xd c x).d)) error), some D.non, none] [ownI K p_table c.Ways [("net", ((netD c) found_2.1)), ("told", .adr q_table_told)], ownT K q_table_told (dE kSS D.int found_2.2)] _ _
          exact bo_nxO (.keep (.keep (.keep (.keep (.keep (.keep (.keep (.any .nil)))))))) rfl
        · exact bo_xset nd (i := 6) rfl (.inl rfl) (exv_er (exv_methO (lr := []) t1_1 (g_Ways_drop_way_x T) hr (by decide) (table, p_table, q_table_told, house, goal) /-ok_drop_way_1-/(trivial) (.refl _) (px_var (pv 0) rfl) (k0 := 0) rfl (look_tl (look_tl look_nil)) (pa_c (px_var (pv 1) rfl) (pa_c (px_var (pv 2) rfl) pa_n)) rfl) he1) (by first | exact exto_rt0 (xc := Exn.xd c) (e0 := e1) | exact exto_rv0 (xc := Exn.xd c) (e0 := e1) | exact exto_ou0 (xc := Exn.xd c) (e0 := e1) | exact exto_xt (xc := Exn.xd c) (e0 := e1))
      · -- if1f
        refine bo_xb (fun v2 hv2 => ?_) (fun e2 he2 => ?_)
        · refine bo_setO (dd := fun (i : Unit) (r : ((List Str × List Road) × (List ((Str × Str) × Int)))) => (.non : D)) (ll := fun (i : Unit) (r : ((List Str × List Road) × (List ((Str × Str) × Int)))) => ([ownI K p_table c.Ways [("net", ((netD c) r.1)), ("told", .adr q_table_told)], ownT K q_table_told (dE kSS D.int r.2)] : List Res)) nd (i := 6) rfl (.inl rfl) (exv_ok (exv_methO (lr := []) takes_no (g_Ways_set_way_x T) hr (by decide) (table, p_table, q_table_told, house, goal, road) /-ok_set_way_1-/(hok) (.refl _) (px_var (pv 0) rfl) (k0 := 0) rfl (look_tl (look_tl look_nil)) (pa_c (px_var (pv 1) rfl) (pa_c (px_var (pv 2) rfl) (pa_c (px_var (pv 3) rfl) pa_n))) rfl) hv2) (fun jfound_3 found_3 hfound_3 => ?_)
          clear jfound_3
          show Bo _ _ _ [some (D.adr p_table), some (D.str house), some (D.str goal), some (D.int road), some (D.bl drops), some ((optE (fun x : Exn => (Exn.xd c x).d)) error), some D.non, none] [ownI K p_table c.Ways [("net", ((netD c) found_3.1)), ("told", .adr q_table_told)], ownT K q_table_told (dE kSS D.int found_3.2)] _ _
          exact bo_nxO (.keep (.keep (.keep (.keep (.keep (.keep (.keep (.any .nil)))))))) rfl
        · exact bo_xset nd (i := 6) rfl (.inl rfl) (exv_er (exv_methO (lr := []) t1_1 (g_Ways_set_way_x T) hr (by decide) (table, p_table, q_table_told, house, goal, road) /-ok_set_way_1-/(hok) (.refl _) (px_var (pv 0) rfl) (k0 := 0) rfl (look_tl (look_tl look_nil)) (pa_c (px_var (pv 1) rfl) (pa_c (px_var (pv 2) rfl) (pa_c (px_var (pv 3) rfl) pa_n))) rfl) he2) (by first | exact exto_rt0 (xc := Exn.xd c) (e0 := e2) | exact exto_rv0 (xc := Exn.xd c) (e0 := e2) | exact exto_ou0 (xc := Exn.xd c) (e0 := e2) | exact exto_xt (xc := Exn.xd c) (e0 := e2))
    -- behind try1
    refine bo_ifR (ts_cmp op_isN (px_var (pv 5) rfl) px_non (o_isNo (fun _ => rfl))) (fun hi2 => ?_) (fun hi2 => ?_)
    · -- if2t
      exact bo_retG (dd := (fun (i : Unit) (r : D × ((List Str × List Road) × (List ((Str × Str) × Int)))) => (r.1 : D))) (ll := (fun (i : Unit) (r : D × ((List Str × List Road) × (List ((Str × Str) × Int)))) => ([ownI K p_table c.Ways [("net", ((netD c) r.2.1)), ("told", .adr q_table_told)], ownT K q_table_told (dE kSS D.int r.2.2)] : List Res))) (junk := []) (r := (D.non, t1.1)) () (px_var (pv 6) rfl) (.refl _)
    · -- if2f
      refine bo_ifR (ts_w (tw_or (ts_not (ts_val (px_isX (xc := Exn.xd c) T.z_isinstance (px_var (pv 5) rfl) (px_cls T.x_RoadError.nm) (.own c.RoadError) (Exn.ec T) (k_RoadError T) T.xn_RoadError))) fun hb1 => (tw_or1 (ts_not (ts_val (px_isX (xc := Exn.xd c) (q := fun _ => true) T.z_isinstance (px_var (pv 5) rfl) (px_tyn T.z_ValueError) (.ty "ValueError") (Exn.ec T) (k_ValueError T) (kit_ty (by decide +kernel)))))))) (fun hi3 => ?_) (fun hi3 => ?_)
      · -- if3t
        exact bo_retG (dd := (fun (i : Unit) (r : D × ((List Str × List Road) × (List ((Str × Str) × Int)))) => (r.1 : D))) (ll := (fun (i : Unit) (r : D × ((List Str × List Road) × (List ((Str × Str) × Int)))) => ([ownI K p_table c.Ways [("net", ((netD c) r.2.1)), ("told", .adr q_table_told)], ownT K q_table_told (dE kSS D.int r.2.2)] : List Res))) (junk := []) (r := ((D.str "none"), t1.1)) () px_str (.refl _)
      · -- if3f
        exact bo_retG (dd := (fun (i : Unit) (r : D × ((List Str × List Road) × (List ((Str × Str) × Int)))) => (r.1 : D))) (ll := (fun (i : Unit) (r : D × ((List Str × List Road) × (List ((Str × Str) × Int)))) => ([ownI K p_table c.Ways [("net", ((netD c) r.2.1)), ("told", .adr q_table_told)], ownT K q_table_told (dE kSS D.int r.2.2)] : List Res))) (junk := []) (r := (((lstE D.bl) ([(t1.2.2.any Exn.is_NoHouse), (t1.2.2.any Exn.is_NoRoad)])), t1.1)) () (px_lst (pa_c (px_isX (xc := Exn.xd c) T.z_isinstance (px_var (pv 5) rfl) (px_cls T.x_NoHouse.nm) (.own c.NoHouse) (Exn.ec T) (k_NoHouse T) T.xn_NoHouse) (pa_c (px_isX (xc := Exn.xd c) T.z_isinstance (px_var (pv 5) rfl) (px_cls T.x_NoRoad.nm) (.own c.NoRoad) (Exn.ec T) (k_NoRoad T) T.xn_NoRoad) pa_n))) (.refl _)

theorem g_law_asked (T : Top K mg c) : Glo P w K mg base 4 "_law_asked" ["_law_table", "_law_house", "_law_goal"] (SpN K (fun a : ((List Str × List Road) × (List ((Str × Str) × Int))) × Addr × Addr × Str × Str => True) (fun a => [.adr a.2.1, (D.str a.2.2.2.1), (D.str a.2.2.2.2)]) (fun a => [ownI K a.2.1 c.Ways [("net", ((netD c) a.1.1)), ("told", .adr a.2.2.1)], ownT K a.2.2.1 (dE kSS D.int a.1.2)]) (fun a => OwnR (fun (i : Unit) (r : D) => (r : D)) (fun (i : Unit) (r : D) => ([ownI K a.2.1 c.Ways [("net", ((netD c) a.1.1)), ("told", .adr a.2.2.1)], ownT K a.2.2.1 (dE kSS D.int a.1.2)] : List Res))) (fun a => law_asked_m a.1 a.2.2.2.1 a.2.2.2.2)) :=
  glo_of T.d_law_asked (fun _ _ _ _ _ _ us hl => match us, hl with | [_, _, _], _ => rfl) fun f fd F => fn_ok F cs_law_asked (fun _ => rfl) fun cdv A outer s H E a hr hok => by
    have nd := cs_law_asked.nd
    obtain ⟨table, p_table, q_table_told, house, goal⟩ := a
    refine Blk.imp (show Bo _ _ _ [some (D.adr p_table), some (D.str house), some (D.str goal), none, none, none] [ownI K p_table c.Ways [("net", ((netD c) table.1)), ("told", .adr q_table_told)], ownT K q_table_told (dE kSS D.int table.2)] (Rt (OwnR (fun (i : Unit) (r : D) => (r : D)) (fun (i : Unit) (r : D) => ([ownI K p_table c.Ways [("net", ((netD c) table.1)), ("told", .adr q_table_told)], ownT K q_table_told (dE kSS D.int table.2)] : List Res)))) (law_asked_m table house goal) from ?_) (fun _ _ h => h.elim) (fun _ _ h => h) (fun _ _ h => h.elim) (fun _ _ h => h.elim) (fun _ _ _ _ h => h.elim)
    unfold law_asked_m
    refine bo_set (optE (fun x : Exn => (Exn.xd c x).d)) nd (i := 3) rfl (.inl rfl) (Px.to px_non (rfl : _ = ((optE (fun x : Exn => (Exn.xd c x).d)) none))) (fun error herror => ?_)
    refine bo_set (optE D.int) nd (i := 4) rfl (.inl rfl) (Px.to px_non (rfl : _ = ((optE D.int) none))) (fun found hfound => ?_)
    refine bo_tryNV (xc := Exn.xd c) (ks := [(c.NoHouse, 5, 3)]) (GL := fun _ => []) (RL := fun _ => []) (fun t1 : Option Int × Option Exn => [some (D.adr p_table), some (D.str house), some (D.str goal), some ((optE (fun x : Exn => (Exn.xd c x).d)) t1.2), some ((optE D.int) t1.1), none]) (fun t1 : Option Int × Option Exn => [ownI K p_table c.Ways [("net", ((netD c) table.1)), ("told", .adr q_table_told)], ownT K q_table_told (dE kSS D.int table.2)]) 5 3 takes_no nd (.cons rfl rfl rfl rfl (show (5 : Nat) ≠ 3 by decide) (by exact Nat.le_of_ble_eq_true rfl) (.inl rfl) (by decide) (by decide) ⟨rfl, by decide, .inl T.x_NoHouse.nm⟩ (by intro Y e; rw [e]; rfl) .nil) (by simp) (fun W_1 pn_1 xe_1 t1_1 t2_1 => ?_) (fun _ _ _ _ _ h => h) (fun e Q he z => catch1 ((m_NoHouse T e).trans (congrArg some /-caught1-/(asked_caught he))) z) (fun e he => ⟨(.keep (.keep (.keep (.keep (.keep (.any .nil)))))), rfl⟩) (fun t1 ht1 => ?_)
    · -- try1
      refine bo_xb (fun v1 hv1 => ?_) (fun e1 he1 => ?_)
      · refine bo_set (optE D.int) nd (i := 4) rfl (.inl rfl) (ev_still (d := ((optE D.int) v1)) (own0 := [ownI K p_table c.Ways [("net", ((netD c) table.1)), ("told", .adr q_table_told)], ownT K q_table_told (dE kSS D.int table.2)] ++ []) (exv_ok (exv_methO (lr := []) takes_no (g_Ways_way_x T) hr (by decide) (table, p_table, q_table_told, house, goal) /-ok_way_1-/(trivial) (.refl _) (px_var (pv 0) rfl) (k0 := 0) rfl (look_tl (look_tl look_nil)) (pa_c (px_var (pv 1) rfl) (pa_c (px_var (pv 2) rfl) pa_n)) rfl) hv1) (fun _ _ ⟨_, h1, h2⟩ => ⟨h1, h2⟩) (.refl _)) (fun found_2 hfound_2 => ?_)
        exact bo_nxO (.keep (.keep (.keep (.keep (.keep (.any .nil)))))) rfl
      · exact bo_xset nd (i := 4) rfl (.inl rfl) (exv_er (exv_methO (lr := []) t1_1 (g_Ways_way_x T) hr (by decide) (table, p_table, q_table_told, house, goal) /-ok_way_1-/(trivial) (.refl _) (px_var (pv 0) rfl) (k0 := 0) rfl (look_tl (look_tl look_nil)) (pa_c (px_var (pv 1) rfl) (pa_c (px_var (pv 2) rfl) pa_n)) rfl) he1) (by first | exact exto_rt0 (xc := Exn.xd c) (e0 := e1) | exact exto_rv0 (xc := Exn.xd c) (e0 := e1) | exact exto_ou0 (xc := Exn.xd c) (e0 := e1) | exact exto_xt (xc := Exn.xd c) (e0 := e1))
    -- behind try1
    refine bo_ifR (ts_cmp op_isN (px_var (pv 3) rfl) px_non (o_isNo (fun _ => rfl))) (fun hi1 => ?_) (fun hi1 => ?_)
    · -- if1t
      exact bo_retG (dd := (fun (i : Unit) (r : D) => (r : D))) (ll := (fun (i : Unit) (r : D) => ([ownI K p_table c.Ways [("net", ((netD c) table.1)), ("told", .adr q_table_told)], ownT K q_table_told (dE kSS D.int table.2)] : List Res))) (junk := []) (r := ((optE D.int) t1.1)) () (px_var (pv 4) rfl) (.refl _)
    · -- if1f
      exact bo_retG (dd := (fun (i : Unit) (r : D) => (r : D))) (ll := (fun (i : Unit) (r : D) => ([ownI K p_table c.Ways [("net", ((netD c) table.1)), ("told", .adr q_table_told)], ownT K q_table_told (dE kSS D.int table.2)] : List Res))) (junk := []) (r := ((lstE D.bl) ([(t1.2.any Exn.is_NoHouse), (t1.2.any Exn.is_NoRoad)]))) () (px_lst (pa_c (px_isX (xc := Exn.xd c) T.z_isinstance (px_var (pv 3) rfl) (px_cls T.x_NoHouse.nm) (.own c.NoHouse) (Exn.ec T) (k_NoHouse T) T.xn_NoHouse) (pa_c (px_isX (xc := Exn.xd c) T.z_isinstance (px_var (pv 3) rfl) (px_cls T.x_NoRoad.nm) (.own c.NoRoad) (Exn.ec T) (k_NoRoad T) T.xn_NoRoad) pa_n))) (.refl _)

theorem g_law_due (T : Top K mg c) : Glo P w K mg base 1 "_law_due" ["_law_names", "_law_lines", "_law_house", "_law_goal", "_law_road_here", "_law_drops"] (Pu K (fun a : List Str × List Road × Str × Str × Int × Bool => True) (fun a => [((lstE D.str) a.1), ((lstE roadD) a.2.1), (D.str a.2.2.1), (D.str a.2.2.2.1), (D.int a.2.2.2.2.1), (D.bl a.2.2.2.2.2)]) (fun a => (law_due_m a.1 a.2.1 a.2.2.1 a.2.2.2.1 a.2.2.2.2.1 a.2.2.2.2.2))) :=
  glo_of T.d_law_due (fun _ _ _ _ _ _ us hl => match us, hl with | [_, _, _, _, _, _], _ => rfl) fun f fd F => fn_ok F cs_law_due (fun _ => rfl) fun cdv A outer s H E a hr hok => by
    have nd := cs_law_due.nd
    obtain ⟨names, lines, house, goal, road, drops⟩ := a
    refine Blk.imp (show Bo _ _ _ [some ((lstE D.str) names), some ((lstE roadD) lines), some (D.str house), some (D.str goal), some (D.int road), some (D.bl drops)] _ (Rt (PuR (fun x : D => x))) (law_due_m names lines house goal road drops) from ?_) (fun _ _ h => h.elim) (fun _ _ h => h) (fun _ _ h => h.elim) (fun _ _ h => h.elim) (fun _ _ _ _ h => h.elim)
    unfold law_due_m
    refine bo_ifR (ts_w (tw_or (ts_cmp op_notIn_seq (px_var (pv 2) rfl) (px_var (pv 0) rfl) (o_ninS (.inl rfl))) fun hb2 => (tw_or (ts_cmp op_notIn_seq (px_var (pv 3) rfl) (px_var (pv 0) rfl) (o_ninS (.inl rfl))) fun hb1 => (tw_or1 (ts_cmp op_eq (px_var (pv 2) rfl) (px_var (pv 3) rfl) o_eqS))))) (fun hi1 => ?_) (fun hi1 => ?_)
    · -- if1t
      exact bo_ret (px_lst (pa_c px_bl (pa_c px_bl pa_n)))
    · -- if1f
      refine bo_ifR (ts_w (tw_or (ts_val (px_var (pv 5) rfl)) fun hb4 => (tw_or1 (ts_w (tw_and (ts_chain op_le op_lt px_int (px_var (pv 4) rfl) o_le (px_bi call_len_seq T.z_len (pa_c (px_var (pv 1) rfl) pa_n) (o_lenM .f)) (fun _ => o_lt)) fun hb3 => (tw_and1 (ts_cmp op_eq (px_ix ix_tup (px_ix ix_list (px_var (pv 1) rfl) (px_var (pv 4) rfl) (o_ixM roadD (x0 := ("", "", 0, 0)) .f /-lo1-/((and_dec hb3).1) /-hi1-/((and_dec hb3).2))) px_int (o_ixT (d := (D.str ((lines.getD (road).toNat ("", "", 0, 0)).1))) rfl)) (px_var (pv 2) rfl) o_eqS))))))) (fun hi2 => ?_) (fun hi2 => ?_)
      · -- if2t
        exact bo_ret px_non
      · -- if2f
        exact bo_ret (px_lst (pa_c px_bl (pa_c px_bl pa_n)))

theorem g_law_right (T : Top K mg c) : Glo P w K mg base 4 "_law_right" ["_law_table", "_law_kept"] (SpN K (fun a : ((List Str × List Road) × (List ((Str × Str) × Int))) × Addr × Addr × (List ((Str × Str) × Int)) × Addr => (a.1.2.length ≤ 1000 ∧ ∀ k ∈ a.1.2.map (·.1), PySem.PyData.strOk k.1 = true ∧ PySem.PyData.strOk k.2 = true) ∧ a.2.2.2.1.length ≤ 1000 ∧ ∀ k ∈ a.2.2.2.1.map (·.1), PySem.PyData.strOk k.1 = true ∧ PySem.PyData.strOk k.2 = true) (fun a => [.adr a.2.1, .adr a.2.2.2.2]) (fun a => [ownI K a.2.1 c.Ways [("net", ((netD c) a.1.1)), ("told", .adr a.2.2.1)], ownT K a.2.2.1 (dE kSS D.int a.1.2), ownT K a.2.2.2.2 (dE kSS D.int a.2.2.2.1)]) (fun a => OwnR (fun (i : Unit) (r : Bool) => ((D.bl r) : D)) (fun (i : Unit) (r : Bool) => ([ownI K a.2.1 c.Ways [("net", ((netD c) a.1.1)), ("told", .adr a.2.2.1)], ownT K a.2.2.1 (dE kSS D.int a.1.2), ownT K a.2.2.2.2 (dE kSS D.int a.2.2.2.1)] : List Res))) (fun a => law_right_m a.1 a.2.2.2.1)) :=
  glo_of T.d_law_right (fun _ _ _ _ _ _ us hl => match us, hl with | [_, _], _ => rfl) fun f fd F => fn_ok F cs_law_right (fun _ => rfl) fun cdv A outer s H E a hr hok => by
    have nd := cs_law_right.nd
    obtain ⟨table, p_table, q_table_told, kept, q_kept⟩ := a
    have hok : (table.2.length ≤ 1000 ∧ ∀ k ∈ table.2.map (·.1), PySem.PyData.strOk k.1 = true ∧ PySem.PyData.strOk k.2 = true) ∧ kept.length ≤ 1000 ∧ ∀ k ∈ kept.map (·.1), PySem.PyData.strOk k.1 = true ∧ PySem.PyData.strOk k.2 = true := hok
    have hkl := hok.2.1
    refine Blk.imp (show Bo _ _ _ [some (D.adr p_table), some (D.adr q_kept), none, none, none] [ownI K p_table c.Ways [("net", ((netD c) table.1)), ("told", .adr q_table_told)], ownT K q_table_told (dE kSS D.int table.2), ownT K q_kept (dE kSS D.int kept)] (Rt (OwnR (fun (i : Unit) (r : Bool) => ((D.bl r) : D)) (fun (i : Unit) (r : Bool) => ([ownI K p_table c.Ways [("net", ((netD c) table.1)), ("told", .adr q_table_told)], ownT K q_table_told (dE kSS D.int table.2), ownT K q_kept (dE kSS D.int kept)] : List Res)))) (law_right_m table kept) from ?_) (fun _ _ h => h.elim) (fun _ _ h => h) (fun _ _ h => h.elim) (fun _ _ h => h.elim) (fun _ _ _ _ h => h.elim)
    unfold law_right_m
    refine bo_setO (dd := fun (i : Addr) (r : (List (Str × Str × Int))) => (.adr i : D)) (ll := fun (i : Addr) (r : (List (Str × Str × Int))) => ([ownL K i (r.map (fun x : Str × Str × Int => D.tup [(D.str x.1), (D.str x.2.1), (D.int x.2.2)])), ownI K p_table c.Ways [("net", ((netD c) table.1)), ("told", .adr q_table_told)], ownT K q_table_told (dE kSS D.int table.2), ownT K q_kept (dE kSS D.int kept)] : List Res)) nd (i := 2) rfl (.inl rfl) (ev_methO0 (lr := [ownT K q_kept (dE kSS D.int kept)]) (g_Ways_pairs_s T) hr (by decide) (table, p_table, q_table_told) /-ok_pairs_1-/(hok.1.1) (.refl _) (px_var (pv 0) rfl) (k0 := 0) rfl (look_tl (look_tl look_nil)) rfl) (fun jfound found hfound => ?_)
    revert jfound; intro q_found
    show Bo _ _ _ [some (D.adr p_table), some (D.adr q_kept), some (D.adr q_found), none, none] [ownL K q_found (found.map (fun x : Str × Str × Int => D.tup [(D.str x.1), (D.str x.2.1), (D.int x.2.2)])), ownI K p_table c.Ways [("net", ((netD c) table.1)), ("told", .adr q_table_told)], ownT K q_table_told (dE kSS D.int table.2), ownT K q_kept (dE kSS D.int kept)] _ _
    refine bo_frz (i := 2) (kk := 0) rfl rfl ?_
    refine bo_set (lstE (fun x : Str × Str × Int => D.tup [(D.str x.1), (D.str x.2.1), (D.int x.2.2)])) nd (i := 3) rfl (.inl rfl) (px_sortT (enc := (fun x : Str × Str × Int => D.tup [(D.str x.1), (D.str x.2.1), (D.int x.2.2)])) (key := (fun x : Str × Str × Int => [.inr x.1, .inr x.2.1, .inl x.2.2])) (fun i => i == 0 || i == 1) (fun _ => rfl) (by rintro ⟨a0, a1, a2⟩ ⟨b0, b1, b2⟩ h; simp only [List.cons.injEq, Sum.inl.injEq, Sum.inr.injEq, and_true] at h; obtain ⟨h0, h1, h2⟩ := h; subst h0; subst h1; subst h2; rfl) (fun _ => rfl) (fun _ h => by cases h) (Ev.frz (evl_lockT (n := 2) rfl fun od vs0 => (ev_lcM (own := [("_law_key", 4)]) (is := [4]) (fun x : Str × Str => D.tup [(D.str x.1), (D.str x.2)]) (fun x : Str × Str × Int => D.tup [(D.str x.1), (D.str x.2.1), (D.int x.2.2)]) (fun z1 : Str × Str => (z1.1, z1.2, ((aget kept z1).getD 0))) rfl nd (itP_to (it_keysT (px_var (pv 1) rfl) (k := 2) rfl) (keysT_map (α := Unit) (kf := kSS) (enc := D.int) (e := (fun x : Str × Str => D.tup [(D.str x.1), (D.str x.2)])) (fun _ => rfl))) (blkOk_by (N := ns_law_right) (sc := defScope s_law_right) (by decide +kernel)) (fun _ _ _ _ _ => (pg_name (i := 4) nd rfl (.inl rfl))) (by decide) /-csz1-/(by rw [List.length_map]; omega) (fun i z1 hz1 => by
      have hz1m := List.mem_of_getElem? hz1
      have hz1l := (List.getElem?_eq_some_iff.mp hz1).1
      exact ⟨_, tg_name, fun _ _ _ _ _ => (px_tup (pa_c (px_ix ix_tup (px_var (pv 4) rfl) px_int (o_ixT (d := (D.str z1.1)) rfl)) (pa_c (px_ix ix_tup (px_var (pv 4) rfl) px_int (o_ixT (d := (D.str z1.2)) rfl)) (pa_c (px_tgetV (k := z1) kSS_inj D.int (x0 := 0) hr.units (px_var (pv 1) rfl) (.z (k := 2) rfl) (px_var (pv 4) rfl) /-key1-/(key_of hz1m)) pa_n))))⟩)))) .f T.z_sorted) (fun due hdue => ?_)
    exact bo_retG (dd := (fun (i : Unit) (r : Bool) => ((D.bl r) : D))) (ll := (fun (i : Unit) (r : Bool) => ([ownI K p_table c.Ways [("net", ((netD c) table.1)), ("told", .adr q_table_told)], ownT K q_table_told (dE kSS D.int table.2), ownT K q_kept (dE kSS D.int kept)] : List Res))) (junk := []) (r := (true && (decide (found = due)))) () (px_and (px_isT "list" "list" true T.z_isinstance T.z_list (px_var (pv 2) rfl)) fun hb1 => (px_one (px_cmp (op_eqD hr.units) (px_var (pv 2) rfl) (px_var (pv 3) rfl) (o_eqLE (eqs_t3 (e := (fun x : Str × Str × Int => D.tup [(D.str x.1), (D.str x.2.1), (D.int x.2.2)])) eqs_str eqs_str eqs_int) .f .f /-eqk1-/(by rw [hfound]; exact sort_str hok.1.2) /-eqk2-/(by rw [hdue]; exact sort_str hok.2.2))))) (.refl _)


end

end Lw
set_option Elab.async false
set_option linter.all false
set_option maxRecDepth 100000
set_option maxHeartbeats 4000000
namespace Lw
open PySem L2 Sx
section
variable {P : Program} {w : World} {K : PySem.W.Frag} {mg : Str → Option Value} {base : Heap} {c : Cs}
abbrev lvl : Nat := 6
theorem ok_law0 (T : Top K mg c) (H0 : ∀ ns : List Int, ns.length ≤ 63 → law_m ns = true) {f : Addr} {fd : FuncData} (F : Fun K "law" "law" s_law f fd) : FnOk P w K mg base CX0 lvl f fd ["_law_script"] (spL K) :=
  fn_ok F cs_law (fun _ => rfl) fun cdv A outer s H E a hr hok => by
    have nd := cs_law.nd
    revert hok; revert a; intro script hok
    have hok : script.length ≤ 63 := hok
    refine Blk.imp (show Bo _ _ _ [some (D.scr (script.map D.int)), none, none, none, none, none, none, none, none, none, none, none, none, none, none, none, none, none] _ (Rt (PuR D.bl)) (law_m script) from ?_) (fun _ _ h => h.elim) (fun _ _ h => ⟨h.1.trans (congrArg D.bl (H0 script hok)), h.2⟩) (fun _ _ h => h.elim) (fun _ _ h => h.elim) (fun _ _ _ _ h => h.elim)
    unfold law_m
    refine bo_set (lstE D.str) nd (i := 1) rfl (.inr rfl) (px_callL (g_housesB T) hr (by decide) ((cellAt script 0), (2 + ((cellAt script 1) % 11))) /-ok_houses_1-/(⟨by dsimp only; omega, by dsimp only; omega⟩) (pa_c (px_call (g_cell T) hr (by decide) (script, 0) /-ok_cell_at_1-/(by dsimp only; omega) (pa_c (px_var (pv 0) rfl) (pa_c px_int pa_n))) (pa_c (px_op op_add px_int (px_op op_mod (px_call (g_cell T) hr (by decide) (script, 1) /-ok_cell_at_2-/(by dsimp only; omega) (pa_c (px_var (pv 0) rfl) (pa_c px_int pa_n))) px_int (o_mod (j := 11))) o_add) pa_n))) (fun names hnames => ?_)
    have oh : OkH names := by rw [hnames]; exact housesB_ok (by omega)
    have hl : names.length = (2 + cellAt script 1 % 11).toNat := by rw [hnames]; exact housesB_len
    have h12 := oh.le
    have h1 : 1 ≤ names.length := by omega
    refine bo_lc (own := [("_law_cell", 6)]) (is := [6]) D.int roadD (fun z1 : Int => (roadB names z1)) nd (i := 2) rfl rfl (by exact Nat.le_of_ble_eq_true rfl) rfl (it_list (px_strideM D.int (px_var (pv 0) rfl) .s (pz_s px_int) (pz_s px_int) (pz_s px_int) (by decide) /-step1-/(Nat.le_trans (pickN_len _ _) (Nat.le_trans (places_len (by decide) (by decide) (by decide)) (by decide))))) (blkOk_by (N := ns_law) (sc := defScope s_law) (by decide +kernel)) (fun _ _ _ _ _ => (pg_name (i := 6) nd rfl (.inl rfl))) (by decide) /-csz1-/(Nat.le_trans (pickN_len _ _) (Nat.le_trans (places_len (by decide) (by decide) (by decide)) (by decide))) (fun i z1 hz1 => by
      have hz1m := List.mem_of_getElem? hz1
      have hz1l := (List.getElem?_eq_some_iff.mp hz1).1
      exact ⟨_, tg_name, fun _ _ _ _ _ => (px_call (g_roadB T) hr (by decide) (z1, names) /-ok_road_1-/(⟨by dsimp only; omega, by dsimp only; omega⟩) (pa_c (px_var (pv 6) rfl) (pa_c (px_var (pv 1) rfl) pa_n)))⟩) (fun lines hlines => ?_)
    have og : OkG (names, lines) := ⟨oh, fun r hr => by
      rw [hlines] at hr
      obtain ⟨z, _, rfl⟩ := List.mem_map.mp hr
      exact roadB_ok oh.nd (show 2 ≤ names.length by omega), by rw [hlines]; show (List.map _ _).length ≤ 40; rw [List.length_map]; exact cut31⟩
    have h40 : lines.length ≤ 40 := og.le
    refine bo_set (netD c) nd (i := 3) rfl (.inl rfl) (px_Net (hs := names) (rs := lines) T hr (by decide) /-net1-/(og) (px_var (pv 1) rfl) (px_var (pv 2) rfl)) (fun net hnet => ?_)
    refine bo_setO (dd := fun (i : (Addr × Addr) × (Addr × Addr) × Unit) (r : ((List Str × List Road) × (List ((Str × Str) × Int))) × ((List Str × List Road) × (List ((Str × Str) × Int)))) => (D.lst [D.adr i.1.1, D.adr i.2.1.1] : D)) (ll := fun (i : (Addr × Addr) × (Addr × Addr) × Unit) (r : ((List Str × List Road) × (List ((Str × Str) × Int))) × ((List Str × List Road) × (List ((Str × Str) × Int)))) => ([ownI K i.2.1.1 c.Ways [("net", ((netD c) r.2.1)), ("told", .adr i.2.1.2)], ownT K i.2.1.2 (dE kSS D.int r.2.2), ownI K i.1.1 c.Ways [("net", ((netD c) r.1.1)), ("told", .adr i.1.2)], ownT K i.1.2 (dE kSS D.int r.1.2)] : List Res)) nd (i := 4) rfl (.inl rfl) (ev_lstX (pax_o (ev_new_Ways T hr (by decide) net /-ok_init___1-/(trivial) (pa_c (px_var (pv 3) rfl) pa_n)) (fun j1_0 => (pax_o (ev_new_Ways T hr (by decide) net /-ok_init___2-/(trivial) (pa_c (px_var (pv 3) rfl) pa_n)) (fun j2_1 => pax_z))))) (fun jtables tables htables => ?_)
    obtain ⟨⟨q_tables_0, q_tables_1⟩, ⟨q_tables_2, q_tables_3⟩, _⟩ := jtables
    show Bo _ _ _ [some (D.scr (script.map D.int)), some ((lstE D.str) names), some ((lstE roadD) lines), some ((netD c) net), some (D.lst [D.adr q_tables_0, D.adr q_tables_2]), none, none, none, none, none, none, none, none, none, none, none, none, none] [ownI K q_tables_2 c.Ways [("net", ((netD c) tables.2.1)), ("told", .adr q_tables_3)], ownT K q_tables_3 (dE kSS D.int tables.2.2), ownI K q_tables_0 c.Ways [("net", ((netD c) tables.1.1)), ("told", .adr q_tables_1)], ownT K q_tables_1 (dE kSS D.int tables.1.2)] _ _
    refine bo_setO (dd := fun (i : Addr × Addr × Unit) (r : (List ((Str × Str) × Int)) × (List ((Str × Str) × Int))) => (D.lst [D.adr i.1, D.adr i.2.1] : D)) (ll := fun (i : Addr × Addr × Unit) (r : (List ((Str × Str) × Int)) × (List ((Str × Str) × Int))) => ([ownT K i.2.1 (dE kSS D.int r.2), ownT K i.1 (dE kSS D.int r.1), ownI K q_tables_2 c.Ways [("net", ((netD c) tables.2.1)), ("told", .adr q_tables_3)], ownT K q_tables_3 (dE kSS D.int tables.2.2), ownI K q_tables_0 c.Ways [("net", ((netD c) tables.1.1)), ("told", .adr q_tables_1)], ownT K q_tables_1 (dE kSS D.int tables.1.2)] : List Res)) nd (i := 5) rfl (.inl rfl) (ev_lstX (pax_o ev_t0 (fun j3_0 => (pax_o ev_t0 (fun j4_1 => pax_z))))) (fun jkept kept hkept => ?_)
    obtain ⟨q_kept_0, q_kept_1, _⟩ := jkept
    show Bo _ _ _ [some (D.scr (script.map D.int)), some ((lstE D.str) names), some ((lstE roadD) lines), some ((netD c) net), some (D.lst [D.adr q_tables_0, D.adr q_tables_2]), some (D.lst [D.adr q_kept_0, D.adr q_kept_1]), none, none, none, none, none, none, none, none, none, none, none, none] [ownT K q_kept_1 (dE kSS D.int kept.2), ownT K q_kept_0 (dE kSS D.int kept.1), ownI K q_tables_2 c.Ways [("net", ((netD c) tables.2.1)), ("told", .adr q_tables_3)], ownT K q_tables_3 (dE kSS D.int tables.2.2), ownI K q_tables_0 c.Ways [("net", ((netD c) tables.1.1)), ("told", .adr q_tables_1)], ownT K q_tables_1 (dE kSS D.int tables.1.2)] _ _
    refine bo_forV (is := [6]) D.int (fun s1 : (((List Str × List Road) × (List ((Str × Str) × Int))) × ((List Str × List Road) × (List ((Str × Str) × Int)))) × ((List ((Str × Str) × Int)) × (List ((Str × Str) × Int))) => [some (D.scr (script.map D.int)), some ((lstE D.str) names), some ((lstE roadD) lines), some ((netD c) net), some (D.lst [D.adr q_tables_0, D.adr q_tables_2]), some (D.lst [D.adr q_kept_0, D.adr q_kept_1]), none, none, none, none, none, none, none, none, none, none, none, none]) (fun s1 : (((List Str × List Road) × (List ((Str × Str) × Int))) × ((List Str × List Road) × (List ((Str × Str) × Int)))) × ((List ((Str × Str) × Int)) × (List ((Str × Str) × Int))) => [ownT K q_kept_1 (dE kSS D.int s1.2.2), ownT K q_kept_0 (dE kSS D.int s1.2.1), ownI K q_tables_2 c.Ways [("net", ((netD c) s1.1.2.1)), ("told", .adr q_tables_3)], ownT K q_tables_3 (dE kSS D.int s1.1.2.2), ownI K q_tables_0 c.Ways [("net", ((netD c) s1.1.1.1)), ("told", .adr q_tables_1)], ownT K q_tables_1 (dE kSS D.int s1.1.1.2)]) (fun i s => J21 (names, lines) i s) (fun s => J21 (names, lines) 30 s) PassesOwn.never rfl (it_list (px_strideM D.int (px_var (pv 0) rfl) .s (pz_s px_int) (pz_s px_int) (pz_s px_int) (by decide) /-step2-/(Nat.le_trans (pickN_len _ _) (Nat.le_trans (places_len (by decide) (by decide) (by decide)) (by decide))))) (pg_name (i := 6) nd rfl (.inl rfl)) (.keep (.keep (.keep (.keep (.keep (.keep (.any (.any (.any (.any (.any (.any (.any (.any (.any (.any (.any (.any .nil)))))))))))))))))) rfl (by rw [htables, hkept, hnet]; exact j21_0) (fun i1 x1 s1 hx1 hp1 hj1 => ?_) (fun _ h => h.mono cut30) (fun s1 hs1 hj1e => ?_)
    · -- for1
      have hx1m := List.mem_of_getElem? hx1
      have hx1l := (List.getElem?_eq_some_iff.mp hx1).1
      have hi30 : i1 < 30 := Nat.lt_of_lt_of_le hx1l cut30
      have jj := hj1
      have hl0 := hj1.l0
      have hl1 := hj1.l1
      clear hp1
      refine ⟨(js_f1 hj1), _, tg_name, ?_⟩
      refine bo_set D.int nd (i := 7) rfl (.inl rfl) (px_op op_mod (px_op op_mul (px_var (pv 6) rfl) px_int o_mulR) px_int (o_mod (j := 10000000000037))) (fun n hn => ?_)
      refine bo_set D.int nd (i := 8) rfl (.inl rfl) (px_op op_mod (px_var (pv 7) rfl) px_int (o_mod (j := 2))) (fun k hk => ?_)
      have hk_k : k = 0 ∨ k = 1 := /-ksplit1-/(by rw [hk]; exact Int.emod_two_eq n)
      refine bo_spl (fun hk0 => ?_) (fun hk0 => ?_)
      · obtain rfl : k = 0 := of_decide_eq_true hk0
        refine bo_set D.str nd (i := 9) rfl (.inr rfl) (px_call (g_law_end T) hr (by decide) (((n / 2) % 1009), names) /-ok_end_1-/(⟨Int.emod_nonneg _ (by decide), h1, oh⟩) (pa_c (px_op op_mod (px_op op_fdiv (px_var (pv 7) rfl) px_int (o_fdiv (j := 2))) px_int (o_mod (j := 1009))) (pa_c (px_var (pv 1) rfl) pa_n))) (fun house hhouse => ?_)
        refine bo_set D.str nd (i := 10) rfl (.inl rfl) (px_call (g_law_end T) hr (by decide) (((n / 2018) % 1013), names) /-ok_end_2-/(⟨Int.emod_nonneg _ (by decide), h1, oh⟩) (pa_c (px_op op_mod (px_op op_fdiv (px_var (pv 7) rfl) px_int (o_fdiv (j := 2018))) px_int (o_mod (j := 1013))) (pa_c (px_var (pv 1) rfl) pa_n))) (fun goal hgoal => ?_)
        refine bo_set D.int nd (i := 11) rfl (.inl rfl) (px_op op_sub (px_op op_mod (px_op op_fdiv (px_var (pv 7) rfl) px_int (o_fdiv (j := 7))) (px_op op_add (px_bi call_len_seq T.z_len (pa_c (px_var (pv 2) rfl) pa_n) (o_lenM .f)) px_int o_add) (o_mod /-mod1-/(by omega))) px_int o_sub) (fun road hroad => ?_)
        refine bo_set D.bl nd (i := 12) rfl (.inl rfl) (px_cmp op_eq (px_op op_mod (px_op op_fdiv (px_var (pv 7) rfl) px_int (o_fdiv (j := 1000003))) px_int (o_mod (j := 4))) px_int o_eqI) (fun drops hdrops => ?_)
        refine bo_lcF (own := [("_law_number", 16), ("_law_line", 17)]) (gt := gTup K 2 (gCons (gName 16) (gCons (gName 17) gNil))) (is := [16, 17]) (fun x : Int × Road => D.tup [(D.int x.1), (roadD x.2)]) D.int (fun z2 : Int × Road => (decide (z2.2.1 = house))) (fun z2 : Int × Road => z2.1) nd (i := 13) rfl rfl (by exact Nat.le_of_ble_eq_true rfl) rfl (Itw.to (it_enum (px_var (pv 2) rfl) T.z_enumerate) enumI_map) (blkOk_by (N := ns_law) (sc := defScope s_law) (by decide +kernel)) (fun _ _ _ _ _ => (pg_tup rfl (pgs_cons (pg_name (i := 16) nd rfl (.inl rfl)) (pgs_cons (pg_name (i := 17) nd rfl (.inl rfl)) pgs_nil)))) (by decide) /-csz2-/(by first | omega | (rw [rngI_len]; omega) | (rw [enumI_len]; omega) | (rw [List.length_zip]; omega)) (fun i z2 hz2 => by
          have hz21 := (enumI_get hz2).1
          have hz22 := (enumI_get hz2).2
          have hz2m := List.mem_of_getElem? hz22
          have hz2l := (List.getElem?_eq_some_iff.mp hz22).1
          exact ⟨_, tg_tup rfl rfl, fun _ _ _ _ _ => (ts_cmp op_eq (px_ix ix_tup (px_var (pv 17) rfl) px_int (o_ixT (d := (D.str z2.2.1)) rfl)) (px_var (pv 9) rfl) o_eqS), fun hcz2 => fun _ _ _ _ _ => (px_var (pv 16) rfl)⟩) (fun mine hmine => ?_)
        refine bo_ifS (fun j1 : Int => [some (D.scr (script.map D.int)), some ((lstE D.str) names), some ((lstE roadD) lines), some ((netD c) net), some (D.lst [D.adr q_tables_0, D.adr q_tables_2]), some (D.lst [D.adr q_kept_0, D.adr q_kept_1]), some (D.int x1), some (D.int n), some (D.int 0), some (D.str house), some (D.str goal), some (D.int j1), some (D.bl drops), some ((lstE D.int) mine), none, none, none, none]) (fun j1 : Int => [ownT K q_kept_1 (dE kSS D.int s1.2.2), ownT K q_kept_0 (dE kSS D.int s1.2.1), ownI K q_tables_2 c.Ways [("net", ((netD c) s1.1.2.1)), ("told", .adr q_tables_3)], ownT K q_tables_3 (dE kSS D.int s1.1.2.2), ownI K q_tables_0 c.Ways [("net", ((netD c) s1.1.1.1)), ("told", .adr q_tables_1)], ownT K q_tables_1 (dE kSS D.int s1.1.1.2)]) (ts_w (tw_and (ts_cmp (op_neD hr.units) (px_var (pv 13) rfl) (px_lst pa_n) (o_neLE eqs_int .f .f /-eqk1-/(by simp) /-eqk2-/(by simp))) fun hb1 => (tw_and1 (ts_cmp op_gt (px_op op_mod (px_op op_fdiv (px_var (pv 7) rfl) px_int (o_fdiv (j := 4000012))) px_int (o_mod (j := 3))) px_int o_gt)))) (fun hi1 => ?_) (fun hi1 => ?_) (fun j1 hj1 => ?_)
        · -- if1t
          have hmp := mine_pos (Bool.and_eq_true_iff.mp hi1).1
          refine bo_set D.int nd (i := 11) rfl (.inl rfl) (px_ix ix_list (px_var (pv 13) rfl) (px_op op_mod (px_op op_fdiv (px_var (pv 7) rfl) px_int (o_fdiv (j := 31))) (px_bi call_len_seq T.z_len (pa_c (px_var (pv 13) rfl) pa_n) (o_lenM .f)) (o_mod /-mod2-/(by omega))) (o_ixM D.int (x0 := 0) .f /-lo1-/((ix_mod (Bool.and_eq_true_iff.mp hi1).1 _).1) /-hi1-/((ix_mod (Bool.and_eq_true_iff.mp hi1).1 _).2))) (fun road_2 hroad_2 => ?_)
          exact bo_nx (.keep (.keep (.keep (.keep (.keep (.keep (.keep (.keep (.keep (.keep (.keep (.keep (.keep (.keep (.any (.any (.any (.any .nil)))))))))))))))))) rfl
        · -- if1f
          exact bo_nx (.keep (.keep (.keep (.keep (.keep (.keep (.keep (.keep (.keep (.keep (.keep (.keep (.keep (.keep (.any (.any (.any (.any .nil)))))))))))))))))) rfl
        -- if1j
        refine bo_set (fun x : D => x) nd (i := 14) rfl (.inl rfl) (px_call (g_law_due T) hr (by decide) (names, lines, house, goal, j1, drops) /-ok_due_1-/(trivial) (pa_c (px_var (pv 1) rfl) (pa_c (px_var (pv 2) rfl) (pa_c (px_var (pv 9) rfl) (pa_c (px_var (pv 10) rfl) (pa_c (px_var (pv 11) rfl) (pa_c (px_var (pv 12) rfl) pa_n))))))) (fun due hdue => ?_)
        have da : Any due := by rw [hdue]; exact due_any
        refine bo_ifOX (s0 := (law_deed_m s1.1.1 house goal j1 drops)) (ll := (fun (i : Unit) (r : D × ((List Str × List Road) × (List ((Str × Str) × Int)))) => ([ownI K q_tables_0 c.Ways [("net", ((netD c) r.2.1)), ("told", .adr q_tables_1)], ownT K q_tables_1 (dE kSS D.int r.2.2), ownT K q_kept_1 (dE kSS D.int s1.2.2), ownT K q_kept_0 (dE kSS D.int s1.2.1), ownI K q_tables_2 c.Ways [("net", ((netD c) s1.1.2.1)), ("told", .adr q_tables_3)], ownT K q_tables_3 (dE kSS D.int s1.1.2.2)] : List Res))) (bv := fun r2 : D × ((List Str × List Road) × (List ((Str × Str) × Int))) => (!(D.eq r2.1 due))) (tse_cmpO (dd := fun j : Unit => ((law_deed_m s1.1.1 house goal j1 drops).1 : D)) (ll := fun j : Unit => [ownI K q_tables_0 c.Ways [("net", ((netD c) (((law_deed_m s1.1.1 house goal j1 drops).2).1))), ("told", .adr q_tables_1)], ownT K q_tables_1 (dE kSS D.int (((law_deed_m s1.1.1 house goal j1 drops).2).2)), ownT K q_kept_1 (dE kSS D.int s1.2.2), ownT K q_kept_0 (dE kSS D.int s1.2.1), ownI K q_tables_2 c.Ways [("net", ((netD c) s1.1.2.1)), ("told", .adr q_tables_3)], ownT K q_tables_3 (dE kSS D.int s1.1.2.2)]) (op_neD hr.units) (ev_callO (lr := [ownT K q_kept_1 (dE kSS D.int s1.2.2), ownT K q_kept_0 (dE kSS D.int s1.2.1), ownI K q_tables_2 c.Ways [("net", ((netD c) s1.1.2.1)), ("told", .adr q_tables_3)], ownT K q_tables_3 (dE kSS D.int s1.1.2.2)]) (g_law_deed T) hr (by decide) (s1.1.1, q_tables_0, q_tables_1, house, goal, j1, drops) /-ok_deed_1-/(⟨by rw [jj.t0]; exact h40, by rw [jj.t0]; have := jj.l0; dsimp only; omega⟩) ((perm_at (k := 4) rfl).trans (.cons _ ((perm_at (k := 4) rfl).trans (.cons _ (.refl _))))) (pa_c (px_ix ix_list (px_var (pv 4) rfl) (px_var (pv 8) rfl) (o_ixL (d := D.adr q_tables_0) rfl)) (pa_c (px_var (pv 9) rfl) (pa_c (px_var (pv 10) rfl) (pa_c (px_var (pv 11) rfl) (pa_c (px_var (pv 12) rfl) pa_n)))))) (fun j => (px_var (pv 14) rfl)) (fun j => (o_neAny /-any1-/(by first | assumption | exact deed_any | exact asked_any) /-any2-/(by first | assumption | exact deed_any | exact asked_any)))) (fun _ r2 hr2 hi2 => ?_) (fun _ r2 hr2 hi2 => ?_)
        · -- if2t
          exact bo_retO px_bl
        · -- if2f
          refine bo_ifS (fun j3 : ((List ((Str × Str) × Int)) × (List ((Str × Str) × Int))) => [some (D.scr (script.map D.int)), some ((lstE D.str) names), some ((lstE roadD) lines), some ((netD c) net), some (D.lst [D.adr q_tables_0, D.adr q_tables_2]), some (D.lst [D.adr q_kept_0, D.adr q_kept_1]), some (D.int x1), some (D.int n), some (D.int 0), some (D.str house), some (D.str goal), some (D.int j1), some (D.bl drops), some ((lstE D.int) mine), some due, none, none, none]) (fun j3 : ((List ((Str × Str) × Int)) × (List ((Str × Str) × Int))) => [ownI K q_tables_0 c.Ways [("net", ((netD c) r2.2.1)), ("told", .adr q_tables_1)], ownT K q_tables_1 (dE kSS D.int r2.2.2), ownT K q_kept_1 (dE kSS D.int j3.2), ownT K q_kept_0 (dE kSS D.int j3.1), ownI K q_tables_2 c.Ways [("net", ((netD c) s1.1.2.1)), ("told", .adr q_tables_3)], ownT K q_tables_3 (dE kSS D.int s1.1.2.2)]) (ts_w (tw_and (ts_cmp op_isN (px_var (pv 14) rfl) px_non o_isN) fun hb2 => (tw_and1 (ts_val (px_var (pv 12) rfl))))) (fun hi3 => ?_) (fun hi3 => ?_) (fun j3 hj3 => ?_)
          · -- if3t
            refine bo_tpop (n := 3) kSS_inj D.int hr.units (px_ix ix_list (px_var (pv 5) rfl) (px_var (pv 8) rfl) (o_ixL (d := D.adr q_kept_0) rfl)) (pa_c (px_var (pv 9) rfl) (pa_c (px_var (pv 10) rfl) pa_n)) (szS (by exact Nat.le_of_ble_eq_true rfl)) px_non rfl (fun kept_0 hkept_0 => ?_) (hp := by exact ps_expr (pe_bm PySem.F.plainAttrs_dict PySem.F.slot_dict_pop PySem.F.type_dict_pop (L2.DX.mt_popT (Px.units hr.units)) pe_wp (pa_cons (pe_tup pa_wp) (pa_cons pe_wp pa_nil))))
            exact bo_nx (.keep (.keep (.keep (.keep (.keep (.keep (.keep (.keep (.keep (.keep (.keep (.keep (.keep (.keep (.keep (.any (.any (.any .nil)))))))))))))))))) rfl
          · -- if3f
            refine bo_if (ts_cmp op_isN (px_var (pv 14) rfl) px_non o_isN) (fun hi4 => ?_) (fun hi4 => ?_)
            · -- if4t
              refine bo_tput (n := 3) kSS_inj D.int hr.units (px_var (pv 11) rfl) (px_ix ix_list (px_var (pv 5) rfl) (px_var (pv 8) rfl) (o_ixL (d := D.adr q_kept_0) rfl)) (pa_c (px_var (pv 9) rfl) (pa_c (px_var (pv 10) rfl) pa_n)) (szS (by exact Nat.le_of_ble_eq_true rfl)) rfl /-dsz1-/(by omega) (fun kept_0_2 hkept_0_2 => ?_)
              exact bo_nx (.keep (.keep (.keep (.keep (.keep (.keep (.keep (.keep (.keep (.keep (.keep (.keep (.keep (.keep (.keep (.any (.any (.any .nil)))))))))))))))))) rfl
            · -- if4f
              exact bo_nx (.keep (.keep (.keep (.keep (.keep (.keep (.keep (.keep (.keep (.keep (.keep (.keep (.keep (.keep (.keep (.any (.any (.any .nil)))))))))))))))))) rfl
          -- if3j
          have rr := right0 oh jj hi30 hdue hr2 hj3
          refine bo_set (fun x : D => x) nd (i := 14) rfl (.inl rfl) (px_tget1M kSS_inj D.int hr.units (px_ix ix_list (px_var (pv 5) rfl) (px_var (pv 8) rfl) (o_ixL (d := D.adr q_kept_0) rfl)) (.o (k := 3) rfl) (pa_c (px_var (pv 9) rfl) (pa_c (px_var (pv 10) rfl) pa_n)) (szS (by exact Nat.le_of_ble_eq_true rfl)) ) (fun due_2 hdue_2 => ?_)
          refine bo_ifS (fun j5 : D => [some (D.scr (script.map D.int)), some ((lstE D.str) names), some ((lstE roadD) lines), some ((netD c) net), some (D.lst [D.adr q_tables_0, D.adr q_tables_2]), some (D.lst [D.adr q_kept_0, D.adr q_kept_1]), some (D.int x1), some (D.int n), some (D.int 0), some (D.str house), some (D.str goal), some (D.int j1), some (D.bl drops), some ((lstE D.int) mine), some j5, none, none, none]) (fun j5 : D => [ownI K q_tables_0 c.Ways [("net", ((netD c) r2.2.1)), ("told", .adr q_tables_1)], ownT K q_tables_1 (dE kSS D.int r2.2.2), ownT K q_kept_1 (dE kSS D.int j3.2), ownT K q_kept_0 (dE kSS D.int j3.1), ownI K q_tables_2 c.Ways [("net", ((netD c) s1.1.2.1)), ("told", .adr q_tables_3)], ownT K q_tables_3 (dE kSS D.int s1.1.2.2)]) (ts_w (tw_or (ts_cmp op_notIn_seq (px_var (pv 9) rfl) (px_var (pv 1) rfl) (o_ninS (.inl rfl))) fun hb4 => (tw_or (ts_cmp op_notIn_seq (px_var (pv 10) rfl) (px_var (pv 1) rfl) (o_ninS (.inl rfl))) fun hb3 => (tw_or1 (ts_cmp op_eq (px_var (pv 9) rfl) (px_var (pv 10) rfl) o_eqS))))) (fun hi5 => ?_) (fun hi5 => ?_) (fun j5 hj5 => ?_)
          · -- if5t
            refine bo_set (fun x : D => x) nd (i := 14) rfl (.inl rfl) (px_lst (pa_c px_bl (pa_c px_bl pa_n))) (fun due_3 hdue_3 => ?_)
            exact bo_nx (.keep (.keep (.keep (.keep (.keep (.keep (.keep (.keep (.keep (.keep (.keep (.keep (.keep (.keep (.keep (.any (.any (.any .nil)))))))))))))))))) rfl
          · -- if5f
            exact bo_nx (.keep (.keep (.keep (.keep (.keep (.keep (.keep (.keep (.keep (.keep (.keep (.keep (.keep (.keep (.keep (.any (.any (.any .nil)))))))))))))))))) rfl
          -- if5j
          have aj : Any j5 := by rw [hj5, hdue_2]; exact cond_keep (P := Any) (fun _ => lb_any) fun _ => oi_any
          refine bo_if (ts_w (tw_or (ts_cmp (op_neD hr.units) (ev_still (d := (law_asked_m r2.2 house goal)) (own0 := [ownI K q_tables_0 c.Ways [("net", ((netD c) r2.2.1)), ("told", .adr q_tables_1)], ownT K q_tables_1 (dE kSS D.int r2.2.2)] ++ [ownT K q_kept_1 (dE kSS D.int j3.2), ownT K q_kept_0 (dE kSS D.int j3.1), ownI K q_tables_2 c.Ways [("net", ((netD c) s1.1.2.1)), ("told", .adr q_tables_3)], ownT K q_tables_3 (dE kSS D.int s1.1.2.2)]) (ev_callO (lr := [ownT K q_kept_1 (dE kSS D.int j3.2), ownT K q_kept_0 (dE kSS D.int j3.1), ownI K q_tables_2 c.Ways [("net", ((netD c) s1.1.2.1)), ("told", .adr q_tables_3)], ownT K q_tables_3 (dE kSS D.int s1.1.2.2)]) (g_law_asked T) hr (by decide) (r2.2, q_tables_0, q_tables_1, house, goal) /-ok_asked_1-/(trivial) (.refl _) (pa_c (px_ix ix_list (px_var (pv 4) rfl) (px_var (pv 8) rfl) (o_ixL (d := D.adr q_tables_0) rfl)) (pa_c (px_var (pv 9) rfl) (pa_c (px_var (pv 10) rfl) pa_n)))) (fun _ _ ⟨_, h1, h2⟩ => ⟨h1, h2⟩) (.refl _)) (px_var (pv 14) rfl) (o_neAny /-any7-/(by first | assumption | exact deed_any | exact asked_any) /-any8-/(by first | assumption | exact deed_any | exact asked_any))) fun hb5 => (tw_or1 (ts_not (ts_val (ev_still (d := (D.bl (law_right_m r2.2 j3.1))) (own0 := [ownI K q_tables_0 c.Ways [("net", ((netD c) r2.2.1)), ("told", .adr q_tables_1)], ownT K q_tables_1 (dE kSS D.int r2.2.2), ownT K q_kept_0 (dE kSS D.int j3.1)] ++ [ownT K q_kept_1 (dE kSS D.int j3.2), ownI K q_tables_2 c.Ways [("net", ((netD c) s1.1.2.1)), ("told", .adr q_tables_3)], ownT K q_tables_3 (dE kSS D.int s1.1.2.2)]) (ev_callO (lr := [ownT K q_kept_1 (dE kSS D.int j3.2), ownI K q_tables_2 c.Ways [("net", ((netD c) s1.1.2.1)), ("told", .adr q_tables_3)], ownT K q_tables_3 (dE kSS D.int s1.1.2.2)]) (g_law_right T) hr (by decide) (r2.2, q_tables_0, q_tables_1, j3.1, q_kept_0) /-ok_right_1-/(rr) ((perm_at (k := 0) rfl).trans (.cons _ ((perm_at (k := 0) rfl).trans (.cons _ ((perm_at (k := 1) rfl).trans (.cons _ (.refl _))))))) (pa_c (px_ix ix_list (px_var (pv 4) rfl) (px_var (pv 8) rfl) (o_ixL (d := D.adr q_tables_0) rfl)) (pa_c (px_ix ix_list (px_var (pv 5) rfl) (px_var (pv 8) rfl) (o_ixL (d := D.adr q_kept_0) rfl)) pa_n))) (fun _ _ ⟨_, h1, h2⟩ => ⟨h1, h2⟩) ((perm_at (k := 0) rfl).trans (.cons _ ((perm_at (k := 0) rfl).trans (.cons _ ((perm_at (k := 1) rfl).trans (.cons _ (.refl _))))))))))))) (fun hi6 => ?_) (fun hi6 => ?_)
          · -- if6t
            exact bo_retO px_bl
          · -- if6f
            refine bo_mov (l2 := [ownT K q_kept_1 (dE kSS D.int j3.2), ownT K q_kept_0 (dE kSS D.int j3.1), ownI K q_tables_2 c.Ways [("net", ((netD c) s1.1.2.1)), ("told", .adr q_tables_3)], ownT K q_tables_3 (dE kSS D.int s1.1.2.2), ownI K q_tables_0 c.Ways [("net", ((netD c) r2.2.1)), ("told", .adr q_tables_1)], ownT K q_tables_1 (dE kSS D.int r2.2.2)]) ((perm_at (k := 2) rfl).trans (.cons _ ((perm_at (k := 2) rfl).trans (.cons _ ((perm_at (k := 2) rfl).trans (.cons _ ((perm_at (k := 2) rfl).trans (.cons _ ((perm_at (k := 0) rfl).trans (.cons _ ((perm_at (k := 0) rfl).trans (.cons _ (.refl _))))))))))))) ?_
            exact bo_nxO (.keep (.keep (.keep (.keep (.keep (.keep (.any (.any (.any (.any (.any (.any (.any (.any (.any (.any (.any (.any .nil)))))))))))))))))) rfl
      · have hk0n := of_decide_eq_false hk0
        obtain rfl : k = 1 := hk_k.resolve_left hk0n
        refine bo_set D.str nd (i := 9) rfl (.inr rfl) (px_call (g_law_end T) hr (by decide) (((n / 2) % 1009), names) /-ok_end_3-/(⟨Int.emod_nonneg _ (by decide), h1, oh⟩) (pa_c (px_op op_mod (px_op op_fdiv (px_var (pv 7) rfl) px_int (o_fdiv (j := 2))) px_int (o_mod (j := 1009))) (pa_c (px_var (pv 1) rfl) pa_n))) (fun house_2 hhouse_2 => ?_)
        refine bo_set D.str nd (i := 10) rfl (.inl rfl) (px_call (g_law_end T) hr (by decide) (((n / 2018) % 1013), names) /-ok_end_4-/(⟨Int.emod_nonneg _ (by decide), h1, oh⟩) (pa_c (px_op op_mod (px_op op_fdiv (px_var (pv 7) rfl) px_int (o_fdiv (j := 2018))) px_int (o_mod (j := 1013))) (pa_c (px_var (pv 1) rfl) pa_n))) (fun goal_2 hgoal_2 => ?_)
        refine bo_set D.int nd (i := 11) rfl (.inl rfl) (px_op op_sub (px_op op_mod (px_op op_fdiv (px_var (pv 7) rfl) px_int (o_fdiv (j := 7))) (px_op op_add (px_bi call_len_seq T.z_len (pa_c (px_var (pv 2) rfl) pa_n) (o_lenM .f)) px_int o_add) (o_mod /-mod3-/(by omega))) px_int o_sub) (fun road_3 hroad_3 => ?_)
        refine bo_set D.bl nd (i := 12) rfl (.inl rfl) (px_cmp op_eq (px_op op_mod (px_op op_fdiv (px_var (pv 7) rfl) px_int (o_fdiv (j := 1000003))) px_int (o_mod (j := 4))) px_int o_eqI) (fun drops_2 hdrops_2 => ?_)
        refine bo_lcF (own := [("_law_number", 16), ("_law_line", 17)]) (gt := gTup K 2 (gCons (gName 16) (gCons (gName 17) gNil))) (is := [16, 17]) (fun x : Int × Road => D.tup [(D.int x.1), (roadD x.2)]) D.int (fun z3 : Int × Road => (decide (z3.2.1 = house_2))) (fun z3 : Int × Road => z3.1) nd (i := 13) rfl rfl (by exact Nat.le_of_ble_eq_true rfl) rfl (Itw.to (it_enum (px_var (pv 2) rfl) T.z_enumerate) enumI_map) (blkOk_by (N := ns_law) (sc := defScope s_law) (by decide +kernel)) (fun _ _ _ _ _ => (pg_tup rfl (pgs_cons (pg_name (i := 16) nd rfl (.inl rfl)) (pgs_cons (pg_name (i := 17) nd rfl (.inl rfl)) pgs_nil)))) (by decide) /-csz3-/(by first | omega | (rw [rngI_len]; omega) | (rw [enumI_len]; omega) | (rw [List.length_zip]; omega)) (fun i z3 hz3 => by
          have hz31 := (enumI_get hz3).1
          have hz32 := (enumI_get hz3).2
          have hz3m := List.mem_of_getElem? hz32
          have hz3l := (List.getElem?_eq_some_iff.mp hz32).1
          exact ⟨_, tg_tup rfl rfl, fun _ _ _ _ _ => (ts_cmp op_eq (px_ix ix_tup (px_var (pv 17) rfl) px_int (o_ixT (d := (D.str z3.2.1)) rfl)) (px_var (pv 9) rfl) o_eqS), fun hcz3 => fun _ _ _ _ _ => (px_var (pv 16) rfl)⟩) (fun mine_2 hmine_2 => ?_)
        refine bo_ifS (fun j7 : Int => [some (D.scr (script.map D.int)), some ((lstE D.str) names), some ((lstE roadD) lines), some ((netD c) net), some (D.lst [D.adr q_tables_0, D.adr q_tables_2]), some (D.lst [D.adr q_kept_0, D.adr q_kept_1]), some (D.int x1), some (D.int n), some (D.int 1), some (D.str house_2), some (D.str goal_2), some (D.int j7), some (D.bl drops_2), some ((lstE D.int) mine_2), none, none, none, none]) (fun j7 : Int => [ownT K q_kept_1 (dE kSS D.int s1.2.2), ownT K q_kept_0 (dE kSS D.int s1.2.1), ownI K q_tables_2 c.Ways [("net", ((netD c) s1.1.2.1)), ("told", .adr q_tables_3)], ownT K q_tables_3 (dE kSS D.int s1.1.2.2), ownI K q_tables_0 c.Ways [("net", ((netD c) s1.1.1.1)), ("told", .adr q_tables_1)], ownT K q_tables_1 (dE kSS D.int s1.1.1.2)]) (ts_w (tw_and (ts_cmp (op_neD hr.units) (px_var (pv 13) rfl) (px_lst pa_n) (o_neLE eqs_int .f .f /-eqk3-/(by simp) /-eqk4-/(by simp))) fun hb6 => (tw_and1 (ts_cmp op_gt (px_op op_mod (px_op op_fdiv (px_var (pv 7) rfl) px_int (o_fdiv (j := 4000012))) px_int (o_mod (j := 3))) px_int o_gt)))) (fun hi7 => ?_) (fun hi7 => ?_) (fun j7 hj7 => ?_)
        · -- if7t
          have hmp := mine_pos (Bool.and_eq_true_iff.mp hi7).1
          refine bo_set D.int nd (i := 11) rfl (.inl rfl) (px_ix ix_list (px_var (pv 13) rfl) (px_op op_mod (px_op op_fdiv (px_var (pv 7) rfl) px_int (o_fdiv (j := 31))) (px_bi call_len_seq T.z_len (pa_c (px_var (pv 13) rfl) pa_n) (o_lenM .f)) (o_mod /-mod4-/(by omega))) (o_ixM D.int (x0 := 0) .f /-lo2-/((ix_mod (Bool.and_eq_true_iff.mp hi7).1 _).1) /-hi2-/((ix_mod (Bool.and_eq_true_iff.mp hi7).1 _).2))) (fun road_4 hroad_4 => ?_)
          exact bo_nx (.keep (.keep (.keep (.keep (.keep (.keep (.keep (.keep (.keep (.keep (.keep (.keep (.keep (.keep (.any (.any (.any (.any .nil)))))))))))))))))) rfl
        · -- if7f
          exact bo_nx (.keep (.keep (.keep (.keep (.keep (.keep (.keep (.keep (.keep (.keep (.keep (.keep (.keep (.keep (.any (.any (.any (.any .nil)))))))))))))))))) rfl
        -- if7j
        refine bo_set (fun x : D => x) nd (i := 14) rfl (.inl rfl) (px_call (g_law_due T) hr (by decide) (names, lines, house_2, goal_2, j7, drops_2) /-ok_due_2-/(trivial) (pa_c (px_var (pv 1) rfl) (pa_c (px_var (pv 2) rfl) (pa_c (px_var (pv 9) rfl) (pa_c (px_var (pv 10) rfl) (pa_c (px_var (pv 11) rfl) (pa_c (px_var (pv 12) rfl) pa_n))))))) (fun due_4 hdue_4 => ?_)
        have da : Any due_4 := by rw [hdue_4]; exact due_any
        refine bo_ifOX (s0 := (law_deed_m s1.1.2 house_2 goal_2 j7 drops_2)) (ll := (fun (i : Unit) (r : D × ((List Str × List Road) × (List ((Str × Str) × Int)))) => ([ownI K q_tables_2 c.Ways [("net", ((netD c) r.2.1)), ("told", .adr q_tables_3)], ownT K q_tables_3 (dE kSS D.int r.2.2), ownT K q_kept_1 (dE kSS D.int s1.2.2), ownT K q_kept_0 (dE kSS D.int s1.2.1), ownI K q_tables_0 c.Ways [("net", ((netD c) s1.1.1.1)), ("told", .adr q_tables_1)], ownT K q_tables_1 (dE kSS D.int s1.1.1.2)] : List Res))) (bv := fun r8 : D × ((List Str × List Road) × (List ((Str × Str) × Int))) => (!(D.eq r8.1 due_4))) (tse_cmpO (dd := fun j : Unit => ((law_deed_m s1.1.2 house_2 goal_2 j7 drops_2).1 : D)) (ll := fun j : Unit => [ownI K q_tables_2 c.Ways [("net", ((netD c) (((law_deed_m s1.1.2 house_2 goal_2 j7 drops_2).2).1))), ("told", .adr q_tables_3)], ownT K q_tables_3 (dE kSS D.int (((law_deed_m s1.1.2 house_2 goal_2 j7 drops_2).2).2)), ownT K q_kept_1 (dE kSS D.int s1.2.2), ownT K q_kept_0 (dE kSS D.int s1.2.1), ownI K q_tables_0 c.Ways [("net", ((netD c) s1.1.1.1)), ("told", .adr q_tables_1)], ownT K q_tables_1 (dE kSS D.int s1.1.1.2)]) (op_neD hr.units) (ev_callO (lr := [ownT K q_kept_1 (dE kSS D.int s1.2.2), ownT K q_kept_0 (dE kSS D.int s1.2.1), ownI K q_tables_0 c.Ways [("net", ((netD c) s1.1.1.1)), ("told", .adr q_tables_1)], ownT K q_tables_1 (dE kSS D.int s1.1.1.2)]) (g_law_deed T) hr (by decide) (s1.1.2, q_tables_2, q_tables_3, house_2, goal_2, j7, drops_2) /-ok_deed_2-/(⟨by rw [jj.t1]; exact h40, by rw [jj.t1]; have := jj.l1; dsimp only; omega⟩) ((perm_at (k := 2) rfl).trans (.cons _ ((perm_at (k := 2) rfl).trans (.cons _ (.refl _))))) (pa_c (px_ix ix_list (px_var (pv 4) rfl) (px_var (pv 8) rfl) (o_ixL (d := D.adr q_tables_2) rfl)) (pa_c (px_var (pv 9) rfl) (pa_c (px_var (pv 10) rfl) (pa_c (px_var (pv 11) rfl) (pa_c (px_var (pv 12) rfl) pa_n)))))) (fun j => (px_var (pv 14) rfl)) (fun j => (o_neAny /-any9-/(by first | assumption | exact deed_any | exact asked_any) /-any10-/(by first | assumption | exact deed_any | exact asked_any)))) (fun _ r8 hr8 hi8 => ?_) (fun _ r8 hr8 hi8 => ?_)
        · -- if8t
          exact bo_retO px_bl
        · -- if8f
          refine bo_ifS (fun j9 : ((List ((Str × Str) × Int)) × (List ((Str × Str) × Int))) => [some (D.scr (script.map D.int)), some ((lstE D.str) names), some ((lstE roadD) lines), some ((netD c) net), some (D.lst [D.adr q_tables_0, D.adr q_tables_2]), some (D.lst [D.adr q_kept_0, D.adr q_kept_1]), some (D.int x1), some (D.int n), some (D.int 1), some (D.str house_2), some (D.str goal_2), some (D.int j7), some (D.bl drops_2), some ((lstE D.int) mine_2), some due_4, none, none, none]) (fun j9 : ((List ((Str × Str) × Int)) × (List ((Str × Str) × Int))) => [ownI K q_tables_2 c.Ways [("net", ((netD c) r8.2.1)), ("told", .adr q_tables_3)], ownT K q_tables_3 (dE kSS D.int r8.2.2), ownT K q_kept_1 (dE kSS D.int j9.2), ownT K q_kept_0 (dE kSS D.int j9.1), ownI K q_tables_0 c.Ways [("net", ((netD c) s1.1.1.1)), ("told", .adr q_tables_1)], ownT K q_tables_1 (dE kSS D.int s1.1.1.2)]) (ts_w (tw_and (ts_cmp op_isN (px_var (pv 14) rfl) px_non o_isN) fun hb7 => (tw_and1 (ts_val (px_var (pv 12) rfl))))) (fun hi9 => ?_) (fun hi9 => ?_) (fun j9 hj9 => ?_)
          · -- if9t
            refine bo_tpop (n := 2) kSS_inj D.int hr.units (px_ix ix_list (px_var (pv 5) rfl) (px_var (pv 8) rfl) (o_ixL (d := D.adr q_kept_1) rfl)) (pa_c (px_var (pv 9) rfl) (pa_c (px_var (pv 10) rfl) pa_n)) (szS (by exact Nat.le_of_ble_eq_true rfl)) px_non rfl (fun kept_1 hkept_1 => ?_) (hp := by exact ps_expr (pe_bm PySem.F.plainAttrs_dict PySem.F.slot_dict_pop PySem.F.type_dict_pop (L2.DX.mt_popT (Px.units hr.units)) pe_wp (pa_cons (pe_tup pa_wp) (pa_cons pe_wp pa_nil))))
            exact bo_nx (.keep (.keep (.keep (.keep (.keep (.keep (.keep (.keep (.keep (.keep (.keep (.keep (.keep (.keep (.keep (.any (.any (.any .nil)))))))))))))))))) rfl
          · -- if9f
            refine bo_if (ts_cmp op_isN (px_var (pv 14) rfl) px_non o_isN) (fun hi10 => ?_) (fun hi10 => ?_)
            · -- if10t
              refine bo_tput (n := 2) kSS_inj D.int hr.units (px_var (pv 11) rfl) (px_ix ix_list (px_var (pv 5) rfl) (px_var (pv 8) rfl) (o_ixL (d := D.adr q_kept_1) rfl)) (pa_c (px_var (pv 9) rfl) (pa_c (px_var (pv 10) rfl) pa_n)) (szS (by exact Nat.le_of_ble_eq_true rfl)) rfl /-dsz2-/(by omega) (fun kept_1_2 hkept_1_2 => ?_)
              exact bo_nx (.keep (.keep (.keep (.keep (.keep (.keep (.keep (.keep (.keep (.keep (.keep (.keep (.keep (.keep (.keep (.any (.any (.any .nil)))))))))))))))))) rfl
            · -- if10f
              exact bo_nx (.keep (.keep (.keep (.keep (.keep (.keep (.keep (.keep (.keep (.keep (.keep (.keep (.keep (.keep (.keep (.any (.any (.any .nil)))))))))))))))))) rfl
          -- if9j
          have rr := right1 oh jj hi30 hdue_4 hr8 hj9
          refine bo_set (fun x : D => x) nd (i := 14) rfl (.inl rfl) (px_tget1M kSS_inj D.int hr.units (px_ix ix_list (px_var (pv 5) rfl) (px_var (pv 8) rfl) (o_ixL (d := D.adr q_kept_1) rfl)) (.o (k := 2) rfl) (pa_c (px_var (pv 9) rfl) (pa_c (px_var (pv 10) rfl) pa_n)) (szS (by exact Nat.le_of_ble_eq_true rfl)) ) (fun due_5 hdue_5 => ?_)
          refine bo_ifS (fun j11 : D => [some (D.scr (script.map D.int)), some ((lstE D.str) names), some ((lstE roadD) lines), some ((netD c) net), some (D.lst [D.adr q_tables_0, D.adr q_tables_2]), some (D.lst [D.adr q_kept_0, D.adr q_kept_1]), some (D.int x1), some (D.int n), some (D.int 1), some (D.str house_2), some (D.str goal_2), some (D.int j7), some (D.bl drops_2), some ((lstE D.int) mine_2), some j11, none, none, none]) (fun j11 : D => [ownI K q_tables_2 c.Ways [("net", ((netD c) r8.2.1)), ("told", .adr q_tables_3)], ownT K q_tables_3 (dE kSS D.int r8.2.2), ownT K q_kept_1 (dE kSS D.int j9.2), ownT K q_kept_0 (dE kSS D.int j9.1), ownI K q_tables_0 c.Ways [("net", ((netD c) s1.1.1.1)), ("told", .adr q_tables_1)], ownT K q_tables_1 (dE kSS D.int s1.1.1.2)]) (ts_w (tw_or (ts_cmp op_notIn_seq (px_var (pv 9) rfl) (px_var (pv 1) rfl) (o_ninS (.inl rfl))) fun hb9 => (tw_or (ts_cmp op_notIn_seq (px_var (pv 10) rfl) (px_var (pv 1) rfl) (o_ninS (.inl rfl))) fun hb8 => (tw_or1 (ts_cmp op_eq (px_var (pv 9) rfl) (px_var (pv 10) rfl) o_eqS))))) (fun hi11 => ?_) (fun hi11 => ?_) (fun j11 hj11 => ?_)
          · -- if11t
            refine bo_set (fun x : D => x) nd (i := 14) rfl (.inl rfl) (px_lst (pa_c px_bl (pa_c px_bl pa_n))) (fun due_6 hdue_6 => ?_)
            exact bo_nx (.keep (.keep (.keep (.keep (.keep (.keep (.keep (.keep (.keep (.keep (.keep (.keep (.keep (.keep (.keep (.any (.any (.any .nil)))))))))))))))))) rfl
          · -- if11f
            exact bo_nx (.keep (.keep (.keep (.keep (.keep (.keep (.keep (.keep (.keep (.keep (.keep (.keep (.keep (.keep (.keep (.any (.any (.any .nil)))))))))))))))))) rfl
          -- if11j
          have aj : Any j11 := by rw [hj11, hdue_5]; exact cond_keep (P := Any) (fun _ => lb_any) fun _ => oi_any
          refine bo_if (ts_w (tw_or (ts_cmp (op_neD hr.units) (ev_still (d := (law_asked_m r8.2 house_2 goal_2)) (own0 := [ownI K q_tables_2 c.Ways [("net", ((netD c) r8.2.1)), ("told", .adr q_tables_3)], ownT K q_tables_3 (dE kSS D.int r8.2.2)] ++ [ownT K q_kept_1 (dE kSS D.int j9.2), ownT K q_kept_0 (dE kSS D.int j9.1), ownI K q_tables_0 c.Ways [("net", ((netD c) s1.1.1.1)), ("told", .adr q_tables_1)], ownT K q_tables_1 (dE kSS D.int s1.1.1.2)]) (ev_callO (lr := [ownT K q_kept_1 (dE kSS D.int j9.2), ownT K q_kept_0 (dE kSS D.int j9.1), ownI K q_tables_0 c.Ways [("net", ((netD c) s1.1.1.1)), ("told", .adr q_tables_1)], ownT K q_tables_1 (dE kSS D.int s1.1.1.2)]) (g_law_asked T) hr (by decide) (r8.2, q_tables_2, q_tables_3, house_2, goal_2) /-ok_asked_2-/(trivial) (.refl _) (pa_c (px_ix ix_list (px_var (pv 4) rfl) (px_var (pv 8) rfl) (o_ixL (d := D.adr q_tables_2) rfl)) (pa_c (px_var (pv 9) rfl) (pa_c (px_var (pv 10) rfl) pa_n)))) (fun _ _ ⟨_, h1, h2⟩ => ⟨h1, h2⟩) (.refl _)) (px_var (pv 14) rfl) (o_neAny /-any15-/(by first | assumption | exact deed_any | exact asked_any) /-any16-/(by first | assumption | exact deed_any | exact asked_any))) fun hb10 => (tw_or1 (ts_not (ts_val (ev_still (d := (D.bl (law_right_m r8.2 j9.2))) (own0 := [ownI K q_tables_2 c.Ways [("net", ((netD c) r8.2.1)), ("told", .adr q_tables_3)], ownT K q_tables_3 (dE kSS D.int r8.2.2), ownT K q_kept_1 (dE kSS D.int j9.2)] ++ [ownT K q_kept_0 (dE kSS D.int j9.1), ownI K q_tables_0 c.Ways [("net", ((netD c) s1.1.1.1)), ("told", .adr q_tables_1)], ownT K q_tables_1 (dE kSS D.int s1.1.1.2)]) (ev_callO (lr := [ownT K q_kept_0 (dE kSS D.int j9.1), ownI K q_tables_0 c.Ways [("net", ((netD c) s1.1.1.1)), ("told", .adr q_tables_1)], ownT K q_tables_1 (dE kSS D.int s1.1.1.2)]) (g_law_right T) hr (by decide) (r8.2, q_tables_2, q_tables_3, j9.2, q_kept_1) /-ok_right_2-/(rr) (.refl _) (pa_c (px_ix ix_list (px_var (pv 4) rfl) (px_var (pv 8) rfl) (o_ixL (d := D.adr q_tables_2) rfl)) (pa_c (px_ix ix_list (px_var (pv 5) rfl) (px_var (pv 8) rfl) (o_ixL (d := D.adr q_kept_1) rfl)) pa_n))) (fun _ _ ⟨_, h1, h2⟩ => ⟨h1, h2⟩) (.refl _))))))) (fun hi12 => ?_) (fun hi12 => ?_)
          · -- if12t
            exact bo_retO px_bl
          · -- if12f
            refine bo_mov (l2 := [ownT K q_kept_1 (dE kSS D.int j9.2), ownT K q_kept_0 (dE kSS D.int j9.1), ownI K q_tables_2 c.Ways [("net", ((netD c) r8.2.1)), ("told", .adr q_tables_3)], ownT K q_tables_3 (dE kSS D.int r8.2.2), ownI K q_tables_0 c.Ways [("net", ((netD c) s1.1.1.1)), ("told", .adr q_tables_1)], ownT K q_tables_1 (dE kSS D.int s1.1.1.2)]) ((perm_at (k := 2) rfl).trans (.cons _ ((perm_at (k := 2) rfl).trans (.cons _ ((perm_at (k := 0) rfl).trans (.cons _ ((perm_at (k := 0) rfl).trans (.cons _ ((perm_at (k := 0) rfl).trans (.cons _ ((perm_at (k := 0) rfl).trans (.cons _ (.refl _))))))))))))) ?_
            exact bo_nxO (.keep (.keep (.keep (.keep (.keep (.keep (.any (.any (.any (.any (.any (.any (.any (.any (.any (.any (.any (.any .nil)))))))))))))))))) rfl
    -- behind for1
    have re0 := right_e0 oh hj1e
    have re1 := right_e1 oh hj1e
    refine bo_setO (dd := fun (i : Addr) (r : (List (Str × Str × Int))) => (.adr i : D)) (ll := fun (i : Addr) (r : (List (Str × Str × Int))) => ([ownL K i (r.map (fun x : Str × Str × Int => D.tup [(D.str x.1), (D.str x.2.1), (D.int x.2.2)])), ownI K q_tables_0 c.Ways [("net", ((netD c) s1.1.1.1)), ("told", .adr q_tables_1)], ownT K q_tables_1 (dE kSS D.int s1.1.1.2), ownT K q_kept_1 (dE kSS D.int s1.2.2), ownT K q_kept_0 (dE kSS D.int s1.2.1), ownI K q_tables_2 c.Ways [("net", ((netD c) s1.1.2.1)), ("told", .adr q_tables_3)], ownT K q_tables_3 (dE kSS D.int s1.1.2.2)] : List Res)) nd (i := 15) rfl (.inl rfl) (ev_methO0 (lr := [ownT K q_kept_1 (dE kSS D.int s1.2.2), ownT K q_kept_0 (dE kSS D.int s1.2.1), ownI K q_tables_2 c.Ways [("net", ((netD c) s1.1.2.1)), ("told", .adr q_tables_3)], ownT K q_tables_3 (dE kSS D.int s1.1.2.2)]) (g_Ways_pairs_s T) hr (by decide) (s1.1.1, q_tables_0, q_tables_1) /-ok_pairs_1-/(re0.1.1) ((perm_at (k := 4) rfl).trans (.cons _ ((perm_at (k := 4) rfl).trans (.cons _ (.refl _))))) (px_ix ix_list (px_var (pv 4) rfl) px_int (o_ixL (d := D.adr q_tables_0) rfl)) (k0 := 0) rfl (look_tl (look_tl look_nil)) rfl) (fun jtold told htold => ?_)
    have htl : told.length ≤ 1000 := by rw [htold, pairs_len]; exact re0.1.1
    revert jtold; intro q_told
    show Bo _ _ _ [some (D.scr (script.map D.int)), some ((lstE D.str) names), some ((lstE roadD) lines), some ((netD c) net), some (D.lst [D.adr q_tables_0, D.adr q_tables_2]), some (D.lst [D.adr q_kept_0, D.adr q_kept_1]), none, none, none, none, none, none, none, none, none, some (D.adr q_told), none, none] [ownL K q_told (told.map (fun x : Str × Str × Int => D.tup [(D.str x.1), (D.str x.2.1), (D.int x.2.2)])), ownI K q_tables_0 c.Ways [("net", ((netD c) s1.1.1.1)), ("told", .adr q_tables_1)], ownT K q_tables_1 (dE kSS D.int s1.1.1.2), ownT K q_kept_1 (dE kSS D.int s1.2.2), ownT K q_kept_0 (dE kSS D.int s1.2.1), ownI K q_tables_2 c.Ways [("net", ((netD c) s1.1.2.1)), ("told", .adr q_tables_3)], ownT K q_tables_3 (dE kSS D.int s1.1.2.2)] _ _
    have htl : told.length ≤ 1000 := by rw [htold, pairs_len]; exact re0.1.1
    refine bo_appJ (kk := 0) (px_var (pv 15) rfl) rfl px_non /-app1-/(by rw [List.length_map]; omega) ?_
    show Bo _ _ _ [some (D.scr (script.map D.int)), some ((lstE D.str) names), some ((lstE roadD) lines), some ((netD c) net), some (D.lst [D.adr q_tables_0, D.adr q_tables_2]), some (D.lst [D.adr q_kept_0, D.adr q_kept_1]), none, none, none, none, none, none, none, none, none, some (D.adr q_told), none, none] [ownI K q_tables_0 c.Ways [("net", ((netD c) s1.1.1.1)), ("told", .adr q_tables_1)], ownT K q_tables_1 (dE kSS D.int s1.1.1.2), ownT K q_kept_1 (dE kSS D.int s1.2.2), ownT K q_kept_0 (dE kSS D.int s1.2.1), ownI K q_tables_2 c.Ways [("net", ((netD c) s1.1.2.1)), ("told", .adr q_tables_3)], ownT K q_tables_3 (dE kSS D.int s1.1.2.2)] _ _
    exact bo_ret (px_and (ev_still (d := (D.bl (law_right_m s1.1.1 s1.2.1))) (own0 := [ownI K q_tables_0 c.Ways [("net", ((netD c) s1.1.1.1)), ("told", .adr q_tables_1)], ownT K q_tables_1 (dE kSS D.int s1.1.1.2), ownT K q_kept_0 (dE kSS D.int s1.2.1)] ++ [ownT K q_kept_1 (dE kSS D.int s1.2.2), ownI K q_tables_2 c.Ways [("net", ((netD c) s1.1.2.1)), ("told", .adr q_tables_3)], ownT K q_tables_3 (dE kSS D.int s1.1.2.2)]) (ev_callO (lr := [ownT K q_kept_1 (dE kSS D.int s1.2.2), ownI K q_tables_2 c.Ways [("net", ((netD c) s1.1.2.1)), ("told", .adr q_tables_3)], ownT K q_tables_3 (dE kSS D.int s1.1.2.2)]) (g_law_right T) hr (by decide) (s1.1.1, q_tables_0, q_tables_1, s1.2.1, q_kept_0) /-ok_right_3-/(re0) ((perm_at (k := 0) rfl).trans (.cons _ ((perm_at (k := 0) rfl).trans (.cons _ ((perm_at (k := 1) rfl).trans (.cons _ (.refl _))))))) (pa_c (px_ix ix_list (px_var (pv 4) rfl) px_int (o_ixL (d := D.adr q_tables_0) rfl)) (pa_c (px_ix ix_list (px_var (pv 5) rfl) px_int (o_ixL (d := D.adr q_kept_0) rfl)) pa_n))) (fun _ _ ⟨_, h1, h2⟩ => ⟨h1, h2⟩) ((perm_at (k := 0) rfl).trans (.cons _ ((perm_at (k := 0) rfl).trans (.cons _ ((perm_at (k := 1) rfl).trans (.cons _ (.refl _)))))))) fun hb12 => (px_and (ev_still (d := (D.bl (law_right_m s1.1.2 s1.2.2))) (own0 := [ownI K q_tables_2 c.Ways [("net", ((netD c) s1.1.2.1)), ("told", .adr q_tables_3)], ownT K q_tables_3 (dE kSS D.int s1.1.2.2), ownT K q_kept_1 (dE kSS D.int s1.2.2)] ++ [ownI K q_tables_0 c.Ways [("net", ((netD c) s1.1.1.1)), ("told", .adr q_tables_1)], ownT K q_tables_1 (dE kSS D.int s1.1.1.2), ownT K q_kept_0 (dE kSS D.int s1.2.1)]) (ev_callO (lr := [ownI K q_tables_0 c.Ways [("net", ((netD c) s1.1.1.1)), ("told", .adr q_tables_1)], ownT K q_tables_1 (dE kSS D.int s1.1.1.2), ownT K q_kept_0 (dE kSS D.int s1.2.1)]) (g_law_right T) hr (by decide) (s1.1.2, q_tables_2, q_tables_3, s1.2.2, q_kept_1) /-ok_right_4-/(re1) ((perm_at (k := 4) rfl).trans (.cons _ ((perm_at (k := 4) rfl).trans (.cons _ ((perm_at (k := 2) rfl).trans (.cons _ (.refl _))))))) (pa_c (px_ix ix_list (px_var (pv 4) rfl) px_int (o_ixL (d := D.adr q_tables_2) rfl)) (pa_c (px_ix ix_list (px_var (pv 5) rfl) px_int (o_ixL (d := D.adr q_kept_1) rfl)) pa_n))) (fun _ _ ⟨_, h1, h2⟩ => ⟨h1, h2⟩) ((perm_at (k := 4) rfl).trans (.cons _ ((perm_at (k := 4) rfl).trans (.cons _ ((perm_at (k := 2) rfl).trans (.cons _ (.refl _)))))))) fun hb11 => (px_one (px_cmp (op_eqD hr.units) (Ev.frz (evl_junk (Ev.imp (ev_methE0 (k0 := 0) (g_Ways_pairs_s T) hr (by decide) (fun i : Addr × Addr => ((Ways_init_m net), i.1, i.2)) (fun i => /-ok_pairs_2-/(Nat.zero_le _)) (ev_new_Ways T hr (by decide) net /-ok_init___3-/(trivial) (pa_c (px_var (pv 3) rfl) pa_n)) (fun _ => rfl) (fun _ => rfl) (fun _ => rfl) (fun _ => (look_tl (look_tl look_nil))) (fun _ => rfl)) (fun d l1 ⟨i, i2, h1, h2⟩ => ⟨i2, _, h1, h2⟩)))) (px_lst pa_n) (o_eqLE (eqs_t3 (e := (fun x : Str × Str × Int => D.tup [(D.str x.1), (D.str x.2.1), (D.int x.2.2)])) eqs_str eqs_str eqs_int) .f .f /-eqk5-/(fun x h => absurd (show x ∈ ([] : List (Str × Str × Int)) from h) (List.not_mem_nil)) /-eqk6-/(by simp))))))

end

end Lw
set_option Elab.async false
set_option linter.all false
set_option maxRecDepth 100000
set_option maxHeartbeats 4000000
namespace Lw
open PySem L2 Sx
section
variable {P : Program} {w : World} {K : PySem.W.Frag} {mg : Str → Option Value} {base : Heap} {c : Cs}
theorem ok_law (T : Top K mg c) {f : Addr} {fd : FuncData} (F : Fun K "law" "law" s_law f fd) : FnOk P w K mg base CX0 lvl f fd ["_law_script"] (spL K) := ok_law0 T (fun ns _ => law_true ns) F
end

end Lw
open PySem PySem.W PySem.Calls PyProof.Rows
set_option maxHeartbeats 0 in
theorem PySem.Challenge.cw_postroad_k21_ways_set_and_dropped_holds : PySem.Challenge.rw_postroad_k21_ways_set_and_dropped.Holds := by
  w_on; o_law
  refine HandSHeadRun.head_any (r := OpenLaw.row PySem.Challenge.rw_postroad_k21_ways_set_and_dropped) (q := view (OpenLaw.row PySem.Challenge.rw_postroad_k21_ways_set_and_dropped).prog [29]) (H := Lw.hk) (ob := Lw.ob) (M := 20000) (loose := Lw.loose) (d := HandSHeadRun.topDef (OpenLaw.row PySem.Challenge.rw_postroad_k21_ways_set_and_dropped).prog 29) (kwd := []) Lw.ob_eq
    (by kernel_rfl) (fun s => by kernel_rfl) Lw.run (by kernel_rfl) (by kernel_rfl) (by kernel_rfl) (by rfl) (by first | assumption | decide +kernel) (by decide +kernel) ⟨rfl, rfl, rfl, rfl, rfl, by decide +kernel⟩ ?hw ?hc
  case hw => w_witness2
  case hc =>
    refine L2.walk_ofE (l := PySem.Challenge.rw_postroad_k21_ways_set_and_dropped) (n := 63) (k := Lw.lvl) (x := "_law_script") (CX := L2.CX0) rfl (by decide) (by kernel_rfl) ⟨rfl, by decide, by decide⟩ ?F (fun _ _ _ _ z => z)
    intro w mg fa h Y G hmg0
    obtain ⟨K, KX, c⟩ := Y
    have hmg : mg ("law" : PySem.Str) = some (.ref fa) := by
      have e : (HandSHeadRun.topDef (OpenLaw.row PySem.Challenge.rw_postroad_k21_ways_set_and_dropped).prog 29).name = ("law" : PySem.Str) := by kernel_rfl
      rw [← e]
      exact hmg0
    have T := Lw.top_of KX G c
    obtain ⟨fd, hb, hF⟩ := Sx.law_end (P := (PySem.Challenge.rw_postroad_k21_ways_set_and_dropped).prog) (w := w) (pn := "_law_script") (k := Lw.lvl) T.d_law hmg (fun _ _ _ _ _ _ s v => .of_eq rfl) (fun base h1 h2 f fd F => Lw.ok_law T F)
    exact ⟨K, fd, Sx.spLaw K, KX, hb, fun H a ns hl _ hS => ⟨a, ns, rfl, hS, hl, fun _ => rfl⟩, hF⟩
