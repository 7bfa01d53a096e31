import PyProof.Rows.All
import Wide.All
import OpenK.AllK
import Wide.FinOn
import HandS.ForMost
import HandS.Exc
import HandS.WordsExc
import HandS.IsInst
import HandS.Conv
import HandS.Text
import HandS.TupAny
import HandS.Steps
import HandS.SortInts
import HandS.DictComp
import KE.KIsAll
import HandS.ExcOwn
import HandS.ExcIs
import HandS.ExcInit
import HandS.TryOnly
import KE.KExcIs
import KE.KSortTupG
import KE.KSortTupUse
import HandS.Iter
import HandS.DictTup
import HandS.SetKeys
import HandS.More
import HandS.SortKw
import KE.DataMinMax
import HandS.TupLe
import HandS.SetFor
import HandS.Strs
import HandS.Flow
import HandS.TupLen
import PyProof.DictMoreH
import HandS.Deep
import PyProof.ZipIter
import HandS.Set
import PyProof.Rows.SortStr
import HandS.WordsDict
import Lean
import KE.KStateDown
import HandS.Defaults
import HandS.Head0
import HandS.Head1
import HandS.Head2
import HandS.HeadEnd
import HandS.HeadHook1
import HandS.HeadHook2
import HandS.HeadHook3
import HandS.HeadHook4
import PySem.Challenge.RW_postroad_k01_a_net
set_option Elab.async false
set_option linter.all false
set_option maxRecDepth 100000
set_option maxHeartbeats 2000000
/-! Frozen data, owned cells, states: a small separation logic over the layer's readings. -/
namespace Sx
open PySem L2

/-! ### heaps -/
/-- B knows all that A knows -/
def Ex (A B : Hp) : Prop := ∀ x u, A x = some u → B x = some u
theorem Ex.rf {A : Hp} : Ex A A := fun _ _ q => q
theorem Ex.tr {A B C : Hp} (p : Ex A B) (q : Ex B C) : Ex A C := fun x u z => q x u (p x u z)
theorem Ex.mut {A B : Hp} {q : Addr} {u : HO} (s : Ex A B) (n : A q = none) : Ex A (upd B q u) := fun x v z => (upd_ne (ne_of_none z n)).trans (s x v z)
theorem Ex.new {A : Hp} {q : Addr} {u : HO} (n : A q = none) : Ex A (upd A q u) := Ex.rf.mut n
theorem Ex.free {A B : Hp} (s : Ex A B) {q : Addr} (n : B q = none) : A q = none := Option.eq_none_iff_forall_ne_some.mpr fun u z => by
  rw [s q u z] at n; cases n
theorem Ex.upd2 {A B : Hp} {q : Addr} {u : HO} (s : Ex A B) : Ex (upd A q u) (upd B q u) := fun x v z => by
  by_cases k : x = q
  · subst k; rw [upd_same] at z ⊢; exact z
  · rw [upd_ne k] at z ⊢; exact s x v z
theorem ex_rd {A B : Hp} {x : Addr} {u : HO} (s : Ex A B) : Rd A x u → Rd B x u := Or.imp (s x _) fun ⟨o, z⟩ => ⟨o, s x _ z⟩
theorem ex_l {K : PySem.W.Frag} {A B : Hp} {x : Addr} {vs : List V} (s : Ex A B) : SqL K A x vs → SqL K B x vs := Or.imp (ex_rd s) id
theorem ex_t {K : PySem.W.Frag} {A B : Hp} {x : Addr} {vs : List V} (s : Ex A B) : SqT K A x vs → SqT K B x vs := Or.imp (ex_rd s) id
def emp : Hp := fun _ => none
def one (p : Addr) (o : HO) : Hp := upd emp p o
def join (A B : Hp) : Hp := fun a => match A a with | some o => some o | none => B a
theorem join_l {A B : Hp} {a : Addr} {o : HO} (h : A a = some o) : join A B a = some o := by unfold join; rw [h]
theorem join_r {A B : Hp} {a : Addr} (h : A a = none) : join A B a = B a := by unfold join; rw [h]
theorem join_emp (A : Hp) : join A emp = A := by
  funext a; unfold join emp; cases A a <;> rfl
theorem emp_join (A : Hp) : join emp A = A := by
  funext a; unfold join emp; rfl
theorem join_some {A B : Hp} {a : Addr} {o : HO} (h : join A B a = some o) : A a = some o ∨ (A a = none ∧ B a = some o) := by
  unfold join at h
  cases q : A a with
  | some u => rw [q] at h; exact .inl h
  | none => rw [q] at h; exact .inr ⟨rfl, h⟩
theorem join_none {A B : Hp} {a : Addr} (h : join A B a = none) : A a = none ∧ B a = none := by
  unfold join at h
  cases q : A a with
  | some u => rw [q] at h; cases h
  | none => rw [q] at h; exact ⟨rfl, h⟩
theorem join_assoc (A B C : Hp) : join (join A B) C = join A (join B C) := by
  funext a; unfold join; cases A a <;> rfl
/-- nothing in common -/
def Dj (A B : Hp) : Prop := ∀ a o, A a = some o → B a = none
theorem Dj.sym {A B : Hp} (h : Dj A B) : Dj B A := fun a o e => by
  cases q : A a with
  | none => rfl
  | some u => rw [h a u q] at e; cases e
theorem Dj.comm {A B : Hp} (h : Dj A B) : join A B = join B A := by
  funext a
  unfold join
  cases q : A a with
  | none => cases B a <;> rfl
  | some u => rw [h a u q]
theorem Dj.emp (A : Hp) : Dj A emp := fun _ _ _ => rfl
theorem Dj.l {A B C : Hp} (h : Dj (join A B) C) : Dj A C := fun a o e => h a o (join_l e)
theorem Dj.r {A B C : Hp} (d : Dj A B) (h : Dj (join A B) C) : Dj B C := fun a o e => h a o (by rw [join_r (d.sym a o e)]; exact e)
theorem Dj.joinL {A B C : Hp} (h : Dj A C) (k : Dj B C) : Dj (join A B) C := fun a o e => by
  rcases join_some e with q | ⟨_, q⟩
  · exact h a o q
  · exact k a o q
theorem Ex.joinL {A B H : Hp} (h : Ex (join A B) H) : Ex A H := fun a o e => h a o (join_l e)
theorem Ex.joinR {A B H : Hp} (d : Dj A B) (h : Ex (join A B) H) : Ex B H := fun a o e => h a o (by rw [join_r (d.sym a o e)]; exact e)
theorem Ex.join {A B H : Hp} (h : Ex A H) (k : Ex B H) : Ex (join A B) H := fun a o e => by
  rcases join_some e with q | ⟨_, q⟩
  · exact h a o q
  · exact k a o q
theorem one_same {p : Addr} {o : HO} : one p o p = some o := upd_same
theorem one_some {p a : Addr} {o u : HO} (h : one p o a = some u) : a = p ∧ u = o := by
  unfold one upd emp at h
  by_cases e : a = p
  · rw [if_pos e] at h; exact ⟨e, (Option.some.inj h).symm⟩
  · rw [if_neg e] at h; cases h
theorem one_ne {p a : Addr} {o : HO} (h : a ≠ p) : one p o a = none := by
  unfold one; rw [upd_ne h]; rfl
/-! ### frozen data -/
/-- an exception, tracked -/
def exO (a : Addr) (cls : Value) (d : Option Addr) : HO := .ext fun h => ∃ oe, h.get? a = some oe ∧ Zc cls d oe ∧ ∃ vs, oe.data = .fields vs
inductive D where
  | non | bl (b : Bool) | int (i : Int) | str (x : Str) | adr (a : Addr) | ty (n : String)
  | lst (ds : List D) | tup (ds : List D) | ins (C : Addr) (fs : List (Str × D)) | scr (ds : List D) | dK (kvs : List (Key × D)) | dT (kvs : List (List Key × D)) | exc (C : Addr) (fs : List (Str × D)) | kt (k : List Key)

mutual
inductive Fd (K : PySem.W.Frag) (F : Hp) : V → D → Prop
  | non : Fd K F .non .non
  | bl (b : Bool) : Fd K F (.bl b) (.bl b)
  | int (i : Int) : Fd K F (.int i) (.int i)
  | str (x : Str) : Fd K F (.str x) (.str x)
  | adr (a : Addr) : Fd K F (.ref a) (.adr a)
  | ty (n : String) : Fd K F (.ty n) (.ty n)
  | lst {a : Addr} {vs : List V} {ds : List D} : F a = some (.lst vs) → FdAll K F vs ds → Fd K F (.ref a) (.lst ds)
  | tup {a : Addr} {vs : List V} {ds : List D} : SqT K F a vs → FdAll K F vs ds → Fd K F (.ref a) (.tup ds)
  | ins {a C dx : Addr} {vs : List (Str × V)} {fs : List (Str × D)} : F a = some (.ins C dx vs) → FdFs K F vs fs → Fd K F (.ref a) (.ins C fs)
  | scr {a : Addr} {vs : List V} {ds : List D} : SqL K F a vs → FdAll K F vs ds → Fd K F (.ref a) (.scr ds)
  | dK {a : Addr} {vs : List (Key × V)} {kvs : List (Key × D)} : F a = some (.dK vs) → FdFs K F vs kvs → Fd K F (.ref a) (.dK kvs)
  | dT {a : Addr} {vs : List (List Key × V)} {kvs : List (List Key × D)} : F a = some (.dT vs) → FdFs K F vs kvs → Fd K F (.ref a) (.dT kvs)
  | exc {a C : Addr} {vs : List (Str × V)} {fs : List (Str × D)} {d : Option Addr} : F a = some (exO a (.ref C) d) → (d = none ∧ vs = [] ∨ ∃ dx, d = some dx ∧ F dx = some (.xd vs)) → FdFs K F vs fs → Fd K F (.ref a) (.exc C fs)
  | kt {a : Addr} {k : List Key} : F a = some (.tup (k.map kV)) → Fd K F (.ref a) (.kt k)
inductive FdAll (K : PySem.W.Frag) (F : Hp) : List V → List D → Prop
  | nil : FdAll K F [] []
  | cons {v : V} {vs : List V} {d : D} {ds : List D} : Fd K F v d → FdAll K F vs ds → FdAll K F (v :: vs) (d :: ds)
inductive FdFs (K : PySem.W.Frag) (F : Hp) : {κ : Type} → List (κ × V) → List (κ × D) → Prop
  | nil {κ : Type} : FdFs K F (κ := κ) [] []
  | cons {κ : Type} {n : κ} {v : V} {vs : List (κ × V)} {d : D} {ds : List (κ × D)} : Fd K F v d → FdFs K F vs ds → FdFs K F ((n, v) :: vs) ((n, d) :: ds)
end

section
variable {K : PySem.W.Frag} {F F' : Hp}
mutual
theorem Fd.go (e : Ex F F') : ∀ {v : V} {d : D}, Fd K F v d → Fd K F' v d
  | _, _, .non => .non
  | _, _, .bl _ => .bl _
  | _, _, .int _ => .int _
  | _, _, .str _ => .str _
  | _, _, .adr _ => .adr _
  | _, _, .ty _ => .ty _
  | _, _, .lst s a => .lst (e _ _ s) (FdAll.go e a)
  | _, _, .tup s a => .tup (ex_t e s) (FdAll.go e a)
  | _, _, .ins s a => .ins (e _ _ s) (FdFs.go e a)
  | _, _, .scr s a => .scr (ex_l e s) (FdAll.go e a)
  | _, _, .dK s a => .dK (e _ _ s) (FdFs.go e a)
  | _, _, .dT s a => .dT (e _ _ s) (FdFs.go e a)
  | _, _, .exc s q a => .exc (e _ _ s) (q.imp id fun ⟨dx, h1, h2⟩ => ⟨dx, h1, e _ _ h2⟩) (FdFs.go e a)
  | _, _, .kt s => .kt (e _ _ s)
theorem FdAll.go (e : Ex F F') : ∀ {vs : List V} {ds : List D}, FdAll K F vs ds → FdAll K F' vs ds
  | _, _, .nil => .nil
  | _, _, .cons a b => .cons (Fd.go e a) (FdAll.go e b)
theorem FdFs.go (e : Ex F F') : ∀ {κ : Type} {vs : List (κ × V)} {ds : List (κ × D)}, FdFs K F vs ds → FdFs K F' vs ds
  | _, _, _, .nil => .nil
  | _, _, _, .cons a b => .cons (Fd.go e a) (FdFs.go e b)
end
theorem Fd.mono (e : Ex F F') (d : D) {v : V} (h : Fd K F v d) : Fd K F' v d := Fd.go e h
theorem FdAll.mono (e : Ex F F') (ds : List D) {vs : List V} (h : FdAll K F vs ds) : FdAll K F' vs ds := FdAll.go e h
theorem FdFs.mono {κ : Type} (e : Ex F F') (ds : List (κ × D)) {vs : List (κ × V)} (h : FdFs K F vs ds) : FdFs K F' vs ds := FdFs.go e h
theorem FdAll.length : ∀ {vs : List V} {ds : List D}, FdAll K F vs ds → vs.length = ds.length
  | _, _, .nil => rfl
  | _, _, .cons _ t => by rw [List.length_cons, List.length_cons, FdAll.length t]
theorem FdAll.get : ∀ {vs : List V} {ds : List D} {i : Nat} {d : D}, FdAll K F vs ds → ds[i]? = some d → ∃ v, vs[i]? = some v ∧ Fd K F v d
  | _, _, i, _, .nil, e => by simp at e
  | _, _, 0, _, .cons h _, e => by simp at e; subst e; exact ⟨_, rfl, h⟩
  | _, _, i + 1, _, .cons _ t, e => by
    obtain ⟨v, h1, h2⟩ := FdAll.get (i := i) t (by simpa using e)
    exact ⟨v, by simpa using h1, h2⟩
theorem FdAll.app : ∀ {vs ws : List V} {ds es : List D}, FdAll K F vs ds → FdAll K F ws es → FdAll K F (vs ++ ws) (ds ++ es)
  | _, _, _, _, .nil, h => h
  | _, _, _, _, .cons h t, k => .cons h (FdAll.app t k)
theorem FdAll.take : ∀ {vs : List V} {ds : List D} (n : Nat), FdAll K F vs ds → FdAll K F (vs.take n) (ds.take n)
  | _, _, 0, _ => by simp; exact .nil
  | _, _, _ + 1, .nil => by simp; exact .nil
  | _, _, n + 1, .cons h t => .cons h (FdAll.take n t)
theorem FdAll.drop : ∀ {vs : List V} {ds : List D} (n : Nat), FdAll K F vs ds → FdAll K F (vs.drop n) (ds.drop n)
  | _, _, 0, h => h
  | _, _, _ + 1, .nil => by simp; exact .nil
  | _, _, n + 1, .cons _ t => FdAll.drop n t
theorem FdAll.set : ∀ {vs : List V} {ds : List D} (n : Nat) {v : V} {d : D}, FdAll K F vs ds → Fd K F v d → FdAll K F (vs.set n v) (ds.set n d)
  | _, _, _, _, _, .nil, _ => .nil
  | _, _, 0, _, _, .cons _ t, k => .cons k t
  | _, _, n + 1, _, _, .cons h t, k => .cons h (FdAll.set n t k)
theorem FdAll.replicate {v : V} {d : D} (h : Fd K F v d) : ∀ n, FdAll K F (List.replicate n v) (List.replicate n d)
  | 0 => .nil
  | n + 1 => .cons h (FdAll.replicate h n)
theorem FdFs.names {κ : Type} : ∀ {vs : List (κ × V)} {ds : List (κ × D)}, FdFs K F vs ds → vs.map (·.1) = ds.map (·.1)
  | _, _, .nil => rfl
  | _, _, .cons _ t => by rw [List.map_cons, List.map_cons, FdFs.names t]
theorem FdFs.length {κ : Type} {vs : List (κ × V)} {ds : List (κ × D)} (h : FdFs K F vs ds) : vs.length = ds.length := by
  have e := congrArg List.length h.names
  rw [List.length_map, List.length_map] at e
  exact e
theorem FdFs.look {f : Str} {d : D} : ∀ {vs : List (Str × V)} {ds : List (Str × D)}, FdFs K F vs ds → ds.lookup f = some d → ∃ v, vs.lookup f = some v ∧ Fd K F v d
  | _, _, .nil, e => by simp at e
  | _, _, .cons (n := n) h t, e => by
    rw [List.lookup_cons] at e ⊢
    cases q : (f == n) with
    | true => rw [q] at e; cases e; exact ⟨_, rfl, h⟩
    | false => rw [q] at e; exact FdFs.look t e
theorem FdFs.nolook {f : Str} : ∀ {vs : List (Str × V)} {ds : List (Str × D)}, FdFs K F vs ds → ds.lookup f = none → vs.lookup f = none
  | _, _, .nil, _ => rfl
  | _, _, .cons (n := n) h t, e => by
    rw [List.lookup_cons] at e ⊢
    cases q : (f == n) with
    | true => rw [q] at e; cases e
    | false => rw [q] at e; exact FdFs.nolook t e
def putD (f : Str) (d : D) : List (Str × D) → List (Str × D)
  | [] => [(f, d)]
  | (g, x) :: r => if g = f then (g, d) :: r else (g, x) :: putD f d r
theorem FdFs.put {f : Str} {v : V} {d : D} (k : Fd K F v d) : ∀ {vs : List (Str × V)} {ds : List (Str × D)}, FdFs K F vs ds → FdFs K F (putF f v vs) (putD f d ds)
  | _, _, .nil => .cons k .nil
  | _, _, .cons (n := n) h t => by
    unfold putF putD
    by_cases e : n = f
    · rw [if_pos e, if_pos e]; exact .cons k t
    · rw [if_neg e, if_neg e]; exact .cons h (FdFs.put k t)
theorem FdAll.ints : ∀ {vs : List V} {ns : List Int}, FdAll K F vs (ns.map D.int) → vs = ns.map V.int
  | _, [], h => by cases h; rfl
  | _, n :: ns, h => by cases h with | cons a b => cases a; rw [List.map_cons, FdAll.ints b]
theorem FdAll.bls : ∀ {vs : List V} {ns : List Bool}, FdAll K F vs (ns.map D.bl) → vs = ns.map V.bl
  | _, [], h => by cases h; rfl
  | _, n :: ns, h => by cases h with | cons a b => cases a; rw [List.map_cons, FdAll.bls b]
theorem FdAll.ofInts : ∀ (ns : List Int), FdAll K F (ns.map V.int) (ns.map D.int)
  | [] => .nil
  | n :: ns => .cons (.int n) (FdAll.ofInts ns)
end

/-! ### owned cells -/
structure Res where
  P : Hp → Hp → Prop
  mono : ∀ {F F' M : Hp}, Ex F F' → P F M → P F' M
  nt : ∀ {F M : Hp}, P F M → ∀ x xs, M x ≠ some (.tup xs)
def Rs : List Res → Hp → Hp → Prop
  | [], _, M => M = emp
  | r :: l, F, M => ∃ A B, M = join A B ∧ Dj A B ∧ r.P F A ∧ Rs l F B
theorem Rs.mono {F F' : Hp} (e : Ex F F') : ∀ {l : List Res} {M : Hp}, Rs l F M → Rs l F' M
  | [], _, h => h
  | r :: l, _, ⟨A, B, h1, h2, h3, h4⟩ => ⟨A, B, h1, h2, r.mono e h3, Rs.mono e h4⟩
theorem Rs.nt {F : Hp} : ∀ {l : List Res} {M : Hp}, Rs l F M → ∀ x xs, M x ≠ some (.tup xs)
  | [], M, h, x, xs, e => by
    have h : M = emp := h
    subst h; cases e
  | r :: l, M, ⟨A, B, h1, _, h3, h4⟩, x, xs, e => by
    subst h1
    rcases join_some e with q | ⟨_, q⟩
    · exact r.nt h3 x xs q
    · exact Rs.nt h4 x xs q
theorem Rs.split {F : Hp} : ∀ {l k : List Res} {M : Hp}, Rs (l ++ k) F M → ∃ A B, M = join A B ∧ Dj A B ∧ Rs l F A ∧ Rs k F B
  | [], _, M, h => ⟨emp, M, (emp_join M).symm, (Dj.emp M).sym, rfl, h⟩
  | r :: l, k, M, ⟨A, B, h1, h2, h3, h4⟩ => by
    obtain ⟨A', B', g1, g2, g3, g4⟩ := Rs.split h4
    subst g1
    refine ⟨join A A', B', by rw [h1, join_assoc], ?_, ⟨A, A', rfl, (Dj.l h2.sym).sym, h3, g3⟩, g4⟩
    exact Dj.joinL ((Dj.r g2 h2.sym).sym) g2
theorem Rs.app {F : Hp} : ∀ {l k : List Res} {A B : Hp}, Rs l F A → Rs k F B → Dj A B → Rs (l ++ k) F (join A B)
  | [], _, _, _, h, g, _ => by
    have e : _ = emp := h
    subst e
    rw [emp_join]; exact g
  | r :: l, k, _, B, ⟨A1, A2, h1, h2, h3, h4⟩, g, d => by
    subst h1
    rw [join_assoc]
    refine ⟨A1, join A2 B, rfl, ?_, h3, Rs.app h4 g (Dj.r h2 d)⟩
    exact (Dj.joinL h2.sym (Dj.l d).sym).sym
/-- the k-th one apart -/
theorem Rs.at {F : Hp} : ∀ {l : List Res} {k : Nat} {r : Res} {M : Hp}, l[k]? = some r → Rs l F M → ∃ A B, M = join A B ∧ Dj A B ∧ r.P F A ∧ ∀ r' A' F', Ex F F' → r'.P F' A' → Dj A' B → Rs (l.set k r') F' (join A' B)
  | [], k, r, M, e, _ => by simp at e
  | r0 :: l, 0, r, M, e, ⟨A, B, h1, h2, h3, h4⟩ => by
    simp at e; subst e
    exact ⟨A, B, h1, h2, h3, fun r' A' F' x p d => ⟨A', B, rfl, d, p, Rs.mono x h4⟩⟩
  | r0 :: l, k + 1, r, M, e, ⟨A, B, h1, h2, h3, h4⟩ => by
    obtain ⟨A2, B2, g1, g2, g3, g4⟩ := Rs.at (k := k) (r := r) (by simpa using e) h4
    subst g1
    refine ⟨A2, join A B2, ?_, ?_, g3, fun r' A' F' x p d => ?_⟩
    · rw [h1, ← join_assoc, ← join_assoc, (Dj.l h2.sym).comm]
    · exact (Dj.joinL (Dj.l h2.sym).sym g2.sym).sym
    · rw [List.set_cons_succ]
      have dA : Dj A A' := Dj.l d.sym
      have dAB : Dj A B2 := (Dj.r g2 h2.sym).sym
      have dB : Dj A' B2 := (Dj.r dAB d.sym).sym
      refine ⟨A, join A' B2, ?_, ?_, r0.mono x h3, g4 r' A' F' x p dB⟩
      · rw [← join_assoc, ← join_assoc, dA.comm]
      · exact (Dj.joinL dA.sym dAB.sym).sym

/-! ### states -/
structure Tm where
  P : Hp → Prop
  mono : ∀ {F F' : Hp}, Ex F F' → P F → P F'
def Tm.tt : Tm := ⟨fun _ => True, fun _ _ => trivial⟩
def Tm.and (K : PySem.W.Frag) (T : Tm) (v : V) (d : D) : Tm := ⟨fun F => Fd K F v d ∧ T.P F, fun e h => ⟨Fd.mono e d h.1, T.mono e h.2⟩⟩
def Tm.ands (K : PySem.W.Frag) (T : Tm) (vs : List V) (ds : List D) : Tm := ⟨fun F => FdAll K F vs ds ∧ T.P F, fun e h => ⟨FdAll.mono e ds h.1, T.mono e h.2⟩⟩
def Tm.ex (T : Tm) (F0 : Hp) : Tm := ⟨fun F => Ex F0 F ∧ T.P F, fun e h => ⟨h.1.tr e, T.mono e h.2⟩⟩
abbrev Gm := List (Option D)
def nth : Gm → Nat → Option D
  | [], _ => none
  | d :: _, 0 => d
  | _ :: r, i + 1 => nth r i
inductive Sl (K : PySem.W.Frag) (F : Hp) : Gm → St → Prop
  | nil : Sl K F [] []
  | any {o : Option V} {g : Gm} {σ : St} : Sl K F g σ → Sl K F (none :: g) (o :: σ)
  | cons {v : V} {d : D} {g : Gm} {σ : St} : Fd K F v d → Sl K F g σ → Sl K F (some d :: g) (some v :: σ)
section
variable {K : PySem.W.Frag} {F F' : Hp}
theorem Sl.mono (e : Ex F F') : ∀ {g : Gm} {σ : St}, Sl K F g σ → Sl K F' g σ
  | _, _, .nil => .nil
  | _, _, .any h => .any (Sl.mono e h)
  | _, _, .cons a h => .cons (Fd.mono e _ a) (Sl.mono e h)
theorem Sl.nth : ∀ {g : Gm} {σ : St} {i : Nat} {d : D}, Sl K F g σ → Sx.nth g i = some d → ∃ v, σ[i]? = some (some v) ∧ Fd K F v d
  | _, _, _, _, .nil, e => by cases e
  | _, _, 0, _, .any _, e => by cases e
  | _, _, i + 1, d, .any h, e => by
    obtain ⟨v, h1, h2⟩ := Sl.nth (i := i) (d := d) h e
    exact ⟨v, by simpa using h1, h2⟩
  | _, _, 0, _, .cons a _, e => by cases e; exact ⟨_, rfl, a⟩
  | _, _, i + 1, d, .cons _ h, e => by
    obtain ⟨v, h1, h2⟩ := Sl.nth (i := i) (d := d) h e
    exact ⟨v, by simpa using h1, h2⟩
theorem Sl.set : ∀ {g : Gm} {σ : St} (i : Nat) {v : V} {d : D}, Sl K F g σ → Fd K F v d → Sl K F (g.set i (some d)) (σ.set i (some v))
  | _, _, _, _, _, .nil, _ => .nil
  | _, _, 0, _, _, .any h, k => .cons k h
  | _, _, i + 1, _, _, .any h, k => .any (Sl.set i h k)
  | _, _, 0, _, _, .cons _ h, k => .cons k h
  | _, _, i + 1, _, _, .cons a h, k => .cons a (Sl.set i h k)
theorem Sl.clear : ∀ {g : Gm} {σ : St} (i : Nat) {o : Option V}, Sl K F g σ → Sl K F (g.set i none) (σ.set i o)
  | _, _, _, _, .nil => .nil
  | _, _, 0, _, .any h => .any h
  | _, _, i + 1, _, .any h => .any (Sl.clear i h)
  | _, _, 0, _, .cons _ h => .any h
  | _, _, i + 1, _, .cons a h => .cons a (Sl.clear i h)
/-- forgetting -/
inductive Wk : Gm → Gm → Prop
  | nil : Wk [] []
  | any {o : Option D} {g g' : Gm} : Wk g g' → Wk (o :: g) (none :: g')
  | keep {o : Option D} {g g' : Gm} : Wk g g' → Wk (o :: g) (o :: g')
theorem Wk.rf : ∀ {g : Gm}, Wk g g
  | [] => .nil
  | _ :: _ => .keep Wk.rf
theorem Sl.weak : ∀ {g g' : Gm} {σ : St}, Wk g g' → Sl K F g σ → Sl K F g' σ
  | _, _, _, .nil, h => h
  | _, _, _, .any w, .any h => .any (Sl.weak w h)
  | _, _, _, .any w, .cons _ h => .any (Sl.weak w h)
  | _, _, _, .keep w, .any h => .any (Sl.weak w h)
  | _, _, _, .keep w, .cons a h => .cons a (Sl.weak w h)
theorem Sl.len : ∀ {g : Gm} {σ : St}, Sl K F g σ → g.length = σ.length
  | _, _, .nil => rfl
  | _, _, .any h => by rw [List.length_cons, List.length_cons, Sl.len h]
  | _, _, .cons _ h => by rw [List.length_cons, List.length_cons, Sl.len h]
theorem Sl.nones : ∀ n, Sl K F (List.replicate n none) (List.replicate n none)
  | 0 => .nil
  | n + 1 => .any (Sl.nones n)
theorem Sl.args : ∀ {vs : List V} {ds : List D} (n : Nat), FdAll K F vs ds → Sl K F (ds.map some ++ List.replicate n none) (vs.map some ++ List.replicate n none)
  | _, _, n, .nil => Sl.nones n
  | _, _, n, .cons a h => .cons a (Sl.args n h)
end
/-- a def's entry: what was frozen, what was owned, the heap -/
structure En where
  F : Hp
  M : Hp
  H : Hp
structure At (K : PySem.W.Frag) (e : En) (g : Gm) (T : Tm) (l : List Res) (σ : St) (H F M : Hp) : Prop where
  exF : Ex F H
  exM : Ex M H
  dj : Dj F M
  eF : Ex e.F F
  nF : ∀ a o, F a = some o → e.F a = some o ∨ e.H a = none ∨ (∃ u, e.M a = some u) ∨ ∃ xs, o = .tup xs
  nM : ∀ a o, M a = some o → e.H a = none ∨ ∃ u, e.M a = some u
  fr : ∀ a o, e.H a = some o → e.M a = none → H a = some o
  sl : Sl K F g σ
  tm : T.P F
  rs : Rs l F M
def S (K : PySem.W.Frag) (e : En) (g : Gm) (T : Tm) (l : List Res) (σ : St) (H : Hp) : Prop := ∃ F M, At K e g T l σ H F M
/-- something new is frozen -/
structure New (F H F' H' : Hp) : Prop where
  f : Ex F F'
  h : Ex H H'
  i : Ex F' H'
  n : ∀ a o, F' a = some o → F a = some o ∨ H a = none ∨ ∃ xs, o = .tup xs
theorem New.rf {F H : Hp} (e : Ex F H) : New F H F H := ⟨.rf, .rf, e, fun _ _ h => .inl h⟩
theorem New.tr {F H F1 H1 F2 H2 : Hp} (a : New F H F1 H1) (b : New F1 H1 F2 H2) : New F H F2 H2 :=
  ⟨a.f.tr b.f, a.h.tr b.h, b.i, fun x o h => by
    rcases b.n x o h with q | q | q
    · exact a.n x o q
    · exact .inr (.inl (a.h.free q))
    · exact .inr (.inr q)⟩
theorem New.upd {F H : Hp} {p : Addr} {o : HO} (e : Ex F H) (h : H p = none) : New F H (upd F p o) (L2.upd H p o) :=
  ⟨.new (e.free h), .new h, e.upd2, fun a u q => by
    by_cases z : a = p
    · subst z; exact .inr (.inl h)
    · rw [upd_ne z] at q; exact .inl q⟩
section
variable {K : PySem.W.Frag} {e : En} {g g' : Gm} {T T' : Tm} {l l' : List Res} {σ σ' : St} {H H' F F' M M' : Hp}
theorem At.new (a : At K e g T l σ H F M) (n : New F H F' H') : At K e g T l σ H' F' M :=
  ⟨n.i, a.exM.tr n.h, fun x o h => by
    rcases n.n x o h with q | q | ⟨xs, q⟩
    · exact a.dj x o q
    · exact a.exM.free q
    · cases z : M x with
      | none => rfl
      | some u =>
        have e1 := n.h x u (a.exM x u z)
        rw [n.i x o h] at e1
        cases e1
        exact absurd (q ▸ z) (a.rs.nt x xs),
   a.eF.tr n.f, fun x o h => by
    rcases n.n x o h with q | q | q
    · exact a.nF x o q
    · by_cases z : e.M x = none
      · right; left
        cases w : e.H x with
        | none => rfl
        | some u => rw [a.fr x u w z] at q; cases q
      · right; right; left
        cases w : e.M x with
        | none => exact absurd w z
        | some u => exact ⟨u, rfl⟩
    · exact .inr (.inr (.inr q)),
   a.nM, fun x o h1 h2 => n.h x o (a.fr x o h1 h2), a.sl.mono n.f, T.mono n.f a.tm, a.rs.mono n.f⟩
theorem At.tmp (a : At K e g T l σ H F M) (h : T'.P F) : At K e g T' l σ H F M := ⟨a.exF, a.exM, a.dj, a.eF, a.nF, a.nM, a.fr, a.sl, h, a.rs⟩
theorem At.slots (a : At K e g T l σ H F M) (h : Sl K F g' σ') : At K e g' T l σ' H F M := ⟨a.exF, a.exM, a.dj, a.eF, a.nF, a.nM, a.fr, h, a.tm, a.rs⟩
theorem At.entry (ef : Ex F H) (em : Ex M H) (d : Dj F M) (s : Sl K F g σ) (t : T.P F) (r : Rs l F M) : At K ⟨F, M, H⟩ g T l σ H F M :=
  ⟨ef, em, d, .rf, fun _ _ h => .inl h, fun _ o h => .inr ⟨o, h⟩, fun _ _ h _ => h, s, t, r⟩
/-- a part of the state apart: what runs on F, A (of M = join A B) gives back the whole -/
theorem At.frame {A B : Hp} {lA lB : List Res} (a : At K e g T l σ H F (join A B)) (d : Dj A B) (rB : Rs lB F B) {g2 : Gm} {σ2 : St} {T2 : Tm} {F2 M2 : Hp} (b : At K ⟨F, A, H⟩ g2 T2 lA σ2 H' F2 M2) :
    At K e g T (lA ++ lB) σ H' F2 (join M2 B) := by
  have eB : Ex B H' := fun x o h => b.fr x o (a.exM x o (by rw [join_r (d.sym x o h)]; exact h)) (d.sym x o h)
  have dB : Dj M2 B := fun x o h => by
    cases q : B x with
    | none => rfl
    | some u =>
      rcases b.nM x o h with z | ⟨w, z⟩
      · have := a.exM x u (by rw [join_r (d.sym x u q)]; exact q)
        rw [show H x = none from z] at this; cases this
      · rw [d x w z] at q; cases q
  refine ⟨b.exF, b.exM.join eB, ?_, a.eF.tr b.eF, ?_, ?_, ?_, a.sl.mono b.eF, T.mono b.eF a.tm, Rs.app b.rs (rB.mono b.eF) dB⟩
  · intro x o h
    cases q : join M2 B x with
    | none => rfl
    | some u =>
      rcases join_some q with z | ⟨_, z⟩
      · rw [b.dj x o h] at z; cases z
      · rcases b.nF x o h with w | w | ⟨w, y⟩ | ⟨xs, w⟩
        · have := a.dj x o w
          rw [join_r (d.sym x u z), z] at this; cases this
        · have := a.exM x u (by rw [join_r (d.sym x u z)]; exact z)
          rw [show H x = none from w] at this; cases this
        · rw [d x w y] at z; cases z
        · have e1 := eB x u z
          rw [b.exF x o h] at e1
          cases e1
          exact absurd (join_r (A := A) (d.sym x o z) ▸ w ▸ z) (a.rs.nt x xs)
  · intro x o h
    rcases b.nF x o h with w | w | ⟨w, y⟩ | w
    · exact a.nF x o w
    · cases q : e.H x with
      | none => exact .inr (.inl rfl)
      | some u =>
        cases z : e.M x with
        | some y => exact .inr (.inr (.inl ⟨y, rfl⟩))
        | none =>
          have w' : H x = none := w
          rw [a.fr x u q z] at w'; cases w'
    · rcases a.nM x w (join_l y) with q | q
      · exact .inr (.inl q)
      · exact .inr (.inr (.inl q))
    · exact .inr (.inr (.inr w))
  · intro x o h
    rcases join_some h with z | ⟨_, z⟩
    · rcases b.nM x o z with w | ⟨w, y⟩
      · cases q : e.H x with
        | none => exact .inl rfl
        | some u =>
          cases k : e.M x with
          | some y => exact .inr ⟨y, rfl⟩
          | none =>
            have w' : H x = none := w
            rw [a.fr x u q k] at w'; cases w'
      · exact a.nM x w (join_l y)
    · exact a.nM x o (by rw [join_r (d.sym x o z)]; exact z)
  · intro x o h1 h2
    refine b.fr x o (a.fr x o h1 h2) ?_
    show A x = none
    cases q : A x with
    | none => rfl
    | some u =>
      rcases a.nM x u (join_l q) with z | ⟨w, z⟩
      · rw [h1] at z; cases z
      · rw [h2] at z; cases z
/-- the k-th one first -/
theorem perm_at {r : Res} : ∀ {l : List Res} {k : Nat}, l[k]? = some r → l.Perm (r :: l.eraseIdx k)
  | [], _, h => by simp at h
  | a :: l, 0, h => by simp at h; subst h; exact .refl _
  | a :: l, k + 1, h => by
    have ih := perm_at (l := l) (k := k) (by simpa using h)
    rw [List.eraseIdx_cons_succ]
    exact (ih.cons a).trans (.swap _ _ _)
/-- lk is a part of l -/
def SubR (l lk : List Res) : Prop := ∃ junk, l.Perm (lk ++ junk)
theorem subr0 {l : List Res} : SubR l [] := ⟨l, .refl _⟩
theorem subr1 {l : List Res} {r : Res} (k : Nat) (h : l[k]? = some r) : SubR l [r] := ⟨l.eraseIdx k, perm_at h⟩
theorem subr2 {l : List Res} {r r2 : Res} (k k2 : Nat) (h : l[k]? = some r) (h2 : (l.eraseIdx k)[k2]? = some r2) : SubR l [r, r2] := ⟨(l.eraseIdx k).eraseIdx k2, (perm_at h).trans ((perm_at h2).cons r)⟩
theorem Rs.permA {F : Hp} : ∀ {l k : List Res}, l.Perm k → ∀ {M : Hp}, Rs l F M → Rs k F M := by
  intro l k h
  induction h with
  | nil => exact fun h => h
  | cons x _ ih => exact fun ⟨A, B, h1, h2, h3, h4⟩ => ⟨A, B, h1, h2, h3, ih h4⟩
  | swap x y l =>
    rintro M ⟨A, B, h1, h2, h3, ⟨A', B', g1, g2, g3, g4⟩⟩
    subst g1; subst h1
    have dAA : Dj A A' := (Dj.l h2.sym).sym
    have dAB : Dj A B' := (Dj.r g2 h2.sym).sym
    exact ⟨A', join A B', by rw [← join_assoc, ← join_assoc, dAA.comm], (Dj.joinL dAA g2.sym).sym, g3, A, B', rfl, dAB, h3, g4⟩
  | trans _ _ h1 h2 => exact fun h => h2 (h1 h)
theorem Rs.sub {F M H : Hp} {l lk : List Res} (s : SubR l lk) (h : Rs l F M) (e : Ex M H) : ∃ M', Rs lk F M' ∧ Ex M' H := by
  obtain ⟨junk, p⟩ := s
  obtain ⟨A, B, rfl, _, h1, _⟩ := Rs.split (Rs.permA p h)
  exact ⟨A, h1, fun x o q => e x o (join_l q)⟩
theorem S.weak (s : S K e g T l σ H) (w : Wk g g') : S K e g' T l σ H := let ⟨F, M, a⟩ := s; ⟨F, M, a.slots (a.sl.weak w)⟩
end
end Sx
set_option Elab.async false
set_option linter.all false
set_option maxRecDepth 100000
set_option maxHeartbeats 2000000
/-! Judgements: expressions, tests, arguments, blocks over states. -/
namespace Sx
open PySem L2

/-! ### the weakest readings -/
def wpE (X : Cx) (e : Expr) : TE := fun σ H Q => ∀ pins s, Inv X pins σ H s → wpAny (model X.prog X.w) X.A (eval e X.env) (EP X pins σ Q) X.xe s
def wpT (X : Cx) (e : Expr) : TT := fun σ H Q => ∀ pins s, Inv X pins σ H s → wpAny (model X.prog X.w) X.A (isTrue e X.env (eval e X.env)) (TP X pins σ Q) X.xe s
def wpW (X : Cx) (e : Expr) : TT := fun σ H Q => ∀ whole pins s, Inv X pins σ H s → wpAny (model X.prog X.w) X.A (isTrue e X.env whole) (TP X pins σ Q) X.xe s
def wpA (X : Cx) (es : List Expr) : TA := fun σ H Q => ∀ pos pins s, Inv X pins σ H s → wpAny (model X.prog X.w) X.A (spliced (backTo pos (starEach es X.env))) (AP X pins σ Q) X.xe s
def wpS (X : Cx) (sts : List Stmt) : TS := fun D σ H => ∀ pins s, Inv X pins σ H s → wpAny (model X.prog X.w) X.A (execs sts X.env) (SP X pins D) X.xe s
section
variable {X : Cx} {σ : L2.St} {H : Hp}
theorem pe_wp {e : Expr} : PE X e (wpE X e) := ⟨fun pins s _ _ _ I h => h pins s I⟩
theorem pt_wp {e : Expr} : PT X e (wpT X e) := ⟨fun pins s _ _ _ I h => h pins s I⟩
theorem pw_wp {e : Expr} : PW X e (wpW X e) := ⟨fun whole pins s _ _ _ I h => h whole pins s I⟩
theorem pa_wp {es : List Expr} : PA X es (wpA X es) := ⟨fun pos pins s _ _ _ I h => h pos pins s I⟩
theorem pss_wp {sts : List Stmt} : PSs X sts (wpS X sts) := ⟨fun pins s _ _ _ I h => h pins s I⟩
theorem wpE_of {e : Expr} {t : TE} {Q : VK} (h : PE X e t) (q : t σ H Q) : wpE X e σ H Q := fun pins s I => h.run pins s σ H Q I q
theorem wpT_of {e : Expr} {t : TT} {Q : Bool → Hp → Prop} (h : PT X e t) (q : t σ H Q) : wpT X e σ H Q := fun pins s I => h.run pins s σ H Q I q
theorem wpW_of {e : Expr} {t : TT} {Q : Bool → Hp → Prop} (h : PW X e t) (q : t σ H Q) : wpW X e σ H Q := fun whole pins s I => h.run whole pins s σ H Q I q
theorem wpA_of {es : List Expr} {t : TA} {Q : List V → Hp → Prop} (h : PA X es t) (q : t σ H Q) : wpA X es σ H Q := fun pos pins s I => h.run pos pins s σ H Q I q
theorem wpS_of {sts : List Stmt} {t : TS} {D : Ends} (h : PSs X sts t) (q : t D σ H) : wpS X sts D σ H := fun pins s I => h.run pins s σ H D I q
end

/-! ### judgements -/
/-- e evaluates to the datum d, changing nothing that is owned -/
def Px (X : Cx) (e : Expr) (g : Gm) (l : List Res) (d : D) : Prop := ∀ en T σ H (Q : VK), S X.K en g T l σ H → (∀ v H', S X.K en g (T.and X.K v d) l σ H' → Q v H') → wpE X e σ H Q
/-- e evaluates to one of the data that Psi tells, with what is owned then -/
def Ev (X : Cx) (e : Expr) (g : Gm) (l : List Res) (Psi : D → List Res → Prop) : Prop := ∀ en T σ H (Q : VK), S X.K en g T l σ H → (∀ v d l' H', Psi d l' → S X.K en g (T.and X.K v d) l' σ H' → Q v H') → wpE X e σ H Q
def Pa (X : Cx) (es : List Expr) (g : Gm) (l : List Res) (ds : List D) : Prop := ∀ en T σ H (Q : List V → Hp → Prop), S X.K en g T l σ H → (∀ vs H', S X.K en g (T.ands X.K vs ds) l σ H' → Q vs H') → wpA X es σ H Q
def Ts (X : Cx) (e : Expr) (g : Gm) (l : List Res) (b : Bool) : Prop := ∀ en T σ H (Q : Bool → Hp → Prop), S X.K en g T l σ H → (∀ H', S X.K en g T l σ H' → Q b H') → wpT X e σ H Q
def Tw (X : Cx) (e : Expr) (g : Gm) (l : List Res) (b : Bool) : Prop := ∀ en T σ H (Q : Bool → Hp → Prop), S X.K en g T l σ H → (∀ H', S X.K en g T l σ H' → Q b H') → wpW X e σ H Q
/-- operations on values -/
def Op1 (K : PySem.W.Frag) (l : List Res) (r : V → Hp → VK → Prop) (a d : D) : Prop := ∀ F M H v (Q : VK), Ex F H → Ex M H → Dj F M → Rs l F M → Fd K F v a → (∀ v F' H', New F H F' H' → Fd K F' v d → Q v H') → r v H Q
def Op2 (K : PySem.W.Frag) (l : List Res) (r : R2) (a b d : D) : Prop := ∀ F M H v u (Q : VK), Ex F H → Ex M H → Dj F M → Rs l F M → Fd K F v a → Fd K F u b → (∀ v F' H', New F H F' H' → Fd K F' v d → Q v H') → r v u H Q
def OpN (K : PySem.W.Frag) (l : List Res) (r : List V → Hp → VK → Prop) (as : List D) (d : D) : Prop := ∀ F M H vs (Q : VK), Ex F H → Ex M H → Dj F M → Rs l F M → FdAll K F vs as → (∀ v F' H', New F H F' H' → Fd K F' v d → Q v H') → r vs H Q
def OpM (K : PySem.W.Frag) (l : List Res) (r : V → List V → Hp → VK → Prop) (a : D) (as : List D) (d : D) : Prop := ∀ F M H v vs (Q : VK), Ex F H → Ex M H → Dj F M → Rs l F M → Fd K F v a → FdAll K F vs as → (∀ v F' H', New F H F' H' → Fd K F' v d → Q v H') → r v vs H Q

/-- what is wanted behind a block -/
structure Po where
  nx : Gm → List Res → Prop
  rt : D → List Res → Prop
  bk : Gm → List Res → Prop := fun _ _ => False
  ct : Gm → List Res → Prop := fun _ _ => False
  ex : Value → Option Addr → Gm → List Res → Prop := fun _ _ _ _ => False
structure Mt (K : PySem.W.Frag) (W : L2.WX) (en : En) (T : Tm) (Φ : Po) (D : Ends) : Prop where
  nx : ∀ g l σ H, Φ.nx g l → S K en g T l σ H → D.nx σ H
  rt : ∀ d l v H, Φ.rt d l → S K en [] (T.and K v d) l [] H → D.rt v H
  bk : ∀ g l σ H, Φ.bk g l → S K en g T l σ H → D.bk σ H
  ct : ∀ g l σ H, Φ.ct g l → S K en g T l σ H → D.ct σ H
  ex : ∀ cls d g l σ H, Φ.ex cls d g l → S K en g T l σ H → W cls d σ H
def Blk (X : Cx) (W : WX) (sts : List Stmt) (g : Gm) (l : List Res) (Φ : Po) : Prop := ∀ en T σ H D, S X.K en g T l σ H → Mt X.K W en T Φ D → wpS X sts D σ H

section
variable {X : Cx} {W : WX} {g g' : Gm} {l l' : List Res} {Φ : Po} {e e2 a b c o : Expr} {es : List Expr} {d d1 d2 d3 : D} {pos p : Pos}

theorem S.drop {K : PySem.W.Frag} {en : En} {T : Tm} {σ : L2.St} {H : Hp} {v : V} {d : D} (s : S K en g (T.and K v d) l σ H) : S K en g T l σ H := let ⟨F, M, a⟩ := s; ⟨F, M, a.tmp a.tm.2⟩
theorem S.slotless {K : PySem.W.Frag} {en : En} {T : Tm} {σ : L2.St} {H : Hp} (s : S K en g T l σ H) : S K en [] T l [] H := let ⟨F, M, a⟩ := s; ⟨F, M, a.slots .nil⟩

/-! ### expressions -/
theorem px_var {i : Nat} (h : PE X e (tVar i)) (hd : nth g i = some d) : Px X e g l d := fun en T σ H Q s k => wpE_of h (by
  obtain ⟨F, M, a⟩ := s
  obtain ⟨v, h1, h2⟩ := a.sl.nth hd
  exact ⟨v, h1, k v H ⟨F, M, a.tmp ⟨h2, a.tm⟩⟩⟩)
theorem px_c {v : V} (h : PE X e (tC v)) (hd : ∀ F, Fd X.K F v d) : Px X e g l d := fun en T σ H Q s k => wpE_of h (by
  obtain ⟨F, M, a⟩ := s
  exact k v H ⟨F, M, a.tmp ⟨hd F, a.tm⟩⟩)
theorem px_int {i : Int} {j} : Px X (.Constant (.int i) j pos) g l (.int i) := px_c pe_int fun _ => .int _
theorem px_bl {b : Bool} {j} : Px X (.Constant (.bool b) j pos) g l (.bl b) := px_c pe_bl fun _ => .bl _
theorem px_non {j} : Px X (.Constant .none j pos) g l .non := px_c pe_non fun _ => .non
theorem px_str {x : Str} {j} : Px X (.Constant (.str x) j pos) g l (.str x) := px_c pe_str fun _ => .str _
theorem Px.to (h : Px X e g l d) (q : d = d1) : Px X e g l d1 := q ▸ h
theorem Px.ev (h : Px X e g l d) : Ev X e g l (fun d' l' => d' = d ∧ l' = l) := fun en T σ H Q s k => h en T σ H Q s fun v H' s' => k v d l H' ⟨rfl, rfl⟩ s'
theorem Ev.imp {Psi Chi : D → List Res → Prop} (h : Ev X e g l Psi) (i : ∀ d l', Psi d l' → Chi d l') : Ev X e g l Chi := fun en T σ H Q s k => h en T σ H Q s fun v d l' H' p s' => k v d l' H' (i _ _ p) s'
theorem Ev.px (h : Ev X e g l (fun d' l' => d' = d ∧ l' = l)) : Px X e g l d := fun en T σ H Q s k => h en T σ H Q s fun v d' l' H' p s' => k v H' (by obtain ⟨rfl, rfl⟩ := p; exact s')
theorem px_1 {r : V → Hp → VK → Prop} (he : PE X e2 (tUn r (wpE X a))) (hr : Op1 X.K l r d1 d) (ha : Px X a g l d1) : Px X e2 g l d := fun en T σ H Q s k => wpE_of he (by
  refine ha en T σ H _ s fun v H1 s1 => ?_
  obtain ⟨F, M, q⟩ := s1
  exact hr F M H1 v Q q.exF q.exM q.dj q.rs q.tm.1 fun u F' H' n f => k u H' ⟨F', M, (q.new n).tmp ⟨f, T.mono n.f q.tm.2⟩⟩)
theorem px_2 {r : R2} (he : PE X e2 (tOp r (wpE X a) (wpE X b))) (hr : Op2 X.K l r d1 d2 d) (ha : Px X a g l d1) (hb : Px X b g l d2) : Px X e2 g l d := fun en T σ H Q s k => wpE_of he (by
  refine ha en T σ H _ s fun v H1 s1 => ?_
  refine hb en _ σ H1 _ s1 fun u H2 s2 => ?_
  obtain ⟨F, M, q⟩ := s2
  exact hr F M H2 v u Q q.exF q.exM q.dj q.rs q.tm.2.1 q.tm.1 fun w F' H' n f => k w H' ⟨F', M, (q.new n).tmp ⟨f, T.mono n.f q.tm.2.2⟩⟩)
theorem px_op {op : Operator} {r : R2} (ho : OpR X (binaryOp op) r) (ha : Px X a g l d1) (hb : Px X b g l d2) (hr : Op2 X.K l r d1 d2 d) : Px X (.BinOp a op b pos) g l d := px_2 (pe_op ho pe_wp pe_wp) hr ha hb
theorem px_un {op : UnaryOp} {r : V → Hp → VK → Prop} (ho : UnR X (unaryOp op) r) (ha : Px X a g l d1) (hr : Op1 X.K l r d1 d) : Px X (.UnaryOp op a pos) g l d := px_1 (pe_un ho pe_wp) hr ha
theorem px_cmp {op : CmpOp} {r : R2} (ho : OpR X (compareOp op) r) (ha : Px X a g l d1) (hb : Px X b g l d2) (hr : Op2 X.K l r d1 d2 d) (hm : behindInMarks op b = false := by first | exact nomark _ | rfl) : Px X (.Compare a [op] [b] pos) g l d := px_2 (pe_cmpR ho pe_wp pe_wp hm) hr ha hb
theorem px_ix {r : R2} (hi : IxR X r) (ha : Px X a g l d1) (hb : Px X b g l d2) (hr : Op2 X.K l r d1 d2 d) (hs : PlainIx b := by intro _ _; rfl) : Px X (.Subscript a b pos) g l d := px_2 (pe_ix hi pe_wp pe_wp hs) hr ha hb
theorem px_chain {op op' : CmpOp} {r r' : R2} {k k' : Bool} (ho : OpR X (compareOp op) r) (ho' : OpR X (compareOp op') r') (ha : Px X a g l d1) (hb : Px X b g l d2) (hr : Op2 X.K l r d1 d2 (.bl k)) (hc : Px X c g l d3) (hr' : k = true → Op2 X.K l r' d2 d3 (.bl k'))
    (hm : lastMarks [op, op'] [b, c] = false := by with_unfolding_all rfl) : Px X (.Compare a [op, op'] [b, c] pos) g l (.bl (k && k')) := fun en T σ H Q s kk => wpE_of (pe_chain ho ho' pe_wp pe_wp pe_wp hm) (by
  refine ha en T σ H _ s fun v H1 s1 => ?_
  refine hb en _ σ H1 _ s1 fun u H2 s2 => ?_
  obtain ⟨F, M, q⟩ := s2
  refine hr F M H2 v u _ q.exF q.exM q.dj q.rs q.tm.2.1 q.tm.1 fun w F' H' n f => ?_
  cases f
  refine ⟨k, rfl, ?_⟩
  have q' := q.new n
  cases k with
  | false => exact kk _ H' ⟨F', M, q'.tmp ⟨.bl _, T.mono n.f q.tm.2.2⟩⟩
  | true =>
    show wpE X c σ H' _
    refine hc en _ σ H' _ ⟨F', M, q'⟩ fun w H3 s3 => ?_
    obtain ⟨F3, M3, q3⟩ := s3
    exact hr' rfl F3 M3 H3 u w Q q3.exF q3.exM q3.dj q3.rs q3.tm.2.1 q3.tm.1 fun w F' H' n f => kk w H' ⟨F', M3, (q3.new n).tmp ⟨f, T.mono n.f q3.tm.2.2.2⟩⟩)
/-- a new list, frozen; a new tuple -/
theorem px_lst {ds : List D} (h : Pa X es g l ds) (hz : ds.length ≤ sizeLine := by first | decide | exact Nat.le_of_ble_eq_true rfl) : Px X (.List es pos) g l (.lst ds) := fun en T σ H Q s k => wpE_of (pe_lst pa_wp) (by
  refine h en T σ H _ s fun vs H1 s1 => ?_
  obtain ⟨F, M, q⟩ := s1
  refine ⟨by rw [q.tm.1.length]; exact hz, fun p hp => ?_⟩
  have n := New.upd (o := .lst vs) q.exF hp
  exact k _ _ ⟨_, M, (q.new n).tmp ⟨.lst upd_same (FdAll.mono n.f _ q.tm.1), T.mono n.f q.tm.2⟩⟩)
theorem px_tup {ds : List D} {x1} (h : Pa X es g l ds) (hz : ds.length ≤ sizeLine := by first | decide | exact Nat.le_of_ble_eq_true rfl) : Px X (.Tuple es x1 pos) g l (.tup ds) := fun en T σ H Q s k => wpE_of (pe_tup pa_wp) (by
  refine h en T σ H _ s fun vs H1 s1 => ?_
  obtain ⟨F, M, q⟩ := s1
  refine ⟨by rw [q.tm.1.length]; exact hz, fun p hp => ?_⟩
  have n := New.upd (o := .tup vs) q.exF hp
  exact k _ _ ⟨_, M, (q.new n).tmp ⟨.tup (SqT.of upd_same) (FdAll.mono n.f _ q.tm.1), T.mono n.f q.tm.2⟩⟩)
theorem pa_n : Pa X [] g l [] := fun en T σ H Q s k => wpA_of pa_nil (by
  obtain ⟨F, M, a⟩ := s
  exact k [] H ⟨F, M, a.tmp ⟨.nil, a.tm⟩⟩)
theorem pa_c {ds : List D} (he : Px X e g l d) (h : Pa X es g l ds) (hs : starEach (e :: es) X.env = (false, eval e X.env) :: starEach es X.env := by rfl) : Pa X (e :: es) g l (d :: ds) := fun en T σ H Q s k => wpA_of (pa_cons pe_wp pa_wp hs) (by
  refine he en T σ H _ s fun v H1 s1 => ?_
  refine h en _ σ H1 _ s1 fun vs H2 s2 => ?_
  obtain ⟨F, M, a⟩ := s2
  exact k _ H2 ⟨F, M, a.tmp ⟨.cons a.tm.2.1 a.tm.1, a.tm.2.2⟩⟩)
theorem px_and {rest : List Expr} {k k' : Bool} (ha : Px X a g l (.bl k)) (hb : k = true → Px X (.BoolOp .And (b :: rest) pos) g l (.bl k')) : Px X (.BoolOp .And (a :: b :: rest) pos) g l (.bl (k && k')) := fun en T σ H Q s kk => wpE_of (pe_and pe_wp pe_wp) (by
  refine ha en T σ H _ s fun v H1 s1 => ?_
  obtain ⟨F, M, q⟩ := s1
  have f := q.tm.1
  cases f
  refine ⟨k, rfl, ?_⟩
  cases k with
  | true => exact hb rfl en T σ H1 Q ⟨F, M, q.tmp q.tm.2⟩ kk
  | false => exact kk _ H1 ⟨F, M, q⟩)
theorem px_one {op} (h : Px X a g l d) : Px X (.BoolOp op [a] pos) g l d := fun en T σ H Q s k => wpE_of (pe_one pe_wp) (h en T σ H Q s k)
theorem px_not {k : Bool} (h : Px X a g l (.bl k)) : Px X (.UnaryOp .Not a pos) g l (.bl (!k)) := fun en T σ H Q s kk => wpE_of (pe_not pe_wp) (by
  refine h en T σ H _ s fun v H1 s1 => ?_
  obtain ⟨F, M, q⟩ := s1
  have f := q.tm.1
  cases f
  exact ⟨k, rfl, kk _ H1 ⟨F, M, q.tmp ⟨.bl _, q.tm.2⟩⟩⟩)
/-- an attribute of a frozen instance -/
theorem px_fld {C : Addr} {fs : List (Str × D)} {f : Str} (ho : Px X o g l (.ins C fs)) (hc : Cls X.K C) (hn : NoAttr X.K C f) (hl : fs.lookup f = some d) (hb : attributeBase o f X.env (eval o X.env) = eval o X.env := by rfl) : Px X (.Attribute o f pos) g l d := fun en T σ H Q s k => wpE_of (pe_fld pe_wp hb) (by
  refine ho en T σ H _ s fun v H1 s1 => ?_
  obtain ⟨F, M, q⟩ := s1
  obtain ⟨hf, ht⟩ := q.tm
  cases hf with
  | ins h1 h2 =>
    obtain ⟨v, e1, e2⟩ := h2.look hl
    exact ⟨_, C, _, _, v, rfl, q.exF _ _ h1, hc, hn, e1, k v H1 ⟨F, M, q.tmp ⟨e2, ht⟩⟩⟩)
/-! ### calls of what is built in -/
theorem px_b {r : List V → Hp → VK → Prop} {ds : List D} (he : PE X e2 (tCB r (wpA X es))) (hr : OpN X.K l r ds d) (ha : Pa X es g l ds) : Px X e2 g l d := fun en T σ H Q s k => wpE_of he (by
  refine ha en T σ H _ s fun vs H1 s1 => ?_
  obtain ⟨F, M, q⟩ := s1
  exact hr F M H1 vs Q q.exF q.exM q.dj q.rs q.tm.1 fun u F' H' n f => k u H' ⟨F', M, (q.new n).tmp ⟨f, T.mono n.f q.tm.2⟩⟩)
/-! ### tests -/
theorem ts_val {k : Bool} (h : Px X e g l (.bl k)) (he : ∀ whole, isTrue e X.env whole = (do let v ← whole; standAt e.pos; holding [v] (truthy v)) := by intro _; rfl) : Ts X e g l k := fun en T σ H Q s kk => wpT_of (pt_val pe_wp he) (by
  refine h en T σ H _ s fun v H1 s1 => ?_
  obtain ⟨F, M, q⟩ := s1
  have f := q.tm.1
  cases f
  exact ⟨k, rfl, kk H1 ⟨F, M, q.tmp q.tm.2⟩⟩)
theorem ts_cmp {op : CmpOp} {r : R2} {k : Bool} (ho : OpR X (compareOp op) r) (ha : Px X a g l d1) (hb : Px X b g l d2) (hr : Op2 X.K l r d1 d2 (.bl k)) (hm : behindInMarks op b = false := by first | exact nomark _ | rfl) : Ts X (.Compare a [op] [b] pos) g l k := fun en T σ H Q s kk => wpT_of (pt_cmpR ho pe_wp pe_wp hm) (by
  refine ha en T σ H _ s fun v H1 s1 => ?_
  refine hb en _ σ H1 _ s1 fun u H2 s2 => ?_
  obtain ⟨F, M, q⟩ := s2
  refine hr F M H2 v u _ q.exF q.exM q.dj q.rs q.tm.2.1 q.tm.1 fun w F' H' n f => ?_
  cases f
  exact ⟨k, rfl, kk H' ⟨F', M, (q.new n).tmp (T.mono n.f q.tm.2.2)⟩⟩)
theorem ts_chain {op op' : CmpOp} {r r' : R2} {k k' : Bool} (ho : OpR X (compareOp op) r) (ho' : OpR X (compareOp op') r') (ha : Px X a g l d1) (hb : Px X b g l d2) (hr : Op2 X.K l r d1 d2 (.bl k)) (hc : Px X c g l d3) (hr' : k = true → Op2 X.K l r' d2 d3 (.bl k'))
    (hm : lastMarks [op, op'] [b, c] = false := by with_unfolding_all rfl) : Ts X (.Compare a [op, op'] [b, c] pos) g l (k && k') := fun en T σ H Q s kk => wpT_of (pt_chain ho ho' pe_wp pe_wp pe_wp hm) (by
  refine ha en T σ H _ s fun v H1 s1 => ?_
  refine hb en _ σ H1 _ s1 fun u H2 s2 => ?_
  obtain ⟨F, M, q⟩ := s2
  refine hr F M H2 v u _ q.exF q.exM q.dj q.rs q.tm.2.1 q.tm.1 fun w F' H' n f => ?_
  cases f
  refine ⟨k, rfl, ?_⟩
  have q' := q.new n
  cases k with
  | false => exact ⟨false, rfl, kk H' ⟨F', M, q'.tmp (T.mono n.f q.tm.2.2)⟩⟩
  | true =>
    show wpE X c σ H' _
    refine hc en _ σ H' _ ⟨F', M, q'⟩ fun w H3 s3 => ?_
    obtain ⟨F3, M3, q3⟩ := s3
    refine hr' rfl F3 M3 H3 u w _ q3.exF q3.exM q3.dj q3.rs q3.tm.2.1 q3.tm.1 fun w F' H' n f => ?_
    cases f
    exact ⟨k', rfl, kk H' ⟨F', M3, (q3.new n).tmp (T.mono n.f q3.tm.2.2.2)⟩⟩)
theorem ts_not {k : Bool} (h : Ts X a g l k) : Ts X (.UnaryOp .Not a pos) g l (!k) := fun en T σ H Q s kk => wpT_of (pt_not pt_wp) (h en T σ H _ s kk)
theorem tw_or1 {k : Bool} (h : Ts X a g l k) : Tw X (.BoolOp .Or [a] pos) g l k := fun en T σ H Q s kk => wpW_of (pw_or1 pt_wp) (h en T σ H _ s kk)
theorem tw_or {rest : List Expr} {k k' : Bool} (ha : Ts X a g l k) (hb : k = false → Tw X (.BoolOp .Or (b :: rest) pos) g l k') : Tw X (.BoolOp .Or (a :: b :: rest) pos) g l (k || k') := fun en T σ H Q s kk => wpW_of (pw_or pt_wp pw_wp) (by
  refine ha en T σ H _ s fun H1 s1 => ?_
  cases k with
  | false => exact hb rfl en T σ H1 _ s1 kk
  | true => exact kk H1 s1)
theorem ts_w {k : Bool} (h : Tw X e g l k) : Ts X e g l k := fun en T σ H Q s kk => wpT_of (pw_wp).pt (h en T σ H _ s kk)
theorem Ts.to {k k' : Bool} (h : Ts X e g l k) (q : k = k') : Ts X e g l k' := q ▸ h

/-! ### blocks -/
theorem Blk.imp {Ψ : Po} {sts : List Stmt} (h : Blk X W sts g l Φ) (n : ∀ g l, Φ.nx g l → Ψ.nx g l) (r : ∀ d l, Φ.rt d l → Ψ.rt d l) (b : ∀ g l, Φ.bk g l → Ψ.bk g l) (c : ∀ g l, Φ.ct g l → Ψ.ct g l) (x : ∀ c d g l, Φ.ex c d g l → Ψ.ex c d g l) : Blk X W sts g l Ψ := fun en T σ H D s m =>
  h en T σ H D s ⟨fun g l σ H p => m.nx g l σ H (n _ _ p), fun d l v H p => m.rt d l v H (r _ _ p), fun g l σ H p => m.bk g l σ H (b _ _ p), fun g l σ H p => m.ct g l σ H (c _ _ p), fun c d g l σ H p => m.ex c d g l σ H (x _ _ _ _ p)⟩
theorem Blk.weak {sts : List Stmt} (w : Wk g g') (h : Blk X W sts g' l Φ) : Blk X W sts g l Φ := fun en T σ H D s m => h en T σ H D (s.weak w) m
theorem blk_nil (h : Φ.nx g l) : Blk X W [] g l Φ := fun en T σ H D s m => wpS_of pss_nil (m.nx g l σ H h s)
variable {rest : List Stmt}
theorem blk_ret (he : Px X e g l d) (h : Φ.rt d l) : Blk X W (.Return (some e) pos :: rest) g l Φ := fun en T σ H D s m => wpS_of (pss_cons (ps_ret pe_wp) pss_wp) (he en T σ H _ s fun v H' s' => m.rt d l v H' h s'.slotless)
theorem blk_retX {Psi : D → List Res → Prop} (he : Ev X e g l Psi) (h : ∀ d l', Psi d l' → Φ.rt d l') : Blk X W (.Return (some e) pos :: rest) g l Φ := fun en T σ H D s m => wpS_of (pss_cons (ps_ret pe_wp) pss_wp) (he en T σ H _ s fun v d l' H' p s' => m.rt d l' v H' (h d l' p) s'.slotless)
theorem Mt.seq {K : PySem.W.Frag} {en : En} {T : Tm} {D : Ends} (m : Mt K W en T Φ D) {nx : Gm → List Res → Prop} {n : St → Hp → Prop} (h : ∀ g l σ H, nx g l → S K en g T l σ H → n σ H) : Mt K W en T { Φ with nx := nx } { D with nx := n } := ⟨h, m.rt, m.bk, m.ct, m.ex⟩
theorem blk_if {k : Bool} {A B : List Stmt} (hc : Ts X c g l k) (h1 : k = true → Blk X W A g l { Φ with nx := fun g' l' => Blk X W rest g' l' Φ }) (h2 : k = false → Blk X W B g l { Φ with nx := fun g' l' => Blk X W rest g' l' Φ }) : Blk X W (.If c A B pos :: rest) g l Φ := fun en T σ H D s m =>
  wpS_of (pss_cons (ps_if pt_wp pss_wp pss_wp) pss_wp) (by
    refine hc en T σ H _ s fun H1 s1 => ?_
    have mm : Mt X.K W en T { Φ with nx := fun g' l' => Blk X W rest g' l' Φ } { D with nx := wpS X rest D } := m.seq fun g' l' σ' H' p s' => p en T σ' H' D s' m
    cases k with
    | true => exact h1 rfl en T σ H1 _ s1 mm
    | false => exact h2 rfl en T σ H1 _ s1 mm)
/-- .. the ways meet at Mid -/
theorem blk_ifJ {k : Bool} {A B : List Stmt} (Mid : Gm → List Res → Prop) (hc : Ts X c g l k) (h1 : k = true → Blk X W A g l { Φ with nx := Mid }) (h2 : k = false → Blk X W B g l { Φ with nx := Mid }) (hm : ∀ g' l', Mid g' l' → Blk X W rest g' l' Φ) : Blk X W (.If c A B pos :: rest) g l Φ :=
  blk_if hc (fun e => (h1 e).imp (fun g' l' p => hm g' l' p) (fun _ _ p => p) (fun _ _ p => p) (fun _ _ p => p) (fun _ _ _ _ p => p)) (fun e => (h2 e).imp (fun g' l' p => hm g' l' p) (fun _ _ p => p) (fun _ _ p => p) (fun _ _ p => p) (fun _ _ _ _ p => p))
theorem blk_expr {Psi : D → List Res → Prop} (he : Ev X e g l Psi) (h : ∀ d l', Psi d l' → Blk X W rest g l' Φ) (hs : swapsWith e none pos.line X.env = pure false := by rfl) : Blk X W (.Expr e pos :: rest) g l Φ := fun en T σ H D s m => wpS_of (pss_cons (ps_expr pe_wp hs) pss_wp) (he en T σ H _ s fun v d l' H' p s' => h d l' p en T σ H' D s'.drop m)
theorem blk_set {i : Nat} {x : Str} {pos' : Pos} (hN : X.N.Nodup) (hi : X.N[i]? = some x) (hx : Loc X.env.scope x) (he : Px X e g l d) (h : Blk X W rest (g.set i (some d)) l Φ) (hs : swapsWith e (some (.Name x pos')) pos.line X.env = pure false := by rfl) (hf : X.fn x = true ∨ X.env.scope.names.lookup x = some .local := by first | exact .inl rfl | exact .inr rfl | assumption) :
    Blk X W (.Assign [.Name x pos'] e pos :: rest) g l Φ := fun en T σ H D s m => wpS_of (pss_cons (ps_set hN hi hx pe_wp hs hf) pss_wp) (he en T σ H _ s fun v H' s' => by
      obtain ⟨F, M, a⟩ := s'
      exact h en T (σ.set i (some v)) H' D ⟨F, M, (a.tmp a.tm.2).slots (a.sl.set i a.tm.1)⟩ m)
theorem blk_setX {Psi : D → List Res → Prop} {i : Nat} {x : Str} {pos' : Pos} (hN : X.N.Nodup) (hi : X.N[i]? = some x) (hx : Loc X.env.scope x) (he : Ev X e g l Psi) (h : ∀ d l', Psi d l' → Blk X W rest (g.set i (some d)) l' Φ) (hs : swapsWith e (some (.Name x pos')) pos.line X.env = pure false := by rfl) (hf : X.fn x = true ∨ X.env.scope.names.lookup x = some .local := by first | exact .inl rfl | exact .inr rfl | assumption) :
    Blk X W (.Assign [.Name x pos'] e pos :: rest) g l Φ := fun en T σ H D s m => wpS_of (pss_cons (ps_set hN hi hx pe_wp hs hf) pss_wp) (he en T σ H _ s fun v d l' H' p s' => by
      obtain ⟨F, M, a⟩ := s'
      exact h d l' p en T (σ.set i (some v)) H' D ⟨F, M, (a.tmp a.tm.2).slots (a.sl.set i a.tm.1)⟩ m)
end

/-! ### owned lists, instances -/
def ownL (K : PySem.W.Frag) (p : Addr) (ds : List D) : Res := ⟨fun F M => ∃ vs, FdAll K F vs ds ∧ M = one p (.lst vs), fun e ⟨vs, h, m⟩ => ⟨vs, FdAll.mono e _ h, m⟩, fun ⟨_, _, m⟩ x xs e => by rw [m] at e; obtain ⟨_, e⟩ := one_some e; cases e⟩
def ownI (K : PySem.W.Frag) (p C : Addr) (fs : List (Str × D)) : Res := ⟨fun F M => ∃ vs dx, dx ≠ p ∧ FdFs K F vs fs ∧ M = join (one p (.ins C dx vs)) (one dx (.own p)), fun e ⟨vs, dx, n, h, m⟩ => ⟨vs, dx, n, FdFs.mono e _ h, m⟩, fun ⟨_, _, _, _, m⟩ x xs e => by
  rw [m] at e
  rcases join_some e with e | ⟨_, e⟩
  · obtain ⟨_, e⟩ := one_some e; cases e
  · obtain ⟨_, e⟩ := one_some e; cases e⟩
section
variable {K : PySem.W.Frag} {F H M : Hp} {l : List Res}
theorem Rs.own {k : Nat} {p : Addr} {ds : List D} (h : Rs l F M) (e : l[k]? = some (ownL K p ds)) (m : Ex M H) : ∃ vs, FdAll K F vs ds ∧ H p = some (.lst vs) := by
  obtain ⟨A, B, rfl, dj, ⟨vs, f, rfl⟩, _⟩ := Rs.at e h
  exact ⟨vs, f, m p _ (join_l one_same)⟩
theorem Rs.ins {k : Nat} {p C : Addr} {fs : List (Str × D)} (h : Rs l F M) (e : l[k]? = some (ownI K p C fs)) (m : Ex M H) : ∃ dx vs, FdFs K F vs fs ∧ H p = some (.ins C dx vs) := by
  obtain ⟨A, B, rfl, dj, ⟨vs, dx, n, f, rfl⟩, _⟩ := Rs.at e h
  exact ⟨dx, vs, f, m p _ (join_l (join_l one_same))⟩
variable {en : En} {g : Gm} {T : Tm} {σ : L2.St}
/-- an owned list is written -/
theorem At.putL {k : Nat} {p : Addr} {ds ds' : List D} {vs' : List V} (a : At K en g T l σ H F M) (e : l[k]? = some (ownL K p ds)) (f : FdAll K F vs' ds') : ∃ M', At K en g T (l.set k (ownL K p ds')) σ (upd H p (.lst vs')) F M' := by
  obtain ⟨A, B, rfl, dj, ⟨vs, f0, rfl⟩, put⟩ := Rs.at e a.rs
  have hp : H p = some (.lst vs) := a.exM p _ (join_l one_same)
  have hF : F p = none := a.dj.sym p (.lst vs) (join_l one_same)
  have dB : ∀ u, Dj (one p u) B := fun u x o h => by
    obtain ⟨rfl, _⟩ := one_some h
    exact dj x _ one_same
  have hB : B p = none := dj p _ one_same
  have pM : en.H p = none ∨ ∃ u, en.M p = some u := a.nM p _ (join_l one_same)
  refine ⟨join (one p (.lst vs')) B, a.exF.mut hF, ?_, ?_, a.eF, a.nF, ?_, ?_, a.sl, a.tm, put _ _ F .rf ⟨vs', f, rfl⟩ (dB _)⟩
  · intro x o h
    rcases join_some h with q | ⟨n, q⟩
    · obtain ⟨rfl, rfl⟩ := one_some q
      exact upd_same
    · have ne : x ≠ p := fun z => by rw [z, hB] at q; cases q
      rw [upd_ne ne]
      exact a.exM x o (by rw [join_r (one_ne ne)]; exact q)
  · intro x o h
    have ne : x ≠ p := fun z => by rw [z, hF] at h; cases h
    have := a.dj x o h
    rw [join_r (one_ne ne)] at this ⊢
    exact this
  · intro x o h
    rcases join_some h with q | ⟨n, q⟩
    · obtain ⟨rfl, rfl⟩ := one_some q
      exact pM
    · have ne : x ≠ p := fun z => by rw [z, hB] at q; cases q
      exact a.nM x o (by rw [join_r (one_ne ne)]; exact q)
  · intro x o h1 h2
    have ne : x ≠ p := fun z => by
      subst z
      rcases pM with q | ⟨u, q⟩
      · rw [h1] at q; cases q
      · rw [h2] at q; cases q
    rw [upd_ne ne]
    exact a.fr x o h1 h2
/-- an owned instance's attribute is written -/
theorem At.putI {k : Nat} {p C dx : Addr} {fs fs' : List (Str × D)} {vs vs' : List (Str × V)} (a : At K en g T l σ H F M) (e : l[k]? = some (ownI K p C fs)) (hp : H p = some (.ins C dx vs)) (f : FdFs K F vs' fs') : ∃ M', At K en g T (l.set k (ownI K p C fs')) σ (upd H p (.ins C dx vs')) F M' := by
  obtain ⟨A, B, rfl, dj, ⟨vs0, dx0, nd, f0, rfl⟩, put⟩ := Rs.at e a.rs
  have hp0 : H p = some (.ins C dx0 vs0) := a.exM p _ (join_l (join_l one_same))
  rw [hp] at hp0
  obtain ⟨rfl, rfl⟩ : dx = dx0 ∧ vs = vs0 := by injection hp0 with z; injection z with z1 z2 z3; exact ⟨z2, z3⟩
  have hF : F p = none := a.dj.sym p _ (join_l (join_l one_same))
  have dB : ∀ u, Dj (join (one p u) (one dx (.own p))) B := fun u x o h => by
    rcases join_some h with q | ⟨_, q⟩
    · obtain ⟨rfl, _⟩ := one_some q
      exact dj x _ (join_l one_same)
    · obtain ⟨rfl, _⟩ := one_some q
      exact dj x _ (by rw [join_r (one_ne nd)]; exact one_same)
  have hB : B p = none := dj p _ (join_l one_same)
  have pM : en.H p = none ∨ ∃ u, en.M p = some u := a.nM p _ (join_l (join_l one_same))
  refine ⟨join (join (one p (.ins C dx vs')) (one dx (.own p))) B, a.exF.mut hF, ?_, ?_, a.eF, a.nF, ?_, ?_, a.sl, a.tm, put _ _ F .rf ⟨vs', dx, nd, f, rfl⟩ (dB _)⟩
  · intro x o h
    rcases join_some h with q | ⟨n, q⟩
    · rcases join_some q with q | ⟨n, q⟩
      · obtain ⟨rfl, rfl⟩ := one_some q
        exact upd_same
      · obtain ⟨rfl, rfl⟩ := one_some q
        rw [upd_ne nd]
        exact a.exM x _ (join_l (by rw [join_r (one_ne nd)]; exact one_same))
    · have ne : x ≠ p := fun z => by rw [z, hB] at q; cases q
      rw [upd_ne ne]
      have nx : x ≠ dx := fun z => by
        rw [z, join_r (one_ne nd), one_same] at n; cases n
      exact a.exM x o (by rw [join_r (by rw [join_r (one_ne ne)]; exact one_ne nx)]; exact q)
  · intro x o h
    have ne : x ≠ p := fun z => by rw [z, hF] at h; cases h
    have := a.dj x o h
    obtain ⟨q1, q2⟩ := join_none this
    obtain ⟨q3, q4⟩ := join_none q1
    rw [join_r (by rw [join_r (one_ne ne)]; exact q4)]
    exact q2
  · intro x o h
    rcases join_some h with q | ⟨n, q⟩
    · rcases join_some q with q | ⟨n, q⟩
      · obtain ⟨rfl, rfl⟩ := one_some q
        exact pM
      · obtain ⟨rfl, rfl⟩ := one_some q
        exact a.nM x (.own p) (join_l (by rw [join_r (one_ne nd)]; exact one_same))
    · have ne : x ≠ p := fun z => by rw [z, hB] at q; cases q
      have nx : x ≠ dx := fun z => by
        rw [z, join_r (one_ne nd), one_same] at n; cases n
      exact a.nM x o (by rw [join_r (by rw [join_r (one_ne ne)]; exact one_ne nx)]; exact q)
  · intro x o h1 h2
    have ne : x ≠ p := fun z => by
      subst z
      rcases pM with q | ⟨u, q⟩
      · rw [h1] at q; cases q
      · rw [h2] at q; cases q
    rw [upd_ne ne]
    exact a.fr x o h1 h2
/-- something new, owned -/
theorem At.newO {r : Res} {A H' : Hp} (a : At K en g T l σ H F M) (h : Ex H H') (hA : Ex A H') (n : ∀ x o, A x = some o → H x = none) (p : r.P F A) : At K en g T (r :: l) σ H' F (join A M) := by
  have dA : Dj A M := fun x o q => by
    cases z : M x with
    | none => rfl
    | some u => have := a.exM x u z; rw [n x o q] at this; cases this
  refine ⟨a.exF.tr h, hA.join (a.exM.tr h), fun x o q => ?_, a.eF, a.nF, fun x o q => ?_, fun x o h1 h2 => h x o (a.fr x o h1 h2), a.sl, a.tm, ⟨A, M, rfl, dA, p, a.rs⟩⟩
  · cases z : join A M x with
    | none => rfl
    | some u =>
      rcases join_some z with y | ⟨_, y⟩
      · have := a.exF x o q; rw [n x u y] at this; cases this
      · rw [a.dj x o q] at y; cases y
  · rcases join_some q with y | ⟨_, y⟩
    · cases w : en.H x with
      | none => exact .inl rfl
      | some u =>
        cases z : en.M x with
        | some y => exact .inr ⟨y, rfl⟩
        | none => have := a.fr x u w z; rw [n x o y] at this; cases this
    · exact a.nM x o y
/-- what is owned at the front is frozen -/
theorem At.frz {r : Res} {P : Hp → Prop} (a : At K en g T (r :: l) σ H F M) (f : ∀ A, r.P F A → P (join F A)) : ∃ F' M', At K en g T l σ H F' M' ∧ P F' ∧ Ex F F' := by
  obtain ⟨A, B, rfl, dj, p, rs⟩ := a.rs
  have dF : Dj F A := fun x o h => (join_none (a.dj x o h)).1
  have eF : Ex F (join F A) := fun x o h => join_l h
  refine ⟨join F A, B, ⟨a.exF.join a.exM.joinL, a.exM.joinR dj, ?_, a.eF.tr eF, ?_, fun x o h => a.nM x o (by rw [join_r (dj.sym x o h)]; exact h), a.fr, a.sl.mono eF, T.mono eF a.tm, rs.mono eF⟩, f A p, eF⟩
  · intro x o h
    rcases join_some h with q | ⟨_, q⟩
    · exact (join_none (a.dj x o q)).2
    · exact dj x o q
  · intro x o h
    rcases join_some h with q | ⟨_, q⟩
    · exact a.nF x o q
    · rcases a.nM x o (join_l q) with z | z
      · exact .inr (.inl z)
      · exact .inr (.inr (.inl z))
theorem Rs.perm {F : Hp} : ∀ {l k : List Res}, l.Perm k → ∀ {M : Hp}, Rs l F M → Rs k F M := by
  intro l k h
  induction h with
  | nil => exact fun h => h
  | cons x _ ih => exact fun ⟨A, B, h1, h2, h3, h4⟩ => ⟨A, B, h1, h2, h3, ih h4⟩
  | swap x y l =>
    rintro M ⟨A, B, h1, h2, h3, ⟨A', B', g1, g2, g3, g4⟩⟩
    subst g1; subst h1
    have dAA : Dj A A' := (Dj.l h2.sym).sym
    have dAB : Dj A B' := (Dj.r g2 h2.sym).sym
    exact ⟨A', join A B', by rw [← join_assoc, ← join_assoc, dAA.comm], (Dj.joinL dAA g2.sym).sym, g3, A, B', rfl, dAB, h3, g4⟩
  | trans _ _ h1 h2 => exact fun h => h2 (h1 h)
theorem S.perm {l' : List Res} (h : l.Perm l') (s : S K en g T l σ H) : S K en g T l' σ H := let ⟨F, M, a⟩ := s; ⟨F, M, a.exF, a.exM, a.dj, a.eF, a.nF, a.nM, a.fr, a.sl, a.tm, a.rs.perm h⟩
end

section
variable {X : Cx} {W : WX} {g g' : Gm} {l l' : List Res} {Φ : Po} {e a b c o : Expr} {es : List Expr} {d d1 d2 d3 : D} {pos p : Pos} {rest : List Stmt}
theorem Blk.perm {sts : List Stmt} (h : l.Perm l') (k : Blk X W sts g l' Φ) : Blk X W sts g l Φ := fun en T σ H D s m => k en T σ H D (s.perm h) m
/-- a new list, owned -/
theorem ev_lst {ds : List D} (h : Pa X es g l ds) (hz : ds.length ≤ sizeLine := by first | decide | exact Nat.le_of_ble_eq_true rfl) : Ev X (.List es pos) g l (fun d' l' => ∃ p, d' = .adr p ∧ l' = ownL X.K p ds :: l) := fun en T σ H Q s k => wpE_of (pe_lst pa_wp) (by
  refine h en T σ H _ s fun vs H1 s1 => ?_
  obtain ⟨F, M, q⟩ := s1
  refine ⟨by rw [q.tm.1.length]; exact hz, fun p hp => ?_⟩
  have q2 := q.tmp (T' := T) q.tm.2
  have q3 := q2.newO (r := ownL X.K p ds) (A := one p (.lst vs)) (H' := upd H1 p (.lst vs)) (.new hp) (fun x o z => by obtain ⟨rfl, rfl⟩ := one_some z; exact upd_same) (fun x o z => by obtain ⟨rfl, rfl⟩ := one_some z; exact hp) ⟨vs, q.tm.1, rfl⟩
  exact k _ (.adr p) _ _ ⟨p, rfl, rfl⟩ ⟨F, _, q3.tmp ⟨.adr p, q.tm.2⟩⟩)
/-- a list just made is frozen -/
theorem Ev.frz {ds : List D} (h : Ev X e g l (fun d' l' => ∃ p, d' = .adr p ∧ l' = ownL X.K p ds :: l)) : Px X e g l (.lst ds) := fun en T σ H Q s k => h en T σ H Q s fun v d l' H' p s' => by
  obtain ⟨p, rfl, rfl⟩ := p
  obtain ⟨F, M, q⟩ := s'
  have hv := q.tm.1
  cases hv
  obtain ⟨F', M', q', f, _⟩ := q.frz (P := fun F' => Fd X.K F' (.ref p) (.lst ds)) fun A hA => by
    obtain ⟨vs, f, rfl⟩ := hA
    have hF : F p = none := by
      obtain ⟨A, B, rfl, _, ⟨_, _, rfl⟩, _⟩ := q.rs
      exact q.dj.sym p _ (join_l one_same)
    exact .lst (by rw [join_r hF]; exact one_same) (FdAll.mono (fun x o h => join_l h) _ f)
  exact k _ H' ⟨F', M', q'.tmp ⟨f, q'.tm.2⟩⟩
/-- a slot's owned list (at the front) is frozen -/
theorem Blk.frz {sts : List Stmt} {p : Addr} {ds : List D} {i : Nat} (hi : nth g i = some (.adr p)) (k : Blk X W sts (g.set i (some (.lst ds))) l Φ) : Blk X W sts g (ownL X.K p ds :: l) Φ := fun en T σ H D s m => by
  obtain ⟨F, M, q⟩ := s
  obtain ⟨v, hv, fv⟩ := q.sl.nth hi
  cases fv
  obtain ⟨F', M', q', f, _⟩ := q.frz (P := fun F' => Fd X.K F' (.ref p) (.lst ds)) fun A hA => by
    obtain ⟨vs, f, rfl⟩ := hA
    have hF : F p = none := by
      obtain ⟨A, B, rfl, _, ⟨_, _, rfl⟩, _⟩ := q.rs
      exact q.dj.sym p _ (join_l one_same)
    exact .lst (by rw [join_r hF]; exact one_same) (FdAll.mono (fun x o h => join_l h) _ f)
  refine k en T σ H D ⟨F', M', q'.slots ?_⟩ m
  have w := q'.sl.set i f
  have e : σ.set i (some (.ref p)) = σ := by
    apply List.ext_getElem?
    intro j
    by_cases z : j = i
    · subst z
      obtain ⟨h1, h2⟩ := List.getElem?_eq_some_iff.mp hv
      rw [List.getElem?_set_self h1, hv]
    · rw [List.getElem?_set_ne (Ne.symm z)]
  rw [e] at w
  exact w
/-- x.append(e), x an owned list -/
theorem blk_app {k : Nat} {p : Addr} {ds : List D} {apos cpos : Pos} (ho : Px X o g l (.adr p)) (he : Px X e g l d) (hk : l[k]? = some (ownL X.K p ds)) (hz : ds.length < sizeLine) (h : Blk X W rest g (l.set k (ownL X.K p (ds ++ [d]))) Φ)
    (hp : PS X (.Expr (.Call (.Attribute o "append" apos) [e] [] cpos) pos) (tDrop (tBM X.K "list" rAppend (wpE X o) (tCons (wpE X e) tNil)))) : Blk X W (.Expr (.Call (.Attribute o "append" apos) [e] [] cpos) pos :: rest) g l Φ := fun en T σ H D s m => wpS_of (pss_cons hp pss_wp) (by
  refine ho en T σ H _ s fun v H1 s1 => ?_
  obtain ⟨F1, M1, q1⟩ := id s1
  have fv := q1.tm.1
  cases fv
  obtain ⟨vs1, _, hp1⟩ := q1.rs.own hk q1.exM
  refine ⟨.inl ⟨rfl, _, SqL.of hp1⟩, ?_⟩
  refine he en _ σ H1 _ s1 fun u H2 s2 => ?_
  obtain ⟨F, M, q⟩ := s2
  obtain ⟨vs, fvs, hp⟩ := q.rs.own hk q.exM
  refine ⟨p, vs, u, rfl, rfl, hp, by rw [fvs.length]; exact hz, ?_⟩
  obtain ⟨M', q'⟩ := (q.tmp (T' := T) q.tm.2.2).putL hk (fvs.app (.cons q.tm.1 .nil))
  exact h en T σ _ D ⟨F, M', q'⟩ m)
end
end Sx
set_option Elab.async false
set_option linter.all false
set_option maxRecDepth 100000
set_option maxHeartbeats 2000000
/-! Operations by value, calls, loops, comprehensions. -/
namespace Sx
open PySem L2

/-! ### operations -/
section
variable {K : PySem.W.Frag} {l : List Res} {d d1 d2 d3 : D} {i j : Int}
theorem o2_I0 {g : Int → Int → V} (h : ∀ F, Fd K F (g i j) d) : Op2 K l (rI0 g) (.int i) (.int j) d := fun F M H v u Q eF eM dj rs f1 f2 k => by
  cases f1; cases f2
  exact ⟨i, j, rfl, rfl, k _ F H (.rf eF) (h F)⟩
theorem o2_I {C : Int → Int → Prop} {g : Int → Int → V} (hc : C i j) (h : ∀ F, Fd K F (g i j) d) : Op2 K l (rI C g) (.int i) (.int j) d := fun F M H v u Q eF eM dj rs f1 f2 k => by
  cases f1; cases f2
  exact ⟨i, j, rfl, rfl, hc, k _ F H (.rf eF) (h F)⟩
theorem o_add : Op2 K l (rI0 fun i j => .int (i + j)) (.int i) (.int j) (.int (i + j)) := o2_I0 fun _ => .int _
theorem o_sub : Op2 K l (rI0 fun i j => .int (i - j)) (.int i) (.int j) (.int (i - j)) := o2_I0 fun _ => .int _
theorem o_mul (hc : CMul i j) : Op2 K l (rI CMul fun i j => .int (i * j)) (.int i) (.int j) (.int (i * j)) := o2_I hc fun _ => .int _
theorem o_mulR (h1 : -(2 ^ 64) < j := by decide) (h2 : j < 2 ^ 64 := by decide) : Op2 K l (rI CMul fun i j => .int (i * j)) (.int i) (.int j) (.int (i * j)) := o_mul (.inr ⟨h1, h2⟩)
theorem o_mod (hc : 0 < j := by decide) : Op2 K l (rI (fun _ j => 0 < j) fun i j => .int (i % j)) (.int i) (.int j) (.int (i % j)) := o2_I hc fun _ => .int _
theorem o_fdiv (h1 : 0 < j := by decide) (h2 : j < 1073741824 := by decide) : Op2 K l (rI CDiv fun i j => .int (i / j)) (.int i) (.int j) (.int (i / j)) := o2_I ⟨h1, h2⟩ fun _ => .int _
theorem o_pow (hc : CPow i j := by exact ⟨by decide, by decide, by decide⟩) : Op2 K l (rI CPow fun i j => .int (i ^ j.toNat)) (.int i) (.int j) (.int (i ^ j.toNat)) := o2_I hc fun _ => .int _
theorem o_lt : Op2 K l (rI0 fun i j => .bl (decide (i < j))) (.int i) (.int j) (.bl (decide (i < j))) := o2_I0 fun _ => .bl _
theorem o_le : Op2 K l (rI0 fun i j => .bl (decide (i ≤ j))) (.int i) (.int j) (.bl (decide (i ≤ j))) := o2_I0 fun _ => .bl _
theorem o_gt : Op2 K l (rI0 fun i j => .bl (decide (j < i))) (.int i) (.int j) (.bl (decide (j < i))) := o2_I0 fun _ => .bl _
theorem o_neg : Op1 K l (rU fun i => .int (-i)) (.int i) (.int (-i)) := fun F M H v Q eF eM dj rs f1 k => by
  cases f1
  exact ⟨i, rfl, k _ F H (.rf eF) (.int _)⟩
/-- scalars -/
def D.v : D → Option V
  | .non => some .non | .bl b => some (.bl b) | .int i => some (.int i) | .str x => some (.str x) | .ty n => some (.ty n) | _ => none
theorem D.v_eq {F : Hp} {d : D} {v w : V} (f : Fd K F v d) (h : d.v = some w) : v = w := by
  cases f <;> first | (cases h; rfl) | cases h
theorem o_eq {v1 v2 : V} (h1 : d1.v = some v1) (h2 : d2.v = some v2) (hs : scal v1 v2 = true := by rfl) : Op2 K l rEq d1 d2 (.bl (decide (v1 = v2))) := fun F M H v u Q eF eM dj rs f1 f2 k => by
  have e1 := D.v_eq f1 h1
  have e2 := D.v_eq f2 h2
  subst e1; subst e2
  exact ⟨hs, k _ F H (.rf eF) (.bl _)⟩
theorem o_ne {v1 v2 : V} (h1 : d1.v = some v1) (h2 : d2.v = some v2) (hs : scal v1 v2 = true := by rfl) : Op2 K l rNe d1 d2 (.bl (!decide (v1 = v2))) := fun F M H v u Q eF eM dj rs f1 f2 k => by
  have e1 := D.v_eq f1 h1
  have e2 := D.v_eq f2 h2
  subst e1; subst e2
  exact ⟨hs, k _ F H (.rf eF) (.bl _)⟩
theorem int_dec (i j : Int) : decide (V.int i = V.int j) = decide (i = j) := by
  by_cases e : i = j
  · subst e; simp
  · have : ¬ V.int i = V.int j := fun q => e (V.int.inj q)
    rw [decide_eq_false e, decide_eq_false this]
theorem str_dec (i j : Str) : decide (V.str i = V.str j) = decide (i = j) := by
  by_cases e : i = j
  · subst e; simp
  · have : ¬ V.str i = V.str j := fun q => e (V.str.inj q)
    rw [decide_eq_false e, decide_eq_false this]
theorem o_eqI : Op2 K l rEq (.int i) (.int j) (.bl (decide (i = j))) := by
  rw [← int_dec]; exact o_eq rfl rfl
theorem o_neI : Op2 K l rNe (.int i) (.int j) (.bl (!decide (i = j))) := by
  rw [← int_dec]; exact o_ne rfl rfl
theorem o_neS {x y : Str} : Op2 K l rNe (.str x) (.str y) (.bl (!decide (x = y))) := by
  rw [← str_dec]; exact o_ne rfl rfl
/-- is None -/
def D.isNon : D → Bool
  | .non => true | _ => false
theorem o_addS {x y : Str} (h : x.length + y.length ≤ sizeLine) : Op2 K l (fun x y H Q => ∃ i j, x = .str i ∧ y = .str j ∧ i.length + j.length ≤ sizeLine ∧ Q (.str (i ++ j)) H) (.str x) (.str y) (.str (x ++ y)) := fun F M H v u Q eF eM dj rs f1 f2 k => by
  cases f1; cases f2
  exact ⟨x, y, rfl, rfl, h, k _ F H (.rf eF) (.str _)⟩
theorem atI_fd {F : Hp} {vs : List V} {ds : List D} (f : FdAll K F vs ds) (h : atI ds i = some d) : ∃ v, atI vs i = some v ∧ Fd K F v d := by
  unfold atI at h ⊢
  rw [f.length]
  cases e : ixN ds.length i with
  | none => rw [e] at h; cases h
  | some n =>
    rw [e] at h
    exact f.get h
theorem o_ixT {ds : List D} (h : atI ds i = some d) : Op2 K l (rIxT K) (.tup ds) (.int i) d := fun F M H v u Q eF eM dj rs f1 f2 k => by
  cases f2
  cases f1 with
  | tup s a =>
    obtain ⟨w, h1, h2⟩ := atI_fd a h
    exact ⟨_, _, i, w, rfl, rfl, ex_t eF s, h1, k w F H (.rf eF) h2⟩
theorem o_ixL {ds : List D} (h : atI ds i = some d) : Op2 K l (rIxL K) (.lst ds) (.int i) d := fun F M H v u Q eF eM dj rs f1 f2 k => by
  cases f2
  cases f1 with
  | lst s a =>
    obtain ⟨w, h1, h2⟩ := atI_fd a h
    exact ⟨_, _, i, w, rfl, rfl, SqL.of (eF _ _ s), h1, k w F H (.rf eF) h2⟩
theorem o_ixR {ds : List D} (h : atI ds i = some d) : Op2 K l (rIxL K) (.scr ds) (.int i) d := fun F M H v u Q eF eM dj rs f1 f2 k => by
  cases f2
  cases f1 with
  | scr s a =>
    obtain ⟨w, h1, h2⟩ := atI_fd a h
    exact ⟨_, _, i, w, rfl, rfl, ex_l eF s, h1, k w F H (.rf eF) h2⟩
theorem o_ixS {x : Str} {c : Nat} (h : x.length ≤ sizeLine) (ha : atI x.cps.toList i = some c) : Op2 K l rIxS (.str x) (.int i) (.str ⟨#[c]⟩) := fun F M H v u Q eF eM dj rs f1 f2 k => by
  cases f1; cases f2
  exact ⟨x, i, c, rfl, rfl, h, ha, k _ F H (.rf eF) (.str _)⟩
/-- x in xs, flat things -/
def D.flat (d : D) : Bool := match d.v with | some v => flatV v | none => false
def D.vv (d : D) : V := d.v.getD .non
theorem D.vv_eq {F : Hp} {d : D} {v : V} (f : Fd K F v d) (h : d.flat = true) : v = d.vv ∧ flatV v = true := by
  cases f <;> first | exact ⟨rfl, h⟩ | cases h
theorem D.vvs {F : Hp} : ∀ {vs : List V} {ds : List D}, FdAll K F vs ds → ds.all D.flat = true → vs = ds.map D.vv ∧ vs.all flatV = true
  | _, _, .nil, _ => ⟨rfl, rfl⟩
  | _, _, .cons a b, h => by
    rw [List.all_cons, Bool.and_eq_true] at h
    obtain ⟨q1, q2⟩ := D.vv_eq a h.1
    obtain ⟨r1, r2⟩ := D.vvs b h.2
    refine ⟨by rw [List.map_cons, ← q1, ← r1], by rw [List.all_cons, q2, r2]; rfl⟩
theorem o_in {neg : Bool} {ds : List D} {d0 : D} (hd : d0 = .lst ds ∨ d0 = .tup ds) (hx : d.flat = true) (hs : ds.all D.flat = true) : Op2 K l (rIn K neg) d d0 (.bl (if neg then !inV d.vv (ds.map D.vv) else inV d.vv (ds.map D.vv))) := fun F M H v u Q eF eM dj rs f1 f2 k => by
  obtain ⟨q1, q2⟩ := D.vv_eq f1 hx
  subst q1
  have kk := k (.bl (if neg then !inV d.vv (ds.map D.vv) else inV d.vv (ds.map D.vv))) F H (.rf eF) (.bl _)
  rcases hd with rfl | rfl
  · cases f2 with
    | lst s a =>
      obtain ⟨r1, r2⟩ := D.vvs a hs
      subst r1
      exact ⟨_, _, rfl, .inl (SqL.of (eF _ _ s)), q2, r2, kk⟩
  · cases f2 with
    | tup s a =>
      obtain ⟨r1, r2⟩ := D.vvs a hs
      subst r1
      exact ⟨_, _, rfl, .inr (ex_t eF s), q2, r2, kk⟩
theorem inV_str {x : Str} {xs : List Str} : inV (.str x) (xs.map V.str) = decide (x ∈ xs) := by
  induction xs with
  | nil => rfl
  | cons y r ih =>
    have e : inV (.str x) ((y :: r).map V.str) = ((y == x) || inV (.str x) (r.map V.str)) := rfl
    rw [e, ih]
    by_cases q : y = x
    · subst q; simp
    · have q' : ¬ x = y := fun z => q z.symm
      simp [q, q']
theorem flat_strs {xs : List Str} : (xs.map D.str).all D.flat = true := by
  induction xs with
  | nil => rfl
  | cons y r ih => rw [List.map_cons, List.all_cons, ih]; rfl
theorem vv_strs {xs : List Str} : (xs.map D.str).map D.vv = xs.map V.str := by
  rw [List.map_map]; rfl
theorem o_inS {x : Str} {xs : List Str} {d0 : D} (hd : d0 = .lst (xs.map D.str) ∨ d0 = .tup (xs.map D.str)) : Op2 K l (rIn K false) (.str x) d0 (.bl (decide (x ∈ xs))) := by
  have h := o_in (K := K) (l := l) (neg := false) hd (d := .str x) rfl flat_strs
  rw [vv_strs] at h
  have e : (if false = true then !inV (D.str x).vv (xs.map V.str) else inV (D.str x).vv (xs.map V.str)) = decide (x ∈ xs) := inV_str
  rw [e] at h; exact h
theorem o_ninS {x : Str} {xs : List Str} {d0 : D} (hd : d0 = .lst (xs.map D.str) ∨ d0 = .tup (xs.map D.str)) : Op2 K l (rIn K true) (.str x) d0 (.bl (!decide (x ∈ xs))) := by
  have h := o_in (K := K) (l := l) (neg := true) hd (d := .str x) rfl flat_strs
  rw [vv_strs] at h
  have e : (if true = true then !inV (D.str x).vv (xs.map V.str) else inV (D.str x).vv (xs.map V.str)) = !decide (x ∈ xs) := congrArg (!·) inV_str
  rw [e] at h; exact h
/- == of data -/
mutual
def D.py : D → Option PyData
  | .non => some .none | .bl b => some (.bool b) | .int i => some (.int i) | .str x => some (.str x)
  | .lst ds => (D.pys ds).map .list
  | .tup ds => (D.pys ds).map .tuple
  | .adr _ => none | .ty _ => none | .ins _ _ => none | .scr _ => none | .dK _ => none | .dT _ => none | .exc _ _ => none | .kt _ => none
def D.pys : List D → Option (List PyData)
  | [] => some []
  | d :: r => (D.py d).bind fun a => (D.pys r).map fun b => a :: b
end
mutual
theorem Fd.dp {F H : Hp} (e : Ex F H) : ∀ (d : D) {v : V} {p : PyData}, Fd K F v d → D.py d = some p → Dp K H v p
  | .non, _, _, h, q => by cases h; cases q; exact .non
  | .bl _, _, _, h, q => by cases h; cases q; exact .bl _
  | .int _, _, _, h, q => by cases h; cases q; exact .int _
  | .str _, _, _, h, q => by cases h; cases q; exact .str _
  | .lst ds, _, _, h, q => by
    unfold D.py at q
    obtain ⟨ps, h1, rfl⟩ := Option.map_eq_some_iff.mp q
    cases h with
    | lst s a => exact .lst (SqL.of (e _ _ s)) (FdAll.dp e ds a h1)
  | .tup ds, _, _, h, q => by
    unfold D.py at q
    obtain ⟨ps, h1, rfl⟩ := Option.map_eq_some_iff.mp q
    cases h with
    | tup s a => exact .tup (ex_t e s) (FdAll.dp e ds a h1)
  | .adr _, _, _, h, q => by cases q
  | .ty _, _, _, h, q => by cases q
  | .ins _ _, _, _, h, q => by cases q
  | .scr _, _, _, h, q => by cases q
  | .dK _, _, _, h, q => by cases q
  | .dT _, _, _, h, q => by cases q
  | .exc _ _, _, _, h, q => by cases q
  | .kt _, _, _, h, q => by cases q
theorem FdAll.dp {F H : Hp} (e : Ex F H) : ∀ (ds : List D) {vs : List V} {ps : List PyData}, FdAll K F vs ds → D.pys ds = some ps → DpAll K H vs ps
  | [], _, _, h, q => by cases h; cases q; exact .nil
  | d :: r, _, _, h, q => by
    unfold D.pys at q
    obtain ⟨a, h1, q⟩ := Option.bind_eq_some_iff.mp q
    obtain ⟨b, h2, rfl⟩ := Option.map_eq_some_iff.mp q
    cases h with
    | cons x y => exact .cons (Fd.dp e d x h1) (FdAll.dp e r y h2)
end
theorem o_neD {p q : PyData} (h1 : d1.py = some p) (h2 : d2.py = some q) (s1 : SeqAt.shaped p = true) (s2 : SeqAt.shaped q = true) : Op2 K l (rNeD K) d1 d2 (.bl (!PyData.eqv p q)) := fun F M H v u Q eF eM dj rs f1 f2 k =>
  ⟨p, q, Fd.dp eF _ f1 h1, Fd.dp eF _ f2 h2, s1, s2, k _ F H (.rf eF) (.bl _)⟩
end

/-! ### a def's promise -/
/-- called with the data args a (owned: own a), where ok a holds, it gives back what post tells, or raises what epost tells -/
def FnX (K : PySem.W.Frag) {α : Type} (ok : α → Prop) (args : α → List D) (own : α → List Res) (post : α → D → List Res → Prop) (epost : α → Value → Option Addr → List Res → Prop) : Sp := fun vs H Q E =>
  ∃ (a : α) (F M : Hp), ok a ∧ Ex F H ∧ Ex M H ∧ Dj F M ∧ FdAll K F vs (args a) ∧ Rs (own a) F M ∧
    (∀ v d l' H', post a d l' → S K ⟨F, M, H⟩ [] (Tm.tt.and K v d) l' [] H' → Q v H') ∧ (∀ cls d l' H', epost a cls d l' → S K ⟨F, M, H⟩ [] Tm.tt l' [] H' → E cls d H')
abbrev noE {α : Type} : α → Value → Option Addr → List Res → Prop := fun _ _ _ _ => False
/-- a def that changes nothing and gives back f a -/
abbrev Pu (K : PySem.W.Frag) {α : Type} (ok : α → Prop) (args : α → List D) (f : α → D) : Sp := FnX K ok args (fun _ => []) (fun a d l' => d = f a ∧ l' = []) noE
section
variable {P : Program} {w : World} {K : PySem.W.Frag} {mg : Str → Option Value} {base : Heap}
theorem fn_ok {α : Type} {ok : α → Prop} {args : α → List D} {own : α → List Res} {post : α → D → List Res → Prop} {epost : α → Value → Option Addr → List Res → Prop} {x qual : Str} {st : Stmt} {f : Addr} {fd : FuncData} {N ps : List Str} {k : Nat}
    (F : Fun K x qual st f fd) (Sc : FnScope N ps (defScope st)) (hlen : ∀ a, (args a).length = ps.length)
    (hbody : ∀ (cdv : Value) (A : Around) (outer : List Env) (s : Shared) (H : Hp) (E : XK) (a : α), Room k (A.deeper (PyProof.Rows.envOfC qual (defScope st) s.heap.objs.size f cdv)) → ok a →
      Blk (cxOf CX0 P w K mg base N qual (defScope st) f cdv A outer s H E).nox (fun _ _ _ _ => False) (defBody st) ((args a).map some ++ List.replicate (N.length - (args a).length) none) (own a) { nx := fun _ l' => post a .non l', rt := post a }) :
    FnOk P w K mg base CX0 (k + 1) f fd ps (FnX K ok args own post epost) := by
  refine F.ok Sc (fun vs H Q E h => ?_) (fun cdv A outer s H vs Q E hr h => ⟨wpS _ (defBody st), pss_wp, ?_⟩)
  · obtain ⟨a, _, _, _, _, _, _, h, _⟩ := h
    rw [h.length, hlen]
  · obtain ⟨a, F, M, hok, eF, eM, dj, fa, rs, hq, _⟩ := h
    have e : vs.length = (args a).length := fa.length
    refine hbody cdv A outer s H E a hr hok ⟨F, M, H⟩ Tm.tt _ H _ ⟨F, M, At.entry eF eM dj ?_ trivial rs⟩ ⟨fun g l σ H' p s' => ?_, fun d l v H' p s' => hq v d l H' p s', fun _ _ _ _ h => h.elim, fun _ _ _ _ h => h.elim, fun _ _ _ _ _ _ h => h.elim⟩
    · unfold L2.start
      rw [e]
      exact Sl.args _ fa
    · obtain ⟨F', M', q⟩ := s'
      exact hq .non .non l H' p ⟨F', M', (q.tmp (T' := Tm.tt.and K .non .non) ⟨.non, trivial⟩).slots .nil⟩
theorem fn_okX {α : Type} {ok : α → Prop} {args : α → List D} {own : α → List Res} {post : α → D → List Res → Prop} {epost : α → Value → Option Addr → List Res → Prop} {x qual : Str} {st : Stmt} {f : Addr} {fd : FuncData} {N ps : List Str} {k : Nat}
    (F : Fun K x qual st f fd) (Sc : FnScope N ps (defScope st)) (hlen : ∀ a, (args a).length = ps.length)
    (hbody : ∀ (cdv : Value) (A : Around) (outer : List Env) (s : Shared) (H : Hp) (E : XK) (a : α), Room k (A.deeper (PyProof.Rows.envOfC qual (defScope st) s.heap.objs.size f cdv)) → ok a →
      Blk (cxOf (L2.CX P w) P w K mg base N qual (defScope st) f cdv A outer s H E) (fun cls d _ H => E cls d H) (defBody st) ((args a).map some ++ List.replicate (N.length - (args a).length) none) (own a) { nx := fun _ l' => post a .non l', rt := post a, ex := fun cls d _ l' => epost a cls d l' }) :
    FnOk P w K mg base (L2.CX P w) (k + 1) f fd ps (FnX K ok args own post epost) := by
  refine F.okX Sc (fun vs H Q E h => ?_) (fun cdv A outer s H vs Q E hr h => ⟨wpS _ (defBody st), pss_wp, ?_⟩)
  · obtain ⟨a, _, _, _, _, _, _, h, _⟩ := h
    rw [h.length, hlen]
  · obtain ⟨a, F, M, hok, eF, eM, dj, fa, rs, hq, he⟩ := h
    have e : vs.length = (args a).length := fa.length
    refine hbody cdv A outer s H E a hr hok ⟨F, M, H⟩ Tm.tt _ H _ ⟨F, M, At.entry eF eM dj ?_ trivial rs⟩ ⟨fun g l σ H' p s' => ?_, fun d l v H' p s' => hq v d l H' p s', fun _ _ _ _ h => h.elim, fun _ _ _ _ h => h.elim, fun cls d g l σ H' p s' => he cls d l H' p s'.slotless⟩
    · unfold L2.start
      rw [e]
      exact Sl.args _ fa
    · obtain ⟨F', M', q⟩ := s'
      exact hq .non .non l H' p ⟨F', M', (q.tmp (T' := Tm.tt.and K .non .non) ⟨.non, trivial⟩).slots .nil⟩
/-- a def of the module under its name, with its promise -/
def Glo (P : Program) (w : World) (K : PySem.W.Frag) (mg : Str → Option Value) (base : Heap) (k : Nat) (x : Str) (ps : List Str) (sp : Sp) : Prop :=
  ∃ f fd, FnOk P w K mg base CX0 k f fd ps sp ∧ mg x = some (.ref f) ∧ PySem.W.keepIn K (.ref f) = true ∧ Binds K fd ps []
/-- a class's method, with its promise -/
def GloM (P : Program) (w : World) (K : PySem.W.Frag) (mg : Str → Option Value) (base : Heap) (k : Nat) (C : Addr) (m : Str) (ps : List Str) (sp : Sp) : Prop :=
  ∃ f fd, FnOk P w K mg base CX0 k f fd ps sp ∧ Cls K C ∧ Meth K C m f ∧ Binds K fd ps []
/-- a class under its name with its __init__ -/
def GloC (P : Program) (w : World) (K : PySem.W.Frag) (mg : Str → Option Value) (base : Heap) (k : Nat) (C : Addr) (x : Str) (ps : List Str) (sp : Sp) : Prop :=
  ∃ f fd, FnOk P w K mg base CX0 k f fd ps sp ∧ Mk K C f ∧ mg x = some (.ref C) ∧ Binds K fd ps []
end

section
variable {X : Cx} {W : WX} {g g' : Gm} {l l' : List Res} {Φ : Po} {e e2 a b c o : Expr} {es : List Expr} {d d1 d2 d3 : D} {pos p p2 : Pos} {rest : List Stmt}
/-- o.m(es) is got as a method -/
abbrev MthE (X : Cx) (o : Expr) (m : Str) (apos pos : Pos) (es : List Expr) (pl : Sem Bool) : Prop := eval (.Call (.Attribute o m apos) es [] pos) X.env = (do let ov ← eval o X.env; standAt apos.atName; let (f, r) ← holding [ov] (getMethod ov m pl); callWith pos f r (backTo pos (starEach es X.env)) (backToKw pos (keywordEach [] X.env)))
/-- what a promise gives where the state is known -/
theorem FnX.use {α : Type} {ok : α → Prop} {args : α → List D} {own : α → List Res} {post : α → D → List Res → Prop} {epost : α → Value → Option Addr → List Res → Prop} {K : PySem.W.Frag} {en : En} {T : Tm} {σ : L2.St} {H : Hp} {vs : List V} {lr : List Res} {Q : VK} {E : XK}
    (a : α) (hok : ok a) (s : S K en g (T.ands K vs (args a)) (own a ++ lr) σ H) (hq : ∀ v d l' H', post a d l' → S K en g (T.and K v d) (l' ++ lr) σ H' → Q v H') (he : ∀ cls d l' H', epost a cls d l' → S K en g T (l' ++ lr) σ H' → E cls d H') :
    FnX K ok args own post epost vs H Q E := by
  obtain ⟨F, M, q⟩ := s
  obtain ⟨A, B, rfl, dj, r1, r2⟩ := q.rs.split
  refine ⟨a, F, A, hok, q.exF, q.exM.joinL, (Dj.l q.dj.sym).sym, q.tm.1, r1, fun v d l' H' hp s' => ?_, fun cls d l' H' hp s' => ?_⟩
  · obtain ⟨F2, M2, b⟩ := s'
    have z := (q.tmp (T' := T) q.tm.2).frame dj r2 b
    exact hq v d l' H' hp ⟨F2, _, z.tmp ⟨b.tm.1, z.tm⟩⟩
  · obtain ⟨F2, M2, b⟩ := s'
    have z := (q.tmp (T' := T) q.tm.2).frame dj r2 b
    exact he cls d l' H' hp ⟨F2, _, z⟩
theorem ev_call {α : Type} {ok : α → Prop} {args : α → List D} {own : α → List Res} {post : α → D → List Res → Prop} {x : Str} {ps : List Str} {k j : Nat} {lr : List Res} {Psi : D → List Res → Prop}
    (G : Glo X.prog X.w X.K X.mg X.base k x ps (FnX X.K ok args own post noE)) (hr : Room j X.A) (hj : k ≤ j) (a : α) (hok : ok a) (ha : Pa X (e :: es) g (own a ++ lr) (args a)) (hq : ∀ d l', post a d l' → Psi d (l' ++ lr))
    (hg : Gl X x := by rfl) (hdb : (x == ("__debug__" : Str)) = false := by decide) (he : starEach (e :: es) X.env = (false, eval e X.env) :: starEach es X.env := by rfl) (hpl : (backTo pos (starEach es X.env)).any (·.1) = false := by rfl) :
    Ev X (.Call (.Name x p) (e :: es) [] pos) g (own a ++ lr) Psi := fun en T σ H Q s kk => by
  obtain ⟨f, fd, F, hm, hk, hb⟩ := G
  refine wpE_of (pe_call F (hr.mono hj) hg hm hk hb .nil pass0 pa_wp hdb he hpl) ?_
  refine ha en T σ H _ s fun vs H1 s1 => ?_
  rw [List.append_nil]
  exact FnX.use a hok s1 (fun v d l' H' hp s' => kk v d _ H' (hq d l' hp) s') fun _ _ _ _ h => h.elim
/-- a def that changes nothing -/
theorem px_call {α : Type} {ok : α → Prop} {args : α → List D} {f : α → D} {x : Str} {ps : List Str} {k j : Nat} 
    (G : Glo X.prog X.w X.K X.mg X.base k x ps (Pu X.K ok args f)) (hr : Room j X.A) (hj : k ≤ j) (a : α) (hok : ok a) (ha : Pa X (e :: es) g l (args a))
    (hg : Gl X x := by rfl) (hdb : (x == ("__debug__" : Str)) = false := by decide) (he : starEach (e :: es) X.env = (false, eval e X.env) :: starEach es X.env := by rfl) (hpl : (backTo pos (starEach es X.env)).any (·.1) = false := by rfl) :
    Px X (.Call (.Name x p) (e :: es) [] pos) g l (f a) :=
  Ev.px (ev_call (lr := l) (own := fun _ => []) G hr hj a hok ha (fun d l' h => ⟨h.1, by rw [h.2]; rfl⟩) hg hdb he hpl)
/-- o.m(..) -/
theorem ev_meth {α : Type} {ok : α → Prop} {args : α → List D} {own : α → List Res} {post : α → D → List Res → Prop} {C : Addr} {m : Str} {ps : List Str} {k j : Nat} {lr : List Res} {Psi : D → List Res → Prop} {ds : List D} {apos : Pos} {pl : Sem Bool}
    (G : GloM X.prog X.w X.K X.mg X.base k C m ps (FnX X.K ok args own post noE)) (hr : Room j X.A) (hj : k ≤ j) (a : α) (hok : ok a) (ho : Px X o g (own a ++ lr) d1)
    (hd : ∀ F M H v, Ex F H → Ex M H → Rs (own a ++ lr) F M → Fd X.K F v d1 → ∃ q dx fs, v = .ref q ∧ H q = some (.ins C dx fs) ∧ fs.lookup m = none)
    (ha : Pa X (e :: es) g (own a ++ lr) ds) (hds : args a = d1 :: ds) (hq : ∀ d l', post a d l' → Psi d (l' ++ lr))
    (hst : starEach (e :: es) X.env = (false, eval e X.env) :: starEach es X.env := by rfl) (hpl : (backTo pos (starEach es X.env)).any (·.1) = false := by rfl)
    (ht : MthE X o m apos pos (e :: es) pl := by rfl) :
    Ev X (.Call (.Attribute o m apos) (e :: es) [] pos) g (own a ++ lr) Psi := fun en T σ H Q s kk => by
  obtain ⟨f, fd, F, hc, hm, hb⟩ := G
  refine wpE_of (pe_meth pe_wp hc hm F (hr.mono hj) hb .nil pass0 pa_wp hst hpl ht) ?_
  refine ho en T σ H _ s fun v H1 s1 => ?_
  have s1' := s1
  obtain ⟨F1, M1, q1⟩ := s1
  obtain ⟨q, dx, fs, rfl, h1, h2⟩ := hd F1 M1 H1 v q1.exF q1.exM q1.rs q1.tm.1
  refine ⟨q, dx, fs, rfl, h1, h2, ?_⟩
  refine ha en _ σ H1 _ s1' fun vs H2 s2 => ?_
  rw [List.append_nil]
  refine FnX.use a hok (T := T) (g := g) (en := en) (σ := σ) (lr := lr) ?_ (fun v d l' H' hp s' => kk v d _ H' (hq d l' hp) s') fun _ _ _ _ h => h.elim
  obtain ⟨F, M, q⟩ := s2
  exact ⟨F, M, q.tmp ⟨by rw [hds]; exact .cons q.tm.2.1 q.tm.1, q.tm.2.2⟩⟩
theorem ev_meth0 {α : Type} {ok : α → Prop} {args : α → List D} {own : α → List Res} {post : α → D → List Res → Prop} {C : Addr} {m : Str} {ps : List Str} {k j : Nat} {lr : List Res} {Psi : D → List Res → Prop} {apos : Pos} {pl : Sem Bool}
    (G : GloM X.prog X.w X.K X.mg X.base k C m ps (FnX X.K ok args own post noE)) (hr : Room j X.A) (hj : k ≤ j) (a : α) (hok : ok a) (ho : Px X o g (own a ++ lr) d1)
    (hd : ∀ F M H v, Ex F H → Ex M H → Rs (own a ++ lr) F M → Fd X.K F v d1 → ∃ q dx fs, v = .ref q ∧ H q = some (.ins C dx fs) ∧ fs.lookup m = none)
    (hds : args a = [d1]) (hq : ∀ d l', post a d l' → Psi d (l' ++ lr))
    (ht : MthE X o m apos pos [] pl := by rfl) :
    Ev X (.Call (.Attribute o m apos) [] [] pos) g (own a ++ lr) Psi := fun en T σ H Q s kk => by
  obtain ⟨f, fd, F, hc, hm, hb⟩ := G
  refine wpE_of (pe_meth0 pe_wp hc hm F (hr.mono hj) hb .nil pass0 ht) ?_
  refine ho en T σ H _ s fun v H1 s1 => ?_
  have s1' := s1
  obtain ⟨F1, M1, q1⟩ := s1
  obtain ⟨q, dx, fs, rfl, h1, h2⟩ := hd F1 M1 H1 v q1.exF q1.exM q1.rs q1.tm.1
  refine ⟨q, dx, fs, rfl, h1, h2, ?_⟩
  show FnX _ _ _ _ _ _ (V.ref q :: ([] ++ [])) H1 Q _
  refine FnX.use a hok (T := T) (g := g) (en := en) (σ := σ) (lr := lr) ?_ (fun v d l' H' hp s' => kk v d _ H' (hq d l' hp) s') fun _ _ _ _ h => h.elim
  exact ⟨F1, M1, q1.tmp ⟨by rw [hds]; exact .cons q1.tm.1 .nil, q1.tm.2⟩⟩
/-- the receiver: a frozen instance, an owned one -/
theorem rc_ins {K : PySem.W.Frag} {C : Addr} {fs : List (Str × D)} {m : Str} (h : fs.lookup m = none) : ∀ F M H v, Ex F H → Ex M H → Rs l F M → Fd K F v (.ins C fs) → ∃ q dx fs, v = .ref q ∧ H q = some (.ins C dx fs) ∧ fs.lookup m = none := fun F M H v eF eM rs f => by
  cases f with
  | ins h1 h2 => exact ⟨_, _, _, rfl, eF _ _ h1, h2.nolook h⟩
theorem px_meth {α : Type} {ok : α → Prop} {args : α → List D} {f : α → D} {C : Addr} {m : Str} {ps : List Str} {k j : Nat} {ds : List D} {apos : Pos} {pl : Sem Bool} {fs : List (Str × D)}
    (G : GloM X.prog X.w X.K X.mg X.base k C m ps (Pu X.K ok args f)) (hr : Room j X.A) (hj : k ≤ j) (a : α) (hok : ok a) (ho : Px X o g l (.ins C fs)) (hfs : fs.lookup m = none) (ha : Pa X (e :: es) g l ds) (hds : args a = .ins C fs :: ds)
    (hst : starEach (e :: es) X.env = (false, eval e X.env) :: starEach es X.env := by rfl) (hpl : (backTo pos (starEach es X.env)).any (·.1) = false := by rfl)
    (ht : MthE X o m apos pos (e :: es) pl := by rfl) : Px X (.Call (.Attribute o m apos) (e :: es) [] pos) g l (f a) :=
  Ev.px (ev_meth (lr := l) (own := fun _ => []) G hr hj a hok ho (rc_ins hfs) ha hds (fun d l' h => ⟨h.1, by rw [h.2]; rfl⟩) hst hpl ht)
/-- C(..), C with an own __init__ -/
theorem ev_make {α : Type} {ok : α → Prop} {args : α → List D} {own : α → List Res} {post : α → D → List Res → Prop} {C : Addr} {x : Str} {ps : List Str} {k j : Nat} {lr : List Res} {Psi : D → List Res → Prop} {ds : List D}
    (G : GloC X.prog X.w X.K X.mg X.base k C x ps (FnX X.K ok args own post noE)) (hr : Room j X.A) (hj : k + 1 ≤ j) (a : Addr → α) (hok : ∀ q, ok (a q)) (ha : Pa X (e :: es) g lr ds)
    (hds : ∀ q, args (a q) = .adr q :: ds) (hown : ∀ q, own (a q) = [ownI X.K q C []]) (hq : ∀ q d l', post (a q) d l' → d = .non ∧ Psi (.adr q) (l' ++ lr))
    (hg : Gl X x := by rfl) (hdb : (x == ("__debug__" : Str)) = false := by decide) (he : starEach (e :: es) X.env = (false, eval e X.env) :: starEach es X.env := by rfl) (hpl : (backTo pos (starEach es X.env)).any (·.1) = false := by rfl) :
    Ev X (.Call (.Name x p) (e :: es) [] pos) g lr Psi := fun en T σ H Q s kk => by
  obtain ⟨f, fd, F, M, hm, hb⟩ := G
  refine wpE_of (pe_make M F (hr.mono hj) hg hm hb .nil pass0 pa_wp hdb he hpl) ?_
  refine ha en T σ H _ s fun vs H1 s1 => ?_
  intro x dx nx ndx ne
  rw [List.append_nil]
  obtain ⟨F1, M1, q1⟩ := s1
  have n2 : (upd H1 dx (.own x)) x = none := by rw [upd_ne (Ne.symm ne)]; exact nx
  have q2 := q1.newO (r := ownI X.K x C []) (A := join (one x (.ins C dx [])) (one dx (.own x))) (H' := upd (upd H1 dx (.own x)) x (.ins C dx [])) ((Ex.new ndx).tr (.new n2))
    (fun y o z => by
      rcases join_some z with w | ⟨w, w'⟩
      · obtain ⟨rfl, rfl⟩ := one_some w; exact upd_same
      · obtain ⟨rfl, rfl⟩ := one_some w'
        rw [upd_ne ne, upd_same])
    (fun y o z => by
      rcases join_some z with w | ⟨w, w'⟩
      · obtain ⟨rfl, rfl⟩ := one_some w; exact nx
      · obtain ⟨rfl, rfl⟩ := one_some w'; exact ndx) ⟨[], dx, ne, .nil, rfl⟩
  have s2 : S X.K en g ((T.and X.K (.ref x) (.adr x)).ands X.K (.ref x :: vs) (args (a x))) (own (a x) ++ lr) σ (upd (upd H1 dx (.own x)) x (.ins C dx [])) := by
    rw [hown]
    exact ⟨F1, _, q2.tmp ⟨by rw [hds]; exact .cons (.adr x) q1.tm.1, .adr x, q1.tm.2⟩⟩
  refine FnX.use (a x) (hok x) s2 (fun v d l' H' hp s' => ?_) fun _ _ _ _ h => h.elim
  · obtain ⟨e1, e2⟩ := hq x d l' hp
    subst e1
    obtain ⟨F3, M3, q3⟩ := s'
    have f3 := q3.tm.1
    cases f3
    exact ⟨rfl, kk _ _ _ H' e2 ⟨F3, M3, q3.tmp q3.tm.2⟩⟩
/-- an instance just made is frozen -/
theorem Ev.frzI {C : Addr} {fs : List (Str × D)} (h : Ev X e g l (fun d' l' => ∃ p, d' = .adr p ∧ l' = ownI X.K p C fs :: l)) : Px X e g l (.ins C fs) := fun en T σ H Q s k => h en T σ H Q s fun v d l' H' p s' => by
  obtain ⟨p, rfl, rfl⟩ := p
  obtain ⟨F, M, q⟩ := s'
  have hv := q.tm.1
  cases hv
  obtain ⟨F', M', q', f, _⟩ := q.frz (P := fun F' => Fd X.K F' (.ref p) (.ins C fs)) fun A hA => by
    obtain ⟨vs, dx, n, f, rfl⟩ := hA
    have hF : F p = none := by
      obtain ⟨A, B, rfl, _, ⟨_, dx, n, _, rfl⟩, _⟩ := q.rs
      exact q.dj.sym p _ (join_l (join_l one_same))
    exact .ins (by rw [join_r hF]; exact join_l one_same) (FdFs.mono (fun x o h => join_l h) _ f)
  exact k _ H' ⟨F', M', q'.tmp ⟨f, q'.tm.2⟩⟩
/-- self.f = e, self an owned instance -/
theorem blk_fld {k : Nat} {C q : Addr} {fs : List (Str × D)} {f : Str} {pos' : Pos} (he : Px X e g l d) (ho : Px X o g l (.adr q)) (hk : l[k]? = some (ownI X.K q C fs)) (hc : Cls X.K C) (hn : NoAttr X.K C f) (hz : fs.length < 1000)
    (h : Blk X W rest g (l.set k (ownI X.K q C (putD f d fs))) Φ) (hs : swapsWith e (some (.Attribute o f pos')) pos.line X.env = pure false := by rfl) : Blk X W (.Assign [.Attribute o f pos'] e pos :: rest) g l Φ := fun en T σ H D s m => wpS_of (pss_cons (ps_fld pe_wp pe_wp hs) pss_wp) (by
  refine he en T σ H _ s fun v H1 s1 => ?_
  refine ho en _ σ H1 _ s1 fun u H2 s2 => ?_
  obtain ⟨F, M, q2⟩ := s2
  have fu := q2.tm.1
  cases fu
  obtain ⟨dx, vs, ff, hp⟩ := q2.rs.ins hk q2.exM
  refine ⟨q, C, dx, vs, rfl, hp, hc, hn, by rw [ff.length]; exact hz, ?_⟩
  obtain ⟨M', q'⟩ := (q2.tmp (T' := T) q2.tm.2.2).putI hk hp (ff.put q2.tm.2.1)
  exact h en T σ _ D ⟨F, M', q'⟩ m)
/-! ### targets -/
def setsV (σ : L2.St) : List Nat → List V → L2.St
  | i :: is, v :: vs => setsV (σ.set i (some v)) is vs
  | _, _ => σ
def sets (g : Gm) : List Nat → List D → Gm
  | i :: is, d :: ds => sets (g.set i (some d)) is ds
  | _, _ => g
theorem Sl.sets {K : PySem.W.Frag} {F : Hp} : ∀ {is : List Nat} {g : Gm} {σ : L2.St} {vs : List V} {ds : List D}, Sl K F g σ → FdAll K F vs ds → Sl K F (sets g is ds) (setsV σ is vs)
  | [], _, _, _, _, h, .nil => h
  | [], _, _, _, _, h, .cons _ _ => h
  | _ :: _, _, _, _, _, h, .nil => h
  | i :: is, _, _, _, _, h, .cons a b => Sl.sets (is := is) (h.set i a) b
/-- a target takes a datum apart into the slots is -/
def Tg (K : PySem.W.Frag) (t : TG) (is : List Nat) (d : D) (ds : List D) : Prop := ∀ F H v σ (Q : L2.St → Hp → Prop), Ex F H → Fd K F v d → (∀ vs, FdAll K F vs ds → Q (setsV σ is vs) H) → t v σ H Q
theorem tg_name {K : PySem.W.Frag} {i : Nat} : Tg K (gName i) [i] d [d] := fun F H v σ Q e f k => k [v] (.cons f .nil)
theorem tg_seq {K : PySem.W.Frag} : ∀ {is : List Nat} {ds : List D} {vs : List V} {F H : Hp} {σ : L2.St} {Q : L2.St → Hp → Prop}, is.length = ds.length → FdAll K F vs ds → Q (setsV σ is vs) H → (is.foldr (fun i t => gCons (gName i) t) gNil) vs σ H Q
  | [], [], _, _, _, _, _, _, .nil, h => ⟨rfl, h⟩
  | i :: is, d :: ds, _, _, _, σ, _, e, .cons (v := v) a b, h => ⟨_, _, rfl, tg_seq (is := is) (by simpa using e) b h⟩
  | [], _ :: _, _, _, _, _, _, e, _, _ => by cases e
  | _ :: _, [], _, _, _, _, _, e, _, _ => by cases e
theorem tg_tup {K : PySem.W.Frag} {is : List Nat} {ds : List D} {n : Nat} (h : is.length = ds.length) (hn : ds.length = n) : Tg K (gTup K n (is.foldr (fun i t => gCons (gName i) t) gNil)) is (.tup ds) ds := fun F H v σ Q e f k => by
  cases f with
  | tup s a => exact ⟨_, _, rfl, ex_t e s, by rw [a.length]; exact hn, tg_seq h a (k _ a)⟩
/-! ### walks -/
/-- the iterator J gives the data ds, one after another, while F stands -/
def JG (K : PySem.W.Frag) (lk : List Res) (F : Hp) (J : It) (ds : List D) : Prop := ∀ F' M' H, Ex F F' → Ex F' H → Ex M' H → Rs lk F' M' → (∀ i, i < ds.length → J.go i H) ∧ J.stop ds.length H ∧ ∀ i d x H', ds[i]? = some d → J.yld i H x H' → ∃ F'', New F' H F'' H' ∧ Fd K F'' x d
def ItwP (X : Cx) (tg iter : Expr) (g : Gm) (l lk : List Res) (ds : List D) : Prop := ∃ wi, PI X tg iter wi ∧ ∀ en T σ H (R : It → Hp → Prop), S X.K en g T l σ H → (∀ J H1 F M, At X.K en g T l σ H1 F M → JG X.K lk F J ds → R J H1) → wi σ H R
abbrev Itw (X : Cx) (tg iter : Expr) (g : Gm) (l : List Res) (ds : List D) : Prop := ItwP X tg iter g l [] ds
theorem jg_list {lk : List Res} {K : PySem.W.Frag} {F : Hp} {a : Addr} {vs : List V} {ds : List D} (s : SqL K F a vs) (f : FdAll K F vs ds) : JG K lk F (Itl K a) ds := fun F' M' H e1 e2 _ _ => by
  have s2 : SqL K H a vs := ex_l (e1.tr e2) s
  refine ⟨fun i hi => ?_, ⟨vs, s2, by rw [f.length]; exact Nat.le_refl _⟩, fun i d x H' hd hy => ?_⟩
  · have q : i < vs.length := by rw [f.length]; exact hi
    exact ⟨vs, vs[i], s2, List.getElem?_eq_getElem q⟩
  · obtain ⟨rfl, h⟩ := hy
    obtain ⟨v, h1, h2⟩ := f.get hd
    have e := h vs s2
    rw [h1] at e
    cases e
    exact ⟨F', .rf e2, h2.mono e1⟩
theorem jg_tup {lk : List Res} {K : PySem.W.Frag} {F : Hp} {a : Addr} {vs : List V} {ds : List D} (s : SqT K F a vs) (f : FdAll K F vs ds) : JG K lk F (Itt K a) ds := fun F' M' H e1 e2 _ _ => by
  have s2 : SqT K H a vs := ex_t (e1.tr e2) s
  refine ⟨fun i hi => ?_, ⟨vs, s2, by rw [f.length]; exact Nat.le_refl _⟩, fun i d x H' hd hy => ?_⟩
  · have q : i < vs.length := by rw [f.length]; exact hi
    exact ⟨vs, vs[i], s2, List.getElem?_eq_getElem q⟩
  · obtain ⟨rfl, h⟩ := hy
    obtain ⟨v, h1, h2⟩ := f.get hd
    have e := h vs s2
    rw [h1] at e
    cases e
    exact ⟨F', .rf e2, h2.mono e1⟩
theorem it_list {tg : Expr} {ds : List D} (h : Px X e g l (.lst ds)) : Itw X tg e g l ds := ⟨_, pi_list pe_wp, fun en T σ H R s k => h en T σ H _ s fun v H1 s1 => by
  obtain ⟨F, M, q⟩ := s1
  obtain ⟨f, t⟩ := q.tm
  cases f with
  | lst sq a => exact ⟨_, rfl, ⟨_, SqL.of (q.exF _ _ sq)⟩, k _ H1 F M (q.tmp t) (jg_list (SqL.of sq) a)⟩⟩
theorem it_tup {tg : Expr} {ds : List D} (h : Px X e g l (.tup ds)) : Itw X tg e g l ds := ⟨_, pi_tup pe_wp, fun en T σ H R s k => h en T σ H _ s fun v H1 s1 => by
  obtain ⟨F, M, q⟩ := s1
  obtain ⟨f, t⟩ := q.tm
  cases f with
  | tup sq a => exact ⟨_, rfl, ⟨_, ex_t q.exF sq⟩, k _ H1 F M (q.tmp t) (jg_tup sq a)⟩⟩
def rng (lo : Int) (n : Nat) : List D := (List.range n).map fun i : Nat => D.int (lo + (i : Int))
theorem rng_len {lo : Int} {n : Nat} : (rng lo n).length = n := by unfold rng; rw [List.length_map, List.length_range]
theorem rng_get {lo : Int} {n i : Nat} {d : D} (h : (rng lo n)[i]? = some d) : i < n ∧ d = .int (lo + (i : Int)) := by
  unfold rng at h
  rw [List.getElem?_map] at h
  cases q : (List.range n)[i]? with
  | none => rw [q] at h; cases h
  | some j =>
    rw [q] at h
    obtain ⟨h1, h2⟩ := List.getElem?_eq_some_iff.mp q
    rw [List.length_range] at h1
    rw [List.getElem_range] at h2
    subst h2
    exact ⟨h1, (Option.some.inj h).symm⟩
theorem jg_range {lk : List Res} {K : PySem.W.Frag} {F : Hp} {lo : Int} {n : Nat} : JG K lk F (L2.Itr lo n) (rng lo n) := fun F' M' H e1 e2 _ _ => by
  refine ⟨fun i hi => by rw [rng_len] at hi; exact hi, by show n ≤ _; rw [rng_len]; exact Nat.le_refl _, fun i d x H' hd hy => ?_⟩
  obtain ⟨rfl, rfl⟩ := hy
  obtain ⟨_, rfl⟩ := rng_get hd
  exact ⟨F', .rf e2, .int _⟩
theorem it_range {tg : Expr} {j : Int} {pp : Pos} (h : Px X e g l (.int j)) (h1 : -(2 ^ 62) ≤ j) (h2 : j < 2 ^ 62) (hm : X.mg "range" = none) (hg : Gl X "range" := by rfl) (hs : starEach [e] X.env = [(false, eval e X.env)] := by rfl) : Itw X tg (.Call (.Name "range" p) [e] [] pp) g l (rng 0 j.toNat) :=
  ⟨_, pi_range1 hg hm (pa_wp (es := [e])) hs, fun en T σ H R s k => pa_c h pa_n hs en T σ H _ s fun vs H1 s1 => by
  obtain ⟨F, M, q⟩ := s1
  obtain ⟨f, t⟩ := q.tm
  cases f with
  | cons a b =>
    cases a; cases b
    exact ⟨j, rfl, h1, h2, k _ H1 F M (q.tmp t) jg_range⟩⟩
/-- pairs of a number and an item -/
def enumD (ds : List D) : List D := ds.zipIdx.map fun q => D.tup [.int (q.2 : Nat), q.1]
theorem enumD_len {ds : List D} : (enumD ds).length = ds.length := by unfold enumD; rw [List.length_map, List.length_zipIdx]
theorem enumD_get {ds : List D} {i : Nat} {d : D} (h : (enumD ds)[i]? = some d) : ∃ d', ds[i]? = some d' ∧ d = .tup [.int (i : Nat), d'] := by
  unfold enumD at h
  rw [List.getElem?_map, List.getElem?_zipIdx] at h
  cases q : ds[i]? with
  | none => rw [q] at h; cases h
  | some d' =>
    rw [q] at h
    refine ⟨d', rfl, ?_⟩
    have e := Option.some.inj h
    rw [← e]
    simp
theorem jg_enum {lk : List Res} {K : PySem.W.Frag} {F : Hp} {a : Addr} {vs : List V} {ds : List D} (s : SqL K F a vs) (f : FdAll K F vs ds) : JG K lk F (Ite K a) (enumD ds) := fun F' M' H e1 e2 _ _ => by
  have s2 : SqL K H a vs := ex_l (e1.tr e2) s
  refine ⟨fun i hi => ?_, ⟨vs, s2, by rw [enumD_len, f.length]; exact Nat.le_refl _⟩, fun i d x H' hd hy => ?_⟩
  · have q : i < vs.length := by rw [f.length]; rw [enumD_len] at hi; exact hi
    exact ⟨vs, vs[i], s2, List.getElem?_eq_getElem q⟩
  · obtain ⟨T, y, rfl, hT, rfl, h⟩ := hy
    obtain ⟨d', hd', rfl⟩ := enumD_get hd
    obtain ⟨v, h1, h2⟩ := f.get hd'
    have e := Option.some.inj (h1.symm.trans (h vs s2))
    subst e
    have n := New.upd (o := .tup [.int (i : Nat), v]) e2 hT
    exact ⟨_, n, .tup (SqT.of upd_same) (.cons (.int _) (.cons (h2.mono (e1.tr n.f)) .nil))⟩
theorem it_enum {elts : List Expr} {kk : Nat} {tpos pp : Pos} {ds : List D} (h : Px X e g l (.lst ds)) (hm : X.mg "enumerate" = none) (hg : Gl X "enumerate" := by rfl) (hs : starEach [e] X.env = [(false, eval e X.env)] := by rfl) : Itw X (.Tuple elts kk tpos) (.Call (.Name "enumerate" p) [e] [] pp) g l (enumD ds) :=
  ⟨_, pi_enum hg hm (pa_wp (es := [e])) hs, fun en T σ H R s k => pa_c h pa_n hs en T σ H _ s fun vs H1 s1 => by
  obtain ⟨F, M, q⟩ := s1
  obtain ⟨f, t⟩ := q.tm
  cases f with
  | cons a b =>
    cases b
    cases a with
    | lst sq a => exact ⟨_, _, rfl, SqL.of (q.exF _ _ sq), k _ H1 F M (q.tmp t) (jg_enum (SqL.of sq) a)⟩⟩
def zipD (ds es : List D) : List D := (ds.zip es).map fun q => D.tup [q.1, q.2]
/-- text, sign by sign -/
def signs (x : Str) : List D := x.cps.toList.map fun c => D.str ⟨#[c]⟩
theorem it_str {tg : Expr} {x : Str} (h : Px X e g l (.str x)) : Itw X tg e g l (signs x) := ⟨_, pi_str pe_wp, fun en T σ H R s k => h en T σ H _ s fun v H1 s1 => by
  obtain ⟨F, M, q⟩ := s1
  obtain ⟨f, t⟩ := q.tm
  cases f
  refine ⟨x, rfl, k _ H1 F M (q.tmp t) fun F' M' H' e1 e2 _ _ => ?_⟩
  have el : (signs x).length = x.cps.size := by unfold signs; rw [List.length_map, Array.length_toList]
  refine ⟨fun i hi => by rw [el] at hi; exact hi, by show x.cps.size ≤ _; rw [el]; exact Nat.le_refl _, fun i d y H'' hd hy => ?_⟩
  obtain ⟨rfl, c, hc, rfl⟩ := hy
  unfold signs at hd
  rw [List.getElem?_map, Array.getElem?_toList, hc] at hd
  cases hd
  exact ⟨F', .rf e2, .str _⟩⟩
/-- for target in ..: body -/
theorem blk_for {tg iter : Expr} {lk : List Res} {body : List Stmt} {gt : TG} {is : List Nat} {ds : List D} (I : Nat → Gm → List Res → Prop) (hp : PassesOwn (model X.prog X.w) X.A X.env X.xe) (hc : X.calm = true) (hi : ItwP X tg iter g l lk ds) (hg : PG X tg gt) (h0 : I 0 g l)
    (hs : ∀ i d g' l', ds[i]? = some d → I i g' l' → ∃ es, Tg X.K gt is d es ∧ Blk X W body (sets g' is es) l' { nx := I (i + 1), ct := I (i + 1), bk := fun g2 l2 => Blk X W rest g2 l2 Φ, rt := Φ.rt, ex := Φ.ex })
    (hd : ∀ g' l', I ds.length g' l' → Blk X W rest g' l' Φ) (hf : ∀ x, foldedSetIterable iter X.env x = pure x := by intro _; rfl) (hk : ∀ i g' l', I i g' l' → SubR l' lk := by intro i g' l' h; exact subr0) : Blk X W (.For tg iter body [] pos :: rest) g l Φ := fun en T σ H D s m => by
  obtain ⟨wi, pi, hw⟩ := hi
  refine wpS_of (pss_cons (ps_for hp hc pi hg pss_wp hf) pss_wp) ?_
  refine hw en T σ H _ s fun J H1 F0 M0 q0 jg => ?_
  refine ⟨fun i m σ' H' => i + m = ds.length ∧ ∃ g' l', I i g' l' ∧ S X.K en g' (T.ex F0) l' σ' H', ⟨ds.length, by simp, g, l, h0, F0, M0, q0.tmp ⟨.rf, q0.tm⟩⟩, fun i n σ' H' hW => ?_⟩
  obtain ⟨em, g', l', hI, F, M, q⟩ := hW
  obtain ⟨Mk, rk, ek⟩ := Rs.sub (hk i g' l' hI) q.rs q.exM
  obtain ⟨jgo, jst, jy⟩ := jg F Mk H' q.tm.1 q.exF ek rk
  cases n with
  | zero =>
    have e : i = ds.length := by omega
    subst e
    exact .inl ⟨jst, hd g' l' hI en T σ' H' D ⟨F, M, q.tmp q.tm.2⟩ m⟩
  | succ n =>
    have hi : i < ds.length := by omega
    refine .inr ⟨jgo i hi, fun σ2 H2 => ∃ g2 l2, I (i + 1) g2 l2 ∧ S X.K en g2 (T.ex F0) l2 σ2 H2, fun σ2 H2 ⟨g2, l2, h1, h2⟩ => ⟨n, by omega, by omega, g2, l2, h1, h2⟩, fun x H2 hy => ?_⟩
    obtain ⟨es, htg, hb⟩ := hs i ds[i] g' l' (List.getElem?_eq_getElem hi) hI
    obtain ⟨F2, nw, fx⟩ := jy i ds[i] x H2 (List.getElem?_eq_getElem hi) hy
    have q2 := q.new nw
    refine htg F2 H2 x σ' _ q2.exF fx fun vs fvs => ?_
    refine hb en (T.ex F0) _ H2 _ ⟨F2, M, q2.slots (q2.sl.sets fvs)⟩ ⟨fun g2 l2 σ2 H2 h s2 => ⟨g2, l2, h, s2⟩, fun d l v H h s2 => ?_, fun g2 l2 σ2 H2 h s2 => ?_, fun g2 l2 σ2 H2 h s2 => ⟨g2, l2, h, s2⟩, fun cls d g l σ H h s2 => ?_⟩
    · obtain ⟨F, M, q⟩ := s2
      exact m.rt d l v H h ⟨F, M, q.tmp ⟨q.tm.1, q.tm.2.2⟩⟩
    · obtain ⟨F, M, q⟩ := s2
      exact h en T σ2 H2 D ⟨F, M, q.tmp q.tm.2⟩ m
    · obtain ⟨F, M, q⟩ := s2
      exact m.ex cls d g l σ H h ⟨F, M, q.tmp q.tm.2⟩
end
end Sx
set_option Elab.async false
set_option linter.all false
set_option maxRecDepth 100000
set_option maxHeartbeats 2000000
/-! List comprehensions. -/
namespace Sx
open PySem L2

theorem wipe_at {σ : L2.St} {j : Nat} : ∀ {vs : List Nat}, (wipe σ vs)[j]? = if j ∈ vs then (σ[j]?).map (fun _ => none) else σ[j]?
  | [] => by simp [wipe]
  | v :: vs => by
    unfold wipe
    by_cases e : v = j
    · subst e
      rw [if_pos List.mem_cons_self]
      by_cases h : v < σ.length
      · rw [List.getElem?_set_self (by rw [wipe_length]; exact h), List.getElem?_eq_getElem h]; rfl
      · rw [List.getElem?_eq_none (by rw [List.length_set, wipe_length]; omega), List.getElem?_eq_none (by omega)]; rfl
    · rw [List.getElem?_set_ne e, wipe_at (vs := vs)]
      have q : j ∈ v :: vs ↔ j ∈ vs := by
        rw [List.mem_cons]
        exact ⟨fun h => h.elim (fun z => absurd z.symm e) id, .inr⟩
      by_cases z : j ∈ vs
      · rw [if_pos z, if_pos (q.mpr z)]
      · rw [if_neg z, if_neg (fun y => z (q.mp y))]
theorem wipe_set {σ : L2.St} {vs : List Nat} {i : Nat} {x : Option V} (h : i ∈ vs) : wipe (σ.set i x) vs = wipe σ vs := by
  apply List.ext_getElem?
  intro j
  rw [wipe_at, wipe_at]
  by_cases z : j ∈ vs
  · rw [if_pos z, if_pos z]
    by_cases e : i = j
    · subst e
      by_cases q : i < σ.length
      · rw [List.getElem?_set_self q, List.getElem?_eq_getElem q]; rfl
      · rw [List.getElem?_eq_none (by rw [List.length_set]; omega), List.getElem?_eq_none (by omega)]
    · rw [List.getElem?_set_ne e]
  · rw [if_neg z, if_neg z]
    rw [List.getElem?_set_ne (fun e => z (by rw [← e]; exact h))]
theorem wipe_wipe {σ : L2.St} {vs : List Nat} : wipe (wipe σ vs) vs = wipe σ vs := by
  apply List.ext_getElem?
  intro j
  rw [wipe_at, wipe_at]
  by_cases z : j ∈ vs
  · rw [if_pos z, if_pos z]; cases σ[j]? <;> rfl
  · rw [if_neg z, if_neg z]
theorem wipe_sets {vs : List Nat} : ∀ {is : List Nat} {ws : List V} {σ : L2.St}, (∀ i ∈ is, i ∈ vs) → wipe (setsV σ is ws) vs = wipe σ vs
  | [], _, _, _ => by unfold setsV; rfl
  | _ :: _, [], _, _ => by unfold setsV; rfl
  | i :: is, w :: ws, σ, h => by
    unfold setsV
    rw [wipe_sets (is := is) fun j hj => h j (List.mem_cons_of_mem _ hj), wipe_set (h i List.mem_cons_self)]
def wipeG (g : Gm) : List Nat → Gm
  | [] => g
  | v :: vs => (wipeG g vs).set v none
theorem Sl.wipe {K : PySem.W.Frag} {F : Hp} {g : Gm} {σ : L2.St} (h : Sl K F g σ) : ∀ vs, Sl K F (wipeG g vs) (L2.wipe σ vs)
  | [] => h
  | v :: vs => by
    unfold wipeG L2.wipe
    exact (Sl.wipe h vs).clear v
section
variable {X : Cx} {W : WX} {g g' : Gm} {l l' : List Res} {Φ : Po} {e e2 a b c o : Expr} {es : List Expr} {d d1 d2 d3 : D} {pos p p2 : Pos} {rest : List Stmt}
/-- a part that is owned and not touched -/
theorem S.fr {K : PySem.W.Frag} {en : En} {T : Tm} {r : Res} {σ : L2.St} {H : Hp} (s : S K en g T (r :: l) σ H) : ∃ en', S K en' g T l σ H ∧ ∀ {T' : Tm} {H' : Hp} {g' : Gm} {σ' : L2.St}, S K en' g' T' l σ' H' → S K en g' T' (r :: l) σ' H' := by
  obtain ⟨F, M, q⟩ := s
  obtain ⟨A, B, rfl, dj, p, rs⟩ := q.rs
  refine ⟨⟨F, B, H⟩, ⟨F, B, At.entry q.exF (q.exM.joinR dj) (Dj.r dj q.dj.sym).sym q.sl q.tm rs⟩, fun {T'} {H'} {g'} {σ'} ⟨F2, M2, b⟩ => ?_⟩
  have e : join A B = join B A := dj.comm
  rw [e] at q
  have z := q.frame (lB := [r]) dj.sym ⟨A, emp, (join_emp A).symm, Dj.emp A, p, rfl⟩ b
  have z2 : At K en g' T' (l ++ [r]) σ' H' F2 (join M2 A) := (z.tmp b.tm).slots b.sl
  exact S.perm (List.perm_append_singleton r l) ⟨F2, _, z2⟩
theorem Px.fr {r : Res} (h : Px X e g l d) : Px X e g (r :: l) d := fun en T σ H Q s k => by
  obtain ⟨en', s', back⟩ := s.fr
  exact h en' T σ H Q s' fun v H' s2 => k v H' (back s2)
theorem Ts.fr {r : Res} {k : Bool} (h : Ts X e g l k) : Ts X e g (r :: l) k := fun en T σ H Q s kk => by
  obtain ⟨en', s', back⟩ := s.fr
  exact h en' T σ H Q s' fun H' s2 => kk H' (back s2)
/-- the slots as they stood -/
def Tm.sl (K : PySem.W.Frag) (T : Tm) (g : Gm) (σ : L2.St) : Tm := ⟨fun F => Sl K F g σ ∧ T.P F, fun e h => ⟨h.1.mono e, T.mono e h.2⟩⟩
/-- what is kept -/
def keepL (rs : List (Option D)) : List D := rs.filterMap id
theorem keepL_some {rs : List D} : keepL (rs.map some) = rs := by
  unfold keepL
  rw [List.filterMap_map]
  show List.filterMap (fun x => some x) rs = rs
  rw [List.filterMap_some]
theorem keepL_len {rs : List (Option D)} : (keepL rs).length ≤ rs.length := List.length_filterMap_le _ _
abbrev Blkc (X : Cx) (scope : Scope) (Pp : Cx → Prop) : Prop := ∀ (s : Shared) (H : Hp) (C : Addr) (cl : List (Str × Addr)) (fp : List Addr), Pp (X.blk s H scope (compEnvC scope cl C X.env) fp)
/-- the reading of a comprehension -/
theorem lc_read {lk : List Res} {own : List (Str × Nat)} {gt : TG} {is : List Nat} {ds : List D} {rs : List (Option D)} {wi : TI} {te : TE} {tt : TT}
    (hw : ∀ en T σ H (R : It → Hp → Prop), S X.K en g T l σ H → (∀ J H1 F M, At X.K en g T l σ H1 F M → JG X.K lk F J ds → R J H1) → wi σ H R) (hk : SubR l lk)
    (his : ∀ i ∈ is, i ∈ own.map (·.2)) (hlen : rs.length = ds.length) (hz : rs.length ≤ sizeLine)
    (hs : ∀ (i : Nat) (d : D), ds[i]? = some d → ∃ es k r, Tg X.K gt is d es ∧ rs[i]? = some (if k = true then some r else none) ∧
      (∀ r0 en T σ H (Q : Bool → Hp → Prop), S X.K en (sets (wipeG g (own.map (·.2))) is es) T (r0 :: l) σ H → (∀ H', S X.K en (sets (wipeG g (own.map (·.2))) is es) T (r0 :: l) σ H' → Q k H') → tt σ H Q) ∧
      (k = true → ∀ r0 en T σ H (Q : VK), S X.K en (sets (wipeG g (own.map (·.2))) is es) T (r0 :: l) σ H → (∀ v H', S X.K en (sets (wipeG g (own.map (·.2))) is es) (T.and X.K v r) (r0 :: l) σ H' → Q v H') → te σ H Q))
    {en : En} {T : Tm} {σ : L2.St} {H : Hp} {Q : VK} (s : S X.K en g T l σ H) (kk : ∀ p H', S X.K en g T (ownL X.K p (keepL rs) :: l) σ H' → Q (.ref p) H') : tLc wi gt tt te (own.map (·.2)) σ H Q := by
  refine hw en T σ H _ s fun J H1 F0 M0 q0 jg => ?_
  intro Dl hD
  refine ⟨fun i m H' => i + m = ds.length ∧ S X.K en (wipeG g (own.map (·.2))) ((T.sl X.K g σ).ex F0) (ownL X.K Dl (keepL (rs.take i)) :: l) (L2.wipe σ (own.map (·.2))) H', ⟨ds.length, by simp, ?_⟩, fun i m H' hW => ?_⟩
  · have q1 := q0.newO (r := ownL X.K Dl []) (A := one Dl (.lst [])) (H' := upd H1 Dl (.lst [])) (.new hD) (fun x o z => by obtain ⟨rfl, rfl⟩ := one_some z; exact upd_same) (fun x o z => by obtain ⟨rfl, rfl⟩ := one_some z; exact hD) ⟨[], .nil, rfl⟩
    rw [List.take_zero]
    exact ⟨F0, _, (q1.tmp (T' := (T.sl X.K g σ).ex F0) ⟨.rf, q0.sl, q0.tm⟩).slots (q0.sl.wipe _)⟩
  · obtain ⟨em, F, M, q⟩ := hW
    obtain ⟨junk0, pk0⟩ := id hk
    obtain ⟨Mk, rk, ek⟩ := Rs.sub (lk := lk) ⟨junk0 ++ [ownL X.K Dl (keepL (rs.take i))], by
      have z := (pk0.cons (ownL X.K Dl (keepL (rs.take i)))).trans (List.perm_append_comm (l₁ := [_]))
      rw [← List.append_assoc]; exact z⟩ q.rs q.exM
    obtain ⟨jgo, jst, jy⟩ := jg F Mk H' q.tm.1 q.exF ek rk
    cases m with
    | zero =>
      have e : i = ds.length := by omega
      subst e
      refine .inl ⟨jst, kk Dl H' ⟨F, M, ?_⟩⟩
      rw [List.take_of_length_le (by omega)] at q
      exact (q.tmp (T' := T) q.tm.2.2).slots q.tm.2.1
    | succ m =>
      have hi : i < ds.length := by omega
      refine .inr ⟨jgo i hi, fun H2 => S X.K en (wipeG g (own.map (·.2))) ((T.sl X.K g σ).ex F0) (ownL X.K Dl (keepL (rs.take (i + 1))) :: l) (L2.wipe σ (own.map (·.2))) H2, fun H2 h => ⟨m, by omega, by omega, h⟩, fun x H2 hy => ?_⟩
      obtain ⟨es, b, r, htg, hr, ht, he⟩ := hs i ds[i] (List.getElem?_eq_getElem hi)
      obtain ⟨F2, nw, fx⟩ := jy i ds[i] x H2 (List.getElem?_eq_getElem hi) hy
      have q2 := q.new nw
      refine htg F2 H2 x _ _ q2.exF fx fun vs fvs => ?_
      refine ⟨by rw [wipe_sets his, wipe_wipe], ?_⟩
      have et : rs.take (i + 1) = rs.take i ++ [if b = true then some r else none] := by
        rw [List.take_add_one, hr]; rfl
      refine ht _ en ((((T.sl X.K g σ).ex F0)).sl X.K (wipeG g (own.map (·.2))) (L2.wipe σ (own.map (·.2)))) _ H2 _ ⟨F2, M, (q2.tmp (T' := (((T.sl X.K g σ).ex F0)).sl X.K (wipeG g (own.map (·.2))) (L2.wipe σ (own.map (·.2)))) ⟨q2.sl, q2.tm⟩).slots (q2.sl.sets fvs)⟩ fun H3 s3 => ?_
      cases b with
      | false =>
        show S X.K en _ _ _ _ H3
        obtain ⟨F3, M3, q3⟩ := s3
        rw [et]
        have e2 : keepL (rs.take i ++ [if false = true then some r else none]) = keepL (rs.take i) := by
          unfold keepL
          rw [List.filterMap_append]
          show _ ++ [] = _
          rw [List.append_nil]
        rw [e2]
        exact ⟨F3, M3, (q3.tmp q3.tm.2).slots q3.tm.1⟩
      | true =>
        show te _ H3 _
        refine he rfl _ en _ _ H3 _ s3 fun v H4 s4 => ?_
        obtain ⟨F4, M4, q4⟩ := s4
        obtain ⟨ws, fw, hp⟩ := q4.rs.own (k := 0) rfl q4.exM
        refine ⟨ws, hp, ?_, ?_⟩
        · rw [fw.length]
          have h1 := keepL_len (rs := rs.take i)
          rw [List.length_take] at h1
          omega
        · obtain ⟨M5, q5⟩ := (q4.tmp q4.tm.2).putL (k := 0) rfl (fw.app (.cons q4.tm.1 .nil))
          rw [et]
          have e2 : keepL (rs.take i ++ [if true = true then some r else none]) = keepL (rs.take i) ++ [r] := by
            unfold keepL
            rw [List.filterMap_append]
            rfl
          rw [e2]
          exact ⟨F4, M5, (q5.tmp q5.tm.2).slots q5.tm.1⟩
def teB (X : Cx) (scope : Scope) (e : Expr) : TE := fun σ H Q => Blkc X scope fun Y => wpE Y e σ H Q
def ttB (X : Cx) (scope : Scope) (e : Expr) : TT := fun σ H Q => Blkc X scope fun Y => wpT Y e σ H Q
theorem teB_pe {scope : Scope} : ∀ (s : Shared) (H : Hp) (C : Addr) (cl : List (Str × Addr)) (fp : List Addr), PE (X.blk s H scope (compEnvC scope cl C X.env) fp) e (teB X scope e) := fun s H C cl fp => ⟨fun pins s' σ H' Q I h => h s H C cl fp pins s' I⟩
/-- [elt for tg in iter], a new list -/
theorem ev_lc {tg iter elt : Expr} {scope : Scope} {own : List (Str × Nat)} {lk : List Res} {gt : TG} {is : List Nat} {ds rs : List D} (hc : X.calm = true) (hN : X.N.Nodup) (hi : ItwP X tg iter g l lk ds) (ok : BlkOk X.N X.env.scope scope own)
    (hg : Blkc X scope fun Y => PG Y tg gt) (his : ∀ i ∈ is, i ∈ own.map (·.2)) (hlen : rs.length = ds.length) (hz : rs.length ≤ sizeLine)
    (hs : ∀ (i : Nat) (d : D), ds[i]? = some d → ∃ es r, Tg X.K gt is d es ∧ rs[i]? = some r ∧ Blkc X scope fun Y => Px Y elt (sets (wipeG g (own.map (·.2))) is es) l r) (hf : ∀ x, foldedSetIterable iter X.env x = pure x := by intro _; rfl) (hk : SubR l lk := by first | exact subr0 | exact subr1 0 rfl | exact subr1 1 rfl | exact subr1 2 rfl | exact subr1 3 rfl | exact subr1 4 rfl | exact subr1 5 rfl | exact subr2 0 0 rfl rfl | exact subr2 1 0 rfl rfl | exact subr2 0 1 rfl rfl | exact subr2 1 1 rfl rfl | exact subr2 2 0 rfl rfl | exact subr2 2 1 rfl rfl) :
    Ev X (.ListComp elt [⟨tg, iter, [], 0⟩] scope pos) g l (fun d' l' => ∃ p, d' = .adr p ∧ l' = ownL X.K p rs :: l) := fun en T σ H Q s k => by
  obtain ⟨wi, pi, hw⟩ := hi
  refine wpE_of (pe_lc hc hN pi ok hg (fun _ _ _ _ _ => pts_nil) teB_pe hf) ?_
  refine lc_read (rs := rs.map some) hw hk his (by rw [List.length_map]; exact hlen) (by rw [List.length_map]; exact hz) (fun i d hd => ?_) s fun p H' s' => ?_
  · obtain ⟨es, r, h1, h2, h3⟩ := hs i d hd
    refine ⟨es, true, r, h1, by rw [List.getElem?_map, h2]; rfl, fun r0 en T σ H Q s kk => kk H s, fun _ r0 en T σ H Q s kk => ?_⟩
    intro s0 H0 C cl fp
    exact (h3 s0 H0 C cl fp).fr en T σ H Q s kk
  · rw [keepL_some] at s'
    obtain ⟨F, M, q⟩ := s'
    exact k _ _ _ H' ⟨p, rfl, rfl⟩ ⟨F, M, q.tmp ⟨.adr p, q.tm⟩⟩
theorem px_lc {tg iter elt : Expr} {scope : Scope} {own : List (Str × Nat)} {lk : List Res} {gt : TG} {is : List Nat} {ds rs : List D} (hc : X.calm = true) (hN : X.N.Nodup) (hi : ItwP X tg iter g l lk ds) (ok : BlkOk X.N X.env.scope scope own)
    (hg : Blkc X scope fun Y => PG Y tg gt) (his : ∀ i ∈ is, i ∈ own.map (·.2)) (hlen : rs.length = ds.length) (hz : rs.length ≤ sizeLine)
    (hs : ∀ (i : Nat) (d : D), ds[i]? = some d → ∃ es r, Tg X.K gt is d es ∧ rs[i]? = some r ∧ Blkc X scope fun Y => Px Y elt (sets (wipeG g (own.map (·.2))) is es) l r) (hf : ∀ x, foldedSetIterable iter X.env x = pure x := by intro _; rfl) (hk : SubR l lk := by first | exact subr0 | exact subr1 0 rfl | exact subr1 1 rfl | exact subr1 2 rfl | exact subr1 3 rfl | exact subr1 4 rfl | exact subr1 5 rfl | exact subr2 0 0 rfl rfl | exact subr2 1 0 rfl rfl | exact subr2 0 1 rfl rfl | exact subr2 1 1 rfl rfl | exact subr2 2 0 rfl rfl | exact subr2 2 1 rfl rfl) :
    Px X (.ListComp elt [⟨tg, iter, [], 0⟩] scope pos) g l (.lst rs) := (ev_lc hc hN hi ok hg his hlen hz hs hf hk).frz
end
end Sx
set_option Elab.async false
set_option linter.all false
set_option maxRecDepth 100000
set_option maxHeartbeats 2000000
/-! What a text's top has written; a law's own end. -/
namespace Sx
open PySem L2
/-- a def of the module | a method | a class | a class with its __init__ -/
def Dfn (K : PySem.W.Frag) (mg : Str → Option Value) (x : Str) (st : Stmt) : Prop := ∃ f fd, Fun K x x st f fd ∧ mg x = some (.ref f)
def Dmt (K : PySem.W.Frag) (C : Addr) (m qual : Str) (st : Stmt) : Prop := ∃ f fd, Fun K m qual st f fd ∧ Meth K C m f
def Din (K : PySem.W.Frag) (C : Addr) (qual : Str) (st : Stmt) : Prop := ∃ f fd, Fun K "__init__" qual st f fd ∧ Mk K C f
structure Dcl (K : PySem.W.Frag) (mg : Str → Option Value) (x : Str) (C : Addr) : Prop where
  mg : mg x = some (.ref C)
  cl : Cls K C
  kp : PySem.W.keepIn K (.ref C) = true
/-- an own class that isinstance may be asked about -/
structure Isi (K : PySem.W.Frag) (C : Addr) : Prop where
  (ha : PySem.W.findIn K (.ref C) "__class__" = some (some (.builtin "object.__class__"))) (hn : PySem.W.specialIn K (.builtin "object.__class__") "__get__" = some (some (.builtin "getset_descriptor.__get__")))
  (htk : PySem.W.takesIn K (.builtin "object.__class__") = some true) (hm : PySem.W.mroIn K C (.type "object") = some true)
section
variable {K : PySem.W.Frag} {h : Heap} {mg : Str → Option Value} {C f : Addr} {x m qual : Str} {st : Stmt} {oc kV doc pm cdv ct : Value} {od an : Option Addr} {osl : Array (Option Value)}
end
section
variable {P : Program} {w : World} {K : PySem.W.Frag} {mg : Str → Option Value} {base : Heap} {k : Nat} {x m qual : Str} {st : Stmt} {ps : List Str} {sp : Sp} {C : Addr}
abbrev Bnd (x qual : Str) (st : Stmt) (ps : List Str) : Prop := ∀ (kV doc pm : Value) (an : Option Addr) (cdv ct : Value) (us : List Value), us.length = ps.length → bindArgs (PySem.W.fnOf x qual (defArgs st) (defBody st) (defScope st) .none kV doc pm an cdv ct) ⟨us, []⟩ = pure (ps.zip us)
theorem glo_of (d : Dfn K mg x st) (b : Bnd x x st ps) (h : ∀ f fd, Fun K x x st f fd → FnOk P w K mg base CX0 k f fd ps sp) : Glo P w K mg base k x ps sp := by
  obtain ⟨f, fd, F, hm⟩ := d
  exact ⟨f, fd, h f fd F, hm, F.kp, F.binds b⟩
theorem glom_of (d : Dmt K C m qual st) (c : Cls K C) (b : Bnd m qual st ps) (h : ∀ f fd, Fun K m qual st f fd → FnOk P w K mg base CX0 k f fd ps sp) : GloM P w K mg base k C m ps sp := by
  obtain ⟨f, fd, F, hm⟩ := d
  exact ⟨f, fd, h f fd F, c, hm, F.binds b⟩
theorem gloc_of (d : Din K C qual st) (c : Dcl K mg x C) (b : Bnd "__init__" qual st ps) (h : ∀ f fd, Fun K "__init__" qual st f fd → FnOk P w K mg base CX0 k f fd ps sp) : GloC P w K mg base k C x ps sp := by
  obtain ⟨f, fd, F, hm⟩ := d
  exact ⟨f, fd, h f fd F, hm, c.mg, F.binds b⟩
theorem Glo.mono {j : Nat} (g : Glo P w K mg base k x ps sp) (h : k ≤ j) : Glo P w K mg base j x ps sp := let ⟨f, fd, F, r⟩ := g; ⟨f, fd, F.mono h, r⟩
/-- the law: any script of at most 63 ints, True comes out -/
abbrev spL (K : PySem.W.Frag) : Sp := Pu K (fun ns : List Int => ns.length ≤ 63) (fun ns => [.scr (ns.map .int)]) (fun _ => .bl true)
def spLaw (K : PySem.W.Frag) : Sp := fun vs Hh Q _ => ∃ (q : Addr) (ns : List Int), vs = [.ref q] ∧ SqL K Hh q (ns.map V.int) ∧ ns.length ≤ 63 ∧ ∀ H2, Q (.bl true) H2
theorem law_imp {f : Addr} {fd : FuncData} (F : FnOk P w K mg base CX0 k f fd ps (spL K)) : FnOk P w K mg base CX0 k f fd ps (spLaw K) := F.imp fun vs H Q E h => by
  obtain ⟨a, ns, rfl, hS, hl, q⟩ := h
  refine ⟨ns, H, emp, hl, .rf, fun _ _ z => (by cases z), .emp _, .cons (.scr hS (FdAll.ofInts ns)) .nil, rfl, fun v d l' H' hp s => ?_, fun _ _ _ _ z => z.elim⟩
  obtain ⟨rfl, rfl⟩ := hp
  obtain ⟨F, M, a⟩ := s
  have f := a.tm.1
  cases f
  exact q H'
/-- as walk_of asks it -/
theorem law_end {pn : Str} {fa : Addr} {st : Stmt} (d : Dfn K mg "law" st) (hfa : mg "law" = some (.ref fa)) (hb : ∀ (kV doc pm : Value) (an : Option Addr) (cdv ct : Value) (s : Shared) (v : Value), BindsTo s (PySem.W.fnOf "law" "law" (defArgs st) (defBody st) (defScope st) .none kV doc pm an cdv ct) ⟨[v], []⟩ [(pn, v)])
    (h : ∀ base : Heap, K.In base → base.Ns mainGlobals mg → ∀ f fd, Fun K "law" "law" st f fd → FnOk P w K mg base CX0 k f fd [pn] (spL K)) :
    ∃ fd : FuncData, (∀ (s : Shared) (v : Value), BindsTo s fd ⟨[v], []⟩ [(pn, v)]) ∧ ∀ base : Heap, K.In base → base.Ns mainGlobals mg → FnOk P w K mg base CX0 k fa fd [pn] (spLaw K) := by
  obtain ⟨f, fd, F, hm⟩ := d
  rw [hfa] at hm
  cases hm
  obtain ⟨oc, od, kV, doc, pm, an, cdv, ct, osl, rfl, lk, hcd⟩ := id F.ex
  exact ⟨_, hb kV doc pm an cdv ct, fun base h1 h2 => law_imp (h base h1 h2 fa _ F)⟩
end
section
variable {X : Cx} {g : Gm} {l : List Res} {e c : Expr} {d : D} {p pos : Pos}
/-- .. of flat things, lists and tuples, against a built-in class -/
def D.tyv : D → Option String
  | .non => some "NoneType" | .bl _ => some "bool" | .int _ => some "int" | .str _ => some "str" | .lst _ => some "list" | .tup _ => some "tuple" | .scr _ => some "list" | .dK _ => some "dict" | .dT _ => some "dict" | _ => none
theorem tyx_l {K : PySem.W.Frag} {H : Hp} {a : Addr} {xs : List V} (s : SqL K H a xs) : TyX K H (.ref a) (.type "list") := by
  rcases s with (s | ⟨o, s⟩) | ⟨o, its, n, h1, h2, _⟩
  · exact .base (.lst s)
  · exact .base (.frz s)
  · exact .kList h1 h2
theorem tyx_t {K : PySem.W.Frag} {H : Hp} {a : Addr} {xs : List V} (s : SqT K H a xs) : TyX K H (.ref a) (.type "tuple") := by
  rcases s with (s | ⟨o, s⟩) | ⟨o, its, n, h1, h2, _⟩
  · exact .base (.tup s)
  · exact .fTuple s
  · exact .kTuple h1 h2
theorem Fd.tyx {K : PySem.W.Frag} {F H : Hp} {v : V} {d : D} {t : String} (e : Ex F H) (f : Fd K F v d) (h : d.tyv = some t) : TyX K H v (.type t) := by
  cases f with
  | non => cases h; exact .base .non
  | bl b => cases h; exact .base (.bl b)
  | int i => cases h; exact .base (.int i)
  | str x => cases h; exact .base (.str x)
  | lst s a => cases h; exact tyx_l (SqL.of (e _ _ s))
  | scr s a => cases h; exact tyx_l (ex_l e s)
  | dK s a => cases h; exact .base (.dK (e _ _ s))
  | dT s a => cases h; exact .base (.dT (e _ _ s))
  | tup s a => cases h; exact tyx_t (ex_t e s)
  | adr a => cases h
  | ty n => cases h
  | ins a b => cases h
  | exc a b c => cases h
  | kt a => cases h
theorem o_isiT {t n : String} {b : Bool} (ht : d.tyv = some t) (hk : kitB t n = some b) : OpN X.K l (rIsi X.K) [d, .ty n] (.bl b) := fun F M H vs Q eF eM dj rs f k => by
  cases f with
  | cons f1 f2 =>
    cases f2 with
    | cons f2 f3 =>
      cases f2; cases f3
      exact ⟨_, _, _, _, b, rfl, .ty n, f1.tyx eF ht, kit_ty hk, k _ F H (.rf eF) (.bl _)⟩
theorem o_isiO {n : String} {b : Bool} {k : Nat} {p : Addr} {ds : List D} (hk : l[k]? = some (ownL X.K p ds)) (hb : kitB "list" n = some b) : OpN X.K l (rIsi X.K) [.adr p, .ty n] (.bl b) := fun F M H vs Q eF eM dj rs f kk => by
  cases f with
  | cons f1 f2 =>
    cases f2 with
    | cons f2 f3 =>
      cases f2; cases f3; cases f1
      obtain ⟨ws, _, hp⟩ := rs.own hk eM
      exact ⟨_, _, _, _, b, rfl, .ty n, tyx_l (SqL.of hp), kit_ty hb, kk _ F H (.rf eF) (.bl _)⟩
theorem px_bi {id : String} {x : Str} {r : List V → Hp → VK → Prop} {e1 : Expr} {e2 : List Expr} {ds : List D} (hc : CallR X (.builtin id) r) (hm : X.mg x = none) (ha : Pa X (e1 :: e2) g l ds) (hr : OpN X.K l r ds d) (hg : Gl X x := by rfl) (hv : bootBuiltins x = some (.builtin id) := by decide +kernel) (hn : x ≠ "__name__" := by decide) (hdb : (x == ("__debug__" : Str)) = false := by decide)
    (hs : starEach (e1 :: e2) X.env = (false, eval e1 X.env) :: starEach e2 X.env := by rfl) (hpl : (backTo pos (starEach e2 X.env)).any (·.1) = false := by rfl) : Px X (.Call (.Name x p) (e1 :: e2) [] pos) g l d := px_b (ds := ds) (pe_callB hc hg hm hv pa_wp hn hdb hs hpl) hr ha
/-- a class of the module, a built-in class, as a value -/
theorem px_cls {C : Addr} {x : Str} (h : X.mg x = some (.ref C)) (hg : Gl X x := by rfl) (hd : (x == ("__debug__" : Str)) = false := by decide) : Px X (.Name x pos) g l (.adr C) := px_c (pe_glob (v := .ref C) hg h rfl hd) fun _ => .adr C
theorem px_tyn {x : Str} {n : String} (hm : X.mg x = none) (hv : bootBuiltins x = some (.type n) := by decide +kernel) (hg : Gl X x := by rfl) (hn : x ≠ "__name__" := by decide) (hd : (x == ("__debug__" : Str)) = false := by decide) : Px X (.Name x pos) g l (.ty n) := px_c (pe_bltn (v := .ty n) hg hm hv rfl hn hd) fun _ => .ty n
theorem px_gi {x : Str} {i : Int} (h : ∃ t, X.mg x = some (.int i t)) (hg : Gl X x := by rfl) (hd : (x == ("__debug__" : Str)) = false := by decide) : Px X (.Name x pos) g l (.int i) := by
  obtain ⟨t, h⟩ := h
  exact px_c (pe_glob (v := .int i) hg h ⟨t, rfl⟩ hd) fun _ => .int i
theorem px_gs {x z : Str} (h : ∃ t, X.mg x = some (.str z t)) (hg : Gl X x := by rfl) (hd : (x == ("__debug__" : Str)) = false := by decide) : Px X (.Name x pos) g l (.str z) := by
  obtain ⟨t, h⟩ := h
  exact px_c (pe_glob (v := .str z) hg h ⟨t, rfl⟩ hd) fun _ => .str z
theorem px_isT (n t : String) (b : Bool) {x : Str} {p2 : Pos} (z : X.mg "isinstance" = none) (zx : X.mg x = none) (h : Px X e g l d) (ht : d.tyv = some t := by rfl) (hk : kitB t n = some b := by decide +kernel) (hv : bootBuiltins x = some (.type n) := by decide +kernel)
    (hg : Gl X "isinstance" := by rfl) (hgx : Gl X x := by rfl) (hn : x ≠ "__name__" := by decide) (hd : (x == ("__debug__" : Str)) = false := by decide)
    (hs : starEach [e, .Name x p2] X.env = (false, eval e X.env) :: starEach [.Name x p2] X.env := by rfl) (hs2 : starEach [.Name x p2] X.env = [(false, eval (.Name x p2) X.env)] := by rfl) (hpl : (backTo pos (starEach [.Name x p2] X.env)).any (·.1) = false := by rfl) :
    Px X (.Call (.Name "isinstance" p) [e, .Name x p2] [] pos) g l (.bl b) := px_bi call_isi z (pa_c h (pa_c (px_tyn zx hv hgx hn hd) pa_n hs2) hs) (o_isiT ht hk) hg (by decide +kernel) (by decide) (by decide) hs hpl
end
section
variable {K : PySem.W.Frag} {l : List Res} {d : D}
/-- len, str, int, list, tuple, max, min -/
abbrev rLen1 (K : PySem.W.Frag) : List V → Hp → VK → Prop := fun xs H Q => ∃ p ys, xs = [.ref p] ∧ (SqL K H p ys ∨ SqT K H p ys) ∧ Q (.int ys.length) H
theorem o_len {ds : List D} {d0 : D} (h : d0 = .lst ds ∨ d0 = .tup ds ∨ d0 = .scr ds) : OpN K l (rLen1 K) [d0] (.int ds.length) := fun F M H vs Q eF eM dj rs f k => by
  cases f with
  | cons f1 f2 =>
    cases f2
    rcases h with rfl | rfl | rfl
    · cases f1 with
      | lst s a =>
        refine ⟨_, _, rfl, .inl (SqL.of (eF _ _ s)), ?_⟩
        rw [a.length]
        exact k _ F H (.rf eF) (.int _)
    · cases f1 with
      | tup s a =>
        refine ⟨_, _, rfl, .inr (ex_t eF s), ?_⟩
        rw [a.length]
        exact k _ F H (.rf eF) (.int _)
    · cases f1 with
      | scr s a =>
        refine ⟨_, _, rfl, .inl (ex_l eF s), ?_⟩
        rw [a.length]
        exact k _ F H (.rf eF) (.int _)
theorem o_lenL {ds : List D} : OpN K l (rLen1 K) [.lst ds] (.int ds.length) := o_len (.inl rfl)
theorem o_lenT {ds : List D} : OpN K l (rLen1 K) [.tup ds] (.int ds.length) := o_len (.inr (.inl rfl))
theorem o_lenR {ds : List D} : OpN K l (rLen1 K) [.scr ds] (.int ds.length) := o_len (.inr (.inr rfl))
theorem o_lenS {x : Str} (h : x.length ≤ sizeLine) : OpN K l (fun xs H Q => ∃ z, xs = [.str z] ∧ z.length ≤ sizeLine ∧ Q (.int z.length) H) [.str x] (.int x.length) := fun F M H vs Q eF eM dj rs f k => by
  cases f with
  | cons f1 f2 =>
    cases f2; cases f1
    exact ⟨x, rfl, h, k _ F H (.rf eF) (.int _)⟩
/-- an item at a place that lies in it -/
theorem atI_in {α : Type} {xs : List α} {i : Int} {x0 : α} (h0 : 0 ≤ i) (h1 : i < xs.length) : atI xs i = some (xs.getD i.toNat x0) := by
  have h2 : i.toNat < xs.length := by omega
  unfold atI ixN
  rw [if_pos h0, if_pos h1]
  show xs[i.toNat]? = _
  rw [List.getElem?_eq_getElem h2, List.getD_eq_getElem?_getD, List.getElem?_eq_getElem h2]
  rfl
theorem atI_map {α β : Type} {f : α → β} {xs : List α} {i : Int} {y : α} (h : atI xs i = some y) : atI (xs.map f) i = some (f y) := by
  unfold atI at h ⊢
  rw [List.length_map]
  cases e : ixN xs.length i with
  | none => rw [e] at h; cases h
  | some n =>
    rw [e] at h
    show (xs.map f)[n]? = some (f y)
    have h' : xs[n]? = some y := h
    rw [List.getElem?_map, h']
    rfl
end
/-- a class without an __init__ of its own -/
structure Mk0 (K : PySem.W.Frag) (C : Addr) : Prop where
  (makes : PySem.W.makesIn K C = true) (kp : PySem.W.keepIn K (.ref C) = true) (init : PySem.W.findIn K (.ref C) "__init__" = some (some (.builtin "object.__init__")))
section
open PySem.W in
end
section
variable {X : Cx} {g : Gm} {l : List Res} {p pos : Pos} {C : Addr} {x : Str}
end
end Sx
set_option Elab.async false
set_option linter.all false
set_option maxRecDepth 100000
set_option maxHeartbeats 2000000
/-! More rules: owned things read as if frozen, slices, new lists, texts. -/
namespace Sx
open PySem L2
section
variable {K : PySem.W.Frag} {l : List Res} {d d1 d2 : D} {ds es : List D}
/-- a list: frozen or owned -/
inductive Lv (K : PySem.W.Frag) (l : List Res) : D → List D → Prop
  | f {ds : List D} : Lv K l (.lst ds) ds
  | o {k : Nat} {p : Addr} {ds : List D} (h : l[k]? = some (ownL K p ds)) : Lv K l (.adr p) ds
/-- .. or the script -/
inductive Lq (K : PySem.W.Frag) (l : List Res) : D → List D → Prop
  | v {d : D} {ds : List D} (h : Lv K l d ds) : Lq K l d ds
  | s {ds : List D} : Lq K l (.scr ds) ds
/-- .. or a tuple -/
inductive Sv (K : PySem.W.Frag) (l : List Res) : D → List D → Prop
  | q {d : D} {ds : List D} (h : Lq K l d ds) : Sv K l d ds
  | t {ds : List D} : Sv K l (.tup ds) ds
abbrev Lq.f : Lq K l (.lst ds) ds := .v .f
abbrev Lq.o {k : Nat} {p : Addr} (h : l[k]? = some (ownL K p ds)) : Lq K l (.adr p) ds := .v (.o h)
abbrev Sv.f : Sv K l (.lst ds) ds := .q (.v .f)
abbrev Sv.o {k : Nat} {p : Addr} (h : l[k]? = some (ownL K p ds)) : Sv K l (.adr p) ds := .q (.v (.o h))
abbrev Sv.s : Sv K l (.scr ds) ds := .q .s
theorem Lv.get {F M H : Hp} {v : V} (h : Lv K l d ds) (eF : Ex F H) (eM : Ex M H) (rs : Rs l F M) (f : Fd K F v d) : ∃ a vs, v = .ref a ∧ H a = some (.lst vs) ∧ FdAll K F vs ds := by
  cases h with
  | f => cases f with | lst s a => exact ⟨_, _, rfl, eF _ _ s, a⟩
  | o h =>
    cases f
    obtain ⟨vs, f, hp⟩ := rs.own h eM
    exact ⟨_, vs, rfl, hp, f⟩
theorem Lq.get {F M H : Hp} {v : V} (h : Lq K l d ds) (eF : Ex F H) (eM : Ex M H) (rs : Rs l F M) (f : Fd K F v d) : ∃ a vs, v = .ref a ∧ SqL K H a vs ∧ FdAll K F vs ds := by
  cases h with
  | v h =>
    obtain ⟨a, vs, e, hp, f⟩ := h.get eF eM rs f
    exact ⟨a, vs, e, SqL.of hp, f⟩
  | s => cases f with | scr s a => exact ⟨_, _, rfl, ex_l eF s, a⟩
theorem Sv.get {F M H : Hp} {v : V} (h : Sv K l d ds) (eF : Ex F H) (eM : Ex M H) (rs : Rs l F M) (f : Fd K F v d) : ∃ a vs, v = .ref a ∧ (SqL K H a vs ∨ SqT K H a vs) ∧ FdAll K F vs ds := by
  cases h with
  | q h =>
    obtain ⟨a, vs, e, hp, f⟩ := h.get eF eM rs f
    exact ⟨a, vs, e, .inl hp, f⟩
  | t => cases f with | tup s a => exact ⟨_, _, rfl, .inr (ex_t eF s), a⟩
end
section
variable {X : Cx} {W : WX} {g g' : Gm} {l l' : List Res} {Φ : Po} {e e2 a b c o : Expr} {es : List Expr} {d d1 d2 d3 : D} {ds ds1 ds2 : List D} {pos p p2 : Pos} {rest : List Stmt}
/-! ### owned things read as if frozen -/
theorem Px.all (h : Px X e g [] d) : Px X e g l d := by
  induction l with
  | nil => exact h
  | cons r l ih => exact ih.fr
/-! ### new lists -/
abbrev NewL (X : Cx) (g : Gm) (l : List Res) (t : TE) (ds : List D) : Prop := ∀ en T σ H (Q : VK), S X.K en g T l σ H → (∀ p ws H1 F M, At X.K en g T l σ H1 F M → FdAll X.K F ws ds → H1 p = none → Q (.ref p) (upd H1 p (.lst ws))) → t σ H Q
abbrev EvL (X : Cx) (e : Expr) (g : Gm) (l : List Res) (ds : List D) : Prop := Ev X e g l (fun d' l' => ∃ p, d' = .adr p ∧ l' = ownL X.K p ds :: l)
theorem ev_new {t : TE} (he : PE X e t) (h : NewL X g l t ds) : EvL X e g l ds := fun en T σ H Q s k => wpE_of he (h en T σ H Q s fun p ws H1 F M q f hp => by
  have q3 := q.newO (r := ownL X.K p ds) (A := one p (.lst ws)) (H' := upd H1 p (.lst ws)) (.new hp) (fun x o z => by obtain ⟨rfl, rfl⟩ := one_some z; exact upd_same) (fun x o z => by obtain ⟨rfl, rfl⟩ := one_some z; exact hp) ⟨ws, f, rfl⟩
  exact k _ (.adr p) _ _ ⟨p, rfl, rfl⟩ ⟨F, _, q3.tmp ⟨.adr p, q.tm⟩⟩)
/-! ### slices -/
def cut {α : Type} (xs : List α) (lo hi : Option Int) : List α := (xs.drop (HT.sIx xs.length 0 lo)).take (HT.sIx xs.length xs.length hi - HT.sIx xs.length 0 lo)
theorem cut_take {α : Type} {xs : List α} {n : Int} (h : 0 ≤ n) : cut xs none (some n) = xs.take n.toNat := by
  unfold cut
  have e : HT.sIx xs.length xs.length (some n) = min n.toNat xs.length := by
    show (if n < 0 then _ else _) = _
    rw [if_neg (by omega)]
  rw [e]
  show (xs.drop 0).take (min n.toNat xs.length - 0) = _
  rw [List.drop_zero, Nat.sub_zero, ← List.take_take, List.take_length]
theorem cut_drop {α : Type} {xs : List α} {n : Int} (h : 0 ≤ n) : cut xs (some n) none = xs.drop n.toNat := by
  unfold cut
  have e : HT.sIx xs.length 0 (some n) = min n.toNat xs.length := by
    show (if n < 0 then _ else _) = _
    rw [if_neg (by omega)]
  rw [e]
  show (xs.drop (min n.toNat xs.length)).take (xs.length - min n.toNat xs.length) = _
  by_cases z : n.toNat ≤ xs.length
  · rw [Nat.min_eq_left z, List.take_of_length_le (by rw [List.length_drop]; exact Nat.le_refl _)]
  · rw [Nat.min_eq_right (by omega), List.drop_length, List.drop_eq_nil_of_le (by omega), List.take_nil]
theorem FdAll.cut {K : PySem.W.Frag} {F : Hp} {vs : List V} {ds : List D} (f : FdAll K F vs ds) (lo hi : Option Int) : FdAll K F (cutV vs lo hi) (cut ds lo hi) := by
  unfold cutV Sx.cut
  rw [f.length]
  exact (f.drop _).take _
/-- a slice's part -/
def Pz (X : Cx) (e : Option Expr) (g : Gm) (l : List Res) (o : Option Int) : Prop := ∃ t, PO X e t ∧ ∀ en T σ H (R : Option Int → Hp → Prop), S X.K en g T l σ H → (∀ H', S X.K en g T l σ H' → R o H') → t σ H R
theorem pz_n : Pz X none g l none := ⟨_, po_none, fun en T σ H R s k => k H s⟩
theorem pz_s {i : Int} (h : Px X e g l (.int i)) : Pz X (some e) g l (some i) := ⟨_, po_some pe_wp, fun en T σ H R s k => h en T σ H _ s fun v H' s' => by
  obtain ⟨F, M, q⟩ := s'
  have f := q.tm.1
  cases f
  exact ⟨i, rfl, k H' ⟨F, M, q.tmp q.tm.2⟩⟩⟩
theorem ev_slL {lo hi : Option Expr} {i j : Option Int} (ho : Px X o g l d) (hd : Lq X.K l d ds) (hl : Pz X lo g l i) (hu : Pz X hi g l j) : EvL X (.Subscript o (.Slice lo hi none p2) pos) g l (cut ds i j) := by
  obtain ⟨tl, pl, hl⟩ := hl
  obtain ⟨tu, pu, hu⟩ := hu
  refine ev_new (pe_slice sl_list pe_wp pl pu) fun en T σ H Q s k => ?_
  refine ho en T σ H _ s fun v H1 s1 => ?_
  refine hl en _ σ H1 _ s1 fun H2 s2 => ?_
  refine hu en _ σ H2 _ s2 fun H3 s3 => ?_
  obtain ⟨F, M, q⟩ := s3
  obtain ⟨a, vs, rfl, sq, f⟩ := hd.get q.exF q.exM q.rs q.tm.1
  exact ⟨a, vs, rfl, sq, fun p hp => k p _ H3 F M (q.tmp q.tm.2) (f.cut i j) hp⟩
theorem px_slL {lo hi : Option Expr} {i j : Option Int} (ho : Px X o g l d) (hd : Lq X.K l d ds) (hl : Pz X lo g l i) (hu : Pz X hi g l j) : Px X (.Subscript o (.Slice lo hi none p2) pos) g l (.lst (cut ds i j)) := (ev_slL ho hd hl hu).frz
theorem px_slT {lo hi : Option Expr} {i j : Option Int} (ho : Px X o g l (.tup ds)) (hl : Pz X lo g l i) (hu : Pz X hi g l j) : Px X (.Subscript o (.Slice lo hi none p2) pos) g l (.tup (cut ds i j)) := fun en T σ H Q s k => by
  obtain ⟨tl, pl, hl⟩ := hl
  obtain ⟨tu, pu, hu⟩ := hu
  refine wpE_of (pe_slice sl_tupA pe_wp pl pu) ?_
  refine ho en T σ H _ s fun v H1 s1 => ?_
  refine hl en _ σ H1 _ s1 fun H2 s2 => ?_
  refine hu en _ σ H2 _ s2 fun H3 s3 => ?_
  obtain ⟨F, M, q⟩ := s3
  obtain ⟨f, t⟩ := q.tm
  cases f with
  | tup sq f =>
    rename_i a vs
    refine ⟨a, vs, rfl, ex_t q.exF sq, fun hw => ?_, fun hw p hp => ?_⟩
    · refine k _ H3 ⟨F, M, q.tmp ⟨?_, t⟩⟩
      have e : cut ds i j = ds := by
        unfold cut
        rw [← f.length, hw.1, hw.2, List.drop_zero, Nat.sub_zero, f.length, List.take_length]
      rw [e]
      exact .tup sq f
    · have n := New.upd (o := .tup (cutV vs i j)) q.exF hp
      exact k _ _ ⟨_, M, (q.new n).tmp ⟨.tup (SqT.of upd_same) (FdAll.mono n.f _ (f.cut i j)), T.mono n.f t⟩⟩
theorem px_slS {lo hi : Option Expr} {i j : Option Int} {x : Str} (ho : Px X o g l (.str x)) (hx : x.length ≤ sizeLine) (hl : Pz X lo g l i) (hu : Pz X hi g l j) : Px X (.Subscript o (.Slice lo hi none p2) pos) g l (.str (cutS x i j)) := fun en T σ H Q s k => by
  obtain ⟨tl, pl, hl⟩ := hl
  obtain ⟨tu, pu, hu⟩ := hu
  refine wpE_of (pe_slice sl_str pe_wp pl pu) ?_
  refine ho en T σ H _ s fun v H1 s1 => ?_
  refine hl en _ σ H1 _ s1 fun H2 s2 => ?_
  refine hu en _ σ H2 _ s2 fun H3 s3 => ?_
  obtain ⟨F, M, q⟩ := s3
  obtain ⟨f, t⟩ := q.tm
  cases f
  exact ⟨x, rfl, hx, k _ H3 ⟨F, M, q.tmp ⟨.str _, t⟩⟩⟩
/-! ### + and * of lists, list(x), tuple(x) -/
theorem ev_listOf {e1 : Expr} (ha : Px X e1 g l d) (hd : Sv X.K l d ds) (hm : X.mg "list" = none) (hg : Gl X "list" := by rfl) (hs : starEach [e1] X.env = (false, eval e1 X.env) :: starEach [] X.env := by rfl) : EvL X (.Call (.Name "list" p) [e1] [] pos) g l ds :=
  ev_new (pe_callTy call_list_of hg hm (by decide +kernel) (pa_wp (es := [e1])) (by decide) (by decide) hs rfl) fun en T σ H Q s k => by
  refine pa_c ha pa_n hs en T σ H _ s fun vs H1 s1 => ?_
  obtain ⟨F, M, q⟩ := s1
  obtain ⟨f, t⟩ := q.tm
  cases f with
  | cons f1 f2 =>
    cases f2
    obtain ⟨a, ws, rfl, sq, f⟩ := hd.get q.exF q.exM q.rs f1
    exact ⟨a, ws, rfl, sq, fun p hp => k p _ H1 F M (q.tmp t) f hp⟩
theorem px_listOf {e1 : Expr} (ha : Px X e1 g l d) (hd : Sv X.K l d ds) (hm : X.mg "list" = none) (hg : Gl X "list" := by rfl) (hs : starEach [e1] X.env = (false, eval e1 X.env) :: starEach [] X.env := by rfl) : Px X (.Call (.Name "list" p) [e1] [] pos) g l (.lst ds) := (ev_listOf ha hd hm hg hs).frz
/-! ### texts -/
end
section
variable {K : PySem.W.Frag} {l : List Res} {d d1 d2 : D} {ds es : List D}
theorem Op2.to {r : R2} {a b d d' : D} (h : Op2 K l r a b d) (q : d = d') : Op2 K l r a b d' := q ▸ h
theorem OpN.to {r : List V → Hp → VK → Prop} {as : List D} {d d' : D} (h : OpN K l r as d) (q : d = d') : OpN K l r as d' := q ▸ h
/-- a sign in a text -/
theorem o_inX {c : Nat} {z : Str} : Op2 K l (fun x y H Q => ∃ (c : Nat) (z : Str), x = .str ⟨#[c]⟩ ∧ y = .str z ∧ Q (.bl (decide (c ∈ z.cps.toList))) H) (.str ⟨#[c]⟩) (.str z) (.bl (decide (c ∈ z.cps.toList))) := fun F M H v u Q eF eM dj rs f1 f2 k => by
  cases f1; cases f2
  exact ⟨c, z, rfl, rfl, k _ F H (.rf eF) (.bl _)⟩
theorem o_all {bs : List Bool} (h : Lq K l d (bs.map .bl)) : OpN K l (rAll K) [d] (.bl (bs.all id)) := fun F M H vs Q eF eM dj rs f k => by
  cases f with
  | cons f1 f2 =>
    cases f2
    obtain ⟨a, ws, rfl, sq, f⟩ := h.get eF eM rs f1
    have e := f.bls
    subst e
    exact ⟨a, bs, rfl, sq, k _ F H (.rf eF) (.bl _)⟩
/-- the greatest, the least of ints -/
def maxL : List Int → Int
  | [] => 0
  | [a] => a
  | a :: b :: r => max a (maxL (b :: r))
def minL : List Int → Int
  | [] => 0
  | [a] => a
  | a :: b :: r => min a (minL (b :: r))
/-- len of any -/
theorem o_lenV (h : Sv K l d ds) : OpN K l (rLen1 K) [d] (.int ds.length) := fun F M H vs Q eF eM dj rs f k => by
  cases f with
  | cons f1 f2 =>
    cases f2
    obtain ⟨a, ws, rfl, sq, f⟩ := h.get eF eM rs f1
    refine ⟨a, ws, rfl, sq, ?_⟩
    rw [f.length]
    exact k _ F H (.rf eF) (.int _)
/-- an item of any list -/
theorem o_ixV {i : Int} (h : Lq K l d1 ds) (hi : atI ds i = some d) : Op2 K l (rIxL K) d1 (.int i) d := fun F M H v u Q eF eM dj rs f1 f2 k => by
  cases f2
  obtain ⟨a, ws, rfl, sq, f⟩ := h.get eF eM rs f1
  obtain ⟨w, h1, h2⟩ := atI_fd f hi
  exact ⟨_, _, i, w, rfl, rfl, sq, h1, k w F H (.rf eF) h2⟩
/-- == of lists, one owned -/
theorem Lv.dp {F M H : Hp} {v : V} {ps : List PyData} (h : Lv K l d ds) (eF : Ex F H) (eM : Ex M H) (rs : Rs l F M) (f : Fd K F v d) (hp : D.pys ds = some ps) : Dp K H v (.list ps) := by
  obtain ⟨a, vs, rfl, sq, f⟩ := h.get eF eM rs f
  exact .lst (SqL.of sq) (FdAll.dp eF ds f hp)
end
section
variable {X : Cx} {W : WX} {g g' : Gm} {l l' : List Res} {Φ : Po} {e e2 a b c o : Expr} {es : List Expr} {d d1 d2 d3 : D} {ds ds1 ds2 : List D} {pos p p2 : Pos} {rest : List Stmt}
/-- x.append(e), x an owned list -/
theorem blk_add {k : Nat} {q : Addr} {apos cpos : Pos} (ho : Px X o g l (.adr q)) (he : Px X e g l d) (hk : l[k]? = some (ownL X.K q ds)) (hz : ds.length < sizeLine) (h : Blk X W rest (g) (l.set k (ownL X.K q (ds ++ [d]))) Φ)
    (hp : PS X (.Expr (.Call (.Attribute o "append" apos) [e] [] cpos) pos) (tDrop (tBM X.K "list" rAppend (wpE X o) (tCons (wpE X e) tNil))) := by exact ps_expr (pe_bm PySem.F.plainAttrs_list PySem.F.slot_list_append PySem.F.type_list_append mt_append pe_wp (pa_cons pe_wp pa_nil))) :
    Blk X W (.Expr (.Call (.Attribute o "append" apos) [e] [] cpos) pos :: rest) g l Φ := blk_app ho he hk hz h hp
end
end Sx
set_option Elab.async false
set_option linter.all false
set_option maxRecDepth 100000
set_option maxHeartbeats 2000000
/-! == of data that are alike. -/
namespace Sx
open PySem L2
theorem Dj.r' {A B C : Hp} (h : Dj C (join A B)) : Dj C B := fun x o e => (join_none (h x o e)).2
/-- a datum of plain things, at most k deep -/
def Dp' (k : Nat) (d : D) : Prop := ∃ p, d.py = some p ∧ p.canLay0 = true ∧ p.depth ≤ k
theorem Dp'.non {k : Nat} : Dp' k .non := ⟨_, rfl, rfl, Nat.zero_le _⟩
theorem Dp'.bl {k : Nat} {b : Bool} : Dp' k (.bl b) := ⟨_, rfl, rfl, Nat.zero_le _⟩
theorem Dp'.int {k : Nat} {i : Int} : Dp' k (.int i) := ⟨_, rfl, rfl, Nat.zero_le _⟩
theorem Dp'.str {k : Nat} {x : Str} (h : PySem.PyData.strOk x = true := by decide +kernel) : Dp' k (.str x) := ⟨_, rfl, h, Nat.zero_le _⟩
theorem Dp'.all {k : Nat} : ∀ {ds : List D}, (∀ d ∈ ds, Dp' k d) → ∃ ps, D.pys ds = some ps ∧ PyData.canLayAll0 ps = true ∧ PyData.depthAll ps ≤ k
  | [], _ => ⟨[], rfl, rfl, Nat.zero_le _⟩
  | d :: r, h => by
    obtain ⟨p, h1, h2, h3⟩ := h d List.mem_cons_self
    obtain ⟨ps, h4, h5, h6⟩ := Dp'.all (ds := r) fun z hz => h z (List.mem_cons_of_mem _ hz)
    refine ⟨p :: ps, ?_, ?_, ?_⟩
    · show (D.py d).bind (fun a => (D.pys r).map fun b => a :: b) = _
      rw [h1, h4]
      rfl
    · show (PyData.canLay0 p && PyData.canLayAll0 ps) = true
      rw [h2, h5]
      rfl
    · show max (PyData.depth p) (PyData.depthAll ps) ≤ k
      exact Nat.max_le.mpr ⟨h3, h6⟩
theorem Dp'.lst {k : Nat} {ds : List D} (h : ∀ d ∈ ds, Dp' k d) : Dp' (k + 1) (.lst ds) := by
  obtain ⟨ps, h1, h2, h3⟩ := Dp'.all h
  refine ⟨.list ps, ?_, h2, Nat.succ_le_succ h3⟩
  show (D.pys ds).map PyData.list = _
  rw [h1]
  rfl
theorem Dp'.tup {k : Nat} {ds : List D} (h : ∀ d ∈ ds, Dp' k d) : Dp' (k + 1) (.tup ds) := by
  obtain ⟨ps, h1, h2, h3⟩ := Dp'.all h
  refine ⟨.tuple ps, ?_, h2, Nat.succ_le_succ h3⟩
  show (D.pys ds).map PyData.tuple = _
  rw [h1]
  rfl
theorem Dp'.mono {j k : Nat} {d : D} (h : Dp' j d) (e : j ≤ k) : Dp' k d := let ⟨p, h1, h2, h3⟩ := h; ⟨p, h1, h2, Nat.le_trans h3 e⟩
theorem Dp'.ints {k : Nat} {ns : List Int} : ∀ d ∈ ns.map D.int, Dp' k d := fun d h => by
  obtain ⟨n, _, rfl⟩ := List.mem_map.mp h
  exact .int
section
variable {K : PySem.W.Frag} {l : List Res} {d d1 d2 : D} {ds es : List D} {k : Nat}
theorem shaped_of {p : PyData} (h1 : p.canLay0 = true) (h2 : p.depth ≤ k) (h3 : k ≤ 64) : SeqAt.shaped p = true := by
  show (p.canLay0 && decide (p.depth ≤ 64)) = true
  rw [h1, decide_eq_true (Nat.le_trans h2 h3)]
  rfl
end
section
variable {X : Cx} {W : WX} {g : Gm} {l l' : List Res} {Φ : Po}
/-- what is owned is given up -/
theorem S.dropO {K : PySem.W.Frag} {en : En} {T : Tm} {σ : L2.St} {H : Hp} (s : S K en g T (l' ++ l) σ H) : S K en g T l σ H := by
  obtain ⟨F, M, a⟩ := s
  obtain ⟨A, B, rfl, dj, r1, r2⟩ := a.rs.split
  exact ⟨F, B, a.exF, a.exM.joinR dj, Dj.r' a.dj, a.eF, a.nF, fun x o h => a.nM x o (by rw [join_r (dj.sym x o h)]; exact h), a.fr, a.sl, a.tm, r2⟩
theorem Blk.dropO {sts : List Stmt} (h : Blk X W sts g l Φ) : Blk X W sts g (l' ++ l) Φ := fun en T σ H D s m => h en T σ H D s.dropO m
variable {rest : List Stmt} {pos : Pos} {c : Expr}
end
end Sx
set_option Elab.async false
set_option linter.all false
set_option maxRecDepth 100000
set_option maxHeartbeats 2000000
/-! Slices with a step; dicts. -/
namespace Sx
open PySem L2 PyProof.Rows
/-! ### slices with a step -/
def pickN {α : Type} (xs : List α) (js : List Nat) : List α := js.filterMap (xs[·]?)
theorem pickN_cons {α : Type} (xs : List α) (j : Nat) (js : List Nat) : pickN xs (j :: js) = (match xs[j]? with | some x => [x] | none => []) ++ pickN xs js := by
  unfold pickN
  rw [List.filterMap_cons]
  cases xs[j]? <;> rfl
theorem pickN_map {α β : Type} (f : α → β) (xs : List α) : ∀ js, pickN (xs.map f) js = (pickN xs js).map f
  | [] => rfl
  | j :: js => by
    rw [pickN_cons, pickN_cons, pickN_map f xs js, List.getElem?_map, List.map_append]
    cases xs[j]? <;> rfl
theorem vals_get : ∀ {vs : List V} {us : List Value} (j : Nat), Vals vs us → (vs[j]? = none ∧ us[j]? = none) ∨ ∃ v u, vs[j]? = some v ∧ us[j]? = some u ∧ RelV v u
  | _, _, _, .nil => .inl ⟨rfl, rfl⟩
  | _, _, 0, .cons r _ => .inr ⟨_, _, rfl, rfl, r⟩
  | _, _, j + 1, .cons _ t => by
    rcases vals_get j t with ⟨h1, h2⟩ | ⟨v, u, h1, h2, h3⟩
    · exact .inl ⟨by rw [List.getElem?_cons_succ]; exact h1, by rw [List.getElem?_cons_succ]; exact h2⟩
    · exact .inr ⟨v, u, by rw [List.getElem?_cons_succ]; exact h1, by rw [List.getElem?_cons_succ]; exact h2, h3⟩
theorem vals_pick {vs : List V} {us : List Value} (h : Vals vs us) : ∀ js, Vals (pickN vs js) (pickN us js)
  | [] => .nil
  | j :: js => by
    rw [pickN_cons, pickN_cons]
    have ih := vals_pick h js
    rcases vals_get j h with ⟨h1, h2⟩ | ⟨v, u, h1, h2, h3⟩
    · rw [h1, h2]; exact ih
    · rw [h1, h2]; exact .cons h3 ih
theorem FdAll.pick {K : PySem.W.Frag} {F : Hp} {vs : List V} {ds : List D} (h : FdAll K F vs ds) : ∀ js, FdAll K F (pickN vs js) (pickN ds js)
  | [] => .nil
  | j :: js => by
    rw [pickN_cons, pickN_cons]
    have ih := FdAll.pick h js
    cases e : ds[j]? with
    | none =>
      have : vs[j]? = none := by
        rw [List.getElem?_eq_none_iff] at e ⊢
        rw [h.length]; exact e
      rw [this]; exact ih
    | some d =>
      obtain ⟨v, h1, h2⟩ := h.get e
      rw [h1]; exact .cons h2 ih
/-- which places xs[lo:hi:st] takes -/
def places (n : Nat) (lo hi st : Option Int) : List Nat := let b := sliceBounds lo hi st n; sliceRange b.1 b.2.1 b.2.2
theorem stride_at {xs : List Value} {lo hi st : Option Int} : slicePick xs.toArray lo hi st = (pickN xs (places xs.length lo hi st)).toArray := by
  unfold slicePick pickN places
  rw [List.size_toArray]
  congr 2
  funext j
  rw [List.getElem?_toArray]
section
variable {X : Cx} {W : WX} {g g' : Gm} {l l' : List Res} {Φ : Po} {e e2 a b c o v : Expr} {es : List Expr} {d d1 d2 d3 : D} {ds ds1 ds2 : List D} {pos p p2 : Pos} {rest : List Stmt}
def tStride (K : PySem.W.Frag) (te : TE) (tl th ts : TO) : TE := fun σ H Q => te σ H fun x H1 => tl σ H1 fun i H2 => th σ H2 fun j H3 => ts σ H3 fun k H4 => k ≠ some 0 ∧ ∃ q xs, x = .ref q ∧ SqL K H4 q xs ∧ ((pickN xs (places xs.length i j k)).length ≤ sizeLine) ∧ ∀ r, H4 r = none → Q (.ref r) (upd H4 r (.lst (pickN xs (places xs.length i j k))))
theorem pe_stride {te : TE} {tl th ts : TO} {lo hi : Option Expr} {st : Expr} (he : PE X e te) (hl : PO X lo tl) (hu : PO X hi th) (hk : PO X (some st) ts) (hx : ∀ (x y : Value), subscripted (.Slice lo hi (some st) p2) false x y = operate [x, y] (getItem x y) := by intros; with_unfolding_all rfl) :
    PE X (.Subscript e (.Slice lo hi (some st) p2) pos) (tStride X.K te tl th ts) := by
  refine ⟨fun pins t0 σ H Q I h => ?_⟩
  refine Subscript_ (thn (he.run pins t0 σ H _ I h) fun w t1 ⟨x, H1, I1, r1, q1⟩ => ?_)
  refine wpAny_Slice ?_
  refine thn (hl.run pins t1 σ H1 _ I1 q1) fun vi t2 ⟨i, H2, I2, pi, q2⟩ => ?_
  refine thn (hu.run pins t2 σ H2 _ I2 q2) fun vj t3 ⟨j, H3, I3, pj, q3⟩ => ?_
  refine thn (hk.run pins t3 σ H3 _ I3 q3) fun vk t4 ⟨k, H4, I4, pk, nz, q, xs, ex, sq, hz, q4⟩ => ?_
  subst ex
  cases r1
  have J : Inv X pins σ H4 { t4 with heap := t4.heap.push { cls := .type "slice", data := .fields #[vi, vj, vk] } } := I4.kept (t' := t4.toks) fun _ _ z => Heap.get?_push_of_some _ z
  obtain ⟨us, rv, ht, hw⟩ := J.list sq
  have hlen := rv.length
  refine tail_any (T := "list") (id := "list.__getitem__") (ops := [.ref q, .ref t4.heap.objs.size]) ht.isList.typeIs slot_list_getitem.lookup ?_ (hx _ _)
  refine wpAny_getItem_list_slice ht.isList (Heap.IsSliceOf.new ..) pi pj pk nz ?_ (by rw [List.size_toArray] <;> omega)
  rw [stride_at, ← hlen]
  refine ⟨.ref _, _, J.laid (t' := t4.toks) (o := .lst (pickN xs (places xs.length i j k))) (fun _ _ z => Heap.get?_push_of_some _ z) (Nat.le_refl _) ?_, rfl, q4 _ (J.hok.fresh (Nat.le_refl _))⟩
  exact ⟨hz, _, 0, vals_pick rv _, Heap.get?_push_size _ rfl⟩
theorem ev_stride {lo hi : Option Expr} {st : Expr} {i j k : Option Int} (ho : Px X o g l d) (hd : Lq X.K l d ds) (hl : Pz X lo g l i) (hu : Pz X hi g l j) (hs : Pz X (some st) g l k) (hn : k ≠ some 0) (hz : (pickN ds (places ds.length i j k)).length ≤ sizeLine)
    (hx : ∀ (x y : Value), subscripted (.Slice lo hi (some st) p2) false x y = operate [x, y] (getItem x y) := by intros; with_unfolding_all rfl) : EvL X (.Subscript o (.Slice lo hi (some st) p2) pos) g l (pickN ds (places ds.length i j k)) := by
  obtain ⟨tl, pl, hl⟩ := hl
  obtain ⟨tu, pu, hu⟩ := hu
  obtain ⟨ts, ps, hs⟩ := hs
  refine ev_new (pe_stride pe_wp pl pu ps hx) fun en T σ H Q s kk => ?_
  refine ho en T σ H _ s fun v H1 s1 => ?_
  refine hl en _ σ H1 _ s1 fun H2 s2 => ?_
  refine hu en _ σ H2 _ s2 fun H3 s3 => ?_
  refine hs en _ σ H3 _ s3 fun H4 s4 => ?_
  obtain ⟨F, M, q⟩ := s4
  obtain ⟨a, vs, rfl, sq, f⟩ := hd.get q.exF q.exM q.rs q.tm.1
  refine ⟨hn, a, vs, rfl, sq, ?_, fun p hp => ?_⟩
  · rw [f.length, (f.pick _).length]; exact hz
  · rw [f.length]
    exact kk p _ H4 F M (q.tmp q.tm.2) (f.pick _) hp
/-! ### dicts -/
def valD {κ : Type} [DecidableEq κ] (kvs : List (κ × D)) (k : κ) : Option D := (kvs.find? fun kv => decide (kv.1 = k)).map (·.2)
def putKD {κ : Type} [DecidableEq κ] (kvs : List (κ × D)) (k : κ) (d : D) : List (κ × D) :=
  if (kvs.any fun kv => decide (kv.1 = k)) = true then kvs.map (fun kv => if kv.1 = k then (kv.1, d) else kv) else kvs ++ [(k, d)]
section
variable {K : PySem.W.Frag} {F : Hp} {κ : Type} [DecidableEq κ]
theorem FdFs.valV {k : κ} {d : D} : ∀ {vs : List (κ × V)} {kvs : List (κ × D)}, FdFs K F vs kvs → valD kvs k = some d → ∃ v, L2.valV vs k = some v ∧ Fd K F v d
  | _, _, .nil, h => by cases h
  | (n, v) :: vs, (_, d') :: kvs, .cons a b, h => by
    unfold valD at h
    unfold L2.valV
    rw [List.find?_cons] at h ⊢
    by_cases e : n = k
    · rw [decide_eq_true e] at h ⊢
      cases h
      exact ⟨v, rfl, a⟩
    · rw [decide_eq_false e] at h ⊢
      exact FdFs.valV b h
theorem FdFs.anyK {k : κ} : ∀ {vs : List (κ × V)} {kvs : List (κ × D)}, FdFs K F vs kvs → (vs.any fun kv => decide (kv.1 = k)) = kvs.any fun kv => decide (kv.1 = k)
  | _, _, .nil => rfl
  | (n, v) :: vs, (_, d') :: kvs, .cons a b => by
    rw [List.any_cons, List.any_cons, FdFs.anyK b]
theorem FdFs.mapK {k : κ} {v : V} {d : D} (h : Fd K F v d) : ∀ {vs : List (κ × V)} {kvs : List (κ × D)}, FdFs K F vs kvs → FdFs K F (vs.map (fun kv => if kv.1 = k then (kv.1, v) else kv)) (kvs.map fun kv => if kv.1 = k then (kv.1, d) else kv)
  | _, _, .nil => .nil
  | (n, v') :: vs, (_, d') :: kvs, .cons a b => by
    rw [List.map_cons, List.map_cons]
    by_cases e : n = k
    · show FdFs K F ((if n = k then (n, v) else (n, v')) :: _) ((if n = k then (n, d) else (n, d')) :: _)
      rw [if_pos e, if_pos e]
      exact .cons h (FdFs.mapK h b)
    · show FdFs K F ((if n = k then (n, v) else (n, v')) :: _) ((if n = k then (n, d) else (n, d')) :: _)
      rw [if_neg e, if_neg e]
      exact .cons a (FdFs.mapK h b)
theorem FdFs.app1 {k : κ} {v : V} {d : D} (h : Fd K F v d) : ∀ {vs : List (κ × V)} {kvs : List (κ × D)}, FdFs K F vs kvs → FdFs K F (vs ++ [(k, v)]) (kvs ++ [(k, d)])
  | _, _, .nil => .cons h .nil
  | _, _, .cons a b => .cons a (FdFs.app1 h b)
theorem FdFs.putK {k : κ} {v : V} {d : D} {vs : List (κ × V)} {kvs : List (κ × D)} (f : FdFs K F vs kvs) (h : Fd K F v d) : FdFs K F (L2.putK vs k v) (putKD kvs k d) := by
  unfold L2.putK putKD
  rw [f.anyK]
  split
  · exact f.mapK h
  · exact f.app1 h
end
def ownD (K : PySem.W.Frag) (p : Addr) (kvs : List (Key × D)) : Res := ⟨fun F M => ∃ vs, FdFs K F vs kvs ∧ M = one p (.dK vs), fun e ⟨vs, h, m⟩ => ⟨vs, FdFs.mono e _ h, m⟩, fun ⟨_, _, m⟩ x xs e => by rw [m] at e; obtain ⟨_, e⟩ := one_some e; cases e⟩
def ownT (K : PySem.W.Frag) (p : Addr) (kvs : List (List Key × D)) : Res := ⟨fun F M => ∃ vs, FdFs K F vs kvs ∧ M = one p (.dT vs), fun e ⟨vs, h, m⟩ => ⟨vs, FdFs.mono e _ h, m⟩, fun ⟨_, _, m⟩ x xs e => by rw [m] at e; obtain ⟨_, e⟩ := one_some e; cases e⟩
/-- .. while it is walked over -/
def ownDz (K : PySem.W.Frag) (p : Addr) (od : Obj) (vs : List (Key × V)) (kvs : List (Key × D)) : Res := ⟨fun F M => FdFs K F vs kvs ∧ M = one p (.frz od (.dK vs)), fun e ⟨h, m⟩ => ⟨FdFs.mono e _ h, m⟩, fun ⟨_, m⟩ x xs e => by rw [m] at e; obtain ⟨_, e⟩ := one_some e; cases e⟩
def ownTz (K : PySem.W.Frag) (p : Addr) (od : Obj) (vs : List (List Key × V)) (kvs : List (List Key × D)) : Res := ⟨fun F M => FdFs K F vs kvs ∧ M = one p (.frz od (.dT vs)), fun e ⟨h, m⟩ => ⟨FdFs.mono e _ h, m⟩, fun ⟨_, m⟩ x xs e => by rw [m] at e; obtain ⟨_, e⟩ := one_some e; cases e⟩
/-- a dict with single keys: frozen or owned | .. with tuples as keys -/
inductive Dv (K : PySem.W.Frag) (l : List Res) : D → List (Key × D) → Prop
  | f {kvs : List (Key × D)} : Dv K l (.dK kvs) kvs
  | o {k : Nat} {p : Addr} {kvs : List (Key × D)} (h : l[k]? = some (ownD K p kvs)) : Dv K l (.adr p) kvs
  | z {k : Nat} {p : Addr} {od : Obj} {vs : List (Key × V)} {kvs : List (Key × D)} (h : l[k]? = some (ownDz K p od vs kvs)) : Dv K l (.adr p) kvs
inductive Du (K : PySem.W.Frag) (l : List Res) : D → List (Key × D) → Prop
  | f {kvs : List (Key × D)} : Du K l (.dK kvs) kvs
  | o {k : Nat} {p : Addr} {kvs : List (Key × D)} (h : l[k]? = some (ownD K p kvs)) : Du K l (.adr p) kvs
inductive Dw (K : PySem.W.Frag) (l : List Res) : D → List (List Key × D) → Prop
  | f {kvs : List (List Key × D)} : Dw K l (.dT kvs) kvs
  | o {k : Nat} {p : Addr} {kvs : List (List Key × D)} (h : l[k]? = some (ownT K p kvs)) : Dw K l (.adr p) kvs
  | z {k : Nat} {p : Addr} {od : Obj} {vs : List (List Key × V)} {kvs : List (List Key × D)} (h : l[k]? = some (ownTz K p od vs kvs)) : Dw K l (.adr p) kvs
section
variable {K : PySem.W.Frag} {F M H : Hp} {v : V}
theorem Rs.ownD {k : Nat} {p : Addr} {kvs : List (Key × D)} (h : Rs l F M) (e : l[k]? = some (ownD K p kvs)) (m : Ex M H) : ∃ vs, FdFs K F vs kvs ∧ H p = some (.dK vs) := by
  obtain ⟨A, B, rfl, dj, ⟨vs, f, rfl⟩, _⟩ := Rs.at e h
  exact ⟨vs, f, m p _ (join_l one_same)⟩
theorem Rs.ownT {k : Nat} {p : Addr} {kvs : List (List Key × D)} (h : Rs l F M) (e : l[k]? = some (ownT K p kvs)) (m : Ex M H) : ∃ vs, FdFs K F vs kvs ∧ H p = some (.dT vs) := by
  obtain ⟨A, B, rfl, dj, ⟨vs, f, rfl⟩, _⟩ := Rs.at e h
  exact ⟨vs, f, m p _ (join_l one_same)⟩
theorem Du.get {kvs : List (Key × D)} (h : Du K l d kvs) (eF : Ex F H) (eM : Ex M H) (rs : Rs l F M) (f : Fd K F v d) : ∃ a vs, v = .ref a ∧ H a = some (.dK vs) ∧ FdFs K F vs kvs := by
  cases h with
  | f => cases f with | dK s a => exact ⟨_, _, rfl, eF _ _ s, a⟩
  | o h =>
    cases f
    obtain ⟨vs, f, hp⟩ := rs.ownD h eM
    exact ⟨_, vs, rfl, hp, f⟩
theorem Rs.ownDz {k : Nat} {p : Addr} {od : Obj} {vs : List (Key × V)} {kvs : List (Key × D)} (h : Rs l F M) (e : l[k]? = some (ownDz K p od vs kvs)) (m : Ex M H) : FdFs K F vs kvs ∧ H p = some (.frz od (.dK vs)) := by
  obtain ⟨A, B, rfl, dj, ⟨f, rfl⟩, _⟩ := Rs.at e h
  exact ⟨f, m p _ (join_l one_same)⟩
theorem Dv.get {kvs : List (Key × D)} (h : Dv K l d kvs) (eF : Ex F H) (eM : Ex M H) (rs : Rs l F M) (f : Fd K F v d) : ∃ a vs, v = .ref a ∧ Rd H a (.dK vs) ∧ FdFs K F vs kvs := by
  cases h with
  | f => cases f with | dK s a => exact ⟨_, _, rfl, .inl (eF _ _ s), a⟩
  | o h =>
    cases f
    obtain ⟨vs, f, hp⟩ := rs.ownD h eM
    exact ⟨_, vs, rfl, .inl hp, f⟩
  | z h =>
    cases f
    obtain ⟨f, hp⟩ := rs.ownDz h eM
    exact ⟨_, _, rfl, .inr ⟨_, hp⟩, f⟩
theorem Rs.ownTz {k : Nat} {p : Addr} {od : Obj} {vs : List (List Key × V)} {kvs : List (List Key × D)} (h : Rs l F M) (e : l[k]? = some (ownTz K p od vs kvs)) (m : Ex M H) : FdFs K F vs kvs ∧ H p = some (.frz od (.dT vs)) := by
  obtain ⟨A, B, rfl, dj, ⟨f, rfl⟩, _⟩ := Rs.at e h
  exact ⟨f, m p _ (join_l one_same)⟩
theorem Dw.get {kvs : List (List Key × D)} (h : Dw K l d kvs) (eF : Ex F H) (eM : Ex M H) (rs : Rs l F M) (f : Fd K F v d) : ∃ a vs, v = .ref a ∧ Rd H a (.dT vs) ∧ FdFs K F vs kvs := by
  cases h with
  | f => cases f with | dT s a => exact ⟨_, _, rfl, .inl (eF _ _ s), a⟩
  | o h =>
    cases f
    obtain ⟨vs, f, hp⟩ := rs.ownT h eM
    exact ⟨_, vs, rfl, .inl hp, f⟩
  | z h =>
    cases f
    obtain ⟨f, hp⟩ := rs.ownTz h eM
    exact ⟨_, _, rfl, .inr ⟨_, hp⟩, f⟩
end
/-- a key as a datum -/
def kD : Key → D
  | .inl i => .int i
  | .inr x => .str x
theorem Fd.key {K : PySem.W.Frag} {F : Hp} {v : V} {k : Key} (f : Fd K F v (kD k)) : v = kV k := by
  cases k with
  | inl i => cases f; rfl
  | inr x => cases f; rfl
theorem Px.units (hu : X.A.units + 64 < cLine) : X.A.units + 1 < cLine := by omega
end
section
variable {K : PySem.W.Frag} {l : List Res} {d1 d2 : D}
end
/-- a def that gives back a new list -/
abbrev Fr (K : PySem.W.Frag) {α : Type} (ok : α → Prop) (args : α → List D) (f : α → List D) : Sp := FnX K ok args (fun _ => []) (fun a d l => ∃ p, d = .adr p ∧ l = [ownL K p (f a)]) noE
section
variable {X : Cx} {g : Gm} {l : List Res} {e o : Expr} {es : List Expr} {p pos apos : Pos} {α : Type} {ok : α → Prop} {args : α → List D} {f : α → List D} {x m : Str} {ps : List Str} {k j : Nat}
theorem ev_callL (G : Glo X.prog X.w X.K X.mg X.base k x ps (Fr X.K ok args f)) (hr : Room j X.A) (hj : k ≤ j) (a : α) (hok : ok a) (ha : Pa X (e :: es) g l (args a))
    (hg : Gl X x := by rfl) (hdb : (x == ("__debug__" : Str)) = false := by decide) (he : starEach (e :: es) X.env = (false, eval e X.env) :: starEach es X.env := by rfl) (hpl : (backTo pos (starEach es X.env)).any (·.1) = false := by rfl) :
    EvL X (.Call (.Name x p) (e :: es) [] pos) g l (f a) :=
  ev_call (lr := l) (own := fun _ => []) G hr hj a hok ha (fun d l' ⟨q, e1, e2⟩ => ⟨q, e1, by rw [e2]; rfl⟩) hg hdb he hpl
theorem px_callL (G : Glo X.prog X.w X.K X.mg X.base k x ps (Fr X.K ok args f)) (hr : Room j X.A) (hj : k ≤ j) (a : α) (hok : ok a) (ha : Pa X (e :: es) g l (args a))
    (hg : Gl X x := by rfl) (hdb : (x == ("__debug__" : Str)) = false := by decide) (he : starEach (e :: es) X.env = (false, eval e X.env) :: starEach es X.env := by rfl) (hpl : (backTo pos (starEach es X.env)).any (·.1) = false := by rfl) :
    Px X (.Call (.Name x p) (e :: es) [] pos) g l (.lst (f a)) := (ev_callL G hr hj a hok ha hg hdb he hpl).frz
end
end Sx
set_option Elab.async false
set_option linter.all false
set_option maxRecDepth 100000
set_option maxHeartbeats 2000000
/-! d.get(k), d.get(k, x); a new dict asked at once. -/
namespace Sx
open PySem L2 PyProof.Rows
section
variable {X : Cx} {W : WX} {g g' : Gm} {l l' : List Res} {Φ : Po} {e e2 a b c o v : Expr} {es : List Expr} {d d1 d2 d3 : D} {pos p p2 apos : Pos} {rest : List Stmt}
/-- a call as a statement that gives nothing of worth -/
theorem blk_do {e : Expr} (he : Px X e g l d) (h : Blk X W rest g l Φ) (hs : swapsWith e none pos.line X.env = pure false := by rfl) : Blk X W (.Expr e pos :: rest) g l Φ := blk_expr he.ev (fun d l' ⟨_, e2⟩ => by subst e2; exact h) hs
end
end Sx
set_option Elab.async false
set_option linter.all false
set_option maxRecDepth 100000
set_option maxHeartbeats 2000000
/-! Dicts with tuples as keys, the key written out at the place. -/
namespace Sx
open PySem L2 PyProof.Rows
theorem FdAll.keys {K : PySem.W.Frag} {F : Hp} : ∀ {vs : List V} {ks : List Key}, FdAll K F vs (ks.map kD) → vs = ks.map kV
  | _, [], .nil => rfl
  | _, k :: ks, .cons a b => by rw [List.map_cons, a.key, FdAll.keys b]
section
variable {X : Cx} {W : WX} {g g' : Gm} {l l' : List Res} {Φ : Po} {e e2 a b c o v : Expr} {es : List Expr} {d d1 d2 d3 : D} {pos p p2 apos kp : Pos} {rest : List Stmt} {x1 : Nat} {ds : List D}
end
end Sx
set_option Elab.async false
set_option linter.all false
set_option maxRecDepth 100000
set_option maxHeartbeats 2000000
/-! A caught exception that is kept: the state is widened by its object. -/
namespace Sx
open PySem L2 PyProof.Rows
theorem exO_ok {P : Program} {w : World} {H : Hp} {h : Heap} {a : Addr} {cls : Value} {d : Option Addr} {oe : Obj} {vs : Array Value} (he : h.get? a = some oe) (hz : Zc cls d oe) (hd : oe.data = .fields vs) : ObjOk P w H h a (exO a cls d) :=
  ⟨⟨oe, he, hz, vs, hd⟩, ⟨oe, he⟩, fun _ _ ⟨o1, q, z, v, dd⟩ k => ⟨o1, k _ q, z, v, dd⟩⟩
theorem un_wide {fs ex : List Addr} {H H' : Hp} {h h' : Heap} {a : Addr} {o : HO} (u : Un fs ex H H' h h') (n : h.get? a = none) (hn : H' a = none) : Un fs ex H (upd H' a o) h h' where
  keep := u.keep
  slot := u.slot
  free := fun b ob q hb hx => by
    have ne : b ≠ a := fun e => by rw [e, n] at q; cases q
    rw [upd_ne ne]
    exact u.free b ob q hb hx
  there := u.there
  tups := fun b xs q => by
    have z := u.tups b xs q
    rw [upd_ne (ne_of_none z hn)]
    exact z
  frzs := fun b ob v q => by
    have z := u.frzs b ob v q
    rw [upd_ne (ne_of_none z hn)]
    exact z
  tbls := fun b ps q => by
    obtain ⟨more, z⟩ := u.tbls b ps q
    exact ⟨more, by rw [upd_ne (ne_of_none z hn)]; exact z⟩
theorem inv_wide {X : Cx} {pins : List (Addr × Obj)} {σ : L2.St} {H : Hp} {s : Shared} {a : Addr} {o : HO} (I : Inv X pins σ H s) (n : X.s_0.heap.get? a = none) (hn : H a = none) (np : ∀ p ∈ X.pn ++ pins, p.1 ≠ a) (nL : a ≠ X.env.locals)
    (nc : ∀ x c, X.env.cells.lookup x = some c → c ≠ a) (new : ObjOk X.prog X.w (upd H a o) s.heap a o) : Inv X pins σ (upd H a o) s :=
  ⟨I.ok, I.os, I.bare, un_wide I.base n hn, I.loc, I.cell, by rw [upd_ne (Ne.symm nL)]; exact I.free, fun x c e => by rw [upd_ne (nc x c e)]; exact I.freeC x c e,
    fun p hp => by
      obtain ⟨h1, h2, h3⟩ := I.pin p hp
      exact ⟨h1, by rw [upd_ne (np p hp)]; exact h2, h3⟩,
    fun b u e => by
      by_cases z : b = a
      · subst z
        rw [upd_same] at e
        cases e
        exact new
      · rw [upd_ne z] at e
        exact (I.hok b u e).stay (fun _ _ _ q => q) (fun b' q => by rw [upd_ne (ne_of_none q hn)]; exact q) fun b' xs q => by rw [upd_ne (ne_of_none q hn)]; exact q,
    I.len⟩
/-- a kept exception, owned: of the class at cls, no attributes of its own -/
def ownX (p : Addr) (cls : Value) (d : Option Addr) : Res := ⟨fun _ M => M = one p (exO p cls d), fun _ h => h, fun m x xs e => by rw [m] at e; obtain ⟨_, e⟩ := one_some e; exact nomatch e⟩
end Sx
set_option Elab.async false
set_option linter.all false
set_option maxRecDepth 100000
set_option maxHeartbeats 2000000
/-! Models: what a block computes, told beside the block. -/
namespace Sx
open PySem L2

theorem Wk.set {g1 g2 : Gm} (w : Wk g1 g2) : ∀ (i : Nat) (o : Option D), Wk (g1.set i o) (g2.set i o) := by
  induction w with
  | nil => intro i o; exact .nil
  | any w ih => intro i o; cases i with
    | zero => exact .keep w
    | succ i => exact .any (ih i o)
  | keep w ih => intro i o; cases i with
    | zero => exact .keep w
    | succ i => exact .keep (ih i o)
theorem Wk.sets {is : List Nat} : ∀ {es : List D} {g1 g2 : Gm}, Wk g1 g2 → Wk (sets g1 is es) (sets g2 is es) := by
  induction is with
  | nil => intro es g1 g2 w; cases es <;> exact w
  | cons i is ih =>
    intro es g1 g2 w
    cases es with
    | nil => exact w
    | cons e es => exact ih (w.set i _)
/-- the model's let -/
def lt {α β : Type} (x : α) (k : α → β) : β := k x
/-- what a block with ways out comes to -/
inductive Cf (Rr Ll Ss : Type) where
  | nx (s : Ss) | rt (r : Rr) | bk (s : Ll) | ct (s : Ll)
def bnd {Rr Ll Ss S2 : Type} (o : Cf Rr Ll Ss) (k : Ss → Cf Rr Ll S2) : Cf Rr Ll S2 := match o with
  | .nx s => k s | .rt r => .rt r | .bk s => .bk s | .ct s => .ct s
def bndV {Rr Ss : Type} (o : Cf Rr Empty Ss) (k : Ss → Rr) : Rr := match o with
  | .nx s => k s | .rt r => r | .bk s => nomatch s | .ct s => nomatch s
def loop {α Rr Ll Ss : Type} (step : Ss → α → Cf Rr Ss Ss) : List α → Ss → Cf Rr Ll Ss
  | [], s => .nx s
  | x :: xs, s => match step s x with
    | .nx s' => loop step xs s' | .ct s' => loop step xs s' | .bk s' => .nx s' | .rt r => .rt r
def whileF {Ss : Type} (c : Ss → Bool) (step : Ss → Ss) : Nat → Ss → Ss
  | 0, s => s
  | n + 1, s => cond (c s) (whileF c step n (step s)) s
def whileR {Rr Ll Ss : Type} (c : Ss → Bool) (step : Ss → Cf Rr Ss Ss) : Nat → Ss → Cf Rr Ll Ss
  | 0, s => .nx s
  | n + 1, s => cond (c s) (match step s with
    | .nx s' => whileR c step n s' | .ct s' => whileR c step n s' | .bk s' => .nx s' | .rt r => .rt r) (.nx s)

section
variable {X : Cx} {W : WX} {g g' : Gm} {l l' : List Res} {e c o : Expr} {d : D} {pos p : Pos} {rest A B body : List Stmt}
variable {α β Rr Ll Ss S1 : Type}
/-- what a def's giving back (and its raising) means -/
structure Re where
  rt : D → List Res → Prop
  ex : Value → Option Addr → Gm → List Res → Prop := fun _ _ _ _ => False
/-- at the state s the slots are G s, what is owned R s -/
def Nx (G : Ss → Gm) (R : Ss → List Res) (s : Ss) : Po := { nx := fun g l => g = G s ∧ l = R s, rt := fun _ _ => False }
def Rt (RT : Rr → Re) (r : Rr) : Po := { nx := fun _ _ => False, rt := (RT r).rt, ex := (RT r).ex }
/-- .. of a def that may run off its end -/
def Rv (RT : Rr → Re) (r : Rr) : Po := { nx := fun _ l => (RT r).rt .non l, rt := (RT r).rt, ex := (RT r).ex }
def Ou (RT : Rr → Re) (GL : Ll → Gm) (RL : Ll → List Res) (NX : Ss → Gm → List Res → Prop) : Cf Rr Ll Ss → Po
  | .nx s => { nx := NX s, rt := fun _ _ => False }
  | .rt r => { nx := fun _ _ => False, rt := (RT r).rt, ex := (RT r).ex }
  | .bk s => { nx := fun _ _ => False, rt := fun _ _ => False, bk := fun g l => g = GL s ∧ l = RL s }
  | .ct s => { nx := fun _ _ => False, rt := fun _ _ => False, ct := fun g l => g = GL s ∧ l = RL s }
abbrev NxP (G : Ss → Gm) (R : Ss → List Res) : Ss → Gm → List Res → Prop := fun s g l => g = G s ∧ l = R s
abbrev NoNx : Ss → Gm → List Res → Prop := fun _ _ _ => False
/-- the block sts, from g and l on, comes to what m tells by Om -/
def Bo (X : Cx) (W : WX) (sts : List Stmt) (g : Gm) (l : List Res) (Om : β → Po) (m : β) : Prop := Blk X W sts g l (Om m)
/-- what leaves by A leaves by B; A does not run through -/
structure Le0 (A B : Po) : Prop where
  nx : ∀ g l, ¬ A.nx g l
  rt : ∀ d l, A.rt d l → B.rt d l
  bk : ∀ g l, A.bk g l → B.bk g l
  ct : ∀ g l, A.ct g l → B.ct g l
  ex : ∀ c d g l, A.ex c d g l → B.ex c d g l
variable {Om : β → Po} {m m1 m2 : β} {k : α → β} {x0 : α} {b : Bool}
theorem Bo.weak {sts : List Stmt} (w : Wk g g') (h : Bo X W sts g' l Om m) : Bo X W sts g l Om m := Blk.weak w h
theorem Bo.perm {sts : List Stmt} (w : l.Perm l') (h : Bo X W sts g l' Om m) : Bo X W sts g l Om m := Blk.perm w h
/-- x = e -/
theorem bo_set {i : Nat} {x : Str} {pos' : Pos} (enc : α → D) (hN : X.N.Nodup) (hi : X.N[i]? = some x) (hx : Loc X.env.scope x) (he : Px X e g l (enc x0)) (h : ∀ y, y = x0 → Bo X W rest (g.set i (some (enc y))) l Om (k y))
    (hs : swapsWith e (some (.Name x pos')) pos.line X.env = pure false := by rfl) (hf : X.fn x = true ∨ X.env.scope.names.lookup x = some .local := by first | exact .inl rfl | exact .inr rfl | assumption) :
    Bo X W (.Assign [.Name x pos'] e pos :: rest) g l Om (lt x0 k) := blk_set hN hi hx he (h x0 rfl) hs hf
/-- x = e, a new list that x owns -/
theorem bo_setL {i : Nat} {x : Str} {pos' : Pos} {α : Type} {xs : List α} {k : List α → β} (enc : α → D) (hN : X.N.Nodup) (hi : X.N[i]? = some x) (hx : Loc X.env.scope x) (he : EvL X e g l (xs.map enc)) (h : ∀ p ys, ys = xs → Bo X W rest (g.set i (some (.adr p))) (ownL X.K p (ys.map enc) :: l) Om (k ys))
    (hs : swapsWith e (some (.Name x pos')) pos.line X.env = pure false := by rfl) (hf : X.fn x = true ∨ X.env.scope.names.lookup x = some .local := by first | exact .inl rfl | exact .inr rfl | assumption) :
    Bo X W (.Assign [.Name x pos'] e pos :: rest) g l Om (lt xs k) := blk_setX hN hi hx he (fun d l' ⟨p, e1, e2⟩ => by subst e1; subst e2; exact h p xs rfl) hs hf
/-- x.append(e) -/
theorem bo_app {α : Type} {kk : Nat} {q : Addr} {apos cpos : Pos} {ys : List α} {v : α} {k : List α → β} (enc : α → D) (ho : Px X o g l (.adr q)) (hk : l[kk]? = some (ownL X.K q (ys.map enc))) (he : Px X e g l (enc v)) (hz : ys.length < 10000) (h : ∀ zs, zs = ys ++ [v] → Bo X W rest g (l.set kk (ownL X.K q (zs.map enc))) Om (k zs))
    (hp : PS X (.Expr (.Call (.Attribute o "append" apos) [e] [] cpos) pos) (tDrop (tBM X.K "list" rAppend (wpE X o) (tCons (wpE X e) tNil))) := by exact ps_expr (pe_bm PySem.F.plainAttrs_list PySem.F.slot_list_append PySem.F.type_list_append mt_append pe_wp (pa_cons pe_wp pa_nil))) :
    Bo X W (.Expr (.Call (.Attribute o "append" apos) [e] [] cpos) pos :: rest) g l Om (lt (ys ++ [v]) k) := by
  refine blk_add ho he hk (by rw [List.length_map]; exact Nat.lt_of_lt_of_le hz (by decide)) ?_ hp
  have := h _ rfl
  rw [List.map_append] at this
  exact this
/-- an expression that changes nothing, as a statement -/
theorem bo_do {e : Expr} (he : Px X e g l d) (h : Bo X W rest g l Om m) (hs : swapsWith e none pos.line X.env = pure false := by rfl) : Bo X W (.Expr e pos :: rest) g l Om m := blk_do he h hs
/-! ### ifs -/
/-- an if that is the last -/
theorem bo_if (hc : Ts X c g l b) (h1 : b = true → Bo X W A g l Om m1) (h2 : b = false → Bo X W B g l Om m2) : Bo X W [.If c A B pos] g l Om (cond b m1 m2) :=
  blk_if hc (fun e => by subst e; exact (h1 rfl).imp (fun _ _ h => blk_nil h) (fun _ _ h => h) (fun _ _ h => h) (fun _ _ h => h) (fun _ _ _ _ h => h)) (fun e => by subst e; exact (h2 rfl).imp (fun _ _ h => blk_nil h) (fun _ _ h => h) (fun _ _ h => h) (fun _ _ h => h) (fun _ _ _ _ h => h))
/-- an if whose first way does not run through -/
theorem bo_ifR {RT : Rr → Re} {r1 r2 : Rr} (hc : Ts X c g l b) (h1 : b = true → Bo X W A g l (Rt RT) r1) (h2 : b = false → Bo X W rest g l (Rt RT) r2) : Bo X W (.If c A [] pos :: rest) g l (Rt RT) (cond b r1 r2) :=
  blk_if hc (fun e => by subst e; exact (h1 rfl).imp (fun _ _ h => h.elim) (fun _ _ h => h) (fun _ _ h => h) (fun _ _ h => h) (fun _ _ _ _ h => h)) (fun e => by subst e; exact blk_nil (h2 rfl))
/-! ### leaves -/
theorem bo_nxO {RT : Rr → Re} {GL : Ll → Gm} {RL : Ll → List Res} {G : Ss → Gm} {R : Ss → List Res} {s : Ss} (w : Wk g (G s)) (h : l = R s) : Bo X W [] g l (Ou RT GL RL (NxP G R)) (.nx s) := Blk.weak w (blk_nil ⟨rfl, h⟩)
/-- what a def gives back: frozen; a new list -/
abbrev PuR (enc : Rr → D) : Rr → Re := fun r => { rt := fun d l => d = enc r ∧ l = [] }
abbrev FrR (K : PySem.W.Frag) (enc : α → D) : List α → Re := fun r => { rt := fun d l => ∃ p, d = .adr p ∧ l = [ownL K p (r.map enc)] }
theorem Px.drop (h : Px X e g l d) : Ev X e g l (fun d' l' => d' = d ∧ l' = []) := fun en T σ H Q s k => h en T σ H Q s fun v H' s' => k v d [] H' ⟨rfl, rfl⟩ (S.dropO (l' := l) (by rw [List.append_nil]; exact s'))
theorem bo_ret {enc : Rr → D} {r : Rr} (he : Px X e g l (enc r)) : Bo X W (.Return (some e) pos :: rest) g l (Rt (PuR enc)) r := blk_retX he.drop fun d l' h => h
theorem bo_retO {enc : Rr → D} {GL : Ll → Gm} {RL : Ll → List Res} {NX : Ss → Gm → List Res → Prop} {r : Rr} (he : Px X e g l (enc r)) : Bo X W (.Return (some e) pos :: rest) g l (Ou (PuR enc) GL RL NX) (.rt r) := blk_retX he.drop fun d l' h => h
theorem Ev.dropL {ds : List D} (h : EvL X e g l ds) : Ev X e g l (fun d' l' => ∃ p, d' = .adr p ∧ l' = [ownL X.K p ds]) := fun en T σ H Q s k => h en T σ H Q s fun v d l' H' ⟨p, e1, e2⟩ s' => by
  subst e1; subst e2
  exact k v _ _ H' ⟨p, rfl, rfl⟩ (S.dropO (l' := l) (S.perm (List.perm_append_comm (l₁ := [ownL X.K p ds]) (l₂ := l)) s'))
theorem bo_retL {α : Type} {enc : α → D} {r : List α} (he : EvL X e g l (r.map enc)) : Bo X W (.Return (some e) pos :: rest) g l (Rt (FrR X.K enc)) r := blk_retX he.dropL fun d l' h => h
/-- an owned list is frozen -/
theorem bo_frz {sts : List Stmt} {q : Addr} {ds : List D} {i kk : Nat} (hi : nth g i = some (.adr q)) (hk : l[kk]? = some (ownL X.K q ds)) (h : Bo X W sts (g.set i (some (.lst ds))) (l.eraseIdx kk) Om m) : Bo X W sts g l Om m := Blk.perm (perm_at hk) (Blk.frz hi h)
/-! ### loops -/
theorem loop_step {step : S1 → α → Cf Rr S1 S1} {xs : List α} {i : Nat} {x : α} {s : S1} (h : xs[i]? = some x) : (loop step (xs.drop i) s : Cf Rr Ll S1) = match step s x with
    | .nx s' => loop step (xs.drop (i + 1)) s' | .ct s' => loop step (xs.drop (i + 1)) s' | .bk s' => .nx s' | .rt r => .rt r := by
  obtain ⟨hl, e⟩ := List.getElem?_eq_some_iff.mp h
  rw [List.drop_eq_getElem_cons hl, e]
  rfl
theorem loop_end {step : S1 → α → Cf Rr S1 S1} {xs : List α} {s : S1} : (loop step (xs.drop xs.length) s : Cf Rr Ll S1) = .nx s := by
  rw [List.drop_length]; rfl
theorem bo_forV {RT : Rr → Re} {tg iter : Expr} {lk : List Res} {gt : TG} {is : List Nat} {xs : List α} {step : S1 → α → Cf Rr S1 S1} {s0 : S1} {k : S1 → Rr} (enc : α → D) (G : S1 → Gm) (R : S1 → List Res) (J : Nat → S1 → Prop) (Jb : S1 → Prop) (hp : PassesOwn (model X.prog X.w) X.A X.env X.xe) (hc : X.calm = true) (hi : ItwP X tg iter g l lk (xs.map enc)) (hg : PG X tg gt)
    (h0 : Wk g (G s0)) (hl : l = R s0) (j0 : J 0 s0)
    (hs : ∀ i x s, xs[i]? = some x → (loop step (xs.drop i) s : Cf Rr Empty S1) = loop step xs s0 → J i s → ((∀ s', step s x = .nx s' → J (i + 1) s') ∧ (∀ s', step s x = .ct s' → J (i + 1) s') ∧ ∀ s', step s x = .bk s' → Jb s') ∧ ∃ es, Tg X.K gt is (enc x) es ∧ Bo X W body (sets (G s) is es) (R s) (Ou RT G R (NxP G R)) (step s x))
    (jb : ∀ s, J xs.length s → Jb s) (h : ∀ s, (loop step xs s0 : Cf Rr Empty S1) = .nx s → Jb s → Bo X W rest (G s) (R s) (Rt RT) (k s)) (hf : ∀ x, foldedSetIterable iter X.env x = pure x := by intro _; rfl) (hk : ∀ s, SubR (R s) lk := by intro s; first | exact subr0 | exact subr1 0 rfl | exact subr1 1 rfl | exact subr1 2 rfl | exact subr1 3 rfl | exact subr1 4 rfl | exact subr1 5 rfl | exact subr2 0 0 rfl rfl | exact subr2 1 0 rfl rfl | exact subr2 0 1 rfl rfl | exact subr2 1 1 rfl rfl | exact subr2 2 0 rfl rfl | exact subr2 2 1 rfl rfl) : Bo X W (.For tg iter body [] pos :: rest) g l (Rt RT) (bndV (loop step xs s0) k) := by
  subst hl
  refine blk_for (is := is) (fun i g' l' => (i = 0 ∧ g' = g ∧ l' = R s0) ∨ ∃ s, (loop step (xs.drop i) s : Cf Rr Empty S1) = loop step xs s0 ∧ J i s ∧ g' = G s ∧ l' = R s) hp hc hi hg (.inl ⟨rfl, rfl, rfl⟩) (fun i d g' l' hd hI => ?_) (fun g' l' hI => ?_) hf (fun i g' l' hI => by
      rcases hI with ⟨_, _, rfl⟩ | ⟨s, _, _, _, rfl⟩
      · exact hk _
      · exact hk _)
  · rw [List.getElem?_map] at hd
    cases q : xs[i]? with
    | none => rw [q] at hd; cases hd
    | some x =>
      rw [q] at hd
      cases hd
      obtain ⟨s, e1, e2, e3, e4⟩ : ∃ s, (loop step (xs.drop i) s : Cf Rr Empty S1) = loop step xs s0 ∧ J i s ∧ Wk g' (G s) ∧ l' = R s := by
        rcases hI with ⟨rfl, rfl, rfl⟩ | ⟨s, h1, h2, rfl, rfl⟩
        · exact ⟨s0, rfl, j0, h0, rfl⟩
        · exact ⟨s, h1, h2, .rf, rfl⟩
      subst e4
      obtain ⟨⟨h1, h1', h1b⟩, es, h2, h3⟩ := hs i x s q e1 e2
      refine ⟨es, h2, ?_⟩
      rw [loop_step q] at e1
      refine Blk.weak e3.sets ?_
      unfold Bo at h3
      generalize step s x = o at e1 h1 h1' h1b h3
      cases o with
      | nx s' => exact h3.imp (fun g2 l2 h => .inr ⟨s', e1, h1 s' rfl, h.1, h.2⟩) (fun _ _ h => h.elim) (fun _ _ h => h.elim) (fun _ _ h => h.elim) (fun _ _ _ _ h => h.elim)
      | ct s' => exact h3.imp (fun g2 l2 h => h.elim) (fun _ _ h => h.elim) (fun _ _ h => h.elim) (fun _ _ h => .inr ⟨s', e1, h1' s' rfl, h.1, h.2⟩) (fun _ _ _ _ h => h.elim)
      | rt r =>
        have e1 : (.rt r : Cf Rr Empty S1) = loop step xs s0 := e1
        rw [← e1]
        exact h3.imp (fun g2 l2 h => h.elim) (fun _ _ h => h) (fun _ _ h => h.elim) (fun _ _ h => h.elim) (fun _ _ _ _ h => h)
      | bk s' =>
        have e1 : (.nx s' : Cf Rr Empty S1) = loop step xs s0 := e1
        have z := h s' e1.symm (h1b s' rfl)
        rw [← e1]
        exact h3.imp (fun g2 l2 h => h.elim) (fun _ _ h => h.elim) (fun g2 l2 hh => by obtain ⟨w, q2⟩ := hh; subst w; subst q2; exact z) (fun _ _ h => h.elim) (fun _ _ _ _ h => h.elim)
  · rw [List.length_map] at hI
    obtain ⟨s, e1, e2, e3, e4⟩ : ∃ s, (loop step (xs.drop xs.length) s : Cf Rr Empty S1) = loop step xs s0 ∧ J xs.length s ∧ Wk g' (G s) ∧ l' = R s := by
      rcases hI with ⟨h1, rfl, rfl⟩ | ⟨s, h1, h2, rfl, rfl⟩
      · have : xs = [] := List.eq_nil_of_length_eq_zero h1
        subst this
        exact ⟨s0, rfl, j0, h0, rfl⟩
      · exact ⟨s, h1, h2, .rf, rfl⟩
    rw [loop_end] at e1
    subst e4
    have z := h s e1.symm (jb s e2)
    refine Blk.weak (g' := G s) e3 ?_
    rw [← e1]
    exact z
end
end Sx
set_option Elab.async false
set_option linter.all false
set_option maxRecDepth 100000
set_option maxHeartbeats 2000000
/-! Models: what is walked, comprehensions, things got from lists. -/
namespace Sx
open PySem L2
section
variable {X : Cx} {W : WX} {g g' : Gm} {l l' : List Res} {e e2 c o : Expr} {d d1 d2 : D} {pos p p2 : Pos} {rest A B body : List Stmt}
variable {α β γ : Type}
theorem Itw.to {lk : List Res} {tg iter : Expr} {ds ds' : List D} (h : ItwP X tg iter g l lk ds) (q : ds = ds') : ItwP X tg iter g l lk ds' := q ▸ h
/-- the whole numbers from lo on -/
def rngI (lo : Int) (n : Nat) : List Int := (List.range n).map fun i : Nat => lo + (i : Int)
theorem rngI_map {lo : Int} {n : Nat} : rng lo n = (rngI lo n).map D.int := by unfold rng rngI; rw [List.map_map]; rfl
theorem rngI_get {lo : Int} {n i : Nat} {x : Int} (h : (rngI lo n)[i]? = some x) : i < n ∧ x = lo + (i : Int) := by
  unfold rngI at h
  rw [List.getElem?_map] at h
  obtain ⟨j, h1, h2⟩ := Option.map_eq_some_iff.mp h
  obtain ⟨h3, h4⟩ := List.getElem?_eq_some_iff.mp h1
  rw [List.length_range] at h3
  rw [List.getElem_range] at h4
  subst h4
  exact ⟨h3, h2.symm⟩
def enumI (xs : List α) : List (Int × α) := xs.zipIdx.map fun q => ((q.2 : Int), q.1)
def oneC (c : Nat) : Str := ⟨#[c]⟩
theorem cut_map {f : α → β} {xs : List α} {lo hi : Option Int} : cut (xs.map f) lo hi = (cut xs lo hi).map f := by
  unfold cut
  rw [List.length_map, List.map_take, List.map_drop]
/-- what stands at a place, counted from the end where it is below nought -/
def pyAt (xs : List α) (i : Int) (x0 : α) : α := xs.getD (if i < 0 then i + (xs.length : Int) else i).toNat x0
/-! ### comprehensions -/
theorem ev_lcM {tg iter elt : Expr} {scope : Scope} {own : List (Str × Nat)} {lk : List Res} {gt : TG} {is : List Nat} {xs : List α} (enc : α → D) (encR : β → D) (F : α → β) (hc : X.calm = true) (hN : X.N.Nodup) (hi : ItwP X tg iter g l lk (xs.map enc)) (ok : BlkOk X.N X.env.scope scope own)
    (hg : Blkc X scope fun Y => PG Y tg gt) (his : ∀ i ∈ is, i ∈ own.map (·.2)) (hz : xs.length ≤ 10000)
    (hs : ∀ (i : Nat) (x : α), xs[i]? = some x → ∃ es, Tg X.K gt is (enc x) es ∧ Blkc X scope fun Y => Px Y elt (sets (wipeG g (own.map (·.2))) is es) l (encR (F x))) (hf : ∀ x, foldedSetIterable iter X.env x = pure x := by intro _; rfl) (hk : SubR l lk := by first | exact subr0 | exact subr1 0 rfl | exact subr1 1 rfl | exact subr1 2 rfl | exact subr1 3 rfl | exact subr1 4 rfl | exact subr1 5 rfl | exact subr2 0 0 rfl rfl | exact subr2 1 0 rfl rfl | exact subr2 0 1 rfl rfl | exact subr2 1 1 rfl rfl | exact subr2 2 0 rfl rfl | exact subr2 2 1 rfl rfl) :
    EvL X (.ListComp elt [⟨tg, iter, [], 0⟩] scope pos) g l ((xs.map F).map encR) :=
  ev_lc (rs := (xs.map F).map encR) hc hN hi ok hg his (by simp) (by rw [List.length_map, List.length_map]; exact Nat.le_trans hz (by decide)) (fun i d hd => by
    rw [List.getElem?_map] at hd
    obtain ⟨x, hx, rfl⟩ := Option.map_eq_some_iff.mp hd
    obtain ⟨es, h1, h2⟩ := hs i x hx
    exact ⟨es, _, h1, by rw [List.getElem?_map, List.getElem?_map, hx]; rfl, h2⟩) hf hk
theorem px_lcM {tg iter elt : Expr} {scope : Scope} {own : List (Str × Nat)} {lk : List Res} {gt : TG} {is : List Nat} {xs : List α} (enc : α → D) (encR : β → D) (F : α → β) (hc : X.calm = true) (hN : X.N.Nodup) (hi : ItwP X tg iter g l lk (xs.map enc)) (ok : BlkOk X.N X.env.scope scope own)
    (hg : Blkc X scope fun Y => PG Y tg gt) (his : ∀ i ∈ is, i ∈ own.map (·.2)) (hz : xs.length ≤ 10000)
    (hs : ∀ (i : Nat) (x : α), xs[i]? = some x → ∃ es, Tg X.K gt is (enc x) es ∧ Blkc X scope fun Y => Px Y elt (sets (wipeG g (own.map (·.2))) is es) l (encR (F x))) (hf : ∀ x, foldedSetIterable iter X.env x = pure x := by intro _; rfl) (hk : SubR l lk := by first | exact subr0 | exact subr1 0 rfl | exact subr1 1 rfl | exact subr1 2 rfl | exact subr1 3 rfl | exact subr1 4 rfl | exact subr1 5 rfl | exact subr2 0 0 rfl rfl | exact subr2 1 0 rfl rfl | exact subr2 0 1 rfl rfl | exact subr2 1 1 rfl rfl | exact subr2 2 0 rfl rfl | exact subr2 2 1 rfl rfl) :
    Px X (.ListComp elt [⟨tg, iter, [], 0⟩] scope pos) g l (.lst ((xs.map F).map encR)) := (ev_lcM enc encR F hc hN hi ok hg his hz hs hf hk).frz
variable {S1 : Type} {Om : S1 → Po}
/-! ### optional things -/
def optE (f : α → D) : Option α → D
  | none => .non
  | some x => f x
end
end Sx
set_option Elab.async false
set_option linter.all false
set_option maxRecDepth 100000
set_option maxHeartbeats 2000000
/-! Operations over encoded things, as the walker (walk.py) names them. -/
namespace Sx
open PySem L2
section
variable {X : Cx} {W : WX} {g g' : Gm} {l l' : List Res} {e e2 c a b o : Expr} {d d1 d2 : D} {pos p p2 : Pos} {rest A B body : List Stmt} {es : List Expr}
variable {α β γ : Type} {xs ys : List α} {enc : α → D} {K : PySem.W.Frag}
abbrev lstE (f : α → D) (xs : List α) : D := .lst (xs.map f)
abbrev tlE (f : α → D) (xs : List α) : D := .tup (xs.map f)
theorem ev_slM (enc : α → D) {lo hi : Option Expr} {i j : Option Int} (ho : Px X o g l d) (hd : Lq X.K l d (xs.map enc)) (hl : Pz X lo g l i) (hu : Pz X hi g l j) : EvL X (.Subscript o (.Slice lo hi none p2) pos) g l ((cut xs i j).map enc) := by
  rw [← cut_map]; exact ev_slL ho hd hl hu
theorem px_slM (enc : α → D) {lo hi : Option Expr} {i j : Option Int} (ho : Px X o g l d) (hd : Lq X.K l d (xs.map enc)) (hl : Pz X lo g l i) (hu : Pz X hi g l j) : Px X (.Subscript o (.Slice lo hi none p2) pos) g l (lstE enc (cut xs i j)) := (ev_slM enc ho hd hl hu).frz
theorem ev_strideM (enc : α → D) {lo hi : Option Expr} {st : Expr} {i j : Option Int} {k : Int} (ho : Px X o g l d) (hd : Lq X.K l d (xs.map enc)) (hl : Pz X lo g l i) (hu : Pz X hi g l j) (hs : Pz X (some st) g l (some k)) (hn : k ≠ 0) (hz : (pickN xs (places xs.length i j (some k))).length ≤ 10000) : EvL X (.Subscript o (.Slice lo hi (some st) p2) pos) g l ((pickN xs (places xs.length i j (some k))).map enc) := by
  have := ev_stride (pos := pos) (p2 := p2) ho hd hl hu hs (fun h => hn (Option.some.inj h)) (by rw [List.length_map, pickN_map, List.length_map]; exact Nat.le_trans hz (by decide))
  rw [List.length_map, pickN_map] at this
  exact this
theorem px_strideM (enc : α → D) {lo hi : Option Expr} {st : Expr} {i j : Option Int} {k : Int} (ho : Px X o g l d) (hd : Lq X.K l d (xs.map enc)) (hl : Pz X lo g l i) (hu : Pz X hi g l j) (hs : Pz X (some st) g l (some k)) (hn : k ≠ 0) (hz : (pickN xs (places xs.length i j (some k))).length ≤ 10000) : Px X (.Subscript o (.Slice lo hi (some st) p2) pos) g l (lstE enc (pickN xs (places xs.length i j (some k)))) := (ev_strideM enc ho hd hl hu hs hn hz).frz
theorem o_ixM (enc : α → D) {x0 : α} {i : Int} (h : Lq K l d (xs.map enc)) (h0 : 0 ≤ i) (h1 : i < xs.length) : Op2 K l (rIxL K) d (.int i) (enc (xs.getD i.toNat x0)) := o_ixV h (atI_map (atI_in h0 h1))
theorem o_lenM (h : Sv K l d (xs.map enc)) : OpN K l (rLen1 K) [d] (.int (xs.length : Int)) := by
  have := o_lenV h
  rw [List.length_map] at this
  exact this
variable {Om : β → Po} {v : Expr}
end
end Sx
namespace Sx
end Sx
set_option Elab.async false
set_option linter.all false
set_option maxRecDepth 100000
set_option maxHeartbeats 2000000
/-! Models of dicts: lists of pairs. -/
namespace Sx
open PySem L2
section
variable {κ κ' β γ : Type} [DecidableEq κ] [DecidableEq κ']
def aget (m : List (κ × β)) (k : κ) : Option β := (m.find? fun kv => decide (kv.1 = k)).map (·.2)
def aput (m : List (κ × β)) (k : κ) (v : β) : List (κ × β) :=
  if (m.any fun kv => decide (kv.1 = k)) = true then m.map (fun kv => if kv.1 = k then (kv.1, v) else kv) else m ++ [(k, v)]
def adel (m : List (κ × β)) (k : κ) : List (κ × β) := m.filter fun kv => decide (kv.1 ≠ k)
abbrev dE (kf : κ → κ') (enc : β → D) (m : List (κ × β)) : List (κ' × D) := m.map fun kv => (kf kv.1, enc kv.2)
variable {kf : κ → κ'} {enc : β → D} {m : List (κ × β)} {k : κ} {v : β}
end
def kS (x : Str) : Key := .inr x
def kI (i : Int) : Key := .inl i
def kII (x : Int × Int) : List Key := [.inl x.1, .inl x.2]
def kSS (x : Str × Str) : List Key := [.inr x.1, .inr x.2]
def kSI (x : Str × Int) : List Key := [.inr x.1, .inl x.2]
abbrev dkE {κ β : Type} [DecidableEq κ] (kf : κ → Key) (enc : β → D) (m : List (κ × β)) : D := .dK (dE kf enc m)
abbrev dtE {κ β : Type} [DecidableEq κ] (kf : κ → List Key) (enc : β → D) (m : List (κ × β)) : D := .dT (dE kf enc m)
section
variable {X : Cx} {W : WX} {g g' : Gm} {l l' : List Res} {e e2 c a b o v : Expr} {d d1 d2 : D} {pos p p2 apos kp : Pos} {rest : List Stmt} {es : List Expr} {x1 : Nat} {ds : List D}
variable {κ β γ : Type} [DecidableEq κ] {m : List (κ × β)} {k : κ} {enc : β → D}
section
variable {kf : κ → Key}
end
variable {S1 : Type} {Om : S1 → Po} {kk : List (κ × β) → S1}
section
variable {kf : κ → List Key}
end
end
end Sx
namespace Sx
open PySem L2
section
variable {X : Cx} {g : Gm} {l : List Res} {e o : Expr} {d1 : D} {pos : Pos} {κ β : Type} [DecidableEq κ] {m : List (κ × β)} {k : κ} {kf : κ → Key}
end
end Sx
set_option Elab.async false
set_option linter.all false
set_option maxRecDepth 100000
set_option maxHeartbeats 2000000
/-! Plain: loops of the models, sums, counts. -/
namespace Sx
open PySem L2
theorem lt_eq {α β : Type} (x : α) (k : α → β) : lt x k = k x := rfl
/-- a loop whose steps all run through -/
theorem loop_all {α Rr Ll S1 : Type} {step : S1 → α → Cf Rr S1 S1} {f : S1 → α → S1} : ∀ {xs : List α} {s : S1} (J : S1 → Prop), J s → (∀ s x, x ∈ xs → J s → step s x = .nx (f s x) ∧ J (f s x)) → (loop step xs s : Cf Rr Ll S1) = .nx (xs.foldl f s) ∧ J (xs.foldl f s)
  | [], s, J, h, _ => ⟨rfl, h⟩
  | x :: xs, s, J, h, hs => by
    obtain ⟨h1, h2⟩ := hs s x List.mem_cons_self h
    unfold loop
    rw [h1]
    exact loop_all (xs := xs) J h2 fun s y hy => hs s y (List.mem_cons_of_mem _ hy)
theorem loop_unit {α Rr Ll : Type} {step : Unit → α → Cf Rr Unit Unit} {xs : List α} (h : ∀ x ∈ xs, step () x = .nx ()) : (loop step xs () : Cf Rr Ll Unit) = .nx () := by
  have := (loop_all (Ll := Ll) (step := step) (f := fun _ _ => ()) (xs := xs) (s := ()) (fun _ => True) trivial (fun s x hx _ => ⟨h x hx, trivial⟩)).1
  rw [this]
def sumZ {α : Type} (f : α → Int) (xs : List α) : Int := (xs.map f).sum
end Sx
set_option Elab.async false
set_option linter.all false
set_option maxRecDepth 100000
set_option maxHeartbeats 2000000
/-! Exceptions: calls that may raise, raise, a caught one that is kept, what it is. -/
namespace Sx
open PySem L2 PyProof.Rows

/-! ### readings -/
section
variable {X : Cx} {CX : CXT} {k : Nat} {f C : Addr} {fd : FuncData} {ps : List Str} {sp : Sp} {E : L2.St → XK} {m : Str} {pos apos : Pos} {e o : Expr} {es : List Expr} {ta : TE} {t : TA} {pl : Sem Bool}
/-- o.m(..) where what is wished of an exception may hang on the slots -/
def tMthS (C : Addr) (m : Str) (sp : Sp) (E : L2.St → XK) (ta : TE) (t : TA) : TE := fun σ H Q => ta σ H fun x H1 => ∃ a dx fs, x = .ref a ∧ H1 a = some (.ins C dx fs) ∧ fs.lookup m = none ∧ t σ H1 fun vs H2 => sp (x :: vs) H2 Q (E σ)
theorem pe_mthS (ho : PE X o ta) (hc : Cls X.K C) (hm : Meth X.K C m f) (F : FnOk X.prog X.w X.K X.mg X.base CX k f fd ps sp) (hr : Room k X.A) (hb : Binds X.K fd ps []) (hx : ∀ σ, PassesAt CX X σ (E σ)) (ha : PA X (e :: es) t)
    (hst : starEach (e :: es) X.env = (false, eval e X.env) :: starEach es X.env := by rfl) (hpl : (backTo pos (starEach es X.env)).any (·.1) = false := by rfl) (ht : MthE X o m apos pos (e :: es) pl := by rfl) :
    PE X (.Call (.Attribute o m apos) (e :: es) [] pos) (tMthS C m sp E ta t) := by
  refine ⟨fun pins s σ H Q I h => ?_⟩
  refine PySem.W.methodCall_KW (pl := pl) (thn (ho.run pins s σ H _ I h) fun u s1 hh => ?_) ht
  obtain ⟨x, H1, I1, rx, q, dx, fs, ex, ea, lk, hq⟩ := hh
  subst ex
  have eu : u = Value.ref q := rx
  subst eu
  refine getmeth_ok I1 ea hc hm lk ?_
  refine PySem.W.callWith_K (first := [.ref q]) (h₀ := X.base) I.ok.mod.kin hm.kp (thn (ha.run pos pins s1 σ H1 _ I1 hq) fun us s2 h2 => ?_) hst hpl
  obtain ⟨vs, H2, I2, r, q2⟩ := h2
  exact ⟨I2.kIn, run_fnS (us := .ref q :: us) (vs := .ref q :: vs) F hr hb (hx σ) I2 (.cons rfl r) q2⟩
end

/-! ### judgements -/
/-- e gives a datum as Psi tells, or raises as XP tells -/
def Exv (X : Cx) (W : WX) (e : Expr) (g : Gm) (l : List Res) (Psi : D → List Res → Prop) (XP : Value → Option Addr → List Res → Prop) : Prop := ∀ en T σ H (Q : VK), S X.K en g T l σ H → (∀ v d l' H', Psi d l' → S X.K en g (T.and X.K v d) l' σ H' → Q v H') → (∀ cls dd l' H', XP cls dd l' → S X.K en g T l' σ H' → W cls dd σ H') → wpE X e σ H Q
/-- a def that may raise -/
def GloX (P : Program) (w : World) (K : PySem.W.Frag) (mg : Str → Option Value) (base : Heap) (k : Nat) (x : Str) (ps : List Str) (sp : Sp) : Prop :=
  ∃ f fd, FnOk P w K mg base (L2.CX P w) k f fd ps sp ∧ mg x = some (.ref f) ∧ PySem.W.keepIn K (.ref f) = true ∧ Binds K fd ps []
def GloMX (P : Program) (w : World) (K : PySem.W.Frag) (mg : Str → Option Value) (base : Heap) (k : Nat) (C : Addr) (m : Str) (ps : List Str) (sp : Sp) : Prop :=
  ∃ f fd, FnOk P w K mg base (L2.CX P w) k f fd ps sp ∧ Cls K C ∧ Meth K C m f ∧ Binds K fd ps []
section
variable {P : Program} {w : World} {K : PySem.W.Frag} {mg : Str → Option Value} {base : Heap} {k : Nat} {C : Addr} {x m qual : Str} {ps : List Str} {sp : Sp} {st : Stmt}
theorem glomx_of (d : Dmt K C m qual st) (c : Cls K C) (b : Bnd m qual st ps) (h : ∀ f fd, Fun K m qual st f fd → FnOk P w K mg base (L2.CX P w) k f fd ps sp) : GloMX P w K mg base k C m ps sp := by
  obtain ⟨f, fd, F, hm⟩ := d
  have F0 := F
  obtain ⟨⟨oc, od, kV, doc, pm, an, cdv, ct, osl, e, lk, hcd⟩, kp⟩ := F
  exact ⟨f, fd, h f fd F0, c, hm, Binds.all fun us hl => by rw [e]; exact b kV doc pm an cdv ct us hl⟩
end
section
variable {X : Cx} {W : WX} {g g' : Gm} {l l' : List Res} {Φ : Po} {e e2 a b c o : Expr} {es : List Expr} {d d1 d2 : D} {pos p p2 apos : Pos} {rest : List Stmt}
theorem FnX.useX {α : Type} {ok : α → Prop} {args : α → List D} {own : α → List Res} {post : α → D → List Res → Prop} {epost : α → Value → Option Addr → List Res → Prop} {K : PySem.W.Frag} {en : En} {T : Tm} {σ : L2.St} {H : Hp} {vs : List V} {lr : List Res} {Q : VK}
    (a : α) (hok : ok a) (s : S K en g (T.ands K vs (args a)) (own a ++ lr) σ H) (hq : ∀ v d l' H', post a d l' → S K en g (T.and K v d) (l' ++ lr) σ H' → Q v H') (he : ∀ cls d l' H', epost a cls d l' → S K en g T (l' ++ lr) σ H' → W cls d σ H') :
    FnX K ok args own post epost vs H Q (WE W σ) := FnX.use a hok s hq he
theorem exv_meth {α : Type} {ok : α → Prop} {args : α → List D} {own : α → List Res} {post : α → D → List Res → Prop} {epost : α → Value → Option Addr → List Res → Prop} {C : Addr} {m : Str} {ps : List Str} {k j : Nat} {lr : List Res} {Psi : D → List Res → Prop} {XP : Value → Option Addr → List Res → Prop} {ds : List D} {pl : Sem Bool}
    (tk : Takes X W) (G : GloMX X.prog X.w X.K X.mg X.base k C m ps (FnX X.K ok args own post epost)) (hr : Room j X.A) (hj : k ≤ j) (a : α) (hok : ok a) (ho : Px X o g (own a ++ lr) d1)
    (hd : ∀ F M H v, Ex F H → Ex M H → Rs (own a ++ lr) F M → Fd X.K F v d1 → ∃ q dx fs, v = .ref q ∧ H q = some (.ins C dx fs) ∧ fs.lookup m = none)
    (ha : Pa X (e :: es) g (own a ++ lr) ds) (hds : args a = d1 :: ds) (hq : ∀ d l', post a d l' → Psi d (l' ++ lr)) (hx : ∀ cls d l', epost a cls d l' → XP cls d (l' ++ lr))
    (hst : starEach (e :: es) X.env = (false, eval e X.env) :: starEach es X.env := by rfl) (hpl : (backTo pos (starEach es X.env)).any (·.1) = false := by rfl)
    (ht : MthE X o m apos pos (e :: es) pl := by rfl) :
    Exv X W (.Call (.Attribute o m apos) (e :: es) [] pos) g (own a ++ lr) Psi XP := fun en T σ H Q s kk kx => by
  obtain ⟨f, fd, F, hc, hm, hb⟩ := G
  refine wpE_of (pe_mthS pe_wp hc hm F (hr.mono hj) hb (passAt tk) pa_wp hst hpl ht) ?_
  refine ho en T σ H _ s fun v H1 s1 => ?_
  have s1' := s1
  obtain ⟨F1, M1, q1⟩ := s1
  obtain ⟨q, dx, fs, rfl, h1, h2⟩ := hd F1 M1 H1 v q1.exF q1.exM q1.rs q1.tm.1
  refine ⟨q, dx, fs, rfl, h1, h2, ?_⟩
  refine ha en _ σ H1 _ s1' fun vs H2 s2 => ?_
  refine FnX.useX a hok (T := T) (g := g) (en := en) (σ := σ) (lr := lr) ?_ (fun v d l' H' hp s' => kk v d _ H' (hq d l' hp) s') (fun cls d l' H' hp s' => kx cls d _ H' (hx cls d l' hp) s')
  obtain ⟨F, M, q⟩ := s2
  exact ⟨F, M, q.tmp ⟨by rw [hds]; exact .cons q.tm.2.1 q.tm.1, q.tm.2.2⟩⟩
/-! ### statements -/
theorem blk_exprX {Psi : D → List Res → Prop} {XP : Value → Option Addr → List Res → Prop} (he : Exv X W e g l Psi XP) (h : ∀ d l', Psi d l' → Blk X W rest g l' Φ) (hx : ∀ cls d l', XP cls d l' → Φ.ex cls d g l') (hs : swapsWith e none pos.line X.env = pure false := by rfl) : Blk X W (.Expr e pos :: rest) g l Φ := fun en T σ H D s m => wpS_of (pss_cons (ps_expr pe_wp hs) pss_wp) (he en T σ H _ s (fun v d l' H' p s' => h d l' p en T σ H' D s'.drop m) fun cls d l' H' p s' => m.ex cls d g l' σ H' (hx cls d l' p) s')
/-- what the written part says of an exception class that keeps no values -/
structure Dxc (K : PySem.W.Frag) (mg : Str → Option Value) (x : Str) (C : Addr) : Prop where
  nm : mg x = some (.ref C)
  kp : PySem.W.keepIn K (.ref C) = true
  sub : PySem.W.subIn K (.ref C) (.type "BaseException") = some true
  ty : PySem.W.typeIn K (.ref C) = some (.type "type")
  ec : ExcC K C
abbrev vErr : List Value := [.type "ValueError", .type "Exception", .type "BaseException", .type "object"]
theorem blk_raise {x m : Str} {j : Nat} {C : Addr} {pr : Pos} (hc : X.calm = true) (tk : Takes X W) (x0 : Dxc X.K X.mg x C) (xi : PySem.W.excIn X.K C vErr "ValueError.__new__" = true) (h : Φ.ex (.ref C) none g l) (hg : Gl X x := by rfl) (hdb : (x == ("__debug__" : Str)) = false := by decide) : Blk X W (.Raise (some (.Call (.Name x p) [.Constant (.str m) j p2] [] pos)) none pr :: rest) g l Φ := fun en T σ H D s mt =>
  wpS_of (pss_cons (ps_raise hc tk (pmk_own F.excBase_ValueError xi x0.nm x0.kp (raises_own x0.sub x0.ty) hg hdb)) pss_wp) (mt.ex _ _ g l σ H h s)
end

/-! ### a caught exception that is kept -/
section
variable {X : Cx} {x n y : Str} {c : Value} {i j : Nat} {body : List Stmt} {np pos pos' py pn ap : Pos} {tb : WX → TS} {Wout : WX}
/-- what the clause 'except x as n: y = n' wishes of an exception of the body -/
def wKeep (K : PySem.W.Frag) (c : Value) (i j : Nat) (Wout : WX) (D : Ends) : WX := fun cls d σ H =>
  ∃ b, PySem.W.exmOne K cls c = some b ∧ (b = true → ∀ a, H a = none → D.nx (((σ.set i (some (.ref a))).set j (some (.ref a))).set i none) (upd H a (exO a cls d))) ∧ (b = false → Wout cls d σ H)
end
section
variable {X : Cx} {W : WX} {g g' : Gm} {l l' : List Res} {Φ : Po} {body rest : List Stmt} {x n y : Str} {C : Addr} {i j : Nat} {np pos pos' py pn ap : Pos}
/-! ### what a kept one is -/
def rIsK (K : PySem.W.Frag) : List V → Hp → VK → Prop := fun xs H Q => ∃ (a D : Addr) (c : V) (cv : Value) (b : Bool), xs = [.ref a, c] ∧ H a = some (exO a (.ref D) none) ∧ ExcC K D ∧ ClsV c cv ∧ PySem.W.kitOne K (.ref D) cv = some b ∧ Q (.bl b) H
def rIsKT (K : PySem.W.Frag) : List V → Hp → VK → Prop := fun xs H Q => ∃ (a D tp : Addr) (cs : List V) (ws : List Value) (b : Bool), xs = [.ref a, .ref tp] ∧ H a = some (exO a (.ref D) none) ∧ ExcC K D ∧ SqT K H tp cs ∧ Paired ClsV cs ws ∧ PySem.W.kitAny K (.ref D) ws = some b ∧ Q (.bl b) H
theorem Rs.exc {F M H : Hp} {k : Nat} {a : Addr} {cls : Value} {d : Option Addr} (h : Rs l F M) (e : l[k]? = some (ownX a cls d)) (m : Ex M H) : H a = some (exO a cls d) := by
  obtain ⟨A, B, rfl, dj, rfl, _⟩ := Rs.at e h
  exact m a _ (join_l one_same)
end
end Sx
set_option Elab.async false
set_option linter.all false
set_option maxRecDepth 100000
set_option maxHeartbeats 2000000
/-! == of encoded things. -/
namespace Sx
open PySem L2
/-- == of things encoded by enc is equality -/
structure EqS {α : Type} [DecidableEq α] (k : Nat) (ok : α → Prop) (enc : α → D) : Prop where
  ex : ∀ x, ok x → ∃ p, (enc x).py = some p ∧ p.canLay0 = true ∧ p.depth ≤ k
  eq : ∀ x y p q, (enc x).py = some p → (enc y).py = some q → PyData.eqv p q = decide (x = y)
theorem beq_dec {α : Type} [DecidableEq α] [BEq α] [LawfulBEq α] (x y : α) : (x == y) = decide (x = y) := by
  by_cases h : x = y
  · subst h; simp
  · rw [decide_eq_false h]; exact beq_false_of_ne h
theorem eqs_int : EqS 0 (fun _ => True) D.int := ⟨fun x _ => ⟨_, rfl, rfl, Nat.le_refl _⟩, fun x y p q h1 h2 => by cases h1; cases h2; exact beq_dec x y⟩
theorem eqs_str : EqS 0 (fun x => PySem.PyData.strOk x = true) D.str := ⟨fun x h => ⟨_, rfl, h, Nat.le_refl _⟩, fun x y p q h1 h2 => by cases h1; cases h2; exact beq_dec x y⟩
section
variable {α β γ δ : Type} [DecidableEq α] [DecidableEq β] [DecidableEq γ] [DecidableEq δ] {k : Nat} {ok : α → Prop} {ok2 : β → Prop} {ok3 : γ → Prop} {ok4 : δ → Prop} {enc : α → D} {enc2 : β → D} {enc3 : γ → D} {enc4 : δ → D}
theorem pys_cons {d : D} {ds : List D} {ps : List PyData} (h : D.pys (d :: ds) = some ps) : ∃ a b, d.py = some a ∧ D.pys ds = some b ∧ ps = a :: b := by
  unfold D.pys at h
  obtain ⟨a, h1, h⟩ := Option.bind_eq_some_iff.mp h
  obtain ⟨b, h2, h⟩ := Option.map_eq_some_iff.mp h
  exact ⟨a, b, h1, h2, h.symm⟩
theorem EqS.all (E : EqS k ok enc) : ∀ {xs : List α}, (∀ x ∈ xs, ok x) → ∃ ps, D.pys (xs.map enc) = some ps ∧ PyData.canLayAll0 ps = true ∧ PyData.depthAll ps ≤ k := fun {xs} h =>
  Dp'.all fun d hd => by
    obtain ⟨x, hx, rfl⟩ := List.mem_map.mp hd
    exact E.ex x (h x hx)
theorem EqS.eqAll (E : EqS k ok enc) : ∀ {xs ys : List α} {ps qs : List PyData}, D.pys (xs.map enc) = some ps → D.pys (ys.map enc) = some qs → PyData.eqvAll ps qs = decide (xs = ys)
  | [], [], _, _, h1, h2 => by cases h1; cases h2; rfl
  | [], y :: ys, _, _, h1, h2 => by
    cases h1
    rw [List.map_cons] at h2
    obtain ⟨a, b, _, _, rfl⟩ := pys_cons h2
    rfl
  | x :: xs, [], _, _, h1, h2 => by
    cases h2
    rw [List.map_cons] at h1
    obtain ⟨a, b, _, _, rfl⟩ := pys_cons h1
    rfl
  | x :: xs, y :: ys, _, _, h1, h2 => by
    rw [List.map_cons] at h1 h2
    obtain ⟨a, b, e1, e2, rfl⟩ := pys_cons h1
    obtain ⟨a', b', e3, e4, rfl⟩ := pys_cons h2
    show (PyData.eqv a a' && PyData.eqvAll b b') = _
    rw [E.eq x y a a' e1 e3, EqS.eqAll E e2 e4]
    by_cases h : x = y
    · subst h
      by_cases h' : xs = ys
      · subst h'; simp
      · simp [h']
    · simp [h]
theorem eqs_lst (E : EqS k ok enc) : EqS (k + 1) (fun xs : List α => ∀ x ∈ xs, ok x) (lstE enc) := ⟨fun xs h => Dp'.lst fun d hd => by
    obtain ⟨x, hx, rfl⟩ := List.mem_map.mp hd
    exact E.ex x (h x hx), fun x y p q h1 h2 => by
    unfold D.py at h1 h2
    obtain ⟨ps, h3, rfl⟩ := Option.map_eq_some_iff.mp h1
    obtain ⟨qs, h4, rfl⟩ := Option.map_eq_some_iff.mp h2
    exact E.eqAll h3 h4⟩
theorem tup_py {ds : List D} {p : PyData} (h : (D.tup ds).py = some p) : ∃ ps, D.pys ds = some ps ∧ p = .tuple ps := by
  unfold D.py at h
  obtain ⟨ps, h1, rfl⟩ := Option.map_eq_some_iff.mp h
  exact ⟨ps, h1, rfl⟩
theorem eqs_t4 {k2 k3 k4 : Nat} {e : α × β × γ × δ → D} (E : EqS k ok enc) (E2 : EqS k2 ok2 enc2) (E3 : EqS k3 ok3 enc3) (E4 : EqS k4 ok4 enc4) (he : ∀ x, e x = .tup [enc x.1, enc2 x.2.1, enc3 x.2.2.1, enc4 x.2.2.2] := by intro x; rfl) : EqS (max k (max k2 (max k3 k4)) + 1) (fun x : α × β × γ × δ => ok x.1 ∧ ok2 x.2.1 ∧ ok3 x.2.2.1 ∧ ok4 x.2.2.2) e := ⟨fun x h => by
    rw [he]
    refine Dp'.tup fun d hd => ?_
    simp only [List.mem_cons, List.not_mem_nil, or_false] at hd
    rcases hd with rfl | rfl | rfl | rfl
    · exact Dp'.mono (E.ex _ h.1) (by omega)
    · exact Dp'.mono (E2.ex _ h.2.1) (by omega)
    · exact Dp'.mono (E3.ex _ h.2.2.1) (by omega)
    · exact Dp'.mono (E4.ex _ h.2.2.2) (by omega), fun x y p q h1 h2 => by
    rw [he] at h1 h2
    obtain ⟨ps, h3, rfl⟩ := tup_py h1
    obtain ⟨qs, h4, rfl⟩ := tup_py h2
    obtain ⟨a1, b1, u1, v1, rfl⟩ := pys_cons h3
    obtain ⟨a2, b2, u2, v2, rfl⟩ := pys_cons v1
    obtain ⟨a3, b3, u3, v3, rfl⟩ := pys_cons v2
    obtain ⟨a4, b4, u4, v4, rfl⟩ := pys_cons v3
    cases v4
    obtain ⟨c1, d1, w1, z1, rfl⟩ := pys_cons h4
    obtain ⟨c2, d2, w2, z2, rfl⟩ := pys_cons z1
    obtain ⟨c3, d3, w3, z3, rfl⟩ := pys_cons z2
    obtain ⟨c4, d4, w4, z4, rfl⟩ := pys_cons z3
    cases z4
    show (PyData.eqv a1 c1 && (PyData.eqv a2 c2 && (PyData.eqv a3 c3 && (PyData.eqv a4 c4 && true)))) = _
    rw [E.eq _ _ _ _ u1 w1, E2.eq _ _ _ _ u2 w2, E3.eq _ _ _ _ u3 w3, E4.eq _ _ _ _ u4 w4]
    obtain ⟨x1, x2, x3, x4⟩ := x; obtain ⟨y1, y2, y3, y4⟩ := y
    simp [Prod.mk.injEq]⟩
theorem EqS.imp {ok' : α → Prop} (E : EqS k ok enc) (h : ∀ x, ok' x → ok x) : EqS k ok' enc := ⟨fun x hx => E.ex x (h x hx), E.eq⟩
variable {K : PySem.W.Frag} {l : List Res} {d1 d2 : D} {x y : α} {xs ys : List α}
theorem o_neE (E : EqS k ok enc) (hx : ok x) (hy : ok y) (hk : k ≤ 64 := by decide) : Op2 K l (rNeD K) (enc x) (enc y) (.bl (!decide (x = y))) := by
  obtain ⟨p, h1, h2, h3⟩ := E.ex x hx
  obtain ⟨q, g1, g2, g3⟩ := E.ex y hy
  exact (o_neD h1 g1 (shaped_of h2 h3 hk) (shaped_of g2 g3 hk)).to (congrArg (fun b => D.bl (!b)) (E.eq x y p q h1 g1))
theorem o_neLE (E : EqS k ok enc) (hd1 : Lv K l d1 (xs.map enc)) (hd2 : Lv K l d2 (ys.map enc)) (hx : ∀ x ∈ xs, ok x) (hy : ∀ x ∈ ys, ok x) (hk : k ≤ 60 := by decide) : Op2 K l (rNeD K) d1 d2 (.bl (!decide (xs = ys))) := fun F M H v u Q eF eM dj rs f1 f2 kk => by
  obtain ⟨ps, h1, h2, h3⟩ := E.all hx
  obtain ⟨qs, g1, g2, g3⟩ := E.all hy
  have e := E.eqAll h1 g1
  refine ⟨.list ps, .list qs, hd1.dp eF eM rs f1 h1, hd2.dp eF eM rs f2 g1, shaped_of (k := 61) (by exact h2) (by show _ + 1 ≤ 61; omega) (by decide), shaped_of (k := 61) (by exact g2) (by show _ + 1 ≤ 61; omega) (by decide), ?_⟩
  have e2 : PyData.eqv (.list ps) (.list qs) = decide (xs = ys) := e
  rw [e2]
  exact kk _ F H (.rf eF) (.bl _)
end
end Sx
set_option Elab.async false
set_option linter.all false
set_option maxRecDepth 100000
set_option maxHeartbeats 2000000
/-! More rules for the walker: dropping, borrowing, ways that are never gone. -/
namespace Sx
open PySem L2
section
variable {X : Cx} {W : WX} {g g' : Gm} {l l' : List Res} {e e2 c a b o : Expr} {d d1 d2 : D} {pos p p2 : Pos} {rest A B body sts : List Stmt} {es : List Expr} {β : Type} {Om : β → Po} {m : β} {bb : Bool} {ds ds2 : List D}
/-- a way that is never gone -/
theorem bo_ifD (hc : Ts X c g l bb) (hb : bb = false) (h : Bo X W rest g l Om m) : Bo X W (.If c A [] pos :: rest) g l Om m :=
  blk_if hc (fun e => by rw [hb] at e; cases e) (fun _ => blk_nil h)
theorem px_isO (n : String) (bv : Bool) {x : Str} {k : Nat} {q : Addr} (z : X.mg "isinstance" = none) (zx : X.mg x = none) (h : Px X e g l (.adr q)) (hk : l[k]? = some (ownL X.K q ds)) (hb : kitB "list" n = some bv := by decide +kernel) (hv : bootBuiltins x = some (.type n) := by decide +kernel)
    (hg : Gl X "isinstance" := by rfl) (hgx : Gl X x := by rfl) (hn : x ≠ "__name__" := by decide) (hd : (x == ("__debug__" : Str)) = false := by decide)
    (hs : starEach [e, .Name x p2] X.env = (false, eval e X.env) :: starEach [.Name x p2] X.env := by rfl) (hs2 : starEach [.Name x p2] X.env = [(false, eval (.Name x p2) X.env)] := by rfl) (hpl : (backTo pos (starEach [.Name x p2] X.env)).any (·.1) = false := by rfl) :
    Px X (.Call (.Name "isinstance" p) [e, .Name x p2] [] pos) g l (.bl bv) := px_bi call_isi z (pa_c h (pa_c (px_tyn zx hv hgx hn hd) pa_n hs2) hs) (o_isiO hk hb) hg (by decide +kernel) (by decide) (by decide) hs hpl
/-- a raising def's own wish is taken -/
theorem takes_cx {P : Program} {w : World} {K : PySem.W.Frag} {mg : Str → Option Value} {base : Heap} {N : List Str} {qual : Str} {scope : Scope} {f : Addr} {cd : Value} {A : Around} {outer : List Env} {s : Shared} {H : Hp} {E : XK} :
    Takes (cxOf (L2.CX P w) P w K mg base N qual scope f cd A outer s H E) (fun cls d _ H => E cls d H) := takes_of rfl rfl rfl rfl
theorem takes_no {X : Cx} : Takes X (fun _ _ _ _ => False) := fun u s' ⟨_, _, _, _, _, _, _, _, _, _, _, _, _, _, _, _, z⟩ => z.elim
end
theorem cut_lenC {α : Type} {xs : List α} {a b : Int} (h0 : 0 ≤ a) (h1 : a ≤ b) : (cut xs (some a) (some b)).length ≤ (b - a).toNat := by
  unfold cut
  rw [List.length_take, List.length_drop]
  have e1 : HT.sIx xs.length 0 (some a) = min a.toNat xs.length := by
    show (if a < 0 then _ else _) = _
    rw [if_neg (by omega)]
  have e2 : HT.sIx xs.length xs.length (some b) = min b.toNat xs.length := by
    show (if b < 0 then _ else _) = _
    rw [if_neg (by omega)]
  rw [e1, e2]
  omega
end Sx
set_option Elab.async false
set_option linter.all false
set_option maxRecDepth 100000
set_option maxHeartbeats 2000000
/-! Exceptions that keep values: their __init__, their raise; a clause without a name. -/
namespace Sx
open PySem L2 PyProof.Rows
/-- an exception that is being made, at a | its dict | an exception's dict -/
def ownEo (a C : Addr) (d : Option Addr) : Res := ⟨fun _ M => M = one a (exo a C d), fun _ h => h, fun m x xs e => by rw [m] at e; obtain ⟨_, e⟩ := one_some e; exact exo_tup e.symm⟩
def ownEd (K : PySem.W.Frag) (dx : Addr) (fs : List (Str × D)) : Res := ⟨fun F M => ∃ vs, FdFs K F vs fs ∧ M = one dx (exd dx vs), fun e ⟨vs, h, m⟩ => ⟨vs, FdFs.mono e _ h, m⟩, fun ⟨_, _, m⟩ x xs e => by rw [m] at e; obtain ⟨_, e⟩ := one_some e; exact exd_tup e.symm⟩
def ownXd (K : PySem.W.Frag) (dx : Addr) (fs : List (Str × D)) : Res := ⟨fun F M => ∃ vs, FdFs K F vs fs ∧ M = one dx (.xd vs), fun e ⟨vs, h, m⟩ => ⟨vs, FdFs.mono e _ h, m⟩, fun ⟨_, _, m⟩ x xs e => by rw [m] at e; obtain ⟨_, e⟩ := one_some e; cases e⟩
/-- what the class R (no own __init__, above it ValueError) must say, so that R.__init__(self, ..) is got -/
structure Rin (K : PySem.W.Frag) (R : Addr) : Prop where
  rd : PySem.W.readsIn K R (.type "type") = true
  fc : PySem.W.findCls K (.ref R) (.type "type") "__init__" = some (.val (.builtin "ValueError.__init__"))
  sp : PySem.W.specialIn K (.ref R) "__getattribute__" = some (some (.builtin "type.__getattribute__"))
section
variable {X : Cx} {o e : Expr} {es : List Expr} {to te : TE} {ta : TA} {f : Str} {p p' p1 p2 pos : Pos} {x : Str} {R : Addr}
end
section
variable {K : PySem.W.Frag} {F H M : Hp} {l : List Res}
end
section
variable {X : Cx} {W : WX} {g g' : Gm} {l l' : List Res} {Φ : Po} {e e2 o : Expr} {es : List Expr} {d : D} {ds : List D} {pos p p1 p2 pos' : Pos} {rest : List Stmt} {x f : Str} {R a C : Addr}
end
/-- what the __init__ of an exception class keeps: the fields fl tells -/
abbrev XiSp (K : PySem.W.Frag) (C : Addr) {α : Type} (ok : α → Prop) (args : α → List D) (fl : α → List (Str × D)) : Sp := FnX K (fun a : Addr × α => ok a.2) (fun a => .adr a.1 :: args a.2) (fun a => [ownEo a.1 C none]) (fun a d l => d = .non ∧ ∃ dx, l = [ownEd K dx (fl a.2), ownEo a.1 C (some dx)]) noE
/-- what the written part says of an exception class with an own __init__ -/
structure Dxi (K : PySem.W.Frag) (mg : Str → Option Value) (x : Str) (C fI : Addr) : Prop where
  nm : mg x = some (.ref C)
  T : OexC K C
  iC : PySem.W.findIn K (.ref C) "__init__" = some (some (.ref fI))
  tI : PySem.W.typeIn K (.ref fI) = some (.type "function")
section
variable {X : Cx} {W : WX} {g g' : Gm} {l l' : List Res} {Φ : Po} {e : Expr} {es : List Expr} {pos p pr : Pos} {rest : List Stmt} {x : Str} {C fI : Addr} {fd : FuncData} {ps : List Str} {kk j : Nat}
end
section
variable {X : Cx} {W : WX} {g g' : Gm} {l l' : List Res} {Φ : Po} {body rest : List Stmt} {x : Str} {C : Addr} {np pos pos' p1 : Pos} {e : Expr}
end
end Sx
set_option Elab.async false
set_option linter.all false
set_option maxRecDepth 100000
set_option maxHeartbeats 2000000
/-! Owned lists handed in; a list of owned lists; a reversed list. -/
namespace Sx
open PySem L2
section
variable {X : Cx} {W : WX} {g g' : Gm} {l l' : List Res} {Φ : Po} {e e2 a b c o : Expr} {es : List Expr} {d d1 d2 d3 : D} {ds ds1 ds2 : List D} {pos p p2 : Pos} {rest : List Stmt}
end
theorem fm_all {α β : Type} {f : α → Option β} {g : α → β} : ∀ {ks : List α}, (∀ k ∈ ks, f k = some (g k)) → ks.filterMap f = ks.map g
  | [], _ => rfl
  | k :: ks, h => by
    rw [List.filterMap_cons, h k (List.mem_cons_self ..), List.map_cons, fm_all fun j hj => h j (List.mem_cons_of_mem _ hj)]
theorem pickN_rev {α : Type} (xs : List α) : pickN xs (places xs.length none none (some (-1))) = xs.reverse := by
  have e : places xs.length none none (some (-1)) = (List.range xs.length).map fun k => xs.length - 1 - k := by
    unfold places sliceBounds sliceRange
    simp only [Option.getD_some]
    have h1 : ¬ ((-1 : Int) > 0) := by decide
    rw [if_neg h1, if_neg h1, if_neg h1]
    have h2 : (if (xs.length : Int) - 1 > -1 then ((xs.length : Int) - 1 - -1 - -1 - 1) / (- -1) else 0).toNat = xs.length := by
      have e1 : (- -1 : Int) = 1 := rfl
      rw [e1, Int.ediv_one]
      split <;> omega
    rw [h2]
    exact List.map_congr_left fun k hk => by have := List.mem_range.mp hk; omega
  rw [e]
  cases xs with
  | nil => rfl
  | cons x0 r =>
    generalize hxs : x0 :: r = xs
    unfold pickN
    rw [fm_all (g := fun k => xs.getD k x0) (fun k hk => by
      obtain ⟨j, hj, rfl⟩ := List.mem_map.mp hk
      have := List.mem_range.mp hj
      rw [List.getD_eq_getElem?_getD, List.getElem?_eq_getElem (by omega)]
      rfl), List.map_map]
    apply List.ext_getElem
    · simp
    · intro i h1 h2
      rw [List.length_reverse] at h2
      rw [List.getElem_map, List.getElem_range, List.getElem_reverse]
      show xs.getD (xs.length - 1 - i) x0 = _
      rw [List.getD_eq_getElem?_getD, List.getElem?_eq_getElem (by omega)]
      rfl
end Sx
set_option Elab.async false
set_option linter.all false
set_option maxRecDepth 100000
set_option maxHeartbeats 4000000
/-! Defs that may raise: what they raise is a datum of the model; caught ones are frozen data. -/
namespace Sx
open PySem L2 PyProof.Rows
structure Xd where
  C : Addr
  fs : List (Str × D)
/-- an exception as it flies -/
def XE (K : PySem.W.Frag) (x : Xd) (cls : Value) (dd : Option Addr) (l : List Res) : Prop := cls = .ref x.C ∧ (x.fs = [] ∧ dd = none ∧ l = [] ∨ ∃ dx, dd = some dx ∧ l = [ownXd K dx x.fs])
abbrev Xd.d (x : Xd) : D := .exc x.C x.fs
def Exr (X : Cx) (W : WX) (e : Expr) (g : Gm) (l : List Res) (x : Xd) : Prop := Exv X W e g l (fun _ _ => False) (fun cls dd l' => ∃ lx, XE X.K x cls dd lx ∧ l' = lx ++ l)
/-- what giving back or raising means; raised, what was owned stands as before -/
def XR {β ε : Type} (K : PySem.W.Frag) (own : List Res) (RT : β → Re) (xc : ε → Xd) : Except ε β → Re
  | .ok v => RT v
  | .error e => { rt := fun _ _ => False, ex := fun cls dd _ l => ∃ lx, XE K (xc e) cls dd lx ∧ l = lx ++ own }
abbrev SpX (K : PySem.W.Frag) {α β ε : Type} (ok : α → Prop) (args : α → List D) (own : α → List Res) (RT : α → β → Re) (m : α → Except ε β) (xc : ε → Xd) : Sp :=
  FnX K ok args own (fun a d l => (XR K (own a) (RT a) xc (m a)).rt d l) (fun a cls dd l => (XR K (own a) (RT a) xc (m a)).ex cls dd [] l)
abbrev SpN (K : PySem.W.Frag) {α β : Type} (ok : α → Prop) (args : α → List D) (own : α → List Res) (RT : α → β → Re) (m : α → β) : Sp := FnX K ok args own (fun a d l => (RT a (m a)).rt d l) noE
/-- an exception x from g, l on is what Φ takes -/
def ExTo (K : PySem.W.Frag) (x : Xd) (Φ : Po) (g : Gm) (l : List Res) : Prop := ∀ cls dd lx, XE K x cls dd lx → ∃ l2 junk, (lx ++ l).Perm (l2 ++ junk) ∧ Φ.ex cls dd g l2
def xb {ε α β : Type} (o : Except ε α) (k : α → β) (er : ε → β) : β := match o with | .ok v => k v | .error e => er e
section
variable {X : Cx} {W : WX} {g g' : Gm} {l l' own junk : List Res} {Φ : Po} {x : Xd} {e a b c o : Expr} {es : List Expr} {d d1 d2 : D} {pos p p2 apos : Pos} {rest sts : List Stmt}
theorem S.perm2 {K : PySem.W.Frag} {en : En} {T : Tm} {σ : L2.St} {H : Hp} {l l2 junk : List Res} (p : l.Perm (l2 ++ junk)) (s : S K en g T l σ H) : S K en g T l2 σ H := S.dropO (l' := junk) (S.perm (p.trans List.perm_append_comm) s)
/-- a block whose exceptions are told plainly -/
theorem Blk.exD (h : Blk X W sts g l { Φ with ex := fun cls dd g' l' => ∃ lx, XE X.K x cls dd lx ∧ g' = g ∧ l' = lx ++ l }) (hx : ExTo X.K x Φ g l) : Blk X W sts g l Φ := fun en T σ H D s m =>
  h en T σ H D s ⟨m.nx, m.rt, m.bk, m.ct, fun cls dd g' l' σ' H' q s' => by
    obtain ⟨lx, h1, rfl, rfl⟩ := q
    obtain ⟨l2, junk, p, h2⟩ := hx cls dd lx h1
    exact m.ex cls dd g' l2 σ' H' h2 (s'.perm2 p)⟩
theorem exto_of (p : l.Perm (own ++ junk)) (h : ∀ cls dd lx, XE X.K x cls dd lx → Φ.ex cls dd g (lx ++ own)) : ExTo X.K x Φ g l := fun cls dd lx q => ⟨lx ++ own, junk, by rw [List.append_assoc]; exact p.append_left lx, h cls dd lx q⟩
section
variable {β ε Ll Ss : Type} {RT : β → Re} {xc : ε → Xd} {e0 : ε} {GL : Ll → Gm} {RL : Ll → List Res} {NX : Ss → Gm → List Res → Prop}
theorem exto_rt (p : l.Perm (own ++ junk)) : ExTo X.K (xc e0) (Rt (XR X.K own RT xc) (.error e0)) g l := exto_of (X := X) p fun _ _ lx h => ⟨lx, h, rfl⟩
theorem exto_rv (p : l.Perm (own ++ junk)) : ExTo X.K (xc e0) (Rv (XR X.K own RT xc) (.error e0)) g l := exto_of (X := X) p fun _ _ lx h => ⟨lx, h, rfl⟩
theorem exto_ou (p : l.Perm (own ++ junk)) : ExTo X.K (xc e0) (Ou (XR X.K own RT xc) GL RL NX (.rt (.error e0))) g l := exto_of (X := X) p fun _ _ lx h => ⟨lx, h, rfl⟩
theorem exto_rt0 : ExTo X.K (xc e0) (Rt (XR X.K [] RT xc) (.error e0)) g l := exto_rt (own := []) (junk := l) (.refl _)
theorem exto_rv0 : ExTo X.K (xc e0) (Rv (XR X.K [] RT xc) (.error e0)) g l := exto_rv (own := []) (junk := l) (.refl _)
theorem exto_ou0 : ExTo X.K (xc e0) (Ou (XR X.K [] RT xc) GL RL NX (.rt (.error e0))) g l := exto_ou (own := []) (junk := l) (.refl _)
end
theorem bo_xb {ε α β : Type} {Om : β → Po} {o : Except ε α} {k : α → β} {er : ε → β} (h1 : ∀ v, o = .ok v → Bo X W sts g l Om (k v)) (h2 : ∀ e, o = .error e → Bo X W sts g l Om (er e)) : Bo X W sts g l Om (xb o k er) := by
  unfold xb
  cases o with
  | ok v => exact h1 v rfl
  | error e => exact h2 e rfl
/-! ### calls -/
theorem Exv.mono {Psi Psi' : D → List Res → Prop} {XP XP' : Value → Option Addr → List Res → Prop} (h : Exv X W e g l Psi XP) (h1 : ∀ d l, Psi d l → Psi' d l) (h2 : ∀ cls d l, XP cls d l → XP' cls d l) : Exv X W e g l Psi' XP' := fun en T σ H Q s k kx => h en T σ H Q s (fun v d l' H' p s' => k v d l' H' (h1 d l' p) s') fun cls d l' H' p s' => kx cls d l' H' (h2 cls d l' p) s'
theorem Exv.ev {Psi : D → List Res → Prop} (h : Exv X (fun _ _ _ _ => False) e g l Psi (fun _ _ _ => False)) : Ev X e g l Psi := fun en T σ H Q s k => h en T σ H Q s k fun _ _ _ _ p _ => p.elim
theorem Ev.pxR (h : Ev X e g l (fun d' l' => d' = d ∧ l' = l)) : Px X e g l d := fun en T σ H Q s k => h en T σ H Q s fun v d l' H' p s' => by
  obtain ⟨rfl, rfl⟩ := p
  exact k v H' s'
section
variable {α β ε : Type} {ok : α → Prop} {args : α → List D} {enc : β → D} {m : α → Except ε β} {xc : ε → Xd} {y : Str} {ps : List Str} {k j : Nat} {C : Addr} {mm : Str} {ds : List D} {pl : Sem Bool} {v : β} {e0 : ε}
theorem px_methOk (G : GloMX X.prog X.w X.K X.mg X.base k C mm ps (SpX X.K ok args (fun _ => []) (fun _ => PuR enc) m xc)) (hr : Room j X.A) (hj : k ≤ j) (a : α) (hok : ok a) (hv : m a = .ok v) {fs : List (Str × D)} (ho : Px X o g l (.ins C fs)) (hl : fs.lookup mm = none) (ha : Pa X (e :: es) g l ds) (hds : args a = .ins C fs :: ds)
    (hst : starEach (e :: es) X.env = (false, eval e X.env) :: starEach es X.env := by rfl) (hpl : (backTo pos (starEach es X.env)).any (·.1) = false := by rfl) (ht : MthE X o mm apos pos (e :: es) pl := by rfl) :
    Px X (.Call (.Attribute o mm apos) (e :: es) [] pos) g l (enc v) :=
  Ev.pxR (Exv.ev (exv_meth (lr := l) (own := fun _ => []) takes_no G hr hj a hok ho (rc_ins hl) ha hds (fun d l' h => by rw [hv] at h; exact ⟨h.1, by rw [h.2]; rfl⟩) (fun cls d l' h => by rw [hv] at h; exact h) hst hpl ht))
theorem exr_meth (tk : Takes X W) {RT : α → β → Re} (G : GloMX X.prog X.w X.K X.mg X.base k C mm ps (SpX X.K ok args (fun _ => []) RT m xc)) (hr : Room j X.A) (hj : k ≤ j) (a : α) (hok : ok a) (hv : m a = .error e0) {fs : List (Str × D)} (ho : Px X o g l (.ins C fs)) (hl : fs.lookup mm = none) (ha : Pa X (e :: es) g l ds) (hds : args a = .ins C fs :: ds)
    (hst : starEach (e :: es) X.env = (false, eval e X.env) :: starEach es X.env := by rfl) (hpl : (backTo pos (starEach es X.env)).any (·.1) = false := by rfl) (ht : MthE X o mm apos pos (e :: es) pl := by rfl) :
    Exr X W (.Call (.Attribute o mm apos) (e :: es) [] pos) g l (xc e0) :=
  exv_meth (lr := l) (own := fun _ => []) tk G hr hj a hok ho (rc_ins hl) ha hds (fun d l' h => by rw [hv] at h; exact h) (fun cls d l' h => by
    rw [hv] at h
    obtain ⟨lx, h1, rfl⟩ := h
    exact ⟨lx, h1, by rw [List.append_nil]⟩) hst hpl ht
end
section
variable {α β ε : Type} {ok : α → Prop} {args : α → List D} {enc : β → D} {m : α → Except ε (List β)} {xc : ε → Xd} {y : Str} {ps : List Str} {k j : Nat} {C : Addr} {mm : Str} {ds : List D} {pl : Sem Bool} {v : List β}
end
/-! ### statements that raise -/
section
variable {β : Type} {Om : β → Po} {mo : β}
theorem bo_xexpr (he : Exr X W e g l x) (hx : ExTo X.K x (Om mo) g l) (hs : swapsWith e none pos.line X.env = pure false := by rfl) : Bo X W (.Expr e pos :: rest) g l Om mo := Blk.exD (x := x) (blk_exprX he (fun _ _ h => h.elim) (fun cls d l' ⟨lx, h, q⟩ => ⟨lx, h, rfl, q⟩) hs) hx
theorem bo_raise {y m : Str} {j : Nat} {C : Addr} {pr : Pos} (hc : X.calm = true) (tk : Takes X W) (x0 : Dxc X.K X.mg y C) (xi : PySem.W.excIn X.K C vErr "ValueError.__new__" = true) (hx : ExTo X.K ⟨C, []⟩ (Om mo) g l) (hg : Gl X y := by rfl) (hdb : (y == ("__debug__" : Str)) = false := by decide) :
    Bo X W (.Raise (some (.Call (.Name y p) [.Constant (.str m) j p2] [] pos)) none pr :: rest) g l Om mo := Blk.exD (x := ⟨C, []⟩) (blk_raise hc tk x0 xi ⟨[], ⟨rfl, .inl ⟨rfl, rfl, rfl⟩⟩, rfl, rfl⟩ hg hdb) hx
end
end
/-! ### try with several clauses that keep what they caught -/
/-- clauses 'except x as n: y = n': the class at c, the slots of n and y -/
inductive Hks (X : Cx) : List ExceptHandler → List (Value × Nat × Nat) → Prop
  | nil : Hks X [] []
  | cons {hs : List ExceptHandler} {ks : List (Value × Nat × Nat)} {x n y : Str} {c : Value} {i j : Nat} {np pos' py pn ap : Pos} (hi : X.N[i]? = some n) (hln : X.env.kindOf n = some .local) (hj : X.N[j]? = some y) (hly : X.env.kindOf y = some .local) (hij : i ≠ j)
    (hil : i < X.N.length) (hvn : Vis X.env.scope n) (hdn : (n == ("__debug__" : Str)) = false) (hcn : (n == ("__classdict__" : Str)) = false) (hc : Names X x c) (hsw : ∀ Y : Cx, Y.env = X.env → swapsWith (.Name n pn) (some (.Name y py)) ap.line Y.env = pure false) (h : Hks X hs ks) :
    Hks X (.ExceptHandler (some (.Name x np)) (some n) [.Assign [.Name y py] (.Name n pn) ap] pos' :: hs) ((c, i, j) :: ks)
def wKeeps (K : PySem.W.Frag) (Wout : WX) (D : Ends) : List (Value × Nat × Nat) → WX
  | [] => Wout
  | (c, i, j) :: ks => fun cls d σ H => ∃ b, PySem.W.exmOne K cls c = some b ∧ (b = true → ∀ a, H a = none → D.nx (((σ.set i (some (.ref a))).set j (some (.ref a))).set i none) (upd H a (exO a cls d))) ∧ (b = false → wKeeps K Wout D ks cls d σ H)
section
variable {X : Cx} {body : List Stmt} {pos : Pos} {tb : WX → TS} {Wout : WX}
theorem ps_try_keeps {hks : List ExceptHandler} {ks : List (Value × Nat × Nat)} (hr : Hks X hks ks) (hne : hks ≠ []) (hs : X.stack = X.env :: X.outer) (hf : X.env.frame = some X.env.locals) (hex : X.ex = []) (hN : X.N.Nodup) (tk : Takes X Wout)
    (hb : ∀ (W : WX) (pn : List (Addr × Obj)) (xe : Value → Shared → Prop), Takes (X.tr pn xe) W → PassesOwn (model X.prog X.w) X.A X.env xe → PSs (X.tr pn xe) body (tb W)) :
    PS X (.Try body hks [] [] pos) (fun D σ H => tb (wKeeps X.K Wout D ks) D σ H) := by
  refine ⟨fun pins s σ H D I h => ?_⟩
  have ok := I.ok
  have hfr : X.A.frames = some (X.env :: X.outer) := by rw [ok.frames, hs]
  obtain ⟨h0, hk0, rfl⟩ := List.exists_cons_of_ne_nil hne
  refine wpAny_Try_except ?_
  refine wpAny_mono ((hb (wKeeps X.K Wout D ks) (X.pn ++ pins) (fun e s₁ => wpAny (model X.prog X.w) X.A (noteFrame e X.env) (fun _ s₂ => wpAny (model X.prog X.w) X.A (setFlight e none) (fun _ s₃ =>
    wpAny (model X.prog X.w) X.A (handleBy e X.env (h0 :: hk0)) (SP X pins D) X.xe s₃) X.xe s₂) X.xe s₁) (fun u s' xx => ?_) PassesOwn.looking).run [] s σ H D (I.toTry _) h) (fun f s1 hsp => ?_) (fun e s1 he => he)
  · obtain ⟨a, B, sI, pins', σ', H', cls, d, rfl, J', nb, up, sky, na, os, ag, hww⟩ := xx
    have J : Inv X pins σ' H' sI := J'.ofTry ok
    have sky' : Sky B (X.env :: X.outer) a (Zc cls d) X.env.locals s'.heap := by rw [← hs]; exact sky
    show wpAny (model X.prog X.w) X.A (noteFrame (.ref a) X.env) _ _ _
    refine Sky.land Zc.steady hfr hf sky' fun h3 fl3 up3 => ?_
    have J3 : Inv X pins σ' H' { s' with heap := h3 } := J.landed nb fl3.1 (up.trans up3) os ag
    obtain ⟨oe3, vs3, he3, hz3, hd3⟩ := fl3.there
    have nfr : a ∉ frs (X.env :: X.outer) := fun hm => by
      obtain ⟨_, o', e', hnf⟩ := fl3.2.2.1.mem hm
      rw [he3] at e'; cases e'
      exact hnf _ hd3
    have nL : a ≠ X.env.locals := fun z => nfr (List.mem_filterMap.mpr ⟨X.env, List.mem_cons_self, by rw [hf, z]⟩)
    have nF : a ∉ X.fs := fun hm => by
      obtain ⟨e, he, q⟩ := List.mem_filterMap.mp hm
      exact nfr (List.mem_filterMap.mpr ⟨e, List.mem_cons_of_mem _ he, q⟩)
    have nS : a ∉ frs X.stack := by rw [hs]; exact nfr
    -- it was not there ahead
    have nI : sI.heap.get? a = none := by
      cases q : sI.heap.get? a with
      | none => rfl
      | some o => have z := nb a o q nS; rw [fl3.2.1] at z; cases z
    have n0 : X.s_0.heap.get? a = none := by
      cases q : X.s_0.heap.get? a with
      | none => rfl
      | some o =>
        obtain ⟨o', z⟩ := J.base.there a o q (by rw [hex]; exact fun z => nomatch z)
        rw [nI] at z; cases z
    have npn : ∀ p ∈ X.pn ++ pins, p.1 ≠ a := fun p hp e => by
      have z := (J.pin p hp).1
      rw [e, nI] at z; cases z
    have nc : ∀ x c, X.env.cells.lookup x = some c → c ≠ a := fun x c e z => by
      obtain ⟨v, oc, q, _⟩ := J.cell x c e
      rw [z, nI] at q; cases q
    have S3 := J3.suite he3 hd3 na nL nF
    have key : ∀ {hks : List ExceptHandler} {ks : List (Value × Nat × Nat)}, Hks X hks ks → wKeeps X.K Wout D ks cls d σ' H' → wpAny (model X.prog X.w) X.A (handleBy (.ref a) X.env hks) (SP X pins D) X.xe { s' with heap := h3 } := by
      intro hks ks rel
      induction rel with
      | nil =>
        intro hno
        refine wpAny_handleBy_nil ?_
        obtain ⟨k1, k2, k3, oe, vs, T, oT, ts', he, hz, hd, h1, hr⟩ := id fl3
        unfold PySem.passOn
        refine wpAny_bind (wpAny_field he hd h1 ?_)
        rw [if_neg (show ¬ ((Value.ref T == Value.none) = true) from by simp)]
        have fin : wpAny (model X.prog X.w) X.A (setFlight (.ref a) X.env.frame) (fun _ s4 => wpAny (model X.prog X.w) X.A (throw (.ref a) : Sem Flow) (SP X pins D) X.xe s4) X.xe { s' with heap := h3 } := by
          rw [hf]
          refine HandSPX.setFlight_upZ fl3 fun h4 hh4 up4 => wpAny_throw (tk _ _ ?_)
          exact ⟨a, B, sI, pins, σ', H', cls, d, rfl, J, nb, (up.trans up3).trans up4, .inr (.inr (by rw [hs]; exact hh4)), na, os, ag, hno⟩
        first
          | exact wpAny_bind (wpAny_pure (wpAny_bind fin))
          | exact wpAny_bind fin
      | @cons hs0 ks0 x n y c i j np pos' py pn ap hi hln hj hly hij hil hvn hdn hcn hc hsw rel ih =>
        intro hww
        obtain ⟨b, hb1, hyes, hno⟩ := hww
        have hloc : Loc X.env.scope n := .inl hln
        have hlocy : Loc X.env.scope y := .inl hly
        refine wpAny_handleBy_cons (codeAny_handlers_test ?_) (by intro q; cases q)
        have LT : PySem.W.Looks (model X.prog X.w) h3 (typeOf (.ref a)) cls := fun A Q E s k q => wpAny_typeOf_ref (k _ _ he3) (by rw [hz3.1]; exact q)
        have LM := PySem.W.exm_one (M := model X.prog X.w) (J3.kIn) LT hb1
        have test : ∀ {Q : Value → Shared → Prop} {E : Value → Shared → Prop}, Q c { s' with heap := h3 } → wpAny (model X.prog X.w) (X.A.mark (some (.ref a))) (eval (.Name x np) X.env) Q E { s' with heap := h3 } := fun {Q E} q => by
          obtain ⟨hg, hdbg, hm | ⟨hm, hv, hnn⟩⟩ := hc
          · exact ld_glob (X := X.suite a ((a, oe3) :: (X.pn ++ pins))) S3 hg hm q hdbg
          · exact ld_blt (X := X.suite a ((a, oe3) :: (X.pn ++ pins))) S3 hg hm hv q hnn hdbg
        refine test (LM.here ?_)
        cases b with
        | true =>
          refine codeAny_handlers_suite_as ?_
          refine HandSPX.lands_againZ fl3 fun h4 fl4 up4 => ?_
          have J4 : Inv X pins σ' H' { s' with heap := h4 } := J.landed nb fl4.1 ((up.trans up3).trans up4) os ag
          obtain ⟨oe4, vs4, he4, hz4, hd4⟩ := fl4.there
          have S4 := J4.suite he4 hd4 na nL nF
          refine store_ok (X := X.suite a ((a, oe4) :: (X.pn ++ pins))) (v := .ref a) S4 hN hi hloc rfl (fun s5 S5 => ?_) (.inr hln)
          have hvar : PE (X.suite a ((a, oe4) :: (X.pn ++ pins))) (.Name n pn) (tVar i) := pe_var hi hvn hdn hcn
          have hsu : PSs (X.suite a ((a, oe4) :: (X.pn ++ pins))) [.Assign [.Name y py] (.Name n pn) ap] (tAsg (tVar i) (gName j)) := pss_one (ps_set hN hj hlocy hvar (hsw _ rfl) (.inr hly))
          have hsl : i < (σ'.set i (some (.ref a))).length := by rw [List.length_set, J4.len]; exact hil
          refine wpAny_mono (hsu.run [] s5 _ H' { nx := fun σ6 H6 => σ6 = (σ'.set i (some (.ref a))).set j (some (.ref a)) ∧ H6 = H', rt := fun _ _ => False, bk := fun _ _ => False, ct := fun _ _ => False } S5 ⟨.ref a, by rw [List.getElem?_set_self (by rw [List.length_set] at hsl; exact hsl)], rfl, rfl⟩) (fun f s6 hsp => ?_) (fun _ _ z => False.elim z)
          cases f with
          | next =>
            obtain ⟨σ6, H6, S6, e6, e7⟩ := hsp
            subst e6; subst e7
            refine gone_ok (X := X.suite a ((a, oe4) :: (X.pn ++ pins))) S6 hN hi hln fun s7 I7 => ?_
            have g7 := (I7.pin (a, oe4) (by rw [List.append_nil]; exact List.mem_cons_self)).1
            exact ⟨_, _, inv_wide (I7.unsuite ok) n0 na npn nL nc (exO_ok g7 hz4 hd4), hyes rfl a na⟩
          | brk =>
            obtain ⟨_, _, _, z⟩ := hsp
            exact z.elim
          | cont =>
            obtain ⟨_, _, _, z⟩ := hsp
            exact z.elim
          | ret u =>
            obtain ⟨_, _, _, _, _, z⟩ := hsp
            exact z.elim
        | false =>
          exact ih (hno rfl)
    exact key hr hww
  · cases f with
    | next =>
      obtain ⟨σ', H', J', q⟩ := hsp
      exact wpAny_execs_nil ⟨σ', H', J'.ofTry ok, q⟩
    | brk =>
      obtain ⟨σ', H', J', q⟩ := hsp
      exact ⟨σ', H', J'.ofTry ok, q⟩
    | cont =>
      obtain ⟨σ', H', J', q⟩ := hsp
      exact ⟨σ', H', J'.ofTry ok, q⟩
    | ret u =>
      obtain ⟨v, σ', H', J', r, q⟩ := hsp
      exact ⟨v, σ', H', J'.ofTry ok, r, q⟩
end
section
variable {X : Cx} {W : WX} {g g' : Gm} {l l' : List Res} {Φ : Po} {x : Xd} {body rest : List Stmt} {pos : Pos}
/-- caught: frozen -/
theorem S.caught {K : PySem.W.Frag} {en : En} {T : Tm} {σ : L2.St} {H : Hp} {lx : List Res} {cls : Value} {dd : Option Addr} {a : Addr} (s : S K en g T (lx ++ l) σ H) (hx : XE K x cls dd lx) (ha : H a = none) (i j : Nat) :
    S K en (((g.set i none).set j (some x.d)).set i none) T l (((σ.set i (some (.ref a))).set j (some (.ref a))).set i none) (upd H a (exO a cls dd)) := by
  obtain ⟨rfl, h⟩ := hx
  obtain ⟨F, M, q⟩ := s
  have q1 := q.newO (r := ownX a (.ref x.C) dd) (A := one a (exO a (.ref x.C) dd)) (H' := upd H a (exO a (.ref x.C) dd)) (.new ha) (fun z o w => by obtain ⟨rfl, rfl⟩ := one_some w; exact upd_same) (fun z o w => by obtain ⟨rfl, rfl⟩ := one_some w; exact ha) rfl
  obtain ⟨F1, M1, q2, h1, e1⟩ := q1.frz (P := fun F' => F' a = some (exO a (.ref x.C) dd)) fun A hA => by
    have hA : A = one a (exO a (.ref x.C) dd) := hA
    subst hA
    have hF : F a = none := q.exF.free ha
    rw [join_r hF]; exact one_same
  rcases h with ⟨f0, rfl, rfl⟩ | ⟨dx, rfl, rfl⟩
  · have fd : Fd K F1 (.ref a) x.d := .exc h1 (.inl ⟨rfl, rfl⟩) (by rw [f0]; exact .nil)
    exact ⟨F1, M1, q2.slots ((((q2.sl.clear i).set j fd)).clear i)⟩
  · obtain ⟨F2, M2, q3, ⟨vs, h2, h3⟩, e2⟩ := q2.frz (P := fun F' => ∃ vs, F' dx = some (.xd vs) ∧ FdFs K F' vs x.fs) fun A hA => by
      obtain ⟨vs, f, rfl⟩ := hA
      have hF : F1 dx = none := by
        obtain ⟨A, B, hM, _, ⟨_, _, rfl⟩, _⟩ := q2.rs
        exact q2.dj.sym dx _ (by rw [hM]; exact join_l one_same)
      exact ⟨vs, by rw [join_r hF]; exact one_same, FdFs.mono (fun x o h => join_l h) _ f⟩
    have fd : Fd K F2 (.ref a) x.d := .exc (e2 _ _ h1) (.inr ⟨dx, rfl, h2⟩) h3
    exact ⟨F2, M2, q3.slots ((((q3.sl.clear i).set j fd)).clear i)⟩
def Catch (X : Cx) (W : WX) (rest : List Stmt) (g : Gm) (l : List Res) (Φ : Po) (x : Xd) : List (Addr × Nat × Nat) → Prop
  | [] => ExTo X.K x Φ g l
  | (C, i, j) :: ks => ∃ b, PySem.W.exmOne X.K (.ref x.C) (.ref C) = some b ∧ (b = true → Blk X W rest (((g.set i none).set j (some x.d)).set i none) l Φ) ∧ (b = false → Catch X W rest g l Φ x ks)
theorem catch_keeps {en : En} {T : Tm} {σ : L2.St} {H : Hp} {D : Ends} {cls : Value} {dd : Option Addr} {lx : List Res} (m : Mt X.K W en T Φ D) (hx : XE X.K x cls dd lx) (s : S X.K en g T (lx ++ l) σ H) : ∀ {ks : List (Addr × Nat × Nat)}, Catch X W rest g l Φ x ks → wKeeps X.K W { D with nx := wpS X rest D } (ks.map fun q => (.ref q.1, q.2.1, q.2.2)) cls dd σ H
  | [], h => by
    obtain ⟨l2, junk, p, h2⟩ := h cls dd lx hx
    exact m.ex cls dd g l2 σ H h2 (s.perm2 p)
  | (C, i, j) :: ks, h => by
    obtain ⟨b, h1, h2, h3⟩ := h
    have ec := hx.1
    subst ec
    exact ⟨b, h1, fun hb a ha => h2 hb en T _ _ D (s.caught hx ha i j) m, fun hb => catch_keeps m hx s (h3 hb)⟩
theorem blk_tryF {hks : List ExceptHandler} {ks : List (Addr × Nat × Nat)} (EX : Xd → Prop) (tk : Takes X W) (hN : X.N.Nodup) (hr : Hks X hks (ks.map fun q => (.ref q.1, q.2.1, q.2.2))) (hne : hks ≠ [])
    (hb : ∀ (W' : WX) (pn : List (Addr × Obj)) (xe : Value → Shared → Prop), Takes (X.tr pn xe) W' → PassesOwn (model X.prog X.w) X.A X.env xe → Blk (X.tr pn xe) W' body g l { Φ with nx := fun g' l' => Blk X W rest g' l' Φ, ex := fun cls dd g' l' => ∃ x lx, EX x ∧ XE X.K x cls dd lx ∧ g' = g ∧ l' = lx ++ l })
    (hx : ∀ x, EX x → Catch X W rest g l Φ x ks) (hs : X.stack = X.env :: X.outer := by rfl) (hf : X.env.frame = some X.env.locals := by rfl) (hex : X.ex = [] := by rfl) :
    Blk X W (.Try body hks [] [] pos :: rest) g l Φ := fun en T σ H D s m =>
  wpS_of (pss_cons (ps_try_keeps (tb := fun W' => fun D' σ' H' => ∀ pn xe, Takes (X.tr pn xe) W' → PassesOwn (model X.prog X.w) X.A X.env xe → wpS (X.tr pn xe) body D' σ' H') hr hne hs hf hex hN tk
    (fun W' pn xe t1 t2 => ⟨fun pins s1 σ1 H1 D1 I h => h pn xe t1 t2 pins s1 I⟩)) pss_wp) (fun pn xe t1 t2 => by
      refine hb _ pn xe t1 t2 en T σ H _ s ⟨fun g' l' σ' H' p s' => p en T σ' H' D s' m, m.rt, m.bk, m.ct, fun cls d g' l' σ' H' p s' => ?_⟩
      obtain ⟨x, lx, h1, h2, rfl, rfl⟩ := p
      exact catch_keeps m h2 s' (hx x h1))
end
/-! ### try, its model -/
/-- a try's body: raised, what was known and owned stands as ahead -/
def XT {β ε : Type} (K : PySem.W.Frag) (g0 : Gm) (l0 : List Res) (RT : β → Re) (xc : ε → Xd) : Except ε β → Re
  | .ok v => RT v
  | .error e => { rt := fun _ _ => False, ex := fun cls dd g l => ∃ lx, XE K (xc e) cls dd lx ∧ g = g0 ∧ l = lx ++ l0 }
def tryN {Rr ε Ll Ss : Type} (tb : Cf (Except ε Rr) Ll Ss) (h : ε → Ss) : Cf Rr Ll Ss := match tb with
  | .nx s => .nx s | .rt (.ok r) => .rt r | .rt (.error e) => .nx (h e) | .bk s => .bk s | .ct s => .ct s
def tryK {Rr ε Ll Ss : Type} (tb : Cf (Except ε Rr) Ll Ss) (c : ε → Bool) (h : ε → Ss) : Cf (Except ε Rr) Ll Ss := match tb with
  | .rt (.error e) => cond (c e) (.nx (h e)) (.rt (.error e)) | o => o
section
variable {X : Cx} {W : WX} {g g' : Gm} {l l' : List Res} {body rest : List Stmt} {pos : Pos} {Rr ε Ll Ss S1 : Type} {RT : Rr → Re} {xc : ε → Xd} {GL : Ll → Gm} {RL : Ll → List Res} {NX : Ss → Gm → List Res → Prop} {e0 : ε}
theorem exto_xt : ExTo X.K (xc e0) (Ou (XT X.K g l RT xc) GL RL NX (.rt (.error e0))) g l := fun cls dd lx h => ⟨lx ++ l, [], by rw [List.append_nil], lx, h, rfl, rfl⟩
theorem try_core {hks : List ExceptHandler} {ks : List (Addr × Nat × Nat)} {tb : Cf (Except ε Rr) Ll S1} {Φ : Po} (G : S1 → Gm) (R : S1 → List Res) (tk : Takes X W) (hN : X.N.Nodup) (hr : Hks X hks (ks.map fun q => (.ref q.1, q.2.1, q.2.2))) (hne : hks ≠ [])
    (hb : ∀ (W' : WX) (pn : List (Addr × Obj)) (xe : Value → Shared → Prop), Takes (X.tr pn xe) W' → PassesOwn (model X.prog X.w) X.A X.env xe → Bo (X.tr pn xe) W' body g l (Ou (XT X.K g l RT xc) GL RL (NxP G R)) tb)
    (hnx : ∀ s, tb = .nx s → Blk X W rest (G s) (R s) Φ) (hrt : ∀ r, tb = .rt (.ok r) → (∀ d l, (RT r).rt d l → Φ.rt d l) ∧ ∀ c d g l, (RT r).ex c d g l → False) (hbk : ∀ s, tb = .bk s → ∀ g l, g = GL s ∧ l = RL s → Φ.bk g l) (hct : ∀ s, tb = .ct s → ∀ g l, g = GL s ∧ l = RL s → Φ.ct g l)
    (hx : ∀ e, tb = .rt (.error e) → Catch X W rest g l Φ (xc e) ks) (hs : X.stack = X.env :: X.outer) (hf : X.env.frame = some X.env.locals) (hex : X.ex = []) :
    Blk X W (.Try body hks [] [] pos :: rest) g l Φ := by
  refine blk_tryF (fun x => ∃ e, tb = .rt (.error e) ∧ x = xc e) tk hN hr hne (fun W' pn xe t1 t2 => ?_) (fun x ⟨e, h1, h2⟩ => by subst h2; exact hx e h1) hs hf hex
  have z := hb W' pn xe t1 t2
  unfold Bo at z
  cases tb with
  | nx s => exact z.imp (fun g' l' hh => by obtain ⟨w, q⟩ := hh; subst w; subst q; exact hnx s rfl) (fun _ _ h => h.elim) (fun _ _ h => h.elim) (fun _ _ h => h.elim) (fun _ _ _ _ h => h.elim)
  | bk s => exact z.imp (fun _ _ h => h.elim) (fun _ _ h => h.elim) (fun g l h => hbk s rfl g l h) (fun _ _ h => h.elim) (fun _ _ _ _ h => h.elim)
  | ct s => exact z.imp (fun _ _ h => h.elim) (fun _ _ h => h.elim) (fun _ _ h => h.elim) (fun g l h => hct s rfl g l h) (fun _ _ _ _ h => h.elim)
  | rt r => cases r with
    | ok r => exact z.imp (fun _ _ h => h.elim) (fun d l h => (hrt r rfl).1 d l h) (fun _ _ h => h.elim) (fun _ _ h => h.elim) (fun c d g l h => ((hrt r rfl).2 c d g l h).elim)
    | error e => exact z.imp (fun _ _ h => h.elim) (fun _ _ h => h.elim) (fun _ _ h => h.elim) (fun _ _ h => h.elim) (fun c d g l h => by
        obtain ⟨lx, h1, h2, h3⟩ := h
        exact ⟨_, lx, ⟨e, rfl, rfl⟩, h1, h2, h3⟩)
/-- the state behind a clause -/
abbrev after (g : Gm) (i j : Nat) (x : Xd) : Gm := ((g.set i none).set j (some x.d)).set i none
/-- in a def that does not raise: all is caught -/
theorem bo_tryNV {hks : List ExceptHandler} {ks : List (Addr × Nat × Nat)} {GL : Empty → Gm} {RL : Empty → List Res} {tb : Cf (Except ε Rr) Empty S1} {h' : ε → S1} {k : S1 → Rr} (G : S1 → Gm) (R : S1 → List Res) (i j : Nat) (tk : Takes X W) (hN : X.N.Nodup) (hr : Hks X hks (ks.map fun q => (.ref q.1, q.2.1, q.2.2))) (hne : hks ≠ [])
    (hb : ∀ (W' : WX) (pn : List (Addr × Obj)) (xe : Value → Shared → Prop), Takes (X.tr pn xe) W' → PassesOwn (model X.prog X.w) X.A X.env xe → Bo (X.tr pn xe) W' body g l (Ou (XT X.K g l RT xc) GL RL (NxP G R)) tb)
    (hnr : ∀ r c d g l, (RT r).ex c d g l → False) (hc : ∀ e Q, tb = .rt (.error e) → Blk X W rest (after g i j (xc e)) l Q → Catch X W rest g l Q (xc e) ks) (hg : ∀ e, tb = .rt (.error e) → Wk (after g i j (xc e)) (G (h' e)) ∧ l = R (h' e))
    (h : ∀ s, tryN tb h' = .nx s → Bo X W rest (G s) (R s) (Rt RT) (k s)) (hs : X.stack = X.env :: X.outer := by rfl) (hf : X.env.frame = some X.env.locals := by rfl) (hex : X.ex = [] := by rfl) : Bo X W (.Try body hks [] [] pos :: rest) g l (Rt RT) (bndV (tryN tb h') k) := by
  refine try_core G R tk hN hr hne hb (fun s e => ?_) (fun r e => ⟨fun d l z => ?_, fun c d g l z => hnr r c d g l z⟩) (fun s _ => nomatch s) (fun s _ => nomatch s) (fun e he => ?_) hs hf hex
  · subst e; exact h s rfl
  · subst e; exact z
  · have hg0 := hg e he
    clear hg
    refine hc e _ he ?_
    subst he
    have z := h (h' e) rfl
    rw [← hg0.2] at z
    exact Blk.weak hg0.1 z
/-- one clause, two clauses that take all -/
theorem catch1 {C : Addr} {i j : Nat} {x : Xd} {Q : Po} (h1 : PySem.W.exmOne X.K (.ref x.C) (.ref C) = some true) (z : Blk X W rest (after g i j x) l Q) : Catch X W rest g l Q x [(C, i, j)] := ⟨true, h1, fun _ => z, fun h => by cases h⟩
end
/-! ### what a caught one is -/
/-- the type of what stands at v -/
def TyE (K : PySem.W.Frag) (H : Hp) (v : V) (t : Value) : Prop := TyX K H v t ∨ ∃ (a D : Addr) (d : Option Addr) (vs : List (Str × V)), v = .ref a ∧ t = .ref D ∧ H a = some (exO a (.ref D) d) ∧ (d = none ∧ vs = [] ∨ ∃ dx, d = some dx ∧ H dx = some (.xd vs)) ∧ ExcC K D
theorem exO_instD {P : Program} {w : World} {H : Hp} {h : Heap} {a D : Addr} {d : Option Addr} {vs : List (Str × V)} (hok : HOk P w H h) (ha : H a = some (exO a (.ref D) d)) (hd : d = none ∧ vs = [] ∨ ∃ dx, d = some dx ∧ H dx = some (.xd vs)) :
    ∃ oe od, PySem.W.InstAt h a oe D od ∧ (∀ f v, vs.lookup f = some v → ∃ o u, od = some o ∧ PySem.W.lookIn f o = some (some u) ∧ RelV v u) := by
  have x : ObjOk P w H h a (exO a (.ref D) d) := hok a _ ha
  obtain ⟨⟨oe, h1, h2, ws, h3⟩, _⟩ := x
  have nc : PySem.W.notCls oe = true := by unfold PySem.W.notCls; rw [h3] <;> rfl
  rcases hd with ⟨rfl, rfl⟩ | ⟨dx, rfl, hdx⟩
  · exact ⟨oe, none, ⟨h1, h2.1, nc, by rw [h2.2]; trivial⟩, fun f v e => by cases e⟩
  · have hx : ObjOk P w H h dx (.xd vs) := hok dx _ hdx
    obtain ⟨mA, hns, hr⟩ := hx
    obtain ⟨od, ho, hl⟩ := lookIn_ns hns
    refine ⟨oe, some od, ⟨h1, h2.1, nc, by rw [h2.2]; exact ho⟩, fun f v e => ?_⟩
    obtain ⟨u, hu, ru⟩ := RelO.some_of (v := v) (o := mA f) (by rw [← e]; exact hr f)
    exact ⟨od, u, rfl, by rw [hl, hu], ru⟩
section
variable {X : Cx} {W : WX} {g g' : Gm} {l l' : List Res} {e o : Expr} {d d1 d2 : D} {pos p p2 : Pos}
theorem kit_ofE {pins : List (Addr × Obj)} {σ : L2.St} {H : Hp} {s : Shared} {x : V} {u t : Value} (I : Inv X pins σ H s) (rx : RelV x u) (ty : TyE X.K H x t) : ∃ P : Heap → Prop, PySem.W.KitX X.K u t P ∧ P s.heap ∧ u ≠ .builtin "__main__.__loader__#opaque" := by
  rcases ty with ty | ⟨a, D, d, vs, rfl, rfl, ha, hd, ec⟩
  · exact kit_of I rx ty
  · cases (show u = Value.ref a from rx)
    obtain ⟨oe, od, J, _⟩ := exO_instD I.hok ha hd
    have hcl : (PySem.W.clsIn X.K D).isSome = true := by
      obtain ⟨cd, hc, _⟩ := PySem.W.any_some ec.hd
      rw [hc]; rfl
    exact ⟨_, PySem.W.kitx_exc hcl ec.hg ec.hk ec.hs ec.ha ec.hn ec.ht ec.hm, J, fun z => nomatch z⟩
def rIsE (K : PySem.W.Frag) : List V → Hp → VK → Prop := fun xs H Q => ∃ (x c : V) (t cv : Value) (b : Bool), xs = [x, c] ∧ ClsV c cv ∧ TyE K H x t ∧ PySem.W.kitOne K t cv = some b ∧ Q (.bl b) H
def rIsET (K : PySem.W.Frag) : List V → Hp → VK → Prop := fun xs H Q => ∃ (x : V) (t : Value) (tp : Addr) (cs : List V) (ws : List Value) (b : Bool), xs = [x, .ref tp] ∧ TyE K H x t ∧ SqT K H tp cs ∧ Paired ClsV cs ws ∧ PySem.W.kitAny K t ws = some b ∧ Q (.bl b) H
theorem call_isE : CallR X (.builtin "isinstance") (rIsE X.K) := by
  intro pins s σ H xs us Q I r h
  obtain ⟨x, c, t, cv, b, rfl, k, ty, e, q⟩ := h
  obtain ⟨u1, u2, rfl, r1, r2⟩ := vals2 r
  have e2 := k.eq r2
  subst e2
  obtain ⟨P, Z, p, hx⟩ := kit_ofE I r1 ty
  exact PySem.W.kia_one Z I.kIn p e hx fun tk => ⟨.bl b, H, I.tok tk, rfl, q⟩
theorem Fd.tyE {K : PySem.W.Frag} {F H : Hp} {v : V} {C : Addr} {fs : List (Str × D)} (e : Ex F H) (f : Fd K F v (.exc C fs)) (ec : ExcC K C) : TyE K H v (.ref C) := by
  cases f with
  | @exc a _ vs _ d h1 h2 h3 => exact .inr ⟨a, C, d, vs, rfl, rfl, e _ _ h1, h2.imp id fun ⟨dx, q1, q2⟩ => ⟨dx, q1, e _ _ q2⟩, ec⟩
/-- a class as a value -/
inductive ClsD : D → Value → Prop
  | own (C : Addr) : ClsD (.adr C) (.ref C)
  | ty (n : String) : ClsD (.ty n) (.type n)
theorem ClsD.v {K : PySem.W.Frag} {F : Hp} {c : D} {cv : Value} {v : V} (k : ClsD c cv) (f : Fd K F v c) : ClsV v cv := by
  cases k with
  | own C => cases f; exact .own C
  | ty n => cases f; exact .ty n
theorem o_isE {C : Addr} {fs : List (Str × D)} {c : D} {cv : Value} {b : Bool} (ec : ExcC X.K C) (k : ClsD c cv) (h : PySem.W.kitOne X.K (.ref C) cv = some b) : OpN X.K l (rIsE X.K) [.exc C fs, c] (.bl b) := fun F M H vs Q eF eM dj rs f kk => by
  cases f with
  | cons f1 f2 => cases f2 with
    | cons f2 f3 =>
      cases f3
      exact ⟨_, _, _, cv, b, rfl, k.v f2, f1.tyE eF ec, h, kk _ F H (.rf eF) (.bl _)⟩
theorem o_isEn {c : D} {cv : Value} {b : Bool} (k : ClsD c cv) (h : PySem.W.kitOne X.K (.type "NoneType") cv = some b) : OpN X.K l (rIsE X.K) [.non, c] (.bl b) := fun F M H vs Q eF eM dj rs f kk => by
  cases f with
  | cons f1 f2 => cases f2 with
    | cons f2 f3 =>
      cases f3
      exact ⟨_, _, _, cv, b, rfl, k.v f2, .inl (f1.tyx eF rfl), h, kk _ F H (.rf eF) (.bl _)⟩
/-- isinstance(kept, C), kept an exception or None -/
theorem px_isX {ε : Type} {xc : ε → Xd} {o : Option ε} {ce : Expr} {c : D} {cv : Value} {q : ε → Bool} (z : X.mg "isinstance" = none) (h : Px X e g l (optE (fun x => (xc x).d) o)) (hcl : Px X ce g l c) (k : ClsD c cv) (ec : ∀ x, ExcC X.K (xc x).C) (hk : ∀ x, PySem.W.kitOne X.K (.ref (xc x).C) cv = some (q x)) (hn : PySem.W.kitOne X.K (.type "NoneType") cv = some false)
    (hg : Gl X "isinstance" := by rfl) (hs : starEach [e, ce] X.env = (false, eval e X.env) :: starEach [ce] X.env := by rfl) (hs2 : starEach [ce] X.env = [(false, eval ce X.env)] := by rfl) (hpl : (backTo pos (starEach [ce] X.env)).any (·.1) = false := by rfl) :
    Px X (.Call (.Name "isinstance" p) [e, ce] [] pos) g l (.bl (o.any q)) := by
  cases o with
  | none => exact px_bi call_isE z (pa_c h (pa_c hcl pa_n hs2) hs) (o_isEn k hn) hg (by decide +kernel) (by decide) (by decide) hs hpl
  | some x => exact px_bi call_isE z (pa_c h (pa_c hcl pa_n hs2) hs) (o_isE (ec x) k (hk x)) hg (by decide +kernel) (by decide) (by decide) hs hpl
/-- kept.f -/
def tXg (K : PySem.W.Frag) (f : Str) (te : TE) : TE := fun σ H Q => te σ H fun x H1 => ∃ (a C : Addr) (d : Option Addr) (vs : List (Str × V)) (v : V), x = .ref a ∧ H1 a = some (exO a (.ref C) d) ∧ (d = none ∧ vs = [] ∨ ∃ dx, d = some dx ∧ H1 dx = some (.xd vs)) ∧ ExcC K C ∧ PySem.W.findIn K (.ref C) f = some none ∧ vs.lookup f = some v ∧ Q v H1
end
/-! ### for the walker -/
section
variable {X : Cx} {W : WX} {g g' : Gm} {l l' own junk : List Res} {sts : List Stmt} {Rr ε Ll Ss : Type} {RT : Rr → Re} {xc : ε → Xd} {GL : Ll → Gm} {RL : Ll → List Res} {NX : Ss → Gm → List Res → Prop} {v : Rr}
theorem bo_ok (h : Bo X W sts g l (Rt RT) v) : Bo X W sts g l (Rt (XR X.K own RT xc)) (.ok v) := h
end
/-- an exception class under its name with its own __init__ -/
def GloXi (P : Program) (w : World) (K : PySem.W.Frag) (mg : Str → Option Value) (base : Heap) (k : Nat) (C : Addr) (x : Str) (ps : List Str) (sp : Sp) : Prop := ∃ f fd, FnOk P w K mg base CX0 k f fd ps sp ∧ Dxi K mg x C f ∧ Binds K fd ps []
def okv {ε α : Type} (o : Except ε α) (d : α) : α := match o with | .ok v => v | .error _ => d
end Sx
set_option Elab.async false
set_option linter.all false
set_option maxRecDepth 100000
set_option maxHeartbeats 4000000
/-! Owned instances: what they own stands beside them; defs that are handed owned things. -/
namespace Sx
open PySem L2 PyProof.Rows
/-- what a def gives back with what is owned then: for some addresses i -/
abbrev OwnR {ι Rr : Type} (dd : ι → Rr → D) (ll : ι → Rr → List Res) : Rr → Re := fun r => { rt := fun d l => ∃ i, d = dd i r ∧ l = ll i r }
theorem putD_tl {f g : Str} {d x : D} {r r' : List (Str × D)} (h : putD f d r = r') (n : g ≠ f := by decide +kernel) : putD f d ((g, x) :: r) = (g, x) :: r' := by
  show (if g = f then _ else _) = _
  rw [if_neg n, h]
theorem putD_nil {f : Str} {d : D} : putD f d [] = [(f, d)] := rfl
section
variable {X : Cx} {W : WX} {g g' : Gm} {l l' l2 lr : List Res} {Φ : Po} {e a b c o : Expr} {es : List Expr} {d d1 d2 : D} {pos p p2 apos : Pos} {rest sts : List Stmt}
theorem Px.perm (q : l.Perm l2) (h : Px X e g l2 d) : Px X e g l d := fun en T σ H Q s k => h en T σ H Q (s.perm q) fun v H' s' => k v H' (s'.perm q.symm)
theorem Ev.perm {Psi : D → List Res → Prop} (q : l.Perm l2) (h : Ev X e g l2 Psi) : Ev X e g l Psi := fun en T σ H Q s k => h en T σ H Q (s.perm q) k
theorem Exv.perm {Psi : D → List Res → Prop} {XP : Value → Option Addr → List Res → Prop} (q : l.Perm l2) (h : Exv X W e g l2 Psi (fun cls dd l' => ∃ lx, XP cls dd lx ∧ l' = lx ++ l2)) : Exv X W e g l Psi (fun cls dd l' => ∃ lx, XP cls dd lx ∧ l' = lx ++ l) := fun en T σ H Q s k kx => h en T σ H Q (s.perm q) k fun cls dd l' H' z s' => by
  obtain ⟨lx, h1, rfl⟩ := z
  exact kx cls dd _ H' ⟨lx, h1, rfl⟩ (s'.perm (q.symm.append_left lx))
/-! ### calls -/
section
variable {α β ι ε : Type} {ok : α → Prop} {args : α → List D} {own : α → List Res} {dd : α → ι → β → D} {ll : α → ι → β → List Res} {y mm : Str} {ps : List Str} {k j : Nat} {C : Addr} {ds : List D} {pl : Sem Bool}
end
/-! ### statements -/
section
variable {α β ι : Type} {Om : β → Po} {mo : β} {k : α → β} {s0 : α}
/-- x = e, e gives something owned -/
theorem bo_setO {i : Nat} {y : Str} {pos' : Pos} {dd : ι → α → D} {ll : ι → α → List Res} (hN : X.N.Nodup) (hi : X.N[i]? = some y) (hx : Loc X.env.scope y) (he : Ev X e g l (fun d l' => ∃ j, d = dd j s0 ∧ l' = ll j s0)) (h : ∀ j s, s = s0 → Bo X W rest (g.set i (some (dd j s))) (ll j s) Om (k s))
    (hs : swapsWith e (some (.Name y pos')) pos.line X.env = pure false := by rfl) (hf : X.fn y = true ∨ X.env.scope.names.lookup y = some .local := by first | exact .inl rfl | exact .inr rfl | assumption) :
    Bo X W (.Assign [.Name y pos'] e pos :: rest) g l Om (lt s0 k) := blk_setX hN hi hx he (fun d l' ⟨j, e1, e2⟩ => by subst e1; subst e2; exact h j s0 rfl) hs hf
/-- a target taken apart, the right side giving something owned -/
theorem blk_fldX {C q : Addr} {f : Str} {pos' : Pos} {Psi : D → List Res → Prop} (he : Ev X e g l Psi) (hc : Cls X.K C) (hn : NoAttr X.K C f) (h : ∀ d l', Psi d l' → Px X o g l' (.adr q) ∧ ∃ n fs, l'[n]? = some (ownI X.K q C fs) ∧ fs.length < 1000 ∧ Blk X W rest g (l'.set n (ownI X.K q C (putD f d fs))) Φ)
    (hs : swapsWith e (some (.Attribute o f pos')) pos.line X.env = pure false := by rfl) : Blk X W (.Assign [.Attribute o f pos'] e pos :: rest) g l Φ := fun en T σ H D s m => wpS_of (pss_cons (ps_fld pe_wp pe_wp hs) pss_wp) (by
  refine he en T σ H _ s fun v d l' H1 hp s1 => ?_
  obtain ⟨ho, n, fs, hk, hz, h⟩ := h d l' hp
  refine ho en _ σ H1 _ s1 fun u H2 s2 => ?_
  obtain ⟨F, M, q2⟩ := s2
  have fu := q2.tm.1
  cases fu
  obtain ⟨dx, vs, ff, hp⟩ := q2.rs.ins hk q2.exM
  refine ⟨q, C, dx, vs, rfl, hp, hc, hn, by rw [ff.length]; exact hz, ?_⟩
  obtain ⟨M', q'⟩ := (q2.tmp (T' := T) q2.tm.2.2).putI hk hp (ff.put q2.tm.2.1)
  exact h en T σ _ D ⟨F, M', q'⟩ m)
/-- self.f = e, e gives something owned -/
theorem bo_fldO {n : ι → Nat} {C q : Addr} {fs : List (Str × D)} {fs' : ι → α → List (Str × D)} {f : Str} {pos' : Pos} {dd : ι → α → D} {ll : ι → α → List Res} (he : Ev X e g l (fun d l' => ∃ j, d = dd j s0 ∧ l' = ll j s0)) (ho : ∀ j, Px X o g (ll j s0) (.adr q)) (hk : ∀ j, (ll j s0)[n j]? = some (ownI X.K q C fs)) (hc : Cls X.K C) (hn : NoAttr X.K C f) (hp : ∀ j y, putD f (dd j y) fs = fs' j y) (h : ∀ j y, y = s0 → Bo X W rest g ((ll j y).set (n j) (ownI X.K q C (fs' j y))) Om (k y))
    (hz : fs.length < 1000 := by exact Nat.le_of_ble_eq_true rfl) (hs : swapsWith e (some (.Attribute o f pos')) pos.line X.env = pure false := by rfl) : Bo X W (.Assign [.Attribute o f pos'] e pos :: rest) g l Om (lt s0 k) :=
  blk_fldX (Psi := fun d l' => ∃ j, d = dd j s0 ∧ l' = ll j s0) he hc hn (fun d l' ⟨j, e1, e2⟩ => by
    subst e1; subst e2
    refine ⟨ho j, n j, fs, hk j, hz, ?_⟩
    have := h j s0 rfl
    rw [← hp] at this
    exact this) hs
theorem bo_endG {Rr : Type} {dd : ι → Rr → D} {ll : ι → Rr → List Res} {r : Rr} {junk : List Res} (i : ι) (he : dd i r = .non) (q : l.Perm (ll i r ++ junk)) : Bo X W [] g l (Rv (OwnR dd ll)) r := Blk.perm (q.trans List.perm_append_comm) (Blk.dropO (blk_nil ⟨i, he.symm, rfl⟩))
end
end
/-! ### freezing -/
section
variable {X : Cx} {W : WX} {g g' : Gm} {l l' : List Res} {Φ : Po} {rest sts : List Stmt}
section
variable {β : Type} {Om : β → Po} {mo : β}
end
end
end Sx
set_option Elab.async false
set_option linter.all false
set_option maxRecDepth 100000
set_option maxHeartbeats 4000000
/-! Walks over owned lists and dicts; sorting; pop. -/
namespace Sx
open PySem L2 PyProof.Rows
section
variable {X : Cx} {W : WX} {g g' : Gm} {l l' lk : List Res} {Φ : Po} {e e2 a b c o : Expr} {es : List Expr} {d d1 d2 : D} {pos p p2 apos : Pos} {rest sts : List Stmt}
/-! ### owned lists -/
/-- enumerate, zip of lists, owned or not -/
inductive Lz (K : PySem.W.Frag) : List Res → D → List D → Prop
  | f {ds : List D} : Lz K [] (.lst ds) ds
  | o {q : Addr} {ds : List D} : Lz K [ownL K q ds] (.adr q) ds
theorem Lz.get {K : PySem.W.Frag} {F M H : Hp} {lk : List Res} {d : D} {ds : List D} {v : V} (z : Lz K lk d ds) (f : Fd K F v d) (eF : Ex F H) (eM : Ex M H) (rs : Rs lk F M) : ∃ a vs, v = .ref a ∧ SqL K H a vs ∧ FdAll K F vs ds := by
  cases z with
  | f => cases f with | lst s a => exact ⟨_, _, rfl, SqL.of (eF _ _ s), a⟩
  | o =>
    cases f
    obtain ⟨vs, f, hq⟩ := rs.own (k := 0) rfl eM
    exact ⟨_, vs, rfl, SqL.of hq, f⟩
theorem Lz.ref {K : PySem.W.Frag} {F : Hp} {lk : List Res} {d : D} {ds : List D} {v : V} (z : Lz K lk d ds) (f : Fd K F v d) : ∃ a, v = .ref a := by
  cases z with
  | f => cases f; exact ⟨_, rfl⟩
  | o => cases f; exact ⟨_, rfl⟩
/-! ### dicts, locked -/
theorem New.tup {F H : Hp} {q : Addr} {xs : List V} (e : Ex F H) (h : H q = some (.tup xs)) : New F H (L2.upd F q (.tup xs)) H := ⟨fun x u z => by
    by_cases k : x = q
    · subst k
      have := e _ _ z
      rw [h] at this; cases this
      exact upd_same
    · rw [upd_ne k]; exact z, .rf, fun x u z => by
    by_cases k : x = q
    · subst k; rw [upd_same] at z; cases z; exact h
    · rw [upd_ne k] at z; exact e _ _ z, fun x u z => by
    by_cases k : x = q
    · subst k; rw [upd_same] at z; cases z; exact .inr (.inr ⟨_, rfl⟩)
    · rw [upd_ne k] at z; exact .inl z⟩
theorem FdFs.get {κ : Type} {K : PySem.W.Frag} {F : Hp} : ∀ {vs : List (κ × V)} {ds : List (κ × D)} {i : Nat} {k : κ} {v : V}, FdFs K F vs ds → vs[i]? = some (k, v) → ∃ d, ds[i]? = some (k, d) ∧ Fd K F v d
  | _, _, i, _, _, .nil, e => by simp at e
  | _, _, 0, _, _, .cons h _, e => by simp at e; obtain ⟨rfl, rfl⟩ := e; exact ⟨_, rfl, h⟩
  | _, _, i + 1, _, _, .cons _ t, e => by
    obtain ⟨d, h1, h2⟩ := FdFs.get (i := i) t (by simpa using e)
    exact ⟨d, by simpa using h1, h2⟩
/-! ### sorting -/
/-- insertion sort -/
def ins {α : Type} (le : α → α → Bool) (x : α) : List α → List α
  | [] => [x]
  | y :: r => cond (le x y) (x :: y :: r) (y :: ins le x r)
def isort {α : Type} (le : α → α → Bool) : List α → List α
  | [] => []
  | x :: r => ins le x (isort le r)
section
variable {α : Type} {le : α → α → Bool}
end
abbrev sortI (ns : List Int) : List Int := isort (fun a b => decide (a ≤ b)) ns
/-- keys of tuples of ints and texts -/
def kN : Key → Int ⊕ List Nat
  | .inl i => .inl i
  | .inr x => .inr x.cps.toList
abbrev Oi : KeyOrd := listOrd itemOrd
def bltK (a b : List Key) : Bool := Oi.blt (a.map kN) (b.map kN)
def leK {α : Type} (key : α → List Key) (x y : α) : Bool := !bltK (key y) (key x)
abbrev sortK {α : Type} (key : α → List Key) (xs : List α) : List α := isort (leK key) xs
section
variable {α : Type} {key : α → List Key}
end
/-- the kinds of a tuple's places -/
def shOk (sh : Nat → Bool) : Nat → List Key → Bool
  | _, [] => true
  | i, .inl _ :: r => !sh i && shOk sh (i + 1) r
  | i, .inr _ :: r => sh i && shOk sh (i + 1) r
def rSortK (K : PySem.W.Frag) (sh : Nat → Bool) : List V → Hp → VK → Prop := fun vs H Q => ∃ (a : Addr) (zs : List (V × List Key)), vs = [V.ref a] ∧ SqL K H a (zs.map (·.1)) ∧ (∀ z ∈ zs, ∃ t, z.1 = V.ref t ∧ SqT K H t (z.2.map kV) ∧ shOk sh 0 z.2 = true ∧ z.2 ≠ []) ∧
  ∀ (zs' : List (V × List Key)) (p : Addr), zs'.Perm zs → zs'.Pairwise (fun x y => bltK y.2 x.2 = false) → H p = none → Q (.ref p) (upd H p (.lst (zs'.map (·.1))))
section
variable {X : Cx}
end
/-! sorted(..) of tuples of ints and texts, of ints: a new list -/
/-! ### pop -/
end
end Sx
set_option Elab.async false
set_option linter.all false
set_option maxRecDepth 100000
set_option maxHeartbeats 4000000
/-! More rules for the walker. -/
namespace Sx
open PySem L2 PyProof.Rows
section
variable {K : PySem.W.Frag} {l : List Res} {k : Nat} {p : Addr}
end
/-! tuple keys asked: (..) in d -/
section
variable {X : Cx} {W : WX} {g : Gm} {l : List Res} {e o : Expr} {d1 : D} {pos : Pos} {κ β : Type} [DecidableEq κ] {kf : κ → Key}
end
section
variable {X : Cx} {g : Gm} {l : List Res} {e : Expr} {pos p : Pos}
end
theorem xr_ex {β ε : Type} {K : PySem.W.Frag} {own : List Res} {RT : β → Re} {xc : ε → Xd} {r : Except ε β} {cls : Value} {dd : Option Addr} {g g' : Gm} {l : List Res} (hR : ∀ v c d g l, (RT v).ex c d g l → False) (h : (XR K own RT xc r).ex cls dd g l) : (XR K own RT xc r).ex cls dd g' l := by
  cases r with
  | ok v => exact (hR v _ _ _ _ h).elim
  | error e => exact h
end Sx
set_option Elab.async false
set_option linter.all false
set_option maxRecDepth 100000
set_option maxHeartbeats 2000000
/-! Owned dicts of owned lists. -/
namespace Sx
open PySem L2
/-- a dict and its lists, written out -/
abbrev dlRs (K : PySem.W.Frag) (p : Addr) (ts : List (Key × Addr × List D)) : List Res := ownD K p (ts.map fun t => (t.1, D.adr t.2.1)) :: ts.map fun t => ownL K t.2.1 t.2.2
abbrev dlK (ts : List (Key × Addr × List D)) : List (Key × List D) := ts.map fun t => (t.1, t.2.2)
def ownDL (K : PySem.W.Frag) (p : Addr) (kvs : List (Key × List D)) : Res := ⟨fun F M => ∃ ts, dlK ts = kvs ∧ Rs (dlRs K p ts) F M, fun e ⟨ts, h, r⟩ => ⟨ts, h, Rs.mono e r⟩, fun ⟨_, _, r⟩ => Rs.nt r⟩
section
variable {X : Cx} {W : WX} {g : Gm} {l : List Res} {Φ : Po} {sts rest : List Stmt} {p q : Addr} {o e x : Expr} {d : D} {pos p2 : Pos}
end
/-! told by the model: a list more at its key -/
def alapp {κ α : Type} [DecidableEq κ] : List (κ × List α) → κ → α → List (κ × List α)
  | [], k, v => [(k, [v])]
  | (k', ds) :: m, k, v => if k' = k then (k', ds ++ [v]) :: m else (k', ds) :: alapp m k v
abbrev dlE {κ α : Type} (kf : κ → Key) (enc : α → D) (m : List (κ × List α)) : List (Key × List D) := m.map fun kv => (kf kv.1, kv.2.map enc)
abbrev dlA (ts : List (Key × Addr × List D)) : List (Key × D) := ts.map fun t => (t.1, D.adr t.2.1)
section
variable {X : Cx} {W : WX} {g : Gm} {l : List Res} {rest : List Stmt} {q : Addr} {o e x : Expr} {pos p2 : Pos} {S1 : Type} {Om : S1 → Po}
end
/-! a dict of lists is frozen; an empty one -/
section
variable {X : Cx} {W : WX} {g : Gm} {l : List Res} {Φ : Po} {sts rest : List Stmt} {p q : Addr} {pos : Pos} {S1 : Type} {Om : S1 → Po}
end
/-! sorted(d), whole numbers as keys -/
section
variable {X : Cx} {g : Gm} {l : List Res} {d : D} {p pos : Pos}
end
/-! what is scalar, got with an owned dict of lists taken for frozen -/
section
variable {X : Cx} {g : Gm} {l : List Res} {e : Expr} {d : D} {q : Addr}
end
/-! try: .. except C: return a bool -/
section
variable {X : Cx} {W : WX} {g : Gm} {l : List Res} {Φ : Po} {body rest : List Stmt} {x : Str} {C : Addr} {vb : Bool} {jk : Nat} {p0 p1 p2 p3 pos : Pos}
end
def tryR {Rr ε Ll Ss : Type} (tb : Cf (Except ε Rr) Ll Ss) (r : Rr) : Cf Rr Ll Ss := match tb with
  | .nx s => .nx s | .rt (.ok v) => .rt v | .rt (.error _) => .rt r | .bk s => .bk s | .ct s => .ct s
section
variable {X : Cx} {W : WX} {g : Gm} {l : List Res} {body rest : List Stmt} {x : Str} {C : Addr} {vb : Bool} {jk : Nat} {p0 p1 p2 p3 pos : Pos} {Rr ε S1 : Type} {RT : Rr → Re} {xc : ε → Xd}
end
/-! x.extend(e), e frozen -/
section
variable {X : Cx} {W : WX} {g : Gm} {l : List Res} {Φ : Po} {rest : List Stmt} {p : Addr} {o e : Expr} {pos : Pos} {S1 : Type} {Om : S1 → Po}
end
end Sx
set_option Elab.async false
set_option linter.all false
set_option maxRecDepth 100000
set_option maxHeartbeats 2000000
/-! min(xs, default=d), whole numbers. -/
namespace Sx
open PySem L2
def minDf (ns : List Int) (d : Int) : Int := match ns with | [] => d | n :: r => r.foldl min n
section
variable {X : Cx} {g : Gm} {l : List Res} {d : D} {p pos : Pos}
def rMinDf (K : PySem.W.Frag) : List V → List V → Hp → VK → Prop := fun vs zs H Q => ∃ (a : Addr) (ns : List Int) (d : Int), vs = [V.ref a] ∧ zs = [.int d] ∧ SqL K H a (ns.map V.int) ∧ Q (.int (minDf ns d)) H
end
end Sx
set_option Elab.async false
set_option linter.all false
set_option maxRecDepth 100000
set_option maxHeartbeats 2000000
/-! Owned lists of owned lists; orders of pairs; keys that are tuples. -/
namespace Sx
open PySem L2
/-! ### pairs of whole numbers in order -/
def leII (a b : Int × Int) : Bool := decide (a.1 < b.1) || (decide (a.1 = b.1) && decide (a.2 ≤ b.2))
def rGeT (K : PySem.W.Frag) : R2 := fun x y H Q => ∃ (a b : Addr) (ns ms : List Int), x = .ref a ∧ y = .ref b ∧ SqT K H a (ns.map V.int) ∧ SqT K H b (ms.map V.int) ∧
  Q (.bl (Ob.lexAt (fun j => decide (ns.getD j 0 = ms.getD j 0)) (fun j => decide (ms.getD j 0 ≤ ns.getD j 0)) (decide (ns.length ≥ ms.length)) 0 (min ns.length ms.length))) H
section
variable {X : Cx}
open PyProof.Rows in
end
section
variable {K : PySem.W.Frag} {l : List Res}
end
/-! ### (a, b) in d -/
section
variable {X : Cx} {g : Gm} {l : List Res} {o : Expr} {es : List Expr} {d1 : D} {ds : List D} {pos kp : Pos} {x1 : Nat}
def Tm.at (T : Tm) (p : Addr) (o : HO) : Tm := ⟨fun F => F p = some o ∧ T.P F, fun e h => ⟨e _ _ h.1, T.mono e h.2⟩⟩
end
section
variable {X : Cx} {g : Gm} {l : List Res} {o : Expr} {es : List Expr} {d1 : D} {ds : List D} {pos kp : Pos} {x1 : Nat} {κ β : Type} [DecidableEq κ] {kf : κ → List Key} {m : List (κ × β)} {k : κ}
end
/-! ### lists of lists -/
abbrev llRs (K : PySem.W.Frag) (p : Addr) (ts : List (Addr × List D)) : List Res := ownL K p (ts.map fun t => D.adr t.1) :: ts.map fun t => ownL K t.1 t.2
def ownLL (K : PySem.W.Frag) (p : Addr) (dss : List (List D)) : Res := ⟨fun F M => ∃ ts : List (Addr × List D), ts.map (·.2) = dss ∧ Rs (llRs K p ts) F M, fun e ⟨ts, h, r⟩ => ⟨ts, h, Rs.mono e r⟩, fun ⟨_, _, r⟩ => Rs.nt r⟩
section
variable {X : Cx} {W : WX} {g : Gm} {l : List Res} {Φ : Po} {sts rest : List Stmt} {p q : Addr} {o e x : Expr} {d : D} {pos p2 : Pos}
theorem Px.frs {k : List Res} (h : Px X e g l d) : Px X e g (k ++ l) d := by
  induction k with
  | nil => exact h
  | cons r k ih => exact ih.fr
end
section
variable {X : Cx} {W : WX} {g : Gm} {l : List Res} {rest sts : List Stmt} {q : Addr} {o e x : Expr} {pos p2 : Pos} {S1 : Type} {Om : S1 → Po} {α : Type} {enc : α → D} {m : List (List α)}
abbrev llE (enc : α → D) (m : List (List α)) : List (List D) := m.map fun xs => xs.map enc
end
/-! [[] for x in xs] -/
section
variable {X : Cx} {W : WX} {g g' : Gm} {l l' : List Res} {pos p2 : Pos} {rest : List Stmt}
variable {S1 : Type} {Om : S1 → Po} {α β : Type}
end
/-! a dict with tuples as keys is frozen -/
section
variable {X : Cx} {W : WX} {g : Gm} {l : List Res} {Φ : Po} {S1 : Type}
end
/-! a target that takes a list apart -/
end Sx
set_option Elab.async false
set_option linter.all false
set_option maxRecDepth 100000
set_option maxHeartbeats 2000000
/-! max(xs, default=d), whole numbers; xs.index(v). -/
namespace Sx
open PySem L2
def maxDf (ns : List Int) (d : Int) : Int := match ns with | [] => d | n :: r => r.foldl max n
section
variable {X : Cx} {g : Gm} {l : List Res} {d : D} {p pos : Pos}
def rMaxDf (K : PySem.W.Frag) : List V → List V → Hp → VK → Prop := fun vs zs H Q => ∃ (a : Addr) (ns : List Int) (d : Int), vs = [V.ref a] ∧ zs = [.int d] ∧ SqL K H a (ns.map V.int) ∧ Q (.int (maxDf ns d)) H
end
/-! xs.index(v) -/
def idxI (v : Int) : List Int → Nat
  | [] => 0
  | x :: xs => if x = v then 0 else idxI v xs + 1
section
variable {X : Cx} {g : Gm} {l : List Res} {d : D} {o e : Expr} {apos pos : Pos}
end
/-! k not in d, as a value -/
section
variable {X : Cx} {g : Gm} {l : List Res} {e o : Expr} {d1 d2 : D} {pos : Pos}
variable {κ β : Type} [DecidableEq κ] {m : List (κ × β)} {k : κ} {kf : κ → Key}
end
/-! ### a call one of whose arguments makes something owned -/
def PaX (X : Cx) (es : List Expr) (g : Gm) (l : List Res) (Psi : List D → List Res → Prop) : Prop := ∀ en T σ H (Q : List V → Hp → Prop), S X.K en g T l σ H → (∀ vs ds l' H', Psi ds l' → S X.K en g (T.ands X.K vs ds) l' σ H' → Q vs H') → wpA X es σ H Q
section
variable {X : Cx} {g : Gm} {l : List Res} {e : Expr} {es : List Expr} {d : D} {ds : List D} {pos p : Pos} {Psi : D → List Res → Prop} {Chi Chi2 : List D → List Res → Prop}
theorem PaX.imp (h : PaX X es g l Chi) (i : ∀ ds l', Chi ds l' → Chi2 ds l') : PaX X es g l Chi2 := fun en T σ H Q s k => h en T σ H Q s fun vs ds l' H' p s' => k vs ds l' H' (i _ _ p) s'
variable {α β ι ι' : Type} {ok : α → Prop} {args : α → List D} {own : α → List Res} {dd : α → ι → β → D} {ll : α → ι → β → List Res} {y : Str} {ps : List Str} {k j : Nat}
end
end Sx
set_option Elab.async false
set_option linter.all false
set_option maxRecDepth 100000
set_option maxHeartbeats 2000000
/-! sorted(set(..)) of whole numbers; tests that change what is owned; or by truth; + of tuples. -/
namespace Sx
open PySem L2
/-! ### sorted(set(xs)) -/
def ddI : List Int → List Int
  | [] => []
  | x :: r => if x ∈ ddI r then ddI r else x :: ddI r
def setI (l : List Int) : List Int := sortI (ddI l)
section
variable {X : Cx}
open PyProof.Rows in
def rSetI (K : PySem.W.Frag) (w : World) : List V → Hp → VK → Prop := fun xs H Q => ∃ (p : Addr) (ns : List Int), xs = [.ref p] ∧ SqT K H p (ns.map V.int) ∧ ns.length ≤ 1000 ∧ ∀ a c, H a = none → c ≤ ns.length → Q (.ref a) (L2.upd H a (SetO w a (fun j => decide (j ∈ ns)) c))
open PyProof.Rows in
variable {g : Gm} {l : List Res} {d : D} {p pos p2 pos2 : Pos}
/-! ### + of tuples -/
/-! ### x or y by truth -/
/-- how a datum is by truth -/
def TrD (K : PySem.W.Frag) (d : D) (k : Bool) : Prop := ∀ F H v, Ex F H → Fd K F v d → TruV K v H k
/-! ### enumerate of an owned list -/
/-! ### len of a dict with tuple keys -/
/-! ### tests that change what is owned -/
variable {W : L2.WX} {α ι β Rr Ll Ss : Type}
/-- the test c tells b, what is owned is ll j then -/
def TsE (X : Cx) (e : Expr) (g : Gm) (l : List Res) (b : Bool) (ll : ι → List Res) : Prop := ∀ en T σ H (Q : Bool → Hp → Prop), S X.K en g T l σ H → (∀ j H', S X.K en g T (ll j) σ H' → Q b H') → wpT X e σ H Q
/-- xs.append(..), the list not read behind it -/
theorem bo_appJ {o e : Expr} {rest : List Stmt} {kk : Nat} {q : Addr} {apos cpos pos : Pos} {ds : List D} {d : D} {Om : β → Po} {m : β} (ho : Px X o g l (.adr q)) (hk : l[kk]? = some (ownL X.K q ds)) (he : Px X e g l d) (hz : ds.length < 10000) (h : Bo X W rest g (l.eraseIdx kk) Om m)
    (hp : PS X (.Expr (.Call (.Attribute o "append" apos) [e] [] cpos) pos) (tDrop (tBM X.K "list" rAppend (wpE X o) (tCons (wpE X e) tNil))) := by exact ps_expr (pe_bm PySem.F.plainAttrs_list PySem.F.slot_list_append PySem.F.type_list_append mt_append pe_wp (pa_cons pe_wp pa_nil))) :
    Bo X W (.Expr (.Call (.Attribute o "append" apos) [e] [] cpos) pos :: rest) g l Om m := by
  refine blk_app ho he hk (Nat.lt_of_lt_of_le hz (by decide)) ?_ hp
  have hlt := (List.getElem?_eq_some_iff.mp hk).1
  refine Blk.perm (l' := [ownL X.K q (ds ++ [d])] ++ l.eraseIdx kk) ?_ (Blk.dropO h)
  have := perm_at (l := l.set kk (ownL X.K q (ds ++ [d]))) (k := kk) (r := ownL X.K q (ds ++ [d])) (by rw [List.getElem?_set_self hlt])
  rw [List.eraseIdx_set_eq] at this
  exact this
end
end Sx
set_option Elab.async false
set_option linter.all false
set_option maxRecDepth 100000
set_option maxHeartbeats 2000000
/-! Owned dicts, keys tuples, of owned lists. -/
namespace Sx
open PySem L2
section
variable {X : Cx}
/-- d.setdefault(t, x), t a tuple -/
def rSetdT : V → List V → Hp → VK → Prop := fun x xs H Q => ∃ (a : Addr) (kvs : List (List Key × V)) (k : List Key) (b : Addr) (d : V), x = .ref a ∧ xs = [.ref b, d] ∧ H a = some (.dT kvs) ∧ H b = some (.tup (k.map kV)) ∧ kvs.length < sizeLine ∧
  (∀ v, valV kvs k = some v → Q v H) ∧ (valV kvs k = none → Q d (L2.upd H a (.dT (L2.putK kvs k d))))
end
/-- a dict and its lists, written out -/
abbrev tlRs (K : PySem.W.Frag) (p : Addr) (ts : List (List Key × Addr × List D)) : List Res := ownT K p (ts.map fun t => (t.1, D.adr t.2.1)) :: ts.map fun t => ownL K t.2.1 t.2.2
abbrev tlK (ts : List (List Key × Addr × List D)) : List (List Key × List D) := ts.map fun t => (t.1, t.2.2)
def ownTL (K : PySem.W.Frag) (p : Addr) (kvs : List (List Key × List D)) : Res := ⟨fun F M => ∃ ts, tlK ts = kvs ∧ Rs (tlRs K p ts) F M, fun e ⟨ts, h, r⟩ => ⟨ts, h, Rs.mono e r⟩, fun ⟨_, _, r⟩ => Rs.nt r⟩
section
variable {X : Cx} {W : WX} {g : Gm} {l : List Res} {Φ : Po} {sts rest : List Stmt} {p q : Addr} {o e x : Expr} {d : D} {pos p2 : Pos}
end
abbrev tlE' {κ α : Type} (kf : κ → List Key) (enc : α → D) (m : List (κ × List α)) : List (List Key × List D) := m.map fun kv => (kf kv.1, kv.2.map enc)
abbrev tlA (ts : List (List Key × Addr × List D)) : List (List Key × D) := ts.map fun t => (t.1, D.adr t.2.1)
section
variable {X : Cx} {W : WX} {g : Gm} {l : List Res} {rest : List Stmt} {q : Addr} {o e x : Expr} {pos p2 : Pos} {S1 : Type} {Om : S1 → Po}
end
/-! a dict of lists is frozen; an empty one -/
section
variable {X : Cx} {W : WX} {g : Gm} {l : List Res} {Φ : Po} {sts rest : List Stmt} {p q : Addr} {pos : Pos} {S1 : Type} {Om : S1 → Po}
end
/-! ### sorted(d) of a dict with tuple keys -/
def rSortDT (sh : Nat → Bool) : List V → Hp → VK → Prop := fun vs H Q => ∃ (d : Addr) (kvs : List (List Key × V)), vs = [V.ref d] ∧ Rd H d (.dT kvs) ∧ (∀ kv ∈ kvs, shOk sh 0 kv.1 = true ∧ kv.1 ≠ []) ∧
  ∀ (zs' : List (Addr × List Key)) (p : Addr), (zs'.map (·.2)).Perm (kvs.map (·.1)) → (∀ z ∈ zs', H z.1 = some (.tup (z.2.map kV))) → zs'.Pairwise (fun x y => bltK y.2 x.2 = false) → H p = none → Q (.ref p) (L2.upd H p (.lst (zs'.map fun z => V.ref z.1)))
section
variable {X : Cx}
open PyProof.Rows in
end
/-! told with what is frozen -/
section
variable {X : Cx} {g : Gm} {l : List Res} {d : D} {p pos : Pos}
end
/-! ### d[k], k a tuple by name -/
def rIxDT (K : PySem.W.Frag) : R2 := fun x y H Q => ∃ (a b : Addr) (kvs : List (List Key × V)) (k : List Key) (v : V), x = .ref a ∧ y = .ref b ∧ Rd H a (.dT kvs) ∧ SqT K H b (k.map kV) ∧ valV kvs k = some v ∧ Q v H
section
variable {X : Cx}
open PyProof.Rows in
variable {g : Gm} {l : List Res} {d1 d2 : D} {o e : Expr} {pos : Pos}
end
/-! == of lists of two unlike things -/
theorem lst_py {ds : List D} {p : PyData} (h : (D.lst ds).py = some p) : ∃ ps, D.pys ds = some ps ∧ p = .list ps := by
  unfold D.py at h
  obtain ⟨ps, h1, rfl⟩ := Option.map_eq_some_iff.mp h
  exact ⟨ps, h1, rfl⟩
section
variable {α β : Type} [DecidableEq α] [DecidableEq β] {k : Nat} {ok : α → Prop} {ok2 : β → Prop} {enc : α → D} {enc2 : β → D}
theorem eqs_h2 {k2 : Nat} {e : α × β → D} (E : EqS k ok enc) (E2 : EqS k2 ok2 enc2) (he : ∀ x, e x = .lst [enc x.1, enc2 x.2] := by intro x; rfl) : EqS (max k k2 + 1) (fun x : α × β => ok x.1 ∧ ok2 x.2) e := ⟨fun x h => by
    rw [he]
    refine Dp'.lst fun d hd => ?_
    simp only [List.mem_cons, List.not_mem_nil, or_false] at hd
    rcases hd with rfl | rfl
    · exact Dp'.mono (E.ex _ h.1) (by omega)
    · exact Dp'.mono (E2.ex _ h.2) (by omega), fun x y p q h1 h2 => by
    rw [he] at h1 h2
    obtain ⟨ps, h3, rfl⟩ := lst_py h1
    obtain ⟨qs, h4, rfl⟩ := lst_py h2
    obtain ⟨a1, b1, u1, v1, rfl⟩ := pys_cons h3
    obtain ⟨a2, b2, u2, v2, rfl⟩ := pys_cons v1
    cases v2
    obtain ⟨c1, d1, w1, z1, rfl⟩ := pys_cons h4
    obtain ⟨c2, d2, w2, z2, rfl⟩ := pys_cons z1
    cases z2
    show (PyData.eqv a1 c1 && (PyData.eqv a2 c2 && true)) = _
    rw [E.eq _ _ _ _ u1 w1, E2.eq _ _ _ _ u2 w2]
    obtain ⟨x1, x2⟩ := x; obtain ⟨y1, y2⟩ := y
    simp [Prod.mk.injEq]⟩
end
end Sx
set_option Elab.async false
set_option linter.all false
set_option maxRecDepth 100000
set_option maxHeartbeats 2000000
/-! Things of any kind: the datum itself is the model's value. -/
namespace Sx
open PySem L2
/-- the built-in classes that isinstance asks for -/
inductive AK where
  | int | bool | str | list | tuple
def AK.name : AK → String
  | .int => "int" | .bool => "bool" | .str => "str" | .list => "list" | .tuple => "tuple"
def D.is : D → AK → Bool
  | .int _, .int => true | .bl _, .int => true | .bl _, .bool => true | .str _, .str => true | .lst _, .list => true | .tup _, .tuple => true | _, _ => false
/-- == of Python -/
def D.eq (a b : D) : Bool := match a.py, b.py with
  | some p, some q => PyData.eqv p q
  | _, _ => false
def D.inn (x : D) (ds : List D) : Bool := ds.any fun z => D.eq z x
def D.els : D → List D
  | .lst ds => ds | .tup ds => ds | _ => []
def D.seq : D → Bool
  | .lst _ => true | .tup _ => true | _ => false
def D.ix (d : D) (i : Nat) : D := d.els.getD i .non
def D.toI : D → Int
  | .int i => i | _ => 0
def D.toS : D → Str
  | .str x => x | _ => ""
def D.toB : D → Bool
  | .bl b => b | _ => false
def D.isI : D → Bool
  | .int _ => true | _ => false
def D.isS : D → Bool
  | .str _ => true | _ => false
/-- plain, at most twenty deep -/
abbrev Any (d : D) : Prop := Dp' 20 d
theorem Dp'.els {k : Nat} {d : D} (h : Dp' k d) : ∀ x ∈ d.els, Dp' k x := fun x hx => by
  have key : ∀ (ds : List D) (ps : List PyData), D.pys ds = some ps → PyData.canLayAll0 ps = true → PyData.depthAll ps ≤ k → x ∈ ds → Dp' k x := by
    intro ds
    induction ds with
    | nil => intro ps _ _ _ h; cases h
    | cons d ds ih =>
      intro ps h1 h2 h3 h4
      obtain ⟨a, b, e1, e2, rfl⟩ := pys_cons h1
      have h2 : (PyData.canLay0 a && PyData.canLayAll0 b) = true := h2
      have h3 : max (PyData.depth a) (PyData.depthAll b) ≤ k := h3
      obtain ⟨h5, h6⟩ := Bool.and_eq_true_iff.mp h2
      rcases List.mem_cons.mp h4 with z | z
      · subst z; exact ⟨a, e1, h5, Nat.le_trans (Nat.le_max_left _ _) h3⟩
      · exact ih b e2 h6 (Nat.le_trans (Nat.le_max_right _ _) h3) z
  obtain ⟨p, h1, h2, h3⟩ := h
  cases d with
  | lst ds =>
    obtain ⟨ps, h4, rfl⟩ := lst_py h1
    exact key ds ps h4 h2 (Nat.le_trans (Nat.le_succ _) h3) hx
  | tup ds =>
    unfold D.py at h1
    obtain ⟨ps, h4, rfl⟩ := Option.map_eq_some_iff.mp h1
    exact key ds ps h4 h2 (Nat.le_trans (Nat.le_succ _) h3) hx
  | _ => cases hx
theorem Any.py {d : D} (h : Any d) : ∃ p, d.py = some p ∧ SeqAt.shaped p = true := by
  obtain ⟨p, h1, h2, h3⟩ := h
  exact ⟨p, h1, shaped_of h2 h3 (by decide)⟩
theorem kit_non : ∀ k : AK, kitB "NoneType" k.name = some (D.is .non k) := fun k => by cases k <;> decide +kernel
theorem kit_bl : ∀ k : AK, kitB "bool" k.name = some (D.is (.bl true) k) := fun k => by cases k <;> decide +kernel
theorem kit_int : ∀ k : AK, kitB "int" k.name = some (D.is (.int 0) k) := fun k => by cases k <;> decide +kernel
theorem kit_str : ∀ k : AK, kitB "str" k.name = some (D.is (.str "") k) := fun k => by cases k <;> decide +kernel
theorem kit_lst : ∀ k : AK, kitB "list" k.name = some (D.is (.lst []) k) := fun k => by cases k <;> decide +kernel
theorem kit_tup : ∀ k : AK, kitB "tuple" k.name = some (D.is (.tup []) k) := fun k => by cases k <;> decide +kernel
theorem Any.tyv {d : D} (h : Any d) (k : AK) : ∃ t, d.tyv = some t ∧ kitB t k.name = some (d.is k) := by
  obtain ⟨p, h1, _⟩ := h
  cases d with
  | non => exact ⟨_, rfl, by cases k <;> exact kit_non _⟩
  | bl b => exact ⟨_, rfl, by cases k <;> exact kit_bl _⟩
  | int i => exact ⟨_, rfl, by cases k <;> exact kit_int _⟩
  | str x => exact ⟨_, rfl, by cases k <;> exact kit_str _⟩
  | lst ds => exact ⟨_, rfl, by cases k <;> exact kit_lst _⟩
  | tup ds => exact ⟨_, rfl, by cases k <;> exact kit_tup _⟩
  | adr a => cases h1
  | ty n => cases h1
  | ins C fs => cases h1
  | scr ds => cases h1
  | dK kvs => cases h1
  | dT kvs => cases h1
  | exc C fs => cases h1
  | kt k => cases h1
theorem D.eq_py {a b : D} {p q : PyData} (h1 : a.py = some p) (h2 : b.py = some q) : D.eq a b = PyData.eqv p q := by unfold D.eq; rw [h1, h2]
theorem EqS.D {α : Type} [DecidableEq α] {k : Nat} {ok : α → Prop} {enc : α → Sx.D} (E : EqS k ok enc) {x y : α} (hx : ok x) (hy : ok y) : D.eq (enc x) (enc y) = decide (x = y) := by
  obtain ⟨p, h1, _⟩ := E.ex x hx
  obtain ⟨q, h2, _⟩ := E.ex y hy
  rw [D.eq_py h1 h2, E.eq x y p q h1 h2]
theorem EqS.any {α : Type} [DecidableEq α] {k : Nat} {ok : α → Prop} {enc : α → Sx.D} (E : EqS k ok enc) {x : α} (hx : ok x) (hk : k ≤ 20 := by decide) : Any (enc x) := Dp'.mono (E.ex x hx) hk
section
variable {K : PySem.W.Frag} {l : List Res} {d d1 d2 : D} {ds xs ys : List D}
end
section
variable {X : Cx} {W : WX} {g g' : Gm} {l l' : List Res} {e e2 c a b o : Expr} {d d1 d2 : D} {pos p p2 : Pos} {ds : List D} {x : Str}
/-! xs.count(v) -/
end
end Sx
set_option Elab.async false
set_option linter.all false
set_option maxRecDepth 100000
set_option maxHeartbeats 2000000
/-! Tuples that are keys, by name: a datum of their own (the tuple is a new object, not one of the module's). -/
namespace Sx
open PySem L2 PyProof.Rows
section
variable {X : Cx} {W : WX} {g g' : Gm} {l l' : List Res} {Φ : Po} {e e2 a b c o v x : Expr} {es : List Expr} {d d1 d2 d3 : D} {pos p p2 apos kp : Pos} {rest : List Stmt} {x1 : Nat} {ds : List D} {k : List Key} {kvs : List (List Key × D)}
end
section
variable {S1 : Type} {Om : S1 → Po} {X : Cx} {W : WX} {g : Gm} {l : List Res} {e o v x : Expr} {es : List Expr} {d1 : D} {pos p2 apos kp : Pos} {x1 : Nat} {rest : List Stmt} {κ β : Type} [DecidableEq κ] {kf : κ → List Key} {m : List (κ × β)} {k : κ} {kk : List (κ × β) → S1}
/-- set where it is not there -/
def asetd {κ β : Type} [DecidableEq κ] (m : List (κ × β)) (k : κ) (v : β) : List (κ × β) := cond (aget m k).isSome m (aput m k v)
end
section
variable {X : Cx} {e : Expr} {g : Gm} {l : List Res} {pos : Pos}
end
end Sx
set_option Elab.async false
set_option linter.all false
set_option maxRecDepth 100000
set_option maxHeartbeats 4000000
set_option pp.maxSteps 400
/-! zip of three lists. -/
namespace Sx
open PySem PySem.Spec PyProof.Rows L2
open Sem (wp)
abbrev Tri (h : Heap) (T : Addr) (a b c : Value) : Prop := h.get? T = some { cls := .type "tuple", data := .seq #[a, b, c] }
/-- five that are written, each apart from the others; four that are read, apart from these -/
structure Ap3 (z TO i j k TI a b c : Addr) : Prop where
  z1 : z ≠ TO
  z2 : z ≠ i
  z3 : z ≠ j
  z4 : z ≠ k
  o1 : TO ≠ i
  o2 : TO ≠ j
  o3 : TO ≠ k
  i1 : i ≠ j
  i2 : i ≠ k
  j1 : j ≠ k
  r : ∀ x, x = TI ∨ x = a ∨ x = b ∨ x = c → x ≠ z ∧ x ≠ TO ∧ x ≠ i ∧ x ≠ j ∧ x ≠ k
/-- what a zip of three has, item n next -/
structure Zs (h : Heap) (z TO i j k TI a b c : Addr) (f : Value) (m n p : Nat) (u v w : Value) (xs ys zs : Array Value) : Prop where
  z : IsZip h z TI TO f
  t : Tri h TO u v w
  i : h.IsListIter i a m
  j : h.IsListIter j b n
  k : h.IsListIter k c p
  a : h.IsList a xs
  b : h.IsList b ys
  c : h.IsList c zs
section
variable {prog : Program} {w : World} {A : Around} {E : Value → Shared → Prop} {s : Shared} {z TO i j k TI a b c : Addr} {m n p : Nat} {f u v y : Value} {xs ys zs : Array Value}
section
variable {h h' : Heap} (D : Ap3 z TO i j k TI a b c)
include D
end
theorem Zs.keep {h h' : Heap} (q : Zs h z TO i j k TI a b c f m n p u v y xs ys zs) (e : ∀ x o, h.get? x = some o → h'.get? x = some o) : Zs h' z TO i j k TI a b c f m n p u v y xs ys zs :=
  ⟨e _ _ q.z, e _ _ q.t, q.i.at fun o => e _ o, q.j.at fun o => e _ o, q.k.at fun o => e _ o, q.a.at fun o => e _ o, q.b.at fun o => e _ o, q.c.at fun o => e _ o⟩
/-- all but the five stays -/
def Kp5 (z TO i j k : Addr) (h h' : Heap) : Prop := ∀ x o, x ≠ z → x ≠ TO → x ≠ i → x ≠ j → x ≠ k → h.get? x = some o → h'.get? x = some o
set_option maxHeartbeats 16000000 in
set_option maxHeartbeats 16000000 in
/-! zip(..) of three -/
abbrev itO (a : Addr) : Obj := { cls := .type "list_iterator", data := .fields #[.ref a, .int 0 0] }
abbrev zh1 (h : Heap) (a : Addr) : Heap := h.push (itO a)
abbrev zh2 (h : Heap) (a b : Addr) : Heap := (zh1 h a).push (itO b)
abbrev zh3 (h : Heap) (a b c : Addr) : Heap := (zh2 h a b).push (itO c)
abbrev zh4 (h : Heap) (a b c : Addr) : Heap := (zh3 h a b c).push { cls := .type "tuple", data := .seq #[.ref h.objs.size, .ref (zh1 h a).objs.size, .ref (zh2 h a b).objs.size] }
abbrev zh5 (h : Heap) (a b c : Addr) : Heap := (zh4 h a b c).push { cls := .type "tuple", data := .seq #[.none, .none, .none] }
abbrev zh6 (h : Heap) (a b c : Addr) : Heap := (zh5 h a b c).push { cls := .type "zip", data := .fields #[.none, .bool false, .bool false, .ref (zh3 h a b c).objs.size, .ref (zh4 h a b c).objs.size] }
end
/-! the turn -/
def It3 (K : PySem.W.Frag) (a b c : Addr) : It :=
  ⟨fun i H => ∃ (xs ys zs : List V) (x y z : V), (SqL K H a xs ∧ SqL K H b ys ∧ SqL K H c zs) ∧ xs[i]? = some x ∧ ys[i]? = some y ∧ zs[i]? = some z,
    fun i H v H' => ∃ T x y z, v = .ref T ∧ H T = none ∧ H' = upd H T (.tup [x, y, z]) ∧ (∀ xs, SqL K H a xs → xs[i]? = some x) ∧ (∀ ys, SqL K H b ys → ys[i]? = some y) ∧ ∀ zs, SqL K H c zs → zs[i]? = some z,
    fun i H => ∃ xs ys zs : List V, (SqL K H a xs ∧ SqL K H b ys ∧ SqL K H c zs) ∧ (xs.length ≤ i ∨ ys.length ≤ i ∨ zs.length ≤ i)⟩
def iZip3 (K : PySem.W.Frag) (ta : TA) : TI := fun σ H R => ta σ H fun vs H1 => ∃ a b c xs ys zs, vs = [.ref a, .ref b, .ref c] ∧ SqL K H1 a xs ∧ SqL K H1 b ys ∧ SqL K H1 c zs ∧ R (It3 K a b c) H1
/-! as a list of triples -/
section
variable {X : Cx} {g : Gm} {l : List Res} {e e2 e3 : Expr} {p : Pos}
def zipD3 (ds es fs : List D) : List D := (ds.zip (es.zip fs)).map fun q => D.tup [q.1, q.2.1, q.2.2]
end
end Sx
set_option Elab.async false
set_option linter.all false
set_option maxRecDepth 100000
set_option maxHeartbeats 4000000
set_option pp.maxSteps 400
/-! sorted(set(xs)), xs a list of texts. -/
namespace Sx
open PySem PySem.Spec PyProof.Rows L2
/-- a set of texts: its members, each once -/
def StrSet (w : World) (h : Heap) (a : Addr) (ks : List Str) : Prop :=
  ∃ o es ep t, h.get? a = some o ∧ o.ExactSet ∧ o.data = .set es ep t ∧ (∀ e ∈ es.toList, ∃ k tk, e = (hashStr w k, Value.str k tk)) ∧ (es.toList.map fun e => strOf e.2).Perm ks ∧ ks.Nodup ∧
    es.size < scanBound ∧ t.fits es.size = true ∧ Ris t.place.toList ∧ (w.params.followText "set-order" = true ∨ t.led = true)
theorem StrSet.at {w : World} {h h' : Heap} {a : Addr} {ks : List Str} (R : StrSet w h a ks) (k : ∀ o, h.get? a = some o → h'.get? a = some o) : StrSet w h' a ks := by
  obtain ⟨o, es, ep, t, g, r⟩ := R
  exact ⟨o, es, ep, t, k o g, r⟩
section
variable {P : Program} {w : World} {A : Around} {E : Value → Shared → Prop} {s : Shared} {a : Addr} {ks : List Str}
/-- the members that come one by one -/
def gather (ks : List Str) (xs : List Str) : List Str := xs.foldl (fun ks x => if x ∈ ks then ks else x :: ks) ks
abbrev newSet (w : World) : Obj := { cls := .type "set", dict := none, data := .set #[] 0 (.fresh 0 0 (!w.params.followText "set-order")) }
set_option maxRecDepth 100000 in
set_option maxHeartbeats 8000000 in
end
/-! order of texts -/
def leS (x y : Str) : Bool := !decide (y.cps.toList < x.cps.toList)
abbrev sortS (xs : List Str) : List Str := isort leS xs
/-- the texts, each once, in order -/
def setS (xs : List Str) : List Str := sortS (gather [] xs)
section
variable {X : Cx}
def SetSO (w : World) (a : Addr) (ks : List Str) : HO := .ext fun h => StrSet w h a ks
def rSetSt (K : PySem.W.Frag) (w : World) : List V → Hp → VK → Prop := fun xs H Q => ∃ (p : Addr) (ss : List Str), xs = [.ref p] ∧ SqL K H p (ss.map V.str) ∧ ss.length ≤ 1000 ∧ ∀ a, H a = none → Q (.ref a) (L2.upd H a (SetSO w a (gather [] ss)))
def rSortSt (w : World) : List V → Hp → VK → Prop := fun vs H Q => ∃ (a : Addr) (ks : List Str), vs = [V.ref a] ∧ H a = some (SetSO w a ks) ∧ ks.length < 64 ∧
  ∀ (ys : List Str) (p : Addr), ys.Perm ks → sortedS ys = true → H p = none → Q (.ref p) (L2.upd H p (.lst (ys.map V.str)))
variable {g : Gm} {l : List Res} {d : D} {p pos p2 pos2 : Pos}
end
/-! xs.count(b), xs a list of truths -/
def eqb (k : Bool) : Value → Bool
  | .bool n => n == k
  | _ => false
def rCntB (K : PySem.W.Frag) : V → List V → Hp → VK → Prop := fun x xs H Q => ∃ (p : Addr) (bs : List Bool) (k : Bool), x = .ref p ∧ xs = [.bl k] ∧ SqL K H p (bs.map V.bl) ∧ Q (.int (bs.count k : Nat)) H
section
variable {X : Cx}
variable {g : Gm} {l : List Res} {d : D} {o e : Expr} {pos : Pos}
end
end Sx
set_option Elab.async false
set_option linter.all false
set_option maxRecDepth 100000
set_option maxHeartbeats 4000000
set_option pp.maxSteps 400
/-! a comprehension over an owned dict of tuple keys, set on one line; a loop over a frozen one. -/
namespace Sx
open PySem PySem.Spec PyProof.Rows L2
open Sem (wp)
section
variable {X : Cx} {W : WX} {g g' : Gm} {l l' : List Res} {o e c : Expr} {d d1 d2 : D} {pos : Pos} {rest body : List Stmt} {Φ Om : Po} {α β S1 : Type}
/-- a heap without one place -/
def erH (F : Hp) (q : Addr) : Hp := fun a => if a = q then none else F a
/-- data that reaches no heap -/
def Flat : D → Prop
  | .int _ => True | .str _ => True | .bl _ => True | .non => True | .adr _ => True | _ => False
theorem Flat.fd {K : PySem.W.Frag} {F F' : Hp} {v : V} {d : D} (h : Fd K F v d) (f : Flat d) : Fd K F' v d := by
  cases h <;> first | exact f.elim | constructor
/-- slots: what reaches no heap is kept -/
inductive WkN : Gm → Gm → Prop
  | nil : WkN [] []
  | any {o : Option D} {g r : Gm} : WkN g r → WkN (o :: g) (none :: r)
  | keep {d : D} {g r : Gm} (h : WkN g r) (f : Flat d := by trivial) : WkN (some d :: g) (some d :: r)
inductive WkI : Nat → Gm → (Addr → Gm) → Prop
  | here {d : D} {g r : Gm} : WkN g r → WkI 0 (some d :: g) (fun q => some (.adr q) :: r)
  | any {i : Nat} {o : Option D} {g : Gm} {r : Addr → Gm} : WkI i g r → WkI (i + 1) (o :: g) (fun q => none :: r q)
  | keep {i : Nat} {d : D} {g : Gm} {r : Addr → Gm} (h : WkI i g r) (f : Flat d := by trivial) : WkI (i + 1) (some d :: g) (fun q => some d :: r q)
theorem WkN.sl {K : PySem.W.Frag} {F F' : Hp} {g r : Gm} (w : WkN g r) : ∀ {σ : L2.St}, Sl K F g σ → Sl K F' r σ := by
  induction w with
  | nil => intro σ h; cases h; exact .nil
  | any _ ih => intro σ h; cases h with
    | any h => exact .any (ih h)
    | cons _ h => exact .any (ih h)
  | keep _ f ih => intro σ h; cases h with
    | cons h1 h2 => exact .cons (Flat.fd h1 f) (ih h2)
theorem WkI.sl {K : PySem.W.Frag} {F F' : Hp} {q : Addr} {i : Nat} {g : Gm} {r : Addr → Gm} (w : WkI i g r) : ∀ {σ : L2.St}, Sl K F g σ → σ[i]? = some (some (V.ref q)) → Sl K F' (r q) σ := by
  induction w with
  | here w => intro σ h e; cases h with
    | cons _ h2 =>
      have e := Option.some.inj (Option.some.inj e)
      subst e
      exact .cons (.adr _) (w.sl h2)
  | any _ ih => intro σ h e; cases h with
    | any h => exact .any (ih h e)
    | cons _ h => exact .any (ih h e)
  | keep _ f ih => intro σ h e; cases h with
    | cons h1 h2 => exact .cons (Flat.fd h1 f) (ih h2 e)
end
end Sx
set_option Elab.async false
set_option linter.all false
set_option maxRecDepth 100000
set_option maxHeartbeats 4000000
set_option pp.maxSteps 400
/-! sorted(texts), sorted(a dict of texts), abs. -/
namespace Sx
open PySem PySem.Spec PyProof.Rows L2
section
variable {X : Cx} {g : Gm} {l : List Res} {d : D} {p pos : Pos}
end
section
variable {K : PySem.W.Frag} {l : List Res} {d : D}
def absI (i : Int) : Int := if i < 0 then -i else i
end
end Sx
set_option Elab.async false
set_option linter.all false
set_option maxRecDepth 100000
set_option maxHeartbeats 4000000
set_option pp.maxSteps 400
/-! a comprehension over the values of a frozen dict, a tuple's third. -/
namespace Sx
open PySem PySem.Spec PyProof.Rows L2
open Sem (wp)
section
variable {X : Cx} {W : WX} {g g' : Gm} {l l' : List Res} {o e c elt : Expr} {d d1 d2 : D} {pos apos cpos : Pos} {α β S1 : Type}
end
end Sx
set_option Elab.async false
set_option linter.all false
set_option maxRecDepth 100000
set_option maxHeartbeats 2000000
/-! Classes whose __init__ may raise. -/
namespace Sx
open PySem L2 PyProof.Rows
section
variable {X : Cx} {CX : CXT} {k : Nat} {f C : Addr} {fd : FuncData} {ps : List Str} {sp : Sp} {x : Str} {p pos : Pos} {e : Expr} {es : List Expr} {t : TA} {E : L2.St → XK}
/-- C(..) where what is wished of an exception may hang on the slots -/
def tMakeS (C : Addr) (sp : Sp) (E : L2.St → XK) (t : TA) : TE := fun σ H Q => t σ H fun vs H1 => ∀ y dx, H1 y = none → H1 dx = none → dx ≠ y → sp (.ref y :: vs) (upd (upd H1 dx (.own y)) y (.ins C dx [])) (fun v H2 => v = .non ∧ Q (.ref y) H2) (E σ)
end
/-- a class under its name with its __init__, which may raise -/
def GloCX (P : Program) (w : World) (K : PySem.W.Frag) (mg : Str → Option Value) (base : Heap) (k : Nat) (C : Addr) (x : Str) (ps : List Str) (sp : Sp) : Prop :=
  ∃ f fd, FnOk P w K mg base (L2.CX P w) k f fd ps sp ∧ Mk K C f ∧ mg x = some (.ref C) ∧ Binds K fd ps []
section
variable {P : Program} {w : World} {K : PySem.W.Frag} {mg : Str → Option Value} {base : Heap} {k : Nat} {x qual : Str} {st : Stmt} {ps : List Str} {sp : Sp} {C : Addr}
end
section
variable {X : Cx} {W : WX} {g : Gm} {e : Expr} {es : List Expr} {p pos : Pos}
/-- == of lists (its instance of Decidable is the common one, also where one is empty) -/
abbrev decL {α : Type} [DecidableEq α] (xs ys : List α) : Bool := decide (xs = ys)
/-! ### isinstance by several classes -/
/-! ### things of any kind -/
variable {l : List Res} {o a b : Expr} {d : D} {p2 : Pos}
end
end Sx
set_option Elab.async false
set_option linter.all false
set_option maxRecDepth 100000
set_option maxHeartbeats 2000000
/-! Displays whose elements own; targets taken apart from such; tries walked twice, once for each end. -/
namespace Sx
open PySem L2 PyProof.Rows
section
variable {X : Cx} {W : WX} {g : Gm} {l : List Res} {e : Expr} {es : List Expr} {d : D} {pos p : Pos} {ι ι' : Type} {d0 : ι → D} {l0 : ι → List Res} {dt : ι' → List D} {lt1 : ι' → List Res} {ds0 : ι → ι' → List D} {l1 : ι → ι' → List Res}
theorem pax_z : PaX X [] g l (fun ds l' => ∃ _ : Unit, ds = [] ∧ l' = l) := fun en T σ H Q s k => wpA_of pa_nil (by
  obtain ⟨F, M, a⟩ := s
  exact k [] [] l H ⟨(), rfl, rfl⟩ ⟨F, M, a.tmp ⟨.nil, a.tm⟩⟩)
theorem pax_o (he : Ev X e g l (fun d l' => ∃ j, d = d0 j ∧ l' = l0 j)) (h : ∀ j, PaX X es g (l0 j) (fun ds l' => ∃ i, ds = ds0 j i ∧ l' = l1 j i)) (hs : starEach (e :: es) X.env = (false, eval e X.env) :: starEach es X.env := by rfl) :
    PaX X (e :: es) g l (fun ds l' => ∃ q : ι × ι', ds = d0 q.1 :: ds0 q.1 q.2 ∧ l' = l1 q.1 q.2) := fun en T σ H Q s k => wpA_of (pa_cons pe_wp pa_wp hs) (by
  refine he en T σ H _ s fun v d l' H1 hp s1 => ?_
  obtain ⟨j, e1, e2⟩ := hp
  subst e1; subst e2
  refine h j en _ σ H1 _ s1 fun vs ds' l' H2 hp s2 => ?_
  obtain ⟨i, e1, e2⟩ := hp
  obtain ⟨F, M, a⟩ := s2
  exact k _ _ _ H2 ⟨(j, i), by rw [e1], e2⟩ ⟨F, M, a.tmp ⟨.cons a.tm.2.1 a.tm.1, a.tm.2.2⟩⟩)
/-- a list whose own cells nobody changes, its elements owned -/
theorem ev_lstX (h : PaX X es g l (fun ds l' => ∃ i, ds = dt i ∧ l' = lt1 i)) (hz : ∀ i, (dt i).length ≤ sizeLine := by intro i; exact Nat.le_of_ble_eq_true rfl) : Ev X (.List es pos) g l (fun d l' => ∃ i, d = .lst (dt i) ∧ l' = lt1 i) := fun en T σ H Q s k => wpE_of (pe_lst pa_wp) (by
  refine h en T σ H _ s fun vs ds l' H1 hp s1 => ?_
  obtain ⟨i, e1, e2⟩ := hp
  subst e1
  obtain ⟨F, M, q⟩ := s1
  refine ⟨by rw [q.tm.1.length]; exact hz i, fun p hp => ?_⟩
  have n := New.upd (o := .lst vs) q.exF hp
  exact k _ _ _ _ ⟨i, rfl, e2⟩ ⟨_, M, (q.new n).tmp ⟨.lst upd_same (FdAll.mono n.f _ q.tm.1), T.mono n.f q.tm.2⟩⟩)
end
/-! ### a try, each end walked by itself -/
section
variable {X Y : Cx} {W W' : WX} {g : Gm} {l : List Res} {body rest : List Stmt} {pos : Pos} {β ε V : Type} {Om : β → Po}
/-- behind the body stands the rest -/
abbrev OmT (X : Cx) (W : WX) (rest : List Stmt) (Om : β → Po) : β → Po := fun m => { Om m with nx := fun g' l' => Blk X W rest g' l' (Om m), ex := fun _ _ _ _ => False }
/-- the body raises -/
abbrev OmX (K : PySem.W.Frag) (g : Gm) (l : List Res) (x : Xd) : Unit → Po := fun _ => { nx := fun _ _ => False, rt := fun _ _ => False, bk := fun _ _ => False, ct := fun _ _ => False, ex := fun cls dd g' l' => ∃ lx, XE K x cls dd lx ∧ g' = g ∧ l' = lx ++ l }
end
/-! ### raising among arguments -/
def XA (X : Cx) (W : WX) (es : List Expr) (g : Gm) (l : List Res) (x : Xd) : Prop := ∀ en T σ H (Q : List V → Hp → Prop), S X.K en g T l σ H → (∀ cls dd l' H', (∃ lx, XE X.K x cls dd lx ∧ l' = lx ++ l) → S X.K en g T l' σ H' → W cls dd σ H') → wpA X es σ H Q
section
variable {X : Cx} {W : WX} {g : Gm} {l : List Res} {e o : Expr} {es : List Expr} {d : D} {pos p : Pos} {x : Xd}
end
end Sx
set_option Elab.async false
set_option linter.all false
set_option maxRecDepth 100000
set_option maxHeartbeats 2000000
/-! sorted(t), t a tuple of whole numbers; classes that are handed what they keep. -/
namespace Sx
open PySem PyProof.Rows SrtO
section
variable {prog : Program} {w : World} {A : Around} {E : Value → Shared → Prop} {s : Shared}
end
open L2
def rSortTup (K : PySem.W.Frag) : List V → Hp → VK → Prop := fun vs H Q => ∃ (a : Addr) (ns : List Int), vs = [V.ref a] ∧ SqT K H a (ns.map V.int) ∧ ∀ (ms : List Int) (p : Addr), ms.Perm ns → ms.Pairwise (· ≤ ·) → H p = none → Q (.ref p) (L2.upd H p (.lst (ms.map V.int)))
section
variable {X : Cx} {g : Gm} {l : List Res} {d : D} {p pos : Pos}
end
end Sx
set_option Elab.async false
set_option linter.all false
set_option maxRecDepth 100000
set_option maxHeartbeats 2000000
/-! What is owned, read as if it were frozen, by an expression that changes nothing of it; owned again behind it. -/
namespace Sx
open PySem L2 PyProof.Rows
def minus (F M : Hp) : Hp := fun a => match M a with | some _ => none | none => F a
theorem minus_some {F M : Hp} {a : Addr} {o : HO} (h : minus F M a = some o) : F a = some o ∧ M a = none := by
  unfold minus at h
  cases q : M a with
  | some u => rw [q] at h; cases h
  | none => rw [q] at h; exact ⟨h, rfl⟩
theorem minus_of {F M : Hp} {a : Addr} {o : HO} (h : F a = some o) (n : M a = none) : minus F M a = some o := by
  unfold minus; rw [n]; exact h
def NoT (M : Hp) : Prop := (∀ x xs, M x ≠ some (.tup xs)) ∧ ∀ x o xs, M x ≠ some (.frz o (.tup xs))
def NtR (l : List Res) : Prop := ∀ F M, Rs l F M → ∀ x o xs, M x ≠ some (.frz o (.tup xs))
def Nt1 (r : Res) : Prop := ∀ F M, r.P F M → ∀ x o xs, M x ≠ some (.frz o (.tup xs))
/-- what stays, whatever lists and the like are taken away -/
def Sf (K : PySem.W.Frag) (d : D) : Prop := ∀ F M v, NoT M → Ex M F → Fd K F v d → Fd K (minus F M) v d
def SfR (K : PySem.W.Frag) (l : List Res) : Prop := ∀ F A M, NoT M → Ex M F → Rs l F A → Rs l (minus F M) A
def Sf1 (K : PySem.W.Frag) (r : Res) : Prop := ∀ F A M, NoT M → Ex M F → r.P F A → r.P (minus F M) A
section
variable {K : PySem.W.Frag} {l : List Res}
theorem sf_int {b : Int} : Sf K (.int b) := fun _ _ _ _ _ h => by cases h; exact .int b
theorem sf_str {b : Str} : Sf K (.str b) := fun _ _ _ _ _ h => by cases h; exact .str b
theorem sf_adr {b : Addr} : Sf K (.adr b) := fun _ _ _ _ _ h => by cases h; exact .adr b
theorem sf_all : ∀ {vs : List V} {ds : List D} {F M : Hp}, NoT M → Ex M F → (∀ d ∈ ds, Sf K d) → FdAll K F vs ds → FdAll K (minus F M) vs ds
  | _, _, _, _, _, _, _, .nil => .nil
  | _, _, _, _, n, x, h, .cons a b => .cons (h _ (List.mem_cons_self ..) _ _ _ n x a) (sf_all n x (fun d q => h d (List.mem_cons_of_mem _ q)) b)
theorem sf_fs : ∀ {fs : List (Str × D)} {vs : List (Str × V)} {F M : Hp}, NoT M → Ex M F → (∀ q ∈ fs, Sf K q.2) → FdFs K F vs fs → FdFs K (minus F M) vs fs
  | [], _, _, _, _, _, _, h => by cases h; exact .nil
  | (n, d) :: fs, _, _, _, nt, x, h, q => by
    cases q with
    | cons a b => exact .cons (h _ (List.mem_cons_self ..) _ _ _ nt x a) (sf_fs nt x (fun d q => h d (List.mem_cons_of_mem _ q)) b)
theorem sf_rd {F M : Hp} {a : Addr} {xs : List V} (n : NoT M) (x : Ex M F) (h : Rd F a (.tup xs)) : Rd (minus F M) a (.tup xs) := by
  rcases h with z | ⟨o, z⟩
  · refine .inl (minus_of z ?_)
    cases w : M a with
    | none => rfl
    | some u =>
      have := x a u w
      rw [z] at this
      cases this
      exact absurd w (n.1 a xs)
  · refine .inr ⟨o, minus_of z ?_⟩
    cases w : M a with
    | none => rfl
    | some u =>
      have := x a u w
      rw [z] at this
      cases this
      exact absurd w (n.2 a o xs)
theorem sf_tup {ds : List D} (h : ∀ d ∈ ds, Sf K d) : Sf K (.tup ds) := fun F M v n x q => by
  cases q with
  | tup s a => exact .tup (s.imp (sf_rd n x) id) (sf_all n x h a)
theorem ntr_nil : NtR [] := fun _ M h x o xs e => by
  have h : M = emp := h
  subst h; cases e
theorem ntr_c {r : Res} (h : Nt1 r) (q : NtR l) : NtR (r :: l) := fun F M ⟨A, B, h1, _, h3, h4⟩ x o xs e => by
  subst h1
  rcases join_some e with z | ⟨_, z⟩
  · exact h F A h3 x o xs z
  · exact q F B h4 x o xs z
theorem nt_ownL {p : Addr} {ds : List D} : Nt1 (ownL K p ds) := fun F M ⟨vs, _, m⟩ x o xs e => by
  rw [m] at e; obtain ⟨_, e⟩ := one_some e; cases e
theorem sfr_nil : SfR K [] := fun _ _ _ _ _ h => h
theorem sfr_c {r : Res} (h : Sf1 K r) (q : SfR K l) : SfR K (r :: l) := fun F A M n x ⟨B, C, h1, h2, h3, h4⟩ => ⟨B, C, h1, h2, h F B M n x h3, q F C M n x h4⟩
theorem sf_ownL {p : Addr} {ds : List D} (h : ∀ d ∈ ds, Sf K d) : Sf1 K (ownL K p ds) := fun F A M n x ⟨vs, a, e⟩ => ⟨vs, sf_all n x h a, e⟩
theorem sf_ownI {p C : Addr} {fs : List (Str × D)} (h : ∀ q ∈ fs, Sf K q.2) : Sf1 K (ownI K p C fs) := fun F A M n x ⟨vs, dx, m, a, e⟩ => ⟨vs, dx, m, sf_fs n x h a, e⟩
/-- with what l owns, d is d' -/
def Rdz (K : PySem.W.Frag) (l : List Res) (d d' : D) : Prop := ∀ F M v, Dj F M → Rs l F M → Fd K F v d → Fd K (join F M) v d'
def RdA (K : PySem.W.Frag) (l : List Res) (ds ds' : List D) : Prop := ∀ F M vs, Dj F M → Rs l F M → FdAll K F vs ds → FdAll K (join F M) vs ds'
theorem exl {F M : Hp} : Ex F (join F M) := fun _ _ h => join_l h
theorem exr {F M : Hp} (d : Dj F M) : Ex M (join F M) := fun a o h => by rw [join_r (d.sym a o h)]; exact h
theorem rd_own {k : Nat} {p : Addr} {ds : List D} (h : l[k]? = some (ownL K p ds)) : Rdz K l (.adr p) (.lst ds) := fun F M v dj r f => by
  cases f
  obtain ⟨vs, f, m⟩ := Rs.own r h (Ex.rf (A := M))
  exact .lst (exr dj _ _ m) (FdAll.mono exl _ f)
theorem rda_nil : RdA K l [] [] := fun _ _ _ _ _ h => by cases h; exact .nil
theorem rda_c {d d' : D} {ds ds' : List D} (h : Rdz K l d d') (q : RdA K l ds ds') : RdA K l (d :: ds) (d' :: ds') := fun F M vs dj r f => by
  cases f with
  | cons a b => exact .cons (h F M _ dj r a) (q F M _ dj r b)
theorem rd_lst {ds ds' : List D} (h : RdA K l ds ds') : Rdz K l (.lst ds) (.lst ds') := fun F M v dj r f => by
  cases f with
  | lst s a => exact .lst (join_l s) (h F M _ dj r a)
def RdG (K : PySem.W.Frag) (l : List Res) (g g' : Gm) : Prop := ∀ F M σ, Dj F M → Rs l F M → Sl K F g σ → Sl K (join F M) g' σ
theorem rdg_rf {g : Gm} : RdG K l g g := fun F M σ _ _ h => Sl.mono exl h
theorem Sl.put : ∀ {g : Gm} {σ : L2.St} {F F' : Hp} {i : Nat} {d d' : D}, Ex F F' → Sl K F g σ → Sx.nth g i = some d → (∀ v, Fd K F v d → Fd K F' v d') → Sl K F' (g.set i (some d')) σ
  | _, _, _, _, _, _, _, _, .nil, _, _ => .nil
  | _, _, _, _, 0, _, _, _, .any _, e, _ => by cases e
  | _, _, _, _, i + 1, _, _, x, .any h, e, k => .any (Sl.put x h e k)
  | _, _, _, _, 0, _, _, x, .cons a h, e, k => by cases e; exact .cons (k _ a) (Sl.mono x h)
  | _, _, _, _, i + 1, _, _, x, .cons a h, e, k => .cons (Fd.mono x _ a) (Sl.put x h e k)
theorem Sl.put2 : ∀ {g : Gm} {σ : L2.St} {F : Hp} {i : Nat} {d' : D} {v : V}, Sl K F g σ → σ[i]? = some (some v) → Fd K F v d' → Sl K F (g.set i (some d')) σ
  | _, _, _, _, _, _, .nil, _, _ => .nil
  | _, _, _, 0, _, _, .any h, e, k => by simp at e; subst e; exact .cons k h
  | _, _, _, i + 1, _, _, .any h, e, k => .any (Sl.put2 h (by simpa using e) k)
  | _, _, _, 0, _, _, .cons a h, e, k => by simp at e; subst e; exact .cons k h
  | _, _, _, i + 1, _, _, .cons a h, e, k => .cons a (Sl.put2 h (by simpa using e) k)
theorem rdg_c {g g' : Gm} {i : Nat} {d d' : D} (q : RdG K l g g') (e : Sx.nth g i = some d) (h : Rdz K l d d') : RdG K l g (g'.set i (some d')) := fun F M σ dj r s => by
  obtain ⟨v, h1, h2⟩ := Sl.nth s e
  exact Sl.put2 (q F M σ dj r s) h1 (h F M v dj r h2)
/-- an instance with its fields, frozen -/
theorem rd_ins {k : Nat} {p C : Addr} {fs fs' : List (Str × D)} (h : l[k]? = some (ownI K p C fs)) (hf : ∀ F M vs, Dj F M → Rs l F M → FdFs K F vs fs → FdFs K (join F M) vs fs') : Rdz K l (.adr p) (.ins C fs') := fun F M v dj r f => by
  cases f
  have r0 := r
  obtain ⟨A, B, rfl, d2, ⟨vs, dx, n, f, rfl⟩, _⟩ := Rs.at h r
  exact .ins (exr dj _ _ (join_l (join_l one_same))) (hf F _ vs dj r0 f)
theorem rdf_nil : ∀ F M (vs : List (Str × V)), Dj F M → Rs l F M → FdFs K F vs [] → FdFs K (join F M) vs ([] : List (Str × D)) := fun _ _ _ _ _ h => by cases h; exact .nil
theorem rdf_c {n : Str} {d d' : D} {fs fs' : List (Str × D)} (h : Rdz K l d d') (q : ∀ F M vs, Dj F M → Rs l F M → FdFs K F vs fs → FdFs K (join F M) vs fs') : ∀ F M vs, Dj F M → Rs l F M → FdFs K F vs ((n, d) :: fs) → FdFs K (join F M) vs ((n, d') :: fs') := fun F M vs dj r f => by
  cases f with
  | cons a b => exact .cons (h F M _ dj r a) (q F M _ dj r b)
end
section
variable {X : Cx} {e : Expr} {g g' : Gm} {l : List Res}
theorem px_thaw {Psi : D → List Res → Prop} {d' : D} (hl : NtR l) (hg : RdG X.K l g g') (he : Ev X e g' [] Psi) (hP : ∀ d0 l0, Psi d0 l0 → Sf X.K d0 ∧ SfR X.K l0 ∧ Rdz X.K l0 d0 d') : Px X e g l d' := fun en T σ H Q s k => by
  obtain ⟨F, M, a⟩ := s
  have nt : NoT M := ⟨a.rs.nt, hl F M a.rs⟩
  have s0 : S X.K en g' (T.ex (join F M)) [] σ H := ⟨join F M, emp, {
    exF := Ex.join a.exF a.exM, exM := (fun _ _ h => nomatch h), dj := Dj.emp _, eF := a.eF.tr exl,
    nF := (fun x o h => by
      rcases join_some h with q | ⟨_, q⟩
      · exact a.nF x o q
      · rcases a.nM x o q with w | w
        · exact .inr (.inl w)
        · exact .inr (.inr (.inl w))),
    nM := (fun _ _ h => nomatch h), fr := a.fr, sl := hg F M σ a.dj a.rs a.sl, tm := ⟨Ex.rf, T.mono exl a.tm⟩, rs := rfl }⟩
  refine he en _ σ H _ s0 fun v d0 l0 H1 hp s1 => ?_
  obtain ⟨F1, A, b⟩ := s1
  obtain ⟨fd, ex, tm⟩ := b.tm
  obtain ⟨h1, h2, h3⟩ := hP d0 l0 hp
  have exM : Ex M F1 := (exr a.dj).tr ex
  have exF : Ex F (minus F1 M) := fun x o h => minus_of (ex x o (join_l h)) (a.dj x o h)
  have dA : Dj (minus F1 M) A := fun x o h => b.dj x o (minus_some h).1
  have exN : Ex F (join (minus F1 M) A) := exF.tr exl
  exact k v H1 ⟨join (minus F1 M) A, M, {
    exF := Ex.join (fun x o h => b.exF x o (minus_some h).1) b.exM, exM := exM.tr b.exF,
    dj := (Dj.joinL (fun x o h => (minus_some h).2) (fun x o h => by
      cases w : M x with
      | none => rfl
      | some u => rw [b.dj x u (exM x u w)] at h; cases h)),
    eF := a.eF.tr exN,
    nF := (fun x o h => by
      rcases join_some h with q | ⟨_, q⟩
      · exact b.nF x o (minus_some q).1
      · rcases b.nM x o q with w | w
        · exact .inr (.inl w)
        · exact .inr (.inr (.inl w))),
    nM := a.nM, fr := b.fr, sl := Sl.mono exN a.sl, tm := ⟨h3 _ _ _ dA (h2 _ _ _ nt exM b.rs) (h1 _ _ _ nt exM fd), T.mono exN a.tm⟩, rs := Rs.mono exN a.rs }⟩
theorem ts_thaw {b : Bool} (hg : RdG X.K l g g') (he : Ts X e g' [] b) : Ts X e g l b := fun en T σ H Q s k => by
  obtain ⟨F, M, a⟩ := s
  have s0 : S X.K en g' (T.ex (join F M)) [] σ H := ⟨join F M, emp, {
    exF := Ex.join a.exF a.exM, exM := (fun _ _ h => nomatch h), dj := Dj.emp _, eF := a.eF.tr exl,
    nF := (fun x o h => by
      rcases join_some h with q | ⟨_, q⟩
      · exact a.nF x o q
      · rcases a.nM x o q with w | w
        · exact .inr (.inl w)
        · exact .inr (.inr (.inl w))),
    nM := (fun _ _ h => nomatch h), fr := a.fr, sl := hg F M σ a.dj a.rs a.sl, tm := ⟨Ex.rf, T.mono exl a.tm⟩, rs := rfl }⟩
  refine he en _ σ H _ s0 fun H1 s1 => ?_
  obtain ⟨F1, A, b⟩ := s1
  obtain ⟨ex, tm⟩ := b.tm
  have exM : Ex M F1 := (exr a.dj).tr ex
  have exF : Ex F (minus F1 M) := fun x o h => minus_of (ex x o (join_l h)) (a.dj x o h)
  exact k H1 ⟨minus F1 M, M, {
    exF := (fun x o h => b.exF x o (minus_some h).1), exM := exM.tr b.exF,
    dj := (fun x o h => (minus_some h).2),
    eF := a.eF.tr exF,
    nF := (fun x o q => b.nF x o (minus_some q).1),
    nM := a.nM, fr := b.fr, sl := Sl.mono exF a.sl, tm := T.mono exF a.tm, rs := Rs.mono exF a.rs }⟩
end
end Sx
set_option Elab.async false
set_option linter.all false
set_option maxRecDepth 100000
set_option maxHeartbeats 2000000
/-! The head: what the top has written, told by names. -/
namespace Sx
open PySem L2
def isiB (K : PySem.W.Frag) (C : Addr) : Bool := decide (PySem.W.findIn K (.ref C) "__class__" = some (some (.builtin "object.__class__"))) && (decide (PySem.W.specialIn K (.builtin "object.__class__") "__get__" = some (some (.builtin "getset_descriptor.__get__"))) && (decide (PySem.W.takesIn K (.builtin "object.__class__") = some true) && decide (PySem.W.mroIn K C (.type "object") = some true)))
theorem isiB_ok {K : PySem.W.Frag} {C : Addr} (h : isiB K C = true) : Isi K C := by
  obtain ⟨h1, h⟩ := He.ba h
  obtain ⟨h2, h⟩ := He.ba h
  obtain ⟨h3, h4⟩ := He.ba h
  exact ⟨of_decide_eq_true h1, of_decide_eq_true h2, of_decide_eq_true h3, of_decide_eq_true h4⟩
/-- one more fact -/
inductive Fb where
  | isi (x : Str)
  | kit (x y : Str) (b : Bool)
  | mk0 (x : Str)
  | exc (x : Str)
  | xin (x : Str)
  | kitT (x : Str) (t : String) (b : Bool)
  | exm (x y : Str) (b : Bool)
  | kitN (y : Str)
  | oex (x : Str)
  | xno (x f : Str)
  | rin (x : Str)
def excB (K : PySem.W.Frag) (C : Addr) : Bool := PySem.W.keepIn K (.ref C) && (decide (PySem.W.subIn K (.ref C) (.type "BaseException") = some true) && (decide (PySem.W.typeIn K (.ref C) = some (.type "type")) && (decide (PySem.W.findIn K (.ref C) "__getattribute__" = some (some (.builtin "BaseException.__getattribute__"))) && (decide (PySem.W.findIn K (.ref C) "__getattr__" = some none) && (PySem.W.hasDictIn K C && isiB K C)))))
def oexB (K : PySem.W.Frag) (C : Addr) : Bool := match K.lookup C with
  | some ⟨.type "type", _, .cls cd, sl⟩ => (match cd.mro, sl.toList with
    | .ref C' :: bm, [_, _, _, _, some (.builtin n), _] => C' == C && n == "ValueError.__new__" && !cd.hasDel && cd.hasDict && PySem.HandSPX.refsVE bm
    | _, _ => false)
  | _ => false
def rinB (K : PySem.W.Frag) (R : Addr) : Bool := PySem.W.readsIn K R (.type "type") && ((match PySem.W.findCls K (.ref R) (.type "type") "__init__" with | some (.val (.builtin s)) => s == "ValueError.__init__" | _ => false) && decide (PySem.W.specialIn K (.ref R) "__getattribute__" = some (some (.builtin "type.__getattribute__"))))
def Fb.ok (K : PySem.W.Frag) : Fb → Bool
  | .isi x => isiB K (He.ga K x)
  | .kit x y b => decide (PySem.W.kitOne K (.ref (He.ga K x)) (.ref (He.ga K y)) = some b)
  | .mk0 x => PySem.W.makesIn K (He.ga K x) && decide (PySem.W.findIn K (.ref (He.ga K x)) "__init__" = some (some (.builtin "object.__init__")))
  | .exc x => excB K (He.ga K x)
  | .xin x => PySem.W.excIn K (He.ga K x) vErr "ValueError.__new__"
  | .kitT x t b => decide (PySem.W.kitOne K (.ref (He.ga K x)) (.type t) = some b)
  | .exm x y b => decide (PySem.W.exmOne K (.ref (He.ga K x)) (.ref (He.ga K y)) = some b)
  | .kitN y => decide (PySem.W.kitOne K (.type "NoneType") (.ref (He.ga K y)) = some false)
  | .oex x => oexB K (He.ga K x) && (decide (PySem.W.findIn K (.ref (He.ga K x)) "__setattr__" = some (some (.builtin "object.__setattr__"))) && (decide (PySem.W.subIn K (.ref (He.ga K x)) (.type "BaseException") = some true) && (decide (PySem.W.typeIn K (.ref (He.ga K x)) = some (.type "type")) && (PySem.W.keepIn K (.ref (He.ga K x)) && (decide (PySem.W.findIn K (.ref (He.ga K x)) "__init__" = some (some (.ref (He.ma K (He.ga K x) "__init__")))) && decide (PySem.W.typeIn K (.ref (He.ma K (He.ga K x) "__init__")) = some (.type "function")))))))
  | .xno x f => decide (PySem.W.findIn K (.ref (He.ga K x)) f = some none)
  | .rin x => rinB K (He.ga K x)
def exB (fb : List Fb) (K : PySem.W.Frag) : Bool := fb.all fun f => f.ok K
section
variable {K : PySem.W.Frag} {h : Heap} {mg : Str → Option Value} {fb : List Fb} {w : World} {fa : List He.Fa} {fn : List He.DefD}
theorem fb_at (c : exB fb K = true) (i : Nat) {f : Fb} (h : fb[i]? = some f := by rfl) : f.ok K = true := List.all_eq_true.mp c f (List.mem_of_getElem? h)
theorem kit_ok {x y : Str} {b : Bool} (h : (Fb.kit x y b).ok K = true) : PySem.W.kitOne K (.ref (He.ga K x)) (.ref (He.ga K y)) = some b := of_decide_eq_true h
theorem kitT_ok {x : Str} {t : String} {b : Bool} (h : (Fb.kitT x t b).ok K = true) : PySem.W.kitOne K (.ref (He.ga K x)) (.type t) = some b := of_decide_eq_true h
theorem exm_ok {x y : Str} {b : Bool} (h : (Fb.exm x y b).ok K = true) : PySem.W.exmOne K (.ref (He.ga K x)) (.ref (He.ga K y)) = some b := of_decide_eq_true h
theorem kitN_ok {y : Str} (h : (Fb.kitN y).ok K = true) : PySem.W.kitOne K (.type "NoneType") (.ref (He.ga K y)) = some false := of_decide_eq_true h
/-- an exception class with an own __init__ -/
def Dxin (K : PySem.W.Frag) (mg : Str → Option Value) (x : Str) (C : Addr) (qual : Str) (st : Stmt) : Prop := ∃ f fd, Fun K "__init__" qual st f fd ∧ Dxi K mg x C f
theorem xin_ok {x : Str} (h : (Fb.xin x).ok K = true) : PySem.W.excIn K (He.ga K x) vErr "ValueError.__new__" = true := h
theorem dxc_ok {x : Str} (h : (Fb.exc x).ok K = true) (hm : mg x = some (.ref (He.ga K x))) : Dxc K mg x (He.ga K x) := by
  obtain ⟨h1, h⟩ := He.ba h
  obtain ⟨h2, h⟩ := He.ba h
  obtain ⟨h3, h⟩ := He.ba h
  obtain ⟨h4, h⟩ := He.ba h
  obtain ⟨h5, h⟩ := He.ba h
  obtain ⟨h6, h7⟩ := He.ba h
  have i := isiB_ok h7
  exact ⟨hm, h1, of_decide_eq_true h2, of_decide_eq_true h3, ⟨of_decide_eq_true h4, of_decide_eq_true h5, of_decide_eq_true h2, h6, i.1, i.2, i.3, i.4⟩⟩
theorem fun_of {x qual : Str} {st : Stmt} {f : Addr} {fd : FuncData} (F : FunD K x qual (defArgs st) (defBody st) (defScope st) [] [] f fd) : Fun K x qual st f fd := by
  obtain ⟨oc, od, dV, kV, doc, pm, an, cdv, ct, osl, e, lk, hcd, hD, hK⟩ := F.ex
  rcases hD with ⟨_, rfl⟩ | ⟨z, _⟩
  · exact ⟨⟨oc, od, kV, doc, pm, an, cdv, ct, osl, e, lk, hcd⟩, F.kp⟩
  · exact absurd rfl z
abbrev dD (x : Str) (st : Stmt) : He.DefD := ⟨(x, none), x, x, defArgs st, defBody st, defScope st, [], []⟩
abbrev dM (C m qual : Str) (st : Stmt) : He.DefD := ⟨(C, some m), m, qual, defArgs st, defBody st, defScope st, [], []⟩
theorem dfn_of {x : Str} {st : Stmt} (c : He.SaysD fa fn K) (G : mg x = some (.ref (He.ga K x))) (i : Nat) (e : fn[i]? = some (dD x st) := by rfl) : Dfn K mg x st := by
  obtain ⟨fd, F⟩ := c.def_ i e
  exact ⟨_, fd, fun_of F, G⟩
theorem dmt_of {C m qual : Str} {st : Stmt} (c : He.SaysD fa fn K) (M : Meth K (He.ga K C) m (He.ma K (He.ga K C) m)) (i : Nat) (e : fn[i]? = some (dM C m qual st) := by rfl) : Dmt K (He.ga K C) m qual st := by
  obtain ⟨fd, F⟩ := c.def_ i e
  exact ⟨_, fd, fun_of F, M⟩
theorem din_of {C qual : Str} {st : Stmt} (c : He.SaysD fa fn K) (M : Mk K (He.ga K C) (He.ma K (He.ga K C) "__init__")) (i : Nat) (e : fn[i]? = some (dM C "__init__" qual st) := by rfl) : Din K (He.ga K C) qual st := by
  obtain ⟨fd, F⟩ := c.def_ i e
  exact ⟨_, fd, fun_of F, M⟩
end
/-! the hook: what the names reach in n steps, and the interpreter's statics -/
def asY (n : Nat) (g : Addr → Option Obj) : List Addr := He.asD g n ++ [cStatics]
abbrev kY (n : Nat) (g : Addr → Option Obj) : PySem.W.Frag := He.frT g (asY n g)
abbrev AlY : Type := He.AlT × Bool
def obsY (n : Nat) (fa : List He.Fa) (fn : List He.DefD) (ex : PySem.W.Frag → Bool) (g : Addr → Option Obj) : AlY := (He.obsT fa fn [] (kY n g), ex (kY n g))
theorem saysY {n : Nat} {fa : List He.Fa} {fn : List He.DefD} {ex : PySem.W.Frag → Bool} {w : World} {h : Heap} (e : obsY n fa fn ex h.get? = (He.valT fn [] w, true)) : He.SaysX fa fn [] [] ex w h (kY n h.get?) :=
  ⟨congrArg (fun z : AlY => z.1) e, congrArg (fun z : AlY => z.2) e, fun _ q => (by cases q), fun _ q => (by cases q), fun _ q => (by cases q)⟩
def hookY (n : Nat) (fa : List He.Fa) (fn : List He.DefD) (ex : PySem.W.Frag → Bool) : PySem.W.Hook where
  α := AlY
  obs := fun s => obsY n fa fn ex s.heap.get?
  val := fun w => (He.valT fn [] w, true)
  says := fun w h => ∃ K : PySem.W.Frag, K.In h ∧ He.SaysX fa fn [] [] ex w h K
  of := fun _ _ e => ⟨_, He.frT_in, saysY e⟩
  keeps := fun _ _ _ ⟨K, hK, c⟩ k => ⟨K, PySem.W.Frag.In.keeps hK k, ⟨c.t, c.more, c.hd, c.out, fun _ q => (by cases q)⟩⟩
theorem obsY_eq {n : Nat} {fa : List He.Fa} {fn : List He.DefD} {ex : PySem.W.Frag → Bool} {g : Addr → Option Obj} {s : Shared} (h : ∀ a, g a = s.heap.get? a) : obsY n fa fn ex g = (hookY n fa fn ex).obs s := by
  have e : g = s.heap.get? := funext h
  rw [e] <;> rfl
end Sx
set_option Elab.async false
set_option linter.all false
set_option maxRecDepth 100000
set_option maxHeartbeats 4000000
namespace Lw
open PySem L2 Sx
/-! ### plain: names, roads, nets -/
theorem szS {n : Nat} (h : n ≤ 10000) : n ≤ sizeLine := Nat.le_trans h (by decide)
abbrev small : Str := "abcdefghijklmnopqrstuvwxyz"
theorem small_tl : TL.tl small = (List.range 26).map fun i => 97 + i := by decide +kernel
theorem small_in {c : Nat} : c ∈ TL.tl small ↔ 97 ≤ c ∧ c ≤ 122 := by
  rw [small_tl, List.mem_map]
  constructor
  · rintro ⟨i, hi, rfl⟩
    have := List.mem_range.mp hi
    omega
  · intro h
    exact ⟨c - 97, List.mem_range.mpr (by omega), by omega⟩
structure OkN (x : Str) : Prop where
  lo : 1 ≤ x.length
  hi : x.length ≤ 8
  sg : ∀ c ∈ TL.tl x, 97 ≤ c ∧ c ≤ 122
def nameB (x : Str) : Bool := decide (1 ≤ (x.length : Int)) && decide ((x.length : Int) ≤ 8) && ((TL.tl x).map fun c => decide (c ∈ TL.tl small)).all id
theorem nameB_iff {x : Str} : nameB x = true ↔ OkN x := by
  unfold nameB
  rw [Bool.and_eq_true, Bool.and_eq_true, decide_eq_true_iff, decide_eq_true_iff, List.all_map, List.all_eq_true]
  constructor
  · rintro ⟨⟨h1, h2⟩, h3⟩
    exact ⟨by omega, by omega, fun c hc => small_in.mp (of_decide_eq_true (h3 c hc))⟩
  · intro h
    exact ⟨⟨by have := h.lo; omega, by have := h.hi; omega⟩, fun c hc => decide_eq_true (small_in.mpr (h.sg c hc))⟩
theorem OkN.str {x : Str} (h : OkN x) : PySem.PyData.strOk x = true := by
  show x.cps.all (fun c => decide (c < 0x110000)) = true
  rw [← Array.all_toList]
  refine List.all_eq_true.mpr fun c hc => decide_eq_true ?_
  have := h.sg c hc
  omega
structure OkH (hs : List Str) : Prop where
  ok : ∀ h ∈ hs, OkN h
  nd : hs.Nodup
  le : hs.length ≤ 12
abbrev Road := Str × Str × Int × Int
structure OkR (hs : List Str) (r : Road) : Prop where
  b : r.1 ∈ hs
  e : r.2.1 ∈ hs
  ne : r.1 ≠ r.2.1
  t : 1 ≤ r.2.2.1 ∧ r.2.2.1 ≤ 9
  w : 1 ≤ r.2.2.2 ∧ r.2.2.2 ≤ 1000000000
structure OkG (n : List Str × List Road) : Prop where
  h : OkH n.1
  r : ∀ r ∈ n.2, OkR n.1 r
  le : n.2.length ≤ 40
def roadD (r : Road) : D := .tup [.str r.1, .str r.2.1, .int r.2.2.1, .int r.2.2.2]
abbrev housesD (hs : List Str) : List D := hs.map .str
abbrev roadsD (rs : List Road) : List D := rs.map roadD
theorem mem_take_nodup {hs : List Str} {i : Nat} {x : Str} (nd : hs.Nodup) (h : hs[i]? = some x) : x ∉ hs.take i := by
  intro hm
  obtain ⟨j, hj⟩ := List.getElem?_of_mem hm
  rw [List.getElem?_take] at hj
  split at hj
  · rename_i hlt
    have h1 := List.getElem?_eq_some_iff.mp h
    have h2 := List.getElem?_eq_some_iff.mp hj
    obtain ⟨l1, e1⟩ := h1
    obtain ⟨l2, e2⟩ := h2
    have := (List.nodup_iff_pairwise_ne.mp nd)
    have p := List.pairwise_iff_getElem.mp this j i l2 l1 hlt
    exact p (e2.trans e1.symm)
  · cases hj
theorem tl_cutS (z : Str) (lo hi : Option Int) : TL.tl (cutS z lo hi) = cut (TL.tl z) lo hi := by
  unfold cutS cut
  show List.take _ (List.drop _ (TL.tl z)) = _
  rw [TL.len_tl]

end Lw
set_option Elab.async false
set_option linter.all false
set_option maxRecDepth 100000
set_option maxHeartbeats 4000000
namespace Lw
open PySem L2 Sx
def top (i : Nat) : Stmt := PySem.Challenge.pw_postroad_k01_a_net.main.body.getD i (.Pass ⟨0, 0, 0, 0⟩)
abbrev s_wall : Stmt := top 0
abbrev s_is_whole : Stmt := top 11
abbrev s_is_name : Stmt := top 12
abbrev s_are_houses : Stmt := top 13
abbrev s_is_road : Stmt := top 14
abbrev s_law_at : Stmt := top 17
abbrev s_law_word : Stmt := top 18
abbrev s_law_houses : Stmt := top 19
abbrev s_law_roads : Stmt := top 20
abbrev s_law_refused : Stmt := top 21
abbrev s_law_told : Stmt := top 22
abbrev s_law : Stmt := top 23
abbrev s_Net_init : Stmt := inClass (top 15) 0
abbrev s_Net_houses : Stmt := inClass (top 15) 1
abbrev s_Net_roads : Stmt := inClass (top 15) 2
abbrev s_Net_road : Stmt := inClass (top 15) 3
abbrev s_Net_known : Stmt := inClass (top 15) 4
abbrev s_Net_out_of : Stmt := inClass (top 15) 5
abbrev s_Net_into : Stmt := inClass (top 15) 6
abbrev s_Net_far : Stmt := inClass (top 15) 7
abbrev ns_wall : List Str := ["k"]
abbrev ns_is_whole : List Str := ["thing", "least", "greatest"]
theorem cs_is_whole : FnScope ns_is_whole ["thing", "least", "greatest"] (defScope s_is_whole) := ⟨rfl, rfl, rfl, by decide +kernel, rfl, by decide +kernel, by decide +kernel⟩
abbrev ns_is_name : List Str := ["thing", "sign"]
theorem cs_is_name : FnScope ns_is_name ["thing"] (defScope s_is_name) := ⟨rfl, rfl, rfl, by decide +kernel, rfl, by decide +kernel, by decide +kernel⟩
abbrev ns_are_houses : List Str := ["thing", "at", "name"]
theorem cs_are_houses : FnScope ns_are_houses ["thing"] (defScope s_are_houses) := ⟨rfl, rfl, rfl, by decide +kernel, rfl, by decide +kernel, by decide +kernel⟩
abbrev ns_is_road : List Str := ["thing", "names", "end"]
theorem cs_is_road : FnScope ns_is_road ["thing", "names"] (defScope s_is_road) := ⟨rfl, rfl, rfl, by decide +kernel, rfl, by decide +kernel, by decide +kernel⟩
abbrev ns_law_at : List Str := ["_law_script", "_law_k"]
theorem cs_law_at : FnScope ns_law_at ["_law_script", "_law_k"] (defScope s_law_at) := ⟨rfl, rfl, rfl, by decide +kernel, rfl, by decide +kernel, by decide +kernel⟩
abbrev ns_law_word : List Str := ["_law_cell", "_law_n", "_law_size", "_law_word_here", "_law_k"]
theorem cs_law_word : FnScope ns_law_word ["_law_cell"] (defScope s_law_word) := ⟨rfl, rfl, rfl, by decide +kernel, rfl, by decide +kernel, by decide +kernel⟩
abbrev ns_law_houses : List Str := ["_law_cell", "_law_many", "_law_word_here", "_law_at_here", "_law_letter"]
theorem cs_law_houses : FnScope ns_law_houses ["_law_cell", "_law_many"] (defScope s_law_houses) := ⟨rfl, rfl, rfl, by decide +kernel, rfl, by decide +kernel, by decide +kernel⟩
abbrev ns_law_roads : List Str := ["_law_cells", "_law_houses_here", "_law_long", "_law_roads_here", "_law_cell", "_law_n", "_law_begin", "_law_end", "_law_room"]
theorem cs_law_roads : FnScope ns_law_roads ["_law_cells", "_law_houses_here", "_law_long"] (defScope s_law_roads) := ⟨rfl, rfl, rfl, by decide +kernel, rfl, by decide +kernel, by decide +kernel⟩
abbrev ns_law_refused : List Str := ["_law_net", "_law_number", "_law_kept", "e"]
theorem cs_law_refused : FnScope ns_law_refused ["_law_net", "_law_number"] (defScope s_law_refused) := ⟨rfl, rfl, rfl, by decide +kernel, rfl, by decide +kernel, by decide +kernel⟩
abbrev ns_law_told : List Str := ["_law_net", "_law_houses_here", "_law_roads_here", "_law_some", "_law_others", "_law_number"]
theorem cs_law_told : FnScope ns_law_told ["_law_net", "_law_houses_here", "_law_roads_here"] (defScope s_law_told) := ⟨rfl, rfl, rfl, by decide +kernel, rfl, by decide +kernel, by decide +kernel⟩
abbrev ns_law : List Str := ["_law_script", "_law_houses_here", "_law_roads_here", "_law_handed", "_law_net", "_law_other", "_law_far", "_law_number"]
theorem cs_law : FnScope ns_law ["_law_script"] (defScope s_law) := ⟨rfl, rfl, rfl, by decide +kernel, rfl, by decide +kernel, by decide +kernel⟩
abbrev ns_Net_init : List Str := ["self", "houses", "roads", "one"]
theorem cs_Net_init : FnScope ns_Net_init ["self", "houses", "roads"] (defScope s_Net_init) := ⟨rfl, rfl, rfl, by decide +kernel, rfl, by decide +kernel, by decide +kernel⟩
abbrev ns_Net_houses : List Str := ["self"]
theorem cs_Net_houses : FnScope ns_Net_houses ["self"] (defScope s_Net_houses) := ⟨rfl, rfl, rfl, by decide +kernel, rfl, by decide +kernel, by decide +kernel⟩
abbrev ns_Net_roads : List Str := ["self"]
theorem cs_Net_roads : FnScope ns_Net_roads ["self"] (defScope s_Net_roads) := ⟨rfl, rfl, rfl, by decide +kernel, rfl, by decide +kernel, by decide +kernel⟩
abbrev ns_Net_road : List Str := ["self", "number"]
theorem cs_Net_road : FnScope ns_Net_road ["self", "number"] (defScope s_Net_road) := ⟨rfl, rfl, rfl, by decide +kernel, rfl, by decide +kernel, by decide +kernel⟩
abbrev ns_Net_known : List Str := ["self", "house"]
abbrev ns_Net_out_of : List Str := ["self", "house"]
abbrev ns_Net_into : List Str := ["self", "house"]
abbrev ns_Net_far : List Str := ["self", "house", "goal"]
structure Cs where
  (RoadError NoNet NoRoad Net : Addr)
structure Top (K : PySem.W.Frag) (mg : Str → Option Value) (c : Cs) : Prop where
  z_ValueError : mg "ValueError" = none
  z_all : mg "all" = none
  z_enumerate : mg "enumerate" = none
  z_range : mg "range" = none
  z_isinstance : mg "isinstance" = none
  z_int : mg "int" = none
  z_list : mg "list" = none
  z_len : mg "len" = none
  z_bool : mg "bool" = none
  z_str : mg "str" = none
  z_tuple : mg "tuple" = none
  d_wall : Dfn K mg "_wall" s_wall
  d_is_whole : Dfn K mg "is_whole" s_is_whole
  d_is_name : Dfn K mg "is_name" s_is_name
  d_are_houses : Dfn K mg "are_houses" s_are_houses
  d_is_road : Dfn K mg "is_road" s_is_road
  d_law_at : Dfn K mg "_law_at" s_law_at
  d_law_word : Dfn K mg "_law_word" s_law_word
  d_law_houses : Dfn K mg "_law_houses" s_law_houses
  d_law_roads : Dfn K mg "_law_roads" s_law_roads
  d_law_refused : Dfn K mg "_law_refused" s_law_refused
  d_law_told : Dfn K mg "_law_told" s_law_told
  d_law : Dfn K mg "law" s_law
  k_SMALL : ∃ t, mg "SMALL" = some (.str "abcdefghijklmnopqrstuvwxyz" t)
  k_MOST_HOUSES : ∃ t, mg "MOST_HOUSES" = some (.int 12 t)
  k_MOST_ROADS : ∃ t, mg "MOST_ROADS" = some (.int 40 t)
  k_LONGEST : ∃ t, mg "LONGEST" = some (.int 9 t)
  k_WIDEST : ∃ t, mg "WIDEST" = some (.int 1000000000 t)
  c_Net : Dcl K mg "Net" c.Net
  i_Net : Isi K c.Net
  d_Net_init : Din K c.Net "Net.__init__" s_Net_init
  d_Net_houses : Dmt K c.Net "houses" "Net.houses" s_Net_houses
  d_Net_roads : Dmt K c.Net "roads" "Net.roads" s_Net_roads
  d_Net_road : Dmt K c.Net "road" "Net.road" s_Net_road
  d_Net_known : Dmt K c.Net "known" "Net.known" s_Net_known
  d_Net_out_of : Dmt K c.Net "out_of" "Net.out_of" s_Net_out_of
  d_Net_into : Dmt K c.Net "into" "Net.into" s_Net_into
  d_Net_far : Dmt K c.Net "far" "Net.far" s_Net_far
  n_Net_names : NoAttr K c.Net "names"
  n_Net_lines : NoAttr K c.Net "lines"
  x_RoadError : Dxc K mg "RoadError" c.RoadError
  xi_RoadError : PySem.W.excIn K c.RoadError vErr "ValueError.__new__" = true
  x_NoNet : Dxc K mg "NoNet" c.NoNet
  xi_NoNet : PySem.W.excIn K c.NoNet vErr "ValueError.__new__" = true
  x_NoRoad : Dxc K mg "NoRoad" c.NoRoad
  xi_NoRoad : PySem.W.excIn K c.NoRoad vErr "ValueError.__new__" = true
  xm_NoNet_RoadError : PySem.W.exmOne K (.ref c.NoNet) (.ref c.RoadError) = some true
  xk_NoNet_NoRoad : PySem.W.kitOne K (.ref c.NoNet) (.ref c.NoRoad) = some false
  xv_NoNet : PySem.W.kitOne K (.ref c.NoNet) (.type "ValueError") = some true
  xm_NoRoad_RoadError : PySem.W.exmOne K (.ref c.NoRoad) (.ref c.RoadError) = some true
  xk_NoRoad_NoRoad : PySem.W.kitOne K (.ref c.NoRoad) (.ref c.NoRoad) = some true
  xv_NoRoad : PySem.W.kitOne K (.ref c.NoRoad) (.type "ValueError") = some true
  xn_NoRoad : PySem.W.kitOne K (.type "NoneType") (.ref c.NoRoad) = some false
/-! ### the walk: names, roads, nets -/
section
variable {P : Program} {w : World} {K : PySem.W.Frag} {mg : Str → Option Value} {base : Heap} {c : Cs}
abbrev netD (c : Cs) (n : List Str × List Road) : D := .ins c.Net [("names", .lst (housesD n.1)), ("lines", .lst (roadsD n.2))]
theorem g_is_whole (T : Top K mg c) : Glo P w K mg base 1 "is_whole" ["thing", "least", "greatest"] (Pu K (fun _ : Int × Int × Int => True) (fun a => [.int a.1, .int a.2.1, .int a.2.2]) (fun a => .bl (decide (a.2.1 ≤ a.1) && decide (a.1 ≤ a.2.2)))) :=
  glo_of T.d_is_whole (fun _ _ _ _ _ _ us hl => match us, hl with | [_, _, _], _ => rfl) fun f fd F => fn_ok F cs_is_whole (fun _ => rfl) fun cdv A outer s H E a hr hok => by
    obtain ⟨t, lo, hi⟩ := a
    exact blk_ret (px_and (k := true) (px_isT "int" "int" true T.z_isinstance T.z_int (px_var (pv 0) rfl)) fun _ => px_and (k := true) (px_not (px_isT "bool" "int" false T.z_isinstance T.z_bool (px_var (pv 0) rfl))) fun _ => px_one (px_chain op_le op_le (px_var (pv 1) rfl) (px_var (pv 0) rfl) o_le (px_var (pv 2) rfl) (fun _ => o_le))) ⟨rfl, rfl⟩
theorem g_is_name (T : Top K mg c) : Glo P w K mg base 1 "is_name" ["thing"] (Pu K (fun x : Str => x.length ≤ 10000) (fun x => [.str x]) (fun x => .bl (nameB x))) :=
  glo_of T.d_is_name (fun _ _ _ _ _ _ us hl => match us, hl with | [_], _ => rfl) fun f fd F => fn_ok F cs_is_name (fun _ => rfl) fun cdv A outer s H E a hr hok => by
    have nd := cs_is_name.nd
    have hl : a.length ≤ 10000 := hok
    refine blk_if (ts_w (tw_or (k := false) (ts_not (ts_val (k := true) (px_isT "str" "str" true T.z_isinstance T.z_str (px_var (pv 0) rfl)))) fun _ => tw_or1 (ts_not (ts_chain op_le op_le px_int (px_bi call_len_str T.z_len (pa_c (px_var (pv 0) rfl) pa_n) (o_lenS (szS hl))) o_le px_int (fun _ => o_le))))) (fun h => ?_) (fun h => ?_)
    · refine blk_ret px_bl ⟨?_, rfl⟩
      have h : (!(decide (1 ≤ (a.length : Int)) && decide ((a.length : Int) ≤ 8))) = true := h
      show D.bl false = D.bl (nameB a)
      unfold nameB
      rw [Bool.not_eq_true'] at h
      rw [h]
      rfl
    · have h : (!(decide (1 ≤ (a.length : Int)) && decide ((a.length : Int) ≤ 8))) = false := h
      refine blk_nil (blk_ret (px_bi (cr_all rfl) T.z_all (pa_c (px_lc (own := [("sign", 1)]) (is := [1]) (rs := ((TL.tl a).map fun c => decide (c ∈ TL.tl small)).map .bl) rfl nd (it_str (px_var (pv 0) rfl)) (blkOk_by (N := ns_is_name) (sc := defScope s_is_name) (by decide +kernel)) (fun _ _ _ _ _ => pg_name (i := 1) nd rfl (.inl rfl)) (by decide) ?c1 ?c2 ?c3) pa_n) (o_all .f)) ⟨?c4, rfl⟩)
      case c1 => unfold signs; simp
      case c2 => rw [List.length_map, List.length_map, ← TL.len_tl]; exact szS hl
      case c3 =>
        intro i d hd
        unfold signs at hd
        rw [List.getElem?_map] at hd
        cases e : (TL.tl a)[i]? with
        | none => rw [e] at hd; cases hd
        | some ch =>
          rw [e] at hd
          cases hd
          refine ⟨_, .bl (decide (ch ∈ TL.tl small)), tg_name, by rw [List.getElem?_map, List.getElem?_map, e]; rfl, fun _ _ _ _ _ => ?_⟩
          exact px_cmp op_in_sign (px_var (pv 1) rfl) (px_gs T.k_SMALL) o_inX
      case c4 =>
        show _ = D.bl (nameB a)
        unfold nameB
        rw [Bool.not_eq_false'] at h
        rw [h]
        rfl
theorem g_are_houses (T : Top K mg c) : Glo P w K mg base 2 "are_houses" ["thing"] (Pu K (fun hs : List Str => OkH hs) (fun hs => [.lst (housesD hs)]) (fun _ => .bl true)) :=
  glo_of T.d_are_houses (fun _ _ _ _ _ _ us hl => match us, hl with | [_], _ => rfl) fun f fd F => fn_ok F cs_are_houses (fun _ => rfl) fun cdv A outer s H E hs hr hok => by
    have nd := cs_are_houses.nd
    have ok : OkH hs := hok
    refine blk_if (k := false) ((ts_w (tw_or (k := false) (ts_not (ts_val (k := true) (px_isT "list" "list" true T.z_isinstance T.z_list (px_var (pv 0) rfl)))) fun _ => tw_or1 (ts_cmp op_gt (px_bi call_len_seq T.z_len (pa_c (px_var (pv 0) rfl) pa_n) o_lenL) (px_gi T.k_MOST_HOUSES) o_gt))).to ?_) (fun h => by cases h) (fun _ => blk_nil ?_)
    · rw [List.length_map]
      have := ok.le
      exact decide_eq_false (by omega)
    refine blk_for (is := [1, 2]) (fun i g l => (∃ o o2, g = [some (.lst (housesD hs)), o, o2]) ∧ l = []) PassesOwn.never rfl (it_enum (px_var (pv 0) rfl) T.z_enumerate) (pg_tup rfl (pgs_cons (pg_name (i := 1) nd rfl (.inl rfl)) (pgs_cons (pg_name (i := 2) nd rfl (.inl rfl)) pgs_nil))) ⟨⟨none, none, rfl⟩, rfl⟩ (fun i d g l hd hI => ?_) (fun g l hI => ?_)
    · obtain ⟨⟨o, o2, rfl⟩, rfl⟩ := hI
      obtain ⟨d', hd', rfl⟩ := enumD_get hd
      obtain ⟨x, hx, rfl⟩ : ∃ x, hs[i]? = some x ∧ d' = .str x := by
        rw [List.getElem?_map] at hd'
        cases e : hs[i]? with
        | none => rw [e] at hd'; cases hd'
        | some x => rw [e] at hd'; cases hd'; exact ⟨x, rfl, rfl⟩
      have okx := ok.ok x (List.mem_of_getElem? hx)
      refine ⟨_, tg_tup rfl rfl, ?_⟩
      refine blk_if (k := false) ((ts_w (tw_or (k := false) ((ts_not (ts_val (px_call (g_is_name T) hr (by decide) x (Nat.le_trans okx.hi (by decide)) (pa_c (px_var (pv 2) rfl) pa_n)))).to (by rw [nameB_iff.mpr okx]; rfl)) fun _ => tw_or1 (ts_cmp op_in_seq (px_var (pv 2) rfl) ((px_slL (px_var (pv 0) rfl) .f pz_n (pz_s (px_var (pv 1) rfl))).to (d1 := .lst ((hs.take i).map .str)) ?_) (o_inS (.inl rfl))))).to ?_) (fun h => by cases h) (fun _ => blk_nil (blk_nil ⟨⟨_, _, rfl⟩, rfl⟩))
      · rw [cut_take (by omega), List.map_take]
        rfl
      · exact decide_eq_false (mem_take_nodup ok.nd hx)
    · obtain ⟨⟨o, o2, rfl⟩, rfl⟩ := hI
      exact blk_ret px_bl ⟨rfl, rfl⟩
theorem g_is_road (T : Top K mg c) : Glo P w K mg base 2 "is_road" ["thing", "names"] (Pu K (fun a : Road × List Str => OkH a.2 ∧ OkR a.2 a.1) (fun a => [roadD a.1, .lst (housesD a.2)]) (fun _ => .bl true)) :=
  glo_of T.d_is_road (fun _ _ _ _ _ _ us hl => match us, hl with | [_, _], _ => rfl) fun f fd F => fn_ok F cs_is_road (fun _ => rfl) fun cdv A outer s H E a hr hok => by
    have nd := cs_is_road.nd
    obtain ⟨⟨b, e, t, m⟩, hs⟩ := a
    obtain ⟨oh, orr⟩ : OkH hs ∧ OkR hs (b, e, t, m) := hok
    refine blk_if (k := false) (ts_w (tw_or (k := false) (ts_not (ts_val (k := true) (px_isT "tuple" "tuple" true T.z_isinstance T.z_tuple (px_var (pv 0) rfl)))) fun _ => tw_or1 (ts_cmp op_ne (px_bi call_len_seq T.z_len (pa_c (px_var (pv 0) rfl) pa_n) o_lenT) px_int o_neI))) (fun h => by cases h) (fun _ => blk_nil ?_)
    refine blk_for (is := [2]) (ds := [.str b, .str e]) (fun i g l => (∃ o, g = [some (roadD (b, e, t, m)), some (.lst (housesD hs)), o]) ∧ l = []) PassesOwn.never rfl (it_tup (px_slT (ds := [.str b, .str e, .int t, .int m]) (i := none) (j := some 2) (px_var (pv 0) rfl) pz_n (pz_s px_int))) (pg_name (i := 2) nd rfl (.inl rfl)) ⟨⟨none, rfl⟩, rfl⟩ (fun i d g l hd hI => ?_) (fun g l hI => ?_)
    · obtain ⟨⟨o, rfl⟩, rfl⟩ := hI
      obtain ⟨x, hx, rfl⟩ : ∃ x, x ∈ hs ∧ d = .str x := by
        have hm := List.mem_of_getElem? hd
        simp only [List.mem_cons, List.not_mem_nil, or_false] at hm
        rcases hm with rfl | rfl
        · exact ⟨_, orr.b, rfl⟩
        · exact ⟨_, orr.e, rfl⟩
      have okx := oh.ok x hx
      refine ⟨_, tg_name, ?_⟩
      refine blk_if (k := false) ((ts_w (tw_or (k := false) ((ts_not (ts_val (px_call (g_is_name T) hr (by decide) x (Nat.le_trans okx.hi (by decide)) (pa_c (px_var (pv 2) rfl) pa_n)))).to (by rw [nameB_iff.mpr okx]; rfl)) fun _ => tw_or1 (ts_cmp op_notIn_seq (px_var (pv 2) rfl) (px_var (pv 1) rfl) (o_ninS (xs := hs) (.inl rfl))))).to ?_) (fun h => by cases h) (fun _ => blk_nil (blk_nil ⟨⟨_, rfl⟩, rfl⟩))
      rw [decide_eq_true hx]
      rfl
    · obtain ⟨⟨o, rfl⟩, rfl⟩ := hI
      refine blk_ret (px_and (k := true) (k' := true) ((px_cmp op_ne (px_ix ix_tup (px_var (pv 0) rfl) px_int (o_ixT (d := .str b) rfl)) (px_ix ix_tup (px_var (pv 0) rfl) px_int (o_ixT (d := .str e) rfl)) o_neS).to ?_) fun _ => px_and (k := true) (k' := true) (Px.to (px_call (g_is_whole T) hr (by decide) (t, 1, 9) trivial (pa_c (px_ix ix_tup (px_var (pv 0) rfl) px_int (o_ixT (d := .int t) rfl)) (pa_c px_int (pa_c (px_gi T.k_LONGEST) pa_n)))) ?_) fun _ => px_one (Px.to (px_call (g_is_whole T) hr (by decide) (m, 1, 1000000000) trivial (pa_c (px_ix ix_tup (px_var (pv 0) rfl) px_int (o_ixT (d := .int m) rfl)) (pa_c px_int (pa_c (px_gi T.k_WIDEST) pa_n)))) ?_)) ⟨rfl, rfl⟩
      · have : ¬ b = e := orr.ne
        rw [decide_eq_false this]
        rfl
      · show D.bl (decide (1 ≤ t) && decide (t ≤ 9)) = _
        have := orr.t
        rw [decide_eq_true this.1, decide_eq_true this.2]
        rfl
      · show D.bl (decide (1 ≤ m) && decide (m ≤ 1000000000)) = _
        have := orr.w
        rw [decide_eq_true this.1, decide_eq_true this.2]
        rfl
theorem ne_nl : ¬ (("names" : Str) = "lines") := by decide +kernel
theorem g_Net (T : Top K mg c) : GloC P w K mg base 3 c.Net "Net" ["self", "houses", "roads"] (FnX K (fun a : Addr × List Str × List Road => OkG a.2) (fun a => [.adr a.1, .lst (housesD a.2.1), .lst (roadsD a.2.2)]) (fun a => [ownI K a.1 c.Net []]) (fun a d l => d = .non ∧ l = [ownI K a.1 c.Net [("names", .lst (housesD a.2.1)), ("lines", .lst (roadsD a.2.2))]]) noE) :=
  gloc_of T.d_Net_init T.c_Net (fun _ _ _ _ _ _ us hl => match us, hl with | [_, _, _], _ => rfl) fun f fd F => fn_ok F cs_Net_init (fun _ => rfl) fun cdv A outer s H E a hr hok => by
    have nd := cs_Net_init.nd
    obtain ⟨q, hs, rs⟩ := a
    have ok : OkG (hs, rs) := hok
    refine blk_if (k := false) ((ts_w (tw_or (k := false) (ts_not (ts_val (k := true) (px_call (g_are_houses T) hr (by decide) hs ok.h (pa_c (px_var (pv 1) rfl) pa_n)))) fun _ => tw_or (k := false) (ts_not (ts_val (k := true) (px_isT "list" "list" true T.z_isinstance T.z_list (px_var (pv 2) rfl)))) fun _ => tw_or1 (ts_cmp op_gt (px_bi call_len_seq T.z_len (pa_c (px_var (pv 2) rfl) pa_n) o_lenL) (px_gi T.k_MOST_ROADS) o_gt))).to ?_) (fun h => by cases h) (fun _ => blk_nil ?_)
    · rw [List.length_map]
      have : rs.length ≤ 40 := ok.le
      exact decide_eq_false (by show ¬ ((40 : Int) < (rs.length : Int)); omega)
    refine blk_if (k := false) (ts_not (ts_val (k := true) (px_bi (cr_all rfl) T.z_all (pa_c (px_lc (own := [("one", 3)]) (is := [3]) (rs := (rs.map fun _ => true).map .bl) rfl nd (it_list (px_var (pv 2) rfl)) (blkOk_by (N := ns_Net_init) (sc := defScope s_Net_init) (by decide +kernel)) (fun _ _ _ _ _ => pg_name (i := 3) nd rfl (.inl rfl)) (by decide) ?c1 ?c2 ?c3) pa_n) ?c4))) (fun h => by cases h) (fun _ => blk_nil ?_)
    case c1 => simp
    case c2 => rw [List.length_map, List.length_map]; have h : rs.length ≤ 40 := ok.le; exact Nat.le_trans h (szS (by decide))
    case c3 =>
      intro i d hd
      rw [List.getElem?_map] at hd
      cases e : rs[i]? with
      | none => rw [e] at hd; cases hd
      | some r =>
        rw [e] at hd
        cases hd
        refine ⟨_, .bl true, tg_name, by rw [List.getElem?_map, List.getElem?_map, e]; rfl, fun _ _ _ _ _ => ?_⟩
        exact px_call (g_is_road T) hr (by decide) (r, hs) ⟨ok.h, ok.r r (List.mem_of_getElem? e)⟩ (pa_c (px_var (pv 3) rfl) (pa_c (px_var (pv 1) rfl) pa_n))
    case c4 =>
      have q : (rs.map fun _ => true).all id = true := by simp
      exact (o_all .f).to (congrArg D.bl q)
    refine blk_fld (k := 0) (px_listOf (px_var (pv 1) rfl) .f T.z_list) (px_var (pv 0) rfl) rfl T.c_Net.cl T.n_Net_names (by decide) ?_
    refine blk_fld (k := 0) (px_listOf (px_var (pv 2) rfl) .f T.z_list) (px_var (pv 0) rfl) rfl T.c_Net.cl T.n_Net_lines (by show 1 < 1000; decide) ?_
    refine blk_nil ⟨rfl, ?_⟩
    show [ownI K q _ (putD _ _ (putD _ _ []))] = _
    show [ownI K q _ (if _ then _ else _)] = _
    rw [if_neg ne_nl]
    rfl
theorem look_names {d1 d2 : D} : List.lookup ("names" : Str) [(("names" : Str), d1), ("lines", d2)] = some d1 := by
  rw [List.lookup_cons, beq_self_eq_true]
theorem look_lines {d1 d2 : D} : List.lookup ("lines" : Str) [(("names" : Str), d1), ("lines", d2)] = some d2 := by
  rw [List.lookup_cons, show (("lines" : Str) == "names") = false by decide +kernel, List.lookup_cons, beq_self_eq_true]
theorem look_none {d1 d2 : D} {m : Str} (h1 : (m == "names") = false) (h2 : (m == "lines") = false) : List.lookup m [(("names" : Str), d1), ("lines", d2)] = none := by
  rw [List.lookup_cons, h1, List.lookup_cons, h2]
  rfl
theorem g_Net_roads (T : Top K mg c) : GloM P w K mg base 1 c.Net "roads" ["self"] (FnX K (fun n : List Str × List Road => n.2.length ≤ 40) (fun n => [netD c n]) (fun _ => []) (fun n d l => ∃ p, d = .adr p ∧ l = [ownL K p (roadsD n.2)]) noE) :=
  glom_of T.d_Net_roads T.c_Net.cl (fun _ _ _ _ _ _ us hl => match us, hl with | [_], _ => rfl) fun f fd F => fn_ok F cs_Net_roads (fun _ => rfl) fun cdv A outer s H E a hr hok => by
    exact blk_retX (ev_listOf (px_fld (px_var (pv 0) rfl) T.c_Net.cl T.n_Net_lines look_lines) .f T.z_list) fun d l' h => h
section
variable {X : Cx} {g : Gm} {l : List Res} {e1 e2 o : Expr} {p pos : Pos} {j : Nat} {hs : List Str} {rs : List Road}
theorem px_Net (T : Top X.K X.mg c) (hr : Room j X.A) (hj : 4 ≤ j) (ok : OkG (hs, rs)) (h1 : Px X e1 g l (.lst (housesD hs))) (h2 : Px X e2 g l (.lst (roadsD rs))) (hg : Gl X "Net" := by rfl) (he : starEach [e1, e2] X.env = (false, eval e1 X.env) :: starEach [e2] X.env := by rfl) (hs2 : starEach [e2] X.env = [(false, eval e2 X.env)] := by rfl) (hpl : (backTo pos (starEach [e2] X.env)).any (·.1) = false := by rfl) :
    Px X (.Call (.Name "Net" p) [e1, e2] [] pos) g l (netD c (hs, rs)) :=
  (ev_make (g_Net T) hr hj (fun q => (q, hs, rs)) (fun _ => ok) (pa_c h1 (pa_c h2 pa_n hs2) he) (fun _ => rfl) (fun _ => rfl) (fun q d l' h => ⟨h.1, q, rfl, by rw [h.2]; rfl⟩) hg (by decide) he hpl).frzI
theorem ev_roads {apos : Pos} {pl : Sem Bool} {n : List Str × List Road} (T : Top X.K X.mg c) (hr : Room j X.A) (hj : 1 ≤ j) (ok : n.2.length ≤ 40) (ho : Px X o g l (netD c n)) (ht : MthE X o "roads" apos pos [] pl := by rfl) : EvL X (.Call (.Attribute o "roads" apos) [] [] pos) g l (roadsD n.2) :=
  ev_meth0 (lr := l) (own := fun _ => []) (g_Net_roads T) hr hj n ok ho (rc_ins (look_none (by decide +kernel) (by decide +kernel))) rfl (fun d l' h => by
    obtain ⟨p, rfl, rfl⟩ := h
    exact ⟨p, rfl, rfl⟩) ht
end
end

end Lw
set_option Elab.async false
set_option linter.all false
set_option maxRecDepth 100000
set_option maxHeartbeats 4000000
namespace Lw
open PySem L2 Sx
def hfn : List He.DefD := [dD "_wall" s_wall, dD "is_whole" s_is_whole, dD "is_name" s_is_name, dD "are_houses" s_are_houses, dD "is_road" s_is_road, dD "_law_at" s_law_at, dD "_law_word" s_law_word, dD "_law_houses" s_law_houses, dD "_law_roads" s_law_roads, dD "_law_refused" s_law_refused, dD "_law_told" s_law_told, dD "law" s_law, dM "Net" "__init__" "Net.__init__" s_Net_init, dM "Net" "houses" "Net.houses" s_Net_houses, dM "Net" "roads" "Net.roads" s_Net_roads, dM "Net" "road" "Net.road" s_Net_road, dM "Net" "known" "Net.known" s_Net_known, dM "Net" "out_of" "Net.out_of" s_Net_out_of, dM "Net" "into" "Net.into" s_Net_into, dM "Net" "far" "Net.far" s_Net_far]
def hfa_0 : List He.Fa := [.free "ValueError", .free "all", .free "enumerate", .free "range", .free "isinstance", .free "int", .free "list", .free "len", .free "bool", .free "str", .free "tuple", .glo "_wall", .glo "is_whole", .glo "is_name", .glo "are_houses", .glo "is_road", .glo "_law_at", .glo "_law_word", .glo "_law_houses", .glo "_law_roads", .glo "_law_refused", .glo "_law_told", .glo "law", .str "SMALL" "abcdefghijklmnopqrstuvwxyz", .int "MOST_HOUSES" 12, .int "MOST_ROADS" 40, .int "LONGEST" 9, .int "WIDEST" 1000000000, .glo "Net", .cls "Net"]
def hfa_1 : List He.Fa := [.keep "Net", .mkr "Net", .meth "Net" "houses", .meth "Net" "roads", .meth "Net" "road", .meth "Net" "known", .meth "Net" "out_of", .meth "Net" "into", .meth "Net" "far", .noat "Net" "names", .noat "Net" "lines", .glo "RoadError", .glo "NoNet", .glo "NoRoad"]
def hfa : List He.Fa := hfa_0 ++ hfa_1
def hfb : List Fb := [.isi "Net", .exc "RoadError", .xin "RoadError", .exc "NoNet", .xin "NoNet", .exc "NoRoad", .xin "NoRoad", .exm "NoNet" "RoadError" true, .kit "NoNet" "NoRoad" false, .kitT "NoNet" "ValueError" true, .exm "NoRoad" "RoadError" true, .kit "NoRoad" "NoRoad" true, .kitT "NoRoad" "ValueError" true, .kitN "NoRoad"]
abbrev hex : PySem.W.Frag → Bool := exB hfb
abbrev csK (K : PySem.W.Frag) : Cs := ⟨He.ga K "RoadError", He.ga K "NoNet", He.ga K "NoRoad", He.ga K "Net"⟩
theorem top_of {K : PySem.W.Frag} {h : Heap} {mg : Str → Option Value} {w : World} (X : K.In h) (G : h.Ns mainGlobals mg) (says : He.SaysX hfa hfn [] [] hex w h K) : Top K mg (csK K) := by
  have c : He.SaysD hfa hfn K := says.t.d
  have cx : exB hfb K = true := says.more
  exact {
    z_ValueError := He.free_ok X G (c.fact 0 (f := .free "ValueError") rfl)
    z_all := He.free_ok X G (c.fact 1 (f := .free "all") rfl)
    z_enumerate := He.free_ok X G (c.fact 2 (f := .free "enumerate") rfl)
    z_range := He.free_ok X G (c.fact 3 (f := .free "range") rfl)
    z_isinstance := He.free_ok X G (c.fact 4 (f := .free "isinstance") rfl)
    z_int := He.free_ok X G (c.fact 5 (f := .free "int") rfl)
    z_list := He.free_ok X G (c.fact 6 (f := .free "list") rfl)
    z_len := He.free_ok X G (c.fact 7 (f := .free "len") rfl)
    z_bool := He.free_ok X G (c.fact 8 (f := .free "bool") rfl)
    z_str := He.free_ok X G (c.fact 9 (f := .free "str") rfl)
    z_tuple := He.free_ok X G (c.fact 10 (f := .free "tuple") rfl)
    d_wall := dfn_of c (He.glo_ok X G (c.fact 11 (f := .glo "_wall") rfl)) 0
    d_is_whole := dfn_of c (He.glo_ok X G (c.fact 12 (f := .glo "is_whole") rfl)) 1
    d_is_name := dfn_of c (He.glo_ok X G (c.fact 13 (f := .glo "is_name") rfl)) 2
    d_are_houses := dfn_of c (He.glo_ok X G (c.fact 14 (f := .glo "are_houses") rfl)) 3
    d_is_road := dfn_of c (He.glo_ok X G (c.fact 15 (f := .glo "is_road") rfl)) 4
    d_law_at := dfn_of c (He.glo_ok X G (c.fact 16 (f := .glo "_law_at") rfl)) 5
    d_law_word := dfn_of c (He.glo_ok X G (c.fact 17 (f := .glo "_law_word") rfl)) 6
    d_law_houses := dfn_of c (He.glo_ok X G (c.fact 18 (f := .glo "_law_houses") rfl)) 7
    d_law_roads := dfn_of c (He.glo_ok X G (c.fact 19 (f := .glo "_law_roads") rfl)) 8
    d_law_refused := dfn_of c (He.glo_ok X G (c.fact 20 (f := .glo "_law_refused") rfl)) 9
    d_law_told := dfn_of c (He.glo_ok X G (c.fact 21 (f := .glo "_law_told") rfl)) 10
    d_law := dfn_of c (He.glo_ok X G (c.fact 22 (f := .glo "law") rfl)) 11
    k_SMALL := He.str_ok X G (c.fact 23 (f := .str "SMALL" "abcdefghijklmnopqrstuvwxyz") rfl)
    k_MOST_HOUSES := He.int_ok X G (c.fact 24 (f := .int "MOST_HOUSES" 12) rfl)
    k_MOST_ROADS := He.int_ok X G (c.fact 25 (f := .int "MOST_ROADS" 40) rfl)
    k_LONGEST := He.int_ok X G (c.fact 26 (f := .int "LONGEST" 9) rfl)
    k_WIDEST := He.int_ok X G (c.fact 27 (f := .int "WIDEST" 1000000000) rfl)
    c_Net := ⟨He.glo_ok X G (c.fact 28 (f := .glo "Net") rfl), He.cls_ok (c.fact 29 (f := .cls "Net") rfl), He.keep_ok (c.fact 30 (f := .keep "Net") rfl)⟩
    i_Net := isiB_ok (fb_at cx 0 (f := .isi "Net") rfl)
    d_Net_init := din_of c (He.mkr_ok (c.fact 31 (f := .mkr "Net") rfl)) 12
    d_Net_houses := dmt_of c (He.meth_ok (c.fact 32 (f := .meth "Net" "houses") rfl)) 13
    d_Net_roads := dmt_of c (He.meth_ok (c.fact 33 (f := .meth "Net" "roads") rfl)) 14
    d_Net_road := dmt_of c (He.meth_ok (c.fact 34 (f := .meth "Net" "road") rfl)) 15
    d_Net_known := dmt_of c (He.meth_ok (c.fact 35 (f := .meth "Net" "known") rfl)) 16
    d_Net_out_of := dmt_of c (He.meth_ok (c.fact 36 (f := .meth "Net" "out_of") rfl)) 17
    d_Net_into := dmt_of c (He.meth_ok (c.fact 37 (f := .meth "Net" "into") rfl)) 18
    d_Net_far := dmt_of c (He.meth_ok (c.fact 38 (f := .meth "Net" "far") rfl)) 19
    n_Net_names := He.noat_ok (c.fact 39 (f := .noat "Net" "names") rfl)
    n_Net_lines := He.noat_ok (c.fact 40 (f := .noat "Net" "lines") rfl)
    x_RoadError := dxc_ok (fb_at cx 1 (f := .exc "RoadError") rfl) (He.glo_ok X G (c.fact 41 (f := .glo "RoadError") rfl))
    xi_RoadError := xin_ok (fb_at cx 2 (f := .xin "RoadError") rfl)
    x_NoNet := dxc_ok (fb_at cx 3 (f := .exc "NoNet") rfl) (He.glo_ok X G (c.fact 42 (f := .glo "NoNet") rfl))
    xi_NoNet := xin_ok (fb_at cx 4 (f := .xin "NoNet") rfl)
    x_NoRoad := dxc_ok (fb_at cx 5 (f := .exc "NoRoad") rfl) (He.glo_ok X G (c.fact 43 (f := .glo "NoRoad") rfl))
    xi_NoRoad := xin_ok (fb_at cx 6 (f := .xin "NoRoad") rfl)
    xm_NoNet_RoadError := exm_ok (fb_at cx 7 (f := .exm "NoNet" "RoadError" true) rfl)
    xk_NoNet_NoRoad := kit_ok (fb_at cx 8 (f := .kit "NoNet" "NoRoad" false) rfl)
    xv_NoNet := kitT_ok (fb_at cx 9 (f := .kitT "NoNet" "ValueError" true) rfl)
    xm_NoRoad_RoadError := exm_ok (fb_at cx 10 (f := .exm "NoRoad" "RoadError" true) rfl)
    xk_NoRoad_NoRoad := kit_ok (fb_at cx 11 (f := .kit "NoRoad" "NoRoad" true) rfl)
    xv_NoRoad := kitT_ok (fb_at cx 12 (f := .kitT "NoRoad" "ValueError" true) rfl)
    xn_NoRoad := kitN_ok (fb_at cx 13 (f := .kitN "NoRoad") rfl)
  }
abbrev R : PySem.W.OpenRow := PySem.W.OpenLaw.row PySem.Challenge.rw_postroad_k01_a_net
abbrev hk : PySem.W.Hook := hookY 5 hfa hfn hex
def ob (s : PySem.W.SharedT) : AlY := obsY 5 hfa hfn hex (HandSHeadRun.getT s)
theorem ob_eq (s : PySem.W.SharedT) : ob s = hk.obs s.abs := obsY_eq (HandSHeadRun.getT_eq s)
def loose : List Str := ["_wall", "RoadError", "NoNet", "NoRoad", "SMALL", "MOST_HOUSES", "MOST_ROADS", "LONGEST", "WIDEST", "is_whole", "is_name", "are_houses", "is_road", "Net", "_law_at", "_law_word", "_law_houses", "_law_roads", "_law_refused", "_law_told"]
theorem run (w : World) : HandSHeadRun.RunEq R (PySem.W.view R.prog [23]) hk ob 20000 loose w := by
  intro os
  kernel_rfl

end Lw
set_option Elab.async false
set_option linter.all false
set_option maxRecDepth 100000
set_option maxHeartbeats 4000000
namespace Lw
open PySem L2 Sx
/-! ### plain: houses, roads, letters as the law draws them -/
def cellAt (ns : List Int) (k : Int) : Int := if k < (ns.length : Int) then ns.getD k.toNat 0 else 0
def abcAt (i : Int) : Str := ⟨#[(TL.tl small).getD i.toNat 0]⟩
def wordStep (s : Int × Str) : Int × Str := (s.1 / 26, s.2 ++ abcAt (s.1 % 26))
def wordSt (n0 : Int) : Nat → Int × Str
  | 0 => (n0, "")
  | i + 1 => wordStep (wordSt n0 i)
def wordN (cell : Int) : Int := cell * 1099087573 % 10000000000037
def wordA (cell : Int) : Str := (wordSt (wordN cell / 7) (1 + wordN cell % 7).toNat).2
theorem abcAt_sg {i : Int} (h0 : 0 ≤ i) (h1 : i < 26) : ∀ c ∈ TL.tl (abcAt i), 97 ≤ c ∧ c ≤ 122 := fun c hc => by
  have e : TL.tl (abcAt i) = [(TL.tl small).getD i.toNat 0] := rfl
  rw [e, List.mem_singleton] at hc
  subst hc
  refine small_in.mp ?_
  have hl : i.toNat < (TL.tl small).length := by rw [small_tl]; simp; omega
  rw [List.getD_eq_getElem?_getD, List.getElem?_eq_getElem hl]
  exact List.getElem_mem hl
theorem wordSt_ok (n0 : Int) : ∀ i, (wordSt n0 i).2.length = i ∧ ∀ c ∈ TL.tl (wordSt n0 i).2, 97 ≤ c ∧ c ≤ 122
  | 0 => ⟨rfl, fun c hc => by
    have e : TL.tl ("" : Str) = [] := by decide +kernel
    rw [show TL.tl (wordSt n0 0).2 = TL.tl ("" : Str) from rfl, e] at hc
    cases hc⟩
  | i + 1 => by
    obtain ⟨h1, h2⟩ := wordSt_ok n0 i
    refine ⟨?_, fun c hc => ?_⟩
    · show ((wordSt n0 i).2 ++ abcAt _).length = _
      rw [Str.length_append, h1]
      rfl
    · have hc : c ∈ TL.tl ((wordSt n0 i).2 ++ abcAt ((wordSt n0 i).1 % 26)) := hc
      rw [TL.tl_append] at hc
      rcases List.mem_append.mp hc with q | q
      · exact h2 c q
      · exact abcAt_sg (by omega) (by omega) c q
theorem wordA_ok (cell : Int) : (wordA cell).length ≤ 7 ∧ ∀ c ∈ TL.tl (wordA cell), 97 ≤ c ∧ c ≤ 122 := by
  obtain ⟨h1, h2⟩ := wordSt_ok (wordN cell / 7) (1 + wordN cell % 7).toNat
  refine ⟨?_, h2⟩
  unfold wordA
  rw [h1]
  omega
def insA (x : Str) (at_ : Int) (ch : Str) : Str := cutS x none (some at_) ++ ch ++ cutS x (some at_) none
abbrev marks : Str := "kcxqamzftbje"
theorem marks_tl : TL.tl marks = [107, 99, 120, 113, 97, 109, 122, 102, 116, 98, 106, 101] := by decide +kernel
def oneS (c : Nat) : Str := ⟨#[c]⟩
def housesA (cell many : Int) : List Str := ((TL.tl marks).take many.toNat).map fun c => insA (wordA cell) (cell % ((wordA cell).length + 1)) (oneS c)
theorem tl_insA {x : Str} {a : Int} {c : Nat} (h : 0 ≤ a) : TL.tl (insA x a (oneS c)) = (TL.tl x).take a.toNat ++ c :: (TL.tl x).drop a.toNat := by
  unfold insA
  rw [TL.tl_append, TL.tl_append, tl_cutS, tl_cutS, cut_take h, cut_drop h]
  show _ ++ [c] ++ _ = _
  simp
theorem insA_ok {x : Str} {a : Int} {c : Nat} (h : 0 ≤ a) (hx : x.length ≤ 7) (hs : ∀ c ∈ TL.tl x, 97 ≤ c ∧ c ≤ 122) (hc : 97 ≤ c ∧ c ≤ 122) : OkN (insA x a (oneS c)) := by
  have e := tl_insA (x := x) (c := c) h
  rw [TL.len_tl] at hx
  have hl : (TL.tl (insA x a (oneS c))).length = (TL.tl x).length + 1 := by
    rw [e, List.length_append, List.length_cons, List.length_take, List.length_drop]
    omega
  refine ⟨by rw [TL.len_tl, hl]; omega, by rw [TL.len_tl, hl]; omega, fun z hz => ?_⟩
  rw [e] at hz
  rcases List.mem_append.mp hz with q | q
  · exact hs z (List.mem_of_mem_take q)
  · rcases List.mem_cons.mp q with rfl | q
    · exact hc
    · exact hs z (List.mem_of_mem_drop q)
theorem insA_inj {x : Str} {a : Int} {c d : Nat} (h : 0 ≤ a) (e : insA x a (oneS c) = insA x a (oneS d)) : c = d := by
  have e2 := congrArg TL.tl e
  rw [tl_insA h, tl_insA h] at e2
  exact (List.cons.inj (List.append_cancel_left e2)).1
theorem housesA_len {cell many : Int} (h : many ≤ 12) : (housesA cell many).length = many.toNat := by
  unfold housesA
  rw [List.length_map, List.length_take, marks_tl]
  show min many.toNat 12 = _
  omega
theorem housesA_ok {cell many : Int} (h : many ≤ 12) : OkH (housesA cell many) := by
  obtain ⟨h1, h2⟩ := wordA_ok cell
  have ha : 0 ≤ cell % ((wordA cell).length + 1) := Int.emod_nonneg _ (by omega)
  refine ⟨fun x hx => ?_, ?_, ?_⟩
  · unfold housesA at hx
    obtain ⟨c, hc, rfl⟩ := List.mem_map.mp hx
    refine insA_ok ha h1 h2 ?_
    have hm := List.mem_of_mem_take hc
    rw [marks_tl] at hm
    simp only [List.mem_cons, List.not_mem_nil, or_false] at hm
    omega
  · unfold housesA
    have nd : ((TL.tl marks).take many.toNat).Nodup := List.Nodup.sublist (List.take_sublist _ _) (by rw [marks_tl]; decide)
    exact List.Pairwise.map _ (fun c d hne e => hne (insA_inj ha e)) nd
  · rw [housesA_len h]
    omega

theorem getD_mem {α : Type} {xs : List α} {i : Int} {x0 : α} (h0 : 0 ≤ i) (h1 : i < xs.length) : xs.getD i.toNat x0 ∈ xs := by
  have hl : i.toNat < xs.length := by omega
  rw [List.getD_eq_getElem?_getD, List.getElem?_eq_getElem hl]
  exact List.getElem_mem hl
theorem getD_ne {α : Type} {xs : List α} {i j : Int} {x0 : α} (nd : xs.Nodup) (hi : 0 ≤ i ∧ i < xs.length) (hj : 0 ≤ j ∧ j < xs.length) (hne : i ≠ j) : xs.getD i.toNat x0 ≠ xs.getD j.toNat x0 := by
  have l1 : i.toNat < xs.length := by omega
  have l2 : j.toNat < xs.length := by omega
  rw [List.getD_eq_getElem?_getD, List.getElem?_eq_getElem l1, List.getD_eq_getElem?_getD, List.getElem?_eq_getElem l2]
  intro e
  have e : xs[i.toNat] = xs[j.toNat] := e
  have p := List.pairwise_iff_getElem.mp nd
  rcases Nat.lt_trichotomy i.toNat j.toNat with h | h | h
  · exact p _ _ l1 l2 h e
  · omega
  · exact p _ _ l2 l1 h e.symm
/-- a road's ends differ -/
theorem ends_ok {n m : Int} (hm : 2 ≤ m) (k : Int) : (0 ≤ n % m ∧ n % m < m) ∧ (0 ≤ (n % m + 1 + k % (m - 1)) % m ∧ (n % m + 1 + k % (m - 1)) % m < m) ∧ n % m ≠ (n % m + 1 + k % (m - 1)) % m := by
  have a1 := Int.emod_nonneg n (show m ≠ 0 by omega)
  have a2 := Int.emod_lt_of_pos n (show 0 < m by omega)
  have b1 := Int.emod_nonneg k (show m - 1 ≠ 0 by omega)
  have b2 := Int.emod_lt_of_pos k (show 0 < m - 1 by omega)
  refine ⟨⟨a1, a2⟩, ⟨Int.emod_nonneg _ (by omega), Int.emod_lt_of_pos _ (by omega)⟩, ?_⟩
  generalize n % m = x at a1 a2 ⊢
  generalize k % (m - 1) = y at b1 b2 ⊢
  by_cases h : x + 1 + y < m
  · rw [Int.emod_eq_of_lt (by omega) h]
    omega
  · have e : (x + 1 + y) % m = x + 1 + y - m := by
      rw [← Int.sub_emod_right (x + 1 + y) m]
      exact Int.emod_eq_of_lt (by omega) (by omega)
    rw [e]
    omega
def roadA (hs : List Str) (long cell : Int) : Road :=
  let n := cell * 48271 % 2147483647
  let m : Int := hs.length
  let b := n % m
  let e := (b + 1 + n / 12 % (m - 1)) % m
  (hs.getD b.toNat "", hs.getD e.toNat "", 1 + n / 2160 % long, if n / 432 % 5 = 1 then 1 + cell % 1000000000 else 1 + n / 144 % 3)
theorem roadA_ok {hs : List Str} {long cell : Int} (nd : hs.Nodup) (h2 : 2 ≤ hs.length) (hl : 1 ≤ long ∧ long ≤ 9) : OkR hs (roadA hs long cell) := by
  have hm : (2 : Int) ≤ hs.length := by omega
  obtain ⟨a, b, c⟩ := ends_ok (n := cell * 48271 % 2147483647) hm (cell * 48271 % 2147483647 / 12)
  refine ⟨getD_mem a.1 a.2, getD_mem b.1 b.2, getD_ne nd a b c, ?_, ?_⟩
  · show 1 ≤ 1 + cell * 48271 % 2147483647 / 2160 % long ∧ 1 + cell * 48271 % 2147483647 / 2160 % long ≤ 9
    have h1 := Int.emod_nonneg (cell * 48271 % 2147483647 / 2160) (show long ≠ 0 by omega)
    have h3 := Int.emod_lt_of_pos (cell * 48271 % 2147483647 / 2160) (show 0 < long by omega)
    omega
  · unfold roadA
    dsimp only
    split <;> omega
def roadsA (hs : List Str) (long : Int) (cells : List Int) : List Road := if 1 < hs.length then cells.map (roadA hs long) else []
theorem roadsA_ok {hs : List Str} {long : Int} {cells : List Int} (oh : OkH hs) (hl : 1 ≤ long ∧ long ≤ 9) (hc : cells.length ≤ 40) : OkG (hs, roadsA hs long cells) := by
  refine ⟨oh, fun r hr => ?_, ?_⟩
  · have hr : r ∈ roadsA hs long cells := hr
    unfold roadsA at hr
    split at hr
    · rename_i h2
      obtain ⟨x, _, rfl⟩ := List.mem_map.mp hr
      exact roadA_ok oh.nd h2 hl
    · cases hr
  · show (roadsA hs long cells).length ≤ 40
    unfold roadsA
    split
    · rw [List.length_map]; exact hc
    · exact Nat.zero_le _
abbrev Letter := Str × Int × Str
def letterD (a : Letter) : D := .tup [.str a.1, .int a.2.1, .str a.2.2]
abbrev lettersD (ls : List Letter) : List D := ls.map letterD
def letterA (hs : List Str) (goals base_ span cell : Int) : Letter :=
  let n := cell * 1220703125 % 2147483629
  let m : Int := hs.length
  (hs.getD ((n % goals + 1 + n / 12 % (m - 1)) % m).toNat "", base_ + n / 144 % span, hs.getD (n % goals).toNat "")
structure OkL (hs : List Str) (base_ span : Int) (a : Letter) : Prop where
  b : a.1 ∈ hs
  e : a.2.2 ∈ hs
  ne : a.1 ≠ a.2.2
  t : base_ ≤ a.2.1 ∧ a.2.1 < base_ + span
end Lw
set_option Elab.async false
set_option linter.all false
set_option maxRecDepth 100000
set_option maxHeartbeats 4000000
namespace Lw
open PySem L2 Sx
/-! ### the walk: what the law draws -/
section
variable {P : Program} {w : World} {K : PySem.W.Frag} {mg : Str → Option Value} {base : Heap} {c : Cs}
theorem g_at (T : Top K mg c) : Glo P w K mg base 1 "_law_at" ["_law_script", "_law_k"] (Pu K (fun a : List Int × Int => 0 ≤ a.2) (fun a => [.scr (a.1.map .int), .int a.2]) (fun a => .int (cellAt a.1 a.2))) :=
  glo_of T.d_law_at (fun _ _ _ _ _ _ us hl => match us, hl with | [_, _], _ => rfl) fun f fd F => fn_ok F cs_law_at (fun _ => rfl) fun cdv A outer s H E a hr hok => by
    obtain ⟨ns, k⟩ := a
    have hk : 0 ≤ k := hok
    refine blk_if (ts_cmp op_lt (px_var (pv 1) rfl) (px_bi call_len_seq T.z_len (pa_c (px_var (pv 0) rfl) pa_n) o_lenR) o_lt) (fun h => ?_) (fun h => ?_)
    · have h1 : k < (ns.length : Int) := by
        have := of_decide_eq_true h
        rwa [List.length_map] at this
      refine blk_ret (px_ix ix_list (px_var (pv 0) rfl) (px_var (pv 1) rfl) (o_ixR (d := .int (ns.getD k.toNat 0)) (atI_map (atI_in hk h1)))) ⟨?_, rfl⟩
      show D.int _ = D.int (cellAt ns k)
      unfold cellAt
      rw [if_pos h1]
    · have h1 : ¬ k < (ns.length : Int) := by
        have := of_decide_eq_false h
        rwa [List.length_map] at this
      refine blk_nil (blk_ret px_int ⟨?_, rfl⟩)
      show D.int _ = D.int (cellAt ns k)
      unfold cellAt
      rw [if_neg h1]
theorem g_word (T : Top K mg c) : Glo P w K mg base 1 "_law_word" ["_law_cell"] (Pu K (fun _ : Int => True) (fun a => [.int a]) (fun a => .str (wordA a))) :=
  glo_of T.d_law_word (fun _ _ _ _ _ _ us hl => match us, hl with | [_], _ => rfl) fun f fd F => fn_ok F cs_law_word (fun _ => rfl) fun cdv A outer s H E a hr hok => by
    have nd := cs_law_word.nd
    refine blk_set nd (i := 1) (d := .int (wordN a)) rfl (.inl rfl) (px_op op_mod (px_op op_mul (px_var (pv 0) rfl) px_int o_mulR) px_int o_mod) ?_
    refine blk_set nd (i := 2) (d := .int (1 + wordN a % 7)) rfl (.inl rfl) (px_op op_add px_int (px_op op_mod (px_var (pv 1) rfl) px_int o_mod) o_add) ?_
    refine blk_set nd (i := 1) (d := .int (wordN a / 7)) rfl (.inl rfl) (px_op op_fdiv (px_var (pv 1) rfl) px_int o_fdiv) ?_
    refine blk_set nd (i := 3) rfl (.inl rfl) px_str ?_
    refine blk_for (is := [4]) (fun i g l => (∃ o, g = [some (.int a), some (.int (wordSt (wordN a / 7) i).1), some (.int (1 + wordN a % 7)), some (.str (wordSt (wordN a / 7) i).2), o]) ∧ l = []) PassesOwn.never rfl
      (it_range (px_var (pv 2) rfl) (by omega) (by omega) T.z_range) (pg_name (i := 4) nd rfl (.inl rfl)) ⟨⟨none, rfl⟩, rfl⟩ (fun i d g l hd hI => ?_) (fun g l hI => ?_)
    · obtain ⟨⟨o, rfl⟩, rfl⟩ := hI
      obtain ⟨hi, rfl⟩ := rng_get hd
      have hi7 : i < 8 := by
        have : i < (1 + wordN a % 7).toNat := hi
        omega
      have h1 := (wordSt_ok (wordN a / 7) i).1
      have hm : 0 ≤ (wordSt (wordN a / 7) i).1 % 26 ∧ (wordSt (wordN a / 7) i).1 % 26 < 26 := by omega
      refine ⟨_, tg_name, ?_⟩
      refine blk_set nd (i := 3) (d := .str ((wordSt (wordN a / 7) i).2 ++ abcAt ((wordSt (wordN a / 7) i).1 % 26))) rfl (.inl rfl) (px_op op_add_str (px_var (pv 3) rfl) (px_ix ix_str px_str (px_op op_mod (px_var (pv 1) rfl) px_int o_mod) (o_ixS (c := (TL.tl small).getD ((wordSt (wordN a / 7) i).1 % 26).toNat 0) (by decide) (atI_in hm.1 hm.2))) (o_addS ?_)) ?_
      · rw [h1]
        show i + 1 ≤ sizeLine
        exact Nat.le_trans (show i + 1 ≤ 100 by omega) (by decide)
      refine blk_set nd (i := 1) rfl (.inl rfl) (px_op op_fdiv (px_var (pv 1) rfl) px_int o_fdiv) ?_
      exact blk_nil ⟨⟨_, rfl⟩, rfl⟩
    · obtain ⟨⟨o, rfl⟩, rfl⟩ := hI
      rw [rng_len]
      exact blk_ret (px_var (pv 3) rfl) ⟨rfl, rfl⟩
theorem sig_marks (n : Nat) : ((TL.tl marks).take n).length ≤ 12 := by rw [List.length_take, marks_tl]; show min n 12 ≤ 12; omega
theorem g_housesA (T : Top K mg c) : Glo P w K mg base 2 "_law_houses" ["_law_cell", "_law_many"] (Fr K (fun a : Int × Int => 0 ≤ a.2) (fun a => [.int a.1, .int a.2]) (fun a => housesD (housesA a.1 a.2))) :=
  glo_of T.d_law_houses (fun _ _ _ _ _ _ us hl => match us, hl with | [_, _], _ => rfl) fun f fd F => fn_ok F cs_law_houses (fun _ => rfl) fun cdv A outer s H E a hr hok => by
    have nd := cs_law_houses.nd
    obtain ⟨cell, many⟩ := a
    have hm : 0 ≤ many := hok
    have hw := wordA_ok cell
    refine blk_set nd (i := 2) rfl (.inr rfl) (px_call (g_word T) hr (by decide) cell trivial (pa_c (px_var (pv 0) rfl) pa_n)) ?_
    refine blk_set nd (i := 3) (d := .int (cell % ((wordA cell).length + 1))) rfl (.inr rfl) (px_op op_mod (px_var (pv 0) rfl) (px_op op_add (px_bi call_len_str T.z_len (pa_c (px_var (pv 2) rfl) pa_n) (o_lenS (Nat.le_trans hw.1 (by decide)))) px_int o_add) (o_mod (by omega))) ?_
    have ha : 0 ≤ cell % ((wordA cell).length + 1) := Int.emod_nonneg _ (by omega)
    have ec : TL.tl (cutS marks none (some many)) = (TL.tl marks).take many.toNat := by rw [tl_cutS, cut_take hm]
    refine blk_retX (ev_lc (own := [("_law_letter", 4)]) (is := [4]) (rs := housesD (housesA cell many)) rfl nd (it_str (px_slS px_str (by decide) pz_n (pz_s (px_var (pv 1) rfl)))) (blkOk_by (N := ns_law_houses) (sc := defScope s_law_houses) (by decide +kernel)) (fun _ _ _ _ _ => pg_name (i := 4) nd rfl (.inl rfl)) (by decide) ?c1 ?c2 ?c3) fun d l' h => h
    case c1 =>
      unfold signs housesA
      rw [show (cutS marks none (some many)).cps.toList = _ from ec]
      simp
    case c2 =>
      unfold housesA
      rw [List.length_map, List.length_map]
      exact Nat.le_trans (sig_marks _) (szS (by decide))
    case c3 =>
      intro i d hd
      unfold signs at hd
      rw [show (cutS marks none (some many)).cps.toList = _ from ec, List.getElem?_map] at hd
      cases e : ((TL.tl marks).take many.toNat)[i]? with
      | none => rw [e] at hd; cases hd
      | some ch =>
        rw [e] at hd
        cases hd
        refine ⟨_, .str (insA (wordA cell) (cell % ((wordA cell).length + 1)) (oneS ch)), tg_name, by unfold housesA; rw [List.getElem?_map, List.getElem?_map, e]; rfl, fun _ _ _ _ _ => ?_⟩
        have l1 : (cutS (wordA cell) none (some (cell % ((wordA cell).length + 1)))).length ≤ 7 := Nat.le_trans (cutS_length _ _ _) hw.1
        have l2 : (cutS (wordA cell) (some (cell % ((wordA cell).length + 1))) none).length ≤ 7 := Nat.le_trans (cutS_length _ _ _) hw.1
        have l3 : (cutS (wordA cell) none (some (cell % ((wordA cell).length + 1))) ++ oneS ch).length ≤ 8 := by rw [Str.length_append]; show _ + 1 ≤ 8; omega
        exact px_op op_add_str (px_op op_add_str (px_slS (px_var (pv 2) rfl) (Nat.le_trans hw.1 (by decide)) pz_n (pz_s (px_var (pv 3) rfl))) (px_var (pv 4) rfl) (o_addS (Nat.le_trans (Nat.add_le_add l1 (Nat.le_of_eq rfl)) (szS (Nat.le_of_ble_eq_true rfl))))) (px_slS (px_var (pv 2) rfl) (Nat.le_trans hw.1 (by decide)) (pz_s (px_var (pv 3) rfl)) pz_n) (o_addS (Nat.le_trans (Nat.add_le_add l3 l2) (szS (by decide))))
theorem g_roadsA (T : Top K mg c) : Glo P w K mg base 1 "_law_roads" ["_law_cells", "_law_houses_here", "_law_long"] (Fr K (fun a : List Int × List Str × Int => 1 ≤ a.2.2 ∧ a.1.length ≤ 100) (fun a => [.lst (a.1.map .int), .lst (housesD a.2.1), .int a.2.2]) (fun a => roadsD (roadsA a.2.1 a.2.2 a.1))) :=
  glo_of T.d_law_roads (fun _ _ _ _ _ _ us hl => match us, hl with | [_, _, _], _ => rfl) fun f fd F => fn_ok F cs_law_roads (fun _ => rfl) fun cdv A outer s H E a hr hok => by
    have nd := cs_law_roads.nd
    obtain ⟨cells, hs, long⟩ := a
    obtain ⟨hlo, hle⟩ : 1 ≤ long ∧ cells.length ≤ 100 := hok
    refine blk_setX nd (i := 3) rfl (.inl rfl) (ev_lst pa_n) fun d l' ⟨p, e1, e2⟩ => ?_
    subst e1; subst e2
    refine blk_if (ts_cmp op_gt (px_bi call_len_seq T.z_len (pa_c (px_var (pv 1) rfl) pa_n) o_lenL) px_int o_gt) (fun h => ?_) (fun h => ?_)
    · have h2 : 1 < hs.length := by
        have h' : (1 : Int) < ((housesD hs).length : Int) := of_decide_eq_true h
        have e : (housesD hs).length = hs.length := List.length_map ..
        omega
      refine blk_for (is := [4]) (fun i g l => (∃ o4 o5 o6 o7 o8, g = [some (.lst (cells.map .int)), some (.lst (housesD hs)), some (.int long), some (.adr p), o4, o5, o6, o7, o8]) ∧ l = [ownL K p (roadsD ((cells.take i).map (roadA hs long)))]) PassesOwn.never rfl
        (it_list (px_var (pv 0) rfl)) (pg_name (i := 4) nd rfl (.inl rfl)) ⟨⟨none, none, none, none, none, rfl⟩, rfl⟩ (fun i d g l hd hI => ?_) (fun g l hI => ?_)
      · obtain ⟨⟨o4, o5, o6, o7, o8, rfl⟩, rfl⟩ := hI
        rw [List.getElem?_map] at hd
        cases e : cells[i]? with
        | none => rw [e] at hd; cases hd
        | some cell =>
          rw [e] at hd
          cases hd
          have hi : i < cells.length := (List.getElem?_eq_some_iff.mp e).1
          have et : (cells.take (i + 1)).map (roadA hs long) = (cells.take i).map (roadA hs long) ++ [roadA hs long cell] := by
            rw [List.take_add_one, e, List.map_append]; rfl
          have er : roadA hs long cell = (hs.getD ((cell * 48271 % 2147483647) % (hs.length : Int)).toNat "", hs.getD (((cell * 48271 % 2147483647) % (hs.length : Int) + 1 + (cell * 48271 % 2147483647) / 12 % ((hs.length : Int) - 1)) % (hs.length : Int)).toNat "", 1 + (cell * 48271 % 2147483647) / 2160 % long, if (cell * 48271 % 2147483647) / 432 % 5 = 1 then 1 + cell % 1000000000 else 1 + (cell * 48271 % 2147483647) / 144 % 3) := rfl
          refine ⟨_, tg_name, ?_⟩
          refine blk_set nd (i := 5) (d := .int (cell * 48271 % 2147483647)) rfl (.inl rfl) (px_op op_mod (px_op op_mul (px_var (pv 4) rfl) px_int o_mulR) px_int o_mod) ?_
          generalize cell * 48271 % 2147483647 = n at er ⊢
          have hm : (2 : Int) ≤ hs.length := by omega
          obtain ⟨a1, a2, a3⟩ := ends_ok (n := n) hm (n / 12)
          have el : (hs.map D.str).length = hs.length := List.length_map ..
          refine blk_set nd (i := 6) (d := .int (n % (hs.length : Int))) rfl (.inl rfl) (px_op op_mod (px_var (pv 5) rfl) (Px.to (px_bi call_len_seq T.z_len (pa_c (px_var (pv 1) rfl) pa_n) o_lenL) (by rw [el])) (o_mod (by omega))) ?_
          refine blk_set nd (i := 7) (d := .int ((n % (hs.length : Int) + 1 + n / 12 % ((hs.length : Int) - 1)) % (hs.length : Int))) rfl (.inl rfl) (px_op op_mod (px_op op_add (px_op op_add (px_var (pv 6) rfl) px_int o_add) (px_op op_mod (px_op op_fdiv (px_var (pv 5) rfl) px_int o_fdiv) (px_op op_sub (Px.to (px_bi call_len_seq T.z_len (pa_c (px_var (pv 1) rfl) pa_n) o_lenL) (by rw [el])) px_int o_sub) (o_mod (by omega))) o_add) (Px.to (px_bi call_len_seq T.z_len (pa_c (px_var (pv 1) rfl) pa_n) o_lenL) (by rw [el])) (o_mod (by omega))) ?_
          generalize hb : n % (hs.length : Int) = b at a1 a2 a3 er ⊢
          generalize he : (b + 1 + n / 12 % ((hs.length : Int) - 1)) % (hs.length : Int) = e' at a2 a3 er ⊢
          refine blk_set nd (i := 8) (d := .int (1 + n / 144 % 3)) rfl (.inl rfl) (px_op op_add px_int (px_op op_mod (px_op op_fdiv (px_var (pv 5) rfl) px_int o_fdiv) px_int o_mod) o_add) ?_
          refine blk_ifJ (fun g l => g = [some (.lst (cells.map .int)), some (.lst (housesD hs)), some (.int long), some (.adr p), some (.int cell), some (.int n), some (.int b), some (.int e'), some (.int (if n / 432 % 5 = 1 then 1 + cell % 1000000000 else 1 + n / 144 % 3))] ∧ l = [ownL K p (roadsD ((cells.take i).map (roadA hs long)))]) (ts_cmp op_eq (px_op op_mod (px_op op_fdiv (px_var (pv 5) rfl) px_int o_fdiv) px_int o_mod) px_int o_eqI) (fun h => ?_) (fun h => ?_) (fun g l hM => ?_)
          · have h : n / 432 % 5 = 1 := of_decide_eq_true h
            refine blk_set nd (i := 8) (d := .int (1 + cell % 1000000000)) rfl (.inl rfl) (px_op op_add px_int (px_op op_mod (px_var (pv 4) rfl) (px_op op_pow px_int px_int o_pow) (o_mod (j := 1000000000))) o_add) ?_
            refine blk_nil ⟨?_, rfl⟩
            rw [if_pos h]
            rfl
          · have h : ¬ n / 432 % 5 = 1 := of_decide_eq_false h
            refine blk_nil ⟨?_, rfl⟩
            rw [if_neg h]
            rfl
          · obtain ⟨rfl, rfl⟩ := hM
            refine blk_add (k := 0) (d := roadD (roadA hs long cell)) (px_var (pv 3) rfl) (Px.to (px_tup (pa_c (px_ix ix_list (px_var (pv 1) rfl) (px_var (pv 6) rfl) (o_ixL (d := .str (hs.getD b.toNat "")) (atI_map (atI_in a1.1 a1.2)))) (pa_c (px_ix ix_list (px_var (pv 1) rfl) (px_var (pv 7) rfl) (o_ixL (d := .str (hs.getD e'.toNat "")) (atI_map (atI_in a2.1 a2.2)))) (pa_c (px_op op_add px_int (px_op op_mod (px_op op_fdiv (px_var (pv 5) rfl) px_int o_fdiv) (px_var (pv 2) rfl) (o_mod (by omega))) o_add) (pa_c (px_var (pv 8) rfl) pa_n))))) (by rw [er]; rfl)) rfl ?_ ?_
            · rw [List.length_map, List.length_map, List.length_take]
              exact Nat.lt_of_lt_of_le (show min i cells.length < 10000 by omega) (szS (Nat.le_refl _))
            · refine blk_nil ⟨⟨_, _, _, _, _, rfl⟩, ?_⟩
              rw [et]
              show [ownL K p (roadsD _ ++ [roadD _])] = [ownL K p ((_ ++ [_]).map roadD)]
              rw [List.map_append]
              rfl
      · obtain ⟨⟨o4, o5, o6, o7, o8, rfl⟩, rfl⟩ := hI
        refine blk_nil (blk_ret (px_var (pv 3) rfl) ⟨p, rfl, ?_⟩)
        rw [List.length_map, List.take_length]
        show _ = [ownL K p (roadsD (roadsA hs long cells))]
        unfold roadsA
        rw [if_pos h2]
    · have h2 : ¬ 1 < hs.length := by
        have h' : ¬ (1 : Int) < ((housesD hs).length : Int) := of_decide_eq_false h
        have e : (housesD hs).length = hs.length := List.length_map ..
        omega
      refine blk_nil (blk_ret (px_var (pv 3) rfl) ⟨p, rfl, ?_⟩)
      show _ = [ownL K p (roadsD (roadsA hs long cells))]
      unfold roadsA
      rw [if_neg h2]
      rfl
end

end Lw
set_option Elab.async false
set_option linter.all false
set_option maxRecDepth 100000
set_option maxHeartbeats 4000000
namespace Lw
open PySem L2 Sx
inductive Exn where
  | NoNet
  | NoRoad
  deriving DecidableEq
def Exn.is_NoRoad : Exn → Bool
  | .NoNet => false
  | .NoRoad => true
def Exn.is_RoadError : Exn → Bool
  | .NoNet => true
  | .NoRoad => true

def Net_init_o_m (houses : List Str) (roads : List Road) : (List Str × List Road) :=
  lt houses fun names : List Str =>
  lt roads fun lines : List Road =>
  (names, lines)

def Net_road_m (self : List Str × List Road) (number : Int) : Road :=
  (self.2.getD (number).toNat ("", "", 0, 0))

def Net_road_x_m (self : List Str × List Road) (number : Int) : Except Exn Road :=
  cond (!((decide (0 ≤ number)) && (decide (number < (self.2.length : Int))))) (
    .error Exn.NoRoad) (
  .ok (self.2.getD (number).toNat ("", "", 0, 0)))

def Net_houses_m (self : List Str × List Road) : List Str :=
  self.1

def law_refused_m (net : List Str × List Road) (number : Int) : Bool :=
  lt none fun kept : Option Exn =>
  bndV (tryN (
      xb (Net_road_x_m net number) (fun v1 =>
        .nx kept) (fun e1 => .rt (.error e1))) (fun e : Exn => (some e))) fun t1 : Option Exn =>
  ((t1.any Exn.is_NoRoad) && (t1.any fun _ => true))

def law_told_m (net : List Str × List Road) (houses : List Str) (roads : List Road) : Bool :=
  lt (net.1 : List Str) fun some_2 =>
  lt (net.2 : List Road) fun others =>
  cond ((!true) || ((!true) || ((!(decide (some_2 = houses))) || (!(decide (others = roads)))))) (
    false) (
  bndV (loop (fun (s1 : Unit) (x1 : Int) =>
    cond (!decide ((Net_road_m net x1) = (roads.getD (x1).toNat ("", "", 0, 0)))) (
      .rt false) (
      .nx ())) (rngI 0 ((roads.length : Int) : Int).toNat) ()) fun s1 : Unit =>
  true)

def law_m (script : List Int) : Bool :=
  lt (housesA (cellAt script 0) ((cellAt script 0) % 13)) fun houses : List Str =>
  lt (roadsA houses 9 (cut script (some 1) (some 41))) fun roads : List Road =>
  lt (houses, roads) fun handed =>
  lt (handed.1, handed.2) fun net : List Str × List Road =>
  lt ((pickN houses (places houses.length none none (some (-1)))), ([] : List Road)) fun other : List Str × List Road =>
  cond (!decide (handed = (houses, roads))) (
    false) (
  lt (handed.1 ++ (["z"] : List Str)) fun handed_0 =>
  lt (handed.2 ++ ([("z", "y", 2, 2)] : List Road)) fun handed_1 =>
  cond ((!(law_told_m net houses roads)) || (!(law_told_m other (pickN houses (places houses.length none none (some (-1)))) ([])))) (
    false) (
  lt ((cellAt script 1) % 1000000000) fun far : Int =>
  bndV (loop (fun (s1 : Unit) (x1 : Int) =>
    cond (!(law_refused_m net x1)) (
      .rt false) (
      .nx ())) ([(roads.length : Int), (-1), ((roads.length : Int) + far), ((-1) - far)]) ()) fun s1 : Unit =>
  ((law_told_m net houses roads) && (law_refused_m other 0))))

end Lw
set_option Elab.async false
set_option linter.all false
set_option maxRecDepth 100000
set_option maxHeartbeats 4000000
namespace Lw
open PySem L2 Sx
theorem places_rev : ∀ n, n ≤ 12 → places n none none (some (-1)) = (List.range n).reverse := by decide
theorem pick_range {α : Type} : ∀ (xs ys : List α), (List.range' ys.length xs.length).filterMap (fun j => (ys ++ xs)[j]?) = xs
  | [], ys => rfl
  | x :: xs, ys => by
    rw [List.length_cons, List.range'_succ, List.filterMap_cons]
    have e : (ys ++ x :: xs)[ys.length]? = some x := by simp
    rw [e]
    have h := pick_range xs (ys ++ [x])
    rw [List.length_append, List.append_assoc] at h
    exact congrArg (x :: ·) h
theorem pickN_rev {α : Type} {xs : List α} (h : xs.length ≤ 12) : pickN xs (places xs.length none none (some (-1))) = xs.reverse := by
  rw [places_rev _ h]
  unfold pickN
  rw [List.filterMap_reverse, List.range_eq_range']
  have := pick_range xs []
  exact congrArg List.reverse this
theorem rev_ok {hs : List Str} (h : OkH hs) : OkG (pickN hs (places hs.length none none (some (-1))), []) := by
  rw [pickN_rev h.le]
  exact ⟨⟨fun x hx => h.ok x (List.mem_reverse.mp hx), List.pairwise_reverse.mpr (h.nd.imp fun a b => a b.symm), by rw [List.length_reverse]; exact h.le⟩, fun _ h => (by cases h), Nat.zero_le _⟩
theorem road_str {n : List Str × List Road} (h : OkG n) : ∀ r ∈ n.2, PySem.PyData.strOk r.1 = true ∧ PySem.PyData.strOk r.2.1 = true ∧ True ∧ True := fun r hr => ⟨(h.h.ok _ (h.r r hr).b).str, (h.h.ok _ (h.r r hr).e).str, trivial, trivial⟩
theorem told_true {hs : List Str} {rs : List Road} : law_told_m (hs, rs) hs rs = true := by
  unfold law_told_m
  simp only [lt_eq, decide_true]
  rw [loop_unit fun x hx => ?_]
  · rfl
  · have : Net_road_m (hs, rs) x = rs.getD x.toNat ("", "", 0, 0) := rfl
    rw [this, decide_eq_true rfl]
    rfl
theorem refused_true {n : List Str × List Road} {k : Int} (h : ¬ (0 ≤ k ∧ k < (n.2.length : Int))) : law_refused_m n k = true := by
  have e : Net_road_x_m n k = .error Exn.NoRoad := by
    unfold Net_road_x_m
    have : (!((decide (0 ≤ k)) && (decide (k < (n.2.length : Int))))) = true := by
      rw [Bool.not_eq_true']
      rw [Bool.eq_false_iff]
      intro q
      rw [Bool.and_eq_true, decide_eq_true_eq, decide_eq_true_eq] at q
      exact h q
    rw [this]; rfl
  unfold law_refused_m
  rw [e]
  rfl
theorem law_true (script : List Int) (_ : script.length ≤ 63) : law_m script = true := by
  unfold law_m
  simp only [lt_eq, decide_true]
  generalize roadsA (housesA (cellAt script 0) (cellAt script 0 % 13)) 9 (cut script (some 1) (some 41)) = rs
  generalize pickN (housesA (cellAt script 0) (cellAt script 0 % 13)) _ = os
  generalize housesA (cellAt script 0) (cellAt script 0 % 13) = hs
  rw [told_true, told_true]
  have hf : 0 ≤ cellAt script 1 % 1000000000 := Int.emod_nonneg _ (by decide)
  generalize cellAt script 1 % 1000000000 = far at hf
  have hl : ∀ x ∈ [(rs.length : Int), (-1), ((rs.length : Int) + far), ((-1) - far)], law_refused_m (hs, rs) x = true := fun x hx => refused_true (by
    simp only [List.mem_cons, List.not_mem_nil, or_false] at hx
    rintro ⟨h1, h2⟩
    have h2 : x < (rs.length : Int) := h2
    omega)
  rw [loop_unit fun x hx => ?_]
  · show (true && law_refused_m (os, []) 0) = true
    rw [refused_true (n := (os, [])) (by rintro ⟨_, h⟩; exact absurd (show (0 : Int) < 0 from h) (by decide))]
    rfl
  · rw [hl x hx]; rfl

end Lw
set_option Elab.async false
set_option linter.all false
set_option maxRecDepth 100000
set_option maxHeartbeats 4000000
namespace Lw
open PySem L2 Sx
section
variable {P : Program} {w : World} {K : PySem.W.Frag} {mg : Str → Option Value} {base : Heap} {c : Cs}

def Exn.xd (c : Cs) : Exn → Xd
  | .NoNet => ⟨c.NoNet, []⟩
  | .NoRoad => ⟨c.NoRoad, []⟩
theorem Exn.ec (T : Top K mg c) : ∀ e : Exn, ExcC K (e.xd c).C
  | .NoNet => T.x_NoNet.ec
  | .NoRoad => T.x_NoRoad.ec
theorem k_NoRoad (T : Top K mg c) : ∀ e : Exn, PySem.W.kitOne K (.ref (e.xd c).C) (.ref c.NoRoad) = some e.is_NoRoad
  | .NoNet => T.xk_NoNet_NoRoad
  | .NoRoad => T.xk_NoRoad_NoRoad
theorem m_RoadError (T : Top K mg c) : ∀ e : Exn, PySem.W.exmOne K (.ref (e.xd c).C) (.ref c.RoadError) = some e.is_RoadError
  | .NoNet => T.xm_NoNet_RoadError
  | .NoRoad => T.xm_NoRoad_RoadError
theorem k_ValueError (T : Top K mg c) : ∀ e : Exn, PySem.W.kitOne K (.ref (e.xd c).C) (.type "ValueError") = some true
  | .NoNet => T.xv_NoNet
  | .NoRoad => T.xv_NoRoad
end

section
variable {P : Program} {w : World} {K : PySem.W.Frag} {mg : Str → Option Value} {base : Heap} {c : Cs}

theorem g_Net_init_o (T : Top K mg c) : GloC P w K mg base 3 c.Net "Net" ["self", "houses", "roads"] (SpN K (fun a : Addr × List Str × List Road => OkG (a.2.1, a.2.2)) (fun a => [.adr a.1, ((lstE D.str) a.2.1), ((lstE roadD) a.2.2)]) (fun a => [ownI K a.1 c.Net []]) (fun a => OwnR (fun (i : Addr × Addr) (r : (List Str × List Road)) => (.non : D)) (fun (i : Addr × Addr) (r : (List Str × List Road)) => ([ownI K a.1 c.Net [("names", .adr i.1), ("lines", .adr i.2)], ownL K i.1 (r.1.map D.str), ownL K i.2 (r.2.map roadD)] : List Res))) (fun a => Net_init_o_m a.2.1 a.2.2)) :=
  gloc_of T.d_Net_init T.c_Net (fun _ _ _ _ _ _ us hl => match us, hl with | [_, _, _], _ => rfl) fun f fd F => fn_ok F cs_Net_init (fun _ => rfl) fun cdv A outer s H E a hr hok => by
    have nd := cs_Net_init.nd
    obtain ⟨p_self, houses, roads⟩ := a
    have hok : OkG (houses, roads) := hok
    refine Blk.imp (show Bo _ _ _ [some (D.adr p_self), some ((lstE D.str) houses), some ((lstE roadD) roads), none] [ownI K p_self c.Net []] (Rv (OwnR (fun (i : Addr × Addr) (r : (List Str × List Road)) => (.non : D)) (fun (i : Addr × Addr) (r : (List Str × List Road)) => ([ownI K p_self c.Net [("names", .adr i.1), ("lines", .adr i.2)], ownL K i.1 (r.1.map D.str), ownL K i.2 (r.2.map roadD)] : List Res)))) (Net_init_o_m houses roads) from ?_) (fun _ _ h => h) (fun _ _ h => h) (fun _ _ h => h.elim) (fun _ _ h => h.elim) (fun _ _ _ _ h => h.elim)
    unfold Net_init_o_m
    refine bo_ifD (ts_w (tw_or (ts_not (ts_val (px_call (g_are_houses T) hr (by decide) houses /-ok_are_houses_1-/(hok.h) (pa_c (px_var (pv 1) rfl) pa_n)))) fun hb2 => (tw_or (ts_not (ts_val (px_isT "list" "list" true T.z_isinstance T.z_list (px_var (pv 2) rfl)))) fun hb1 => (tw_or1 (ts_cmp op_gt (px_bi call_len_seq T.z_len (pa_c (px_var (pv 2) rfl) pa_n) (o_lenM .f)) (px_gi T.k_MOST_ROADS) o_gt))))) (by have h : roads.length ≤ 40 := hok.le; rw [decide_eq_false (by omega : ¬ ((40 : Int) < (roads.length : Int)))]; rfl) ?_
    -- if1f
    refine bo_ifD (ts_not (ts_val (px_bi (cr_all rfl) T.z_all (pa_c (px_lcM (own := [("one", 3)]) (is := [3]) roadD D.bl (fun z1 : Road => true) rfl nd (it_list (px_var (pv 2) rfl)) (blkOk_by (N := ns_Net_init) (sc := defScope s_Net_init) (by decide +kernel)) (fun _ _ _ _ _ => (pg_name (i := 3) nd rfl (.inl rfl))) (by decide) /-csz1-/(by have h : roads.length ≤ 40 := hok.le; omega) (fun i z1 hz1 => by
      have hz1m := List.mem_of_getElem? hz1
      have hz1l := (List.getElem?_eq_some_iff.mp hz1).1
      exact ⟨_, tg_name, fun _ _ _ _ _ => (px_call (g_is_road T) hr (by decide) (z1, houses) /-ok_is_road_1-/(⟨hok.h, hok.r _ hz1m⟩) (pa_c (px_var (pv 3) rfl) (pa_c (px_var (pv 1) rfl) pa_n)))⟩)) pa_n) (o_all .f)))) (by rw [show (roads.map fun _ : Road => true).all id = true by simp]; rfl) ?_
    -- if2f
    refine bo_fldO (n := fun _ => 1) (fs' := fun q_names names => [("names", .adr q_names)]) (dd := fun (q_names : Addr) (names : List Str) => D.adr q_names) (ll := fun (q_names : Addr) (names : List Str) => [ownL K q_names (names.map D.str), ownI K p_self c.Net []]) (ev_listOf (px_var (pv 1) rfl) .f T.z_list) (fun _ => (px_var (pv 0) rfl)) (fun _ => rfl) T.c_Net.cl T.n_Net_names (fun _ _ => putD_nil) (fun q_names names hnames => ?_)
    show Bo _ _ _ [some (D.adr p_self), some ((lstE D.str) houses), some ((lstE roadD) roads), none] [ownL K q_names (names.map D.str), ownI K p_self c.Net [("names", .adr q_names)]] _ _
    refine bo_fldO (n := fun _ => 2) (fs' := fun q_lines lines => [("names", .adr q_names), ("lines", .adr q_lines)]) (dd := fun (q_lines : Addr) (lines : List Road) => D.adr q_lines) (ll := fun (q_lines : Addr) (lines : List Road) => [ownL K q_lines (lines.map roadD), ownL K q_names (names.map D.str), ownI K p_self c.Net [("names", .adr q_names)]]) (ev_listOf (px_var (pv 2) rfl) .f T.z_list) (fun _ => (px_var (pv 0) rfl)) (fun _ => rfl) T.c_Net.cl T.n_Net_lines (fun _ _ => (putD_tl putD_nil)) (fun q_lines lines hlines => ?_)
    show Bo _ _ _ [some (D.adr p_self), some ((lstE D.str) houses), some ((lstE roadD) roads), none] [ownL K q_lines (lines.map roadD), ownL K q_names (names.map D.str), ownI K p_self c.Net [("names", .adr q_names), ("lines", .adr q_lines)]] _ _
    exact bo_endG (junk := []) (r := (names, lines)) (q_names, q_lines) rfl ((perm_at (k := 2) rfl).trans (.cons _ ((perm_at (k := 1) rfl).trans (.cons _ ((perm_at (k := 0) rfl).trans (.cons _ (.refl _)))))))
section
variable {X : Cx} {g : Gm} {l : List Res} {e1 : Expr} {es : List Expr} {p pos : Pos} {j : Nat}
theorem ev_new_Net (T : Top X.K X.mg c) (hr : Room j X.A) (hj : 4 ≤ j) (a : List Str × List Road) (hok : OkG (a.1, a.2)) (ha : Pa X (e1 :: es) g l [((lstE D.str) a.1), ((lstE roadD) a.2)]) (hg : Gl X "Net" := by rfl) (he : starEach (e1 :: es) X.env = (false, eval e1 X.env) :: starEach es X.env := by rfl) (hpl : (backTo pos (starEach es X.env)).any (·.1) = false := by rfl) :
    Ev X (.Call (.Name "Net" p) (e1 :: es) [] pos) g l (fun d l' => ∃ i : Addr × Addr × Addr, d = (fun (i : Addr × Addr × Addr) (_ : List Str × List Road) => D.adr i.1) i (Net_init_o_m a.1 a.2) ∧ l' = (fun (i : Addr × Addr × Addr) (r : List Str × List Road) => (([ownI X.K i.1 c.Net [("names", .adr i.2.1), ("lines", .adr i.2.2)], ownL X.K i.2.1 (r.1.map D.str), ownL X.K i.2.2 (r.2.map roadD)] : List Res) ++ l)) i (Net_init_o_m a.1 a.2)) :=
  ev_make (g_Net_init_o T) hr hj (fun q => (q, a.1, a.2)) (fun _ => hok) ha (fun _ => rfl) (fun _ => rfl) (fun q d l' ⟨i, h1, h2⟩ => ⟨h1, (q, i.1, i.2), rfl, by rw [h2]⟩) hg (by decide) he hpl
end

section
variable {X : Cx} {g g' : Gm} {l : List Res} {e1 e2 : Expr} {p pos : Pos} {j : Nat} {hs : List Str} {rs : List Road}
theorem sf_road {K : PySem.W.Frag} {r : Road} : Sf K (roadD r) := sf_tup fun d h => by
  rcases List.mem_cons.mp h with rfl | h
  · exact sf_str
  rcases List.mem_cons.mp h with rfl | h
  · exact sf_str
  rcases List.mem_cons.mp h with rfl | h
  · exact sf_int
  rcases List.mem_cons.mp h with rfl | h
  · exact sf_int
  cases h
theorem px_NetT (T : Top X.K X.mg c) (hr : Room j X.A) (hj : 4 ≤ j) (ok : OkG (hs, rs)) (hl : NtR l) (hg0 : RdG X.K l g g') (h1 : Px X e1 g' [] (.lst (housesD hs))) (h2 : Px X e2 g' [] (.lst (roadsD rs))) (hg : Gl X "Net" := by rfl) (he : starEach [e1, e2] X.env = (false, eval e1 X.env) :: starEach [e2] X.env := by rfl) (hs2 : starEach [e2] X.env = [(false, eval e2 X.env)] := by rfl) (hpl : (backTo pos (starEach [e2] X.env)).any (·.1) = false := by rfl) :
    Px X (.Call (.Name "Net" p) [e1, e2] [] pos) g l (netD c (hs, rs)) :=
  px_thaw hl hg0 (ev_new_Net T hr hj (hs, rs) ok (pa_c h1 (pa_c h2 pa_n hs2) he) hg he hpl) fun d0 l0 ⟨i, h1, h2⟩ => by
    subst h1; subst h2
    refine ⟨sf_adr, ?_, ?_⟩
    · refine sfr_c (sf_ownI ?_) (sfr_c (sf_ownL ?_) (sfr_c (sf_ownL ?_) sfr_nil))
      · intro q hq
        rcases List.mem_cons.mp hq with rfl | hq
        · exact sf_adr
        rcases List.mem_cons.mp hq with rfl | hq
        · exact sf_adr
        cases hq
      all_goals
        intro d hd
        obtain ⟨z, _, rfl⟩ := List.mem_map.mp hd
        first | exact sf_str | exact sf_road
    · exact rd_ins (k := 0) rfl (rdf_c (rd_own (k := 1) rfl) (rdf_c (rd_own (k := 2) rfl) rdf_nil))
end

theorem g_Net_road (T : Top K mg c) : GloM P w K mg base 1 c.Net "road" ["self", "number"] (Pu K (fun a : (List Str × List Road) × Int => (fun (self : List Str × List Road) (number : Int) => 0 ≤ number ∧ number < (self.2.length : Int)) a.1 a.2) (fun a => [((netD c) a.1), (D.int a.2)]) (fun a => (roadD (Net_road_m a.1 a.2)))) :=
  glom_of T.d_Net_road T.c_Net.cl (fun _ _ _ _ _ _ us hl => match us, hl with | [_, _], _ => rfl) fun f fd F => fn_ok F cs_Net_road (fun _ => rfl) fun cdv A outer s H E a hr hok => by
    have nd := cs_Net_road.nd
    obtain ⟨self, number⟩ := a
    have hok : 0 ≤ number ∧ number < (self.2.length : Int) := hok
    refine Blk.imp (show Bo _ _ _ [some ((netD c) self), some (D.int number)] _ (Rt (PuR roadD)) (Net_road_m self number) from ?_) (fun _ _ h => h.elim) (fun _ _ h => h) (fun _ _ h => h.elim) (fun _ _ h => h.elim) (fun _ _ _ _ h => h.elim)
    unfold Net_road_m
    refine bo_ifD (ts_not (ts_chain op_le op_lt px_int (px_var (pv 1) rfl) o_le (px_bi call_len_seq T.z_len (pa_c (px_fld (px_var (pv 0) rfl) T.c_Net.cl T.n_Net_lines look_lines) pa_n) (o_lenM .f)) (fun _ => o_lt))) (by rw [decide_eq_true hok.1, decide_eq_true hok.2]; rfl) ?_
    -- if1f
    exact bo_ret (px_ix ix_list (px_fld (px_var (pv 0) rfl) T.c_Net.cl T.n_Net_lines look_lines) (px_var (pv 1) rfl) (o_ixM roadD (x0 := ("", "", 0, 0)) .f /-lo1-/(by omega) /-hi1-/(by omega)))

theorem g_Net_road_x (T : Top K mg c) : GloMX P w K mg base 1 c.Net "road" ["self", "number"] (SpX K (fun a : (List Str × List Road) × Int => True) (fun a => [((netD c) a.1), (D.int a.2)]) (fun _ => []) (fun _ => PuR roadD) (fun a => Net_road_x_m a.1 a.2) (Exn.xd c)) :=
  glomx_of T.d_Net_road T.c_Net.cl (fun _ _ _ _ _ _ us hl => match us, hl with | [_, _], _ => rfl) fun f fd F => fn_okX F cs_Net_road (fun _ => rfl) fun cdv A outer s H E a hr hok => by
    have nd := cs_Net_road.nd
    obtain ⟨self, number⟩ := a
    refine Blk.imp (show Bo _ _ _ [some ((netD c) self), some (D.int number)] _ (Rt (XR K [] (PuR roadD) (Exn.xd c))) (Net_road_x_m self number) from ?_) (fun _ _ h => h.elim) (fun _ _ h => h) (fun _ _ h => h.elim) (fun _ _ h => h.elim) (fun _ _ _ _ h => xr_ex (fun _ _ _ _ _ h => h) h)
    unfold Net_road_x_m
    refine bo_ifR (ts_not (ts_chain op_le op_lt px_int (px_var (pv 1) rfl) o_le (px_bi call_len_seq T.z_len (pa_c (px_fld (px_var (pv 0) rfl) T.c_Net.cl T.n_Net_lines look_lines) pa_n) (o_lenM .f)) (fun _ => o_lt))) (fun hi1 => ?_) (fun hi1 => ?_)
    · -- if1t
      exact bo_raise rfl takes_cx T.x_NoRoad T.xi_NoRoad (by first | exact exto_rt0 (xc := Exn.xd c) (e0 := Exn.NoRoad) | exact exto_rv0 (xc := Exn.xd c) (e0 := Exn.NoRoad) | exact exto_ou0 (xc := Exn.xd c) (e0 := Exn.NoRoad) | exact exto_xt (xc := Exn.xd c) (e0 := Exn.NoRoad))
    · -- if1f
      have hr1 : 0 ≤ number ∧ number < (self.2.length : Int) := by simpa using hi1
      refine bo_ok ?_
      exact bo_ret (px_ix ix_list (px_fld (px_var (pv 0) rfl) T.c_Net.cl T.n_Net_lines look_lines) (px_var (pv 1) rfl) (o_ixM roadD (x0 := ("", "", 0, 0)) .f /-lo1-/(by omega) /-hi1-/(by omega)))

theorem g_Net_houses (T : Top K mg c) : GloM P w K mg base 1 c.Net "houses" ["self"] (Fr K (fun a : (List Str × List Road) => True) (fun a => [((netD c) a)]) (fun a => (Net_houses_m a).map D.str)) :=
  glom_of T.d_Net_houses T.c_Net.cl (fun _ _ _ _ _ _ us hl => match us, hl with | [_], _ => rfl) fun f fd F => fn_ok F cs_Net_houses (fun _ => rfl) fun cdv A outer s H E a hr hok => by
    have nd := cs_Net_houses.nd
    revert hok; revert a; intro self hok
    refine Blk.imp (show Bo _ _ _ [some ((netD c) self)] _ (Rt (FrR K D.str)) (Net_houses_m self) from ?_) (fun _ _ h => h.elim) (fun _ _ h => h) (fun _ _ h => h.elim) (fun _ _ h => h.elim) (fun _ _ _ _ h => h.elim)
    unfold Net_houses_m
    exact bo_retL (ev_listOf (px_fld (px_var (pv 0) rfl) T.c_Net.cl T.n_Net_names look_names) .f T.z_list)

section
variable {X : Cx} {g : Gm} {l : List Res} {o : Expr} {pos : Pos} {j : Nat}
theorem ev_houses {apos : Pos} {pl : Sem Bool} {n : List Str × List Road} (T : Top X.K X.mg c) (hr : Room j X.A) (hj : 1 ≤ j) (ok : n.1.length ≤ 40) (ho : Px X o g l (netD c n)) (ht : MthE X o "houses" apos pos [] pl := by rfl) : EvL X (.Call (.Attribute o "houses" apos) [] [] pos) g l (n.1.map D.str) :=
  ev_meth0 (lr := l) (own := fun _ => []) (g_Net_houses T) hr hj n trivial ho (rc_ins (look_none (by decide +kernel) (by decide +kernel))) rfl (fun d l' h => by
    obtain ⟨p, rfl, rfl⟩ := h
    exact ⟨p, rfl, rfl⟩) ht
end

theorem g_law_refused (T : Top K mg c) : Glo P w K mg base 4 "_law_refused" ["_law_net", "_law_number"] (Pu K (fun a : (List Str × List Road) × Int => True) (fun a => [((netD c) a.1), (D.int a.2)]) (fun a => (D.bl (law_refused_m a.1 a.2)))) :=
  glo_of T.d_law_refused (fun _ _ _ _ _ _ us hl => match us, hl with | [_, _], _ => rfl) fun f fd F => fn_ok F cs_law_refused (fun _ => rfl) fun cdv A outer s H E a hr hok => by
    have nd := cs_law_refused.nd
    obtain ⟨net, number⟩ := a
    refine Blk.imp (show Bo _ _ _ [some ((netD c) net), some (D.int number), none, none] _ (Rt (PuR D.bl)) (law_refused_m net number) from ?_) (fun _ _ h => h.elim) (fun _ _ h => h) (fun _ _ h => h.elim) (fun _ _ h => h.elim) (fun _ _ _ _ h => h.elim)
    unfold law_refused_m
    refine bo_set (optE (fun x : Exn => (Exn.xd c x).d)) nd (i := 2) rfl (.inl rfl) (Px.to px_non (rfl : _ = ((optE (fun x : Exn => (Exn.xd c x).d)) none))) (fun kept hkept => ?_)
    refine bo_tryNV (xc := Exn.xd c) (ks := [(c.RoadError, 3, 2)]) (GL := fun _ => []) (RL := fun _ => []) (fun t1 : Option Exn => [some ((netD c) net), some (D.int number), some ((optE (fun x : Exn => (Exn.xd c x).d)) t1), none]) (fun t1 : Option Exn => []) 3 2 takes_no nd (.cons rfl rfl rfl rfl (show (3 : Nat) ≠ 2 by decide) (by exact Nat.le_of_ble_eq_true rfl) (.inl rfl) (by decide) (by decide) ⟨rfl, by decide, .inl T.x_RoadError.nm⟩ (by intro Y e; rw [e]; rfl) .nil) (by simp) (fun W_1 pn_1 xe_1 t1_1 t2_1 => ?_) (fun _ _ _ _ _ h => h) (fun e Q he z => catch1 ((m_RoadError T e).trans (congrArg some /-caught1-/(by cases e <;> rfl))) z) (fun e he => ⟨(.keep (.keep (.keep (.any .nil)))), rfl⟩) (fun t1 ht1 => ?_)
    · -- try1
      refine bo_xb (fun v1 hv1 => ?_) (fun e1 he1 => ?_)
      · refine bo_do (px_methOk (g_Net_road_x T) hr (by decide) (net, number) /-ok_road_1-/(trivial) hv1 (px_var (pv 0) rfl) (look_none (by decide +kernel) (by decide +kernel)) (pa_c (px_var (pv 1) rfl) pa_n) rfl) ?_
        exact bo_nxO (.keep (.keep (.keep (.any .nil)))) rfl
      · exact bo_xexpr (exr_meth t1_1 (g_Net_road_x T) hr (by decide) (net, number) /-ok_road_1-/(trivial) he1 (px_var (pv 0) rfl) (look_none (by decide +kernel) (by decide +kernel)) (pa_c (px_var (pv 1) rfl) pa_n) rfl) (by first | exact exto_rt0 (xc := Exn.xd c) (e0 := e1) | exact exto_rv0 (xc := Exn.xd c) (e0 := e1) | exact exto_ou0 (xc := Exn.xd c) (e0 := e1) | exact exto_xt (xc := Exn.xd c) (e0 := e1))
    -- behind try1
    exact bo_ret (px_and (px_isX (xc := Exn.xd c) T.z_isinstance (px_var (pv 2) rfl) (px_cls T.x_NoRoad.nm) (.own c.NoRoad) (Exn.ec T) (k_NoRoad T) T.xn_NoRoad) fun hb1 => (px_one (px_isX (xc := Exn.xd c) (q := fun _ => true) T.z_isinstance (px_var (pv 2) rfl) (px_tyn T.z_ValueError) (.ty "ValueError") (Exn.ec T) (k_ValueError T) (kit_ty (by decide +kernel)))))

theorem g_law_told (T : Top K mg c) : Glo P w K mg base 4 "_law_told" ["_law_net", "_law_houses_here", "_law_roads_here"] (Pu K (fun a : (List Str × List Road) × List Str × List Road => (fun (net : List Str × List Road) (houses : List Str) (roads : List Road) => OkG net ∧ houses = net.1 ∧ roads = net.2) a.1 a.2.1 a.2.2) (fun a => [((netD c) a.1), ((lstE D.str) a.2.1), ((lstE roadD) a.2.2)]) (fun a => (D.bl (law_told_m a.1 a.2.1 a.2.2)))) :=
  glo_of T.d_law_told (fun _ _ _ _ _ _ us hl => match us, hl with | [_, _, _], _ => rfl) fun f fd F => fn_ok F cs_law_told (fun _ => rfl) fun cdv A outer s H E a hr hok => by
    have nd := cs_law_told.nd
    obtain ⟨net, houses, roads⟩ := a
    have hok : OkG net ∧ houses = net.1 ∧ roads = net.2 := hok
    have hl1 : net.1.length ≤ 12 := hok.1.h.le
    have hl2 : net.2.length ≤ 40 := hok.1.le
    have hl3 : roads.length ≤ 40 := by rw [hok.2.2]; exact hl2
    refine Blk.imp (show Bo _ _ _ [some ((netD c) net), some ((lstE D.str) houses), some ((lstE roadD) roads), none, none, none] _ (Rt (PuR D.bl)) (law_told_m net houses roads) from ?_) (fun _ _ h => h.elim) (fun _ _ h => h) (fun _ _ h => h.elim) (fun _ _ h => h.elim) (fun _ _ _ _ h => h.elim)
    unfold law_told_m
    refine bo_setL D.str nd (i := 3) rfl (.inl rfl) (ev_houses T hr (by decide) /-le1-/(by omega) (px_var (pv 0) rfl)) (fun q some_2 hsome_2 => ?_)
    have hsl : some_2.length ≤ 12 := by rw [hsome_2]; exact hl1
    refine bo_setL roadD nd (i := 4) rfl (.inl rfl) (ev_roads T hr (by decide) /-le2-/(by omega) (px_var (pv 0) rfl)) (fun q_2 others hothers => ?_)
    have hol : others.length ≤ 40 := by rw [hothers]; exact hl2
    refine bo_ifR (ts_w (tw_or (ts_not (ts_val (px_isO "list" true T.z_isinstance T.z_list (px_var (pv 3) rfl) (k := 1) rfl))) fun hb3 => (tw_or (ts_not (ts_val (px_isO "list" true T.z_isinstance T.z_list (px_var (pv 4) rfl) (k := 0) rfl))) fun hb2 => (tw_or (ts_cmp (op_neD hr.units) (px_var (pv 3) rfl) (px_var (pv 1) rfl) (o_neLE eqs_str (.o (k := 1) rfl) .f /-eqk1-/(by rw [hsome_2]; exact fun x h => (hok.1.h.ok x h).str) /-eqk2-/(by rw [hok.2.1]; exact fun x h => (hok.1.h.ok x h).str))) fun hb1 => (tw_or1 (ts_cmp (op_neD hr.units) (px_var (pv 4) rfl) (px_var (pv 2) rfl) (o_neLE (eqs_t4 (e := roadD) eqs_str eqs_str eqs_int eqs_int) (.o (k := 0) rfl) .f /-eqk3-/(by rw [hothers]; exact road_str hok.1) /-eqk4-/(by rw [hok.2.2]; exact road_str hok.1)))))))) (fun hi1 => ?_) (fun hi1 => ?_)
    · -- if1t
      refine bo_frz (i := 3) (kk := 1) rfl rfl ?_
      refine bo_frz (i := 4) (kk := 0) rfl rfl ?_
      exact bo_ret px_bl
    · -- if1f
      refine bo_forV (is := [5]) D.int (fun s1 : Unit => [some ((netD c) net), some ((lstE D.str) houses), some ((lstE roadD) roads), some (D.adr q), some (D.adr q_2), none]) (fun s1 : Unit => [ownL K q_2 (others.map roadD), ownL K q (some_2.map D.str)]) (fun _ _ => True) (fun _ => True) PassesOwn.never rfl (Itw.to (it_range (px_bi call_len_seq T.z_len (pa_c (px_var (pv 2) rfl) pa_n) (o_lenM .f)) /-rlo1-/(by omega) /-rhi1-/(by omega) T.z_range) rngI_map) (pg_name (i := 5) nd rfl (.inl rfl)) (.keep (.keep (.keep (.keep (.keep (.any .nil)))))) rfl trivial (fun i1 x1 s1 hx1 hp1 hj1 => ?_) (fun _ _ => trivial) (fun s1 hs1 hj1e => ?_)
      · -- for1
        have hx11 := (rngI_get hx1).1
        have hx12 := (rngI_get hx1).2
        refine ⟨⟨fun _ _ => trivial, fun _ _ => trivial, fun _ _ => trivial⟩, _, tg_name, ?_⟩
        refine bo_if (ts_cmp (op_neD hr.units) (px_meth (g_Net_road T) hr (by decide) (net, x1) /-ok_road_1-/(by dsimp only; rw [← hok.2.2]; omega) (px_var (pv 0) rfl) (look_none (by decide +kernel) (by decide +kernel)) (pa_c (px_var (pv 5) rfl) pa_n) rfl) (px_ix ix_list (px_var (pv 2) rfl) (px_var (pv 5) rfl) (o_ixM roadD (x0 := ("", "", 0, 0)) .f /-lo1-/(by omega) /-hi1-/(by omega))) (o_neE (eqs_t4 (e := roadD) eqs_str eqs_str eqs_int eqs_int) /-eqk5-/(road_str hok.1 _ (getD_mem (by omega) (by rw [← hok.2.2]; omega))) /-eqk6-/(by rw [hok.2.2]; exact road_str hok.1 _ (getD_mem (by omega) (by rw [← hok.2.2]; omega))))) (fun hi2 => ?_) (fun hi2 => ?_)
        · -- if2t
          refine bo_frz (i := 3) (kk := 1) rfl rfl ?_
          refine bo_frz (i := 4) (kk := 0) rfl rfl ?_
          exact bo_retO px_bl
        · -- if2f
          exact bo_nxO (.keep (.keep (.keep (.keep (.keep (.any .nil)))))) rfl
      -- behind for1
      refine bo_appJ (kk := 1) (px_var (pv 3) rfl) rfl px_str /-app2-/(by rw [List.length_map]; omega) ?_
      show Bo _ _ _ [some ((netD c) net), some ((lstE D.str) houses), some ((lstE roadD) roads), some (D.adr q), some (D.adr q_2), none] [ownL K q_2 (others.map roadD)] _ _
      refine bo_appJ (kk := 0) (px_var (pv 4) rfl) rfl (px_tup (pa_c px_str (pa_c px_str (pa_c px_int (pa_c px_int pa_n))))) /-app1-/(by rw [List.length_map]; omega) ?_
      show Bo _ _ _ [some ((netD c) net), some ((lstE D.str) houses), some ((lstE roadD) roads), some (D.adr q), some (D.adr q_2), none] [] _ _
      exact bo_ret px_bl

abbrev lvl : Nat := 6
theorem ok_law0 (T : Top K mg c) (H0 : ∀ ns : List Int, ns.length ≤ 63 → law_m ns = true) {f : Addr} {fd : FuncData} (F : Fun K "law" "law" s_law f fd) : FnOk P w K mg base CX0 lvl f fd ["_law_script"] (spL K) :=
  fn_ok F cs_law (fun _ => rfl) fun cdv A outer s H E a hr hok => by
    have nd := cs_law.nd
    revert hok; revert a; intro script hok
    have hok : script.length ≤ 63 := hok
    refine Blk.imp (show Bo _ _ _ [some (D.scr (script.map D.int)), none, none, none, none, none, none, none] _ (Rt (PuR D.bl)) (law_m script) from ?_) (fun _ _ h => h.elim) (fun _ _ h => ⟨h.1.trans (congrArg D.bl (H0 script hok)), h.2⟩) (fun _ _ h => h.elim) (fun _ _ h => h.elim) (fun _ _ _ _ h => h.elim)
    unfold law_m
    refine bo_set (lstE D.str) nd (i := 1) rfl (.inl rfl) (px_callL (g_housesA T) hr (by decide) ((cellAt script 0), ((cellAt script 0) % 13)) /-ok_houses_1-/(show 0 ≤ _ by omega) (pa_c (px_call (g_at T) hr (by decide) (script, 0) /-ok_at_1-/(by dsimp only; omega) (pa_c (px_var (pv 0) rfl) (pa_c px_int pa_n))) (pa_c (px_op op_mod (px_call (g_at T) hr (by decide) (script, 0) /-ok_at_2-/(by dsimp only; omega) (pa_c (px_var (pv 0) rfl) (pa_c px_int pa_n))) px_int (o_mod (j := 13))) pa_n))) (fun houses hhouses => ?_)
    have oh : OkH houses := by rw [hhouses]; exact housesA_ok (by omega)
    have hcl : (cut script (some 1) (some 41)).length ≤ 40 := cut_lenC (by decide) (by decide)
    have hrev : (pickN houses (places houses.length none none (some (-1)))).length ≤ 12 := (rev_ok oh).h.le
    refine bo_set (lstE roadD) nd (i := 2) rfl (.inl rfl) (px_callL (g_roadsA T) hr (by decide) ((cut script (some 1) (some 41)), houses, 9) /-ok_roads_1-/(⟨by dsimp only; omega, by dsimp only; omega⟩) (pa_c (px_slM D.int (px_var (pv 0) rfl) .s (pz_s px_int) (pz_s px_int)) (pa_c (px_var (pv 1) rfl) (pa_c px_int pa_n)))) (fun roads hroads => ?_)
    have og : OkG (houses, roads) := by rw [hroads]; exact roadsA_ok oh (by decide) hcl
    have h40 : roads.length ≤ 40 := og.le
    refine bo_setO (dd := fun (i : Addr × Addr × Unit) (r : List Str × List Road) => (D.lst [D.adr i.1, D.adr i.2.1] : D)) (ll := fun (i : Addr × Addr × Unit) (r : List Str × List Road) => ([ownL K i.2.1 (r.2.map roadD), ownL K i.1 (r.1.map D.str)] : List Res)) nd (i := 3) rfl (.inl rfl) (ev_lstX (pax_o (ev_listOf (px_var (pv 1) rfl) .f T.z_list) (fun j1_0 => (pax_o (ev_listOf (px_var (pv 2) rfl) .f T.z_list) (fun j2_1 => pax_z))))) (fun jhanded handed hhanded => ?_)
    have ogh : OkG (handed.1, handed.2) := by rw [hhanded]; exact og
    have hh1 : handed.1.length ≤ 12 := ogh.h.le
    have hh2 : handed.2.length ≤ 40 := ogh.le
    obtain ⟨q_handed_0, q_handed_1, _⟩ := jhanded
    show Bo _ _ _ [some (D.scr (script.map D.int)), some ((lstE D.str) houses), some ((lstE roadD) roads), some (D.lst [D.adr q_handed_0, D.adr q_handed_1]), none, none, none, none] [ownL K q_handed_1 (handed.2.map roadD), ownL K q_handed_0 (handed.1.map D.str)] _ _
    have ogh : OkG (handed.1, handed.2) := by rw [hhanded]; exact og
    have hh1 : handed.1.length ≤ 12 := ogh.h.le
    have hh2 : handed.2.length ≤ 40 := ogh.le
    refine bo_set (netD c) nd (i := 4) rfl (.inl rfl) (px_NetT (hs := handed.1) (rs := handed.2) T hr (by decide) /-net1-/(ogh) (ntr_c nt_ownL (ntr_c nt_ownL ntr_nil)) (rdg_c rdg_rf (i := 3) rfl (rd_lst (rda_c (rd_own (k := 1) rfl) (rda_c (rd_own (k := 0) rfl) rda_nil)))) (px_ix ix_list (px_var (pv 3) rfl) px_int (o_ixL (d := ((lstE D.str) handed.1)) rfl)) (px_ix ix_list (px_var (pv 3) rfl) px_int (o_ixL (d := ((lstE roadD) handed.2)) rfl))) (fun net hnet => ?_)
    refine bo_set (netD c) nd (i := 5) rfl (.inl rfl) (px_Net (hs := (pickN houses (places houses.length none none (some (-1))))) (rs := ([] : List Road)) T hr (by decide) /-net2-/(rev_ok oh) (px_strideM D.str (px_var (pv 1) rfl) .f pz_n pz_n (pz_s (px_un un_neg px_int o_neg)) (by decide) /-step1-/(Nat.le_trans hrev (by decide))) (px_lst pa_n)) (fun other hother => ?_)
    refine bo_ifR (ts_thaw (rdg_c rdg_rf (i := 3) rfl (rd_lst (rda_c (rd_own (k := 1) rfl) (rda_c (rd_own (k := 0) rfl) rda_nil)))) (ts_cmp (op_neD hr.units) (px_var (pv 3) rfl) (px_lst (pa_c (px_var (pv 1) rfl) (pa_c (px_var (pv 2) rfl) pa_n))) (o_neE (x := handed) (y := (houses, roads)) (eqs_h2 (e := (fun x : List Str × List Road => D.lst [((lstE D.str) x.1), ((lstE roadD) x.2)])) (eqs_lst eqs_str) (eqs_lst (eqs_t4 (e := roadD) eqs_str eqs_str eqs_int eqs_int))) /-eqk1-/(⟨fun x h => (ogh.h.ok x h).str, road_str ogh⟩) /-eqk2-/(⟨fun x h => (oh.ok x h).str, road_str og⟩)))) (fun hi1 => ?_) (fun hi1 => ?_)
    · -- if1t
      exact bo_ret px_bl
    · -- if1f
      refine bo_app (kk := 1) D.str (px_ix ix_list (px_var (pv 3) rfl) px_int (o_ixL (d := D.adr q_handed_0) rfl)) rfl px_str /-app2-/(by omega) (fun handed_0 hhanded_0 => ?_)
      refine bo_app (kk := 0) roadD (px_ix ix_list (px_var (pv 3) rfl) px_int (o_ixL (d := D.adr q_handed_1) rfl)) rfl (px_tup (pa_c px_str (pa_c px_str (pa_c px_int (pa_c px_int pa_n))))) /-app1-/(by omega) (fun handed_1 hhanded_1 => ?_)
      refine bo_ifR (ts_w (tw_or (ts_not (ts_val (px_call (g_law_told T) hr (by decide) (net, houses, roads) /-ok_told_1-/(⟨by rw [hnet]; exact ogh, by rw [hnet, hhanded], by rw [hnet, hhanded]⟩) (pa_c (px_var (pv 4) rfl) (pa_c (px_var (pv 1) rfl) (pa_c (px_var (pv 2) rfl) pa_n)))))) fun hb1 => (tw_or1 (ts_not (ts_val (px_call (g_law_told T) hr (by decide) (other, (pickN houses (places houses.length none none (some (-1)))), []) /-ok_told_2-/(⟨by rw [hother]; exact rev_ok oh, by rw [hother], by rw [hother]⟩) (pa_c (px_var (pv 5) rfl) (pa_c (px_strideM D.str (px_var (pv 1) rfl) .f pz_n pz_n (pz_s (px_un un_neg px_int o_neg)) (by decide) /-step2-/(Nat.le_trans hrev (by decide))) (pa_c (px_lst pa_n) pa_n))))))))) (fun hi2 => ?_) (fun hi2 => ?_)
      · -- if2t
        exact bo_ret px_bl
      · -- if2f
        refine bo_set D.int nd (i := 6) rfl (.inl rfl) (px_op op_mod (px_call (g_at T) hr (by decide) (script, 1) /-ok_at_3-/(by dsimp only; omega) (pa_c (px_var (pv 0) rfl) (pa_c px_int pa_n))) (Px.to (px_op op_pow px_int px_int o_pow) (rfl : _ = D.int 1000000000)) (o_mod (j := 1000000000))) (fun far hfar => ?_)
        refine bo_forV (is := [7]) D.int (fun s1 : Unit => [some (D.scr (script.map D.int)), some ((lstE D.str) houses), some ((lstE roadD) roads), some (D.lst [D.adr q_handed_0, D.adr q_handed_1]), some ((netD c) net), some ((netD c) other), some (D.int far), none]) (fun s1 : Unit => [ownL K q_handed_1 (handed_1.map roadD), ownL K q_handed_0 (handed_0.map D.str)]) (fun _ _ => True) (fun _ => True) PassesOwn.never rfl (it_list (px_lst (pa_c (px_bi call_len_seq T.z_len (pa_c (px_var (pv 2) rfl) pa_n) (o_lenM .f)) (pa_c (px_un un_neg px_int o_neg) (pa_c (px_op op_add (px_bi call_len_seq T.z_len (pa_c (px_var (pv 2) rfl) pa_n) (o_lenM .f)) (px_var (pv 6) rfl) o_add) (pa_c (px_op op_sub (px_un un_neg px_int o_neg) (px_var (pv 6) rfl) o_sub) pa_n)))))) (pg_name (i := 7) nd rfl (.inl rfl)) (.keep (.keep (.keep (.keep (.keep (.keep (.keep (.any .nil)))))))) rfl trivial (fun i1 x1 s1 hx1 hp1 hj1 => ?_) (fun _ _ => trivial) (fun s1 hs1 hj1e => ?_)
        · -- for1
          have hx1m := List.mem_of_getElem? hx1
          have hx1l := (List.getElem?_eq_some_iff.mp hx1).1
          refine ⟨⟨fun _ _ => trivial, fun _ _ => trivial, fun _ _ => trivial⟩, _, tg_name, ?_⟩
          refine bo_if (ts_not (ts_val (px_call (g_law_refused T) hr (by decide) (net, x1) /-ok_refused_1-/(trivial) (pa_c (px_var (pv 4) rfl) (pa_c (px_var (pv 7) rfl) pa_n))))) (fun hi3 => ?_) (fun hi3 => ?_)
          · -- if3t
            exact bo_retO px_bl
          · -- if3f
            exact bo_nxO (.keep (.keep (.keep (.keep (.keep (.keep (.keep (.any .nil)))))))) rfl
        -- behind for1
        exact bo_ret (px_and (px_call (g_law_told T) hr (by decide) (net, houses, roads) /-ok_told_3-/(⟨by rw [hnet]; exact ogh, by rw [hnet, hhanded], by rw [hnet, hhanded]⟩) (pa_c (px_var (pv 4) rfl) (pa_c (px_var (pv 1) rfl) (pa_c (px_var (pv 2) rfl) pa_n)))) fun hb2 => (px_one (px_call (g_law_refused T) hr (by decide) (other, 0) /-ok_refused_2-/(trivial) (pa_c (px_var (pv 5) rfl) (pa_c px_int pa_n)))))

end

end Lw
set_option Elab.async false
set_option linter.all false
set_option maxRecDepth 100000
set_option maxHeartbeats 4000000
namespace Lw
open PySem L2 Sx
section
variable {P : Program} {w : World} {K : PySem.W.Frag} {mg : Str → Option Value} {base : Heap} {c : Cs}
theorem ok_law (T : Top K mg c) {f : Addr} {fd : FuncData} (F : Fun K "law" "law" s_law f fd) : FnOk P w K mg base CX0 lvl f fd ["_law_script"] (spL K) := ok_law0 T law_true F
end

end Lw
open PySem PySem.W PySem.Calls PyProof.Rows
set_option maxHeartbeats 0 in
theorem PySem.Challenge.cw_postroad_k01_a_net_holds : PySem.Challenge.rw_postroad_k01_a_net.Holds := by
  w_on; o_law
  refine HandSHeadRun.head_any (r := OpenLaw.row PySem.Challenge.rw_postroad_k01_a_net) (q := view (OpenLaw.row PySem.Challenge.rw_postroad_k01_a_net).prog [23]) (H := Lw.hk) (ob := Lw.ob) (M := 20000) (loose := Lw.loose) (d := HandSHeadRun.topDef (OpenLaw.row PySem.Challenge.rw_postroad_k01_a_net).prog 23) (kwd := []) Lw.ob_eq
    (by kernel_rfl) (fun s => by kernel_rfl) Lw.run (by kernel_rfl) (by kernel_rfl) (by kernel_rfl) (by rfl) (by first | assumption | decide +kernel) (by decide +kernel) ⟨rfl, rfl, rfl, rfl, rfl, by decide +kernel⟩ ?hw ?hc
  case hw => w_witness2
  case hc =>
    refine L2.walk_ofE (l := PySem.Challenge.rw_postroad_k01_a_net) (n := 63) (k := Lw.lvl) (x := "_law_script") (CX := L2.CX0) rfl (by decide) (by kernel_rfl) ⟨rfl, by decide, by decide⟩ ?F (fun _ _ _ _ z => z)
    intro w mg fa h Y G hmg0
    obtain ⟨K, KX, c⟩ := Y
    have hmg : mg ("law" : PySem.Str) = some (.ref fa) := by
      have e : (HandSHeadRun.topDef (OpenLaw.row PySem.Challenge.rw_postroad_k01_a_net).prog 23).name = ("law" : PySem.Str) := by kernel_rfl
      rw [← e]
      exact hmg0
    have T := Lw.top_of KX G c
    obtain ⟨fd, hb, hF⟩ := Sx.law_end (P := (PySem.Challenge.rw_postroad_k01_a_net).prog) (w := w) (pn := "_law_script") (k := Lw.lvl) T.d_law hmg (fun _ _ _ _ _ _ s v => .of_eq rfl) (fun base h1 h2 f fd F => Lw.ok_law T F)
    exact ⟨K, fd, Sx.spLaw K, KX, hb, fun H a ns hl _ hS => ⟨a, ns, rfl, hS, hl, fun _ => rfl⟩, hF⟩
