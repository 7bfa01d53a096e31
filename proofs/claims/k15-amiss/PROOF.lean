import PyProof.Rows.All
import Wide.All
import OpenK.AllK
import Wide.FinOn
import HandS.ForMost
import HandS.Exc
import HandS.WordsExc
import HandS.IsInst
import HandS.Conv
import HandS.Text
import HandS.TupAny
import HandS.Steps
import HandS.SortInts
import HandS.DictComp
import KE.KIsAll
import HandS.ExcOwn
import HandS.ExcIs
import HandS.ExcInit
import HandS.TryOnly
import KE.KExcIs
import KE.KSortTupG
import KE.KSortTupUse
import HandS.Iter
import HandS.DictTup
import HandS.SetKeys
import HandS.More
import HandS.SortKw
import KE.DataMinMax
import HandS.TupLe
import HandS.SetFor
import HandS.Strs
import HandS.Flow
import HandS.TupLen
import PyProof.DictMoreH
import HandS.Deep
import PyProof.ZipIter
import HandS.Set
import PyProof.Rows.SortStr
import HandS.WordsDict
import KE.GoesRaise
import Lean
import KE.KStateDown
import HandS.Defaults
import HandS.Head0
import HandS.Head1
import HandS.Head2
import HandS.HeadEnd
import HandS.HeadHook1
import HandS.HeadHook2
import HandS.HeadHook3
import HandS.HeadHook4
import KE.GoesEnum
import PySem.Challenge.RW_postroad_k15_the_bag_amiss
set_option Elab.async false
set_option linter.all false
set_option maxRecDepth 100000
set_option maxHeartbeats 2000000
/-! Frozen data, owned cells, states: a small separation logic over the layer's readings. -/
namespace Sx
open PySem L2

/-! ### heaps -/
/-- B knows all that A knows -/
def Ex (A B : Hp) : Prop := ∀ x u, A x = some u → B x = some u
theorem Ex.rf {A : Hp} : Ex A A := fun _ _ q => q
theorem Ex.tr {A B C : Hp} (p : Ex A B) (q : Ex B C) : Ex A C := fun x u z => q x u (p x u z)
theorem Ex.mut {A B : Hp} {q : Addr} {u : HO} (s : Ex A B) (n : A q = none) : Ex A (upd B q u) := fun x v z => (upd_ne (ne_of_none z n)).trans (s x v z)
theorem Ex.new {A : Hp} {q : Addr} {u : HO} (n : A q = none) : Ex A (upd A q u) := Ex.rf.mut n
theorem Ex.free {A B : Hp} (s : Ex A B) {q : Addr} (n : B q = none) : A q = none := Option.eq_none_iff_forall_ne_some.mpr fun u z => by
  rw [s q u z] at n; cases n
theorem Ex.upd2 {A B : Hp} {q : Addr} {u : HO} (s : Ex A B) : Ex (upd A q u) (upd B q u) := fun x v z => by
  by_cases k : x = q
  · subst k; rw [upd_same] at z ⊢; exact z
  · rw [upd_ne k] at z ⊢; exact s x v z
theorem ex_rd {A B : Hp} {x : Addr} {u : HO} (s : Ex A B) : Rd A x u → Rd B x u := Or.imp (s x _) fun ⟨o, z⟩ => ⟨o, s x _ z⟩
theorem ex_l {K : PySem.W.Frag} {A B : Hp} {x : Addr} {vs : List V} (s : Ex A B) : SqL K A x vs → SqL K B x vs := Or.imp (ex_rd s) id
theorem ex_t {K : PySem.W.Frag} {A B : Hp} {x : Addr} {vs : List V} (s : Ex A B) : SqT K A x vs → SqT K B x vs := Or.imp (ex_rd s) id
def emp : Hp := fun _ => none
def one (p : Addr) (o : HO) : Hp := upd emp p o
def join (A B : Hp) : Hp := fun a => match A a with | some o => some o | none => B a
theorem join_l {A B : Hp} {a : Addr} {o : HO} (h : A a = some o) : join A B a = some o := by unfold join; rw [h]
theorem join_r {A B : Hp} {a : Addr} (h : A a = none) : join A B a = B a := by unfold join; rw [h]
theorem join_emp (A : Hp) : join A emp = A := by
  funext a; unfold join emp; cases A a <;> rfl
theorem emp_join (A : Hp) : join emp A = A := by
  funext a; unfold join emp; rfl
theorem join_some {A B : Hp} {a : Addr} {o : HO} (h : join A B a = some o) : A a = some o ∨ (A a = none ∧ B a = some o) := by
  unfold join at h
  cases q : A a with
  | some u => rw [q] at h; exact .inl h
  | none => rw [q] at h; exact .inr ⟨rfl, h⟩
theorem join_none {A B : Hp} {a : Addr} (h : join A B a = none) : A a = none ∧ B a = none := by
  unfold join at h
  cases q : A a with
  | some u => rw [q] at h; cases h
  | none => rw [q] at h; exact ⟨rfl, h⟩
theorem join_assoc (A B C : Hp) : join (join A B) C = join A (join B C) := by
  funext a; unfold join; cases A a <;> rfl
/-- nothing in common -/
def Dj (A B : Hp) : Prop := ∀ a o, A a = some o → B a = none
theorem Dj.sym {A B : Hp} (h : Dj A B) : Dj B A := fun a o e => by
  cases q : A a with
  | none => rfl
  | some u => rw [h a u q] at e; cases e
theorem Dj.comm {A B : Hp} (h : Dj A B) : join A B = join B A := by
  funext a
  unfold join
  cases q : A a with
  | none => cases B a <;> rfl
  | some u => rw [h a u q]
theorem Dj.emp (A : Hp) : Dj A emp := fun _ _ _ => rfl
theorem Dj.l {A B C : Hp} (h : Dj (join A B) C) : Dj A C := fun a o e => h a o (join_l e)
theorem Dj.r {A B C : Hp} (d : Dj A B) (h : Dj (join A B) C) : Dj B C := fun a o e => h a o (by rw [join_r (d.sym a o e)]; exact e)
theorem Dj.joinL {A B C : Hp} (h : Dj A C) (k : Dj B C) : Dj (join A B) C := fun a o e => by
  rcases join_some e with q | ⟨_, q⟩
  · exact h a o q
  · exact k a o q
theorem Ex.joinL {A B H : Hp} (h : Ex (join A B) H) : Ex A H := fun a o e => h a o (join_l e)
theorem Ex.joinR {A B H : Hp} (d : Dj A B) (h : Ex (join A B) H) : Ex B H := fun a o e => h a o (by rw [join_r (d.sym a o e)]; exact e)
theorem Ex.join {A B H : Hp} (h : Ex A H) (k : Ex B H) : Ex (join A B) H := fun a o e => by
  rcases join_some e with q | ⟨_, q⟩
  · exact h a o q
  · exact k a o q
theorem one_same {p : Addr} {o : HO} : one p o p = some o := upd_same
theorem one_some {p a : Addr} {o u : HO} (h : one p o a = some u) : a = p ∧ u = o := by
  unfold one upd emp at h
  by_cases e : a = p
  · rw [if_pos e] at h; exact ⟨e, (Option.some.inj h).symm⟩
  · rw [if_neg e] at h; cases h
theorem one_ne {p a : Addr} {o : HO} (h : a ≠ p) : one p o a = none := by
  unfold one; rw [upd_ne h]; rfl
/-! ### frozen data -/
/-- an exception, tracked -/
def exO (a : Addr) (cls : Value) (d : Option Addr) : HO := .ext fun h => ∃ oe, h.get? a = some oe ∧ Zc cls d oe ∧ ∃ vs, oe.data = .fields vs
inductive D where
  | non | bl (b : Bool) | int (i : Int) | str (x : Str) | adr (a : Addr) | ty (n : String)
  | lst (ds : List D) | tup (ds : List D) | ins (C : Addr) (fs : List (Str × D)) | scr (ds : List D) | dK (kvs : List (Key × D)) | dT (kvs : List (List Key × D)) | exc (C : Addr) (fs : List (Str × D)) | kt (k : List Key)

mutual
inductive Fd (K : PySem.W.Frag) (F : Hp) : V → D → Prop
  | non : Fd K F .non .non
  | bl (b : Bool) : Fd K F (.bl b) (.bl b)
  | int (i : Int) : Fd K F (.int i) (.int i)
  | str (x : Str) : Fd K F (.str x) (.str x)
  | adr (a : Addr) : Fd K F (.ref a) (.adr a)
  | ty (n : String) : Fd K F (.ty n) (.ty n)
  | lst {a : Addr} {vs : List V} {ds : List D} : F a = some (.lst vs) → FdAll K F vs ds → Fd K F (.ref a) (.lst ds)
  | tup {a : Addr} {vs : List V} {ds : List D} : SqT K F a vs → FdAll K F vs ds → Fd K F (.ref a) (.tup ds)
  | ins {a C dx : Addr} {vs : List (Str × V)} {fs : List (Str × D)} : F a = some (.ins C dx vs) → FdFs K F vs fs → Fd K F (.ref a) (.ins C fs)
  | scr {a : Addr} {vs : List V} {ds : List D} : SqL K F a vs → FdAll K F vs ds → Fd K F (.ref a) (.scr ds)
  | dK {a : Addr} {vs : List (Key × V)} {kvs : List (Key × D)} : F a = some (.dK vs) → FdFs K F vs kvs → Fd K F (.ref a) (.dK kvs)
  | dT {a : Addr} {vs : List (List Key × V)} {kvs : List (List Key × D)} : F a = some (.dT vs) → FdFs K F vs kvs → Fd K F (.ref a) (.dT kvs)
  | exc {a C : Addr} {vs : List (Str × V)} {fs : List (Str × D)} {d : Option Addr} : F a = some (exO a (.ref C) d) → (d = none ∧ vs = [] ∨ ∃ dx, d = some dx ∧ F dx = some (.xd vs)) → FdFs K F vs fs → Fd K F (.ref a) (.exc C fs)
  | kt {a : Addr} {k : List Key} : F a = some (.tup (k.map kV)) → Fd K F (.ref a) (.kt k)
inductive FdAll (K : PySem.W.Frag) (F : Hp) : List V → List D → Prop
  | nil : FdAll K F [] []
  | cons {v : V} {vs : List V} {d : D} {ds : List D} : Fd K F v d → FdAll K F vs ds → FdAll K F (v :: vs) (d :: ds)
inductive FdFs (K : PySem.W.Frag) (F : Hp) : {κ : Type} → List (κ × V) → List (κ × D) → Prop
  | nil {κ : Type} : FdFs K F (κ := κ) [] []
  | cons {κ : Type} {n : κ} {v : V} {vs : List (κ × V)} {d : D} {ds : List (κ × D)} : Fd K F v d → FdFs K F vs ds → FdFs K F ((n, v) :: vs) ((n, d) :: ds)
end

section
variable {K : PySem.W.Frag} {F F' : Hp}
mutual
theorem Fd.go (e : Ex F F') : ∀ {v : V} {d : D}, Fd K F v d → Fd K F' v d
  | _, _, .non => .non
  | _, _, .bl _ => .bl _
  | _, _, .int _ => .int _
  | _, _, .str _ => .str _
  | _, _, .adr _ => .adr _
  | _, _, .ty _ => .ty _
  | _, _, .lst s a => .lst (e _ _ s) (FdAll.go e a)
  | _, _, .tup s a => .tup (ex_t e s) (FdAll.go e a)
  | _, _, .ins s a => .ins (e _ _ s) (FdFs.go e a)
  | _, _, .scr s a => .scr (ex_l e s) (FdAll.go e a)
  | _, _, .dK s a => .dK (e _ _ s) (FdFs.go e a)
  | _, _, .dT s a => .dT (e _ _ s) (FdFs.go e a)
  | _, _, .exc s q a => .exc (e _ _ s) (q.imp id fun ⟨dx, h1, h2⟩ => ⟨dx, h1, e _ _ h2⟩) (FdFs.go e a)
  | _, _, .kt s => .kt (e _ _ s)
theorem FdAll.go (e : Ex F F') : ∀ {vs : List V} {ds : List D}, FdAll K F vs ds → FdAll K F' vs ds
  | _, _, .nil => .nil
  | _, _, .cons a b => .cons (Fd.go e a) (FdAll.go e b)
theorem FdFs.go (e : Ex F F') : ∀ {κ : Type} {vs : List (κ × V)} {ds : List (κ × D)}, FdFs K F vs ds → FdFs K F' vs ds
  | _, _, _, .nil => .nil
  | _, _, _, .cons a b => .cons (Fd.go e a) (FdFs.go e b)
end
theorem Fd.mono (e : Ex F F') (d : D) {v : V} (h : Fd K F v d) : Fd K F' v d := Fd.go e h
theorem FdAll.mono (e : Ex F F') (ds : List D) {vs : List V} (h : FdAll K F vs ds) : FdAll K F' vs ds := FdAll.go e h
theorem FdFs.mono {κ : Type} (e : Ex F F') (ds : List (κ × D)) {vs : List (κ × V)} (h : FdFs K F vs ds) : FdFs K F' vs ds := FdFs.go e h
theorem FdAll.length : ∀ {vs : List V} {ds : List D}, FdAll K F vs ds → vs.length = ds.length
  | _, _, .nil => rfl
  | _, _, .cons _ t => by rw [List.length_cons, List.length_cons, FdAll.length t]
theorem FdAll.get : ∀ {vs : List V} {ds : List D} {i : Nat} {d : D}, FdAll K F vs ds → ds[i]? = some d → ∃ v, vs[i]? = some v ∧ Fd K F v d
  | _, _, i, _, .nil, e => by simp at e
  | _, _, 0, _, .cons h _, e => by simp at e; subst e; exact ⟨_, rfl, h⟩
  | _, _, i + 1, _, .cons _ t, e => by
    obtain ⟨v, h1, h2⟩ := FdAll.get (i := i) t (by simpa using e)
    exact ⟨v, by simpa using h1, h2⟩
theorem FdAll.app : ∀ {vs ws : List V} {ds es : List D}, FdAll K F vs ds → FdAll K F ws es → FdAll K F (vs ++ ws) (ds ++ es)
  | _, _, _, _, .nil, h => h
  | _, _, _, _, .cons h t, k => .cons h (FdAll.app t k)
theorem FdAll.take : ∀ {vs : List V} {ds : List D} (n : Nat), FdAll K F vs ds → FdAll K F (vs.take n) (ds.take n)
  | _, _, 0, _ => by simp; exact .nil
  | _, _, _ + 1, .nil => by simp; exact .nil
  | _, _, n + 1, .cons h t => .cons h (FdAll.take n t)
theorem FdAll.drop : ∀ {vs : List V} {ds : List D} (n : Nat), FdAll K F vs ds → FdAll K F (vs.drop n) (ds.drop n)
  | _, _, 0, h => h
  | _, _, _ + 1, .nil => by simp; exact .nil
  | _, _, n + 1, .cons _ t => FdAll.drop n t
theorem FdAll.set : ∀ {vs : List V} {ds : List D} (n : Nat) {v : V} {d : D}, FdAll K F vs ds → Fd K F v d → FdAll K F (vs.set n v) (ds.set n d)
  | _, _, _, _, _, .nil, _ => .nil
  | _, _, 0, _, _, .cons _ t, k => .cons k t
  | _, _, n + 1, _, _, .cons h t, k => .cons h (FdAll.set n t k)
theorem FdAll.replicate {v : V} {d : D} (h : Fd K F v d) : ∀ n, FdAll K F (List.replicate n v) (List.replicate n d)
  | 0 => .nil
  | n + 1 => .cons h (FdAll.replicate h n)
theorem FdFs.names {κ : Type} : ∀ {vs : List (κ × V)} {ds : List (κ × D)}, FdFs K F vs ds → vs.map (·.1) = ds.map (·.1)
  | _, _, .nil => rfl
  | _, _, .cons _ t => by rw [List.map_cons, List.map_cons, FdFs.names t]
theorem FdFs.length {κ : Type} {vs : List (κ × V)} {ds : List (κ × D)} (h : FdFs K F vs ds) : vs.length = ds.length := by
  have e := congrArg List.length h.names
  rw [List.length_map, List.length_map] at e
  exact e
theorem FdFs.look {f : Str} {d : D} : ∀ {vs : List (Str × V)} {ds : List (Str × D)}, FdFs K F vs ds → ds.lookup f = some d → ∃ v, vs.lookup f = some v ∧ Fd K F v d
  | _, _, .nil, e => by simp at e
  | _, _, .cons (n := n) h t, e => by
    rw [List.lookup_cons] at e ⊢
    cases q : (f == n) with
    | true => rw [q] at e; cases e; exact ⟨_, rfl, h⟩
    | false => rw [q] at e; exact FdFs.look t e
theorem FdFs.nolook {f : Str} : ∀ {vs : List (Str × V)} {ds : List (Str × D)}, FdFs K F vs ds → ds.lookup f = none → vs.lookup f = none
  | _, _, .nil, _ => rfl
  | _, _, .cons (n := n) h t, e => by
    rw [List.lookup_cons] at e ⊢
    cases q : (f == n) with
    | true => rw [q] at e; cases e
    | false => rw [q] at e; exact FdFs.nolook t e
def putD (f : Str) (d : D) : List (Str × D) → List (Str × D)
  | [] => [(f, d)]
  | (g, x) :: r => if g = f then (g, d) :: r else (g, x) :: putD f d r
theorem FdFs.put {f : Str} {v : V} {d : D} (k : Fd K F v d) : ∀ {vs : List (Str × V)} {ds : List (Str × D)}, FdFs K F vs ds → FdFs K F (putF f v vs) (putD f d ds)
  | _, _, .nil => .cons k .nil
  | _, _, .cons (n := n) h t => by
    unfold putF putD
    by_cases e : n = f
    · rw [if_pos e, if_pos e]; exact .cons k t
    · rw [if_neg e, if_neg e]; exact .cons h (FdFs.put k t)
theorem FdAll.ints : ∀ {vs : List V} {ns : List Int}, FdAll K F vs (ns.map D.int) → vs = ns.map V.int
  | _, [], h => by cases h; rfl
  | _, n :: ns, h => by cases h with | cons a b => cases a; rw [List.map_cons, FdAll.ints b]
theorem FdAll.bls : ∀ {vs : List V} {ns : List Bool}, FdAll K F vs (ns.map D.bl) → vs = ns.map V.bl
  | _, [], h => by cases h; rfl
  | _, n :: ns, h => by cases h with | cons a b => cases a; rw [List.map_cons, FdAll.bls b]
theorem FdAll.ofInts : ∀ (ns : List Int), FdAll K F (ns.map V.int) (ns.map D.int)
  | [] => .nil
  | n :: ns => .cons (.int n) (FdAll.ofInts ns)
end

/-! ### owned cells -/
structure Res where
  P : Hp → Hp → Prop
  mono : ∀ {F F' M : Hp}, Ex F F' → P F M → P F' M
  nt : ∀ {F M : Hp}, P F M → ∀ x xs, M x ≠ some (.tup xs)
def Rs : List Res → Hp → Hp → Prop
  | [], _, M => M = emp
  | r :: l, F, M => ∃ A B, M = join A B ∧ Dj A B ∧ r.P F A ∧ Rs l F B
theorem Rs.mono {F F' : Hp} (e : Ex F F') : ∀ {l : List Res} {M : Hp}, Rs l F M → Rs l F' M
  | [], _, h => h
  | r :: l, _, ⟨A, B, h1, h2, h3, h4⟩ => ⟨A, B, h1, h2, r.mono e h3, Rs.mono e h4⟩
theorem Rs.nt {F : Hp} : ∀ {l : List Res} {M : Hp}, Rs l F M → ∀ x xs, M x ≠ some (.tup xs)
  | [], M, h, x, xs, e => by
    have h : M = emp := h
    subst h; cases e
  | r :: l, M, ⟨A, B, h1, _, h3, h4⟩, x, xs, e => by
    subst h1
    rcases join_some e with q | ⟨_, q⟩
    · exact r.nt h3 x xs q
    · exact Rs.nt h4 x xs q
theorem Rs.split {F : Hp} : ∀ {l k : List Res} {M : Hp}, Rs (l ++ k) F M → ∃ A B, M = join A B ∧ Dj A B ∧ Rs l F A ∧ Rs k F B
  | [], _, M, h => ⟨emp, M, (emp_join M).symm, (Dj.emp M).sym, rfl, h⟩
  | r :: l, k, M, ⟨A, B, h1, h2, h3, h4⟩ => by
    obtain ⟨A', B', g1, g2, g3, g4⟩ := Rs.split h4
    subst g1
    refine ⟨join A A', B', by rw [h1, join_assoc], ?_, ⟨A, A', rfl, (Dj.l h2.sym).sym, h3, g3⟩, g4⟩
    exact Dj.joinL ((Dj.r g2 h2.sym).sym) g2
theorem Rs.app {F : Hp} : ∀ {l k : List Res} {A B : Hp}, Rs l F A → Rs k F B → Dj A B → Rs (l ++ k) F (join A B)
  | [], _, _, _, h, g, _ => by
    have e : _ = emp := h
    subst e
    rw [emp_join]; exact g
  | r :: l, k, _, B, ⟨A1, A2, h1, h2, h3, h4⟩, g, d => by
    subst h1
    rw [join_assoc]
    refine ⟨A1, join A2 B, rfl, ?_, h3, Rs.app h4 g (Dj.r h2 d)⟩
    exact (Dj.joinL h2.sym (Dj.l d).sym).sym
/-- the k-th one apart -/
theorem Rs.at {F : Hp} : ∀ {l : List Res} {k : Nat} {r : Res} {M : Hp}, l[k]? = some r → Rs l F M → ∃ A B, M = join A B ∧ Dj A B ∧ r.P F A ∧ ∀ r' A' F', Ex F F' → r'.P F' A' → Dj A' B → Rs (l.set k r') F' (join A' B)
  | [], k, r, M, e, _ => by simp at e
  | r0 :: l, 0, r, M, e, ⟨A, B, h1, h2, h3, h4⟩ => by
    simp at e; subst e
    exact ⟨A, B, h1, h2, h3, fun r' A' F' x p d => ⟨A', B, rfl, d, p, Rs.mono x h4⟩⟩
  | r0 :: l, k + 1, r, M, e, ⟨A, B, h1, h2, h3, h4⟩ => by
    obtain ⟨A2, B2, g1, g2, g3, g4⟩ := Rs.at (k := k) (r := r) (by simpa using e) h4
    subst g1
    refine ⟨A2, join A B2, ?_, ?_, g3, fun r' A' F' x p d => ?_⟩
    · rw [h1, ← join_assoc, ← join_assoc, (Dj.l h2.sym).comm]
    · exact (Dj.joinL (Dj.l h2.sym).sym g2.sym).sym
    · rw [List.set_cons_succ]
      have dA : Dj A A' := Dj.l d.sym
      have dAB : Dj A B2 := (Dj.r g2 h2.sym).sym
      have dB : Dj A' B2 := (Dj.r dAB d.sym).sym
      refine ⟨A, join A' B2, ?_, ?_, r0.mono x h3, g4 r' A' F' x p dB⟩
      · rw [← join_assoc, ← join_assoc, dA.comm]
      · exact (Dj.joinL dA.sym dAB.sym).sym

/-! ### states -/
structure Tm where
  P : Hp → Prop
  mono : ∀ {F F' : Hp}, Ex F F' → P F → P F'
def Tm.tt : Tm := ⟨fun _ => True, fun _ _ => trivial⟩
def Tm.and (K : PySem.W.Frag) (T : Tm) (v : V) (d : D) : Tm := ⟨fun F => Fd K F v d ∧ T.P F, fun e h => ⟨Fd.mono e d h.1, T.mono e h.2⟩⟩
def Tm.ands (K : PySem.W.Frag) (T : Tm) (vs : List V) (ds : List D) : Tm := ⟨fun F => FdAll K F vs ds ∧ T.P F, fun e h => ⟨FdAll.mono e ds h.1, T.mono e h.2⟩⟩
def Tm.ex (T : Tm) (F0 : Hp) : Tm := ⟨fun F => Ex F0 F ∧ T.P F, fun e h => ⟨h.1.tr e, T.mono e h.2⟩⟩
abbrev Gm := List (Option D)
def nth : Gm → Nat → Option D
  | [], _ => none
  | d :: _, 0 => d
  | _ :: r, i + 1 => nth r i
inductive Sl (K : PySem.W.Frag) (F : Hp) : Gm → St → Prop
  | nil : Sl K F [] []
  | any {o : Option V} {g : Gm} {σ : St} : Sl K F g σ → Sl K F (none :: g) (o :: σ)
  | cons {v : V} {d : D} {g : Gm} {σ : St} : Fd K F v d → Sl K F g σ → Sl K F (some d :: g) (some v :: σ)
section
variable {K : PySem.W.Frag} {F F' : Hp}
theorem Sl.mono (e : Ex F F') : ∀ {g : Gm} {σ : St}, Sl K F g σ → Sl K F' g σ
  | _, _, .nil => .nil
  | _, _, .any h => .any (Sl.mono e h)
  | _, _, .cons a h => .cons (Fd.mono e _ a) (Sl.mono e h)
theorem Sl.nth : ∀ {g : Gm} {σ : St} {i : Nat} {d : D}, Sl K F g σ → Sx.nth g i = some d → ∃ v, σ[i]? = some (some v) ∧ Fd K F v d
  | _, _, _, _, .nil, e => by cases e
  | _, _, 0, _, .any _, e => by cases e
  | _, _, i + 1, d, .any h, e => by
    obtain ⟨v, h1, h2⟩ := Sl.nth (i := i) (d := d) h e
    exact ⟨v, by simpa using h1, h2⟩
  | _, _, 0, _, .cons a _, e => by cases e; exact ⟨_, rfl, a⟩
  | _, _, i + 1, d, .cons _ h, e => by
    obtain ⟨v, h1, h2⟩ := Sl.nth (i := i) (d := d) h e
    exact ⟨v, by simpa using h1, h2⟩
theorem Sl.set : ∀ {g : Gm} {σ : St} (i : Nat) {v : V} {d : D}, Sl K F g σ → Fd K F v d → Sl K F (g.set i (some d)) (σ.set i (some v))
  | _, _, _, _, _, .nil, _ => .nil
  | _, _, 0, _, _, .any h, k => .cons k h
  | _, _, i + 1, _, _, .any h, k => .any (Sl.set i h k)
  | _, _, 0, _, _, .cons _ h, k => .cons k h
  | _, _, i + 1, _, _, .cons a h, k => .cons a (Sl.set i h k)
theorem Sl.clear : ∀ {g : Gm} {σ : St} (i : Nat) {o : Option V}, Sl K F g σ → Sl K F (g.set i none) (σ.set i o)
  | _, _, _, _, .nil => .nil
  | _, _, 0, _, .any h => .any h
  | _, _, i + 1, _, .any h => .any (Sl.clear i h)
  | _, _, 0, _, .cons _ h => .any h
  | _, _, i + 1, _, .cons a h => .cons a (Sl.clear i h)
/-- forgetting -/
inductive Wk : Gm → Gm → Prop
  | nil : Wk [] []
  | any {o : Option D} {g g' : Gm} : Wk g g' → Wk (o :: g) (none :: g')
  | keep {o : Option D} {g g' : Gm} : Wk g g' → Wk (o :: g) (o :: g')
theorem Wk.rf : ∀ {g : Gm}, Wk g g
  | [] => .nil
  | _ :: _ => .keep Wk.rf
theorem Sl.weak : ∀ {g g' : Gm} {σ : St}, Wk g g' → Sl K F g σ → Sl K F g' σ
  | _, _, _, .nil, h => h
  | _, _, _, .any w, .any h => .any (Sl.weak w h)
  | _, _, _, .any w, .cons _ h => .any (Sl.weak w h)
  | _, _, _, .keep w, .any h => .any (Sl.weak w h)
  | _, _, _, .keep w, .cons a h => .cons a (Sl.weak w h)
theorem Sl.len : ∀ {g : Gm} {σ : St}, Sl K F g σ → g.length = σ.length
  | _, _, .nil => rfl
  | _, _, .any h => by rw [List.length_cons, List.length_cons, Sl.len h]
  | _, _, .cons _ h => by rw [List.length_cons, List.length_cons, Sl.len h]
theorem Sl.nones : ∀ n, Sl K F (List.replicate n none) (List.replicate n none)
  | 0 => .nil
  | n + 1 => .any (Sl.nones n)
theorem Sl.args : ∀ {vs : List V} {ds : List D} (n : Nat), FdAll K F vs ds → Sl K F (ds.map some ++ List.replicate n none) (vs.map some ++ List.replicate n none)
  | _, _, n, .nil => Sl.nones n
  | _, _, n, .cons a h => .cons a (Sl.args n h)
end
/-- a def's entry: what was frozen, what was owned, the heap -/
structure En where
  F : Hp
  M : Hp
  H : Hp
structure At (K : PySem.W.Frag) (e : En) (g : Gm) (T : Tm) (l : List Res) (σ : St) (H F M : Hp) : Prop where
  exF : Ex F H
  exM : Ex M H
  dj : Dj F M
  eF : Ex e.F F
  nF : ∀ a o, F a = some o → e.F a = some o ∨ e.H a = none ∨ (∃ u, e.M a = some u) ∨ ∃ xs, o = .tup xs
  nM : ∀ a o, M a = some o → e.H a = none ∨ ∃ u, e.M a = some u
  fr : ∀ a o, e.H a = some o → e.M a = none → H a = some o
  sl : Sl K F g σ
  tm : T.P F
  rs : Rs l F M
def S (K : PySem.W.Frag) (e : En) (g : Gm) (T : Tm) (l : List Res) (σ : St) (H : Hp) : Prop := ∃ F M, At K e g T l σ H F M
/-- something new is frozen -/
structure New (F H F' H' : Hp) : Prop where
  f : Ex F F'
  h : Ex H H'
  i : Ex F' H'
  n : ∀ a o, F' a = some o → F a = some o ∨ H a = none ∨ ∃ xs, o = .tup xs
theorem New.rf {F H : Hp} (e : Ex F H) : New F H F H := ⟨.rf, .rf, e, fun _ _ h => .inl h⟩
theorem New.tr {F H F1 H1 F2 H2 : Hp} (a : New F H F1 H1) (b : New F1 H1 F2 H2) : New F H F2 H2 :=
  ⟨a.f.tr b.f, a.h.tr b.h, b.i, fun x o h => by
    rcases b.n x o h with q | q | q
    · exact a.n x o q
    · exact .inr (.inl (a.h.free q))
    · exact .inr (.inr q)⟩
theorem New.upd {F H : Hp} {p : Addr} {o : HO} (e : Ex F H) (h : H p = none) : New F H (upd F p o) (L2.upd H p o) :=
  ⟨.new (e.free h), .new h, e.upd2, fun a u q => by
    by_cases z : a = p
    · subst z; exact .inr (.inl h)
    · rw [upd_ne z] at q; exact .inl q⟩
section
variable {K : PySem.W.Frag} {e : En} {g g' : Gm} {T T' : Tm} {l l' : List Res} {σ σ' : St} {H H' F F' M M' : Hp}
theorem At.new (a : At K e g T l σ H F M) (n : New F H F' H') : At K e g T l σ H' F' M :=
  ⟨n.i, a.exM.tr n.h, fun x o h => by
    rcases n.n x o h with q | q | ⟨xs, q⟩
    · exact a.dj x o q
    · exact a.exM.free q
    · cases z : M x with
      | none => rfl
      | some u =>
        have e1 := n.h x u (a.exM x u z)
        rw [n.i x o h] at e1
        cases e1
        exact absurd (q ▸ z) (a.rs.nt x xs),
   a.eF.tr n.f, fun x o h => by
    rcases n.n x o h with q | q | q
    · exact a.nF x o q
    · by_cases z : e.M x = none
      · right; left
        cases w : e.H x with
        | none => rfl
        | some u => rw [a.fr x u w z] at q; cases q
      · right; right; left
        cases w : e.M x with
        | none => exact absurd w z
        | some u => exact ⟨u, rfl⟩
    · exact .inr (.inr (.inr q)),
   a.nM, fun x o h1 h2 => n.h x o (a.fr x o h1 h2), a.sl.mono n.f, T.mono n.f a.tm, a.rs.mono n.f⟩
theorem At.tmp (a : At K e g T l σ H F M) (h : T'.P F) : At K e g T' l σ H F M := ⟨a.exF, a.exM, a.dj, a.eF, a.nF, a.nM, a.fr, a.sl, h, a.rs⟩
theorem At.slots (a : At K e g T l σ H F M) (h : Sl K F g' σ') : At K e g' T l σ' H F M := ⟨a.exF, a.exM, a.dj, a.eF, a.nF, a.nM, a.fr, h, a.tm, a.rs⟩
theorem At.entry (ef : Ex F H) (em : Ex M H) (d : Dj F M) (s : Sl K F g σ) (t : T.P F) (r : Rs l F M) : At K ⟨F, M, H⟩ g T l σ H F M :=
  ⟨ef, em, d, .rf, fun _ _ h => .inl h, fun _ o h => .inr ⟨o, h⟩, fun _ _ h _ => h, s, t, r⟩
/-- a part of the state apart: what runs on F, A (of M = join A B) gives back the whole -/
theorem At.frame {A B : Hp} {lA lB : List Res} (a : At K e g T l σ H F (join A B)) (d : Dj A B) (rB : Rs lB F B) {g2 : Gm} {σ2 : St} {T2 : Tm} {F2 M2 : Hp} (b : At K ⟨F, A, H⟩ g2 T2 lA σ2 H' F2 M2) :
    At K e g T (lA ++ lB) σ H' F2 (join M2 B) := by
  have eB : Ex B H' := fun x o h => b.fr x o (a.exM x o (by rw [join_r (d.sym x o h)]; exact h)) (d.sym x o h)
  have dB : Dj M2 B := fun x o h => by
    cases q : B x with
    | none => rfl
    | some u =>
      rcases b.nM x o h with z | ⟨w, z⟩
      · have := a.exM x u (by rw [join_r (d.sym x u q)]; exact q)
        rw [show H x = none from z] at this; cases this
      · rw [d x w z] at q; cases q
  refine ⟨b.exF, b.exM.join eB, ?_, a.eF.tr b.eF, ?_, ?_, ?_, a.sl.mono b.eF, T.mono b.eF a.tm, Rs.app b.rs (rB.mono b.eF) dB⟩
  · intro x o h
    cases q : join M2 B x with
    | none => rfl
    | some u =>
      rcases join_some q with z | ⟨_, z⟩
      · rw [b.dj x o h] at z; cases z
      · rcases b.nF x o h with w | w | ⟨w, y⟩ | ⟨xs, w⟩
        · have := a.dj x o w
          rw [join_r (d.sym x u z), z] at this; cases this
        · have := a.exM x u (by rw [join_r (d.sym x u z)]; exact z)
          rw [show H x = none from w] at this; cases this
        · rw [d x w y] at z; cases z
        · have e1 := eB x u z
          rw [b.exF x o h] at e1
          cases e1
          exact absurd (join_r (A := A) (d.sym x o z) ▸ w ▸ z) (a.rs.nt x xs)
  · intro x o h
    rcases b.nF x o h with w | w | ⟨w, y⟩ | w
    · exact a.nF x o w
    · cases q : e.H x with
      | none => exact .inr (.inl rfl)
      | some u =>
        cases z : e.M x with
        | some y => exact .inr (.inr (.inl ⟨y, rfl⟩))
        | none =>
          have w' : H x = none := w
          rw [a.fr x u q z] at w'; cases w'
    · rcases a.nM x w (join_l y) with q | q
      · exact .inr (.inl q)
      · exact .inr (.inr (.inl q))
    · exact .inr (.inr (.inr w))
  · intro x o h
    rcases join_some h with z | ⟨_, z⟩
    · rcases b.nM x o z with w | ⟨w, y⟩
      · cases q : e.H x with
        | none => exact .inl rfl
        | some u =>
          cases k : e.M x with
          | some y => exact .inr ⟨y, rfl⟩
          | none =>
            have w' : H x = none := w
            rw [a.fr x u q k] at w'; cases w'
      · exact a.nM x w (join_l y)
    · exact a.nM x o (by rw [join_r (d.sym x o z)]; exact z)
  · intro x o h1 h2
    refine b.fr x o (a.fr x o h1 h2) ?_
    show A x = none
    cases q : A x with
    | none => rfl
    | some u =>
      rcases a.nM x u (join_l q) with z | ⟨w, z⟩
      · rw [h1] at z; cases z
      · rw [h2] at z; cases z
/-- the k-th one first -/
theorem perm_at {r : Res} : ∀ {l : List Res} {k : Nat}, l[k]? = some r → l.Perm (r :: l.eraseIdx k)
  | [], _, h => by simp at h
  | a :: l, 0, h => by simp at h; subst h; exact .refl _
  | a :: l, k + 1, h => by
    have ih := perm_at (l := l) (k := k) (by simpa using h)
    rw [List.eraseIdx_cons_succ]
    exact (ih.cons a).trans (.swap _ _ _)
/-- lk is a part of l -/
def SubR (l lk : List Res) : Prop := ∃ junk, l.Perm (lk ++ junk)
theorem subr0 {l : List Res} : SubR l [] := ⟨l, .refl _⟩
theorem subr1 {l : List Res} {r : Res} (k : Nat) (h : l[k]? = some r) : SubR l [r] := ⟨l.eraseIdx k, perm_at h⟩
theorem subr2 {l : List Res} {r r2 : Res} (k k2 : Nat) (h : l[k]? = some r) (h2 : (l.eraseIdx k)[k2]? = some r2) : SubR l [r, r2] := ⟨(l.eraseIdx k).eraseIdx k2, (perm_at h).trans ((perm_at h2).cons r)⟩
theorem Rs.permA {F : Hp} : ∀ {l k : List Res}, l.Perm k → ∀ {M : Hp}, Rs l F M → Rs k F M := by
  intro l k h
  induction h with
  | nil => exact fun h => h
  | cons x _ ih => exact fun ⟨A, B, h1, h2, h3, h4⟩ => ⟨A, B, h1, h2, h3, ih h4⟩
  | swap x y l =>
    rintro M ⟨A, B, h1, h2, h3, ⟨A', B', g1, g2, g3, g4⟩⟩
    subst g1; subst h1
    have dAA : Dj A A' := (Dj.l h2.sym).sym
    have dAB : Dj A B' := (Dj.r g2 h2.sym).sym
    exact ⟨A', join A B', by rw [← join_assoc, ← join_assoc, dAA.comm], (Dj.joinL dAA g2.sym).sym, g3, A, B', rfl, dAB, h3, g4⟩
  | trans _ _ h1 h2 => exact fun h => h2 (h1 h)
theorem Rs.sub {F M H : Hp} {l lk : List Res} (s : SubR l lk) (h : Rs l F M) (e : Ex M H) : ∃ M', Rs lk F M' ∧ Ex M' H := by
  obtain ⟨junk, p⟩ := s
  obtain ⟨A, B, rfl, _, h1, _⟩ := Rs.split (Rs.permA p h)
  exact ⟨A, h1, fun x o q => e x o (join_l q)⟩
theorem S.weak (s : S K e g T l σ H) (w : Wk g g') : S K e g' T l σ H := let ⟨F, M, a⟩ := s; ⟨F, M, a.slots (a.sl.weak w)⟩
end
end Sx
set_option Elab.async false
set_option linter.all false
set_option maxRecDepth 100000
set_option maxHeartbeats 2000000
/-! Judgements: expressions, tests, arguments, blocks over states. -/
namespace Sx
open PySem L2

/-! ### the weakest readings -/
def wpE (X : Cx) (e : Expr) : TE := fun σ H Q => ∀ pins s, Inv X pins σ H s → wpAny (model X.prog X.w) X.A (eval e X.env) (EP X pins σ Q) X.xe s
def wpT (X : Cx) (e : Expr) : TT := fun σ H Q => ∀ pins s, Inv X pins σ H s → wpAny (model X.prog X.w) X.A (isTrue e X.env (eval e X.env)) (TP X pins σ Q) X.xe s
def wpW (X : Cx) (e : Expr) : TT := fun σ H Q => ∀ whole pins s, Inv X pins σ H s → wpAny (model X.prog X.w) X.A (isTrue e X.env whole) (TP X pins σ Q) X.xe s
def wpA (X : Cx) (es : List Expr) : TA := fun σ H Q => ∀ pos pins s, Inv X pins σ H s → wpAny (model X.prog X.w) X.A (spliced (backTo pos (starEach es X.env))) (AP X pins σ Q) X.xe s
def wpS (X : Cx) (sts : List Stmt) : TS := fun D σ H => ∀ pins s, Inv X pins σ H s → wpAny (model X.prog X.w) X.A (execs sts X.env) (SP X pins D) X.xe s
section
variable {X : Cx} {σ : L2.St} {H : Hp}
theorem pe_wp {e : Expr} : PE X e (wpE X e) := ⟨fun pins s _ _ _ I h => h pins s I⟩
theorem pt_wp {e : Expr} : PT X e (wpT X e) := ⟨fun pins s _ _ _ I h => h pins s I⟩
theorem pw_wp {e : Expr} : PW X e (wpW X e) := ⟨fun whole pins s _ _ _ I h => h whole pins s I⟩
theorem pa_wp {es : List Expr} : PA X es (wpA X es) := ⟨fun pos pins s _ _ _ I h => h pos pins s I⟩
theorem pss_wp {sts : List Stmt} : PSs X sts (wpS X sts) := ⟨fun pins s _ _ _ I h => h pins s I⟩
theorem wpE_of {e : Expr} {t : TE} {Q : VK} (h : PE X e t) (q : t σ H Q) : wpE X e σ H Q := fun pins s I => h.run pins s σ H Q I q
theorem wpT_of {e : Expr} {t : TT} {Q : Bool → Hp → Prop} (h : PT X e t) (q : t σ H Q) : wpT X e σ H Q := fun pins s I => h.run pins s σ H Q I q
theorem wpW_of {e : Expr} {t : TT} {Q : Bool → Hp → Prop} (h : PW X e t) (q : t σ H Q) : wpW X e σ H Q := fun whole pins s I => h.run whole pins s σ H Q I q
theorem wpA_of {es : List Expr} {t : TA} {Q : List V → Hp → Prop} (h : PA X es t) (q : t σ H Q) : wpA X es σ H Q := fun pos pins s I => h.run pos pins s σ H Q I q
theorem wpS_of {sts : List Stmt} {t : TS} {D : Ends} (h : PSs X sts t) (q : t D σ H) : wpS X sts D σ H := fun pins s I => h.run pins s σ H D I q
end

/-! ### judgements -/
/-- e evaluates to the datum d, changing nothing that is owned -/
def Px (X : Cx) (e : Expr) (g : Gm) (l : List Res) (d : D) : Prop := ∀ en T σ H (Q : VK), S X.K en g T l σ H → (∀ v H', S X.K en g (T.and X.K v d) l σ H' → Q v H') → wpE X e σ H Q
/-- e evaluates to one of the data that Psi tells, with what is owned then -/
def Ev (X : Cx) (e : Expr) (g : Gm) (l : List Res) (Psi : D → List Res → Prop) : Prop := ∀ en T σ H (Q : VK), S X.K en g T l σ H → (∀ v d l' H', Psi d l' → S X.K en g (T.and X.K v d) l' σ H' → Q v H') → wpE X e σ H Q
def Pa (X : Cx) (es : List Expr) (g : Gm) (l : List Res) (ds : List D) : Prop := ∀ en T σ H (Q : List V → Hp → Prop), S X.K en g T l σ H → (∀ vs H', S X.K en g (T.ands X.K vs ds) l σ H' → Q vs H') → wpA X es σ H Q
def Ts (X : Cx) (e : Expr) (g : Gm) (l : List Res) (b : Bool) : Prop := ∀ en T σ H (Q : Bool → Hp → Prop), S X.K en g T l σ H → (∀ H', S X.K en g T l σ H' → Q b H') → wpT X e σ H Q
def Tw (X : Cx) (e : Expr) (g : Gm) (l : List Res) (b : Bool) : Prop := ∀ en T σ H (Q : Bool → Hp → Prop), S X.K en g T l σ H → (∀ H', S X.K en g T l σ H' → Q b H') → wpW X e σ H Q
/-- operations on values -/
def Op1 (K : PySem.W.Frag) (l : List Res) (r : V → Hp → VK → Prop) (a d : D) : Prop := ∀ F M H v (Q : VK), Ex F H → Ex M H → Dj F M → Rs l F M → Fd K F v a → (∀ v F' H', New F H F' H' → Fd K F' v d → Q v H') → r v H Q
def Op2 (K : PySem.W.Frag) (l : List Res) (r : R2) (a b d : D) : Prop := ∀ F M H v u (Q : VK), Ex F H → Ex M H → Dj F M → Rs l F M → Fd K F v a → Fd K F u b → (∀ v F' H', New F H F' H' → Fd K F' v d → Q v H') → r v u H Q
def OpN (K : PySem.W.Frag) (l : List Res) (r : List V → Hp → VK → Prop) (as : List D) (d : D) : Prop := ∀ F M H vs (Q : VK), Ex F H → Ex M H → Dj F M → Rs l F M → FdAll K F vs as → (∀ v F' H', New F H F' H' → Fd K F' v d → Q v H') → r vs H Q
def OpM (K : PySem.W.Frag) (l : List Res) (r : V → List V → Hp → VK → Prop) (a : D) (as : List D) (d : D) : Prop := ∀ F M H v vs (Q : VK), Ex F H → Ex M H → Dj F M → Rs l F M → Fd K F v a → FdAll K F vs as → (∀ v F' H', New F H F' H' → Fd K F' v d → Q v H') → r v vs H Q

/-- what is wanted behind a block -/
structure Po where
  nx : Gm → List Res → Prop
  rt : D → List Res → Prop
  bk : Gm → List Res → Prop := fun _ _ => False
  ct : Gm → List Res → Prop := fun _ _ => False
  ex : Value → Option Addr → Gm → List Res → Prop := fun _ _ _ _ => False
structure Mt (K : PySem.W.Frag) (W : L2.WX) (en : En) (T : Tm) (Φ : Po) (D : Ends) : Prop where
  nx : ∀ g l σ H, Φ.nx g l → S K en g T l σ H → D.nx σ H
  rt : ∀ d l v H, Φ.rt d l → S K en [] (T.and K v d) l [] H → D.rt v H
  bk : ∀ g l σ H, Φ.bk g l → S K en g T l σ H → D.bk σ H
  ct : ∀ g l σ H, Φ.ct g l → S K en g T l σ H → D.ct σ H
  ex : ∀ cls d g l σ H, Φ.ex cls d g l → S K en g T l σ H → W cls d σ H
def Blk (X : Cx) (W : WX) (sts : List Stmt) (g : Gm) (l : List Res) (Φ : Po) : Prop := ∀ en T σ H D, S X.K en g T l σ H → Mt X.K W en T Φ D → wpS X sts D σ H

section
variable {X : Cx} {W : WX} {g g' : Gm} {l l' : List Res} {Φ : Po} {e e2 a b c o : Expr} {es : List Expr} {d d1 d2 d3 : D} {pos p : Pos}

theorem S.drop {K : PySem.W.Frag} {en : En} {T : Tm} {σ : L2.St} {H : Hp} {v : V} {d : D} (s : S K en g (T.and K v d) l σ H) : S K en g T l σ H := let ⟨F, M, a⟩ := s; ⟨F, M, a.tmp a.tm.2⟩
theorem S.slotless {K : PySem.W.Frag} {en : En} {T : Tm} {σ : L2.St} {H : Hp} (s : S K en g T l σ H) : S K en [] T l [] H := let ⟨F, M, a⟩ := s; ⟨F, M, a.slots .nil⟩

/-! ### expressions -/
theorem px_var {i : Nat} (h : PE X e (tVar i)) (hd : nth g i = some d) : Px X e g l d := fun en T σ H Q s k => wpE_of h (by
  obtain ⟨F, M, a⟩ := s
  obtain ⟨v, h1, h2⟩ := a.sl.nth hd
  exact ⟨v, h1, k v H ⟨F, M, a.tmp ⟨h2, a.tm⟩⟩⟩)
theorem px_c {v : V} (h : PE X e (tC v)) (hd : ∀ F, Fd X.K F v d) : Px X e g l d := fun en T σ H Q s k => wpE_of h (by
  obtain ⟨F, M, a⟩ := s
  exact k v H ⟨F, M, a.tmp ⟨hd F, a.tm⟩⟩)
theorem px_int {i : Int} {j} : Px X (.Constant (.int i) j pos) g l (.int i) := px_c pe_int fun _ => .int _
theorem px_bl {b : Bool} {j} : Px X (.Constant (.bool b) j pos) g l (.bl b) := px_c pe_bl fun _ => .bl _
theorem px_non {j} : Px X (.Constant .none j pos) g l .non := px_c pe_non fun _ => .non
theorem px_str {x : Str} {j} : Px X (.Constant (.str x) j pos) g l (.str x) := px_c pe_str fun _ => .str _
theorem Px.to (h : Px X e g l d) (q : d = d1) : Px X e g l d1 := q ▸ h
theorem Px.ev (h : Px X e g l d) : Ev X e g l (fun d' l' => d' = d ∧ l' = l) := fun en T σ H Q s k => h en T σ H Q s fun v H' s' => k v d l H' ⟨rfl, rfl⟩ s'
theorem Ev.imp {Psi Chi : D → List Res → Prop} (h : Ev X e g l Psi) (i : ∀ d l', Psi d l' → Chi d l') : Ev X e g l Chi := fun en T σ H Q s k => h en T σ H Q s fun v d l' H' p s' => k v d l' H' (i _ _ p) s'
theorem Ev.px (h : Ev X e g l (fun d' l' => d' = d ∧ l' = l)) : Px X e g l d := fun en T σ H Q s k => h en T σ H Q s fun v d' l' H' p s' => k v H' (by obtain ⟨rfl, rfl⟩ := p; exact s')
theorem px_1 {r : V → Hp → VK → Prop} (he : PE X e2 (tUn r (wpE X a))) (hr : Op1 X.K l r d1 d) (ha : Px X a g l d1) : Px X e2 g l d := fun en T σ H Q s k => wpE_of he (by
  refine ha en T σ H _ s fun v H1 s1 => ?_
  obtain ⟨F, M, q⟩ := s1
  exact hr F M H1 v Q q.exF q.exM q.dj q.rs q.tm.1 fun u F' H' n f => k u H' ⟨F', M, (q.new n).tmp ⟨f, T.mono n.f q.tm.2⟩⟩)
theorem px_2 {r : R2} (he : PE X e2 (tOp r (wpE X a) (wpE X b))) (hr : Op2 X.K l r d1 d2 d) (ha : Px X a g l d1) (hb : Px X b g l d2) : Px X e2 g l d := fun en T σ H Q s k => wpE_of he (by
  refine ha en T σ H _ s fun v H1 s1 => ?_
  refine hb en _ σ H1 _ s1 fun u H2 s2 => ?_
  obtain ⟨F, M, q⟩ := s2
  exact hr F M H2 v u Q q.exF q.exM q.dj q.rs q.tm.2.1 q.tm.1 fun w F' H' n f => k w H' ⟨F', M, (q.new n).tmp ⟨f, T.mono n.f q.tm.2.2⟩⟩)
theorem px_op {op : Operator} {r : R2} (ho : OpR X (binaryOp op) r) (ha : Px X a g l d1) (hb : Px X b g l d2) (hr : Op2 X.K l r d1 d2 d) : Px X (.BinOp a op b pos) g l d := px_2 (pe_op ho pe_wp pe_wp) hr ha hb
theorem px_un {op : UnaryOp} {r : V → Hp → VK → Prop} (ho : UnR X (unaryOp op) r) (ha : Px X a g l d1) (hr : Op1 X.K l r d1 d) : Px X (.UnaryOp op a pos) g l d := px_1 (pe_un ho pe_wp) hr ha
theorem px_cmp {op : CmpOp} {r : R2} (ho : OpR X (compareOp op) r) (ha : Px X a g l d1) (hb : Px X b g l d2) (hr : Op2 X.K l r d1 d2 d) (hm : behindInMarks op b = false := by first | exact nomark _ | rfl) : Px X (.Compare a [op] [b] pos) g l d := px_2 (pe_cmpR ho pe_wp pe_wp hm) hr ha hb
theorem px_ix {r : R2} (hi : IxR X r) (ha : Px X a g l d1) (hb : Px X b g l d2) (hr : Op2 X.K l r d1 d2 d) (hs : PlainIx b := by intro _ _; rfl) : Px X (.Subscript a b pos) g l d := px_2 (pe_ix hi pe_wp pe_wp hs) hr ha hb
theorem px_chain {op op' : CmpOp} {r r' : R2} {k k' : Bool} (ho : OpR X (compareOp op) r) (ho' : OpR X (compareOp op') r') (ha : Px X a g l d1) (hb : Px X b g l d2) (hr : Op2 X.K l r d1 d2 (.bl k)) (hc : Px X c g l d3) (hr' : k = true → Op2 X.K l r' d2 d3 (.bl k'))
    (hm : lastMarks [op, op'] [b, c] = false := by with_unfolding_all rfl) : Px X (.Compare a [op, op'] [b, c] pos) g l (.bl (k && k')) := fun en T σ H Q s kk => wpE_of (pe_chain ho ho' pe_wp pe_wp pe_wp hm) (by
  refine ha en T σ H _ s fun v H1 s1 => ?_
  refine hb en _ σ H1 _ s1 fun u H2 s2 => ?_
  obtain ⟨F, M, q⟩ := s2
  refine hr F M H2 v u _ q.exF q.exM q.dj q.rs q.tm.2.1 q.tm.1 fun w F' H' n f => ?_
  cases f
  refine ⟨k, rfl, ?_⟩
  have q' := q.new n
  cases k with
  | false => exact kk _ H' ⟨F', M, q'.tmp ⟨.bl _, T.mono n.f q.tm.2.2⟩⟩
  | true =>
    show wpE X c σ H' _
    refine hc en _ σ H' _ ⟨F', M, q'⟩ fun w H3 s3 => ?_
    obtain ⟨F3, M3, q3⟩ := s3
    exact hr' rfl F3 M3 H3 u w Q q3.exF q3.exM q3.dj q3.rs q3.tm.2.1 q3.tm.1 fun w F' H' n f => kk w H' ⟨F', M3, (q3.new n).tmp ⟨f, T.mono n.f q3.tm.2.2.2⟩⟩)
/-- a new list, frozen; a new tuple -/
theorem px_lst {ds : List D} (h : Pa X es g l ds) (hz : ds.length ≤ sizeLine := by first | decide | exact Nat.le_of_ble_eq_true rfl) : Px X (.List es pos) g l (.lst ds) := fun en T σ H Q s k => wpE_of (pe_lst pa_wp) (by
  refine h en T σ H _ s fun vs H1 s1 => ?_
  obtain ⟨F, M, q⟩ := s1
  refine ⟨by rw [q.tm.1.length]; exact hz, fun p hp => ?_⟩
  have n := New.upd (o := .lst vs) q.exF hp
  exact k _ _ ⟨_, M, (q.new n).tmp ⟨.lst upd_same (FdAll.mono n.f _ q.tm.1), T.mono n.f q.tm.2⟩⟩)
theorem px_tup {ds : List D} {x1} (h : Pa X es g l ds) (hz : ds.length ≤ sizeLine := by first | decide | exact Nat.le_of_ble_eq_true rfl) : Px X (.Tuple es x1 pos) g l (.tup ds) := fun en T σ H Q s k => wpE_of (pe_tup pa_wp) (by
  refine h en T σ H _ s fun vs H1 s1 => ?_
  obtain ⟨F, M, q⟩ := s1
  refine ⟨by rw [q.tm.1.length]; exact hz, fun p hp => ?_⟩
  have n := New.upd (o := .tup vs) q.exF hp
  exact k _ _ ⟨_, M, (q.new n).tmp ⟨.tup (SqT.of upd_same) (FdAll.mono n.f _ q.tm.1), T.mono n.f q.tm.2⟩⟩)
theorem pa_n : Pa X [] g l [] := fun en T σ H Q s k => wpA_of pa_nil (by
  obtain ⟨F, M, a⟩ := s
  exact k [] H ⟨F, M, a.tmp ⟨.nil, a.tm⟩⟩)
theorem pa_c {ds : List D} (he : Px X e g l d) (h : Pa X es g l ds) (hs : starEach (e :: es) X.env = (false, eval e X.env) :: starEach es X.env := by rfl) : Pa X (e :: es) g l (d :: ds) := fun en T σ H Q s k => wpA_of (pa_cons pe_wp pa_wp hs) (by
  refine he en T σ H _ s fun v H1 s1 => ?_
  refine h en _ σ H1 _ s1 fun vs H2 s2 => ?_
  obtain ⟨F, M, a⟩ := s2
  exact k _ H2 ⟨F, M, a.tmp ⟨.cons a.tm.2.1 a.tm.1, a.tm.2.2⟩⟩)
theorem px_and {rest : List Expr} {k k' : Bool} (ha : Px X a g l (.bl k)) (hb : k = true → Px X (.BoolOp .And (b :: rest) pos) g l (.bl k')) : Px X (.BoolOp .And (a :: b :: rest) pos) g l (.bl (k && k')) := fun en T σ H Q s kk => wpE_of (pe_and pe_wp pe_wp) (by
  refine ha en T σ H _ s fun v H1 s1 => ?_
  obtain ⟨F, M, q⟩ := s1
  have f := q.tm.1
  cases f
  refine ⟨k, rfl, ?_⟩
  cases k with
  | true => exact hb rfl en T σ H1 Q ⟨F, M, q.tmp q.tm.2⟩ kk
  | false => exact kk _ H1 ⟨F, M, q⟩)
theorem px_or {rest : List Expr} {k k' : Bool} (ha : Px X a g l (.bl k)) (hb : k = false → Px X (.BoolOp .Or (b :: rest) pos) g l (.bl k')) : Px X (.BoolOp .Or (a :: b :: rest) pos) g l (.bl (k || k')) := fun en T σ H Q s kk => wpE_of (pe_or pe_wp pe_wp) (by
  refine ha en T σ H _ s fun v H1 s1 => ?_
  obtain ⟨F, M, q⟩ := s1
  have f := q.tm.1
  cases f
  refine ⟨k, rfl, ?_⟩
  cases k with
  | false => exact hb rfl en T σ H1 Q ⟨F, M, q.tmp q.tm.2⟩ kk
  | true => exact kk _ H1 ⟨F, M, q⟩)
theorem px_one {op} (h : Px X a g l d) : Px X (.BoolOp op [a] pos) g l d := fun en T σ H Q s k => wpE_of (pe_one pe_wp) (h en T σ H Q s k)
theorem px_not {k : Bool} (h : Px X a g l (.bl k)) : Px X (.UnaryOp .Not a pos) g l (.bl (!k)) := fun en T σ H Q s kk => wpE_of (pe_not pe_wp) (by
  refine h en T σ H _ s fun v H1 s1 => ?_
  obtain ⟨F, M, q⟩ := s1
  have f := q.tm.1
  cases f
  exact ⟨k, rfl, kk _ H1 ⟨F, M, q.tmp ⟨.bl _, q.tm.2⟩⟩⟩)
/-- an attribute of a frozen instance -/
theorem px_fld {C : Addr} {fs : List (Str × D)} {f : Str} (ho : Px X o g l (.ins C fs)) (hc : Cls X.K C) (hn : NoAttr X.K C f) (hl : fs.lookup f = some d) (hb : attributeBase o f X.env (eval o X.env) = eval o X.env := by rfl) : Px X (.Attribute o f pos) g l d := fun en T σ H Q s k => wpE_of (pe_fld pe_wp hb) (by
  refine ho en T σ H _ s fun v H1 s1 => ?_
  obtain ⟨F, M, q⟩ := s1
  obtain ⟨hf, ht⟩ := q.tm
  cases hf with
  | ins h1 h2 =>
    obtain ⟨v, e1, e2⟩ := h2.look hl
    exact ⟨_, C, _, _, v, rfl, q.exF _ _ h1, hc, hn, e1, k v H1 ⟨F, M, q.tmp ⟨e2, ht⟩⟩⟩)
/-! ### calls of what is built in -/
theorem px_b {r : List V → Hp → VK → Prop} {ds : List D} (he : PE X e2 (tCB r (wpA X es))) (hr : OpN X.K l r ds d) (ha : Pa X es g l ds) : Px X e2 g l d := fun en T σ H Q s k => wpE_of he (by
  refine ha en T σ H _ s fun vs H1 s1 => ?_
  obtain ⟨F, M, q⟩ := s1
  exact hr F M H1 vs Q q.exF q.exM q.dj q.rs q.tm.1 fun u F' H' n f => k u H' ⟨F', M, (q.new n).tmp ⟨f, T.mono n.f q.tm.2⟩⟩)
/-! ### tests -/
theorem ts_val {k : Bool} (h : Px X e g l (.bl k)) (he : ∀ whole, isTrue e X.env whole = (do let v ← whole; standAt e.pos; holding [v] (truthy v)) := by intro _; rfl) : Ts X e g l k := fun en T σ H Q s kk => wpT_of (pt_val pe_wp he) (by
  refine h en T σ H _ s fun v H1 s1 => ?_
  obtain ⟨F, M, q⟩ := s1
  have f := q.tm.1
  cases f
  exact ⟨k, rfl, kk H1 ⟨F, M, q.tmp q.tm.2⟩⟩)
theorem ts_cmp {op : CmpOp} {r : R2} {k : Bool} (ho : OpR X (compareOp op) r) (ha : Px X a g l d1) (hb : Px X b g l d2) (hr : Op2 X.K l r d1 d2 (.bl k)) (hm : behindInMarks op b = false := by first | exact nomark _ | rfl) : Ts X (.Compare a [op] [b] pos) g l k := fun en T σ H Q s kk => wpT_of (pt_cmpR ho pe_wp pe_wp hm) (by
  refine ha en T σ H _ s fun v H1 s1 => ?_
  refine hb en _ σ H1 _ s1 fun u H2 s2 => ?_
  obtain ⟨F, M, q⟩ := s2
  refine hr F M H2 v u _ q.exF q.exM q.dj q.rs q.tm.2.1 q.tm.1 fun w F' H' n f => ?_
  cases f
  exact ⟨k, rfl, kk H' ⟨F', M, (q.new n).tmp (T.mono n.f q.tm.2.2)⟩⟩)
theorem ts_chain {op op' : CmpOp} {r r' : R2} {k k' : Bool} (ho : OpR X (compareOp op) r) (ho' : OpR X (compareOp op') r') (ha : Px X a g l d1) (hb : Px X b g l d2) (hr : Op2 X.K l r d1 d2 (.bl k)) (hc : Px X c g l d3) (hr' : k = true → Op2 X.K l r' d2 d3 (.bl k'))
    (hm : lastMarks [op, op'] [b, c] = false := by with_unfolding_all rfl) : Ts X (.Compare a [op, op'] [b, c] pos) g l (k && k') := fun en T σ H Q s kk => wpT_of (pt_chain ho ho' pe_wp pe_wp pe_wp hm) (by
  refine ha en T σ H _ s fun v H1 s1 => ?_
  refine hb en _ σ H1 _ s1 fun u H2 s2 => ?_
  obtain ⟨F, M, q⟩ := s2
  refine hr F M H2 v u _ q.exF q.exM q.dj q.rs q.tm.2.1 q.tm.1 fun w F' H' n f => ?_
  cases f
  refine ⟨k, rfl, ?_⟩
  have q' := q.new n
  cases k with
  | false => exact ⟨false, rfl, kk H' ⟨F', M, q'.tmp (T.mono n.f q.tm.2.2)⟩⟩
  | true =>
    show wpE X c σ H' _
    refine hc en _ σ H' _ ⟨F', M, q'⟩ fun w H3 s3 => ?_
    obtain ⟨F3, M3, q3⟩ := s3
    refine hr' rfl F3 M3 H3 u w _ q3.exF q3.exM q3.dj q3.rs q3.tm.2.1 q3.tm.1 fun w F' H' n f => ?_
    cases f
    exact ⟨k', rfl, kk H' ⟨F', M3, (q3.new n).tmp (T.mono n.f q3.tm.2.2.2)⟩⟩)
theorem ts_not {k : Bool} (h : Ts X a g l k) : Ts X (.UnaryOp .Not a pos) g l (!k) := fun en T σ H Q s kk => wpT_of (pt_not pt_wp) (h en T σ H _ s kk)
theorem tw_and1 {k : Bool} (h : Ts X a g l k) : Tw X (.BoolOp .And [a] pos) g l k := fun en T σ H Q s kk => wpW_of (pw_and1 pt_wp) (h en T σ H _ s kk)
theorem tw_or1 {k : Bool} (h : Ts X a g l k) : Tw X (.BoolOp .Or [a] pos) g l k := fun en T σ H Q s kk => wpW_of (pw_or1 pt_wp) (h en T σ H _ s kk)
theorem tw_and {rest : List Expr} {k k' : Bool} (ha : Ts X a g l k) (hb : k = true → Tw X (.BoolOp .And (b :: rest) pos) g l k') : Tw X (.BoolOp .And (a :: b :: rest) pos) g l (k && k') := fun en T σ H Q s kk => wpW_of (pw_and pt_wp pw_wp) (by
  refine ha en T σ H _ s fun H1 s1 => ?_
  cases k with
  | true => exact hb rfl en T σ H1 _ s1 kk
  | false => exact kk H1 s1)
theorem tw_or {rest : List Expr} {k k' : Bool} (ha : Ts X a g l k) (hb : k = false → Tw X (.BoolOp .Or (b :: rest) pos) g l k') : Tw X (.BoolOp .Or (a :: b :: rest) pos) g l (k || k') := fun en T σ H Q s kk => wpW_of (pw_or pt_wp pw_wp) (by
  refine ha en T σ H _ s fun H1 s1 => ?_
  cases k with
  | false => exact hb rfl en T σ H1 _ s1 kk
  | true => exact kk H1 s1)
theorem ts_w {k : Bool} (h : Tw X e g l k) : Ts X e g l k := fun en T σ H Q s kk => wpT_of (pw_wp).pt (h en T σ H _ s kk)
theorem Ts.to {k k' : Bool} (h : Ts X e g l k) (q : k = k') : Ts X e g l k' := q ▸ h

/-! ### blocks -/
theorem Blk.imp {Ψ : Po} {sts : List Stmt} (h : Blk X W sts g l Φ) (n : ∀ g l, Φ.nx g l → Ψ.nx g l) (r : ∀ d l, Φ.rt d l → Ψ.rt d l) (b : ∀ g l, Φ.bk g l → Ψ.bk g l) (c : ∀ g l, Φ.ct g l → Ψ.ct g l) (x : ∀ c d g l, Φ.ex c d g l → Ψ.ex c d g l) : Blk X W sts g l Ψ := fun en T σ H D s m =>
  h en T σ H D s ⟨fun g l σ H p => m.nx g l σ H (n _ _ p), fun d l v H p => m.rt d l v H (r _ _ p), fun g l σ H p => m.bk g l σ H (b _ _ p), fun g l σ H p => m.ct g l σ H (c _ _ p), fun c d g l σ H p => m.ex c d g l σ H (x _ _ _ _ p)⟩
theorem Blk.weak {sts : List Stmt} (w : Wk g g') (h : Blk X W sts g' l Φ) : Blk X W sts g l Φ := fun en T σ H D s m => h en T σ H D (s.weak w) m
theorem blk_nil (h : Φ.nx g l) : Blk X W [] g l Φ := fun en T σ H D s m => wpS_of pss_nil (m.nx g l σ H h s)
variable {rest : List Stmt}
theorem blk_ret (he : Px X e g l d) (h : Φ.rt d l) : Blk X W (.Return (some e) pos :: rest) g l Φ := fun en T σ H D s m => wpS_of (pss_cons (ps_ret pe_wp) pss_wp) (he en T σ H _ s fun v H' s' => m.rt d l v H' h s'.slotless)
theorem blk_retX {Psi : D → List Res → Prop} (he : Ev X e g l Psi) (h : ∀ d l', Psi d l' → Φ.rt d l') : Blk X W (.Return (some e) pos :: rest) g l Φ := fun en T σ H D s m => wpS_of (pss_cons (ps_ret pe_wp) pss_wp) (he en T σ H _ s fun v d l' H' p s' => m.rt d l' v H' (h d l' p) s'.slotless)
theorem Mt.seq {K : PySem.W.Frag} {en : En} {T : Tm} {D : Ends} (m : Mt K W en T Φ D) {nx : Gm → List Res → Prop} {n : St → Hp → Prop} (h : ∀ g l σ H, nx g l → S K en g T l σ H → n σ H) : Mt K W en T { Φ with nx := nx } { D with nx := n } := ⟨h, m.rt, m.bk, m.ct, m.ex⟩
theorem blk_if {k : Bool} {A B : List Stmt} (hc : Ts X c g l k) (h1 : k = true → Blk X W A g l { Φ with nx := fun g' l' => Blk X W rest g' l' Φ }) (h2 : k = false → Blk X W B g l { Φ with nx := fun g' l' => Blk X W rest g' l' Φ }) : Blk X W (.If c A B pos :: rest) g l Φ := fun en T σ H D s m =>
  wpS_of (pss_cons (ps_if pt_wp pss_wp pss_wp) pss_wp) (by
    refine hc en T σ H _ s fun H1 s1 => ?_
    have mm : Mt X.K W en T { Φ with nx := fun g' l' => Blk X W rest g' l' Φ } { D with nx := wpS X rest D } := m.seq fun g' l' σ' H' p s' => p en T σ' H' D s' m
    cases k with
    | true => exact h1 rfl en T σ H1 _ s1 mm
    | false => exact h2 rfl en T σ H1 _ s1 mm)
/-- .. the ways meet at Mid -/
theorem blk_ifJ {k : Bool} {A B : List Stmt} (Mid : Gm → List Res → Prop) (hc : Ts X c g l k) (h1 : k = true → Blk X W A g l { Φ with nx := Mid }) (h2 : k = false → Blk X W B g l { Φ with nx := Mid }) (hm : ∀ g' l', Mid g' l' → Blk X W rest g' l' Φ) : Blk X W (.If c A B pos :: rest) g l Φ :=
  blk_if hc (fun e => (h1 e).imp (fun g' l' p => hm g' l' p) (fun _ _ p => p) (fun _ _ p => p) (fun _ _ p => p) (fun _ _ _ _ p => p)) (fun e => (h2 e).imp (fun g' l' p => hm g' l' p) (fun _ _ p => p) (fun _ _ p => p) (fun _ _ p => p) (fun _ _ _ _ p => p))
theorem blk_expr {Psi : D → List Res → Prop} (he : Ev X e g l Psi) (h : ∀ d l', Psi d l' → Blk X W rest g l' Φ) (hs : swapsWith e none pos.line X.env = pure false := by rfl) : Blk X W (.Expr e pos :: rest) g l Φ := fun en T σ H D s m => wpS_of (pss_cons (ps_expr pe_wp hs) pss_wp) (he en T σ H _ s fun v d l' H' p s' => h d l' p en T σ H' D s'.drop m)
theorem blk_set {i : Nat} {x : Str} {pos' : Pos} (hN : X.N.Nodup) (hi : X.N[i]? = some x) (hx : Loc X.env.scope x) (he : Px X e g l d) (h : Blk X W rest (g.set i (some d)) l Φ) (hs : swapsWith e (some (.Name x pos')) pos.line X.env = pure false := by rfl) (hf : X.fn x = true ∨ X.env.scope.names.lookup x = some .local := by first | exact .inl rfl | exact .inr rfl | assumption) :
    Blk X W (.Assign [.Name x pos'] e pos :: rest) g l Φ := fun en T σ H D s m => wpS_of (pss_cons (ps_set hN hi hx pe_wp hs hf) pss_wp) (he en T σ H _ s fun v H' s' => by
      obtain ⟨F, M, a⟩ := s'
      exact h en T (σ.set i (some v)) H' D ⟨F, M, (a.tmp a.tm.2).slots (a.sl.set i a.tm.1)⟩ m)
theorem blk_setX {Psi : D → List Res → Prop} {i : Nat} {x : Str} {pos' : Pos} (hN : X.N.Nodup) (hi : X.N[i]? = some x) (hx : Loc X.env.scope x) (he : Ev X e g l Psi) (h : ∀ d l', Psi d l' → Blk X W rest (g.set i (some d)) l' Φ) (hs : swapsWith e (some (.Name x pos')) pos.line X.env = pure false := by rfl) (hf : X.fn x = true ∨ X.env.scope.names.lookup x = some .local := by first | exact .inl rfl | exact .inr rfl | assumption) :
    Blk X W (.Assign [.Name x pos'] e pos :: rest) g l Φ := fun en T σ H D s m => wpS_of (pss_cons (ps_set hN hi hx pe_wp hs hf) pss_wp) (he en T σ H _ s fun v d l' H' p s' => by
      obtain ⟨F, M, a⟩ := s'
      exact h d l' p en T (σ.set i (some v)) H' D ⟨F, M, (a.tmp a.tm.2).slots (a.sl.set i a.tm.1)⟩ m)
end

/-! ### owned lists, instances -/
def ownL (K : PySem.W.Frag) (p : Addr) (ds : List D) : Res := ⟨fun F M => ∃ vs, FdAll K F vs ds ∧ M = one p (.lst vs), fun e ⟨vs, h, m⟩ => ⟨vs, FdAll.mono e _ h, m⟩, fun ⟨_, _, m⟩ x xs e => by rw [m] at e; obtain ⟨_, e⟩ := one_some e; cases e⟩
def ownI (K : PySem.W.Frag) (p C : Addr) (fs : List (Str × D)) : Res := ⟨fun F M => ∃ vs dx, dx ≠ p ∧ FdFs K F vs fs ∧ M = join (one p (.ins C dx vs)) (one dx (.own p)), fun e ⟨vs, dx, n, h, m⟩ => ⟨vs, dx, n, FdFs.mono e _ h, m⟩, fun ⟨_, _, _, _, m⟩ x xs e => by
  rw [m] at e
  rcases join_some e with e | ⟨_, e⟩
  · obtain ⟨_, e⟩ := one_some e; cases e
  · obtain ⟨_, e⟩ := one_some e; cases e⟩
section
variable {K : PySem.W.Frag} {F H M : Hp} {l : List Res}
theorem Rs.own {k : Nat} {p : Addr} {ds : List D} (h : Rs l F M) (e : l[k]? = some (ownL K p ds)) (m : Ex M H) : ∃ vs, FdAll K F vs ds ∧ H p = some (.lst vs) := by
  obtain ⟨A, B, rfl, dj, ⟨vs, f, rfl⟩, _⟩ := Rs.at e h
  exact ⟨vs, f, m p _ (join_l one_same)⟩
theorem Rs.ins {k : Nat} {p C : Addr} {fs : List (Str × D)} (h : Rs l F M) (e : l[k]? = some (ownI K p C fs)) (m : Ex M H) : ∃ dx vs, FdFs K F vs fs ∧ H p = some (.ins C dx vs) := by
  obtain ⟨A, B, rfl, dj, ⟨vs, dx, n, f, rfl⟩, _⟩ := Rs.at e h
  exact ⟨dx, vs, f, m p _ (join_l (join_l one_same))⟩
variable {en : En} {g : Gm} {T : Tm} {σ : L2.St}
/-- an owned list is written -/
theorem At.putL {k : Nat} {p : Addr} {ds ds' : List D} {vs' : List V} (a : At K en g T l σ H F M) (e : l[k]? = some (ownL K p ds)) (f : FdAll K F vs' ds') : ∃ M', At K en g T (l.set k (ownL K p ds')) σ (upd H p (.lst vs')) F M' := by
  obtain ⟨A, B, rfl, dj, ⟨vs, f0, rfl⟩, put⟩ := Rs.at e a.rs
  have hp : H p = some (.lst vs) := a.exM p _ (join_l one_same)
  have hF : F p = none := a.dj.sym p (.lst vs) (join_l one_same)
  have dB : ∀ u, Dj (one p u) B := fun u x o h => by
    obtain ⟨rfl, _⟩ := one_some h
    exact dj x _ one_same
  have hB : B p = none := dj p _ one_same
  have pM : en.H p = none ∨ ∃ u, en.M p = some u := a.nM p _ (join_l one_same)
  refine ⟨join (one p (.lst vs')) B, a.exF.mut hF, ?_, ?_, a.eF, a.nF, ?_, ?_, a.sl, a.tm, put _ _ F .rf ⟨vs', f, rfl⟩ (dB _)⟩
  · intro x o h
    rcases join_some h with q | ⟨n, q⟩
    · obtain ⟨rfl, rfl⟩ := one_some q
      exact upd_same
    · have ne : x ≠ p := fun z => by rw [z, hB] at q; cases q
      rw [upd_ne ne]
      exact a.exM x o (by rw [join_r (one_ne ne)]; exact q)
  · intro x o h
    have ne : x ≠ p := fun z => by rw [z, hF] at h; cases h
    have := a.dj x o h
    rw [join_r (one_ne ne)] at this ⊢
    exact this
  · intro x o h
    rcases join_some h with q | ⟨n, q⟩
    · obtain ⟨rfl, rfl⟩ := one_some q
      exact pM
    · have ne : x ≠ p := fun z => by rw [z, hB] at q; cases q
      exact a.nM x o (by rw [join_r (one_ne ne)]; exact q)
  · intro x o h1 h2
    have ne : x ≠ p := fun z => by
      subst z
      rcases pM with q | ⟨u, q⟩
      · rw [h1] at q; cases q
      · rw [h2] at q; cases q
    rw [upd_ne ne]
    exact a.fr x o h1 h2
/-- an owned instance's attribute is written -/
theorem At.putI {k : Nat} {p C dx : Addr} {fs fs' : List (Str × D)} {vs vs' : List (Str × V)} (a : At K en g T l σ H F M) (e : l[k]? = some (ownI K p C fs)) (hp : H p = some (.ins C dx vs)) (f : FdFs K F vs' fs') : ∃ M', At K en g T (l.set k (ownI K p C fs')) σ (upd H p (.ins C dx vs')) F M' := by
  obtain ⟨A, B, rfl, dj, ⟨vs0, dx0, nd, f0, rfl⟩, put⟩ := Rs.at e a.rs
  have hp0 : H p = some (.ins C dx0 vs0) := a.exM p _ (join_l (join_l one_same))
  rw [hp] at hp0
  obtain ⟨rfl, rfl⟩ : dx = dx0 ∧ vs = vs0 := by injection hp0 with z; injection z with z1 z2 z3; exact ⟨z2, z3⟩
  have hF : F p = none := a.dj.sym p _ (join_l (join_l one_same))
  have dB : ∀ u, Dj (join (one p u) (one dx (.own p))) B := fun u x o h => by
    rcases join_some h with q | ⟨_, q⟩
    · obtain ⟨rfl, _⟩ := one_some q
      exact dj x _ (join_l one_same)
    · obtain ⟨rfl, _⟩ := one_some q
      exact dj x _ (by rw [join_r (one_ne nd)]; exact one_same)
  have hB : B p = none := dj p _ (join_l one_same)
  have pM : en.H p = none ∨ ∃ u, en.M p = some u := a.nM p _ (join_l (join_l one_same))
  refine ⟨join (join (one p (.ins C dx vs')) (one dx (.own p))) B, a.exF.mut hF, ?_, ?_, a.eF, a.nF, ?_, ?_, a.sl, a.tm, put _ _ F .rf ⟨vs', dx, nd, f, rfl⟩ (dB _)⟩
  · intro x o h
    rcases join_some h with q | ⟨n, q⟩
    · rcases join_some q with q | ⟨n, q⟩
      · obtain ⟨rfl, rfl⟩ := one_some q
        exact upd_same
      · obtain ⟨rfl, rfl⟩ := one_some q
        rw [upd_ne nd]
        exact a.exM x _ (join_l (by rw [join_r (one_ne nd)]; exact one_same))
    · have ne : x ≠ p := fun z => by rw [z, hB] at q; cases q
      rw [upd_ne ne]
      have nx : x ≠ dx := fun z => by
        rw [z, join_r (one_ne nd), one_same] at n; cases n
      exact a.exM x o (by rw [join_r (by rw [join_r (one_ne ne)]; exact one_ne nx)]; exact q)
  · intro x o h
    have ne : x ≠ p := fun z => by rw [z, hF] at h; cases h
    have := a.dj x o h
    obtain ⟨q1, q2⟩ := join_none this
    obtain ⟨q3, q4⟩ := join_none q1
    rw [join_r (by rw [join_r (one_ne ne)]; exact q4)]
    exact q2
  · intro x o h
    rcases join_some h with q | ⟨n, q⟩
    · rcases join_some q with q | ⟨n, q⟩
      · obtain ⟨rfl, rfl⟩ := one_some q
        exact pM
      · obtain ⟨rfl, rfl⟩ := one_some q
        exact a.nM x (.own p) (join_l (by rw [join_r (one_ne nd)]; exact one_same))
    · have ne : x ≠ p := fun z => by rw [z, hB] at q; cases q
      have nx : x ≠ dx := fun z => by
        rw [z, join_r (one_ne nd), one_same] at n; cases n
      exact a.nM x o (by rw [join_r (by rw [join_r (one_ne ne)]; exact one_ne nx)]; exact q)
  · intro x o h1 h2
    have ne : x ≠ p := fun z => by
      subst z
      rcases pM with q | ⟨u, q⟩
      · rw [h1] at q; cases q
      · rw [h2] at q; cases q
    rw [upd_ne ne]
    exact a.fr x o h1 h2
/-- something new, owned -/
theorem At.newO {r : Res} {A H' : Hp} (a : At K en g T l σ H F M) (h : Ex H H') (hA : Ex A H') (n : ∀ x o, A x = some o → H x = none) (p : r.P F A) : At K en g T (r :: l) σ H' F (join A M) := by
  have dA : Dj A M := fun x o q => by
    cases z : M x with
    | none => rfl
    | some u => have := a.exM x u z; rw [n x o q] at this; cases this
  refine ⟨a.exF.tr h, hA.join (a.exM.tr h), fun x o q => ?_, a.eF, a.nF, fun x o q => ?_, fun x o h1 h2 => h x o (a.fr x o h1 h2), a.sl, a.tm, ⟨A, M, rfl, dA, p, a.rs⟩⟩
  · cases z : join A M x with
    | none => rfl
    | some u =>
      rcases join_some z with y | ⟨_, y⟩
      · have := a.exF x o q; rw [n x u y] at this; cases this
      · rw [a.dj x o q] at y; cases y
  · rcases join_some q with y | ⟨_, y⟩
    · cases w : en.H x with
      | none => exact .inl rfl
      | some u =>
        cases z : en.M x with
        | some y => exact .inr ⟨y, rfl⟩
        | none => have := a.fr x u w z; rw [n x o y] at this; cases this
    · exact a.nM x o y
/-- what is owned at the front is frozen -/
theorem At.frz {r : Res} {P : Hp → Prop} (a : At K en g T (r :: l) σ H F M) (f : ∀ A, r.P F A → P (join F A)) : ∃ F' M', At K en g T l σ H F' M' ∧ P F' ∧ Ex F F' := by
  obtain ⟨A, B, rfl, dj, p, rs⟩ := a.rs
  have dF : Dj F A := fun x o h => (join_none (a.dj x o h)).1
  have eF : Ex F (join F A) := fun x o h => join_l h
  refine ⟨join F A, B, ⟨a.exF.join a.exM.joinL, a.exM.joinR dj, ?_, a.eF.tr eF, ?_, fun x o h => a.nM x o (by rw [join_r (dj.sym x o h)]; exact h), a.fr, a.sl.mono eF, T.mono eF a.tm, rs.mono eF⟩, f A p, eF⟩
  · intro x o h
    rcases join_some h with q | ⟨_, q⟩
    · exact (join_none (a.dj x o q)).2
    · exact dj x o q
  · intro x o h
    rcases join_some h with q | ⟨_, q⟩
    · exact a.nF x o q
    · rcases a.nM x o (join_l q) with z | z
      · exact .inr (.inl z)
      · exact .inr (.inr (.inl z))
theorem Rs.perm {F : Hp} : ∀ {l k : List Res}, l.Perm k → ∀ {M : Hp}, Rs l F M → Rs k F M := by
  intro l k h
  induction h with
  | nil => exact fun h => h
  | cons x _ ih => exact fun ⟨A, B, h1, h2, h3, h4⟩ => ⟨A, B, h1, h2, h3, ih h4⟩
  | swap x y l =>
    rintro M ⟨A, B, h1, h2, h3, ⟨A', B', g1, g2, g3, g4⟩⟩
    subst g1; subst h1
    have dAA : Dj A A' := (Dj.l h2.sym).sym
    have dAB : Dj A B' := (Dj.r g2 h2.sym).sym
    exact ⟨A', join A B', by rw [← join_assoc, ← join_assoc, dAA.comm], (Dj.joinL dAA g2.sym).sym, g3, A, B', rfl, dAB, h3, g4⟩
  | trans _ _ h1 h2 => exact fun h => h2 (h1 h)
theorem S.perm {l' : List Res} (h : l.Perm l') (s : S K en g T l σ H) : S K en g T l' σ H := let ⟨F, M, a⟩ := s; ⟨F, M, a.exF, a.exM, a.dj, a.eF, a.nF, a.nM, a.fr, a.sl, a.tm, a.rs.perm h⟩
end

section
variable {X : Cx} {W : WX} {g g' : Gm} {l l' : List Res} {Φ : Po} {e a b c o : Expr} {es : List Expr} {d d1 d2 d3 : D} {pos p : Pos} {rest : List Stmt}
theorem Blk.perm {sts : List Stmt} (h : l.Perm l') (k : Blk X W sts g l' Φ) : Blk X W sts g l Φ := fun en T σ H D s m => k en T σ H D (s.perm h) m
/-- a new list, owned -/
theorem ev_lst {ds : List D} (h : Pa X es g l ds) (hz : ds.length ≤ sizeLine := by first | decide | exact Nat.le_of_ble_eq_true rfl) : Ev X (.List es pos) g l (fun d' l' => ∃ p, d' = .adr p ∧ l' = ownL X.K p ds :: l) := fun en T σ H Q s k => wpE_of (pe_lst pa_wp) (by
  refine h en T σ H _ s fun vs H1 s1 => ?_
  obtain ⟨F, M, q⟩ := s1
  refine ⟨by rw [q.tm.1.length]; exact hz, fun p hp => ?_⟩
  have q2 := q.tmp (T' := T) q.tm.2
  have q3 := q2.newO (r := ownL X.K p ds) (A := one p (.lst vs)) (H' := upd H1 p (.lst vs)) (.new hp) (fun x o z => by obtain ⟨rfl, rfl⟩ := one_some z; exact upd_same) (fun x o z => by obtain ⟨rfl, rfl⟩ := one_some z; exact hp) ⟨vs, q.tm.1, rfl⟩
  exact k _ (.adr p) _ _ ⟨p, rfl, rfl⟩ ⟨F, _, q3.tmp ⟨.adr p, q.tm.2⟩⟩)
/-- a list just made is frozen -/
theorem Ev.frz {ds : List D} (h : Ev X e g l (fun d' l' => ∃ p, d' = .adr p ∧ l' = ownL X.K p ds :: l)) : Px X e g l (.lst ds) := fun en T σ H Q s k => h en T σ H Q s fun v d l' H' p s' => by
  obtain ⟨p, rfl, rfl⟩ := p
  obtain ⟨F, M, q⟩ := s'
  have hv := q.tm.1
  cases hv
  obtain ⟨F', M', q', f, _⟩ := q.frz (P := fun F' => Fd X.K F' (.ref p) (.lst ds)) fun A hA => by
    obtain ⟨vs, f, rfl⟩ := hA
    have hF : F p = none := by
      obtain ⟨A, B, rfl, _, ⟨_, _, rfl⟩, _⟩ := q.rs
      exact q.dj.sym p _ (join_l one_same)
    exact .lst (by rw [join_r hF]; exact one_same) (FdAll.mono (fun x o h => join_l h) _ f)
  exact k _ H' ⟨F', M', q'.tmp ⟨f, q'.tm.2⟩⟩
/-- a slot's owned list (at the front) is frozen -/
theorem Blk.frz {sts : List Stmt} {p : Addr} {ds : List D} {i : Nat} (hi : nth g i = some (.adr p)) (k : Blk X W sts (g.set i (some (.lst ds))) l Φ) : Blk X W sts g (ownL X.K p ds :: l) Φ := fun en T σ H D s m => by
  obtain ⟨F, M, q⟩ := s
  obtain ⟨v, hv, fv⟩ := q.sl.nth hi
  cases fv
  obtain ⟨F', M', q', f, _⟩ := q.frz (P := fun F' => Fd X.K F' (.ref p) (.lst ds)) fun A hA => by
    obtain ⟨vs, f, rfl⟩ := hA
    have hF : F p = none := by
      obtain ⟨A, B, rfl, _, ⟨_, _, rfl⟩, _⟩ := q.rs
      exact q.dj.sym p _ (join_l one_same)
    exact .lst (by rw [join_r hF]; exact one_same) (FdAll.mono (fun x o h => join_l h) _ f)
  refine k en T σ H D ⟨F', M', q'.slots ?_⟩ m
  have w := q'.sl.set i f
  have e : σ.set i (some (.ref p)) = σ := by
    apply List.ext_getElem?
    intro j
    by_cases z : j = i
    · subst z
      obtain ⟨h1, h2⟩ := List.getElem?_eq_some_iff.mp hv
      rw [List.getElem?_set_self h1, hv]
    · rw [List.getElem?_set_ne (Ne.symm z)]
  rw [e] at w
  exact w
/-- x.append(e), x an owned list -/
theorem blk_app {k : Nat} {p : Addr} {ds : List D} {apos cpos : Pos} (ho : Px X o g l (.adr p)) (he : Px X e g l d) (hk : l[k]? = some (ownL X.K p ds)) (hz : ds.length < sizeLine) (h : Blk X W rest g (l.set k (ownL X.K p (ds ++ [d]))) Φ)
    (hp : PS X (.Expr (.Call (.Attribute o "append" apos) [e] [] cpos) pos) (tDrop (tBM X.K "list" rAppend (wpE X o) (tCons (wpE X e) tNil)))) : Blk X W (.Expr (.Call (.Attribute o "append" apos) [e] [] cpos) pos :: rest) g l Φ := fun en T σ H D s m => wpS_of (pss_cons hp pss_wp) (by
  refine ho en T σ H _ s fun v H1 s1 => ?_
  obtain ⟨F1, M1, q1⟩ := id s1
  have fv := q1.tm.1
  cases fv
  obtain ⟨vs1, _, hp1⟩ := q1.rs.own hk q1.exM
  refine ⟨.inl ⟨rfl, _, SqL.of hp1⟩, ?_⟩
  refine he en _ σ H1 _ s1 fun u H2 s2 => ?_
  obtain ⟨F, M, q⟩ := s2
  obtain ⟨vs, fvs, hp⟩ := q.rs.own hk q.exM
  refine ⟨p, vs, u, rfl, rfl, hp, by rw [fvs.length]; exact hz, ?_⟩
  obtain ⟨M', q'⟩ := (q.tmp (T' := T) q.tm.2.2).putL hk (fvs.app (.cons q.tm.1 .nil))
  exact h en T σ _ D ⟨F, M', q'⟩ m)
end
end Sx
set_option Elab.async false
set_option linter.all false
set_option maxRecDepth 100000
set_option maxHeartbeats 2000000
/-! Operations by value, calls, loops, comprehensions. -/
namespace Sx
open PySem L2

/-! ### operations -/
section
variable {K : PySem.W.Frag} {l : List Res} {d d1 d2 d3 : D} {i j : Int}
theorem o2_I0 {g : Int → Int → V} (h : ∀ F, Fd K F (g i j) d) : Op2 K l (rI0 g) (.int i) (.int j) d := fun F M H v u Q eF eM dj rs f1 f2 k => by
  cases f1; cases f2
  exact ⟨i, j, rfl, rfl, k _ F H (.rf eF) (h F)⟩
theorem o2_I {C : Int → Int → Prop} {g : Int → Int → V} (hc : C i j) (h : ∀ F, Fd K F (g i j) d) : Op2 K l (rI C g) (.int i) (.int j) d := fun F M H v u Q eF eM dj rs f1 f2 k => by
  cases f1; cases f2
  exact ⟨i, j, rfl, rfl, hc, k _ F H (.rf eF) (h F)⟩
theorem o_add : Op2 K l (rI0 fun i j => .int (i + j)) (.int i) (.int j) (.int (i + j)) := o2_I0 fun _ => .int _
theorem o_sub : Op2 K l (rI0 fun i j => .int (i - j)) (.int i) (.int j) (.int (i - j)) := o2_I0 fun _ => .int _
theorem o_mul (hc : CMul i j) : Op2 K l (rI CMul fun i j => .int (i * j)) (.int i) (.int j) (.int (i * j)) := o2_I hc fun _ => .int _
theorem o_mulR (h1 : -(2 ^ 64) < j := by decide) (h2 : j < 2 ^ 64 := by decide) : Op2 K l (rI CMul fun i j => .int (i * j)) (.int i) (.int j) (.int (i * j)) := o_mul (.inr ⟨h1, h2⟩)
theorem o_mulL (h1 : -(2 ^ 64) < i := by decide) (h2 : i < 2 ^ 64 := by decide) : Op2 K l (rI CMul fun i j => .int (i * j)) (.int i) (.int j) (.int (i * j)) := o_mul (.inl ⟨h1, h2⟩)
theorem o_mod (hc : 0 < j := by decide) : Op2 K l (rI (fun _ j => 0 < j) fun i j => .int (i % j)) (.int i) (.int j) (.int (i % j)) := o2_I hc fun _ => .int _
theorem o_fdiv (h1 : 0 < j := by decide) (h2 : j < 1073741824 := by decide) : Op2 K l (rI CDiv fun i j => .int (i / j)) (.int i) (.int j) (.int (i / j)) := o2_I ⟨h1, h2⟩ fun _ => .int _
theorem o_pow (hc : CPow i j := by exact ⟨by decide, by decide, by decide⟩) : Op2 K l (rI CPow fun i j => .int (i ^ j.toNat)) (.int i) (.int j) (.int (i ^ j.toNat)) := o2_I hc fun _ => .int _
theorem o_lt : Op2 K l (rI0 fun i j => .bl (decide (i < j))) (.int i) (.int j) (.bl (decide (i < j))) := o2_I0 fun _ => .bl _
theorem o_le : Op2 K l (rI0 fun i j => .bl (decide (i ≤ j))) (.int i) (.int j) (.bl (decide (i ≤ j))) := o2_I0 fun _ => .bl _
theorem o_gt : Op2 K l (rI0 fun i j => .bl (decide (j < i))) (.int i) (.int j) (.bl (decide (j < i))) := o2_I0 fun _ => .bl _
theorem o_ge : Op2 K l (rI0 fun i j => .bl (decide (j ≤ i))) (.int i) (.int j) (.bl (decide (j ≤ i))) := o2_I0 fun _ => .bl _
theorem o_neg : Op1 K l (rU fun i => .int (-i)) (.int i) (.int (-i)) := fun F M H v Q eF eM dj rs f1 k => by
  cases f1
  exact ⟨i, rfl, k _ F H (.rf eF) (.int _)⟩
/-- scalars -/
def D.v : D → Option V
  | .non => some .non | .bl b => some (.bl b) | .int i => some (.int i) | .str x => some (.str x) | .ty n => some (.ty n) | _ => none
theorem D.v_eq {F : Hp} {d : D} {v w : V} (f : Fd K F v d) (h : d.v = some w) : v = w := by
  cases f <;> first | (cases h; rfl) | cases h
theorem o_eq {v1 v2 : V} (h1 : d1.v = some v1) (h2 : d2.v = some v2) (hs : scal v1 v2 = true := by rfl) : Op2 K l rEq d1 d2 (.bl (decide (v1 = v2))) := fun F M H v u Q eF eM dj rs f1 f2 k => by
  have e1 := D.v_eq f1 h1
  have e2 := D.v_eq f2 h2
  subst e1; subst e2
  exact ⟨hs, k _ F H (.rf eF) (.bl _)⟩
theorem o_ne {v1 v2 : V} (h1 : d1.v = some v1) (h2 : d2.v = some v2) (hs : scal v1 v2 = true := by rfl) : Op2 K l rNe d1 d2 (.bl (!decide (v1 = v2))) := fun F M H v u Q eF eM dj rs f1 f2 k => by
  have e1 := D.v_eq f1 h1
  have e2 := D.v_eq f2 h2
  subst e1; subst e2
  exact ⟨hs, k _ F H (.rf eF) (.bl _)⟩
theorem int_dec (i j : Int) : decide (V.int i = V.int j) = decide (i = j) := by
  by_cases e : i = j
  · subst e; simp
  · have : ¬ V.int i = V.int j := fun q => e (V.int.inj q)
    rw [decide_eq_false e, decide_eq_false this]
theorem str_dec (i j : Str) : decide (V.str i = V.str j) = decide (i = j) := by
  by_cases e : i = j
  · subst e; simp
  · have : ¬ V.str i = V.str j := fun q => e (V.str.inj q)
    rw [decide_eq_false e, decide_eq_false this]
theorem o_eqI : Op2 K l rEq (.int i) (.int j) (.bl (decide (i = j))) := by
  rw [← int_dec]; exact o_eq rfl rfl
theorem o_neI : Op2 K l rNe (.int i) (.int j) (.bl (!decide (i = j))) := by
  rw [← int_dec]; exact o_ne rfl rfl
theorem o_eqS {x y : Str} : Op2 K l rEq (.str x) (.str y) (.bl (decide (x = y))) := by
  rw [← str_dec]; exact o_eq rfl rfl
theorem o_neS {x y : Str} : Op2 K l rNe (.str x) (.str y) (.bl (!decide (x = y))) := by
  rw [← str_dec]; exact o_ne rfl rfl
/-- is None -/
def D.isNon : D → Bool
  | .non => true | _ => false
theorem D.isNon_eq {F : Hp} {d : D} {v : V} (f : Fd K F v d) : decide (v = .non) = d.isNon := by
  cases f <;> simp [D.isNon]
theorem o_isN : Op2 K l (fun x y H Q => y = .non ∧ Q (.bl (decide (x = .non))) H) d .non (.bl d.isNon) := fun F M H v u Q eF eM dj rs f1 f2 k => by
  cases f2
  refine ⟨rfl, ?_⟩
  rw [D.isNon_eq f1]
  exact k _ F H (.rf eF) (.bl _)
theorem o_notN : Op2 K l (fun x y H Q => y = .non ∧ Q (.bl (!decide (x = .non))) H) d .non (.bl (!d.isNon)) := fun F M H v u Q eF eM dj rs f1 f2 k => by
  cases f2
  refine ⟨rfl, ?_⟩
  rw [D.isNon_eq f1]
  exact k _ F H (.rf eF) (.bl _)
theorem o_addS {x y : Str} (h : x.length + y.length ≤ sizeLine) : Op2 K l (fun x y H Q => ∃ i j, x = .str i ∧ y = .str j ∧ i.length + j.length ≤ sizeLine ∧ Q (.str (i ++ j)) H) (.str x) (.str y) (.str (x ++ y)) := fun F M H v u Q eF eM dj rs f1 f2 k => by
  cases f1; cases f2
  exact ⟨x, y, rfl, rfl, h, k _ F H (.rf eF) (.str _)⟩
theorem atI_fd {F : Hp} {vs : List V} {ds : List D} (f : FdAll K F vs ds) (h : atI ds i = some d) : ∃ v, atI vs i = some v ∧ Fd K F v d := by
  unfold atI at h ⊢
  rw [f.length]
  cases e : ixN ds.length i with
  | none => rw [e] at h; cases h
  | some n =>
    rw [e] at h
    exact f.get h
theorem o_ixT {ds : List D} (h : atI ds i = some d) : Op2 K l (rIxT K) (.tup ds) (.int i) d := fun F M H v u Q eF eM dj rs f1 f2 k => by
  cases f2
  cases f1 with
  | tup s a =>
    obtain ⟨w, h1, h2⟩ := atI_fd a h
    exact ⟨_, _, i, w, rfl, rfl, ex_t eF s, h1, k w F H (.rf eF) h2⟩
theorem o_ixL {ds : List D} (h : atI ds i = some d) : Op2 K l (rIxL K) (.lst ds) (.int i) d := fun F M H v u Q eF eM dj rs f1 f2 k => by
  cases f2
  cases f1 with
  | lst s a =>
    obtain ⟨w, h1, h2⟩ := atI_fd a h
    exact ⟨_, _, i, w, rfl, rfl, SqL.of (eF _ _ s), h1, k w F H (.rf eF) h2⟩
theorem o_ixR {ds : List D} (h : atI ds i = some d) : Op2 K l (rIxL K) (.scr ds) (.int i) d := fun F M H v u Q eF eM dj rs f1 f2 k => by
  cases f2
  cases f1 with
  | scr s a =>
    obtain ⟨w, h1, h2⟩ := atI_fd a h
    exact ⟨_, _, i, w, rfl, rfl, ex_l eF s, h1, k w F H (.rf eF) h2⟩
theorem o_ixS {x : Str} {c : Nat} (h : x.length ≤ sizeLine) (ha : atI x.cps.toList i = some c) : Op2 K l rIxS (.str x) (.int i) (.str ⟨#[c]⟩) := fun F M H v u Q eF eM dj rs f1 f2 k => by
  cases f1; cases f2
  exact ⟨x, i, c, rfl, rfl, h, ha, k _ F H (.rf eF) (.str _)⟩
/-- x in xs, flat things -/
def D.flat (d : D) : Bool := match d.v with | some v => flatV v | none => false
def D.vv (d : D) : V := d.v.getD .non
theorem D.vv_eq {F : Hp} {d : D} {v : V} (f : Fd K F v d) (h : d.flat = true) : v = d.vv ∧ flatV v = true := by
  cases f <;> first | exact ⟨rfl, h⟩ | cases h
theorem D.vvs {F : Hp} : ∀ {vs : List V} {ds : List D}, FdAll K F vs ds → ds.all D.flat = true → vs = ds.map D.vv ∧ vs.all flatV = true
  | _, _, .nil, _ => ⟨rfl, rfl⟩
  | _, _, .cons a b, h => by
    rw [List.all_cons, Bool.and_eq_true] at h
    obtain ⟨q1, q2⟩ := D.vv_eq a h.1
    obtain ⟨r1, r2⟩ := D.vvs b h.2
    refine ⟨by rw [List.map_cons, ← q1, ← r1], by rw [List.all_cons, q2, r2]; rfl⟩
theorem o_in {neg : Bool} {ds : List D} {d0 : D} (hd : d0 = .lst ds ∨ d0 = .tup ds) (hx : d.flat = true) (hs : ds.all D.flat = true) : Op2 K l (rIn K neg) d d0 (.bl (if neg then !inV d.vv (ds.map D.vv) else inV d.vv (ds.map D.vv))) := fun F M H v u Q eF eM dj rs f1 f2 k => by
  obtain ⟨q1, q2⟩ := D.vv_eq f1 hx
  subst q1
  have kk := k (.bl (if neg then !inV d.vv (ds.map D.vv) else inV d.vv (ds.map D.vv))) F H (.rf eF) (.bl _)
  rcases hd with rfl | rfl
  · cases f2 with
    | lst s a =>
      obtain ⟨r1, r2⟩ := D.vvs a hs
      subst r1
      exact ⟨_, _, rfl, .inl (SqL.of (eF _ _ s)), q2, r2, kk⟩
  · cases f2 with
    | tup s a =>
      obtain ⟨r1, r2⟩ := D.vvs a hs
      subst r1
      exact ⟨_, _, rfl, .inr (ex_t eF s), q2, r2, kk⟩
theorem inV_str {x : Str} {xs : List Str} : inV (.str x) (xs.map V.str) = decide (x ∈ xs) := by
  induction xs with
  | nil => rfl
  | cons y r ih =>
    have e : inV (.str x) ((y :: r).map V.str) = ((y == x) || inV (.str x) (r.map V.str)) := rfl
    rw [e, ih]
    by_cases q : y = x
    · subst q; simp
    · have q' : ¬ x = y := fun z => q z.symm
      simp [q, q']
theorem inV_int {x : Int} {xs : List Int} : inV (.int x) (xs.map V.int) = decide (x ∈ xs) := by
  induction xs with
  | nil => rfl
  | cons y r ih =>
    have e : inV (.int x) ((y :: r).map V.int) = ((y == x) || inV (.int x) (r.map V.int)) := rfl
    rw [e, ih]
    by_cases q : y = x
    · subst q; simp
    · have q' : ¬ x = y := fun z => q z.symm
      simp [q, q']
theorem flat_strs {xs : List Str} : (xs.map D.str).all D.flat = true := by
  induction xs with
  | nil => rfl
  | cons y r ih => rw [List.map_cons, List.all_cons, ih]; rfl
theorem vv_strs {xs : List Str} : (xs.map D.str).map D.vv = xs.map V.str := by
  rw [List.map_map]; rfl
theorem flat_ints {xs : List Int} : (xs.map D.int).all D.flat = true := by
  induction xs with
  | nil => rfl
  | cons y r ih => rw [List.map_cons, List.all_cons, ih]; rfl
theorem vv_ints {xs : List Int} : (xs.map D.int).map D.vv = xs.map V.int := by
  rw [List.map_map]; rfl
theorem o_inS {x : Str} {xs : List Str} {d0 : D} (hd : d0 = .lst (xs.map D.str) ∨ d0 = .tup (xs.map D.str)) : Op2 K l (rIn K false) (.str x) d0 (.bl (decide (x ∈ xs))) := by
  have h := o_in (K := K) (l := l) (neg := false) hd (d := .str x) rfl flat_strs
  rw [vv_strs] at h
  have e : (if false = true then !inV (D.str x).vv (xs.map V.str) else inV (D.str x).vv (xs.map V.str)) = decide (x ∈ xs) := inV_str
  rw [e] at h; exact h
theorem o_ninS {x : Str} {xs : List Str} {d0 : D} (hd : d0 = .lst (xs.map D.str) ∨ d0 = .tup (xs.map D.str)) : Op2 K l (rIn K true) (.str x) d0 (.bl (!decide (x ∈ xs))) := by
  have h := o_in (K := K) (l := l) (neg := true) hd (d := .str x) rfl flat_strs
  rw [vv_strs] at h
  have e : (if true = true then !inV (D.str x).vv (xs.map V.str) else inV (D.str x).vv (xs.map V.str)) = !decide (x ∈ xs) := congrArg (!·) inV_str
  rw [e] at h; exact h
/- == of data -/
mutual
def D.py : D → Option PyData
  | .non => some .none | .bl b => some (.bool b) | .int i => some (.int i) | .str x => some (.str x)
  | .lst ds => (D.pys ds).map .list
  | .tup ds => (D.pys ds).map .tuple
  | .adr _ => none | .ty _ => none | .ins _ _ => none | .scr _ => none | .dK _ => none | .dT _ => none | .exc _ _ => none | .kt _ => none
def D.pys : List D → Option (List PyData)
  | [] => some []
  | d :: r => (D.py d).bind fun a => (D.pys r).map fun b => a :: b
end
mutual
theorem Fd.dp {F H : Hp} (e : Ex F H) : ∀ (d : D) {v : V} {p : PyData}, Fd K F v d → D.py d = some p → Dp K H v p
  | .non, _, _, h, q => by cases h; cases q; exact .non
  | .bl _, _, _, h, q => by cases h; cases q; exact .bl _
  | .int _, _, _, h, q => by cases h; cases q; exact .int _
  | .str _, _, _, h, q => by cases h; cases q; exact .str _
  | .lst ds, _, _, h, q => by
    unfold D.py at q
    obtain ⟨ps, h1, rfl⟩ := Option.map_eq_some_iff.mp q
    cases h with
    | lst s a => exact .lst (SqL.of (e _ _ s)) (FdAll.dp e ds a h1)
  | .tup ds, _, _, h, q => by
    unfold D.py at q
    obtain ⟨ps, h1, rfl⟩ := Option.map_eq_some_iff.mp q
    cases h with
    | tup s a => exact .tup (ex_t e s) (FdAll.dp e ds a h1)
  | .adr _, _, _, h, q => by cases q
  | .ty _, _, _, h, q => by cases q
  | .ins _ _, _, _, h, q => by cases q
  | .scr _, _, _, h, q => by cases q
  | .dK _, _, _, h, q => by cases q
  | .dT _, _, _, h, q => by cases q
  | .exc _ _, _, _, h, q => by cases q
  | .kt _, _, _, h, q => by cases q
theorem FdAll.dp {F H : Hp} (e : Ex F H) : ∀ (ds : List D) {vs : List V} {ps : List PyData}, FdAll K F vs ds → D.pys ds = some ps → DpAll K H vs ps
  | [], _, _, h, q => by cases h; cases q; exact .nil
  | d :: r, _, _, h, q => by
    unfold D.pys at q
    obtain ⟨a, h1, q⟩ := Option.bind_eq_some_iff.mp q
    obtain ⟨b, h2, rfl⟩ := Option.map_eq_some_iff.mp q
    cases h with
    | cons x y => exact .cons (Fd.dp e d x h1) (FdAll.dp e r y h2)
end
theorem o_eqD {p q : PyData} (h1 : d1.py = some p) (h2 : d2.py = some q) (s1 : SeqAt.shaped p = true) (s2 : SeqAt.shaped q = true) : Op2 K l (rEqD K) d1 d2 (.bl (PyData.eqv p q)) := fun F M H v u Q eF eM dj rs f1 f2 k =>
  ⟨p, q, Fd.dp eF _ f1 h1, Fd.dp eF _ f2 h2, s1, s2, k _ F H (.rf eF) (.bl _)⟩
theorem o_neD {p q : PyData} (h1 : d1.py = some p) (h2 : d2.py = some q) (s1 : SeqAt.shaped p = true) (s2 : SeqAt.shaped q = true) : Op2 K l (rNeD K) d1 d2 (.bl (!PyData.eqv p q)) := fun F M H v u Q eF eM dj rs f1 f2 k =>
  ⟨p, q, Fd.dp eF _ f1 h1, Fd.dp eF _ f2 h2, s1, s2, k _ F H (.rf eF) (.bl _)⟩
end

/-! ### a def's promise -/
/-- called with the data args a (owned: own a), where ok a holds, it gives back what post tells, or raises what epost tells -/
def FnX (K : PySem.W.Frag) {α : Type} (ok : α → Prop) (args : α → List D) (own : α → List Res) (post : α → D → List Res → Prop) (epost : α → Value → Option Addr → List Res → Prop) : Sp := fun vs H Q E =>
  ∃ (a : α) (F M : Hp), ok a ∧ Ex F H ∧ Ex M H ∧ Dj F M ∧ FdAll K F vs (args a) ∧ Rs (own a) F M ∧
    (∀ v d l' H', post a d l' → S K ⟨F, M, H⟩ [] (Tm.tt.and K v d) l' [] H' → Q v H') ∧ (∀ cls d l' H', epost a cls d l' → S K ⟨F, M, H⟩ [] Tm.tt l' [] H' → E cls d H')
abbrev noE {α : Type} : α → Value → Option Addr → List Res → Prop := fun _ _ _ _ => False
/-- a def that changes nothing and gives back f a -/
abbrev Pu (K : PySem.W.Frag) {α : Type} (ok : α → Prop) (args : α → List D) (f : α → D) : Sp := FnX K ok args (fun _ => []) (fun a d l' => d = f a ∧ l' = []) noE
section
variable {P : Program} {w : World} {K : PySem.W.Frag} {mg : Str → Option Value} {base : Heap}
theorem fn_ok {α : Type} {ok : α → Prop} {args : α → List D} {own : α → List Res} {post : α → D → List Res → Prop} {epost : α → Value → Option Addr → List Res → Prop} {x qual : Str} {st : Stmt} {f : Addr} {fd : FuncData} {N ps : List Str} {k : Nat}
    (F : Fun K x qual st f fd) (Sc : FnScope N ps (defScope st)) (hlen : ∀ a, (args a).length = ps.length)
    (hbody : ∀ (cdv : Value) (A : Around) (outer : List Env) (s : Shared) (H : Hp) (E : XK) (a : α), Room k (A.deeper (PyProof.Rows.envOfC qual (defScope st) s.heap.objs.size f cdv)) → ok a →
      Blk (cxOf CX0 P w K mg base N qual (defScope st) f cdv A outer s H E).nox (fun _ _ _ _ => False) (defBody st) ((args a).map some ++ List.replicate (N.length - (args a).length) none) (own a) { nx := fun _ l' => post a .non l', rt := post a }) :
    FnOk P w K mg base CX0 (k + 1) f fd ps (FnX K ok args own post epost) := by
  refine F.ok Sc (fun vs H Q E h => ?_) (fun cdv A outer s H vs Q E hr h => ⟨wpS _ (defBody st), pss_wp, ?_⟩)
  · obtain ⟨a, _, _, _, _, _, _, h, _⟩ := h
    rw [h.length, hlen]
  · obtain ⟨a, F, M, hok, eF, eM, dj, fa, rs, hq, _⟩ := h
    have e : vs.length = (args a).length := fa.length
    refine hbody cdv A outer s H E a hr hok ⟨F, M, H⟩ Tm.tt _ H _ ⟨F, M, At.entry eF eM dj ?_ trivial rs⟩ ⟨fun g l σ H' p s' => ?_, fun d l v H' p s' => hq v d l H' p s', fun _ _ _ _ h => h.elim, fun _ _ _ _ h => h.elim, fun _ _ _ _ _ _ h => h.elim⟩
    · unfold L2.start
      rw [e]
      exact Sl.args _ fa
    · obtain ⟨F', M', q⟩ := s'
      exact hq .non .non l H' p ⟨F', M', (q.tmp (T' := Tm.tt.and K .non .non) ⟨.non, trivial⟩).slots .nil⟩
theorem fn_okX {α : Type} {ok : α → Prop} {args : α → List D} {own : α → List Res} {post : α → D → List Res → Prop} {epost : α → Value → Option Addr → List Res → Prop} {x qual : Str} {st : Stmt} {f : Addr} {fd : FuncData} {N ps : List Str} {k : Nat}
    (F : Fun K x qual st f fd) (Sc : FnScope N ps (defScope st)) (hlen : ∀ a, (args a).length = ps.length)
    (hbody : ∀ (cdv : Value) (A : Around) (outer : List Env) (s : Shared) (H : Hp) (E : XK) (a : α), Room k (A.deeper (PyProof.Rows.envOfC qual (defScope st) s.heap.objs.size f cdv)) → ok a →
      Blk (cxOf (L2.CX P w) P w K mg base N qual (defScope st) f cdv A outer s H E) (fun cls d _ H => E cls d H) (defBody st) ((args a).map some ++ List.replicate (N.length - (args a).length) none) (own a) { nx := fun _ l' => post a .non l', rt := post a, ex := fun cls d _ l' => epost a cls d l' }) :
    FnOk P w K mg base (L2.CX P w) (k + 1) f fd ps (FnX K ok args own post epost) := by
  refine F.okX Sc (fun vs H Q E h => ?_) (fun cdv A outer s H vs Q E hr h => ⟨wpS _ (defBody st), pss_wp, ?_⟩)
  · obtain ⟨a, _, _, _, _, _, _, h, _⟩ := h
    rw [h.length, hlen]
  · obtain ⟨a, F, M, hok, eF, eM, dj, fa, rs, hq, he⟩ := h
    have e : vs.length = (args a).length := fa.length
    refine hbody cdv A outer s H E a hr hok ⟨F, M, H⟩ Tm.tt _ H _ ⟨F, M, At.entry eF eM dj ?_ trivial rs⟩ ⟨fun g l σ H' p s' => ?_, fun d l v H' p s' => hq v d l H' p s', fun _ _ _ _ h => h.elim, fun _ _ _ _ h => h.elim, fun cls d g l σ H' p s' => he cls d l H' p s'.slotless⟩
    · unfold L2.start
      rw [e]
      exact Sl.args _ fa
    · obtain ⟨F', M', q⟩ := s'
      exact hq .non .non l H' p ⟨F', M', (q.tmp (T' := Tm.tt.and K .non .non) ⟨.non, trivial⟩).slots .nil⟩
/-- a def of the module under its name, with its promise -/
def Glo (P : Program) (w : World) (K : PySem.W.Frag) (mg : Str → Option Value) (base : Heap) (k : Nat) (x : Str) (ps : List Str) (sp : Sp) : Prop :=
  ∃ f fd, FnOk P w K mg base CX0 k f fd ps sp ∧ mg x = some (.ref f) ∧ PySem.W.keepIn K (.ref f) = true ∧ Binds K fd ps []
/-- a class's method, with its promise -/
def GloM (P : Program) (w : World) (K : PySem.W.Frag) (mg : Str → Option Value) (base : Heap) (k : Nat) (C : Addr) (m : Str) (ps : List Str) (sp : Sp) : Prop :=
  ∃ f fd, FnOk P w K mg base CX0 k f fd ps sp ∧ Cls K C ∧ Meth K C m f ∧ Binds K fd ps []
/-- a class under its name with its __init__ -/
def GloC (P : Program) (w : World) (K : PySem.W.Frag) (mg : Str → Option Value) (base : Heap) (k : Nat) (C : Addr) (x : Str) (ps : List Str) (sp : Sp) : Prop :=
  ∃ f fd, FnOk P w K mg base CX0 k f fd ps sp ∧ Mk K C f ∧ mg x = some (.ref C) ∧ Binds K fd ps []
end

section
variable {X : Cx} {W : WX} {g g' : Gm} {l l' : List Res} {Φ : Po} {e e2 a b c o : Expr} {es : List Expr} {d d1 d2 d3 : D} {pos p p2 : Pos} {rest : List Stmt}
/-- o.m(es) is got as a method -/
abbrev MthE (X : Cx) (o : Expr) (m : Str) (apos pos : Pos) (es : List Expr) (pl : Sem Bool) : Prop := eval (.Call (.Attribute o m apos) es [] pos) X.env = (do let ov ← eval o X.env; standAt apos.atName; let (f, r) ← holding [ov] (getMethod ov m pl); callWith pos f r (backTo pos (starEach es X.env)) (backToKw pos (keywordEach [] X.env)))
/-- what a promise gives where the state is known -/
theorem FnX.use {α : Type} {ok : α → Prop} {args : α → List D} {own : α → List Res} {post : α → D → List Res → Prop} {epost : α → Value → Option Addr → List Res → Prop} {K : PySem.W.Frag} {en : En} {T : Tm} {σ : L2.St} {H : Hp} {vs : List V} {lr : List Res} {Q : VK} {E : XK}
    (a : α) (hok : ok a) (s : S K en g (T.ands K vs (args a)) (own a ++ lr) σ H) (hq : ∀ v d l' H', post a d l' → S K en g (T.and K v d) (l' ++ lr) σ H' → Q v H') (he : ∀ cls d l' H', epost a cls d l' → S K en g T (l' ++ lr) σ H' → E cls d H') :
    FnX K ok args own post epost vs H Q E := by
  obtain ⟨F, M, q⟩ := s
  obtain ⟨A, B, rfl, dj, r1, r2⟩ := q.rs.split
  refine ⟨a, F, A, hok, q.exF, q.exM.joinL, (Dj.l q.dj.sym).sym, q.tm.1, r1, fun v d l' H' hp s' => ?_, fun cls d l' H' hp s' => ?_⟩
  · obtain ⟨F2, M2, b⟩ := s'
    have z := (q.tmp (T' := T) q.tm.2).frame dj r2 b
    exact hq v d l' H' hp ⟨F2, _, z.tmp ⟨b.tm.1, z.tm⟩⟩
  · obtain ⟨F2, M2, b⟩ := s'
    have z := (q.tmp (T' := T) q.tm.2).frame dj r2 b
    exact he cls d l' H' hp ⟨F2, _, z⟩
theorem ev_call {α : Type} {ok : α → Prop} {args : α → List D} {own : α → List Res} {post : α → D → List Res → Prop} {x : Str} {ps : List Str} {k j : Nat} {lr : List Res} {Psi : D → List Res → Prop}
    (G : Glo X.prog X.w X.K X.mg X.base k x ps (FnX X.K ok args own post noE)) (hr : Room j X.A) (hj : k ≤ j) (a : α) (hok : ok a) (ha : Pa X (e :: es) g (own a ++ lr) (args a)) (hq : ∀ d l', post a d l' → Psi d (l' ++ lr))
    (hg : Gl X x := by rfl) (hdb : (x == ("__debug__" : Str)) = false := by decide) (he : starEach (e :: es) X.env = (false, eval e X.env) :: starEach es X.env := by rfl) (hpl : (backTo pos (starEach es X.env)).any (·.1) = false := by rfl) :
    Ev X (.Call (.Name x p) (e :: es) [] pos) g (own a ++ lr) Psi := fun en T σ H Q s kk => by
  obtain ⟨f, fd, F, hm, hk, hb⟩ := G
  refine wpE_of (pe_call F (hr.mono hj) hg hm hk hb .nil pass0 pa_wp hdb he hpl) ?_
  refine ha en T σ H _ s fun vs H1 s1 => ?_
  rw [List.append_nil]
  exact FnX.use a hok s1 (fun v d l' H' hp s' => kk v d _ H' (hq d l' hp) s') fun _ _ _ _ h => h.elim
/-- a def that changes nothing -/
theorem px_call {α : Type} {ok : α → Prop} {args : α → List D} {f : α → D} {x : Str} {ps : List Str} {k j : Nat} 
    (G : Glo X.prog X.w X.K X.mg X.base k x ps (Pu X.K ok args f)) (hr : Room j X.A) (hj : k ≤ j) (a : α) (hok : ok a) (ha : Pa X (e :: es) g l (args a))
    (hg : Gl X x := by rfl) (hdb : (x == ("__debug__" : Str)) = false := by decide) (he : starEach (e :: es) X.env = (false, eval e X.env) :: starEach es X.env := by rfl) (hpl : (backTo pos (starEach es X.env)).any (·.1) = false := by rfl) :
    Px X (.Call (.Name x p) (e :: es) [] pos) g l (f a) :=
  Ev.px (ev_call (lr := l) (own := fun _ => []) G hr hj a hok ha (fun d l' h => ⟨h.1, by rw [h.2]; rfl⟩) hg hdb he hpl)
/-- o.m(..) -/
theorem ev_meth {α : Type} {ok : α → Prop} {args : α → List D} {own : α → List Res} {post : α → D → List Res → Prop} {C : Addr} {m : Str} {ps : List Str} {k j : Nat} {lr : List Res} {Psi : D → List Res → Prop} {ds : List D} {apos : Pos} {pl : Sem Bool}
    (G : GloM X.prog X.w X.K X.mg X.base k C m ps (FnX X.K ok args own post noE)) (hr : Room j X.A) (hj : k ≤ j) (a : α) (hok : ok a) (ho : Px X o g (own a ++ lr) d1)
    (hd : ∀ F M H v, Ex F H → Ex M H → Rs (own a ++ lr) F M → Fd X.K F v d1 → ∃ q dx fs, v = .ref q ∧ H q = some (.ins C dx fs) ∧ fs.lookup m = none)
    (ha : Pa X (e :: es) g (own a ++ lr) ds) (hds : args a = d1 :: ds) (hq : ∀ d l', post a d l' → Psi d (l' ++ lr))
    (hst : starEach (e :: es) X.env = (false, eval e X.env) :: starEach es X.env := by rfl) (hpl : (backTo pos (starEach es X.env)).any (·.1) = false := by rfl)
    (ht : MthE X o m apos pos (e :: es) pl := by rfl) :
    Ev X (.Call (.Attribute o m apos) (e :: es) [] pos) g (own a ++ lr) Psi := fun en T σ H Q s kk => by
  obtain ⟨f, fd, F, hc, hm, hb⟩ := G
  refine wpE_of (pe_meth pe_wp hc hm F (hr.mono hj) hb .nil pass0 pa_wp hst hpl ht) ?_
  refine ho en T σ H _ s fun v H1 s1 => ?_
  have s1' := s1
  obtain ⟨F1, M1, q1⟩ := s1
  obtain ⟨q, dx, fs, rfl, h1, h2⟩ := hd F1 M1 H1 v q1.exF q1.exM q1.rs q1.tm.1
  refine ⟨q, dx, fs, rfl, h1, h2, ?_⟩
  refine ha en _ σ H1 _ s1' fun vs H2 s2 => ?_
  rw [List.append_nil]
  refine FnX.use a hok (T := T) (g := g) (en := en) (σ := σ) (lr := lr) ?_ (fun v d l' H' hp s' => kk v d _ H' (hq d l' hp) s') fun _ _ _ _ h => h.elim
  obtain ⟨F, M, q⟩ := s2
  exact ⟨F, M, q.tmp ⟨by rw [hds]; exact .cons q.tm.2.1 q.tm.1, q.tm.2.2⟩⟩
/-- the receiver: a frozen instance, an owned one -/
theorem rc_ins {K : PySem.W.Frag} {C : Addr} {fs : List (Str × D)} {m : Str} (h : fs.lookup m = none) : ∀ F M H v, Ex F H → Ex M H → Rs l F M → Fd K F v (.ins C fs) → ∃ q dx fs, v = .ref q ∧ H q = some (.ins C dx fs) ∧ fs.lookup m = none := fun F M H v eF eM rs f => by
  cases f with
  | ins h1 h2 => exact ⟨_, _, _, rfl, eF _ _ h1, h2.nolook h⟩
theorem rc_own {K : PySem.W.Frag} {C p : Addr} {fs : List (Str × D)} {m : Str} {k : Nat} (hk : l[k]? = some (ownI K p C fs)) (h : fs.lookup m = none) : ∀ F M H v, Ex F H → Ex M H → Rs l F M → Fd K F v (.adr p) → ∃ q dx fs, v = .ref q ∧ H q = some (.ins C dx fs) ∧ fs.lookup m = none := fun F M H v eF eM rs f => by
  cases f
  obtain ⟨dx, vs, f, hp⟩ := rs.ins hk eM
  exact ⟨p, dx, vs, rfl, hp, f.nolook h⟩
theorem px_meth {α : Type} {ok : α → Prop} {args : α → List D} {f : α → D} {C : Addr} {m : Str} {ps : List Str} {k j : Nat} {ds : List D} {apos : Pos} {pl : Sem Bool} {fs : List (Str × D)}
    (G : GloM X.prog X.w X.K X.mg X.base k C m ps (Pu X.K ok args f)) (hr : Room j X.A) (hj : k ≤ j) (a : α) (hok : ok a) (ho : Px X o g l (.ins C fs)) (hfs : fs.lookup m = none) (ha : Pa X (e :: es) g l ds) (hds : args a = .ins C fs :: ds)
    (hst : starEach (e :: es) X.env = (false, eval e X.env) :: starEach es X.env := by rfl) (hpl : (backTo pos (starEach es X.env)).any (·.1) = false := by rfl)
    (ht : MthE X o m apos pos (e :: es) pl := by rfl) : Px X (.Call (.Attribute o m apos) (e :: es) [] pos) g l (f a) :=
  Ev.px (ev_meth (lr := l) (own := fun _ => []) G hr hj a hok ho (rc_ins hfs) ha hds (fun d l' h => ⟨h.1, by rw [h.2]; rfl⟩) hst hpl ht)
/-- C(..), C with an own __init__ -/
theorem ev_make {α : Type} {ok : α → Prop} {args : α → List D} {own : α → List Res} {post : α → D → List Res → Prop} {C : Addr} {x : Str} {ps : List Str} {k j : Nat} {lr : List Res} {Psi : D → List Res → Prop} {ds : List D}
    (G : GloC X.prog X.w X.K X.mg X.base k C x ps (FnX X.K ok args own post noE)) (hr : Room j X.A) (hj : k + 1 ≤ j) (a : Addr → α) (hok : ∀ q, ok (a q)) (ha : Pa X (e :: es) g lr ds)
    (hds : ∀ q, args (a q) = .adr q :: ds) (hown : ∀ q, own (a q) = [ownI X.K q C []]) (hq : ∀ q d l', post (a q) d l' → d = .non ∧ Psi (.adr q) (l' ++ lr))
    (hg : Gl X x := by rfl) (hdb : (x == ("__debug__" : Str)) = false := by decide) (he : starEach (e :: es) X.env = (false, eval e X.env) :: starEach es X.env := by rfl) (hpl : (backTo pos (starEach es X.env)).any (·.1) = false := by rfl) :
    Ev X (.Call (.Name x p) (e :: es) [] pos) g lr Psi := fun en T σ H Q s kk => by
  obtain ⟨f, fd, F, M, hm, hb⟩ := G
  refine wpE_of (pe_make M F (hr.mono hj) hg hm hb .nil pass0 pa_wp hdb he hpl) ?_
  refine ha en T σ H _ s fun vs H1 s1 => ?_
  intro x dx nx ndx ne
  rw [List.append_nil]
  obtain ⟨F1, M1, q1⟩ := s1
  have n2 : (upd H1 dx (.own x)) x = none := by rw [upd_ne (Ne.symm ne)]; exact nx
  have q2 := q1.newO (r := ownI X.K x C []) (A := join (one x (.ins C dx [])) (one dx (.own x))) (H' := upd (upd H1 dx (.own x)) x (.ins C dx [])) ((Ex.new ndx).tr (.new n2))
    (fun y o z => by
      rcases join_some z with w | ⟨w, w'⟩
      · obtain ⟨rfl, rfl⟩ := one_some w; exact upd_same
      · obtain ⟨rfl, rfl⟩ := one_some w'
        rw [upd_ne ne, upd_same])
    (fun y o z => by
      rcases join_some z with w | ⟨w, w'⟩
      · obtain ⟨rfl, rfl⟩ := one_some w; exact nx
      · obtain ⟨rfl, rfl⟩ := one_some w'; exact ndx) ⟨[], dx, ne, .nil, rfl⟩
  have s2 : S X.K en g ((T.and X.K (.ref x) (.adr x)).ands X.K (.ref x :: vs) (args (a x))) (own (a x) ++ lr) σ (upd (upd H1 dx (.own x)) x (.ins C dx [])) := by
    rw [hown]
    exact ⟨F1, _, q2.tmp ⟨by rw [hds]; exact .cons (.adr x) q1.tm.1, .adr x, q1.tm.2⟩⟩
  refine FnX.use (a x) (hok x) s2 (fun v d l' H' hp s' => ?_) fun _ _ _ _ h => h.elim
  · obtain ⟨e1, e2⟩ := hq x d l' hp
    subst e1
    obtain ⟨F3, M3, q3⟩ := s'
    have f3 := q3.tm.1
    cases f3
    exact ⟨rfl, kk _ _ _ H' e2 ⟨F3, M3, q3.tmp q3.tm.2⟩⟩
/-- an instance just made is frozen -/
theorem Ev.frzI {C : Addr} {fs : List (Str × D)} (h : Ev X e g l (fun d' l' => ∃ p, d' = .adr p ∧ l' = ownI X.K p C fs :: l)) : Px X e g l (.ins C fs) := fun en T σ H Q s k => h en T σ H Q s fun v d l' H' p s' => by
  obtain ⟨p, rfl, rfl⟩ := p
  obtain ⟨F, M, q⟩ := s'
  have hv := q.tm.1
  cases hv
  obtain ⟨F', M', q', f, _⟩ := q.frz (P := fun F' => Fd X.K F' (.ref p) (.ins C fs)) fun A hA => by
    obtain ⟨vs, dx, n, f, rfl⟩ := hA
    have hF : F p = none := by
      obtain ⟨A, B, rfl, _, ⟨_, dx, n, _, rfl⟩, _⟩ := q.rs
      exact q.dj.sym p _ (join_l (join_l one_same))
    exact .ins (by rw [join_r hF]; exact join_l one_same) (FdFs.mono (fun x o h => join_l h) _ f)
  exact k _ H' ⟨F', M', q'.tmp ⟨f, q'.tm.2⟩⟩
/-- self.f = e, self an owned instance -/
theorem blk_fld {k : Nat} {C q : Addr} {fs : List (Str × D)} {f : Str} {pos' : Pos} (he : Px X e g l d) (ho : Px X o g l (.adr q)) (hk : l[k]? = some (ownI X.K q C fs)) (hc : Cls X.K C) (hn : NoAttr X.K C f) (hz : fs.length < 1000)
    (h : Blk X W rest g (l.set k (ownI X.K q C (putD f d fs))) Φ) (hs : swapsWith e (some (.Attribute o f pos')) pos.line X.env = pure false := by rfl) : Blk X W (.Assign [.Attribute o f pos'] e pos :: rest) g l Φ := fun en T σ H D s m => wpS_of (pss_cons (ps_fld pe_wp pe_wp hs) pss_wp) (by
  refine he en T σ H _ s fun v H1 s1 => ?_
  refine ho en _ σ H1 _ s1 fun u H2 s2 => ?_
  obtain ⟨F, M, q2⟩ := s2
  have fu := q2.tm.1
  cases fu
  obtain ⟨dx, vs, ff, hp⟩ := q2.rs.ins hk q2.exM
  refine ⟨q, C, dx, vs, rfl, hp, hc, hn, by rw [ff.length]; exact hz, ?_⟩
  obtain ⟨M', q'⟩ := (q2.tmp (T' := T) q2.tm.2.2).putI hk hp (ff.put q2.tm.2.1)
  exact h en T σ _ D ⟨F, M', q'⟩ m)
/-- an attribute of an owned instance -/
theorem px_fldO {k : Nat} {C q : Addr} {fs : List (Str × D)} {f : Str} (ho : Px X o g l (.adr q)) (hk : l[k]? = some (ownI X.K q C fs)) (hc : Cls X.K C) (hn : NoAttr X.K C f) (hl : fs.lookup f = some d) (hb : attributeBase o f X.env (eval o X.env) = eval o X.env := by rfl) : Px X (.Attribute o f pos) g l d := fun en T σ H Q s kk => wpE_of (pe_fld pe_wp hb) (by
  refine ho en T σ H _ s fun v H1 s1 => ?_
  obtain ⟨F, M, q1⟩ := s1
  obtain ⟨hf, ht⟩ := q1.tm
  cases hf
  obtain ⟨dx, vs, ff, hp⟩ := q1.rs.ins hk q1.exM
  obtain ⟨v, e1, e2⟩ := ff.look hl
  exact ⟨_, C, _, _, v, rfl, hp, hc, hn, e1, kk v H1 ⟨F, M, q1.tmp ⟨e2, ht⟩⟩⟩)

/-! ### targets -/
def setsV (σ : L2.St) : List Nat → List V → L2.St
  | i :: is, v :: vs => setsV (σ.set i (some v)) is vs
  | _, _ => σ
def sets (g : Gm) : List Nat → List D → Gm
  | i :: is, d :: ds => sets (g.set i (some d)) is ds
  | _, _ => g
theorem Sl.sets {K : PySem.W.Frag} {F : Hp} : ∀ {is : List Nat} {g : Gm} {σ : L2.St} {vs : List V} {ds : List D}, Sl K F g σ → FdAll K F vs ds → Sl K F (sets g is ds) (setsV σ is vs)
  | [], _, _, _, _, h, .nil => h
  | [], _, _, _, _, h, .cons _ _ => h
  | _ :: _, _, _, _, _, h, .nil => h
  | i :: is, _, _, _, _, h, .cons a b => Sl.sets (is := is) (h.set i a) b
/-- a target takes a datum apart into the slots is -/
def Tg (K : PySem.W.Frag) (t : TG) (is : List Nat) (d : D) (ds : List D) : Prop := ∀ F H v σ (Q : L2.St → Hp → Prop), Ex F H → Fd K F v d → (∀ vs, FdAll K F vs ds → Q (setsV σ is vs) H) → t v σ H Q
theorem tg_name {K : PySem.W.Frag} {i : Nat} : Tg K (gName i) [i] d [d] := fun F H v σ Q e f k => k [v] (.cons f .nil)
theorem tg_seq {K : PySem.W.Frag} : ∀ {is : List Nat} {ds : List D} {vs : List V} {F H : Hp} {σ : L2.St} {Q : L2.St → Hp → Prop}, is.length = ds.length → FdAll K F vs ds → Q (setsV σ is vs) H → (is.foldr (fun i t => gCons (gName i) t) gNil) vs σ H Q
  | [], [], _, _, _, _, _, _, .nil, h => ⟨rfl, h⟩
  | i :: is, d :: ds, _, _, _, σ, _, e, .cons (v := v) a b, h => ⟨_, _, rfl, tg_seq (is := is) (by simpa using e) b h⟩
  | [], _ :: _, _, _, _, _, _, e, _, _ => by cases e
  | _ :: _, [], _, _, _, _, _, e, _, _ => by cases e
theorem tg_tup {K : PySem.W.Frag} {is : List Nat} {ds : List D} {n : Nat} (h : is.length = ds.length) (hn : ds.length = n) : Tg K (gTup K n (is.foldr (fun i t => gCons (gName i) t) gNil)) is (.tup ds) ds := fun F H v σ Q e f k => by
  cases f with
  | tup s a => exact ⟨_, _, rfl, ex_t e s, by rw [a.length]; exact hn, tg_seq h a (k _ a)⟩
/-! ### walks -/
/-- the iterator J gives the data ds, one after another, while F stands -/
def JG (K : PySem.W.Frag) (lk : List Res) (F : Hp) (J : It) (ds : List D) : Prop := ∀ F' M' H, Ex F F' → Ex F' H → Ex M' H → Rs lk F' M' → (∀ i, i < ds.length → J.go i H) ∧ J.stop ds.length H ∧ ∀ i d x H', ds[i]? = some d → J.yld i H x H' → ∃ F'', New F' H F'' H' ∧ Fd K F'' x d
def ItwP (X : Cx) (tg iter : Expr) (g : Gm) (l lk : List Res) (ds : List D) : Prop := ∃ wi, PI X tg iter wi ∧ ∀ en T σ H (R : It → Hp → Prop), S X.K en g T l σ H → (∀ J H1 F M, At X.K en g T l σ H1 F M → JG X.K lk F J ds → R J H1) → wi σ H R
abbrev Itw (X : Cx) (tg iter : Expr) (g : Gm) (l : List Res) (ds : List D) : Prop := ItwP X tg iter g l [] ds
theorem jg_list {lk : List Res} {K : PySem.W.Frag} {F : Hp} {a : Addr} {vs : List V} {ds : List D} (s : SqL K F a vs) (f : FdAll K F vs ds) : JG K lk F (Itl K a) ds := fun F' M' H e1 e2 _ _ => by
  have s2 : SqL K H a vs := ex_l (e1.tr e2) s
  refine ⟨fun i hi => ?_, ⟨vs, s2, by rw [f.length]; exact Nat.le_refl _⟩, fun i d x H' hd hy => ?_⟩
  · have q : i < vs.length := by rw [f.length]; exact hi
    exact ⟨vs, vs[i], s2, List.getElem?_eq_getElem q⟩
  · obtain ⟨rfl, h⟩ := hy
    obtain ⟨v, h1, h2⟩ := f.get hd
    have e := h vs s2
    rw [h1] at e
    cases e
    exact ⟨F', .rf e2, h2.mono e1⟩
theorem jg_tup {lk : List Res} {K : PySem.W.Frag} {F : Hp} {a : Addr} {vs : List V} {ds : List D} (s : SqT K F a vs) (f : FdAll K F vs ds) : JG K lk F (Itt K a) ds := fun F' M' H e1 e2 _ _ => by
  have s2 : SqT K H a vs := ex_t (e1.tr e2) s
  refine ⟨fun i hi => ?_, ⟨vs, s2, by rw [f.length]; exact Nat.le_refl _⟩, fun i d x H' hd hy => ?_⟩
  · have q : i < vs.length := by rw [f.length]; exact hi
    exact ⟨vs, vs[i], s2, List.getElem?_eq_getElem q⟩
  · obtain ⟨rfl, h⟩ := hy
    obtain ⟨v, h1, h2⟩ := f.get hd
    have e := h vs s2
    rw [h1] at e
    cases e
    exact ⟨F', .rf e2, h2.mono e1⟩
theorem it_list {tg : Expr} {ds : List D} (h : Px X e g l (.lst ds)) : Itw X tg e g l ds := ⟨_, pi_list pe_wp, fun en T σ H R s k => h en T σ H _ s fun v H1 s1 => by
  obtain ⟨F, M, q⟩ := s1
  obtain ⟨f, t⟩ := q.tm
  cases f with
  | lst sq a => exact ⟨_, rfl, ⟨_, SqL.of (q.exF _ _ sq)⟩, k _ H1 F M (q.tmp t) (jg_list (SqL.of sq) a)⟩⟩
theorem it_tup {tg : Expr} {ds : List D} (h : Px X e g l (.tup ds)) : Itw X tg e g l ds := ⟨_, pi_tup pe_wp, fun en T σ H R s k => h en T σ H _ s fun v H1 s1 => by
  obtain ⟨F, M, q⟩ := s1
  obtain ⟨f, t⟩ := q.tm
  cases f with
  | tup sq a => exact ⟨_, rfl, ⟨_, ex_t q.exF sq⟩, k _ H1 F M (q.tmp t) (jg_tup sq a)⟩⟩
def rng (lo : Int) (n : Nat) : List D := (List.range n).map fun i : Nat => D.int (lo + (i : Int))
theorem rng_len {lo : Int} {n : Nat} : (rng lo n).length = n := by unfold rng; rw [List.length_map, List.length_range]
theorem rng_get {lo : Int} {n i : Nat} {d : D} (h : (rng lo n)[i]? = some d) : i < n ∧ d = .int (lo + (i : Int)) := by
  unfold rng at h
  rw [List.getElem?_map] at h
  cases q : (List.range n)[i]? with
  | none => rw [q] at h; cases h
  | some j =>
    rw [q] at h
    obtain ⟨h1, h2⟩ := List.getElem?_eq_some_iff.mp q
    rw [List.length_range] at h1
    rw [List.getElem_range] at h2
    subst h2
    exact ⟨h1, (Option.some.inj h).symm⟩
theorem jg_range {lk : List Res} {K : PySem.W.Frag} {F : Hp} {lo : Int} {n : Nat} : JG K lk F (L2.Itr lo n) (rng lo n) := fun F' M' H e1 e2 _ _ => by
  refine ⟨fun i hi => by rw [rng_len] at hi; exact hi, by show n ≤ _; rw [rng_len]; exact Nat.le_refl _, fun i d x H' hd hy => ?_⟩
  obtain ⟨rfl, rfl⟩ := hy
  obtain ⟨_, rfl⟩ := rng_get hd
  exact ⟨F', .rf e2, .int _⟩
theorem it_range {tg : Expr} {j : Int} {pp : Pos} (h : Px X e g l (.int j)) (h1 : -(2 ^ 62) ≤ j) (h2 : j < 2 ^ 62) (hm : X.mg "range" = none) (hg : Gl X "range" := by rfl) (hs : starEach [e] X.env = [(false, eval e X.env)] := by rfl) : Itw X tg (.Call (.Name "range" p) [e] [] pp) g l (rng 0 j.toNat) :=
  ⟨_, pi_range1 hg hm (pa_wp (es := [e])) hs, fun en T σ H R s k => pa_c h pa_n hs en T σ H _ s fun vs H1 s1 => by
  obtain ⟨F, M, q⟩ := s1
  obtain ⟨f, t⟩ := q.tm
  cases f with
  | cons a b =>
    cases a; cases b
    exact ⟨j, rfl, h1, h2, k _ H1 F M (q.tmp t) jg_range⟩⟩
/-- pairs of a number and an item -/
def enumD (ds : List D) : List D := ds.zipIdx.map fun q => D.tup [.int (q.2 : Nat), q.1]
theorem enumD_len {ds : List D} : (enumD ds).length = ds.length := by unfold enumD; rw [List.length_map, List.length_zipIdx]
theorem enumD_get {ds : List D} {i : Nat} {d : D} (h : (enumD ds)[i]? = some d) : ∃ d', ds[i]? = some d' ∧ d = .tup [.int (i : Nat), d'] := by
  unfold enumD at h
  rw [List.getElem?_map, List.getElem?_zipIdx] at h
  cases q : ds[i]? with
  | none => rw [q] at h; cases h
  | some d' =>
    rw [q] at h
    refine ⟨d', rfl, ?_⟩
    have e := Option.some.inj h
    rw [← e]
    simp
theorem jg_enum {lk : List Res} {K : PySem.W.Frag} {F : Hp} {a : Addr} {vs : List V} {ds : List D} (s : SqL K F a vs) (f : FdAll K F vs ds) : JG K lk F (Ite K a) (enumD ds) := fun F' M' H e1 e2 _ _ => by
  have s2 : SqL K H a vs := ex_l (e1.tr e2) s
  refine ⟨fun i hi => ?_, ⟨vs, s2, by rw [enumD_len, f.length]; exact Nat.le_refl _⟩, fun i d x H' hd hy => ?_⟩
  · have q : i < vs.length := by rw [f.length]; rw [enumD_len] at hi; exact hi
    exact ⟨vs, vs[i], s2, List.getElem?_eq_getElem q⟩
  · obtain ⟨T, y, rfl, hT, rfl, h⟩ := hy
    obtain ⟨d', hd', rfl⟩ := enumD_get hd
    obtain ⟨v, h1, h2⟩ := f.get hd'
    have e := Option.some.inj (h1.symm.trans (h vs s2))
    subst e
    have n := New.upd (o := .tup [.int (i : Nat), v]) e2 hT
    exact ⟨_, n, .tup (SqT.of upd_same) (.cons (.int _) (.cons (h2.mono (e1.tr n.f)) .nil))⟩
theorem it_enum {elts : List Expr} {kk : Nat} {tpos pp : Pos} {ds : List D} (h : Px X e g l (.lst ds)) (hm : X.mg "enumerate" = none) (hg : Gl X "enumerate" := by rfl) (hs : starEach [e] X.env = [(false, eval e X.env)] := by rfl) : Itw X (.Tuple elts kk tpos) (.Call (.Name "enumerate" p) [e] [] pp) g l (enumD ds) :=
  ⟨_, pi_enum hg hm (pa_wp (es := [e])) hs, fun en T σ H R s k => pa_c h pa_n hs en T σ H _ s fun vs H1 s1 => by
  obtain ⟨F, M, q⟩ := s1
  obtain ⟨f, t⟩ := q.tm
  cases f with
  | cons a b =>
    cases b
    cases a with
    | lst sq a => exact ⟨_, _, rfl, SqL.of (q.exF _ _ sq), k _ H1 F M (q.tmp t) (jg_enum (SqL.of sq) a)⟩⟩
def zipD (ds es : List D) : List D := (ds.zip es).map fun q => D.tup [q.1, q.2]
theorem zipD_len {ds es : List D} : (zipD ds es).length = min ds.length es.length := by unfold zipD; rw [List.length_map, List.length_zip]
theorem zipD_get {ds es : List D} {i : Nat} {d : D} (h : (zipD ds es)[i]? = some d) : ∃ a b, ds[i]? = some a ∧ es[i]? = some b ∧ d = .tup [a, b] := by
  unfold zipD at h
  rw [List.getElem?_map] at h
  cases q : (ds.zip es)[i]? with
  | none => rw [q] at h; cases h
  | some r =>
    rw [q] at h
    obtain ⟨h1, h2⟩ := List.getElem?_zip_eq_some.mp q
    exact ⟨r.1, r.2, h1, h2, (Option.some.inj h).symm⟩
theorem jg_zip {lk : List Res} {K : PySem.W.Frag} {F : Hp} {a b : Addr} {vs ws : List V} {ds es : List D} (s : SqL K F a vs) (f : FdAll K F vs ds) (s' : SqL K F b ws) (f' : FdAll K F ws es) : JG K lk F (Itz K a b) (zipD ds es) := fun F' M' H e1 e2 _ _ => by
  have s2 : SqL K H a vs := ex_l (e1.tr e2) s
  have s3 : SqL K H b ws := ex_l (e1.tr e2) s'
  refine ⟨fun i hi => ?_, ⟨vs, ws, s2, s3, by rw [zipD_len, f.length, f'.length]; omega⟩, fun i d x H' hd hy => ?_⟩
  · rw [zipD_len] at hi
    have q : i < vs.length := by rw [f.length]; omega
    have q' : i < ws.length := by rw [f'.length]; omega
    exact ⟨vs, ws, vs[i], ws[i], s2, s3, List.getElem?_eq_getElem q, List.getElem?_eq_getElem q'⟩
  · obtain ⟨T, y, z, rfl, hT, rfl, h, h'⟩ := hy
    obtain ⟨a', b', ha, hb, rfl⟩ := zipD_get hd
    obtain ⟨v, h1, h2⟩ := f.get ha
    obtain ⟨v', h1', h2'⟩ := f'.get hb
    have e := Option.some.inj (h1.symm.trans (h vs s2))
    subst e
    have e := Option.some.inj (h1'.symm.trans (h' ws s3))
    subst e
    have n := New.upd (o := .tup [v, v']) e2 hT
    exact ⟨_, n, .tup (SqT.of upd_same) (.cons (h2.mono (e1.tr n.f)) (.cons (h2'.mono (e1.tr n.f)) .nil))⟩
theorem it_zip {elts : List Expr} {kk : Nat} {tpos pp : Pos} {ds es' : List D} (h : Px X e g l (.lst ds)) (h' : Px X e2 g l (.lst es')) (hm : X.mg "zip" = none) (hg : Gl X "zip" := by rfl) (hs : starEach [e, e2] X.env = (false, eval e X.env) :: starEach [e2] X.env := by rfl) (hs2 : starEach [e2] X.env = [(false, eval e2 X.env)] := by rfl)
    (hpl : (backTo pp (starEach [e2] X.env)).any (·.1) = false := by rfl) : Itw X (.Tuple elts kk tpos) (.Call (.Name "zip" p) [e, e2] [] pp) g l (zipD ds es') :=
  ⟨_, pi_zip hg hm (pa_wp (es := [e, e2])) hs hpl, fun en T σ H R s k => pa_c h (pa_c h' pa_n hs2) hs en T σ H _ s fun vs H1 s1 => by
  obtain ⟨F, M, q⟩ := s1
  obtain ⟨f, t⟩ := q.tm
  cases f with
  | cons a b =>
    cases b with
    | cons b c =>
      cases c
      cases a with
      | lst sq a =>
        cases b with
        | lst sq' b => exact ⟨_, _, _, _, rfl, SqL.of (q.exF _ _ sq), SqL.of (q.exF _ _ sq'), k _ H1 F M (q.tmp t) (jg_zip (SqL.of sq) a (SqL.of sq') b)⟩⟩
/-- text, sign by sign -/
def signs (x : Str) : List D := x.cps.toList.map fun c => D.str ⟨#[c]⟩
theorem it_str {tg : Expr} {x : Str} (h : Px X e g l (.str x)) : Itw X tg e g l (signs x) := ⟨_, pi_str pe_wp, fun en T σ H R s k => h en T σ H _ s fun v H1 s1 => by
  obtain ⟨F, M, q⟩ := s1
  obtain ⟨f, t⟩ := q.tm
  cases f
  refine ⟨x, rfl, k _ H1 F M (q.tmp t) fun F' M' H' e1 e2 _ _ => ?_⟩
  have el : (signs x).length = x.cps.size := by unfold signs; rw [List.length_map, Array.length_toList]
  refine ⟨fun i hi => by rw [el] at hi; exact hi, by show x.cps.size ≤ _; rw [el]; exact Nat.le_refl _, fun i d y H'' hd hy => ?_⟩
  obtain ⟨rfl, c, hc, rfl⟩ := hy
  unfold signs at hd
  rw [List.getElem?_map, Array.getElem?_toList, hc] at hd
  cases hd
  exact ⟨F', .rf e2, .str _⟩⟩
/-- for target in ..: body -/
theorem blk_for {tg iter : Expr} {lk : List Res} {body : List Stmt} {gt : TG} {is : List Nat} {ds : List D} (I : Nat → Gm → List Res → Prop) (hp : PassesOwn (model X.prog X.w) X.A X.env X.xe) (hc : X.calm = true) (hi : ItwP X tg iter g l lk ds) (hg : PG X tg gt) (h0 : I 0 g l)
    (hs : ∀ i d g' l', ds[i]? = some d → I i g' l' → ∃ es, Tg X.K gt is d es ∧ Blk X W body (sets g' is es) l' { nx := I (i + 1), ct := I (i + 1), bk := fun g2 l2 => Blk X W rest g2 l2 Φ, rt := Φ.rt, ex := Φ.ex })
    (hd : ∀ g' l', I ds.length g' l' → Blk X W rest g' l' Φ) (hf : ∀ x, foldedSetIterable iter X.env x = pure x := by intro _; rfl) (hk : ∀ i g' l', I i g' l' → SubR l' lk := by intro i g' l' h; exact subr0) : Blk X W (.For tg iter body [] pos :: rest) g l Φ := fun en T σ H D s m => by
  obtain ⟨wi, pi, hw⟩ := hi
  refine wpS_of (pss_cons (ps_for hp hc pi hg pss_wp hf) pss_wp) ?_
  refine hw en T σ H _ s fun J H1 F0 M0 q0 jg => ?_
  refine ⟨fun i m σ' H' => i + m = ds.length ∧ ∃ g' l', I i g' l' ∧ S X.K en g' (T.ex F0) l' σ' H', ⟨ds.length, by simp, g, l, h0, F0, M0, q0.tmp ⟨.rf, q0.tm⟩⟩, fun i n σ' H' hW => ?_⟩
  obtain ⟨em, g', l', hI, F, M, q⟩ := hW
  obtain ⟨Mk, rk, ek⟩ := Rs.sub (hk i g' l' hI) q.rs q.exM
  obtain ⟨jgo, jst, jy⟩ := jg F Mk H' q.tm.1 q.exF ek rk
  cases n with
  | zero =>
    have e : i = ds.length := by omega
    subst e
    exact .inl ⟨jst, hd g' l' hI en T σ' H' D ⟨F, M, q.tmp q.tm.2⟩ m⟩
  | succ n =>
    have hi : i < ds.length := by omega
    refine .inr ⟨jgo i hi, fun σ2 H2 => ∃ g2 l2, I (i + 1) g2 l2 ∧ S X.K en g2 (T.ex F0) l2 σ2 H2, fun σ2 H2 ⟨g2, l2, h1, h2⟩ => ⟨n, by omega, by omega, g2, l2, h1, h2⟩, fun x H2 hy => ?_⟩
    obtain ⟨es, htg, hb⟩ := hs i ds[i] g' l' (List.getElem?_eq_getElem hi) hI
    obtain ⟨F2, nw, fx⟩ := jy i ds[i] x H2 (List.getElem?_eq_getElem hi) hy
    have q2 := q.new nw
    refine htg F2 H2 x σ' _ q2.exF fx fun vs fvs => ?_
    refine hb en (T.ex F0) _ H2 _ ⟨F2, M, q2.slots (q2.sl.sets fvs)⟩ ⟨fun g2 l2 σ2 H2 h s2 => ⟨g2, l2, h, s2⟩, fun d l v H h s2 => ?_, fun g2 l2 σ2 H2 h s2 => ?_, fun g2 l2 σ2 H2 h s2 => ⟨g2, l2, h, s2⟩, fun cls d g l σ H h s2 => ?_⟩
    · obtain ⟨F, M, q⟩ := s2
      exact m.rt d l v H h ⟨F, M, q.tmp ⟨q.tm.1, q.tm.2.2⟩⟩
    · obtain ⟨F, M, q⟩ := s2
      exact h en T σ2 H2 D ⟨F, M, q.tmp q.tm.2⟩ m
    · obtain ⟨F, M, q⟩ := s2
      exact m.ex cls d g l σ H h ⟨F, M, q.tmp q.tm.2⟩
/-- while -/
theorem blk_while {c : Expr} {body : List Stmt} (I : Nat → Gm → List Res → Prop) (hp : PassesOwn (model X.prog X.w) X.A X.env X.xe) (n0 : Nat) (h0 : I n0 g l)
    (hs : ∀ n g' l', I n g' l' → ∃ b, Ts X c g' l' b ∧ (b = true → Blk X W body g' l' { nx := fun g2 l2 => ∃ m, m < n ∧ I m g2 l2, ct := fun g2 l2 => ∃ m, m < n ∧ I m g2 l2, bk := fun g2 l2 => Blk X W rest g2 l2 Φ, rt := Φ.rt, ex := Φ.ex }) ∧ (b = false → Blk X W rest g' l' Φ)) :
    Blk X W (.While c body [] pos :: rest) g l Φ := fun en T σ H D s m => by
  refine wpS_of (pss_cons (ps_while hp pt_wp pss_wp) pss_wp) ?_
  refine ⟨fun n σ' H' => ∃ g' l', I n g' l' ∧ S X.K en g' T l' σ' H', ⟨n0, g, l, h0, s⟩, fun n σ' H' hW => ?_⟩
  obtain ⟨g', l', hI, s'⟩ := hW
  obtain ⟨b, hc, h1, h2⟩ := hs n g' l' hI
  refine hc en T σ' H' _ s' fun H2 s2 => ?_
  cases b with
  | true =>
    refine ⟨fun σ2 H2 => ∃ k, k < n ∧ ∃ g2 l2, I k g2 l2 ∧ S X.K en g2 T l2 σ2 H2, fun σ2 H2 h => h, ?_⟩
    refine h1 rfl en T σ' H2 _ s2 ⟨fun g2 l2 σ2 H2 ⟨k, hk, h⟩ s2 => ⟨k, hk, g2, l2, h, s2⟩, m.rt, fun g2 l2 σ2 H2 h s2 => h en T σ2 H2 D s2 m, fun g2 l2 σ2 H2 ⟨k, hk, h⟩ s2 => ⟨k, hk, g2, l2, h, s2⟩, m.ex⟩
  | false => exact h2 rfl en T σ' H2 D s2 m
end
end Sx
set_option Elab.async false
set_option linter.all false
set_option maxRecDepth 100000
set_option maxHeartbeats 2000000
/-! List comprehensions. -/
namespace Sx
open PySem L2

theorem wipe_at {σ : L2.St} {j : Nat} : ∀ {vs : List Nat}, (wipe σ vs)[j]? = if j ∈ vs then (σ[j]?).map (fun _ => none) else σ[j]?
  | [] => by simp [wipe]
  | v :: vs => by
    unfold wipe
    by_cases e : v = j
    · subst e
      rw [if_pos List.mem_cons_self]
      by_cases h : v < σ.length
      · rw [List.getElem?_set_self (by rw [wipe_length]; exact h), List.getElem?_eq_getElem h]; rfl
      · rw [List.getElem?_eq_none (by rw [List.length_set, wipe_length]; omega), List.getElem?_eq_none (by omega)]; rfl
    · rw [List.getElem?_set_ne e, wipe_at (vs := vs)]
      have q : j ∈ v :: vs ↔ j ∈ vs := by
        rw [List.mem_cons]
        exact ⟨fun h => h.elim (fun z => absurd z.symm e) id, .inr⟩
      by_cases z : j ∈ vs
      · rw [if_pos z, if_pos (q.mpr z)]
      · rw [if_neg z, if_neg (fun y => z (q.mp y))]
theorem wipe_set {σ : L2.St} {vs : List Nat} {i : Nat} {x : Option V} (h : i ∈ vs) : wipe (σ.set i x) vs = wipe σ vs := by
  apply List.ext_getElem?
  intro j
  rw [wipe_at, wipe_at]
  by_cases z : j ∈ vs
  · rw [if_pos z, if_pos z]
    by_cases e : i = j
    · subst e
      by_cases q : i < σ.length
      · rw [List.getElem?_set_self q, List.getElem?_eq_getElem q]; rfl
      · rw [List.getElem?_eq_none (by rw [List.length_set]; omega), List.getElem?_eq_none (by omega)]
    · rw [List.getElem?_set_ne e]
  · rw [if_neg z, if_neg z]
    rw [List.getElem?_set_ne (fun e => z (by rw [← e]; exact h))]
theorem wipe_wipe {σ : L2.St} {vs : List Nat} : wipe (wipe σ vs) vs = wipe σ vs := by
  apply List.ext_getElem?
  intro j
  rw [wipe_at, wipe_at]
  by_cases z : j ∈ vs
  · rw [if_pos z, if_pos z]; cases σ[j]? <;> rfl
  · rw [if_neg z, if_neg z]
theorem wipe_sets {vs : List Nat} : ∀ {is : List Nat} {ws : List V} {σ : L2.St}, (∀ i ∈ is, i ∈ vs) → wipe (setsV σ is ws) vs = wipe σ vs
  | [], _, _, _ => by unfold setsV; rfl
  | _ :: _, [], _, _ => by unfold setsV; rfl
  | i :: is, w :: ws, σ, h => by
    unfold setsV
    rw [wipe_sets (is := is) fun j hj => h j (List.mem_cons_of_mem _ hj), wipe_set (h i List.mem_cons_self)]
def wipeG (g : Gm) : List Nat → Gm
  | [] => g
  | v :: vs => (wipeG g vs).set v none
theorem Sl.wipe {K : PySem.W.Frag} {F : Hp} {g : Gm} {σ : L2.St} (h : Sl K F g σ) : ∀ vs, Sl K F (wipeG g vs) (L2.wipe σ vs)
  | [] => h
  | v :: vs => by
    unfold wipeG L2.wipe
    exact (Sl.wipe h vs).clear v
section
variable {X : Cx} {W : WX} {g g' : Gm} {l l' : List Res} {Φ : Po} {e e2 a b c o : Expr} {es : List Expr} {d d1 d2 d3 : D} {pos p p2 : Pos} {rest : List Stmt}
/-- a part that is owned and not touched -/
theorem S.fr {K : PySem.W.Frag} {en : En} {T : Tm} {r : Res} {σ : L2.St} {H : Hp} (s : S K en g T (r :: l) σ H) : ∃ en', S K en' g T l σ H ∧ ∀ {T' : Tm} {H' : Hp} {g' : Gm} {σ' : L2.St}, S K en' g' T' l σ' H' → S K en g' T' (r :: l) σ' H' := by
  obtain ⟨F, M, q⟩ := s
  obtain ⟨A, B, rfl, dj, p, rs⟩ := q.rs
  refine ⟨⟨F, B, H⟩, ⟨F, B, At.entry q.exF (q.exM.joinR dj) (Dj.r dj q.dj.sym).sym q.sl q.tm rs⟩, fun {T'} {H'} {g'} {σ'} ⟨F2, M2, b⟩ => ?_⟩
  have e : join A B = join B A := dj.comm
  rw [e] at q
  have z := q.frame (lB := [r]) dj.sym ⟨A, emp, (join_emp A).symm, Dj.emp A, p, rfl⟩ b
  have z2 : At K en g' T' (l ++ [r]) σ' H' F2 (join M2 A) := (z.tmp b.tm).slots b.sl
  exact S.perm (List.perm_append_singleton r l) ⟨F2, _, z2⟩
theorem Px.fr {r : Res} (h : Px X e g l d) : Px X e g (r :: l) d := fun en T σ H Q s k => by
  obtain ⟨en', s', back⟩ := s.fr
  exact h en' T σ H Q s' fun v H' s2 => k v H' (back s2)
theorem Ts.fr {r : Res} {k : Bool} (h : Ts X e g l k) : Ts X e g (r :: l) k := fun en T σ H Q s kk => by
  obtain ⟨en', s', back⟩ := s.fr
  exact h en' T σ H Q s' fun H' s2 => kk H' (back s2)
/-- the slots as they stood -/
def Tm.sl (K : PySem.W.Frag) (T : Tm) (g : Gm) (σ : L2.St) : Tm := ⟨fun F => Sl K F g σ ∧ T.P F, fun e h => ⟨h.1.mono e, T.mono e h.2⟩⟩
/-- what is kept -/
def keepL (rs : List (Option D)) : List D := rs.filterMap id
theorem keepL_some {rs : List D} : keepL (rs.map some) = rs := by
  unfold keepL
  rw [List.filterMap_map]
  show List.filterMap (fun x => some x) rs = rs
  rw [List.filterMap_some]
theorem keepL_len {rs : List (Option D)} : (keepL rs).length ≤ rs.length := List.length_filterMap_le _ _
abbrev Blkc (X : Cx) (scope : Scope) (Pp : Cx → Prop) : Prop := ∀ (s : Shared) (H : Hp) (C : Addr) (cl : List (Str × Addr)) (fp : List Addr), Pp (X.blk s H scope (compEnvC scope cl C X.env) fp)
/-- the reading of a comprehension -/
theorem lc_read {lk : List Res} {own : List (Str × Nat)} {gt : TG} {is : List Nat} {ds : List D} {rs : List (Option D)} {wi : TI} {te : TE} {tt : TT}
    (hw : ∀ en T σ H (R : It → Hp → Prop), S X.K en g T l σ H → (∀ J H1 F M, At X.K en g T l σ H1 F M → JG X.K lk F J ds → R J H1) → wi σ H R) (hk : SubR l lk)
    (his : ∀ i ∈ is, i ∈ own.map (·.2)) (hlen : rs.length = ds.length) (hz : rs.length ≤ sizeLine)
    (hs : ∀ (i : Nat) (d : D), ds[i]? = some d → ∃ es k r, Tg X.K gt is d es ∧ rs[i]? = some (if k = true then some r else none) ∧
      (∀ r0 en T σ H (Q : Bool → Hp → Prop), S X.K en (sets (wipeG g (own.map (·.2))) is es) T (r0 :: l) σ H → (∀ H', S X.K en (sets (wipeG g (own.map (·.2))) is es) T (r0 :: l) σ H' → Q k H') → tt σ H Q) ∧
      (k = true → ∀ r0 en T σ H (Q : VK), S X.K en (sets (wipeG g (own.map (·.2))) is es) T (r0 :: l) σ H → (∀ v H', S X.K en (sets (wipeG g (own.map (·.2))) is es) (T.and X.K v r) (r0 :: l) σ H' → Q v H') → te σ H Q))
    {en : En} {T : Tm} {σ : L2.St} {H : Hp} {Q : VK} (s : S X.K en g T l σ H) (kk : ∀ p H', S X.K en g T (ownL X.K p (keepL rs) :: l) σ H' → Q (.ref p) H') : tLc wi gt tt te (own.map (·.2)) σ H Q := by
  refine hw en T σ H _ s fun J H1 F0 M0 q0 jg => ?_
  intro Dl hD
  refine ⟨fun i m H' => i + m = ds.length ∧ S X.K en (wipeG g (own.map (·.2))) ((T.sl X.K g σ).ex F0) (ownL X.K Dl (keepL (rs.take i)) :: l) (L2.wipe σ (own.map (·.2))) H', ⟨ds.length, by simp, ?_⟩, fun i m H' hW => ?_⟩
  · have q1 := q0.newO (r := ownL X.K Dl []) (A := one Dl (.lst [])) (H' := upd H1 Dl (.lst [])) (.new hD) (fun x o z => by obtain ⟨rfl, rfl⟩ := one_some z; exact upd_same) (fun x o z => by obtain ⟨rfl, rfl⟩ := one_some z; exact hD) ⟨[], .nil, rfl⟩
    rw [List.take_zero]
    exact ⟨F0, _, (q1.tmp (T' := (T.sl X.K g σ).ex F0) ⟨.rf, q0.sl, q0.tm⟩).slots (q0.sl.wipe _)⟩
  · obtain ⟨em, F, M, q⟩ := hW
    obtain ⟨junk0, pk0⟩ := id hk
    obtain ⟨Mk, rk, ek⟩ := Rs.sub (lk := lk) ⟨junk0 ++ [ownL X.K Dl (keepL (rs.take i))], by
      have z := (pk0.cons (ownL X.K Dl (keepL (rs.take i)))).trans (List.perm_append_comm (l₁ := [_]))
      rw [← List.append_assoc]; exact z⟩ q.rs q.exM
    obtain ⟨jgo, jst, jy⟩ := jg F Mk H' q.tm.1 q.exF ek rk
    cases m with
    | zero =>
      have e : i = ds.length := by omega
      subst e
      refine .inl ⟨jst, kk Dl H' ⟨F, M, ?_⟩⟩
      rw [List.take_of_length_le (by omega)] at q
      exact (q.tmp (T' := T) q.tm.2.2).slots q.tm.2.1
    | succ m =>
      have hi : i < ds.length := by omega
      refine .inr ⟨jgo i hi, fun H2 => S X.K en (wipeG g (own.map (·.2))) ((T.sl X.K g σ).ex F0) (ownL X.K Dl (keepL (rs.take (i + 1))) :: l) (L2.wipe σ (own.map (·.2))) H2, fun H2 h => ⟨m, by omega, by omega, h⟩, fun x H2 hy => ?_⟩
      obtain ⟨es, b, r, htg, hr, ht, he⟩ := hs i ds[i] (List.getElem?_eq_getElem hi)
      obtain ⟨F2, nw, fx⟩ := jy i ds[i] x H2 (List.getElem?_eq_getElem hi) hy
      have q2 := q.new nw
      refine htg F2 H2 x _ _ q2.exF fx fun vs fvs => ?_
      refine ⟨by rw [wipe_sets his, wipe_wipe], ?_⟩
      have et : rs.take (i + 1) = rs.take i ++ [if b = true then some r else none] := by
        rw [List.take_add_one, hr]; rfl
      refine ht _ en ((((T.sl X.K g σ).ex F0)).sl X.K (wipeG g (own.map (·.2))) (L2.wipe σ (own.map (·.2)))) _ H2 _ ⟨F2, M, (q2.tmp (T' := (((T.sl X.K g σ).ex F0)).sl X.K (wipeG g (own.map (·.2))) (L2.wipe σ (own.map (·.2)))) ⟨q2.sl, q2.tm⟩).slots (q2.sl.sets fvs)⟩ fun H3 s3 => ?_
      cases b with
      | false =>
        show S X.K en _ _ _ _ H3
        obtain ⟨F3, M3, q3⟩ := s3
        rw [et]
        have e2 : keepL (rs.take i ++ [if false = true then some r else none]) = keepL (rs.take i) := by
          unfold keepL
          rw [List.filterMap_append]
          show _ ++ [] = _
          rw [List.append_nil]
        rw [e2]
        exact ⟨F3, M3, (q3.tmp q3.tm.2).slots q3.tm.1⟩
      | true =>
        show te _ H3 _
        refine he rfl _ en _ _ H3 _ s3 fun v H4 s4 => ?_
        obtain ⟨F4, M4, q4⟩ := s4
        obtain ⟨ws, fw, hp⟩ := q4.rs.own (k := 0) rfl q4.exM
        refine ⟨ws, hp, ?_, ?_⟩
        · rw [fw.length]
          have h1 := keepL_len (rs := rs.take i)
          rw [List.length_take] at h1
          omega
        · obtain ⟨M5, q5⟩ := (q4.tmp q4.tm.2).putL (k := 0) rfl (fw.app (.cons q4.tm.1 .nil))
          rw [et]
          have e2 : keepL (rs.take i ++ [if true = true then some r else none]) = keepL (rs.take i) ++ [r] := by
            unfold keepL
            rw [List.filterMap_append]
            rfl
          rw [e2]
          exact ⟨F4, M5, (q5.tmp q5.tm.2).slots q5.tm.1⟩
def teB (X : Cx) (scope : Scope) (e : Expr) : TE := fun σ H Q => Blkc X scope fun Y => wpE Y e σ H Q
def ttB (X : Cx) (scope : Scope) (e : Expr) : TT := fun σ H Q => Blkc X scope fun Y => wpT Y e σ H Q
theorem teB_pe {scope : Scope} : ∀ (s : Shared) (H : Hp) (C : Addr) (cl : List (Str × Addr)) (fp : List Addr), PE (X.blk s H scope (compEnvC scope cl C X.env) fp) e (teB X scope e) := fun s H C cl fp => ⟨fun pins s' σ H' Q I h => h s H C cl fp pins s' I⟩
theorem ttB_pt {scope : Scope} : ∀ (s : Shared) (H : Hp) (C : Addr) (cl : List (Str × Addr)) (fp : List Addr), PT (X.blk s H scope (compEnvC scope cl C X.env) fp) e (ttB X scope e) := fun s H C cl fp => ⟨fun pins s' σ H' Q I h => h s H C cl fp pins s' I⟩
/-- [elt for tg in iter], a new list -/
theorem ev_lc {tg iter elt : Expr} {scope : Scope} {own : List (Str × Nat)} {lk : List Res} {gt : TG} {is : List Nat} {ds rs : List D} (hc : X.calm = true) (hN : X.N.Nodup) (hi : ItwP X tg iter g l lk ds) (ok : BlkOk X.N X.env.scope scope own)
    (hg : Blkc X scope fun Y => PG Y tg gt) (his : ∀ i ∈ is, i ∈ own.map (·.2)) (hlen : rs.length = ds.length) (hz : rs.length ≤ sizeLine)
    (hs : ∀ (i : Nat) (d : D), ds[i]? = some d → ∃ es r, Tg X.K gt is d es ∧ rs[i]? = some r ∧ Blkc X scope fun Y => Px Y elt (sets (wipeG g (own.map (·.2))) is es) l r) (hf : ∀ x, foldedSetIterable iter X.env x = pure x := by intro _; rfl) (hk : SubR l lk := by first | exact subr0 | exact subr1 0 rfl | exact subr1 1 rfl | exact subr1 2 rfl | exact subr1 3 rfl | exact subr1 4 rfl | exact subr1 5 rfl | exact subr2 0 0 rfl rfl | exact subr2 1 0 rfl rfl | exact subr2 0 1 rfl rfl | exact subr2 1 1 rfl rfl | exact subr2 2 0 rfl rfl | exact subr2 2 1 rfl rfl) :
    Ev X (.ListComp elt [⟨tg, iter, [], 0⟩] scope pos) g l (fun d' l' => ∃ p, d' = .adr p ∧ l' = ownL X.K p rs :: l) := fun en T σ H Q s k => by
  obtain ⟨wi, pi, hw⟩ := hi
  refine wpE_of (pe_lc hc hN pi ok hg (fun _ _ _ _ _ => pts_nil) teB_pe hf) ?_
  refine lc_read (rs := rs.map some) hw hk his (by rw [List.length_map]; exact hlen) (by rw [List.length_map]; exact hz) (fun i d hd => ?_) s fun p H' s' => ?_
  · obtain ⟨es, r, h1, h2, h3⟩ := hs i d hd
    refine ⟨es, true, r, h1, by rw [List.getElem?_map, h2]; rfl, fun r0 en T σ H Q s kk => kk H s, fun _ r0 en T σ H Q s kk => ?_⟩
    intro s0 H0 C cl fp
    exact (h3 s0 H0 C cl fp).fr en T σ H Q s kk
  · rw [keepL_some] at s'
    obtain ⟨F, M, q⟩ := s'
    exact k _ _ _ H' ⟨p, rfl, rfl⟩ ⟨F, M, q.tmp ⟨.adr p, q.tm⟩⟩
theorem px_lc {tg iter elt : Expr} {scope : Scope} {own : List (Str × Nat)} {lk : List Res} {gt : TG} {is : List Nat} {ds rs : List D} (hc : X.calm = true) (hN : X.N.Nodup) (hi : ItwP X tg iter g l lk ds) (ok : BlkOk X.N X.env.scope scope own)
    (hg : Blkc X scope fun Y => PG Y tg gt) (his : ∀ i ∈ is, i ∈ own.map (·.2)) (hlen : rs.length = ds.length) (hz : rs.length ≤ sizeLine)
    (hs : ∀ (i : Nat) (d : D), ds[i]? = some d → ∃ es r, Tg X.K gt is d es ∧ rs[i]? = some r ∧ Blkc X scope fun Y => Px Y elt (sets (wipeG g (own.map (·.2))) is es) l r) (hf : ∀ x, foldedSetIterable iter X.env x = pure x := by intro _; rfl) (hk : SubR l lk := by first | exact subr0 | exact subr1 0 rfl | exact subr1 1 rfl | exact subr1 2 rfl | exact subr1 3 rfl | exact subr1 4 rfl | exact subr1 5 rfl | exact subr2 0 0 rfl rfl | exact subr2 1 0 rfl rfl | exact subr2 0 1 rfl rfl | exact subr2 1 1 rfl rfl | exact subr2 2 0 rfl rfl | exact subr2 2 1 rfl rfl) :
    Px X (.ListComp elt [⟨tg, iter, [], 0⟩] scope pos) g l (.lst rs) := (ev_lc hc hN hi ok hg his hlen hz hs hf hk).frz
/-- x = [..] on one line, x a local name -/
theorem blk_setLcX {tg iter elt : Expr} {ifs : List Expr} {scope : Scope} {own : List (Str × Nat)} {i : Nat} {y : Str} {py spos : Pos} {Psi : D → List Res → Prop} {wi : TI} {gt : TG} {tt : TT} {te : TE}
    (hps : PS X (.Assign [.Name y py] (.ListComp elt [⟨tg, iter, ifs, 0⟩] scope pos) spos) (tAsg (tLc wi gt tt te (own.map (·.2))) (gName i)))
    (hr : ∀ en T σ H (Q : VK), S X.K en g T l σ H → (∀ v d l' H', Psi d l' → S X.K en g (T.and X.K v d) l' σ H' → Q v H') → tLc wi gt tt te (own.map (·.2)) σ H Q)
    (h : ∀ d l', Psi d l' → Blk X W rest (g.set i (some d)) l' Φ) : Blk X W (.Assign [.Name y py] (.ListComp elt [⟨tg, iter, ifs, 0⟩] scope pos) spos :: rest) g l Φ := fun en T σ H D s m => wpS_of (pss_cons hps pss_wp) (by
  show tLc wi gt tt te (own.map (·.2)) σ H (fun x H1 => gName i x σ H1 (wpS X rest D))
  refine hr en T σ H _ s fun v d l' H' p s' => ?_
  obtain ⟨F, M, a⟩ := s'
  exact h d l' p en T (σ.set i (some v)) H' D ⟨F, M, (a.tmp a.tm.2).slots (a.sl.set i a.tm.1)⟩ m)
theorem blk_setLcO {tg iter elt : Expr} {scope : Scope} {own : List (Str × Nat)} {lk : List Res} {gt : TG} {is : List Nat} {ds rs : List D} {i : Nat} {y : Str} {py spos : Pos} (hc : X.calm = true) (hN : X.N.Nodup) (hy : X.N[i]? = some y) (hyl : X.env.scope.names.lookup y = some .local)
    (hsw : swapsWith (.ListComp elt [⟨tg, iter, [], 0⟩] scope pos) (some (.Name y py)) spos.line X.env = pure true) (hi : ItwP X tg iter g l lk ds) (ok : BlkOk X.N X.env.scope scope own)
    (hg : Blkc X scope fun Y => PG Y tg gt) (his : ∀ i ∈ is, i ∈ own.map (·.2)) (hlen : rs.length = ds.length) (hz : rs.length ≤ sizeLine)
    (hs : ∀ (i : Nat) (d : D), ds[i]? = some d → ∃ es r, Tg X.K gt is d es ∧ rs[i]? = some r ∧ Blkc X scope fun Y => Px Y elt (sets (wipeG g (own.map (·.2))) is es) l r)
    (h : ∀ p, Blk X W rest (g.set i (some (.adr p))) (ownL X.K p rs :: l) Φ) (hf : ∀ x, foldedSetIterable iter X.env x = pure x := by intro _; rfl) (hk : SubR l lk := by first | exact subr0 | exact subr1 0 rfl | exact subr1 1 rfl | exact subr1 2 rfl | exact subr1 3 rfl | exact subr1 4 rfl | exact subr1 5 rfl | exact subr2 0 0 rfl rfl | exact subr2 1 0 rfl rfl | exact subr2 0 1 rfl rfl | exact subr2 1 1 rfl rfl | exact subr2 2 0 rfl rfl | exact subr2 2 1 rfl rfl) : Blk X W (.Assign [.Name y py] (.ListComp elt [⟨tg, iter, [], 0⟩] scope pos) spos :: rest) g l Φ := by
  obtain ⟨wi, pi, hw⟩ := hi
  refine blk_setLcX (Psi := fun d' l' => ∃ p, d' = .adr p ∧ l' = ownL X.K p rs :: l) (ps_setLc hc hN hy hyl hsw pi ok hg (fun _ _ _ _ _ => pts_nil) teB_pe hf) (fun en T σ H Q s k => ?_) fun d l' ⟨p, e1, e2⟩ => by subst e1; subst e2; exact h p
  refine lc_read (rs := rs.map some) hw hk his (by rw [List.length_map]; exact hlen) (by rw [List.length_map]; exact hz) (fun i d hd => ?_) s fun p H' s' => ?_
  · obtain ⟨es, r, h1, h2, h3⟩ := hs i d hd
    refine ⟨es, true, r, h1, by rw [List.getElem?_map, h2]; rfl, fun r0 en T σ H Q s kk => kk H s, fun _ r0 en T σ H Q s kk => ?_⟩
    intro s0 H0 C cl fp
    exact (h3 s0 H0 C cl fp).fr en T σ H Q s kk
  · rw [keepL_some] at s'
    obtain ⟨F, M, q⟩ := s'
    exact k _ _ _ H' ⟨p, rfl, rfl⟩ ⟨F, M, q.tmp ⟨.adr p, q.tm⟩⟩
theorem blk_setLcIfO {tg iter elt : Expr} {scope : Scope} {own : List (Str × Nat)} {lk : List Res} {gt : TG} {is : List Nat} {ds : List D} {rs : List (Option D)} {i : Nat} {y : Str} {py spos : Pos} (hc : X.calm = true) (hN : X.N.Nodup) (hy : X.N[i]? = some y) (hyl : X.env.scope.names.lookup y = some .local)
    (hsw : swapsWith (.ListComp elt [⟨tg, iter, [c], 0⟩] scope pos) (some (.Name y py)) spos.line X.env = pure true) (hi : ItwP X tg iter g l lk ds) (ok : BlkOk X.N X.env.scope scope own)
    (hg : Blkc X scope fun Y => PG Y tg gt) (his : ∀ i ∈ is, i ∈ own.map (·.2)) (hlen : rs.length = ds.length) (hz : rs.length ≤ sizeLine)
    (hs : ∀ (i : Nat) (d : D), ds[i]? = some d → ∃ es k r, Tg X.K gt is d es ∧ rs[i]? = some (if k = true then some r else none) ∧ (Blkc X scope fun Y => Ts Y c (sets (wipeG g (own.map (·.2))) is es) l k) ∧ (k = true → Blkc X scope fun Y => Px Y elt (sets (wipeG g (own.map (·.2))) is es) l r))
    (h : ∀ p, Blk X W rest (g.set i (some (.adr p))) (ownL X.K p (keepL rs) :: l) Φ) (hf : ∀ x, foldedSetIterable iter X.env x = pure x := by intro _; rfl) (hk : SubR l lk := by first | exact subr0 | exact subr1 0 rfl | exact subr1 1 rfl | exact subr1 2 rfl | exact subr1 3 rfl | exact subr1 4 rfl | exact subr1 5 rfl | exact subr2 0 0 rfl rfl | exact subr2 1 0 rfl rfl | exact subr2 0 1 rfl rfl | exact subr2 1 1 rfl rfl | exact subr2 2 0 rfl rfl | exact subr2 2 1 rfl rfl) : Blk X W (.Assign [.Name y py] (.ListComp elt [⟨tg, iter, [c], 0⟩] scope pos) spos :: rest) g l Φ := by
  obtain ⟨wi, pi, hw⟩ := hi
  refine blk_setLcX (Psi := fun d' l' => ∃ p, d' = .adr p ∧ l' = ownL X.K p (keepL rs) :: l) (ps_setLc hc hN hy hyl hsw pi ok hg (fun s H C cl fp => pts_one (ttB_pt s H C cl fp)) teB_pe hf) (fun en T σ H Q s k => ?_) fun d l' ⟨p, e1, e2⟩ => by subst e1; subst e2; exact h p
  refine lc_read (rs := rs) hw hk his hlen hz (fun i d hd => ?_) s fun p H' s' => ?_
  · obtain ⟨es, b, r, h1, h2, h3, h4⟩ := hs i d hd
    refine ⟨es, b, r, h1, h2, fun r0 en T σ H Q s kk => ?_, fun hb r0 en T σ H Q s kk => ?_⟩
    · intro s0 H0 C cl fp
      exact (h3 s0 H0 C cl fp).fr en T σ H Q s kk
    · intro s0 H0 C cl fp
      exact (h4 hb s0 H0 C cl fp).fr en T σ H Q s kk
  · obtain ⟨F, M, q⟩ := s'
    exact k _ _ _ H' ⟨p, rfl, rfl⟩ ⟨F, M, q.tmp ⟨.adr p, q.tm⟩⟩
end
end Sx
set_option Elab.async false
set_option linter.all false
set_option maxRecDepth 100000
set_option maxHeartbeats 2000000
/-! What a text's top has written; a law's own end. -/
namespace Sx
open PySem L2
/-- a def of the module | a method | a class | a class with its __init__ -/
def Dfn (K : PySem.W.Frag) (mg : Str → Option Value) (x : Str) (st : Stmt) : Prop := ∃ f fd, Fun K x x st f fd ∧ mg x = some (.ref f)
def Dmt (K : PySem.W.Frag) (C : Addr) (m qual : Str) (st : Stmt) : Prop := ∃ f fd, Fun K m qual st f fd ∧ Meth K C m f
def Din (K : PySem.W.Frag) (C : Addr) (qual : Str) (st : Stmt) : Prop := ∃ f fd, Fun K "__init__" qual st f fd ∧ Mk K C f
structure Dcl (K : PySem.W.Frag) (mg : Str → Option Value) (x : Str) (C : Addr) : Prop where
  mg : mg x = some (.ref C)
  cl : Cls K C
  kp : PySem.W.keepIn K (.ref C) = true
/-- an own class that isinstance may be asked about -/
structure Isi (K : PySem.W.Frag) (C : Addr) : Prop where
  (ha : PySem.W.findIn K (.ref C) "__class__" = some (some (.builtin "object.__class__"))) (hn : PySem.W.specialIn K (.builtin "object.__class__") "__get__" = some (some (.builtin "getset_descriptor.__get__")))
  (htk : PySem.W.takesIn K (.builtin "object.__class__") = some true) (hm : PySem.W.mroIn K C (.type "object") = some true)
section
variable {K : PySem.W.Frag} {h : Heap} {mg : Str → Option Value} {C f : Addr} {x m qual : Str} {st : Stmt} {oc kV doc pm cdv ct : Value} {od an : Option Addr} {osl : Array (Option Value)}
end
section
variable {P : Program} {w : World} {K : PySem.W.Frag} {mg : Str → Option Value} {base : Heap} {k : Nat} {x m qual : Str} {st : Stmt} {ps : List Str} {sp : Sp} {C : Addr}
abbrev Bnd (x qual : Str) (st : Stmt) (ps : List Str) : Prop := ∀ (kV doc pm : Value) (an : Option Addr) (cdv ct : Value) (us : List Value), us.length = ps.length → bindArgs (PySem.W.fnOf x qual (defArgs st) (defBody st) (defScope st) .none kV doc pm an cdv ct) ⟨us, []⟩ = pure (ps.zip us)
theorem glo_of (d : Dfn K mg x st) (b : Bnd x x st ps) (h : ∀ f fd, Fun K x x st f fd → FnOk P w K mg base CX0 k f fd ps sp) : Glo P w K mg base k x ps sp := by
  obtain ⟨f, fd, F, hm⟩ := d
  exact ⟨f, fd, h f fd F, hm, F.kp, F.binds b⟩
theorem glom_of (d : Dmt K C m qual st) (c : Cls K C) (b : Bnd m qual st ps) (h : ∀ f fd, Fun K m qual st f fd → FnOk P w K mg base CX0 k f fd ps sp) : GloM P w K mg base k C m ps sp := by
  obtain ⟨f, fd, F, hm⟩ := d
  exact ⟨f, fd, h f fd F, c, hm, F.binds b⟩
theorem gloc_of (d : Din K C qual st) (c : Dcl K mg x C) (b : Bnd "__init__" qual st ps) (h : ∀ f fd, Fun K "__init__" qual st f fd → FnOk P w K mg base CX0 k f fd ps sp) : GloC P w K mg base k C x ps sp := by
  obtain ⟨f, fd, F, hm⟩ := d
  exact ⟨f, fd, h f fd F, hm, c.mg, F.binds b⟩
theorem Glo.mono {j : Nat} (g : Glo P w K mg base k x ps sp) (h : k ≤ j) : Glo P w K mg base j x ps sp := let ⟨f, fd, F, r⟩ := g; ⟨f, fd, F.mono h, r⟩
/-- the law: any script of at most 63 ints, True comes out -/
abbrev spL (K : PySem.W.Frag) : Sp := Pu K (fun ns : List Int => ns.length ≤ 63) (fun ns => [.scr (ns.map .int)]) (fun _ => .bl true)
def spLaw (K : PySem.W.Frag) : Sp := fun vs Hh Q _ => ∃ (q : Addr) (ns : List Int), vs = [.ref q] ∧ SqL K Hh q (ns.map V.int) ∧ ns.length ≤ 63 ∧ ∀ H2, Q (.bl true) H2
theorem law_imp {f : Addr} {fd : FuncData} (F : FnOk P w K mg base CX0 k f fd ps (spL K)) : FnOk P w K mg base CX0 k f fd ps (spLaw K) := F.imp fun vs H Q E h => by
  obtain ⟨a, ns, rfl, hS, hl, q⟩ := h
  refine ⟨ns, H, emp, hl, .rf, fun _ _ z => (by cases z), .emp _, .cons (.scr hS (FdAll.ofInts ns)) .nil, rfl, fun v d l' H' hp s => ?_, fun _ _ _ _ z => z.elim⟩
  obtain ⟨rfl, rfl⟩ := hp
  obtain ⟨F, M, a⟩ := s
  have f := a.tm.1
  cases f
  exact q H'
/-- as walk_of asks it -/
theorem law_end {pn : Str} {fa : Addr} {st : Stmt} (d : Dfn K mg "law" st) (hfa : mg "law" = some (.ref fa)) (hb : ∀ (kV doc pm : Value) (an : Option Addr) (cdv ct : Value) (s : Shared) (v : Value), BindsTo s (PySem.W.fnOf "law" "law" (defArgs st) (defBody st) (defScope st) .none kV doc pm an cdv ct) ⟨[v], []⟩ [(pn, v)])
    (h : ∀ base : Heap, K.In base → base.Ns mainGlobals mg → ∀ f fd, Fun K "law" "law" st f fd → FnOk P w K mg base CX0 k f fd [pn] (spL K)) :
    ∃ fd : FuncData, (∀ (s : Shared) (v : Value), BindsTo s fd ⟨[v], []⟩ [(pn, v)]) ∧ ∀ base : Heap, K.In base → base.Ns mainGlobals mg → FnOk P w K mg base CX0 k fa fd [pn] (spLaw K) := by
  obtain ⟨f, fd, F, hm⟩ := d
  rw [hfa] at hm
  cases hm
  obtain ⟨oc, od, kV, doc, pm, an, cdv, ct, osl, rfl, lk, hcd⟩ := id F.ex
  exact ⟨_, hb kV doc pm an cdv ct, fun base h1 h2 => law_imp (h base h1 h2 fa _ F)⟩
end
section
variable {X : Cx} {g : Gm} {l : List Res} {e c : Expr} {d : D} {p pos : Pos}
/-- isinstance(x, C) of a frozen instance of the class at D0 -/
theorem o_isi {C D0 : Addr} {fs : List (Str × D)} {b : Bool} (hc : Cls X.K D0) (hi : Isi X.K D0) (hk : PySem.W.kitOne X.K (.ref D0) (.ref C) = some b) : OpN X.K l (rIsi X.K) [.ins D0 fs, .adr C] (.bl b) := fun F M H vs Q eF eM dj rs f k => by
  cases f with
  | cons f1 f2 =>
    cases f2 with
    | cons f2 f3 =>
      cases f2; cases f3
      cases f1 with
      | ins h1 h2 =>
        exact ⟨_, _, _, _, b, rfl, .own C, .base (.ins (eF _ _ h1) hc hi.ha hi.hn hi.htk hi.hm), hk, k _ F H (.rf eF) (.bl _)⟩
/-- .. of flat things, lists and tuples, against a built-in class -/
def D.tyv : D → Option String
  | .non => some "NoneType" | .bl _ => some "bool" | .int _ => some "int" | .str _ => some "str" | .lst _ => some "list" | .tup _ => some "tuple" | .scr _ => some "list" | .dK _ => some "dict" | .dT _ => some "dict" | _ => none
theorem tyx_l {K : PySem.W.Frag} {H : Hp} {a : Addr} {xs : List V} (s : SqL K H a xs) : TyX K H (.ref a) (.type "list") := by
  rcases s with (s | ⟨o, s⟩) | ⟨o, its, n, h1, h2, _⟩
  · exact .base (.lst s)
  · exact .base (.frz s)
  · exact .kList h1 h2
theorem tyx_t {K : PySem.W.Frag} {H : Hp} {a : Addr} {xs : List V} (s : SqT K H a xs) : TyX K H (.ref a) (.type "tuple") := by
  rcases s with (s | ⟨o, s⟩) | ⟨o, its, n, h1, h2, _⟩
  · exact .base (.tup s)
  · exact .fTuple s
  · exact .kTuple h1 h2
theorem Fd.tyx {K : PySem.W.Frag} {F H : Hp} {v : V} {d : D} {t : String} (e : Ex F H) (f : Fd K F v d) (h : d.tyv = some t) : TyX K H v (.type t) := by
  cases f with
  | non => cases h; exact .base .non
  | bl b => cases h; exact .base (.bl b)
  | int i => cases h; exact .base (.int i)
  | str x => cases h; exact .base (.str x)
  | lst s a => cases h; exact tyx_l (SqL.of (e _ _ s))
  | scr s a => cases h; exact tyx_l (ex_l e s)
  | dK s a => cases h; exact .base (.dK (e _ _ s))
  | dT s a => cases h; exact .base (.dT (e _ _ s))
  | tup s a => cases h; exact tyx_t (ex_t e s)
  | adr a => cases h
  | ty n => cases h
  | ins a b => cases h
  | exc a b c => cases h
  | kt a => cases h
theorem o_isiT {t n : String} {b : Bool} (ht : d.tyv = some t) (hk : kitB t n = some b) : OpN X.K l (rIsi X.K) [d, .ty n] (.bl b) := fun F M H vs Q eF eM dj rs f k => by
  cases f with
  | cons f1 f2 =>
    cases f2 with
    | cons f2 f3 =>
      cases f2; cases f3
      exact ⟨_, _, _, _, b, rfl, .ty n, f1.tyx eF ht, kit_ty hk, k _ F H (.rf eF) (.bl _)⟩
theorem px_bi {id : String} {x : Str} {r : List V → Hp → VK → Prop} {e1 : Expr} {e2 : List Expr} {ds : List D} (hc : CallR X (.builtin id) r) (hm : X.mg x = none) (ha : Pa X (e1 :: e2) g l ds) (hr : OpN X.K l r ds d) (hg : Gl X x := by rfl) (hv : bootBuiltins x = some (.builtin id) := by decide +kernel) (hn : x ≠ "__name__" := by decide) (hdb : (x == ("__debug__" : Str)) = false := by decide)
    (hs : starEach (e1 :: e2) X.env = (false, eval e1 X.env) :: starEach e2 X.env := by rfl) (hpl : (backTo pos (starEach e2 X.env)).any (·.1) = false := by rfl) : Px X (.Call (.Name x p) (e1 :: e2) [] pos) g l d := px_b (ds := ds) (pe_callB hc hg hm hv pa_wp hn hdb hs hpl) hr ha
theorem px_ty {T : String} {x : Str} {r : List V → Hp → VK → Prop} {e1 : Expr} {e2 : List Expr} {ds : List D} (hc : CallR X (.type T) r) (hm : X.mg x = none) (ha : Pa X (e1 :: e2) g l ds) (hr : OpN X.K l r ds d) (hg : Gl X x := by rfl) (hv : bootBuiltins x = some (.type T) := by decide +kernel) (hn : x ≠ "__name__" := by decide) (hdb : (x == ("__debug__" : Str)) = false := by decide)
    (hs : starEach (e1 :: e2) X.env = (false, eval e1 X.env) :: starEach e2 X.env := by rfl) (hpl : (backTo pos (starEach e2 X.env)).any (·.1) = false := by rfl) : Px X (.Call (.Name x p) (e1 :: e2) [] pos) g l d := px_b (ds := ds) (pe_callTy hc hg hm hv pa_wp hn hdb hs hpl) hr ha
/-- a class of the module, a built-in class, as a value -/
theorem px_cls {C : Addr} {x : Str} (h : X.mg x = some (.ref C)) (hg : Gl X x := by rfl) (hd : (x == ("__debug__" : Str)) = false := by decide) : Px X (.Name x pos) g l (.adr C) := px_c (pe_glob (v := .ref C) hg h rfl hd) fun _ => .adr C
theorem px_tyn {x : Str} {n : String} (hm : X.mg x = none) (hv : bootBuiltins x = some (.type n) := by decide +kernel) (hg : Gl X x := by rfl) (hn : x ≠ "__name__" := by decide) (hd : (x == ("__debug__" : Str)) = false := by decide) : Px X (.Name x pos) g l (.ty n) := px_c (pe_bltn (v := .ty n) hg hm hv rfl hn hd) fun _ => .ty n
theorem px_gi {x : Str} {i : Int} (h : ∃ t, X.mg x = some (.int i t)) (hg : Gl X x := by rfl) (hd : (x == ("__debug__" : Str)) = false := by decide) : Px X (.Name x pos) g l (.int i) := by
  obtain ⟨t, h⟩ := h
  exact px_c (pe_glob (v := .int i) hg h ⟨t, rfl⟩ hd) fun _ => .int i
theorem px_gs {x z : Str} (h : ∃ t, X.mg x = some (.str z t)) (hg : Gl X x := by rfl) (hd : (x == ("__debug__" : Str)) = false := by decide) : Px X (.Name x pos) g l (.str z) := by
  obtain ⟨t, h⟩ := h
  exact px_c (pe_glob (v := .str z) hg h ⟨t, rfl⟩ hd) fun _ => .str z
theorem px_isT (n t : String) (b : Bool) {x : Str} {p2 : Pos} (z : X.mg "isinstance" = none) (zx : X.mg x = none) (h : Px X e g l d) (ht : d.tyv = some t := by rfl) (hk : kitB t n = some b := by decide +kernel) (hv : bootBuiltins x = some (.type n) := by decide +kernel)
    (hg : Gl X "isinstance" := by rfl) (hgx : Gl X x := by rfl) (hn : x ≠ "__name__" := by decide) (hd : (x == ("__debug__" : Str)) = false := by decide)
    (hs : starEach [e, .Name x p2] X.env = (false, eval e X.env) :: starEach [.Name x p2] X.env := by rfl) (hs2 : starEach [.Name x p2] X.env = [(false, eval (.Name x p2) X.env)] := by rfl) (hpl : (backTo pos (starEach [.Name x p2] X.env)).any (·.1) = false := by rfl) :
    Px X (.Call (.Name "isinstance" p) [e, .Name x p2] [] pos) g l (.bl b) := px_bi call_isi z (pa_c h (pa_c (px_tyn zx hv hgx hn hd) pa_n hs2) hs) (o_isiT ht hk) hg (by decide +kernel) (by decide) (by decide) hs hpl
theorem px_isC {C D0 : Addr} {fs : List (Str × D)} {b : Bool} {x : Str} {p2 : Pos} (z : X.mg "isinstance" = none) (zx : X.mg x = some (.ref C)) (h : Px X e g l (.ins D0 fs)) (hc : Cls X.K D0) (hi : Isi X.K D0) (hk : PySem.W.kitOne X.K (.ref D0) (.ref C) = some b)
    (hg : Gl X "isinstance" := by rfl) (hgx : Gl X x := by rfl) (hd : (x == ("__debug__" : Str)) = false := by decide)
    (hs : starEach [e, .Name x p2] X.env = (false, eval e X.env) :: starEach [.Name x p2] X.env := by rfl) (hs2 : starEach [.Name x p2] X.env = [(false, eval (.Name x p2) X.env)] := by rfl) (hpl : (backTo pos (starEach [.Name x p2] X.env)).any (·.1) = false := by rfl) :
    Px X (.Call (.Name "isinstance" p) [e, .Name x p2] [] pos) g l (.bl b) := px_bi call_isi z (pa_c h (pa_c (px_cls zx hgx hd) pa_n hs2) hs) (o_isi hc hi hk) hg (by decide +kernel) (by decide) (by decide) hs hpl
end
section
variable {K : PySem.W.Frag} {l : List Res} {d : D}
/-- len, str, int, list, tuple, max, min -/
abbrev rLen1 (K : PySem.W.Frag) : List V → Hp → VK → Prop := fun xs H Q => ∃ p ys, xs = [.ref p] ∧ (SqL K H p ys ∨ SqT K H p ys) ∧ Q (.int ys.length) H
theorem o_len {ds : List D} {d0 : D} (h : d0 = .lst ds ∨ d0 = .tup ds ∨ d0 = .scr ds) : OpN K l (rLen1 K) [d0] (.int ds.length) := fun F M H vs Q eF eM dj rs f k => by
  cases f with
  | cons f1 f2 =>
    cases f2
    rcases h with rfl | rfl | rfl
    · cases f1 with
      | lst s a =>
        refine ⟨_, _, rfl, .inl (SqL.of (eF _ _ s)), ?_⟩
        rw [a.length]
        exact k _ F H (.rf eF) (.int _)
    · cases f1 with
      | tup s a =>
        refine ⟨_, _, rfl, .inr (ex_t eF s), ?_⟩
        rw [a.length]
        exact k _ F H (.rf eF) (.int _)
    · cases f1 with
      | scr s a =>
        refine ⟨_, _, rfl, .inl (ex_l eF s), ?_⟩
        rw [a.length]
        exact k _ F H (.rf eF) (.int _)
theorem o_lenL {ds : List D} : OpN K l (rLen1 K) [.lst ds] (.int ds.length) := o_len (.inl rfl)
theorem o_lenT {ds : List D} : OpN K l (rLen1 K) [.tup ds] (.int ds.length) := o_len (.inr (.inl rfl))
theorem o_lenR {ds : List D} : OpN K l (rLen1 K) [.scr ds] (.int ds.length) := o_len (.inr (.inr rfl))
theorem o_lenS {x : Str} (h : x.length ≤ sizeLine) : OpN K l (fun xs H Q => ∃ z, xs = [.str z] ∧ z.length ≤ sizeLine ∧ Q (.int z.length) H) [.str x] (.int x.length) := fun F M H vs Q eF eM dj rs f k => by
  cases f with
  | cons f1 f2 =>
    cases f2; cases f1
    exact ⟨x, rfl, h, k _ F H (.rf eF) (.int _)⟩
theorem o_str {i : Int} (h : i.natAbs.log2 < 1920) : OpN K l (fun xs H Q => ∃ i, xs = [.int i] ∧ i.natAbs.log2 < 1920 ∧ Q (.str (toString i)) H) [.int i] (.str (toString i)) := fun F M H vs Q eF eM dj rs f k => by
  cases f with
  | cons f1 f2 =>
    cases f2; cases f1
    exact ⟨i, rfl, h, k _ F H (.rf eF) (.str _)⟩
theorem o_max2 {i j : Int} : OpN K l (fun xs H Q => ∃ i j, xs = [.int i, .int j] ∧ Q (.int (if j > i then j else i)) H) [.int i, .int j] (.int (max i j)) := fun F M H vs Q eF eM dj rs f k => by
  cases f with
  | cons f1 f2 =>
    cases f2 with
    | cons f2 f3 =>
      cases f3; cases f1; cases f2
      refine ⟨i, j, rfl, ?_⟩
      have e : (if j > i then j else i) = max i j := by
        by_cases q : j > i
        · rw [if_pos q, Int.max_eq_right (by omega)]
        · rw [if_neg q, Int.max_eq_left (by omega)]
      rw [e]
      exact k _ F H (.rf eF) (.int _)
theorem o_min2 {i j : Int} : OpN K l (fun xs H Q => ∃ i j, xs = [.int i, .int j] ∧ Q (.int (if j < i then j else i)) H) [.int i, .int j] (.int (min i j)) := fun F M H vs Q eF eM dj rs f k => by
  cases f with
  | cons f1 f2 =>
    cases f2 with
    | cons f2 f3 =>
      cases f3; cases f1; cases f2
      refine ⟨i, j, rfl, ?_⟩
      have e : (if j < i then j else i) = min i j := by
        by_cases q : j < i
        · rw [if_pos q, Int.min_eq_right (by omega)]
        · rw [if_neg q, Int.min_eq_left (by omega)]
      rw [e]
      exact k _ F H (.rf eF) (.int _)
/-- an item at a place that lies in it -/
theorem atI_in {α : Type} {xs : List α} {i : Int} {x0 : α} (h0 : 0 ≤ i) (h1 : i < xs.length) : atI xs i = some (xs.getD i.toNat x0) := by
  have h2 : i.toNat < xs.length := by omega
  unfold atI ixN
  rw [if_pos h0, if_pos h1]
  show xs[i.toNat]? = _
  rw [List.getElem?_eq_getElem h2, List.getD_eq_getElem?_getD, List.getElem?_eq_getElem h2]
  rfl
theorem atI_map {α β : Type} {f : α → β} {xs : List α} {i : Int} {y : α} (h : atI xs i = some y) : atI (xs.map f) i = some (f y) := by
  unfold atI at h ⊢
  rw [List.length_map]
  cases e : ixN xs.length i with
  | none => rw [e] at h; cases h
  | some n =>
    rw [e] at h
    show (xs.map f)[n]? = some (f y)
    have h' : xs[n]? = some y := h
    rw [List.getElem?_map, h']
    rfl
end
/-- a class without an __init__ of its own -/
structure Mk0 (K : PySem.W.Frag) (C : Addr) : Prop where
  (makes : PySem.W.makesIn K C = true) (kp : PySem.W.keepIn K (.ref C) = true) (init : PySem.W.findIn K (.ref C) "__init__" = some (some (.builtin "object.__init__")))
section
open PySem.W in
theorem make_plain {prog : Program} {w : World} {A : Around} {K : PySem.W.Frag} {C : Addr} {R : Result → Shared → Prop} {s : Shared} (X : K.In s.heap) (m : Mk0 K C)
    (h : R (.ok (.ret (.ref (s.heap.objs.size + 1)))) { s with heap := (s.heap.push emptyDict).push (instObj C s.heap.objs.size) }) : codeAny (model prog w) A (.call (.ref C) ⟨[], []⟩) R s := by
  obtain ⟨hh, g, d, t, os⟩ := s
  have Y := makes_of (M := model prog w) X m.makes
  have hx : ((hh.push emptyDict).push (instObj C hh.objs.size)).get? (hh.objs.size + 1) = some (instObj C hh.objs.size) := by heap_get
  refine make_core Y (looks_findIn X m.init) (fun self => Looks.of_pure (oi_bind self)) (.inr ⟨rfl, rfl⟩) ?_
  refine codeAny_call_builtin oi_plain entry_oi (@check_slot (model prog w) _ _ _ "object.__init__" "object" "__init__" (.ref (hh.objs.size + 1)) [] [] _ oi_kind oi_split
    (((Looks.ld hx).andThen .now : Looks (model prog w) _ (typeOf (.ref (hh.objs.size + 1))) (.ref C)).andThen (Y.top.keeps fun _ _ q => Heap.get?_push_of_some _ (Heap.get?_push_of_some _ q))) (oi_args _) (by rw [oi_run]; exact wpAny_pure ⟨rfl, h⟩))
end
section
variable {X : Cx} {g : Gm} {l : List Res} {p pos : Pos} {C : Addr} {x : Str}
theorem pe_makeN (m : Mk0 X.K C) (hg : Gl X x) (hm : X.mg x = some (.ref C)) (hdb : (x == ("__debug__" : Str)) = false := by decide) :
    PE X (.Call (.Name x p) [] [] pos) (fun _ H Q => ∀ q dx, H q = none → H dx = none → dx ≠ q → Q (.ref q) (upd (upd H dx (.own q)) q (.ins C dx []))) := by
  refine ⟨fun pins st sg Hh Q iv h => wpAny_Call_Name_kw (ld_glob iv hg hm (PySem.W.callWith_K0 iv.kIn m.kp (wpAny_call (make_plain iv.kIn m ⟨V.ref (st.heap.objs.size + 1), _, Inv.made (C := C) iv, rfl, ?_⟩))) hdb)⟩
  exact h _ _ (iv.hok.fresh (Nat.le_succ _)) (iv.hok.fresh (Nat.le_refl _)) (Nat.ne_of_lt (Nat.lt_succ_self _))
/-- C(), frozen -/
theorem px_make0 (m : Mk0 X.K C) (hm : X.mg x = some (.ref C)) (hg : Gl X x := by rfl) (hdb : (x == ("__debug__" : Str)) = false := by decide) : Px X (.Call (.Name x p) [] [] pos) g l (.ins C []) := fun en T σ H Q s k => wpE_of (pe_makeN m hg hm hdb) (by
  intro q dx nx ndx ne
  obtain ⟨F, M, a⟩ := s
  have n1 := New.upd (o := .own q) a.exF ndx
  have nq : (upd H dx (.own q)) q = none := by rw [upd_ne (Ne.symm ne)]; exact nx
  have n2 := New.upd (o := .ins C dx []) n1.i nq
  have n := n1.tr n2
  exact k _ _ ⟨_, M, (a.new n).tmp ⟨.ins upd_same .nil, T.mono n.f a.tm⟩⟩)
end
end Sx
set_option Elab.async false
set_option linter.all false
set_option maxRecDepth 100000
set_option maxHeartbeats 2000000
/-! More rules: owned things read as if frozen, slices, new lists, texts. -/
namespace Sx
open PySem L2
section
variable {K : PySem.W.Frag} {l : List Res} {d d1 d2 : D} {ds es : List D}
/-- a list: frozen or owned -/
inductive Lv (K : PySem.W.Frag) (l : List Res) : D → List D → Prop
  | f {ds : List D} : Lv K l (.lst ds) ds
  | o {k : Nat} {p : Addr} {ds : List D} (h : l[k]? = some (ownL K p ds)) : Lv K l (.adr p) ds
/-- .. or the script -/
inductive Lq (K : PySem.W.Frag) (l : List Res) : D → List D → Prop
  | v {d : D} {ds : List D} (h : Lv K l d ds) : Lq K l d ds
  | s {ds : List D} : Lq K l (.scr ds) ds
/-- .. or a tuple -/
inductive Sv (K : PySem.W.Frag) (l : List Res) : D → List D → Prop
  | q {d : D} {ds : List D} (h : Lq K l d ds) : Sv K l d ds
  | t {ds : List D} : Sv K l (.tup ds) ds
abbrev Lq.f : Lq K l (.lst ds) ds := .v .f
abbrev Lq.o {k : Nat} {p : Addr} (h : l[k]? = some (ownL K p ds)) : Lq K l (.adr p) ds := .v (.o h)
abbrev Sv.f : Sv K l (.lst ds) ds := .q (.v .f)
abbrev Sv.o {k : Nat} {p : Addr} (h : l[k]? = some (ownL K p ds)) : Sv K l (.adr p) ds := .q (.v (.o h))
abbrev Sv.s : Sv K l (.scr ds) ds := .q .s
theorem Lv.get {F M H : Hp} {v : V} (h : Lv K l d ds) (eF : Ex F H) (eM : Ex M H) (rs : Rs l F M) (f : Fd K F v d) : ∃ a vs, v = .ref a ∧ H a = some (.lst vs) ∧ FdAll K F vs ds := by
  cases h with
  | f => cases f with | lst s a => exact ⟨_, _, rfl, eF _ _ s, a⟩
  | o h =>
    cases f
    obtain ⟨vs, f, hp⟩ := rs.own h eM
    exact ⟨_, vs, rfl, hp, f⟩
theorem Lq.get {F M H : Hp} {v : V} (h : Lq K l d ds) (eF : Ex F H) (eM : Ex M H) (rs : Rs l F M) (f : Fd K F v d) : ∃ a vs, v = .ref a ∧ SqL K H a vs ∧ FdAll K F vs ds := by
  cases h with
  | v h =>
    obtain ⟨a, vs, e, hp, f⟩ := h.get eF eM rs f
    exact ⟨a, vs, e, SqL.of hp, f⟩
  | s => cases f with | scr s a => exact ⟨_, _, rfl, ex_l eF s, a⟩
theorem Sv.get {F M H : Hp} {v : V} (h : Sv K l d ds) (eF : Ex F H) (eM : Ex M H) (rs : Rs l F M) (f : Fd K F v d) : ∃ a vs, v = .ref a ∧ (SqL K H a vs ∨ SqT K H a vs) ∧ FdAll K F vs ds := by
  cases h with
  | q h =>
    obtain ⟨a, vs, e, hp, f⟩ := h.get eF eM rs f
    exact ⟨a, vs, e, .inl hp, f⟩
  | t => cases f with | tup s a => exact ⟨_, _, rfl, .inr (ex_t eF s), a⟩
end
section
variable {X : Cx} {W : WX} {g g' : Gm} {l l' : List Res} {Φ : Po} {e e2 a b c o : Expr} {es : List Expr} {d d1 d2 d3 : D} {ds ds1 ds2 : List D} {pos p p2 : Pos} {rest : List Stmt}
/-! ### owned things read as if frozen -/
theorem Px.all (h : Px X e g [] d) : Px X e g l d := by
  induction l with
  | nil => exact h
  | cons r l ih => exact ih.fr
/-! ### new lists -/
abbrev NewL (X : Cx) (g : Gm) (l : List Res) (t : TE) (ds : List D) : Prop := ∀ en T σ H (Q : VK), S X.K en g T l σ H → (∀ p ws H1 F M, At X.K en g T l σ H1 F M → FdAll X.K F ws ds → H1 p = none → Q (.ref p) (upd H1 p (.lst ws))) → t σ H Q
abbrev EvL (X : Cx) (e : Expr) (g : Gm) (l : List Res) (ds : List D) : Prop := Ev X e g l (fun d' l' => ∃ p, d' = .adr p ∧ l' = ownL X.K p ds :: l)
theorem ev_new {t : TE} (he : PE X e t) (h : NewL X g l t ds) : EvL X e g l ds := fun en T σ H Q s k => wpE_of he (h en T σ H Q s fun p ws H1 F M q f hp => by
  have q3 := q.newO (r := ownL X.K p ds) (A := one p (.lst ws)) (H' := upd H1 p (.lst ws)) (.new hp) (fun x o z => by obtain ⟨rfl, rfl⟩ := one_some z; exact upd_same) (fun x o z => by obtain ⟨rfl, rfl⟩ := one_some z; exact hp) ⟨ws, f, rfl⟩
  exact k _ (.adr p) _ _ ⟨p, rfl, rfl⟩ ⟨F, _, q3.tmp ⟨.adr p, q.tm⟩⟩)
/-! ### slices -/
def cut {α : Type} (xs : List α) (lo hi : Option Int) : List α := (xs.drop (HT.sIx xs.length 0 lo)).take (HT.sIx xs.length xs.length hi - HT.sIx xs.length 0 lo)
theorem cut_take {α : Type} {xs : List α} {n : Int} (h : 0 ≤ n) : cut xs none (some n) = xs.take n.toNat := by
  unfold cut
  have e : HT.sIx xs.length xs.length (some n) = min n.toNat xs.length := by
    show (if n < 0 then _ else _) = _
    rw [if_neg (by omega)]
  rw [e]
  show (xs.drop 0).take (min n.toNat xs.length - 0) = _
  rw [List.drop_zero, Nat.sub_zero, ← List.take_take, List.take_length]
theorem FdAll.cut {K : PySem.W.Frag} {F : Hp} {vs : List V} {ds : List D} (f : FdAll K F vs ds) (lo hi : Option Int) : FdAll K F (cutV vs lo hi) (cut ds lo hi) := by
  unfold cutV Sx.cut
  rw [f.length]
  exact (f.drop _).take _
/-- a slice's part -/
def Pz (X : Cx) (e : Option Expr) (g : Gm) (l : List Res) (o : Option Int) : Prop := ∃ t, PO X e t ∧ ∀ en T σ H (R : Option Int → Hp → Prop), S X.K en g T l σ H → (∀ H', S X.K en g T l σ H' → R o H') → t σ H R
theorem pz_n : Pz X none g l none := ⟨_, po_none, fun en T σ H R s k => k H s⟩
theorem pz_s {i : Int} (h : Px X e g l (.int i)) : Pz X (some e) g l (some i) := ⟨_, po_some pe_wp, fun en T σ H R s k => h en T σ H _ s fun v H' s' => by
  obtain ⟨F, M, q⟩ := s'
  have f := q.tm.1
  cases f
  exact ⟨i, rfl, k H' ⟨F, M, q.tmp q.tm.2⟩⟩⟩
theorem ev_slL {lo hi : Option Expr} {i j : Option Int} (ho : Px X o g l d) (hd : Lq X.K l d ds) (hl : Pz X lo g l i) (hu : Pz X hi g l j) : EvL X (.Subscript o (.Slice lo hi none p2) pos) g l (cut ds i j) := by
  obtain ⟨tl, pl, hl⟩ := hl
  obtain ⟨tu, pu, hu⟩ := hu
  refine ev_new (pe_slice sl_list pe_wp pl pu) fun en T σ H Q s k => ?_
  refine ho en T σ H _ s fun v H1 s1 => ?_
  refine hl en _ σ H1 _ s1 fun H2 s2 => ?_
  refine hu en _ σ H2 _ s2 fun H3 s3 => ?_
  obtain ⟨F, M, q⟩ := s3
  obtain ⟨a, vs, rfl, sq, f⟩ := hd.get q.exF q.exM q.rs q.tm.1
  exact ⟨a, vs, rfl, sq, fun p hp => k p _ H3 F M (q.tmp q.tm.2) (f.cut i j) hp⟩
theorem px_slL {lo hi : Option Expr} {i j : Option Int} (ho : Px X o g l d) (hd : Lq X.K l d ds) (hl : Pz X lo g l i) (hu : Pz X hi g l j) : Px X (.Subscript o (.Slice lo hi none p2) pos) g l (.lst (cut ds i j)) := (ev_slL ho hd hl hu).frz
theorem px_slT {lo hi : Option Expr} {i j : Option Int} (ho : Px X o g l (.tup ds)) (hl : Pz X lo g l i) (hu : Pz X hi g l j) : Px X (.Subscript o (.Slice lo hi none p2) pos) g l (.tup (cut ds i j)) := fun en T σ H Q s k => by
  obtain ⟨tl, pl, hl⟩ := hl
  obtain ⟨tu, pu, hu⟩ := hu
  refine wpE_of (pe_slice sl_tupA pe_wp pl pu) ?_
  refine ho en T σ H _ s fun v H1 s1 => ?_
  refine hl en _ σ H1 _ s1 fun H2 s2 => ?_
  refine hu en _ σ H2 _ s2 fun H3 s3 => ?_
  obtain ⟨F, M, q⟩ := s3
  obtain ⟨f, t⟩ := q.tm
  cases f with
  | tup sq f =>
    rename_i a vs
    refine ⟨a, vs, rfl, ex_t q.exF sq, fun hw => ?_, fun hw p hp => ?_⟩
    · refine k _ H3 ⟨F, M, q.tmp ⟨?_, t⟩⟩
      have e : cut ds i j = ds := by
        unfold cut
        rw [← f.length, hw.1, hw.2, List.drop_zero, Nat.sub_zero, f.length, List.take_length]
      rw [e]
      exact .tup sq f
    · have n := New.upd (o := .tup (cutV vs i j)) q.exF hp
      exact k _ _ ⟨_, M, (q.new n).tmp ⟨.tup (SqT.of upd_same) (FdAll.mono n.f _ (f.cut i j)), T.mono n.f t⟩⟩
/-! ### + and * of lists, list(x), tuple(x) -/
theorem ev_cat (ha : Px X a g l d1) (hb : Px X b g l d2) (h1 : Lv X.K l d1 ds1) (h2 : Lv X.K l d2 ds2) (hz : ds1.length + ds2.length ≤ sizeLine) : EvL X (.BinOp a .Add b pos) g l (ds1 ++ ds2) :=
  ev_new (pe_op op_cat pe_wp pe_wp) fun en T σ H Q s k => by
  refine ha en T σ H _ s fun v H1 s1 => ?_
  refine hb en _ σ H1 _ s1 fun u H2 s2 => ?_
  obtain ⟨F, M, q⟩ := s2
  obtain ⟨x, vs, rfl, g1, f1⟩ := h1.get q.exF q.exM q.rs q.tm.2.1
  obtain ⟨y, ws, rfl, g2, f2⟩ := h2.get q.exF q.exM q.rs q.tm.1
  exact ⟨x, y, vs, ws, rfl, rfl, g1, g2, by rw [f1.length, f2.length]; exact hz, fun p hp => k p _ H2 F M (q.tmp q.tm.2.2) (f1.app f2) hp⟩
theorem ev_listOf {e1 : Expr} (ha : Px X e1 g l d) (hd : Sv X.K l d ds) (hm : X.mg "list" = none) (hg : Gl X "list" := by rfl) (hs : starEach [e1] X.env = (false, eval e1 X.env) :: starEach [] X.env := by rfl) : EvL X (.Call (.Name "list" p) [e1] [] pos) g l ds :=
  ev_new (pe_callTy call_list_of hg hm (by decide +kernel) (pa_wp (es := [e1])) (by decide) (by decide) hs rfl) fun en T σ H Q s k => by
  refine pa_c ha pa_n hs en T σ H _ s fun vs H1 s1 => ?_
  obtain ⟨F, M, q⟩ := s1
  obtain ⟨f, t⟩ := q.tm
  cases f with
  | cons f1 f2 =>
    cases f2
    obtain ⟨a, ws, rfl, sq, f⟩ := hd.get q.exF q.exM q.rs f1
    exact ⟨a, ws, rfl, sq, fun p hp => k p _ H1 F M (q.tmp t) f hp⟩
theorem px_listOf {e1 : Expr} (ha : Px X e1 g l d) (hd : Sv X.K l d ds) (hm : X.mg "list" = none) (hg : Gl X "list" := by rfl) (hs : starEach [e1] X.env = (false, eval e1 X.env) :: starEach [] X.env := by rfl) : Px X (.Call (.Name "list" p) [e1] [] pos) g l (.lst ds) := (ev_listOf ha hd hm hg hs).frz
theorem px_tupOf {e1 : Expr} (ha : Px X e1 g l d) (hd : Lq X.K l d ds) (hm : X.mg "tuple" = none) (hg : Gl X "tuple" := by rfl) (hs : starEach [e1] X.env = (false, eval e1 X.env) :: starEach [] X.env := by rfl) : Px X (.Call (.Name "tuple" p) [e1] [] pos) g l (.tup ds) := fun en T σ H Q s k =>
  wpE_of (pe_callTy call_tuple_of hg hm (by decide +kernel) (pa_wp (es := [e1])) (by decide) (by decide) hs rfl) (by
  refine pa_c ha pa_n hs en T σ H _ s fun vs H1 s1 => ?_
  obtain ⟨F, M, q⟩ := s1
  obtain ⟨f, t⟩ := q.tm
  cases f with
  | cons f1 f2 =>
    cases f2
    obtain ⟨a, ws, rfl, sq, f⟩ := hd.get q.exF q.exM q.rs f1
    refine ⟨a, ws, rfl, .inl ⟨sq, fun p hp => ?_⟩⟩
    have n := New.upd (o := .tup ws) q.exF hp
    exact k _ _ ⟨_, M, (q.new n).tmp ⟨.tup (SqT.of upd_same) (FdAll.mono n.f _ f), T.mono n.f t⟩⟩)
/-! ### texts -/
end
section
variable {K : PySem.W.Frag} {l : List Res} {d d1 d2 : D} {ds es : List D}
theorem Op2.to {r : R2} {a b d d' : D} (h : Op2 K l r a b d) (q : d = d') : Op2 K l r a b d' := q ▸ h
theorem OpN.to {r : List V → Hp → VK → Prop} {as : List D} {d d' : D} (h : OpN K l r as d) (q : d = d') : OpN K l r as d' := q ▸ h
/-- a sign in a text -/
theorem o_inX {c : Nat} {z : Str} : Op2 K l (fun x y H Q => ∃ (c : Nat) (z : Str), x = .str ⟨#[c]⟩ ∧ y = .str z ∧ Q (.bl (decide (c ∈ z.cps.toList))) H) (.str ⟨#[c]⟩) (.str z) (.bl (decide (c ∈ z.cps.toList))) := fun F M H v u Q eF eM dj rs f1 f2 k => by
  cases f1; cases f2
  exact ⟨c, z, rfl, rfl, k _ F H (.rf eF) (.bl _)⟩
theorem o_all {bs : List Bool} (h : Lq K l d (bs.map .bl)) : OpN K l (rAll K) [d] (.bl (bs.all id)) := fun F M H vs Q eF eM dj rs f k => by
  cases f with
  | cons f1 f2 =>
    cases f2
    obtain ⟨a, ws, rfl, sq, f⟩ := h.get eF eM rs f1
    have e := f.bls
    subst e
    exact ⟨a, bs, rfl, sq, k _ F H (.rf eF) (.bl _)⟩
/-- the greatest, the least of ints -/
def maxL : List Int → Int
  | [] => 0
  | [a] => a
  | a :: b :: r => max a (maxL (b :: r))
def minL : List Int → Int
  | [] => 0
  | [a] => a
  | a :: b :: r => min a (minL (b :: r))
/-- len of any -/
theorem o_lenV (h : Sv K l d ds) : OpN K l (rLen1 K) [d] (.int ds.length) := fun F M H vs Q eF eM dj rs f k => by
  cases f with
  | cons f1 f2 =>
    cases f2
    obtain ⟨a, ws, rfl, sq, f⟩ := h.get eF eM rs f1
    refine ⟨a, ws, rfl, sq, ?_⟩
    rw [f.length]
    exact k _ F H (.rf eF) (.int _)
/-- an item of any list -/
theorem o_ixV {i : Int} (h : Lq K l d1 ds) (hi : atI ds i = some d) : Op2 K l (rIxL K) d1 (.int i) d := fun F M H v u Q eF eM dj rs f1 f2 k => by
  cases f2
  obtain ⟨a, ws, rfl, sq, f⟩ := h.get eF eM rs f1
  obtain ⟨w, h1, h2⟩ := atI_fd f hi
  exact ⟨_, _, i, w, rfl, rfl, sq, h1, k w F H (.rf eF) h2⟩
/-- == of lists, one owned -/
theorem Lv.dp {F M H : Hp} {v : V} {ps : List PyData} (h : Lv K l d ds) (eF : Ex F H) (eM : Ex M H) (rs : Rs l F M) (f : Fd K F v d) (hp : D.pys ds = some ps) : Dp K H v (.list ps) := by
  obtain ⟨a, vs, rfl, sq, f⟩ := h.get eF eM rs f
  exact .lst (SqL.of sq) (FdAll.dp eF ds f hp)
end
section
variable {X : Cx} {W : WX} {g g' : Gm} {l l' : List Res} {Φ : Po} {e e2 a b c o : Expr} {es : List Expr} {d d1 d2 d3 : D} {ds ds1 ds2 : List D} {pos p p2 : Pos} {rest : List Stmt}
/-- x.append(e), x an owned list -/
theorem blk_add {k : Nat} {q : Addr} {apos cpos : Pos} (ho : Px X o g l (.adr q)) (he : Px X e g l d) (hk : l[k]? = some (ownL X.K q ds)) (hz : ds.length < sizeLine) (h : Blk X W rest (g) (l.set k (ownL X.K q (ds ++ [d]))) Φ)
    (hp : PS X (.Expr (.Call (.Attribute o "append" apos) [e] [] cpos) pos) (tDrop (tBM X.K "list" rAppend (wpE X o) (tCons (wpE X e) tNil))) := by exact ps_expr (pe_bm PySem.F.plainAttrs_list PySem.F.slot_list_append PySem.F.type_list_append mt_append pe_wp (pa_cons pe_wp pa_nil))) :
    Blk X W (.Expr (.Call (.Attribute o "append" apos) [e] [] cpos) pos :: rest) g l Φ := blk_app ho he hk hz h hp
/-- a target = e, any target -/
theorem blk_asg {tg : Expr} {gt : TG} {is : List Nat} {es : List D} (he : Px X e g l d) (hg : PG X tg gt) (ht : Tg X.K gt is d es) (h : Blk X W rest (sets g is es) l Φ) (hs : swapsWithSole [tg] e pos.line X.env = pure false := by rfl) (hw : swappedStores [tg] e X.env = pure none := by rfl) (h1 : (assignEach [tg] X.env).map (·.2) = [assign tg X.env] := by rfl) :
    Blk X W (.Assign [tg] e pos :: rest) g l Φ := fun en T σ H D s mm => wpS_of (pss_cons (ps_asg pe_wp hg hs hw h1) pss_wp) (by
  refine he en T σ H _ s fun u H1 s1 => ?_
  obtain ⟨F, M, q⟩ := s1
  obtain ⟨f1, t⟩ := q.tm
  exact ht F H1 u σ _ q.exF f1 fun vs fvs => h en T _ H1 D ⟨F, M, (q.tmp t).slots (q.sl.sets fvs)⟩ mm)
end
end Sx
set_option Elab.async false
set_option linter.all false
set_option maxRecDepth 100000
set_option maxHeartbeats 2000000
/-! == of data that are alike. -/
namespace Sx
open PySem L2
theorem Dj.r' {A B C : Hp} (h : Dj C (join A B)) : Dj C B := fun x o e => (join_none (h x o e)).2
theorem nth_set : ∀ {g : Gm} {i : Nat} {d : D}, i < g.length → nth (g.set i (some d)) i = some d
  | [], _, _, h => absurd h (Nat.not_lt_zero _)
  | o :: _, 0, d, _ => by cases o <;> rfl
  | o :: g, i + 1, d, h => by
    have := nth_set (g := g) (i := i) (d := d) (Nat.lt_of_succ_lt_succ h)
    cases o <;> exact this
/-- a datum of plain things, at most k deep -/
def Dp' (k : Nat) (d : D) : Prop := ∃ p, d.py = some p ∧ p.canLay0 = true ∧ p.depth ≤ k
theorem Dp'.non {k : Nat} : Dp' k .non := ⟨_, rfl, rfl, Nat.zero_le _⟩
theorem Dp'.bl {k : Nat} {b : Bool} : Dp' k (.bl b) := ⟨_, rfl, rfl, Nat.zero_le _⟩
theorem Dp'.int {k : Nat} {i : Int} : Dp' k (.int i) := ⟨_, rfl, rfl, Nat.zero_le _⟩
theorem Dp'.str {k : Nat} {x : Str} (h : PySem.PyData.strOk x = true := by decide +kernel) : Dp' k (.str x) := ⟨_, rfl, h, Nat.zero_le _⟩
theorem Dp'.all {k : Nat} : ∀ {ds : List D}, (∀ d ∈ ds, Dp' k d) → ∃ ps, D.pys ds = some ps ∧ PyData.canLayAll0 ps = true ∧ PyData.depthAll ps ≤ k
  | [], _ => ⟨[], rfl, rfl, Nat.zero_le _⟩
  | d :: r, h => by
    obtain ⟨p, h1, h2, h3⟩ := h d List.mem_cons_self
    obtain ⟨ps, h4, h5, h6⟩ := Dp'.all (ds := r) fun z hz => h z (List.mem_cons_of_mem _ hz)
    refine ⟨p :: ps, ?_, ?_, ?_⟩
    · show (D.py d).bind (fun a => (D.pys r).map fun b => a :: b) = _
      rw [h1, h4]
      rfl
    · show (PyData.canLay0 p && PyData.canLayAll0 ps) = true
      rw [h2, h5]
      rfl
    · show max (PyData.depth p) (PyData.depthAll ps) ≤ k
      exact Nat.max_le.mpr ⟨h3, h6⟩
theorem Dp'.lst {k : Nat} {ds : List D} (h : ∀ d ∈ ds, Dp' k d) : Dp' (k + 1) (.lst ds) := by
  obtain ⟨ps, h1, h2, h3⟩ := Dp'.all h
  refine ⟨.list ps, ?_, h2, Nat.succ_le_succ h3⟩
  show (D.pys ds).map PyData.list = _
  rw [h1]
  rfl
theorem Dp'.tup {k : Nat} {ds : List D} (h : ∀ d ∈ ds, Dp' k d) : Dp' (k + 1) (.tup ds) := by
  obtain ⟨ps, h1, h2, h3⟩ := Dp'.all h
  refine ⟨.tuple ps, ?_, h2, Nat.succ_le_succ h3⟩
  show (D.pys ds).map PyData.tuple = _
  rw [h1]
  rfl
theorem Dp'.mono {j k : Nat} {d : D} (h : Dp' j d) (e : j ≤ k) : Dp' k d := let ⟨p, h1, h2, h3⟩ := h; ⟨p, h1, h2, Nat.le_trans h3 e⟩
theorem Dp'.ints {k : Nat} {ns : List Int} : ∀ d ∈ ns.map D.int, Dp' k d := fun d h => by
  obtain ⟨n, _, rfl⟩ := List.mem_map.mp h
  exact .int
section
variable {K : PySem.W.Frag} {l : List Res} {d d1 d2 : D} {ds es : List D} {k : Nat}
theorem shaped_of {p : PyData} (h1 : p.canLay0 = true) (h2 : p.depth ≤ k) (h3 : k ≤ 64) : SeqAt.shaped p = true := by
  show (p.canLay0 && decide (p.depth ≤ 64)) = true
  rw [h1, decide_eq_true (Nat.le_trans h2 h3)]
  rfl
end
section
variable {X : Cx} {W : WX} {g : Gm} {l l' : List Res} {Φ : Po}
/-- what is owned is given up -/
theorem S.dropO {K : PySem.W.Frag} {en : En} {T : Tm} {σ : L2.St} {H : Hp} (s : S K en g T (l' ++ l) σ H) : S K en g T l σ H := by
  obtain ⟨F, M, a⟩ := s
  obtain ⟨A, B, rfl, dj, r1, r2⟩ := a.rs.split
  exact ⟨F, B, a.exF, a.exM.joinR dj, Dj.r' a.dj, a.eF, a.nF, fun x o h => a.nM x o (by rw [join_r (dj.sym x o h)]; exact h), a.fr, a.sl, a.tm, r2⟩
theorem Blk.dropO {sts : List Stmt} (h : Blk X W sts g l Φ) : Blk X W sts g (l' ++ l) Φ := fun en T σ H D s m => h en T σ H D s.dropO m
/-- x = [..] on one line, the list not changed behind it -/
theorem Blk.frz' {sts : List Stmt} {p : Addr} {ds : List D} {i : Nat} (hi : i < g.length) (k : Blk X W sts (g.set i (some (.lst ds))) l Φ) : Blk X W sts (g.set i (some (.adr p))) (ownL X.K p ds :: l) Φ := by
  refine Blk.frz (i := i) ?_ ?_
  · exact nth_set hi
  · rw [List.set_set]
    exact k
variable {rest : List Stmt} {pos : Pos} {c : Expr}
end
end Sx
set_option Elab.async false
set_option linter.all false
set_option maxRecDepth 100000
set_option maxHeartbeats 2000000
/-! Slices with a step; dicts. -/
namespace Sx
open PySem L2 PyProof.Rows
/-! ### slices with a step -/
def pickN {α : Type} (xs : List α) (js : List Nat) : List α := js.filterMap (xs[·]?)
theorem pickN_cons {α : Type} (xs : List α) (j : Nat) (js : List Nat) : pickN xs (j :: js) = (match xs[j]? with | some x => [x] | none => []) ++ pickN xs js := by
  unfold pickN
  rw [List.filterMap_cons]
  cases xs[j]? <;> rfl
theorem pickN_map {α β : Type} (f : α → β) (xs : List α) : ∀ js, pickN (xs.map f) js = (pickN xs js).map f
  | [] => rfl
  | j :: js => by
    rw [pickN_cons, pickN_cons, pickN_map f xs js, List.getElem?_map, List.map_append]
    cases xs[j]? <;> rfl
theorem pickN_len {α : Type} (xs : List α) (js : List Nat) : (pickN xs js).length ≤ js.length := List.length_filterMap_le _ _
theorem vals_get : ∀ {vs : List V} {us : List Value} (j : Nat), Vals vs us → (vs[j]? = none ∧ us[j]? = none) ∨ ∃ v u, vs[j]? = some v ∧ us[j]? = some u ∧ RelV v u
  | _, _, _, .nil => .inl ⟨rfl, rfl⟩
  | _, _, 0, .cons r _ => .inr ⟨_, _, rfl, rfl, r⟩
  | _, _, j + 1, .cons _ t => by
    rcases vals_get j t with ⟨h1, h2⟩ | ⟨v, u, h1, h2, h3⟩
    · exact .inl ⟨by rw [List.getElem?_cons_succ]; exact h1, by rw [List.getElem?_cons_succ]; exact h2⟩
    · exact .inr ⟨v, u, by rw [List.getElem?_cons_succ]; exact h1, by rw [List.getElem?_cons_succ]; exact h2, h3⟩
theorem vals_pick {vs : List V} {us : List Value} (h : Vals vs us) : ∀ js, Vals (pickN vs js) (pickN us js)
  | [] => .nil
  | j :: js => by
    rw [pickN_cons, pickN_cons]
    have ih := vals_pick h js
    rcases vals_get j h with ⟨h1, h2⟩ | ⟨v, u, h1, h2, h3⟩
    · rw [h1, h2]; exact ih
    · rw [h1, h2]; exact .cons h3 ih
theorem FdAll.pick {K : PySem.W.Frag} {F : Hp} {vs : List V} {ds : List D} (h : FdAll K F vs ds) : ∀ js, FdAll K F (pickN vs js) (pickN ds js)
  | [] => .nil
  | j :: js => by
    rw [pickN_cons, pickN_cons]
    have ih := FdAll.pick h js
    cases e : ds[j]? with
    | none =>
      have : vs[j]? = none := by
        rw [List.getElem?_eq_none_iff] at e ⊢
        rw [h.length]; exact e
      rw [this]; exact ih
    | some d =>
      obtain ⟨v, h1, h2⟩ := h.get e
      rw [h1]; exact .cons h2 ih
/-- which places xs[lo:hi:st] takes -/
def places (n : Nat) (lo hi st : Option Int) : List Nat := let b := sliceBounds lo hi st n; sliceRange b.1 b.2.1 b.2.2
theorem stride_at {xs : List Value} {lo hi st : Option Int} : slicePick xs.toArray lo hi st = (pickN xs (places xs.length lo hi st)).toArray := by
  unfold slicePick pickN places
  rw [List.size_toArray]
  congr 2
  funext j
  rw [List.getElem?_toArray]
/-- at most so many -/
theorem places_len {n : Nat} {lo hi st : Int} (h1 : 0 ≤ lo) (h2 : lo ≤ hi) (h3 : 0 < st) : (places n (some lo) (some hi) (some st)).length ≤ ((hi - lo + st - 1) / st).toNat := by
  unfold places sliceBounds
  simp only [Option.getD_some, if_pos h3, show ¬ lo < 0 by omega, show ¬ hi < 0 by omega, if_false]
  unfold sliceRange
  rw [List.length_map, List.length_range, if_pos h3]
  split
  · have : (max 0 (min hi (n : Int)) - max 0 (min lo (n : Int)) + st - 1) / st ≤ (hi - lo + st - 1) / st := Int.ediv_le_ediv h3 (by omega)
    omega
  · show (0 : Int).toNat ≤ _
    exact Nat.zero_le _
section
variable {X : Cx} {W : WX} {g g' : Gm} {l l' : List Res} {Φ : Po} {e e2 a b c o v : Expr} {es : List Expr} {d d1 d2 d3 : D} {ds ds1 ds2 : List D} {pos p p2 : Pos} {rest : List Stmt}
def tStride (K : PySem.W.Frag) (te : TE) (tl th ts : TO) : TE := fun σ H Q => te σ H fun x H1 => tl σ H1 fun i H2 => th σ H2 fun j H3 => ts σ H3 fun k H4 => k ≠ some 0 ∧ ∃ q xs, x = .ref q ∧ SqL K H4 q xs ∧ ((pickN xs (places xs.length i j k)).length ≤ sizeLine) ∧ ∀ r, H4 r = none → Q (.ref r) (upd H4 r (.lst (pickN xs (places xs.length i j k))))
theorem pe_stride {te : TE} {tl th ts : TO} {lo hi : Option Expr} {st : Expr} (he : PE X e te) (hl : PO X lo tl) (hu : PO X hi th) (hk : PO X (some st) ts) (hx : ∀ (x y : Value), subscripted (.Slice lo hi (some st) p2) false x y = operate [x, y] (getItem x y) := by intros; with_unfolding_all rfl) :
    PE X (.Subscript e (.Slice lo hi (some st) p2) pos) (tStride X.K te tl th ts) := by
  refine ⟨fun pins t0 σ H Q I h => ?_⟩
  refine Subscript_ (thn (he.run pins t0 σ H _ I h) fun w t1 ⟨x, H1, I1, r1, q1⟩ => ?_)
  refine wpAny_Slice ?_
  refine thn (hl.run pins t1 σ H1 _ I1 q1) fun vi t2 ⟨i, H2, I2, pi, q2⟩ => ?_
  refine thn (hu.run pins t2 σ H2 _ I2 q2) fun vj t3 ⟨j, H3, I3, pj, q3⟩ => ?_
  refine thn (hk.run pins t3 σ H3 _ I3 q3) fun vk t4 ⟨k, H4, I4, pk, nz, q, xs, ex, sq, hz, q4⟩ => ?_
  subst ex
  cases r1
  have J : Inv X pins σ H4 { t4 with heap := t4.heap.push { cls := .type "slice", data := .fields #[vi, vj, vk] } } := I4.kept (t' := t4.toks) fun _ _ z => Heap.get?_push_of_some _ z
  obtain ⟨us, rv, ht, hw⟩ := J.list sq
  have hlen := rv.length
  refine tail_any (T := "list") (id := "list.__getitem__") (ops := [.ref q, .ref t4.heap.objs.size]) ht.isList.typeIs slot_list_getitem.lookup ?_ (hx _ _)
  refine wpAny_getItem_list_slice ht.isList (Heap.IsSliceOf.new ..) pi pj pk nz ?_ (by rw [List.size_toArray] <;> omega)
  rw [stride_at, ← hlen]
  refine ⟨.ref _, _, J.laid (t' := t4.toks) (o := .lst (pickN xs (places xs.length i j k))) (fun _ _ z => Heap.get?_push_of_some _ z) (Nat.le_refl _) ?_, rfl, q4 _ (J.hok.fresh (Nat.le_refl _))⟩
  exact ⟨hz, _, 0, vals_pick rv _, Heap.get?_push_size _ rfl⟩
theorem ev_stride {lo hi : Option Expr} {st : Expr} {i j k : Option Int} (ho : Px X o g l d) (hd : Lq X.K l d ds) (hl : Pz X lo g l i) (hu : Pz X hi g l j) (hs : Pz X (some st) g l k) (hn : k ≠ some 0) (hz : (pickN ds (places ds.length i j k)).length ≤ sizeLine)
    (hx : ∀ (x y : Value), subscripted (.Slice lo hi (some st) p2) false x y = operate [x, y] (getItem x y) := by intros; with_unfolding_all rfl) : EvL X (.Subscript o (.Slice lo hi (some st) p2) pos) g l (pickN ds (places ds.length i j k)) := by
  obtain ⟨tl, pl, hl⟩ := hl
  obtain ⟨tu, pu, hu⟩ := hu
  obtain ⟨ts, ps, hs⟩ := hs
  refine ev_new (pe_stride pe_wp pl pu ps hx) fun en T σ H Q s kk => ?_
  refine ho en T σ H _ s fun v H1 s1 => ?_
  refine hl en _ σ H1 _ s1 fun H2 s2 => ?_
  refine hu en _ σ H2 _ s2 fun H3 s3 => ?_
  refine hs en _ σ H3 _ s3 fun H4 s4 => ?_
  obtain ⟨F, M, q⟩ := s4
  obtain ⟨a, vs, rfl, sq, f⟩ := hd.get q.exF q.exM q.rs q.tm.1
  refine ⟨hn, a, vs, rfl, sq, ?_, fun p hp => ?_⟩
  · rw [f.length, (f.pick _).length]; exact hz
  · rw [f.length]
    exact kk p _ H4 F M (q.tmp q.tm.2) (f.pick _) hp
/-! ### dicts -/
def valD {κ : Type} [DecidableEq κ] (kvs : List (κ × D)) (k : κ) : Option D := (kvs.find? fun kv => decide (kv.1 = k)).map (·.2)
def putKD {κ : Type} [DecidableEq κ] (kvs : List (κ × D)) (k : κ) (d : D) : List (κ × D) :=
  if (kvs.any fun kv => decide (kv.1 = k)) = true then kvs.map (fun kv => if kv.1 = k then (kv.1, d) else kv) else kvs ++ [(k, d)]
section
variable {K : PySem.W.Frag} {F : Hp} {κ : Type} [DecidableEq κ]
theorem FdFs.valV {k : κ} {d : D} : ∀ {vs : List (κ × V)} {kvs : List (κ × D)}, FdFs K F vs kvs → valD kvs k = some d → ∃ v, L2.valV vs k = some v ∧ Fd K F v d
  | _, _, .nil, h => by cases h
  | (n, v) :: vs, (_, d') :: kvs, .cons a b, h => by
    unfold valD at h
    unfold L2.valV
    rw [List.find?_cons] at h ⊢
    by_cases e : n = k
    · rw [decide_eq_true e] at h ⊢
      cases h
      exact ⟨v, rfl, a⟩
    · rw [decide_eq_false e] at h ⊢
      exact FdFs.valV b h
theorem FdFs.noV {k : κ} : ∀ {vs : List (κ × V)} {kvs : List (κ × D)}, FdFs K F vs kvs → valD kvs k = none → L2.valV vs k = none
  | _, _, .nil, h => rfl
  | (n, v) :: vs, (_, d') :: kvs, .cons a b, h => by
    unfold valD at h
    unfold L2.valV
    rw [List.find?_cons] at h ⊢
    by_cases e : n = k
    · rw [decide_eq_true e] at h
      cases h
    · rw [decide_eq_false e] at h ⊢
      exact FdFs.noV b h
theorem FdFs.anyK {k : κ} : ∀ {vs : List (κ × V)} {kvs : List (κ × D)}, FdFs K F vs kvs → (vs.any fun kv => decide (kv.1 = k)) = kvs.any fun kv => decide (kv.1 = k)
  | _, _, .nil => rfl
  | (n, v) :: vs, (_, d') :: kvs, .cons a b => by
    rw [List.any_cons, List.any_cons, FdFs.anyK b]
theorem FdFs.mapK {k : κ} {v : V} {d : D} (h : Fd K F v d) : ∀ {vs : List (κ × V)} {kvs : List (κ × D)}, FdFs K F vs kvs → FdFs K F (vs.map (fun kv => if kv.1 = k then (kv.1, v) else kv)) (kvs.map fun kv => if kv.1 = k then (kv.1, d) else kv)
  | _, _, .nil => .nil
  | (n, v') :: vs, (_, d') :: kvs, .cons a b => by
    rw [List.map_cons, List.map_cons]
    by_cases e : n = k
    · show FdFs K F ((if n = k then (n, v) else (n, v')) :: _) ((if n = k then (n, d) else (n, d')) :: _)
      rw [if_pos e, if_pos e]
      exact .cons h (FdFs.mapK h b)
    · show FdFs K F ((if n = k then (n, v) else (n, v')) :: _) ((if n = k then (n, d) else (n, d')) :: _)
      rw [if_neg e, if_neg e]
      exact .cons a (FdFs.mapK h b)
theorem FdFs.app1 {k : κ} {v : V} {d : D} (h : Fd K F v d) : ∀ {vs : List (κ × V)} {kvs : List (κ × D)}, FdFs K F vs kvs → FdFs K F (vs ++ [(k, v)]) (kvs ++ [(k, d)])
  | _, _, .nil => .cons h .nil
  | _, _, .cons a b => .cons a (FdFs.app1 h b)
theorem FdFs.putK {k : κ} {v : V} {d : D} {vs : List (κ × V)} {kvs : List (κ × D)} (f : FdFs K F vs kvs) (h : Fd K F v d) : FdFs K F (L2.putK vs k v) (putKD kvs k d) := by
  unfold L2.putK putKD
  rw [f.anyK]
  split
  · exact f.mapK h
  · exact f.app1 h
end
def ownD (K : PySem.W.Frag) (p : Addr) (kvs : List (Key × D)) : Res := ⟨fun F M => ∃ vs, FdFs K F vs kvs ∧ M = one p (.dK vs), fun e ⟨vs, h, m⟩ => ⟨vs, FdFs.mono e _ h, m⟩, fun ⟨_, _, m⟩ x xs e => by rw [m] at e; obtain ⟨_, e⟩ := one_some e; cases e⟩
def ownT (K : PySem.W.Frag) (p : Addr) (kvs : List (List Key × D)) : Res := ⟨fun F M => ∃ vs, FdFs K F vs kvs ∧ M = one p (.dT vs), fun e ⟨vs, h, m⟩ => ⟨vs, FdFs.mono e _ h, m⟩, fun ⟨_, _, m⟩ x xs e => by rw [m] at e; obtain ⟨_, e⟩ := one_some e; cases e⟩
/-- .. while it is walked over -/
def ownDz (K : PySem.W.Frag) (p : Addr) (od : Obj) (vs : List (Key × V)) (kvs : List (Key × D)) : Res := ⟨fun F M => FdFs K F vs kvs ∧ M = one p (.frz od (.dK vs)), fun e ⟨h, m⟩ => ⟨FdFs.mono e _ h, m⟩, fun ⟨_, m⟩ x xs e => by rw [m] at e; obtain ⟨_, e⟩ := one_some e; cases e⟩
def ownTz (K : PySem.W.Frag) (p : Addr) (od : Obj) (vs : List (List Key × V)) (kvs : List (List Key × D)) : Res := ⟨fun F M => FdFs K F vs kvs ∧ M = one p (.frz od (.dT vs)), fun e ⟨h, m⟩ => ⟨FdFs.mono e _ h, m⟩, fun ⟨_, m⟩ x xs e => by rw [m] at e; obtain ⟨_, e⟩ := one_some e; cases e⟩
/-- a dict with single keys: frozen or owned | .. with tuples as keys -/
inductive Dv (K : PySem.W.Frag) (l : List Res) : D → List (Key × D) → Prop
  | f {kvs : List (Key × D)} : Dv K l (.dK kvs) kvs
  | o {k : Nat} {p : Addr} {kvs : List (Key × D)} (h : l[k]? = some (ownD K p kvs)) : Dv K l (.adr p) kvs
  | z {k : Nat} {p : Addr} {od : Obj} {vs : List (Key × V)} {kvs : List (Key × D)} (h : l[k]? = some (ownDz K p od vs kvs)) : Dv K l (.adr p) kvs
inductive Du (K : PySem.W.Frag) (l : List Res) : D → List (Key × D) → Prop
  | f {kvs : List (Key × D)} : Du K l (.dK kvs) kvs
  | o {k : Nat} {p : Addr} {kvs : List (Key × D)} (h : l[k]? = some (ownD K p kvs)) : Du K l (.adr p) kvs
inductive Dw (K : PySem.W.Frag) (l : List Res) : D → List (List Key × D) → Prop
  | f {kvs : List (List Key × D)} : Dw K l (.dT kvs) kvs
  | o {k : Nat} {p : Addr} {kvs : List (List Key × D)} (h : l[k]? = some (ownT K p kvs)) : Dw K l (.adr p) kvs
  | z {k : Nat} {p : Addr} {od : Obj} {vs : List (List Key × V)} {kvs : List (List Key × D)} (h : l[k]? = some (ownTz K p od vs kvs)) : Dw K l (.adr p) kvs
section
variable {K : PySem.W.Frag} {F M H : Hp} {v : V}
theorem Rs.ownD {k : Nat} {p : Addr} {kvs : List (Key × D)} (h : Rs l F M) (e : l[k]? = some (ownD K p kvs)) (m : Ex M H) : ∃ vs, FdFs K F vs kvs ∧ H p = some (.dK vs) := by
  obtain ⟨A, B, rfl, dj, ⟨vs, f, rfl⟩, _⟩ := Rs.at e h
  exact ⟨vs, f, m p _ (join_l one_same)⟩
theorem Rs.ownT {k : Nat} {p : Addr} {kvs : List (List Key × D)} (h : Rs l F M) (e : l[k]? = some (ownT K p kvs)) (m : Ex M H) : ∃ vs, FdFs K F vs kvs ∧ H p = some (.dT vs) := by
  obtain ⟨A, B, rfl, dj, ⟨vs, f, rfl⟩, _⟩ := Rs.at e h
  exact ⟨vs, f, m p _ (join_l one_same)⟩
theorem Du.get {kvs : List (Key × D)} (h : Du K l d kvs) (eF : Ex F H) (eM : Ex M H) (rs : Rs l F M) (f : Fd K F v d) : ∃ a vs, v = .ref a ∧ H a = some (.dK vs) ∧ FdFs K F vs kvs := by
  cases h with
  | f => cases f with | dK s a => exact ⟨_, _, rfl, eF _ _ s, a⟩
  | o h =>
    cases f
    obtain ⟨vs, f, hp⟩ := rs.ownD h eM
    exact ⟨_, vs, rfl, hp, f⟩
theorem Rs.ownDz {k : Nat} {p : Addr} {od : Obj} {vs : List (Key × V)} {kvs : List (Key × D)} (h : Rs l F M) (e : l[k]? = some (ownDz K p od vs kvs)) (m : Ex M H) : FdFs K F vs kvs ∧ H p = some (.frz od (.dK vs)) := by
  obtain ⟨A, B, rfl, dj, ⟨f, rfl⟩, _⟩ := Rs.at e h
  exact ⟨f, m p _ (join_l one_same)⟩
theorem Dv.get {kvs : List (Key × D)} (h : Dv K l d kvs) (eF : Ex F H) (eM : Ex M H) (rs : Rs l F M) (f : Fd K F v d) : ∃ a vs, v = .ref a ∧ Rd H a (.dK vs) ∧ FdFs K F vs kvs := by
  cases h with
  | f => cases f with | dK s a => exact ⟨_, _, rfl, .inl (eF _ _ s), a⟩
  | o h =>
    cases f
    obtain ⟨vs, f, hp⟩ := rs.ownD h eM
    exact ⟨_, vs, rfl, .inl hp, f⟩
  | z h =>
    cases f
    obtain ⟨f, hp⟩ := rs.ownDz h eM
    exact ⟨_, _, rfl, .inr ⟨_, hp⟩, f⟩
theorem Rs.ownTz {k : Nat} {p : Addr} {od : Obj} {vs : List (List Key × V)} {kvs : List (List Key × D)} (h : Rs l F M) (e : l[k]? = some (ownTz K p od vs kvs)) (m : Ex M H) : FdFs K F vs kvs ∧ H p = some (.frz od (.dT vs)) := by
  obtain ⟨A, B, rfl, dj, ⟨f, rfl⟩, _⟩ := Rs.at e h
  exact ⟨f, m p _ (join_l one_same)⟩
theorem Dw.get {kvs : List (List Key × D)} (h : Dw K l d kvs) (eF : Ex F H) (eM : Ex M H) (rs : Rs l F M) (f : Fd K F v d) : ∃ a vs, v = .ref a ∧ Rd H a (.dT vs) ∧ FdFs K F vs kvs := by
  cases h with
  | f => cases f with | dT s a => exact ⟨_, _, rfl, .inl (eF _ _ s), a⟩
  | o h =>
    cases f
    obtain ⟨vs, f, hp⟩ := rs.ownT h eM
    exact ⟨_, vs, rfl, .inl hp, f⟩
  | z h =>
    cases f
    obtain ⟨f, hp⟩ := rs.ownTz h eM
    exact ⟨_, _, rfl, .inr ⟨_, hp⟩, f⟩
end
/-- an owned cell is written -/
theorem At.putOne {K : PySem.W.Frag} {en : En} {T : Tm} {σ : L2.St} {H F M : Hp} {k : Nat} {p : Addr} {r r' : Res} {o' : HO} (a : At K en g T l σ H F M) (e : l[k]? = some r) (h : ∀ A, r.P F A → ∃ o, A = one p o) (h' : r'.P F (one p o')) : ∃ M', At K en g T (l.set k r') σ (upd H p o') F M' := by
  obtain ⟨A, B, rfl, dj, pA, put⟩ := Rs.at e a.rs
  obtain ⟨o, rfl⟩ := h A pA
  have hp : H p = some o := a.exM p _ (join_l one_same)
  have hF : F p = none := a.dj.sym p o (join_l one_same)
  have dB : ∀ u, Dj (one p u) B := fun u x w h => by
    obtain ⟨rfl, _⟩ := one_some h
    exact dj x _ one_same
  have hB : B p = none := dj p _ one_same
  have pM : en.H p = none ∨ ∃ u, en.M p = some u := a.nM p _ (join_l one_same)
  refine ⟨join (one p o') B, a.exF.mut hF, ?_, ?_, a.eF, a.nF, ?_, ?_, a.sl, a.tm, put _ _ F .rf h' (dB _)⟩
  · intro x w h
    rcases join_some h with q | ⟨n, q⟩
    · obtain ⟨rfl, rfl⟩ := one_some q
      exact upd_same
    · have ne : x ≠ p := fun z => by rw [z, hB] at q; cases q
      rw [upd_ne ne]
      exact a.exM x w (by rw [join_r (one_ne ne)]; exact q)
  · intro x w h
    have ne : x ≠ p := fun z => by rw [z, hF] at h; cases h
    have := a.dj x w h
    rw [join_r (one_ne ne)] at this ⊢
    exact this
  · intro x w h
    rcases join_some h with q | ⟨n, q⟩
    · obtain ⟨rfl, rfl⟩ := one_some q
      exact pM
    · have ne : x ≠ p := fun z => by rw [z, hB] at q; cases q
      exact a.nM x w (by rw [join_r (one_ne ne)]; exact q)
  · intro x w h1 h2
    have ne : x ≠ p := fun z => by
      subst z
      rcases pM with q | ⟨u, q⟩
      · rw [h1] at q; cases q
      · rw [h2] at q; cases q
    rw [upd_ne ne]
    exact a.fr x w h1 h2
/-- a key as a datum -/
def kD : Key → D
  | .inl i => .int i
  | .inr x => .str x
theorem Fd.key {K : PySem.W.Frag} {F : Hp} {v : V} {k : Key} (f : Fd K F v (kD k)) : v = kV k := by
  cases k with
  | inl i => cases f; rfl
  | inr x => cases f; rfl
theorem Px.units (hu : X.A.units + 64 < cLine) : X.A.units + 1 < cLine := by omega
end
section
variable {K : PySem.W.Frag} {l : List Res} {d1 d2 : D}
end
/-- a def that gives back a new list -/
abbrev Fr (K : PySem.W.Frag) {α : Type} (ok : α → Prop) (args : α → List D) (f : α → List D) : Sp := FnX K ok args (fun _ => []) (fun a d l => ∃ p, d = .adr p ∧ l = [ownL K p (f a)]) noE
section
variable {X : Cx} {g : Gm} {l : List Res} {e o : Expr} {es : List Expr} {p pos apos : Pos} {α : Type} {ok : α → Prop} {args : α → List D} {f : α → List D} {x m : Str} {ps : List Str} {k j : Nat}
theorem ev_callL (G : Glo X.prog X.w X.K X.mg X.base k x ps (Fr X.K ok args f)) (hr : Room j X.A) (hj : k ≤ j) (a : α) (hok : ok a) (ha : Pa X (e :: es) g l (args a))
    (hg : Gl X x := by rfl) (hdb : (x == ("__debug__" : Str)) = false := by decide) (he : starEach (e :: es) X.env = (false, eval e X.env) :: starEach es X.env := by rfl) (hpl : (backTo pos (starEach es X.env)).any (·.1) = false := by rfl) :
    EvL X (.Call (.Name x p) (e :: es) [] pos) g l (f a) :=
  ev_call (lr := l) (own := fun _ => []) G hr hj a hok ha (fun d l' ⟨q, e1, e2⟩ => ⟨q, e1, by rw [e2]; rfl⟩) hg hdb he hpl
theorem px_callL (G : Glo X.prog X.w X.K X.mg X.base k x ps (Fr X.K ok args f)) (hr : Room j X.A) (hj : k ≤ j) (a : α) (hok : ok a) (ha : Pa X (e :: es) g l (args a))
    (hg : Gl X x := by rfl) (hdb : (x == ("__debug__" : Str)) = false := by decide) (he : starEach (e :: es) X.env = (false, eval e X.env) :: starEach es X.env := by rfl) (hpl : (backTo pos (starEach es X.env)).any (·.1) = false := by rfl) :
    Px X (.Call (.Name x p) (e :: es) [] pos) g l (.lst (f a)) := (ev_callL G hr hj a hok ha hg hdb he hpl).frz
end
end Sx
set_option Elab.async false
set_option linter.all false
set_option maxRecDepth 100000
set_option maxHeartbeats 2000000
/-! d.get(k), d.get(k, x); a new dict asked at once. -/
namespace Sx
open PySem L2 PyProof.Rows
section
variable {X : Cx} {W : WX} {g g' : Gm} {l l' : List Res} {Φ : Po} {e e2 a b c o v : Expr} {es : List Expr} {d d1 d2 d3 : D} {pos p p2 apos : Pos} {rest : List Stmt}
/-- a call as a statement that gives nothing of worth -/
theorem blk_do {e : Expr} (he : Px X e g l d) (h : Blk X W rest g l Φ) (hs : swapsWith e none pos.line X.env = pure false := by rfl) : Blk X W (.Expr e pos :: rest) g l Φ := blk_expr he.ev (fun d l' ⟨_, e2⟩ => by subst e2; exact h) hs
end
end Sx
set_option Elab.async false
set_option linter.all false
set_option maxRecDepth 100000
set_option maxHeartbeats 2000000
/-! Dicts with tuples as keys, the key written out at the place. -/
namespace Sx
open PySem L2 PyProof.Rows
theorem FdAll.keys {K : PySem.W.Frag} {F : Hp} : ∀ {vs : List V} {ks : List Key}, FdAll K F vs (ks.map kD) → vs = ks.map kV
  | _, [], .nil => rfl
  | _, k :: ks, .cons a b => by rw [List.map_cons, a.key, FdAll.keys b]
section
variable {X : Cx} {W : WX} {g g' : Gm} {l l' : List Res} {Φ : Po} {e e2 a b c o v : Expr} {es : List Expr} {d d1 d2 d3 : D} {pos p p2 apos kp : Pos} {rest : List Stmt} {x1 : Nat} {ds : List D}
theorem FdFs.valO' {κ : Type} [DecidableEq κ] {K : PySem.W.Frag} {F : Hp} {k : κ} {vs : List (κ × V)} {kvs : List (κ × D)} (f : FdFs K F vs kvs) {z : V} {dz : D} (h : Fd K F z dz) : Fd K F ((L2.valV vs k).getD z) ((valD kvs k).getD dz) := by
  cases q : valD kvs k with
  | none => rw [f.noV q]; exact h
  | some d => obtain ⟨w, h1, h2⟩ := f.valV q; rw [h1]; exact h2
/-- d.get((..), x) -/
theorem px_tget2 {kvs : List (List Key × D)} {k : List Key} (hu : X.A.units + 1 < cLine) (ho : Px X o g l d1) (hd : Dw X.K l d1 kvs) (hi : Pa X es g l ds) (hk : ds = k.map kD) (hv : Px X v g l d3) (hz : k.length ≤ sizeLine := by first | decide | exact Nat.le_of_ble_eq_true rfl) (hm : M2 X o "get" apos (.Tuple es x1 kp) v pos := by constructor <;> rfl) : Px X (.Call (.Attribute o "get" apos) [.Tuple es x1 kp, v] [] pos) g l ((valD kvs k).getD d3) := fun en T σ H Q s kk => wpE_of (pe_dget2 hu pe_wp (pe_tup pa_wp) pe_wp hm) (by
  subst hk
  refine ho en T σ H _ s fun v H1 s1 => ?_
  obtain ⟨F1, M1, q1⟩ := id s1
  obtain ⟨a, vs, rfl, hp, f⟩ := hd.get q1.exF q1.exM q1.rs q1.tm.1
  refine ⟨a, rfl, .inr ⟨vs, hp⟩, ?_⟩
  refine hi en _ σ H1 _ s1 fun us H2 s2 => ?_
  obtain ⟨F, M, q⟩ := s2
  have ek := q.tm.1.keys
  subst ek
  refine ⟨by rw [List.length_map]; exact hz, fun p hp => ?_⟩
  have n := New.upd (o := .tup (k.map kV)) q.exF hp
  have q3 := q.new n
  refine hv en ((T.and X.K (.ref a) d1).ex (upd F p (.tup (k.map kV)))) σ _ _ ⟨_, M, q3.tmp ⟨.rf, q3.tm.2⟩⟩ fun z H3 s3 => ?_
  obtain ⟨F3, M3, q4⟩ := s3
  obtain ⟨a2, vs, e2, hp2, f⟩ := hd.get q4.exF q4.exM q4.rs q4.tm.2.2.1
  cases e2
  exact ⟨_, .inr ⟨vs, k, p, hp2, rfl, q4.exF _ _ (q4.tm.2.1 _ _ upd_same), rfl⟩, kk _ _ ⟨_, M3, q4.tmp ⟨f.valO' q4.tm.1, q4.tm.2.2.2⟩⟩⟩)
/-- d[..] = v -/
theorem blk_tput {kvs : List (List Key × D)} {n : Nat} {q : Addr} {k : List Key} {pos' : Pos} (hu : X.A.units + 1 < cLine) (hv : Px X v g l d) (ho : Px X o g l (.adr q)) (hi : Pa X es g l ds) (hk : ds = k.map kD) (hl : l[n]? = some (ownT X.K q kvs)) (hz : kvs.length < 10000)
    (h : Blk X W rest g (l.set n (ownT X.K q (putKD kvs k d))) Φ) (hkz : k.length ≤ sizeLine := by first | decide | exact Nat.le_of_ble_eq_true rfl) (hs : swapsWith v (some (.Subscript o (.Tuple es x1 kp) pos')) pos.line X.env = pure false := by rfl) : Blk X W (.Assign [.Subscript o (.Tuple es x1 kp) pos'] v pos :: rest) g l Φ := fun en T σ H D s mm => wpS_of (pss_cons (ps_dput hu pe_wp (pe_tup pa_wp) pe_wp hs) pss_wp) (by
  subst hk
  refine hv en T σ H _ s fun w H1 s1 => ?_
  refine ho en _ σ H1 _ s1 fun u H2 s2 => ?_
  refine hi en _ σ H2 _ s2 fun us H3 s3 => ?_
  obtain ⟨F, M, a⟩ := s3
  have ek := a.tm.1.keys
  subst ek
  have fu := a.tm.2.1
  cases fu
  refine ⟨by rw [List.length_map]; exact hkz, fun p hp => ?_⟩
  have nw := New.upd (o := .tup (k.map kV)) a.exF hp
  have a3 := a.new nw
  obtain ⟨vs, fv, hq⟩ := a3.rs.ownT hl a3.exM
  refine ⟨q, _, rfl, .inr ⟨vs, k, p, hq, rfl, upd_same, ?_, rfl⟩, ?_⟩
  · rw [fv.length]; exact Nat.lt_of_lt_of_le hz (by decide)
  · obtain ⟨M', a'⟩ := (a3.tmp (T' := T) a3.tm.2.2.2).putOne (k := n) (p := q) (r' := ownT X.K q (putKD kvs k d)) (o' := .dT (L2.putK vs k w)) hl (fun A ⟨_, _, e⟩ => ⟨_, e⟩) ⟨_, fv.putK a3.tm.2.2.1, rfl⟩
    exact h en T σ _ D ⟨_, M', a'⟩ mm)
/-- {} that will have tuples as keys -/
theorem ev_t0 : Ev X (.Dict [] [] pos) g l (fun d' l' => ∃ p, d' = .adr p ∧ l' = ownT X.K p [] :: l) := fun en T σ H Q s k => wpE_of pe_dnewT (by
  intro p hp
  obtain ⟨F, M, q⟩ := s
  have q3 := q.newO (r := ownT X.K p []) (A := one p (.dT [])) (H' := upd H p (.dT [])) (.new hp) (fun x o z => by obtain ⟨rfl, rfl⟩ := one_some z; exact upd_same) (fun x o z => by obtain ⟨rfl, rfl⟩ := one_some z; exact hp) ⟨[], .nil, rfl⟩
  exact k _ (.adr p) _ _ ⟨p, rfl, rfl⟩ ⟨F, _, q3.tmp ⟨.adr p, q.tm⟩⟩)
end
end Sx
set_option Elab.async false
set_option linter.all false
set_option maxRecDepth 100000
set_option maxHeartbeats 2000000
/-! A caught exception that is kept: the state is widened by its object. -/
namespace Sx
open PySem L2 PyProof.Rows
theorem exO_ok {P : Program} {w : World} {H : Hp} {h : Heap} {a : Addr} {cls : Value} {d : Option Addr} {oe : Obj} {vs : Array Value} (he : h.get? a = some oe) (hz : Zc cls d oe) (hd : oe.data = .fields vs) : ObjOk P w H h a (exO a cls d) :=
  ⟨⟨oe, he, hz, vs, hd⟩, ⟨oe, he⟩, fun _ _ ⟨o1, q, z, v, dd⟩ k => ⟨o1, k _ q, z, v, dd⟩⟩
theorem un_wide {fs ex : List Addr} {H H' : Hp} {h h' : Heap} {a : Addr} {o : HO} (u : Un fs ex H H' h h') (n : h.get? a = none) (hn : H' a = none) : Un fs ex H (upd H' a o) h h' where
  keep := u.keep
  slot := u.slot
  free := fun b ob q hb hx => by
    have ne : b ≠ a := fun e => by rw [e, n] at q; cases q
    rw [upd_ne ne]
    exact u.free b ob q hb hx
  there := u.there
  tups := fun b xs q => by
    have z := u.tups b xs q
    rw [upd_ne (ne_of_none z hn)]
    exact z
  frzs := fun b ob v q => by
    have z := u.frzs b ob v q
    rw [upd_ne (ne_of_none z hn)]
    exact z
  tbls := fun b ps q => by
    obtain ⟨more, z⟩ := u.tbls b ps q
    exact ⟨more, by rw [upd_ne (ne_of_none z hn)]; exact z⟩
theorem inv_wide {X : Cx} {pins : List (Addr × Obj)} {σ : L2.St} {H : Hp} {s : Shared} {a : Addr} {o : HO} (I : Inv X pins σ H s) (n : X.s_0.heap.get? a = none) (hn : H a = none) (np : ∀ p ∈ X.pn ++ pins, p.1 ≠ a) (nL : a ≠ X.env.locals)
    (nc : ∀ x c, X.env.cells.lookup x = some c → c ≠ a) (new : ObjOk X.prog X.w (upd H a o) s.heap a o) : Inv X pins σ (upd H a o) s :=
  ⟨I.ok, I.os, I.bare, un_wide I.base n hn, I.loc, I.cell, by rw [upd_ne (Ne.symm nL)]; exact I.free, fun x c e => by rw [upd_ne (nc x c e)]; exact I.freeC x c e,
    fun p hp => by
      obtain ⟨h1, h2, h3⟩ := I.pin p hp
      exact ⟨h1, by rw [upd_ne (np p hp)]; exact h2, h3⟩,
    fun b u e => by
      by_cases z : b = a
      · subst z
        rw [upd_same] at e
        cases e
        exact new
      · rw [upd_ne z] at e
        exact (I.hok b u e).stay (fun _ _ _ q => q) (fun b' q => by rw [upd_ne (ne_of_none q hn)]; exact q) fun b' xs q => by rw [upd_ne (ne_of_none q hn)]; exact q,
    I.len⟩
/-- a kept exception, owned: of the class at cls, no attributes of its own -/
def ownX (p : Addr) (cls : Value) (d : Option Addr) : Res := ⟨fun _ M => M = one p (exO p cls d), fun _ h => h, fun m x xs e => by rw [m] at e; obtain ⟨_, e⟩ := one_some e; exact nomatch e⟩
end Sx
set_option Elab.async false
set_option linter.all false
set_option maxRecDepth 100000
set_option maxHeartbeats 2000000
/-! Models: what a block computes, told beside the block. -/
namespace Sx
open PySem L2

theorem Wk.set {g1 g2 : Gm} (w : Wk g1 g2) : ∀ (i : Nat) (o : Option D), Wk (g1.set i o) (g2.set i o) := by
  induction w with
  | nil => intro i o; exact .nil
  | any w ih => intro i o; cases i with
    | zero => exact .keep w
    | succ i => exact .any (ih i o)
  | keep w ih => intro i o; cases i with
    | zero => exact .keep w
    | succ i => exact .keep (ih i o)
theorem Wk.sets {is : List Nat} : ∀ {es : List D} {g1 g2 : Gm}, Wk g1 g2 → Wk (sets g1 is es) (sets g2 is es) := by
  induction is with
  | nil => intro es g1 g2 w; cases es <;> exact w
  | cons i is ih =>
    intro es g1 g2 w
    cases es with
    | nil => exact w
    | cons e es => exact ih (w.set i _)
/-- the model's let -/
def lt {α β : Type} (x : α) (k : α → β) : β := k x
/-- what a block with ways out comes to -/
inductive Cf (Rr Ll Ss : Type) where
  | nx (s : Ss) | rt (r : Rr) | bk (s : Ll) | ct (s : Ll)
def bnd {Rr Ll Ss S2 : Type} (o : Cf Rr Ll Ss) (k : Ss → Cf Rr Ll S2) : Cf Rr Ll S2 := match o with
  | .nx s => k s | .rt r => .rt r | .bk s => .bk s | .ct s => .ct s
def bndV {Rr Ss : Type} (o : Cf Rr Empty Ss) (k : Ss → Rr) : Rr := match o with
  | .nx s => k s | .rt r => r | .bk s => nomatch s | .ct s => nomatch s
def loop {α Rr Ll Ss : Type} (step : Ss → α → Cf Rr Ss Ss) : List α → Ss → Cf Rr Ll Ss
  | [], s => .nx s
  | x :: xs, s => match step s x with
    | .nx s' => loop step xs s' | .ct s' => loop step xs s' | .bk s' => .nx s' | .rt r => .rt r
def whileF {Ss : Type} (c : Ss → Bool) (step : Ss → Ss) : Nat → Ss → Ss
  | 0, s => s
  | n + 1, s => cond (c s) (whileF c step n (step s)) s
def whileR {Rr Ll Ss : Type} (c : Ss → Bool) (step : Ss → Cf Rr Ss Ss) : Nat → Ss → Cf Rr Ll Ss
  | 0, s => .nx s
  | n + 1, s => cond (c s) (match step s with
    | .nx s' => whileR c step n s' | .ct s' => whileR c step n s' | .bk s' => .nx s' | .rt r => .rt r) (.nx s)

section
variable {X : Cx} {W : WX} {g g' : Gm} {l l' : List Res} {e c o : Expr} {d : D} {pos p : Pos} {rest A B body : List Stmt}
variable {α β Rr Ll Ss S1 : Type}
/-- what a def's giving back (and its raising) means -/
structure Re where
  rt : D → List Res → Prop
  ex : Value → Option Addr → Gm → List Res → Prop := fun _ _ _ _ => False
/-- at the state s the slots are G s, what is owned R s -/
def Nx (G : Ss → Gm) (R : Ss → List Res) (s : Ss) : Po := { nx := fun g l => g = G s ∧ l = R s, rt := fun _ _ => False }
def Rt (RT : Rr → Re) (r : Rr) : Po := { nx := fun _ _ => False, rt := (RT r).rt, ex := (RT r).ex }
/-- .. of a def that may run off its end -/
def Rv (RT : Rr → Re) (r : Rr) : Po := { nx := fun _ l => (RT r).rt .non l, rt := (RT r).rt, ex := (RT r).ex }
def Ou (RT : Rr → Re) (GL : Ll → Gm) (RL : Ll → List Res) (NX : Ss → Gm → List Res → Prop) : Cf Rr Ll Ss → Po
  | .nx s => { nx := NX s, rt := fun _ _ => False }
  | .rt r => { nx := fun _ _ => False, rt := (RT r).rt, ex := (RT r).ex }
  | .bk s => { nx := fun _ _ => False, rt := fun _ _ => False, bk := fun g l => g = GL s ∧ l = RL s }
  | .ct s => { nx := fun _ _ => False, rt := fun _ _ => False, ct := fun g l => g = GL s ∧ l = RL s }
abbrev NxP (G : Ss → Gm) (R : Ss → List Res) : Ss → Gm → List Res → Prop := fun s g l => g = G s ∧ l = R s
abbrev NoNx : Ss → Gm → List Res → Prop := fun _ _ _ => False
/-- the block sts, from g and l on, comes to what m tells by Om -/
def Bo (X : Cx) (W : WX) (sts : List Stmt) (g : Gm) (l : List Res) (Om : β → Po) (m : β) : Prop := Blk X W sts g l (Om m)
/-- what leaves by A leaves by B; A does not run through -/
structure Le0 (A B : Po) : Prop where
  nx : ∀ g l, ¬ A.nx g l
  rt : ∀ d l, A.rt d l → B.rt d l
  bk : ∀ g l, A.bk g l → B.bk g l
  ct : ∀ g l, A.ct g l → B.ct g l
  ex : ∀ c d g l, A.ex c d g l → B.ex c d g l
variable {Om : β → Po} {m m1 m2 : β} {k : α → β} {x0 : α} {b : Bool}
theorem Bo.weak {sts : List Stmt} (w : Wk g g') (h : Bo X W sts g' l Om m) : Bo X W sts g l Om m := Blk.weak w h
theorem Bo.perm {sts : List Stmt} (w : l.Perm l') (h : Bo X W sts g l' Om m) : Bo X W sts g l Om m := Blk.perm w h
/-- x = e -/
theorem bo_set {i : Nat} {x : Str} {pos' : Pos} (enc : α → D) (hN : X.N.Nodup) (hi : X.N[i]? = some x) (hx : Loc X.env.scope x) (he : Px X e g l (enc x0)) (h : ∀ y, y = x0 → Bo X W rest (g.set i (some (enc y))) l Om (k y))
    (hs : swapsWith e (some (.Name x pos')) pos.line X.env = pure false := by rfl) (hf : X.fn x = true ∨ X.env.scope.names.lookup x = some .local := by first | exact .inl rfl | exact .inr rfl | assumption) :
    Bo X W (.Assign [.Name x pos'] e pos :: rest) g l Om (lt x0 k) := blk_set hN hi hx he (h x0 rfl) hs hf
/-- x = e, a new list that x owns -/
theorem bo_setL {i : Nat} {x : Str} {pos' : Pos} {α : Type} {xs : List α} {k : List α → β} (enc : α → D) (hN : X.N.Nodup) (hi : X.N[i]? = some x) (hx : Loc X.env.scope x) (he : EvL X e g l (xs.map enc)) (h : ∀ p ys, ys = xs → Bo X W rest (g.set i (some (.adr p))) (ownL X.K p (ys.map enc) :: l) Om (k ys))
    (hs : swapsWith e (some (.Name x pos')) pos.line X.env = pure false := by rfl) (hf : X.fn x = true ∨ X.env.scope.names.lookup x = some .local := by first | exact .inl rfl | exact .inr rfl | assumption) :
    Bo X W (.Assign [.Name x pos'] e pos :: rest) g l Om (lt xs k) := blk_setX hN hi hx he (fun d l' ⟨p, e1, e2⟩ => by subst e1; subst e2; exact h p xs rfl) hs hf
/-- a target taken apart -/
theorem bo_asg {tg : Expr} {gt : TG} {is : List Nat} {es : List D} (he : Px X e g l d) (hg : PG X tg gt) (ht : Tg X.K gt is d es) (h : Bo X W rest (sets g is es) l Om m) (hs : swapsWithSole [tg] e pos.line X.env = pure false := by rfl) (hw : swappedStores [tg] e X.env = pure none := by rfl) (h1 : (assignEach [tg] X.env).map (·.2) = [assign tg X.env] := by rfl) :
    Bo X W (.Assign [tg] e pos :: rest) g l Om m := blk_asg he hg ht h hs hw h1
/-- x.append(e) -/
theorem bo_app {α : Type} {kk : Nat} {q : Addr} {apos cpos : Pos} {ys : List α} {v : α} {k : List α → β} (enc : α → D) (ho : Px X o g l (.adr q)) (hk : l[kk]? = some (ownL X.K q (ys.map enc))) (he : Px X e g l (enc v)) (hz : ys.length < 10000) (h : ∀ zs, zs = ys ++ [v] → Bo X W rest g (l.set kk (ownL X.K q (zs.map enc))) Om (k zs))
    (hp : PS X (.Expr (.Call (.Attribute o "append" apos) [e] [] cpos) pos) (tDrop (tBM X.K "list" rAppend (wpE X o) (tCons (wpE X e) tNil))) := by exact ps_expr (pe_bm PySem.F.plainAttrs_list PySem.F.slot_list_append PySem.F.type_list_append mt_append pe_wp (pa_cons pe_wp pa_nil))) :
    Bo X W (.Expr (.Call (.Attribute o "append" apos) [e] [] cpos) pos :: rest) g l Om (lt (ys ++ [v]) k) := by
  refine blk_add ho he hk (by rw [List.length_map]; exact Nat.lt_of_lt_of_le hz (by decide)) ?_ hp
  have := h _ rfl
  rw [List.map_append] at this
  exact this
/-- an expression that changes nothing, as a statement -/
theorem bo_do {e : Expr} (he : Px X e g l d) (h : Bo X W rest g l Om m) (hs : swapsWith e none pos.line X.env = pure false := by rfl) : Bo X W (.Expr e pos :: rest) g l Om m := blk_do he h hs
/-! ### ifs -/
/-- an if that is the last -/
theorem bo_if (hc : Ts X c g l b) (h1 : b = true → Bo X W A g l Om m1) (h2 : b = false → Bo X W B g l Om m2) : Bo X W [.If c A B pos] g l Om (cond b m1 m2) :=
  blk_if hc (fun e => by subst e; exact (h1 rfl).imp (fun _ _ h => blk_nil h) (fun _ _ h => h) (fun _ _ h => h) (fun _ _ h => h) (fun _ _ _ _ h => h)) (fun e => by subst e; exact (h2 rfl).imp (fun _ _ h => blk_nil h) (fun _ _ h => h) (fun _ _ h => h) (fun _ _ h => h) (fun _ _ _ _ h => h))
/-- an if whose first way does not run through -/
theorem bo_ifR {RT : Rr → Re} {r1 r2 : Rr} (hc : Ts X c g l b) (h1 : b = true → Bo X W A g l (Rt RT) r1) (h2 : b = false → Bo X W rest g l (Rt RT) r2) : Bo X W (.If c A [] pos :: rest) g l (Rt RT) (cond b r1 r2) :=
  blk_if hc (fun e => by subst e; exact (h1 rfl).imp (fun _ _ h => h.elim) (fun _ _ h => h) (fun _ _ h => h) (fun _ _ h => h) (fun _ _ _ _ h => h)) (fun e => by subst e; exact blk_nil (h2 rfl))
theorem bo_ifO {RT : Rr → Re} {GL : Ll → Gm} {RL : Ll → List Res} {NX : Ss → Gm → List Res → Prop} {o1 o2 : Cf Rr Ll Ss} (hc : Ts X c g l b) (h1 : b = true → Bo X W A g l (Ou RT GL RL NoNx) o1) (h2 : b = false → Bo X W rest g l (Ou RT GL RL NX) o2) : Bo X W (.If c A [] pos :: rest) g l (Ou RT GL RL NX) (cond b o1 o2) :=
  blk_if hc (fun e => by
    subst e
    have h1 := h1 rfl
    unfold Bo at h1
    cases o1 with
    | nx s => exact h1.imp (fun _ _ h => h.elim) (fun _ _ h => h.elim) (fun _ _ h => h.elim) (fun _ _ h => h.elim) (fun _ _ _ _ h => h.elim)
    | rt s => exact h1.imp (fun _ _ h => h.elim) (fun _ _ h => h) (fun _ _ h => h.elim) (fun _ _ h => h.elim) (fun _ _ _ _ h => h)
    | bk s => exact h1.imp (fun _ _ h => h.elim) (fun _ _ h => h.elim) (fun _ _ h => h) (fun _ _ h => h.elim) (fun _ _ _ _ h => h.elim)
    | ct s => exact h1.imp (fun _ _ h => h.elim) (fun _ _ h => h.elim) (fun _ _ h => h.elim) (fun _ _ h => h) (fun _ _ _ _ h => h.elim)) (fun e => by subst e; exact blk_nil (h2 rfl))
/-- the ways of an if meet -/
theorem bo_ifS {S1 : Type} {s1 s2 : S1} {k : S1 → β} (G : S1 → Gm) (R : S1 → List Res) (hc : Ts X c g l b) (h1 : b = true → Bo X W A g l (Nx G R) s1) (h2 : b = false → Bo X W B g l (Nx G R) s2) (h : ∀ s, s = cond b s1 s2 → Bo X W rest (G s) (R s) Om (k s)) : Bo X W (.If c A B pos :: rest) g l Om (lt (cond b s1 s2) k) :=
  blk_if hc (fun e => by
    subst e
    exact (h1 rfl).imp (fun g' l' ⟨w, q⟩ => by subst w; subst q; exact h s1 rfl) (fun _ _ h => h.elim) (fun _ _ h => h.elim) (fun _ _ h => h.elim) (fun _ _ _ _ h => h.elim)) (fun e => by
    subst e
    exact (h2 rfl).imp (fun g' l' ⟨w, q⟩ => by subst w; subst q; exact h s2 rfl) (fun _ _ h => h.elim) (fun _ _ h => h.elim) (fun _ _ h => h.elim) (fun _ _ _ _ h => h.elim))
/-! ### leaves -/
theorem bo_nx {G : Ss → Gm} {R : Ss → List Res} {s : Ss} (w : Wk g (G s)) (h : l = R s) : Bo X W [] g l (Nx G R) s := Blk.weak w (blk_nil ⟨rfl, h⟩)
theorem bo_nxO {RT : Rr → Re} {GL : Ll → Gm} {RL : Ll → List Res} {G : Ss → Gm} {R : Ss → List Res} {s : Ss} (w : Wk g (G s)) (h : l = R s) : Bo X W [] g l (Ou RT GL RL (NxP G R)) (.nx s) := Blk.weak w (blk_nil ⟨rfl, h⟩)
/-- what a def gives back: frozen; a new list -/
abbrev PuR (enc : Rr → D) : Rr → Re := fun r => { rt := fun d l => d = enc r ∧ l = [] }
abbrev FrR (K : PySem.W.Frag) (enc : α → D) : List α → Re := fun r => { rt := fun d l => ∃ p, d = .adr p ∧ l = [ownL K p (r.map enc)] }
theorem Px.drop (h : Px X e g l d) : Ev X e g l (fun d' l' => d' = d ∧ l' = []) := fun en T σ H Q s k => h en T σ H Q s fun v H' s' => k v d [] H' ⟨rfl, rfl⟩ (S.dropO (l' := l) (by rw [List.append_nil]; exact s'))
theorem bo_ret {enc : Rr → D} {r : Rr} (he : Px X e g l (enc r)) : Bo X W (.Return (some e) pos :: rest) g l (Rt (PuR enc)) r := blk_retX he.drop fun d l' h => h
theorem bo_retO {enc : Rr → D} {GL : Ll → Gm} {RL : Ll → List Res} {NX : Ss → Gm → List Res → Prop} {r : Rr} (he : Px X e g l (enc r)) : Bo X W (.Return (some e) pos :: rest) g l (Ou (PuR enc) GL RL NX) (.rt r) := blk_retX he.drop fun d l' h => h
theorem Ev.dropL {ds : List D} (h : EvL X e g l ds) : Ev X e g l (fun d' l' => ∃ p, d' = .adr p ∧ l' = [ownL X.K p ds]) := fun en T σ H Q s k => h en T σ H Q s fun v d l' H' ⟨p, e1, e2⟩ s' => by
  subst e1; subst e2
  exact k v _ _ H' ⟨p, rfl, rfl⟩ (S.dropO (l' := l) (S.perm (List.perm_append_comm (l₁ := [ownL X.K p ds]) (l₂ := l)) s'))
theorem bo_retL {α : Type} {enc : α → D} {r : List α} (he : EvL X e g l (r.map enc)) : Bo X W (.Return (some e) pos :: rest) g l (Rt (FrR X.K enc)) r := blk_retX he.dropL fun d l' h => h
/-- an owned list, as it stands, is given back -/
theorem ev_ownL {ds : List D} {kk : Nat} {q : Addr} (he : Px X e g l (.adr q)) (hk : l[kk]? = some (ownL X.K q ds)) : Ev X e g l (fun d' l' => ∃ p, d' = .adr p ∧ l' = [ownL X.K p ds]) := fun en T σ H Q s k => he en T σ H Q s fun v H' s' =>
  k v _ _ H' ⟨q, rfl, rfl⟩ (S.dropO (l' := l.eraseIdx kk) (S.perm ((perm_at hk).trans (List.perm_append_comm (l₁ := [ownL X.K q ds]) (l₂ := l.eraseIdx kk))) s'))
theorem bo_retW {α : Type} {enc : α → D} {r : List α} {kk : Nat} {q : Addr} (he : Px X e g l (.adr q)) (hk : l[kk]? = some (ownL X.K q (r.map enc))) : Bo X W (.Return (some e) pos :: rest) g l (Rt (FrR X.K enc)) r := blk_retX (ev_ownL he hk) fun d l' h => h
/-- an owned list is frozen -/
theorem bo_frz {sts : List Stmt} {q : Addr} {ds : List D} {i kk : Nat} (hi : nth g i = some (.adr q)) (hk : l[kk]? = some (ownL X.K q ds)) (h : Bo X W sts (g.set i (some (.lst ds))) (l.eraseIdx kk) Om m) : Bo X W sts g l Om m := Blk.perm (perm_at hk) (Blk.frz hi h)
theorem S.ownLd {K : PySem.W.Frag} {en : En} {T : Tm} {σ : L2.St} {H : Hp} {q : Addr} {ds : List D} {l : List Res} (s : S K en g (T.and K (.ref q) (.adr q)) (ownL K q ds :: l) σ H) : S K en g (T.and K (.ref q) (.lst ds)) l σ H := by
  obtain ⟨F, M, a⟩ := s
  obtain ⟨F', M', a', f, _⟩ := a.frz (P := fun F' => Fd K F' (.ref q) (.lst ds)) fun A hA => by
    obtain ⟨vs, f, rfl⟩ := hA
    have hF : F q = none := by
      obtain ⟨A, B, rfl, _, ⟨_, _, rfl⟩, _⟩ := a.rs
      exact a.dj.sym q _ (join_l one_same)
    exact .lst (by rw [join_r hF]; exact one_same) (FdAll.mono (fun x o h => join_l h) _ f)
  exact ⟨F', M', a'.tmp ⟨f, a'.tm.2⟩⟩
/-- an owned list is given back for good -/
theorem ev_retF {ds : List D} {kk : Nat} {q : Addr} (he : Px X e g l (.adr q)) (hk : l[kk]? = some (ownL X.K q ds)) : Ev X e g l (fun d' l' => d' = .lst ds ∧ l' = []) := fun en T σ H Q s k => he en T σ H Q s fun v H' s' => by
  obtain ⟨F, M, a⟩ := id s'
  have fv := a.tm.1
  cases fv
  have s2 := (S.perm (perm_at hk) s').ownLd
  exact k _ _ _ H' ⟨rfl, rfl⟩ (S.dropO (l' := l.eraseIdx kk) (by rw [List.append_nil]; exact s2))
theorem bo_retF {α : Type} {enc : α → D} {r : List α} {kk : Nat} {q : Addr} (he : Px X e g l (.adr q)) (hk : l[kk]? = some (ownL X.K q (r.map enc))) : Bo X W (.Return (some e) pos :: rest) g l (Rt (PuR (fun r : List α => D.lst (r.map enc)))) r := blk_retX (ev_retF he hk) fun d l' h => h
/-! ### loops -/
theorem loop_step {step : S1 → α → Cf Rr S1 S1} {xs : List α} {i : Nat} {x : α} {s : S1} (h : xs[i]? = some x) : (loop step (xs.drop i) s : Cf Rr Ll S1) = match step s x with
    | .nx s' => loop step (xs.drop (i + 1)) s' | .ct s' => loop step (xs.drop (i + 1)) s' | .bk s' => .nx s' | .rt r => .rt r := by
  obtain ⟨hl, e⟩ := List.getElem?_eq_some_iff.mp h
  rw [List.drop_eq_getElem_cons hl, e]
  rfl
theorem loop_end {step : S1 → α → Cf Rr S1 S1} {xs : List α} {s : S1} : (loop step (xs.drop xs.length) s : Cf Rr Ll S1) = .nx s := by
  rw [List.drop_length]; rfl
theorem bo_for {tg iter : Expr} {lk : List Res} {gt : TG} {is : List Nat} {xs : List α} {step : S1 → α → S1} {s0 : S1} {k : S1 → β} (enc : α → D) (G : S1 → Gm) (R : S1 → List Res) (J : Nat → S1 → Prop) (hp : PassesOwn (model X.prog X.w) X.A X.env X.xe) (hc : X.calm = true) (hi : ItwP X tg iter g l lk (xs.map enc)) (hg : PG X tg gt)
    (h0 : Wk g (G s0)) (hl : l = R s0) (j0 : J 0 s0)
    (hs : ∀ i x s, xs[i]? = some x → s = (xs.take i).foldl step s0 → J i s → J (i + 1) (step s x) ∧ ∃ es, Tg X.K gt is (enc x) es ∧ Bo X W body (sets (G s) is es) (R s) (Nx G R) (step s x))
    (h : ∀ s, s = xs.foldl step s0 → J xs.length s → Bo X W rest (G s) (R s) Om (k s)) (hf : ∀ x, foldedSetIterable iter X.env x = pure x := by intro _; rfl) (hk : ∀ s, SubR (R s) lk := by intro s; first | exact subr0 | exact subr1 0 rfl | exact subr1 1 rfl | exact subr1 2 rfl | exact subr1 3 rfl | exact subr1 4 rfl | exact subr1 5 rfl | exact subr2 0 0 rfl rfl | exact subr2 1 0 rfl rfl | exact subr2 0 1 rfl rfl | exact subr2 1 1 rfl rfl | exact subr2 2 0 rfl rfl | exact subr2 2 1 rfl rfl) : Bo X W (.For tg iter body [] pos :: rest) g l Om (lt (xs.foldl step s0) k) := by
  subst hl
  refine blk_for (is := is) (fun i g' l' => (i = 0 ∧ g' = g ∧ l' = R s0) ∨ ∃ s, s = (xs.take i).foldl step s0 ∧ J i s ∧ g' = G s ∧ l' = R s) hp hc hi hg (.inl ⟨rfl, rfl, rfl⟩) (fun i d g' l' hd hI => ?_) (fun g' l' hI => ?_) hf (fun i g' l' hI => by
      rcases hI with ⟨_, _, rfl⟩ | ⟨s, _, _, _, rfl⟩
      · exact hk _
      · exact hk _)
  · rw [List.getElem?_map] at hd
    cases q : xs[i]? with
    | none => rw [q] at hd; cases hd
    | some x =>
      rw [q] at hd
      cases hd
      obtain ⟨s, e1, e2, e3, e4⟩ : ∃ s, s = (xs.take i).foldl step s0 ∧ J i s ∧ Wk g' (G s) ∧ l' = R s := by
        rcases hI with ⟨rfl, rfl, rfl⟩ | ⟨s, h1, h2, rfl, rfl⟩
        · exact ⟨s0, rfl, j0, h0, rfl⟩
        · exact ⟨s, h1, h2, .rf, rfl⟩
      subst e4
      obtain ⟨h1, es, h2, h3⟩ := hs i x s q e1 e2
      have tk : (xs.take (i + 1)).foldl step s0 = step s x := by
        rw [List.take_add_one, q, List.foldl_append, ← e1]; rfl
      exact ⟨es, h2, Blk.weak e3.sets (h3.imp (fun g2 l2 ⟨w, q2⟩ => .inr ⟨_, tk.symm, h1, w, q2⟩) (fun _ _ h => h.elim) (fun _ _ h => h.elim) (fun _ _ h => h.elim) (fun _ _ _ _ h => h.elim))⟩
  · rw [List.length_map] at hI
    obtain ⟨s, e1, e2, e3, e4⟩ : ∃ s, s = xs.foldl step s0 ∧ J xs.length s ∧ Wk g' (G s) ∧ l' = R s := by
      rcases hI with ⟨h1, rfl, rfl⟩ | ⟨s, h1, h2, rfl, rfl⟩
      · have : xs = [] := List.eq_nil_of_length_eq_zero h1
        subst this
        exact ⟨s0, rfl, j0, h0, rfl⟩
      · rw [List.take_length] at h1
        exact ⟨s, h1, h2, .rf, rfl⟩
    subst e4
    have z := h s e1 e2
    rw [e1] at z
    refine Blk.weak (g' := G s) e3 ?_
    rw [e1]
    exact z
theorem bo_forV {RT : Rr → Re} {tg iter : Expr} {lk : List Res} {gt : TG} {is : List Nat} {xs : List α} {step : S1 → α → Cf Rr S1 S1} {s0 : S1} {k : S1 → Rr} (enc : α → D) (G : S1 → Gm) (R : S1 → List Res) (J : Nat → S1 → Prop) (Jb : S1 → Prop) (hp : PassesOwn (model X.prog X.w) X.A X.env X.xe) (hc : X.calm = true) (hi : ItwP X tg iter g l lk (xs.map enc)) (hg : PG X tg gt)
    (h0 : Wk g (G s0)) (hl : l = R s0) (j0 : J 0 s0)
    (hs : ∀ i x s, xs[i]? = some x → (loop step (xs.drop i) s : Cf Rr Empty S1) = loop step xs s0 → J i s → ((∀ s', step s x = .nx s' → J (i + 1) s') ∧ (∀ s', step s x = .ct s' → J (i + 1) s') ∧ ∀ s', step s x = .bk s' → Jb s') ∧ ∃ es, Tg X.K gt is (enc x) es ∧ Bo X W body (sets (G s) is es) (R s) (Ou RT G R (NxP G R)) (step s x))
    (jb : ∀ s, J xs.length s → Jb s) (h : ∀ s, (loop step xs s0 : Cf Rr Empty S1) = .nx s → Jb s → Bo X W rest (G s) (R s) (Rt RT) (k s)) (hf : ∀ x, foldedSetIterable iter X.env x = pure x := by intro _; rfl) (hk : ∀ s, SubR (R s) lk := by intro s; first | exact subr0 | exact subr1 0 rfl | exact subr1 1 rfl | exact subr1 2 rfl | exact subr1 3 rfl | exact subr1 4 rfl | exact subr1 5 rfl | exact subr2 0 0 rfl rfl | exact subr2 1 0 rfl rfl | exact subr2 0 1 rfl rfl | exact subr2 1 1 rfl rfl | exact subr2 2 0 rfl rfl | exact subr2 2 1 rfl rfl) : Bo X W (.For tg iter body [] pos :: rest) g l (Rt RT) (bndV (loop step xs s0) k) := by
  subst hl
  refine blk_for (is := is) (fun i g' l' => (i = 0 ∧ g' = g ∧ l' = R s0) ∨ ∃ s, (loop step (xs.drop i) s : Cf Rr Empty S1) = loop step xs s0 ∧ J i s ∧ g' = G s ∧ l' = R s) hp hc hi hg (.inl ⟨rfl, rfl, rfl⟩) (fun i d g' l' hd hI => ?_) (fun g' l' hI => ?_) hf (fun i g' l' hI => by
      rcases hI with ⟨_, _, rfl⟩ | ⟨s, _, _, _, rfl⟩
      · exact hk _
      · exact hk _)
  · rw [List.getElem?_map] at hd
    cases q : xs[i]? with
    | none => rw [q] at hd; cases hd
    | some x =>
      rw [q] at hd
      cases hd
      obtain ⟨s, e1, e2, e3, e4⟩ : ∃ s, (loop step (xs.drop i) s : Cf Rr Empty S1) = loop step xs s0 ∧ J i s ∧ Wk g' (G s) ∧ l' = R s := by
        rcases hI with ⟨rfl, rfl, rfl⟩ | ⟨s, h1, h2, rfl, rfl⟩
        · exact ⟨s0, rfl, j0, h0, rfl⟩
        · exact ⟨s, h1, h2, .rf, rfl⟩
      subst e4
      obtain ⟨⟨h1, h1', h1b⟩, es, h2, h3⟩ := hs i x s q e1 e2
      refine ⟨es, h2, ?_⟩
      rw [loop_step q] at e1
      refine Blk.weak e3.sets ?_
      unfold Bo at h3
      generalize step s x = o at e1 h1 h1' h1b h3
      cases o with
      | nx s' => exact h3.imp (fun g2 l2 h => .inr ⟨s', e1, h1 s' rfl, h.1, h.2⟩) (fun _ _ h => h.elim) (fun _ _ h => h.elim) (fun _ _ h => h.elim) (fun _ _ _ _ h => h.elim)
      | ct s' => exact h3.imp (fun g2 l2 h => h.elim) (fun _ _ h => h.elim) (fun _ _ h => h.elim) (fun _ _ h => .inr ⟨s', e1, h1' s' rfl, h.1, h.2⟩) (fun _ _ _ _ h => h.elim)
      | rt r =>
        have e1 : (.rt r : Cf Rr Empty S1) = loop step xs s0 := e1
        rw [← e1]
        exact h3.imp (fun g2 l2 h => h.elim) (fun _ _ h => h) (fun _ _ h => h.elim) (fun _ _ h => h.elim) (fun _ _ _ _ h => h)
      | bk s' =>
        have e1 : (.nx s' : Cf Rr Empty S1) = loop step xs s0 := e1
        have z := h s' e1.symm (h1b s' rfl)
        rw [← e1]
        exact h3.imp (fun g2 l2 h => h.elim) (fun _ _ h => h.elim) (fun g2 l2 hh => by obtain ⟨w, q2⟩ := hh; subst w; subst q2; exact z) (fun _ _ h => h.elim) (fun _ _ _ _ h => h.elim)
  · rw [List.length_map] at hI
    obtain ⟨s, e1, e2, e3, e4⟩ : ∃ s, (loop step (xs.drop xs.length) s : Cf Rr Empty S1) = loop step xs s0 ∧ J xs.length s ∧ Wk g' (G s) ∧ l' = R s := by
      rcases hI with ⟨h1, rfl, rfl⟩ | ⟨s, h1, h2, rfl, rfl⟩
      · have : xs = [] := List.eq_nil_of_length_eq_zero h1
        subst this
        exact ⟨s0, rfl, j0, h0, rfl⟩
      · exact ⟨s, h1, h2, .rf, rfl⟩
    rw [loop_end] at e1
    subst e4
    have z := h s e1.symm (jb s e2)
    refine Blk.weak (g' := G s) e3 ?_
    rw [← e1]
    exact z
theorem bo_while {cb : S1 → Bool} {step : S1 → S1} {n0 : Nat} {s0 : S1} {k : S1 → β} (G : S1 → Gm) (R : S1 → List Res) (J : Nat → S1 → Prop) (hp : PassesOwn (model X.prog X.w) X.A X.env X.xe)
    (h0 : Wk g (G s0)) (hl : l = R s0) (j0 : J n0 s0)
    (hs : ∀ n s, J n s → Ts X c (G s) (R s) (cb s) ∧ (cb s = true → ∃ n', n = n' + 1 ∧ J n' (step s) ∧ Bo X W body (G s) (R s) (Nx G R) (step s)))
    (h : ∀ n s, s = whileF cb step n0 s0 → J n s → cb s = false → Bo X W rest (G s) (R s) Om (k s)) : Bo X W (.While c body [] pos :: rest) g l Om (lt (whileF cb step n0 s0) k) := by
  subst hl
  refine Blk.weak h0 ?_
  refine blk_while (fun n g' l' => ∃ s, whileF cb step n s = whileF cb step n0 s0 ∧ J n s ∧ g' = G s ∧ l' = R s) hp n0 ⟨s0, rfl, j0, rfl, rfl⟩ fun n g' l' ⟨s, e1, e2, e3, e4⟩ => ?_
  subst e3; subst e4
  obtain ⟨h1, h2⟩ := hs n s e2
  refine ⟨cb s, h1, fun hb => ?_, fun hb => ?_⟩
  · obtain ⟨n', rfl, j, bo⟩ := h2 hb
    have e : whileF cb step (n' + 1) s = whileF cb step n' (step s) := by show cond (cb s) _ _ = _; rw [hb]; rfl
    rw [e] at e1
    exact bo.imp (fun g2 l2 h => ⟨n', Nat.lt_succ_self _, _, e1, j, h.1, h.2⟩) (fun _ _ h => h.elim) (fun _ _ h => h.elim) (fun _ _ h => h.elim) (fun _ _ _ _ h => h.elim)
  · have e : whileF cb step n s = s := by
      cases n with
      | zero => rfl
      | succ n => show cond (cb s) _ _ = _; rw [hb]; rfl
    rw [e] at e1
    have z := h n s e1 e2 hb
    rw [e1] at z
    rw [e1]
    exact z
end
end Sx
set_option Elab.async false
set_option linter.all false
set_option maxRecDepth 100000
set_option maxHeartbeats 2000000
/-! Models: what is walked, comprehensions, things got from lists. -/
namespace Sx
open PySem L2
section
variable {X : Cx} {W : WX} {g g' : Gm} {l l' : List Res} {e e2 c o : Expr} {d d1 d2 : D} {pos p p2 : Pos} {rest A B body : List Stmt}
variable {α β γ : Type}
theorem Itw.to {lk : List Res} {tg iter : Expr} {ds ds' : List D} (h : ItwP X tg iter g l lk ds) (q : ds = ds') : ItwP X tg iter g l lk ds' := q ▸ h
/-- the whole numbers from lo on -/
def rngI (lo : Int) (n : Nat) : List Int := (List.range n).map fun i : Nat => lo + (i : Int)
theorem rngI_map {lo : Int} {n : Nat} : rng lo n = (rngI lo n).map D.int := by unfold rng rngI; rw [List.map_map]; rfl
theorem rngI_len {lo : Int} {n : Nat} : (rngI lo n).length = n := by unfold rngI; rw [List.length_map, List.length_range]
theorem rngI_get {lo : Int} {n i : Nat} {x : Int} (h : (rngI lo n)[i]? = some x) : i < n ∧ x = lo + (i : Int) := by
  unfold rngI at h
  rw [List.getElem?_map] at h
  obtain ⟨j, h1, h2⟩ := Option.map_eq_some_iff.mp h
  obtain ⟨h3, h4⟩ := List.getElem?_eq_some_iff.mp h1
  rw [List.length_range] at h3
  rw [List.getElem_range] at h4
  subst h4
  exact ⟨h3, h2.symm⟩
def enumI (xs : List α) : List (Int × α) := xs.zipIdx.map fun q => ((q.2 : Int), q.1)
theorem enumI_map {xs : List α} {enc : α → D} : enumD (xs.map enc) = (enumI xs).map fun q => D.tup [.int q.1, enc q.2] := by
  unfold enumD enumI
  rw [List.map_map, List.zipIdx_map, List.map_map]
  rfl
theorem enumI_len {xs : List α} : (enumI xs).length = xs.length := by unfold enumI; rw [List.length_map, List.length_zipIdx]
theorem enumI_get {xs : List α} {i : Nat} {x : Int × α} (h : (enumI xs)[i]? = some x) : x.1 = (i : Int) ∧ xs[i]? = some x.2 := by
  unfold enumI at h
  rw [List.getElem?_map, List.getElem?_zipIdx] at h
  cases q : xs[i]? with
  | none => rw [q] at h; cases h
  | some y =>
    rw [q] at h
    cases h
    exact ⟨by simp, rfl⟩
theorem zip_map {xs : List α} {ys : List β} {e1 : α → D} {e2 : β → D} : zipD (xs.map e1) (ys.map e2) = (xs.zip ys).map fun q => D.tup [e1 q.1, e2 q.2] := by
  unfold zipD
  rw [List.zip_map, List.map_map]
  rfl
theorem zip_get {xs : List α} {ys : List β} {i : Nat} {x : α × β} (h : (xs.zip ys)[i]? = some x) : xs[i]? = some x.1 ∧ ys[i]? = some x.2 := List.getElem?_zip_eq_some.mp h
def oneC (c : Nat) : Str := ⟨#[c]⟩
theorem cut_map {f : α → β} {xs : List α} {lo hi : Option Int} : cut (xs.map f) lo hi = (cut xs lo hi).map f := by
  unfold cut
  rw [List.length_map, List.map_take, List.map_drop]
theorem cut_len {xs : List α} {lo hi : Option Int} : (cut xs lo hi).length ≤ xs.length := by
  unfold cut
  rw [List.length_take, List.length_drop]
  omega
theorem cut_mem {xs : List α} {lo hi : Option Int} {x : α} (h : x ∈ cut xs lo hi) : x ∈ xs := by
  unfold cut at h
  exact List.mem_of_mem_drop (List.mem_of_mem_take h)
/-- what stands at a place, counted from the end where it is below nought -/
def pyAt (xs : List α) (i : Int) (x0 : α) : α := xs.getD (if i < 0 then i + (xs.length : Int) else i).toNat x0
/-! ### comprehensions -/
theorem ev_lcM {tg iter elt : Expr} {scope : Scope} {own : List (Str × Nat)} {lk : List Res} {gt : TG} {is : List Nat} {xs : List α} (enc : α → D) (encR : β → D) (F : α → β) (hc : X.calm = true) (hN : X.N.Nodup) (hi : ItwP X tg iter g l lk (xs.map enc)) (ok : BlkOk X.N X.env.scope scope own)
    (hg : Blkc X scope fun Y => PG Y tg gt) (his : ∀ i ∈ is, i ∈ own.map (·.2)) (hz : xs.length ≤ 10000)
    (hs : ∀ (i : Nat) (x : α), xs[i]? = some x → ∃ es, Tg X.K gt is (enc x) es ∧ Blkc X scope fun Y => Px Y elt (sets (wipeG g (own.map (·.2))) is es) l (encR (F x))) (hf : ∀ x, foldedSetIterable iter X.env x = pure x := by intro _; rfl) (hk : SubR l lk := by first | exact subr0 | exact subr1 0 rfl | exact subr1 1 rfl | exact subr1 2 rfl | exact subr1 3 rfl | exact subr1 4 rfl | exact subr1 5 rfl | exact subr2 0 0 rfl rfl | exact subr2 1 0 rfl rfl | exact subr2 0 1 rfl rfl | exact subr2 1 1 rfl rfl | exact subr2 2 0 rfl rfl | exact subr2 2 1 rfl rfl) :
    EvL X (.ListComp elt [⟨tg, iter, [], 0⟩] scope pos) g l ((xs.map F).map encR) :=
  ev_lc (rs := (xs.map F).map encR) hc hN hi ok hg his (by simp) (by rw [List.length_map, List.length_map]; exact Nat.le_trans hz (by decide)) (fun i d hd => by
    rw [List.getElem?_map] at hd
    obtain ⟨x, hx, rfl⟩ := Option.map_eq_some_iff.mp hd
    obtain ⟨es, h1, h2⟩ := hs i x hx
    exact ⟨es, _, h1, by rw [List.getElem?_map, List.getElem?_map, hx]; rfl, h2⟩) hf hk
theorem px_lcM {tg iter elt : Expr} {scope : Scope} {own : List (Str × Nat)} {lk : List Res} {gt : TG} {is : List Nat} {xs : List α} (enc : α → D) (encR : β → D) (F : α → β) (hc : X.calm = true) (hN : X.N.Nodup) (hi : ItwP X tg iter g l lk (xs.map enc)) (ok : BlkOk X.N X.env.scope scope own)
    (hg : Blkc X scope fun Y => PG Y tg gt) (his : ∀ i ∈ is, i ∈ own.map (·.2)) (hz : xs.length ≤ 10000)
    (hs : ∀ (i : Nat) (x : α), xs[i]? = some x → ∃ es, Tg X.K gt is (enc x) es ∧ Blkc X scope fun Y => Px Y elt (sets (wipeG g (own.map (·.2))) is es) l (encR (F x))) (hf : ∀ x, foldedSetIterable iter X.env x = pure x := by intro _; rfl) (hk : SubR l lk := by first | exact subr0 | exact subr1 0 rfl | exact subr1 1 rfl | exact subr1 2 rfl | exact subr1 3 rfl | exact subr1 4 rfl | exact subr1 5 rfl | exact subr2 0 0 rfl rfl | exact subr2 1 0 rfl rfl | exact subr2 0 1 rfl rfl | exact subr2 1 1 rfl rfl | exact subr2 2 0 rfl rfl | exact subr2 2 1 rfl rfl) :
    Px X (.ListComp elt [⟨tg, iter, [], 0⟩] scope pos) g l (.lst ((xs.map F).map encR)) := (ev_lcM enc encR F hc hN hi ok hg his hz hs hf hk).frz
theorem keepL_filt {xs : List α} {F : α → β} {encR : β → D} {cb : α → Bool} : keepL (xs.map fun x => if cb x = true then some (encR (F x)) else none) = ((xs.filter cb).map F).map encR := by
  induction xs with
  | nil => rfl
  | cons x xs ih =>
    rw [List.map_cons, List.filter_cons]
    cases h : cb x with
    | true =>
      rw [if_pos rfl, if_pos rfl, List.map_cons, List.map_cons, ← ih]
      rfl
    | false =>
      rw [if_neg (by simp), if_neg (by simp), ← ih]
      rfl
variable {S1 : Type} {Om : S1 → Po}
/-- x = [..], on one line; (f: x is not changed behind it) -/
theorem bo_lcL {tg iter elt : Expr} {scope : Scope} {own : List (Str × Nat)} {lk : List Res} {gt : TG} {is : List Nat} {xs : List α} {i : Nat} {y : Str} {py spos : Pos} {k : List β → S1} (enc : α → D) (encR : β → D) (F : α → β) (hN : X.N.Nodup) (hy : X.N[i]? = some y) (hyl : X.env.scope.names.lookup y = some .local) (hc : X.calm = true) (hi : ItwP X tg iter g l lk (xs.map enc)) (ok : BlkOk X.N X.env.scope scope own)
    (hg : Blkc X scope fun Y => PG Y tg gt) (his : ∀ i ∈ is, i ∈ own.map (·.2)) (hz : xs.length ≤ 10000)
    (hs : ∀ (i : Nat) (x : α), xs[i]? = some x → ∃ es, Tg X.K gt is (enc x) es ∧ Blkc X scope fun Y => Px Y elt (sets (wipeG g (own.map (·.2))) is es) l (encR (F x)))
    (h : ∀ p ys, ys = xs.map F → Bo X W rest (g.set i (some (.adr p))) (ownL X.K p (ys.map encR) :: l) Om (k ys))
    (hsw : swapsWith (.ListComp elt [⟨tg, iter, [], 0⟩] scope pos) (some (.Name y py)) spos.line X.env = pure true := by rfl) (hf : ∀ x, foldedSetIterable iter X.env x = pure x := by intro _; rfl) (hk : SubR l lk := by first | exact subr0 | exact subr1 0 rfl | exact subr1 1 rfl | exact subr1 2 rfl | exact subr1 3 rfl | exact subr1 4 rfl | exact subr1 5 rfl | exact subr2 0 0 rfl rfl | exact subr2 1 0 rfl rfl | exact subr2 0 1 rfl rfl | exact subr2 1 1 rfl rfl | exact subr2 2 0 rfl rfl | exact subr2 2 1 rfl rfl) : Bo X W (.Assign [.Name y py] (.ListComp elt [⟨tg, iter, [], 0⟩] scope pos) spos :: rest) g l Om (lt (xs.map F) k) :=
  blk_setLcO (rs := (xs.map F).map encR) hc hN hy hyl hsw hi ok hg his (by simp) (by rw [List.length_map, List.length_map]; exact Nat.le_trans hz (by decide)) (fun i d hd => by
    rw [List.getElem?_map] at hd
    obtain ⟨x, hx, rfl⟩ := Option.map_eq_some_iff.mp hd
    obtain ⟨es, h1, h2⟩ := hs i x hx
    exact ⟨es, _, h1, by rw [List.getElem?_map, List.getElem?_map, hx]; rfl, h2⟩) (fun p => h p _ rfl) hf hk
theorem bo_lcLF {tg iter elt c : Expr} {scope : Scope} {own : List (Str × Nat)} {lk : List Res} {gt : TG} {is : List Nat} {xs : List α} {i : Nat} {y : Str} {py spos : Pos} {k : List β → S1} (enc : α → D) (encR : β → D) (cb : α → Bool) (F : α → β) (hN : X.N.Nodup) (hy : X.N[i]? = some y) (hyl : X.env.scope.names.lookup y = some .local) (hc : X.calm = true) (hi : ItwP X tg iter g l lk (xs.map enc)) (ok : BlkOk X.N X.env.scope scope own)
    (hg : Blkc X scope fun Y => PG Y tg gt) (his : ∀ i ∈ is, i ∈ own.map (·.2)) (hz : xs.length ≤ 10000)
    (hs : ∀ (i : Nat) (x : α), xs[i]? = some x → ∃ es, Tg X.K gt is (enc x) es ∧ (Blkc X scope fun Y => Ts Y c (sets (wipeG g (own.map (·.2))) is es) l (cb x)) ∧ (cb x = true → Blkc X scope fun Y => Px Y elt (sets (wipeG g (own.map (·.2))) is es) l (encR (F x))))
    (h : ∀ p ys, ys = (xs.filter cb).map F → Bo X W rest (g.set i (some (.adr p))) (ownL X.K p (ys.map encR) :: l) Om (k ys))
    (hsw : swapsWith (.ListComp elt [⟨tg, iter, [c], 0⟩] scope pos) (some (.Name y py)) spos.line X.env = pure true := by rfl) (hf : ∀ x, foldedSetIterable iter X.env x = pure x := by intro _; rfl) (hk : SubR l lk := by first | exact subr0 | exact subr1 0 rfl | exact subr1 1 rfl | exact subr1 2 rfl | exact subr1 3 rfl | exact subr1 4 rfl | exact subr1 5 rfl | exact subr2 0 0 rfl rfl | exact subr2 1 0 rfl rfl | exact subr2 0 1 rfl rfl | exact subr2 1 1 rfl rfl | exact subr2 2 0 rfl rfl | exact subr2 2 1 rfl rfl) : Bo X W (.Assign [.Name y py] (.ListComp elt [⟨tg, iter, [c], 0⟩] scope pos) spos :: rest) g l Om (lt ((xs.filter cb).map F) k) :=
  blk_setLcIfO (rs := xs.map fun x => if cb x = true then some (encR (F x)) else none) hc hN hy hyl hsw hi ok hg his (by simp) (by rw [List.length_map]; exact Nat.le_trans hz (by decide)) (fun i d hd => by
    rw [List.getElem?_map] at hd
    obtain ⟨x, hx, rfl⟩ := Option.map_eq_some_iff.mp hd
    obtain ⟨es, h1, h2, h3⟩ := hs i x hx
    exact ⟨es, cb x, encR (F x), h1, by rw [List.getElem?_map, hx]; rfl, h2, h3⟩) (fun p => by rw [keepL_filt]; exact h p _ rfl) hf hk
theorem bo_lc {tg iter elt : Expr} {scope : Scope} {own : List (Str × Nat)} {lk : List Res} {gt : TG} {is : List Nat} {xs : List α} {i : Nat} {y : Str} {py spos : Pos} {k : List β → S1} (enc : α → D) (encR : β → D) (F : α → β) (hN : X.N.Nodup) (hy : X.N[i]? = some y) (hyl : X.env.scope.names.lookup y = some .local) (hil : i < g.length) (hc : X.calm = true) (hi : ItwP X tg iter g l lk (xs.map enc)) (ok : BlkOk X.N X.env.scope scope own)
    (hg : Blkc X scope fun Y => PG Y tg gt) (his : ∀ i ∈ is, i ∈ own.map (·.2)) (hz : xs.length ≤ 10000)
    (hs : ∀ (i : Nat) (x : α), xs[i]? = some x → ∃ es, Tg X.K gt is (enc x) es ∧ Blkc X scope fun Y => Px Y elt (sets (wipeG g (own.map (·.2))) is es) l (encR (F x)))
    (h : ∀ ys, ys = xs.map F → Bo X W rest (g.set i (some (.lst (ys.map encR)))) l Om (k ys))
    (hsw : swapsWith (.ListComp elt [⟨tg, iter, [], 0⟩] scope pos) (some (.Name y py)) spos.line X.env = pure true := by rfl) (hf : ∀ x, foldedSetIterable iter X.env x = pure x := by intro _; rfl) (hk : SubR l lk := by first | exact subr0 | exact subr1 0 rfl | exact subr1 1 rfl | exact subr1 2 rfl | exact subr1 3 rfl | exact subr1 4 rfl | exact subr1 5 rfl | exact subr2 0 0 rfl rfl | exact subr2 1 0 rfl rfl | exact subr2 0 1 rfl rfl | exact subr2 1 1 rfl rfl | exact subr2 2 0 rfl rfl | exact subr2 2 1 rfl rfl) : Bo X W (.Assign [.Name y py] (.ListComp elt [⟨tg, iter, [], 0⟩] scope pos) spos :: rest) g l Om (lt (xs.map F) k) :=
  bo_lcL enc encR F hN hy hyl hc hi ok hg his hz hs (fun p ys e => Blk.frz' hil (h ys e)) hsw hf hk
theorem bo_lcF {tg iter elt c : Expr} {scope : Scope} {own : List (Str × Nat)} {lk : List Res} {gt : TG} {is : List Nat} {xs : List α} {i : Nat} {y : Str} {py spos : Pos} {k : List β → S1} (enc : α → D) (encR : β → D) (cb : α → Bool) (F : α → β) (hN : X.N.Nodup) (hy : X.N[i]? = some y) (hyl : X.env.scope.names.lookup y = some .local) (hil : i < g.length) (hc : X.calm = true) (hi : ItwP X tg iter g l lk (xs.map enc)) (ok : BlkOk X.N X.env.scope scope own)
    (hg : Blkc X scope fun Y => PG Y tg gt) (his : ∀ i ∈ is, i ∈ own.map (·.2)) (hz : xs.length ≤ 10000)
    (hs : ∀ (i : Nat) (x : α), xs[i]? = some x → ∃ es, Tg X.K gt is (enc x) es ∧ (Blkc X scope fun Y => Ts Y c (sets (wipeG g (own.map (·.2))) is es) l (cb x)) ∧ (cb x = true → Blkc X scope fun Y => Px Y elt (sets (wipeG g (own.map (·.2))) is es) l (encR (F x))))
    (h : ∀ ys, ys = (xs.filter cb).map F → Bo X W rest (g.set i (some (.lst (ys.map encR)))) l Om (k ys))
    (hsw : swapsWith (.ListComp elt [⟨tg, iter, [c], 0⟩] scope pos) (some (.Name y py)) spos.line X.env = pure true := by rfl) (hf : ∀ x, foldedSetIterable iter X.env x = pure x := by intro _; rfl) (hk : SubR l lk := by first | exact subr0 | exact subr1 0 rfl | exact subr1 1 rfl | exact subr1 2 rfl | exact subr1 3 rfl | exact subr1 4 rfl | exact subr1 5 rfl | exact subr2 0 0 rfl rfl | exact subr2 1 0 rfl rfl | exact subr2 0 1 rfl rfl | exact subr2 1 1 rfl rfl | exact subr2 2 0 rfl rfl | exact subr2 2 1 rfl rfl) : Bo X W (.Assign [.Name y py] (.ListComp elt [⟨tg, iter, [c], 0⟩] scope pos) spos :: rest) g l Om (lt ((xs.filter cb).map F) k) :=
  bo_lcLF enc encR cb F hN hy hyl hc hi ok hg his hz hs (fun p ys e => Blk.frz' hil (h ys e)) hsw hf hk
/-! ### optional things -/
def optE (f : α → D) : Option α → D
  | none => .non
  | some x => f x
theorem optE_non {f : α → D} (hf : ∀ x, (f x).isNon = false) (o : Option α) : (optE f o).isNon = o.isNone := by cases o with | none => rfl | some x => exact hf x
end
end Sx
set_option Elab.async false
set_option linter.all false
set_option maxRecDepth 100000
set_option maxHeartbeats 2000000
/-! Operations over encoded things, as the walker (walk.py) names them. -/
namespace Sx
open PySem L2
section
variable {X : Cx} {W : WX} {g g' : Gm} {l l' : List Res} {e e2 c a b o : Expr} {d d1 d2 : D} {pos p p2 : Pos} {rest A B body : List Stmt} {es : List Expr}
variable {α β γ : Type} {xs ys : List α} {enc : α → D} {K : PySem.W.Frag}
abbrev lstE (f : α → D) (xs : List α) : D := .lst (xs.map f)
abbrev tlE (f : α → D) (xs : List α) : D := .tup (xs.map f)
theorem ev_catM (enc : α → D) (ha : Px X a g l d1) (hb : Px X b g l d2) (h1 : Lv X.K l d1 (xs.map enc)) (h2 : Lv X.K l d2 (ys.map enc)) (hz : xs.length + ys.length ≤ 10000) : EvL X (.BinOp a .Add b pos) g l ((xs ++ ys).map enc) := by
  rw [List.map_append]
  exact ev_cat ha hb h1 h2 (by rw [List.length_map, List.length_map]; exact Nat.le_trans hz (by decide))
theorem px_catM (enc : α → D) (ha : Px X a g l d1) (hb : Px X b g l d2) (h1 : Lv X.K l d1 (xs.map enc)) (h2 : Lv X.K l d2 (ys.map enc)) (hz : xs.length + ys.length ≤ 10000) : Px X (.BinOp a .Add b pos) g l (lstE enc (xs ++ ys)) := (ev_catM enc ha hb h1 h2 hz).frz
theorem ev_slM (enc : α → D) {lo hi : Option Expr} {i j : Option Int} (ho : Px X o g l d) (hd : Lq X.K l d (xs.map enc)) (hl : Pz X lo g l i) (hu : Pz X hi g l j) : EvL X (.Subscript o (.Slice lo hi none p2) pos) g l ((cut xs i j).map enc) := by
  rw [← cut_map]; exact ev_slL ho hd hl hu
theorem px_slM (enc : α → D) {lo hi : Option Expr} {i j : Option Int} (ho : Px X o g l d) (hd : Lq X.K l d (xs.map enc)) (hl : Pz X lo g l i) (hu : Pz X hi g l j) : Px X (.Subscript o (.Slice lo hi none p2) pos) g l (lstE enc (cut xs i j)) := (ev_slM enc ho hd hl hu).frz
theorem ev_strideM (enc : α → D) {lo hi : Option Expr} {st : Expr} {i j : Option Int} {k : Int} (ho : Px X o g l d) (hd : Lq X.K l d (xs.map enc)) (hl : Pz X lo g l i) (hu : Pz X hi g l j) (hs : Pz X (some st) g l (some k)) (hn : k ≠ 0) (hz : (pickN xs (places xs.length i j (some k))).length ≤ 10000) : EvL X (.Subscript o (.Slice lo hi (some st) p2) pos) g l ((pickN xs (places xs.length i j (some k))).map enc) := by
  have := ev_stride (pos := pos) (p2 := p2) ho hd hl hu hs (fun h => hn (Option.some.inj h)) (by rw [List.length_map, pickN_map, List.length_map]; exact Nat.le_trans hz (by decide))
  rw [List.length_map, pickN_map] at this
  exact this
theorem px_strideM (enc : α → D) {lo hi : Option Expr} {st : Expr} {i j : Option Int} {k : Int} (ho : Px X o g l d) (hd : Lq X.K l d (xs.map enc)) (hl : Pz X lo g l i) (hu : Pz X hi g l j) (hs : Pz X (some st) g l (some k)) (hn : k ≠ 0) (hz : (pickN xs (places xs.length i j (some k))).length ≤ 10000) : Px X (.Subscript o (.Slice lo hi (some st) p2) pos) g l (lstE enc (pickN xs (places xs.length i j (some k)))) := (ev_strideM enc ho hd hl hu hs hn hz).frz
theorem o_ixM (enc : α → D) {x0 : α} {i : Int} (h : Lq K l d (xs.map enc)) (h0 : 0 ≤ i) (h1 : i < xs.length) : Op2 K l (rIxL K) d (.int i) (enc (xs.getD i.toNat x0)) := o_ixV h (atI_map (atI_in h0 h1))
theorem o_lenM (h : Sv K l d (xs.map enc)) : OpN K l (rLen1 K) [d] (.int (xs.length : Int)) := by
  have := o_lenV h
  rw [List.length_map] at this
  exact this
theorem o_isNo {f : α → D} (hf : ∀ x, (f x).isNon = false) {o : Option α} : Op2 K l (fun x y H Q => y = .non ∧ Q (.bl (decide (x = .non))) H) (optE f o) .non (.bl o.isNone) := by
  rw [← optE_non hf o]; exact o_isN
theorem o_notNo {f : α → D} (hf : ∀ x, (f x).isNon = false) {o : Option α} : Op2 K l (fun x y H Q => y = .non ∧ Q (.bl (!decide (x = .non))) H) (optE f o) .non (.bl (!o.isNone)) := by
  rw [← optE_non hf o]; exact o_notN
theorem o_inI {x : Int} {ns : List Int} {d0 : D} (hd : d0 = .lst (ns.map D.int) ∨ d0 = .tup (ns.map D.int)) : Op2 K l (rIn K false) (.int x) d0 (.bl (decide (x ∈ ns))) := by
  have h := o_in (K := K) (l := l) (neg := false) hd (d := .int x) rfl flat_ints
  rw [vv_ints] at h
  have e : (if false = true then !inV (D.int x).vv (ns.map V.int) else inV (D.int x).vv (ns.map V.int)) = decide (x ∈ ns) := inV_int
  rw [e] at h; exact h
theorem o_intB {b : Bool} : OpN K l (fun xs H Q => (∃ i, xs = [.int i] ∧ Q (.int i) H) ∨ ∃ k, xs = [.bl k] ∧ Q (.int (if k then 1 else 0)) H) [.bl b] (.int (if b then 1 else 0)) := fun F M H vs Q eF eM dj rs f k => by
  cases f with
  | cons f1 f2 =>
    cases f2; cases f1
    exact .inr ⟨b, rfl, k _ F H (.rf eF) (.int _)⟩
theorem look_hd {k : Str} {d : D} {r : List (Str × D)} : List.lookup k ((k, d) :: r) = some d := by rw [List.lookup_cons, beq_self_eq_true]
theorem look_tl {k k' : Str} {d' : D} {r : List (Str × D)} {o : Option D} (h : List.lookup k r = o) (n : (k == k') = false := by decide +kernel) : List.lookup k ((k', d') :: r) = o := by rw [List.lookup_cons, n]; exact h
theorem look_nil {k : Str} : List.lookup k ([] : List (Str × D)) = none := rfl
variable {Om : β → Po} {v : Expr}
/-- x[i] = e, x an owned list -/
theorem bo_seti {kk : Nat} {q : Addr} {ys : List α} {y : α} {i : Int} {k : List α → β} {pos' : Pos} (enc : α → D) (he : Px X e g l (enc y)) (ho : Px X o g l (.adr q)) (hi : Px X e2 g l (.int i)) (hk : l[kk]? = some (ownL X.K q (ys.map enc))) (h0 : 0 ≤ i) (h1 : i < ys.length)
    (h : ∀ zs, zs = ys.set i.toNat y → Bo X W rest g (l.set kk (ownL X.K q (zs.map enc))) Om (k zs))
    (hs : swapsWithSole [.Subscript o e2 pos'] e pos.line X.env = pure false := by rfl) (hw : swappedStores [.Subscript o e2 pos'] e X.env = pure none := by rfl) (ha1 : (assignEach [.Subscript o e2 pos'] X.env).map (·.2) = [assign (.Subscript o e2 pos') X.env] := by rfl)
    (ha : ∀ v, assign (.Subscript o e2 pos') X.env v = (do
      let ov ← holding [v] (eval o X.env)
      let iv ← holding [v, ov] (eval e2 X.env)
      standAt pos'
      holding [v, ov, iv] (setItem ov iv v)
      release [v, ov, iv] []) := by intro _; rfl) :
    Bo X W (.Assign [.Subscript o e2 pos'] e pos :: rest) g l Om (lt (ys.set i.toNat y) k) := fun en T σ H D s mm => wpS_of (pss_cons (ps_asg pe_wp (pg_sub pe_wp pe_wp set_list ha) hs hw ha1) pss_wp) (by
  refine he en T σ H _ s fun u H1 s1 => ?_
  refine ho en _ σ H1 _ s1 fun u2 H2 s2 => ?_
  refine hi en _ σ H2 _ s2 fun u3 H3 s3 => ?_
  obtain ⟨F, M, a⟩ := s3
  have f3 := a.tm.1
  cases f3
  have f2 := a.tm.2.1
  cases f2
  obtain ⟨vs, fv, hp⟩ := a.rs.own hk a.exM
  have hl : vs.length = ys.length := by rw [fv.length, List.length_map]
  refine ⟨q, vs, i, i.toNat, rfl, rfl, hp, by unfold ixN; rw [if_pos h0, if_pos (by omega)], ?_⟩
  have f4 : FdAll X.K F (vs.set i.toNat u) ((ys.set i.toNat y).map enc) := by
    rw [List.map_set]
    exact fv.set _ a.tm.2.2.1
  obtain ⟨M', a'⟩ := (a.tmp (T' := T) a.tm.2.2.2).putL hk f4
  exact h _ rfl en T σ _ D ⟨F, M', a'⟩ mm)
end
end Sx
namespace Sx
theorem cond_keep {S1 : Type} {P : S1 → Prop} {b : Bool} {x y : S1} (hx : b = true → P x) (hy : b = false → P y) : P (cond b x y) := by
  cases b
  · exact hy rfl
  · exact hx rfl
end Sx
set_option Elab.async false
set_option linter.all false
set_option maxRecDepth 100000
set_option maxHeartbeats 2000000
/-! Models of dicts: lists of pairs. -/
namespace Sx
open PySem L2
section
variable {κ κ' β γ : Type} [DecidableEq κ] [DecidableEq κ']
def aget (m : List (κ × β)) (k : κ) : Option β := (m.find? fun kv => decide (kv.1 = k)).map (·.2)
def aput (m : List (κ × β)) (k : κ) (v : β) : List (κ × β) :=
  if (m.any fun kv => decide (kv.1 = k)) = true then m.map (fun kv => if kv.1 = k then (kv.1, v) else kv) else m ++ [(k, v)]
def adel (m : List (κ × β)) (k : κ) : List (κ × β) := m.filter fun kv => decide (kv.1 ≠ k)
abbrev dE (kf : κ → κ') (enc : β → D) (m : List (κ × β)) : List (κ' × D) := m.map fun kv => (kf kv.1, enc kv.2)
variable {kf : κ → κ'} {enc : β → D} {m : List (κ × β)} {k : κ} {v : β}
theorem dec_inj (inj : ∀ a b, kf a = kf b → a = b) (a b : κ) : decide (kf a = kf b) = decide (a = b) := by
  by_cases h : a = b
  · subst h; simp
  · rw [decide_eq_false h, decide_eq_false fun z => h (inj a b z)]
theorem val_aget (inj : ∀ a b, kf a = kf b → a = b) : ∀ {m : List (κ × β)}, valD (dE kf enc m) (kf k) = (aget m k).map enc
  | [] => rfl
  | (a, b) :: m => by
    have ih := val_aget (m := m) inj
    unfold valD aget dE at ih ⊢
    rw [List.map_cons, List.find?_cons, List.find?_cons, dec_inj inj]
    cases decide (a = k) with
    | true => rfl
    | false => exact ih
theorem any_inj (inj : ∀ a b, kf a = kf b → a = b) : ((dE kf enc m).any fun kv => decide (kv.1 = kf k)) = m.any fun kv => decide (kv.1 = k) := by
  unfold dE
  rw [List.any_map]
  congr 1
  funext x
  exact dec_inj inj x.1 k
theorem put_aput (inj : ∀ a b, kf a = kf b → a = b) : putKD (dE kf enc m) (kf k) (enc v) = dE kf enc (aput m k v) := by
  unfold putKD aput
  rw [any_inj inj]
  split
  · unfold dE
    rw [List.map_map, List.map_map]
    refine List.map_congr_left fun x _ => ?_
    show (if kf x.1 = kf k then (kf x.1, enc v) else (kf x.1, enc x.2)) = _
    by_cases h : x.1 = k
    · subst h
      rw [if_pos rfl]
      show _ = (fun kv : κ × β => (kf kv.1, enc kv.2)) (if x.1 = x.1 then (x.1, v) else x)
      rw [if_pos rfl]
    · rw [if_neg fun z => h (inj _ _ z)]
      show _ = (fun kv : κ × β => (kf kv.1, enc kv.2)) (if x.1 = k then (x.1, v) else x)
      rw [if_neg h]
  · unfold dE
    rw [List.map_append]
    rfl
theorem aget_put {j : κ} : ∀ {m : List (κ × β)}, aget (aput m k v) j = if j = k then some v else aget m j := by
  intro m
  have h1 : ∀ m : List (κ × β), (m.any fun kv => decide (kv.1 = k)) = true → aget (m.map fun kv => if kv.1 = k then (kv.1, v) else kv) j = if j = k then some v else aget m j := by
    intro m
    induction m with
    | nil => intro h; cases h
    | cons a m ih =>
      intro h
      obtain ⟨x, y⟩ := a
      unfold aget at ih ⊢
      rw [List.map_cons, List.find?_cons, List.find?_cons]
      by_cases e : x = k
      · subst e
        rw [if_pos rfl]
        by_cases z : x = j
        · subst z; simp
        · have z' : ¬ j = x := fun q => z q.symm
          simp only [decide_eq_false z]
          rw [if_neg z']
          by_cases hm : (m.any fun kv => decide (kv.1 = x)) = true
          · have := ih hm
            rw [if_neg z'] at this
            exact this
          · have : m.map (fun kv => if kv.1 = x then (kv.1, v) else kv) = m := by
              have hh : ∀ kv ∈ m, (if kv.1 = x then (kv.1, v) else kv) = kv := fun kv hk => by
                by_cases q : kv.1 = x
                · exact absurd (List.any_eq_true.mpr ⟨kv, hk, decide_eq_true q⟩) hm
                · rw [if_neg q]
              rw [List.map_congr_left hh]
              simp
            rw [this]
      · rw [if_neg e]
        have hm : (m.any fun kv => decide (kv.1 = k)) = true := by
          rw [List.any_cons] at h
          have : decide ((x, y).1 = k) = false := decide_eq_false e
          rw [this] at h
          exact h
        by_cases z : x = j
        · subst z
          rw [if_neg e]
          simp
        · simp only [decide_eq_false z]
          exact ih hm
  unfold aput
  by_cases h : (m.any fun kv => decide (kv.1 = k)) = true
  · rw [if_pos h]; exact h1 m h
  · rw [if_neg h]
    unfold aget
    rw [List.find?_append]
    by_cases z : j = k
    · subst z
      have hn : (m.find? fun kv => decide (kv.1 = j)) = none := List.find?_eq_none.mpr fun x hx hd => h (List.any_eq_true.mpr ⟨x, hx, hd⟩)
      rw [hn, if_pos rfl]
      simp
    · rw [if_neg z]
      cases q : m.find? fun kv => decide (kv.1 = j) with
      | some y => rfl
      | none =>
        have z' : ¬ k = j := fun q => z q.symm
        simp [z']
theorem aput_keys : (aput m k v).map (·.1) = if k ∈ m.map (·.1) then m.map (·.1) else m.map (·.1) ++ [k] := by
  have e : (m.any fun kv => decide (kv.1 = k)) = decide (k ∈ m.map (·.1)) := by
    by_cases h : k ∈ m.map (·.1)
    · rw [decide_eq_true h]
      obtain ⟨x, hx, hk⟩ := List.mem_map.mp h
      exact List.any_eq_true.mpr ⟨x, hx, decide_eq_true hk⟩
    · rw [decide_eq_false h]
      refine List.any_eq_false.mpr fun x hx hd => h (List.mem_map.mpr ⟨x, hx, of_decide_eq_true hd⟩)
  unfold aput
  rw [e]
  by_cases h : k ∈ m.map (·.1)
  · rw [decide_eq_true h, if_pos rfl, if_pos h, List.map_map]
    refine List.map_congr_left fun x _ => ?_
    show (if x.1 = k then (x.1, v) else x).1 = x.1
    split <;> rfl
  · rw [decide_eq_false h, if_neg (by simp), if_neg h, List.map_append]
    rfl
theorem aput_len : (aput m k v).length ≤ m.length + 1 := by
  have := congrArg List.length (aput_keys (m := m) (k := k) (v := v))
  rw [List.length_map] at this
  rw [this]
  split
  · rw [List.length_map]; omega
  · rw [List.length_append, List.length_map]; exact Nat.le_refl _
theorem aget_mem {m : List (κ × β)} (h : aget m k = some v) : (k, v) ∈ m := by
  unfold aget at h
  obtain ⟨x, hx, rfl⟩ := Option.map_eq_some_iff.mp h
  have h1 := List.mem_of_find?_eq_some hx
  have h2 := List.find?_some hx
  have : x.1 = k := of_decide_eq_true h2
  subst this
  exact h1
theorem aget_none {m : List (κ × β)} : aget m k = none ↔ k ∉ m.map (·.1) := by
  unfold aget
  rw [Option.map_eq_none_iff, List.find?_eq_none]
  constructor
  · intro h hm
    obtain ⟨x, hx, hk⟩ := List.mem_map.mp hm
    exact h x hx (decide_eq_true hk)
  · intro h x hx hd
    exact h (List.mem_map.mpr ⟨x, hx, of_decide_eq_true hd⟩)
end
def kS (x : Str) : Key := .inr x
def kI (i : Int) : Key := .inl i
def kII (x : Int × Int) : List Key := [.inl x.1, .inl x.2]
def kSS (x : Str × Str) : List Key := [.inr x.1, .inr x.2]
def kSI (x : Str × Int) : List Key := [.inr x.1, .inl x.2]
theorem kII_inj (a b : Int × Int) (h : kII a = kII b) : a = b := by
  obtain ⟨x, y⟩ := a; obtain ⟨z, w⟩ := b
  unfold kII at h
  injection h with h1 h2
  injection h2 with h2 _
  exact Prod.ext (Sum.inl.inj h1) (Sum.inl.inj h2)
abbrev dkE {κ β : Type} [DecidableEq κ] (kf : κ → Key) (enc : β → D) (m : List (κ × β)) : D := .dK (dE kf enc m)
abbrev dtE {κ β : Type} [DecidableEq κ] (kf : κ → List Key) (enc : β → D) (m : List (κ × β)) : D := .dT (dE kf enc m)
theorem getD_map {β : Type} {enc : β → D} {o : Option β} {v : β} : (o.map enc).getD (enc v) = enc (o.getD v) := by cases o <;> rfl
/-- an optional thing that is there -/
theorem optE_get {β : Type} {enc : β → D} {o : Option β} {x0 : β} (h : o.isNone = false) : optE enc o = enc (o.getD x0) := by
  cases o with
  | none => cases h
  | some x => rfl
section
variable {X : Cx} {W : WX} {g g' : Gm} {l l' : List Res} {e e2 c a b o v : Expr} {d d1 d2 : D} {pos p p2 apos kp : Pos} {rest : List Stmt} {es : List Expr} {x1 : Nat} {ds : List D}
variable {κ β γ : Type} [DecidableEq κ] {m : List (κ × β)} {k : κ} {enc : β → D}
section
variable {kf : κ → Key}
end
variable {S1 : Type} {Om : S1 → Po} {kk : List (κ × β) → S1}
theorem bo_t0 {i : Nat} {x : Str} {pos' p2 : Pos} (kf : κ → List Key) (enc : β → D) (hN : X.N.Nodup) (hi : X.N[i]? = some x) (hx : Loc X.env.scope x) (h : ∀ p m, m = [] → Bo X W rest (g.set i (some (.adr p))) (ownT X.K p (dE kf enc m) :: l) Om (kk m))
    (hs : swapsWith (.Dict [] [] p2) (some (.Name x pos')) pos.line X.env = pure false := by rfl) (hf : X.fn x = true ∨ X.env.scope.names.lookup x = some .local := by first | exact .inl rfl | exact .inr rfl | assumption) :
    Bo X W (.Assign [.Name x pos'] (.Dict [] [] p2) pos :: rest) g l Om (lt [] kk) := blk_setX hN hi hx ev_t0 (fun d l' ⟨p, e1, e2⟩ => by subst e1; subst e2; exact h p [] rfl) hs hf
section
variable {kf : κ → List Key}
theorem px_tget2M (inj : ∀ a b, kf a = kf b → a = b) (enc : β → D) {x0 : β} (hu : X.A.units + 64 < cLine) (ho : Px X o g l d1) (hd : Dw X.K l d1 (dE kf enc m)) (hi : Pa X es g l ((kf k).map kD)) (hv : Px X v g l (enc x0)) (hz : (kf k).length ≤ sizeLine) (hm : M2 X o "get" apos (.Tuple es x1 kp) v pos := by constructor <;> rfl) : Px X (.Call (.Attribute o "get" apos) [.Tuple es x1 kp, v] [] pos) g l (enc ((aget m k).getD x0)) := by
  have := px_tget2 (Px.units hu) ho hd hi rfl hv hz hm
  rw [val_aget inj, getD_map] at this
  exact this
theorem bo_tput {n : Nat} {q : Addr} {pos' : Pos} {v0 : β} (inj : ∀ a b, kf a = kf b → a = b) (enc : β → D) (hu : X.A.units + 64 < cLine) (hv : Px X v g l (enc v0)) (ho : Px X o g l (.adr q)) (hi : Pa X es g l ((kf k).map kD)) (hkz : (kf k).length ≤ sizeLine) (hl : l[n]? = some (ownT X.K q (dE kf enc m))) (hz : m.length < 10000)
    (h : ∀ m2, m2 = aput m k v0 → Bo X W rest g (l.set n (ownT X.K q (dE kf enc m2))) Om (kk m2)) (hs : swapsWith v (some (.Subscript o (.Tuple es x1 kp) pos')) pos.line X.env = pure false := by rfl) : Bo X W (.Assign [.Subscript o (.Tuple es x1 kp) pos'] v pos :: rest) g l Om (lt (aput m k v0) kk) :=
  blk_tput (Px.units hu) hv ho hi rfl hl (by rw [List.length_map]; exact hz) (by rw [put_aput inj]; exact h _ rfl) hkz hs
end
end
end Sx
namespace Sx
open PySem L2
section
variable {X : Cx} {g : Gm} {l : List Res} {e o : Expr} {d1 : D} {pos : Pos} {κ β : Type} [DecidableEq κ] {m : List (κ × β)} {k : κ} {kf : κ → Key}
end
end Sx
set_option Elab.async false
set_option linter.all false
set_option maxRecDepth 100000
set_option maxHeartbeats 2000000
/-! Plain: loops of the models, sums, counts. -/
namespace Sx
open PySem L2
/-- a loop whose steps all run through -/
theorem loop_all {α Rr Ll S1 : Type} {step : S1 → α → Cf Rr S1 S1} {f : S1 → α → S1} : ∀ {xs : List α} {s : S1} (J : S1 → Prop), J s → (∀ s x, x ∈ xs → J s → step s x = .nx (f s x) ∧ J (f s x)) → (loop step xs s : Cf Rr Ll S1) = .nx (xs.foldl f s) ∧ J (xs.foldl f s)
  | [], s, J, h, _ => ⟨rfl, h⟩
  | x :: xs, s, J, h, hs => by
    obtain ⟨h1, h2⟩ := hs s x List.mem_cons_self h
    unfold loop
    rw [h1]
    exact loop_all (xs := xs) J h2 fun s y hy => hs s y (List.mem_cons_of_mem _ hy)
theorem loop_unit {α Rr Ll : Type} {step : Unit → α → Cf Rr Unit Unit} {xs : List α} (h : ∀ x ∈ xs, step () x = .nx ()) : (loop step xs () : Cf Rr Ll Unit) = .nx () := by
  have := (loop_all (Ll := Ll) (step := step) (f := fun _ _ => ()) (xs := xs) (s := ()) (fun _ => True) trivial (fun s x hx _ => ⟨h x hx, trivial⟩)).1
  rw [this]
def sumZ {α : Type} (f : α → Int) (xs : List α) : Int := (xs.map f).sum
end Sx
set_option Elab.async false
set_option linter.all false
set_option maxRecDepth 100000
set_option maxHeartbeats 2000000
/-! Exceptions: calls that may raise, raise, a caught one that is kept, what it is. -/
namespace Sx
open PySem L2 PyProof.Rows

/-! ### readings -/
section
variable {X : Cx} {CX : CXT} {k : Nat} {f C : Addr} {fd : FuncData} {ps : List Str} {sp : Sp} {E : L2.St → XK} {m : Str} {pos apos : Pos} {e o : Expr} {es : List Expr} {ta : TE} {t : TA} {pl : Sem Bool}
/-- o.m(..) where what is wished of an exception may hang on the slots -/
def tMthS (C : Addr) (m : Str) (sp : Sp) (E : L2.St → XK) (ta : TE) (t : TA) : TE := fun σ H Q => ta σ H fun x H1 => ∃ a dx fs, x = .ref a ∧ H1 a = some (.ins C dx fs) ∧ fs.lookup m = none ∧ t σ H1 fun vs H2 => sp (x :: vs) H2 Q (E σ)
end

/-! ### judgements -/
/-- e gives a datum as Psi tells, or raises as XP tells -/
def Exv (X : Cx) (W : WX) (e : Expr) (g : Gm) (l : List Res) (Psi : D → List Res → Prop) (XP : Value → Option Addr → List Res → Prop) : Prop := ∀ en T σ H (Q : VK), S X.K en g T l σ H → (∀ v d l' H', Psi d l' → S X.K en g (T.and X.K v d) l' σ H' → Q v H') → (∀ cls dd l' H', XP cls dd l' → S X.K en g T l' σ H' → W cls dd σ H') → wpE X e σ H Q
/-- a def that may raise -/
def GloX (P : Program) (w : World) (K : PySem.W.Frag) (mg : Str → Option Value) (base : Heap) (k : Nat) (x : Str) (ps : List Str) (sp : Sp) : Prop :=
  ∃ f fd, FnOk P w K mg base (L2.CX P w) k f fd ps sp ∧ mg x = some (.ref f) ∧ PySem.W.keepIn K (.ref f) = true ∧ Binds K fd ps []
def GloMX (P : Program) (w : World) (K : PySem.W.Frag) (mg : Str → Option Value) (base : Heap) (k : Nat) (C : Addr) (m : Str) (ps : List Str) (sp : Sp) : Prop :=
  ∃ f fd, FnOk P w K mg base (L2.CX P w) k f fd ps sp ∧ Cls K C ∧ Meth K C m f ∧ Binds K fd ps []
section
variable {P : Program} {w : World} {K : PySem.W.Frag} {mg : Str → Option Value} {base : Heap} {k : Nat} {C : Addr} {x m qual : Str} {ps : List Str} {sp : Sp} {st : Stmt}
theorem glox_of (d : Dfn K mg x st) (b : Bnd x x st ps) (h : ∀ f fd, Fun K x x st f fd → FnOk P w K mg base (L2.CX P w) k f fd ps sp) : GloX P w K mg base k x ps sp := by
  obtain ⟨f, fd, F, hm⟩ := d
  have F0 := F
  obtain ⟨⟨oc, od, kV, doc, pm, an, cdv, ct, osl, e, lk, hcd⟩, kp⟩ := F
  exact ⟨f, fd, h f fd F0, hm, kp, Binds.all fun us hl => by rw [e]; exact b kV doc pm an cdv ct us hl⟩
end
section
variable {X : Cx} {W : WX} {g g' : Gm} {l l' : List Res} {Φ : Po} {e e2 a b c o : Expr} {es : List Expr} {d d1 d2 : D} {pos p p2 apos : Pos} {rest : List Stmt}
theorem FnX.useX {α : Type} {ok : α → Prop} {args : α → List D} {own : α → List Res} {post : α → D → List Res → Prop} {epost : α → Value → Option Addr → List Res → Prop} {K : PySem.W.Frag} {en : En} {T : Tm} {σ : L2.St} {H : Hp} {vs : List V} {lr : List Res} {Q : VK}
    (a : α) (hok : ok a) (s : S K en g (T.ands K vs (args a)) (own a ++ lr) σ H) (hq : ∀ v d l' H', post a d l' → S K en g (T.and K v d) (l' ++ lr) σ H' → Q v H') (he : ∀ cls d l' H', epost a cls d l' → S K en g T (l' ++ lr) σ H' → W cls d σ H') :
    FnX K ok args own post epost vs H Q (WE W σ) := FnX.use a hok s hq he
theorem exv_call {α : Type} {ok : α → Prop} {args : α → List D} {own : α → List Res} {post : α → D → List Res → Prop} {epost : α → Value → Option Addr → List Res → Prop} {x : Str} {ps : List Str} {k j : Nat} {lr : List Res} {Psi : D → List Res → Prop} {XP : Value → Option Addr → List Res → Prop}
    (tk : Takes X W) (G : GloX X.prog X.w X.K X.mg X.base k x ps (FnX X.K ok args own post epost)) (hr : Room j X.A) (hj : k ≤ j) (a : α) (hok : ok a) (ha : Pa X (e :: es) g (own a ++ lr) (args a)) (hq : ∀ d l', post a d l' → Psi d (l' ++ lr)) (hx : ∀ cls d l', epost a cls d l' → XP cls d (l' ++ lr))
    (hg : Gl X x := by rfl) (hdb : (x == ("__debug__" : Str)) = false := by decide) (he : starEach (e :: es) X.env = (false, eval e X.env) :: starEach es X.env := by rfl) (hpl : (backTo pos (starEach es X.env)).any (·.1) = false := by rfl) :
    Exv X W (.Call (.Name x p) (e :: es) [] pos) g (own a ++ lr) Psi XP := fun en T σ H Q s kk kx => by
  obtain ⟨f, fd, F, hm, hk, hb⟩ := G
  refine wpE_of (pe_callS F (hr.mono hj) hg hm hk hb (passAt tk) pa_wp hdb he hpl) ?_
  refine ha en T σ H _ s fun vs H1 s1 => ?_
  exact FnX.useX a hok s1 (fun v d l' H' hp s' => kk v d _ H' (hq d l' hp) s') (fun cls d l' H' hp s' => kx cls d _ H' (hx cls d l' hp) s')
/-! ### statements -/
theorem blk_exprX {Psi : D → List Res → Prop} {XP : Value → Option Addr → List Res → Prop} (he : Exv X W e g l Psi XP) (h : ∀ d l', Psi d l' → Blk X W rest g l' Φ) (hx : ∀ cls d l', XP cls d l' → Φ.ex cls d g l') (hs : swapsWith e none pos.line X.env = pure false := by rfl) : Blk X W (.Expr e pos :: rest) g l Φ := fun en T σ H D s m => wpS_of (pss_cons (ps_expr pe_wp hs) pss_wp) (he en T σ H _ s (fun v d l' H' p s' => h d l' p en T σ H' D s'.drop m) fun cls d l' H' p s' => m.ex cls d g l' σ H' (hx cls d l' p) s')
theorem blk_setXX {Psi : D → List Res → Prop} {XP : Value → Option Addr → List Res → Prop} {i : Nat} {x : Str} {pos' : Pos} (hN : X.N.Nodup) (hi : X.N[i]? = some x) (hx : Loc X.env.scope x) (he : Exv X W e g l Psi XP) (h : ∀ d l', Psi d l' → Blk X W rest (g.set i (some d)) l' Φ) (hxx : ∀ cls d l', XP cls d l' → Φ.ex cls d g l') (hs : swapsWith e (some (.Name x pos')) pos.line X.env = pure false := by rfl) (hf : X.fn x = true ∨ X.env.scope.names.lookup x = some .local := by first | exact .inl rfl | exact .inr rfl | assumption) :
    Blk X W (.Assign [.Name x pos'] e pos :: rest) g l Φ := fun en T σ H D s m => wpS_of (pss_cons (ps_set hN hi hx pe_wp hs hf) pss_wp) (he en T σ H _ s (fun v d l' H' p s' => by
      obtain ⟨F, M, a⟩ := s'
      exact h d l' p en T (σ.set i (some v)) H' D ⟨F, M, (a.tmp a.tm.2).slots (a.sl.set i a.tm.1)⟩ m) fun cls d l' H' p s' => m.ex cls d g l' σ H' (hxx cls d l' p) s')
/-- what the written part says of an exception class that keeps no values -/
structure Dxc (K : PySem.W.Frag) (mg : Str → Option Value) (x : Str) (C : Addr) : Prop where
  nm : mg x = some (.ref C)
  kp : PySem.W.keepIn K (.ref C) = true
  sub : PySem.W.subIn K (.ref C) (.type "BaseException") = some true
  ty : PySem.W.typeIn K (.ref C) = some (.type "type")
  ec : ExcC K C
abbrev vErr : List Value := [.type "ValueError", .type "Exception", .type "BaseException", .type "object"]
end

/-! ### a caught exception that is kept -/
section
variable {X : Cx} {x n y : Str} {c : Value} {i j : Nat} {body : List Stmt} {np pos pos' py pn ap : Pos} {tb : WX → TS} {Wout : WX}
/-- what the clause 'except x as n: y = n' wishes of an exception of the body -/
def wKeep (K : PySem.W.Frag) (c : Value) (i j : Nat) (Wout : WX) (D : Ends) : WX := fun cls d σ H =>
  ∃ b, PySem.W.exmOne K cls c = some b ∧ (b = true → ∀ a, H a = none → D.nx (((σ.set i (some (.ref a))).set j (some (.ref a))).set i none) (upd H a (exO a cls d))) ∧ (b = false → Wout cls d σ H)
end
section
variable {X : Cx} {W : WX} {g g' : Gm} {l l' : List Res} {Φ : Po} {body rest : List Stmt} {x n y : Str} {C : Addr} {i j : Nat} {np pos pos' py pn ap : Pos}
/-! ### what a kept one is -/
def rIsK (K : PySem.W.Frag) : List V → Hp → VK → Prop := fun xs H Q => ∃ (a D : Addr) (c : V) (cv : Value) (b : Bool), xs = [.ref a, c] ∧ H a = some (exO a (.ref D) none) ∧ ExcC K D ∧ ClsV c cv ∧ PySem.W.kitOne K (.ref D) cv = some b ∧ Q (.bl b) H
def rIsKT (K : PySem.W.Frag) : List V → Hp → VK → Prop := fun xs H Q => ∃ (a D tp : Addr) (cs : List V) (ws : List Value) (b : Bool), xs = [.ref a, .ref tp] ∧ H a = some (exO a (.ref D) none) ∧ ExcC K D ∧ SqT K H tp cs ∧ Paired ClsV cs ws ∧ PySem.W.kitAny K (.ref D) ws = some b ∧ Q (.bl b) H
theorem Rs.exc {F M H : Hp} {k : Nat} {a : Addr} {cls : Value} {d : Option Addr} (h : Rs l F M) (e : l[k]? = some (ownX a cls d)) (m : Ex M H) : H a = some (exO a cls d) := by
  obtain ⟨A, B, rfl, dj, rfl, _⟩ := Rs.at e h
  exact m a _ (join_l one_same)
end
end Sx
set_option Elab.async false
set_option linter.all false
set_option maxRecDepth 100000
set_option maxHeartbeats 2000000
/-! == of encoded things. -/
namespace Sx
open PySem L2
/-- == of things encoded by enc is equality -/
structure EqS {α : Type} [DecidableEq α] (k : Nat) (ok : α → Prop) (enc : α → D) : Prop where
  ex : ∀ x, ok x → ∃ p, (enc x).py = some p ∧ p.canLay0 = true ∧ p.depth ≤ k
  eq : ∀ x y p q, (enc x).py = some p → (enc y).py = some q → PyData.eqv p q = decide (x = y)
theorem beq_dec {α : Type} [DecidableEq α] [BEq α] [LawfulBEq α] (x y : α) : (x == y) = decide (x = y) := by
  by_cases h : x = y
  · subst h; simp
  · rw [decide_eq_false h]; exact beq_false_of_ne h
theorem eqs_int : EqS 0 (fun _ => True) D.int := ⟨fun x _ => ⟨_, rfl, rfl, Nat.le_refl _⟩, fun x y p q h1 h2 => by cases h1; cases h2; exact beq_dec x y⟩
section
variable {α β γ δ : Type} [DecidableEq α] [DecidableEq β] [DecidableEq γ] [DecidableEq δ] {k : Nat} {ok : α → Prop} {ok2 : β → Prop} {ok3 : γ → Prop} {ok4 : δ → Prop} {enc : α → D} {enc2 : β → D} {enc3 : γ → D} {enc4 : δ → D}
theorem pys_cons {d : D} {ds : List D} {ps : List PyData} (h : D.pys (d :: ds) = some ps) : ∃ a b, d.py = some a ∧ D.pys ds = some b ∧ ps = a :: b := by
  unfold D.pys at h
  obtain ⟨a, h1, h⟩ := Option.bind_eq_some_iff.mp h
  obtain ⟨b, h2, h⟩ := Option.map_eq_some_iff.mp h
  exact ⟨a, b, h1, h2, h.symm⟩
theorem EqS.all (E : EqS k ok enc) : ∀ {xs : List α}, (∀ x ∈ xs, ok x) → ∃ ps, D.pys (xs.map enc) = some ps ∧ PyData.canLayAll0 ps = true ∧ PyData.depthAll ps ≤ k := fun {xs} h =>
  Dp'.all fun d hd => by
    obtain ⟨x, hx, rfl⟩ := List.mem_map.mp hd
    exact E.ex x (h x hx)
theorem EqS.eqAll (E : EqS k ok enc) : ∀ {xs ys : List α} {ps qs : List PyData}, D.pys (xs.map enc) = some ps → D.pys (ys.map enc) = some qs → PyData.eqvAll ps qs = decide (xs = ys)
  | [], [], _, _, h1, h2 => by cases h1; cases h2; rfl
  | [], y :: ys, _, _, h1, h2 => by
    cases h1
    rw [List.map_cons] at h2
    obtain ⟨a, b, _, _, rfl⟩ := pys_cons h2
    rfl
  | x :: xs, [], _, _, h1, h2 => by
    cases h2
    rw [List.map_cons] at h1
    obtain ⟨a, b, _, _, rfl⟩ := pys_cons h1
    rfl
  | x :: xs, y :: ys, _, _, h1, h2 => by
    rw [List.map_cons] at h1 h2
    obtain ⟨a, b, e1, e2, rfl⟩ := pys_cons h1
    obtain ⟨a', b', e3, e4, rfl⟩ := pys_cons h2
    show (PyData.eqv a a' && PyData.eqvAll b b') = _
    rw [E.eq x y a a' e1 e3, EqS.eqAll E e2 e4]
    by_cases h : x = y
    · subst h
      by_cases h' : xs = ys
      · subst h'; simp
      · simp [h']
    · simp [h]
theorem eqs_tl (E : EqS k ok enc) : EqS (k + 1) (fun xs : List α => ∀ x ∈ xs, ok x) (tlE enc) := ⟨fun xs h => Dp'.tup fun d hd => by
    obtain ⟨x, hx, rfl⟩ := List.mem_map.mp hd
    exact E.ex x (h x hx), fun x y p q h1 h2 => by
    unfold D.py at h1 h2
    obtain ⟨ps, h3, rfl⟩ := Option.map_eq_some_iff.mp h1
    obtain ⟨qs, h4, rfl⟩ := Option.map_eq_some_iff.mp h2
    exact E.eqAll h3 h4⟩
theorem tup_py {ds : List D} {p : PyData} (h : (D.tup ds).py = some p) : ∃ ps, D.pys ds = some ps ∧ p = .tuple ps := by
  unfold D.py at h
  obtain ⟨ps, h1, rfl⟩ := Option.map_eq_some_iff.mp h
  exact ⟨ps, h1, rfl⟩
theorem eqs_t3 {k2 k3 : Nat} {e : α × β × γ → D} (E : EqS k ok enc) (E2 : EqS k2 ok2 enc2) (E3 : EqS k3 ok3 enc3) (he : ∀ x, e x = .tup [enc x.1, enc2 x.2.1, enc3 x.2.2] := by intro x; rfl) : EqS (max k (max k2 k3) + 1) (fun x : α × β × γ => ok x.1 ∧ ok2 x.2.1 ∧ ok3 x.2.2) e := ⟨fun x h => by
    rw [he]
    refine Dp'.tup fun d hd => ?_
    simp only [List.mem_cons, List.not_mem_nil, or_false] at hd
    rcases hd with rfl | rfl | rfl
    · exact Dp'.mono (E.ex _ h.1) (by omega)
    · exact Dp'.mono (E2.ex _ h.2.1) (by omega)
    · exact Dp'.mono (E3.ex _ h.2.2) (by omega), fun x y p q h1 h2 => by
    rw [he] at h1 h2
    obtain ⟨ps, h3, rfl⟩ := tup_py h1
    obtain ⟨qs, h4, rfl⟩ := tup_py h2
    obtain ⟨a1, b1, u1, v1, rfl⟩ := pys_cons h3
    obtain ⟨a2, b2, u2, v2, rfl⟩ := pys_cons v1
    obtain ⟨a3, b3, u3, v3, rfl⟩ := pys_cons v2
    cases v3
    obtain ⟨c1, d1, w1, z1, rfl⟩ := pys_cons h4
    obtain ⟨c2, d2, w2, z2, rfl⟩ := pys_cons z1
    obtain ⟨c3, d3, w3, z3, rfl⟩ := pys_cons z2
    cases z3
    show (PyData.eqv a1 c1 && (PyData.eqv a2 c2 && (PyData.eqv a3 c3 && true))) = _
    rw [E.eq _ _ _ _ u1 w1, E2.eq _ _ _ _ u2 w2, E3.eq _ _ _ _ u3 w3]
    obtain ⟨x1, x2, x3⟩ := x; obtain ⟨y1, y2, y3⟩ := y
    simp [Prod.mk.injEq]⟩
theorem eqs_opt (E : EqS k ok enc) (hn : ∀ x p, (enc x).py = some p → PyData.eqv .none p = false ∧ PyData.eqv p .none = false := by intro x p h; cases h; exact ⟨rfl, rfl⟩) : EqS k (fun o : Option α => ∀ x, o = some x → ok x) (optE enc) := ⟨fun o h => by
    cases o with
    | none => exact ⟨_, rfl, rfl, Nat.zero_le _⟩
    | some x => exact E.ex x (h x rfl), fun o o' p q h1 h2 => by
    cases o with
    | none => cases o' with
      | none => cases h1; cases h2; rfl
      | some y => cases h1; rw [(hn y q h2).1]; rfl
    | some x => cases o' with
      | none => cases h2; rw [(hn x p h1).2]; rfl
      | some y =>
        rw [E.eq x y p q h1 h2]
        by_cases h : x = y
        · subst h; simp
        · have : ¬ some x = some y := fun e => h (Option.some.inj e)
          rw [decide_eq_false h, decide_eq_false this]⟩
theorem EqS.imp {ok' : α → Prop} (E : EqS k ok enc) (h : ∀ x, ok' x → ok x) : EqS k ok' enc := ⟨fun x hx => E.ex x (h x hx), E.eq⟩
variable {K : PySem.W.Frag} {l : List Res} {d1 d2 : D} {x y : α} {xs ys : List α}
theorem o_neE (E : EqS k ok enc) (hx : ok x) (hy : ok y) (hk : k ≤ 64 := by decide) : Op2 K l (rNeD K) (enc x) (enc y) (.bl (!decide (x = y))) := by
  obtain ⟨p, h1, h2, h3⟩ := E.ex x hx
  obtain ⟨q, g1, g2, g3⟩ := E.ex y hy
  exact (o_neD h1 g1 (shaped_of h2 h3 hk) (shaped_of g2 g3 hk)).to (congrArg (fun b => D.bl (!b)) (E.eq x y p q h1 g1))
/-- .. of lists, owned or not -/
theorem o_eqLE (E : EqS k ok enc) (hd1 : Lv K l d1 (xs.map enc)) (hd2 : Lv K l d2 (ys.map enc)) (hx : ∀ x ∈ xs, ok x) (hy : ∀ x ∈ ys, ok x) (hk : k ≤ 60 := by decide) : Op2 K l (rEqD K) d1 d2 (.bl (decide (xs = ys))) := fun F M H v u Q eF eM dj rs f1 f2 kk => by
  obtain ⟨ps, h1, h2, h3⟩ := E.all hx
  obtain ⟨qs, g1, g2, g3⟩ := E.all hy
  have e := E.eqAll h1 g1
  refine ⟨.list ps, .list qs, hd1.dp eF eM rs f1 h1, hd2.dp eF eM rs f2 g1, shaped_of (k := 61) (by exact h2) (by show _ + 1 ≤ 61; omega) (by decide), shaped_of (k := 61) (by exact g2) (by show _ + 1 ≤ 61; omega) (by decide), ?_⟩
  have e2 : PyData.eqv (.list ps) (.list qs) = decide (xs = ys) := e
  rw [e2]
  exact kk _ F H (.rf eF) (.bl _)
theorem o_neLE (E : EqS k ok enc) (hd1 : Lv K l d1 (xs.map enc)) (hd2 : Lv K l d2 (ys.map enc)) (hx : ∀ x ∈ xs, ok x) (hy : ∀ x ∈ ys, ok x) (hk : k ≤ 60 := by decide) : Op2 K l (rNeD K) d1 d2 (.bl (!decide (xs = ys))) := fun F M H v u Q eF eM dj rs f1 f2 kk => by
  obtain ⟨ps, h1, h2, h3⟩ := E.all hx
  obtain ⟨qs, g1, g2, g3⟩ := E.all hy
  have e := E.eqAll h1 g1
  refine ⟨.list ps, .list qs, hd1.dp eF eM rs f1 h1, hd2.dp eF eM rs f2 g1, shaped_of (k := 61) (by exact h2) (by show _ + 1 ≤ 61; omega) (by decide), shaped_of (k := 61) (by exact g2) (by show _ + 1 ≤ 61; omega) (by decide), ?_⟩
  have e2 : PyData.eqv (.list ps) (.list qs) = decide (xs = ys) := e
  rw [e2]
  exact kk _ F H (.rf eF) (.bl _)
end
end Sx
set_option Elab.async false
set_option linter.all false
set_option maxRecDepth 100000
set_option maxHeartbeats 2000000
/-! More rules for the walker: dropping, borrowing, ways that are never gone. -/
namespace Sx
open PySem L2
section
variable {X : Cx} {W : WX} {g g' : Gm} {l l' : List Res} {e e2 c a b o : Expr} {d d1 d2 : D} {pos p p2 : Pos} {rest A B body sts : List Stmt} {es : List Expr} {β : Type} {Om : β → Po} {m : β} {bb : Bool} {ds ds2 : List D}
theorem bo_dropN (n : Nat) (h : Bo X W sts g (l.drop n) Om m) : Bo X W sts g l Om m := by
  have := Blk.dropO (l' := l.take n) h
  rw [List.take_append_drop] at this
  exact this
/-- a way that is never gone -/
theorem bo_ifD (hc : Ts X c g l bb) (hb : bb = false) (h : Bo X W rest g l Om m) : Bo X W (.If c A [] pos :: rest) g l Om m :=
  blk_if hc (fun e => by rw [hb] at e; cases e) (fun _ => blk_nil h)
/-- a raising def's own wish is taken -/
theorem takes_cx {P : Program} {w : World} {K : PySem.W.Frag} {mg : Str → Option Value} {base : Heap} {N : List Str} {qual : Str} {scope : Scope} {f : Addr} {cd : Value} {A : Around} {outer : List Env} {s : Shared} {H : Hp} {E : XK} :
    Takes (cxOf (L2.CX P w) P w K mg base N qual scope f cd A outer s H E) (fun cls d _ H => E cls d H) := takes_of rfl rfl rfl rfl
theorem takes_no {X : Cx} : Takes X (fun _ _ _ _ => False) := fun u s' ⟨_, _, _, _, _, _, _, _, _, _, _, _, _, _, _, _, z⟩ => z.elim
end
end Sx
set_option Elab.async false
set_option linter.all false
set_option maxRecDepth 100000
set_option maxHeartbeats 2000000
/-! Exceptions that keep values: their __init__, their raise; a clause without a name. -/
namespace Sx
open PySem L2 PyProof.Rows
/-- an exception that is being made, at a | its dict | an exception's dict -/
def ownEo (a C : Addr) (d : Option Addr) : Res := ⟨fun _ M => M = one a (exo a C d), fun _ h => h, fun m x xs e => by rw [m] at e; obtain ⟨_, e⟩ := one_some e; exact exo_tup e.symm⟩
def ownEd (K : PySem.W.Frag) (dx : Addr) (fs : List (Str × D)) : Res := ⟨fun F M => ∃ vs, FdFs K F vs fs ∧ M = one dx (exd dx vs), fun e ⟨vs, h, m⟩ => ⟨vs, FdFs.mono e _ h, m⟩, fun ⟨_, _, m⟩ x xs e => by rw [m] at e; obtain ⟨_, e⟩ := one_some e; exact exd_tup e.symm⟩
def ownXd (K : PySem.W.Frag) (dx : Addr) (fs : List (Str × D)) : Res := ⟨fun F M => ∃ vs, FdFs K F vs fs ∧ M = one dx (.xd vs), fun e ⟨vs, h, m⟩ => ⟨vs, FdFs.mono e _ h, m⟩, fun ⟨_, _, m⟩ x xs e => by rw [m] at e; obtain ⟨_, e⟩ := one_some e; cases e⟩
/-- what the class R (no own __init__, above it ValueError) must say, so that R.__init__(self, ..) is got -/
structure Rin (K : PySem.W.Frag) (R : Addr) : Prop where
  rd : PySem.W.readsIn K R (.type "type") = true
  fc : PySem.W.findCls K (.ref R) (.type "type") "__init__" = some (.val (.builtin "ValueError.__init__"))
  sp : PySem.W.specialIn K (.ref R) "__getattribute__" = some (some (.builtin "type.__getattribute__"))
section
variable {X : Cx} {o e : Expr} {es : List Expr} {to te : TE} {ta : TA} {f : Str} {p p' p1 p2 pos : Pos} {x : Str} {R : Addr}
theorem pe_reinit {pl : Sem Bool} (hg : Gl X x) (hm : X.mg x = some (.ref R)) (r : Rin X.K R) (ha : PA X (e :: es) ta) (hdb : (x == ("__debug__" : Str)) = false := by decide)
    (ht : MthE X (.Name x p1) "__init__" p2 pos (e :: es) pl := by rfl)
    (he : starEach (e :: es) X.env = (false, eval e X.env) :: starEach es X.env := by rfl) (hpl : (backTo pos (starEach es X.env)).any (·.1) = false := by rfl) :
    PE X (.Call (.Attribute (.Name x p1) "__init__" p2) (e :: es) [] pos) (tVeI X.K ta) := by
  refine ⟨fun pins s σ H Q I h => ?_⟩
  refine PySem.W.methodCall_KW (pl := pl) (ld_glob I hg hm ?_ hdb) ht
  refine PySem.W.method_cls I.kIn r.sp (PySem.W.cls_value I.kIn r.rd r.fc (by decide +kernel) ?_)
  show wpAny _ _ (callWith pos (Value.builtin "ValueError.__init__") [] (backTo pos (starEach (e :: es) X.env)) []) _ _ _
  refine callWith_method1 (thn (ha.run pos pins _ σ H _ (I.tok _) h) fun us s1 hh => ?_) he hpl
  obtain ⟨vs, H1, I1, r1, a, C, ws, ev, hl, T, ea, q⟩ := hh
  subst ev
  cases r1 with
  | @cons _ u0 _ ur ra rw' =>
    cases (show u0 = Value.ref a from ra)
    have hlen : ur.length ≤ sizeLine := by
      rw [← Paired.length rw', sizeLine_eq]
      omega
    exact oinit_ok T I1 ea hlen fun s2 J => ⟨.non, H1, J, rfl, q⟩
end
section
variable {K : PySem.W.Frag} {F H M : Hp} {l : List Res}
theorem Rs.eo {k : Nat} {a C : Addr} {d : Option Addr} (h : Rs l F M) (e : l[k]? = some (ownEo a C d)) (m : Ex M H) : H a = some (exo a C d) := by
  obtain ⟨A, B, rfl, dj, rfl, _⟩ := Rs.at e h
  exact m a _ (join_l one_same)
theorem Rs.ed {k : Nat} {dx : Addr} {fs : List (Str × D)} (h : Rs l F M) (e : l[k]? = some (ownEd K dx fs)) (m : Ex M H) : ∃ vs, FdFs K F vs fs ∧ H dx = some (exd dx vs) := by
  obtain ⟨A, B, rfl, dj, ⟨vs, f, rfl⟩, _⟩ := Rs.at e h
  exact ⟨vs, f, m dx _ (join_l one_same)⟩
end
section
variable {X : Cx} {W : WX} {g g' : Gm} {l l' : List Res} {Φ : Po} {e e2 o : Expr} {es : List Expr} {d : D} {ds : List D} {pos p p1 p2 pos' : Pos} {rest : List Stmt} {x f : Str} {R a C : Addr}
/-- R.__init__(self, ..) -/
theorem blk_reinit {k : Nat} {pl : Sem Bool} (hm : X.mg x = some (.ref R)) (r : Rin X.K R) (T : OexC X.K C) (ha : Pa X (e :: es) g l (.adr a :: ds)) (hk : l[k]? = some (ownEo a C none)) (hz : ds.length ≤ 1000) (h : Blk X W rest g l Φ)
    (hg : Gl X x := by rfl) (hdb : (x == ("__debug__" : Str)) = false := by decide) (ht : MthE X (.Name x p1) "__init__" p2 pos (e :: es) pl := by rfl)
    (he : starEach (e :: es) X.env = (false, eval e X.env) :: starEach es X.env := by rfl) (hpl : (backTo pos (starEach es X.env)).any (·.1) = false := by rfl)
    (hs : swapsWith (.Call (.Attribute (.Name x p1) "__init__" p2) (e :: es) [] pos) none pos'.line X.env = pure false := by rfl) :
    Blk X W (.Expr (.Call (.Attribute (.Name x p1) "__init__" p2) (e :: es) [] pos) pos' :: rest) g l Φ := fun en T' σ H D s m =>
  wpS_of (pss_cons (ps_expr (pe_reinit hg hm r pa_wp hdb ht he hpl) hs) pss_wp) (by
    refine ha en T' σ H _ s fun vs H1 s1 => ?_
    obtain ⟨F, M, q⟩ := id s1
    have fv := q.tm.1
    cases fv with
    | @cons v vs' _ _ f1 f2 =>
      cases f1
      exact ⟨a, C, vs', rfl, by rw [f2.length]; exact hz, T, q.rs.eo hk q.exM, h en T' σ H1 D ⟨F, M, q.tmp q.tm.2⟩ m⟩)
/-- self.f = e, the first -/
theorem blk_ost0 {k : Nat} (T : OexC X.K C) (hno : PySem.W.findIn X.K (.ref C) f = some none) (he : Px X e g l d) (ho : Px X o g l (.adr a)) (hk : l[k]? = some (ownEo a C none)) (h : ∀ dx, Blk X W rest g (ownEd X.K dx [(f, d)] :: l.set k (ownEo a C (some dx))) Φ)
    (hs : swapsWith e (some (.Attribute o f pos')) pos.line X.env = pure false := by rfl) : Blk X W (.Assign [.Attribute o f pos'] e pos :: rest) g l Φ := fun en T' σ H D s m =>
  wpS_of (pss_cons (ps_ost pe_wp pe_wp hs) pss_wp) (by
    refine he en T' σ H _ s fun v H1 s1 => ?_
    refine ho en _ σ H1 _ s1 fun u H2 s2 => ?_
    obtain ⟨F, M, q⟩ := s2
    have fu := q.tm.1
    cases fu
    refine ⟨a, C, rfl, T, hno, .inl ⟨q.rs.eo hk q.exM, fun dx n ne => ?_⟩⟩
    have q2 := (q.tmp (T' := T') q.tm.2.2).newO (r := ownEd X.K dx [(f, d)]) (A := one dx (exd dx [(f, v)])) (H' := upd H2 dx (exd dx [(f, v)])) (.new n) (fun z o w => by obtain ⟨rfl, rfl⟩ := one_some w; exact upd_same) (fun z o w => by obtain ⟨rfl, rfl⟩ := one_some w; exact n) ⟨[(f, v)], .cons q.tm.2.1 .nil, rfl⟩
    obtain ⟨M', q3⟩ := q2.putOne (k := k + 1) (p := a) (r' := ownEo a C (some dx)) (o' := exo a C (some dx)) (by simpa using hk) (fun A e => ⟨_, e⟩) rfl
    exact h dx en T' σ _ D ⟨F, M', q3⟩ m)
/-- .. a further one -/
theorem blk_ost1 {k j : Nat} {dx : Addr} {fs : List (Str × D)} (T : OexC X.K C) (hno : PySem.W.findIn X.K (.ref C) f = some none) (he : Px X e g l d) (ho : Px X o g l (.adr a)) (hk : l[k]? = some (ownEo a C (some dx))) (hj : l[j]? = some (ownEd X.K dx fs)) (hz : fs.length ≤ 900) (h : Blk X W rest g (l.set j (ownEd X.K dx ((f, d) :: fs))) Φ)
    (hs : swapsWith e (some (.Attribute o f pos')) pos.line X.env = pure false := by rfl) : Blk X W (.Assign [.Attribute o f pos'] e pos :: rest) g l Φ := fun en T' σ H D s m =>
  wpS_of (pss_cons (ps_ost pe_wp pe_wp hs) pss_wp) (by
    refine he en T' σ H _ s fun v H1 s1 => ?_
    refine ho en _ σ H1 _ s1 fun u H2 s2 => ?_
    obtain ⟨F, M, q⟩ := s2
    have fu := q.tm.1
    cases fu
    obtain ⟨vs, fv, hd⟩ := q.rs.ed hj q.exM
    refine ⟨a, C, rfl, T, hno, .inr ⟨dx, vs, q.rs.eo hk q.exM, hd, by rw [fv.length]; exact hz, ?_⟩⟩
    obtain ⟨M', q3⟩ := (q.tmp (T' := T') q.tm.2.2).putOne (k := j) (p := dx) (r' := ownEd X.K dx ((f, d) :: fs)) (o' := exd dx ((f, v) :: vs)) hj (fun A ⟨_, _, e⟩ => ⟨_, e⟩) ⟨_, .cons q.tm.2.1 fv, rfl⟩
    exact h en T' σ _ D ⟨F, M', q3⟩ m)
end
/-- what the __init__ of an exception class keeps: the fields fl tells -/
abbrev XiSp (K : PySem.W.Frag) (C : Addr) {α : Type} (ok : α → Prop) (args : α → List D) (fl : α → List (Str × D)) : Sp := FnX K (fun a : Addr × α => ok a.2) (fun a => .adr a.1 :: args a.2) (fun a => [ownEo a.1 C none]) (fun a d l => d = .non ∧ ∃ dx, l = [ownEd K dx (fl a.2), ownEo a.1 C (some dx)]) noE
/-- what the written part says of an exception class with an own __init__ -/
structure Dxi (K : PySem.W.Frag) (mg : Str → Option Value) (x : Str) (C fI : Addr) : Prop where
  nm : mg x = some (.ref C)
  T : OexC K C
  iC : PySem.W.findIn K (.ref C) "__init__" = some (some (.ref fI))
  tI : PySem.W.typeIn K (.ref fI) = some (.type "function")
section
variable {X : Cx} {W : WX} {g g' : Gm} {l l' : List Res} {Φ : Po} {e : Expr} {es : List Expr} {pos p pr : Pos} {rest : List Stmt} {x : Str} {C fI : Addr} {fd : FuncData} {ps : List Str} {kk j : Nat}
/-- raise C(..), C with an own __init__ -/
theorem blk_raiseI {α : Type} {ok : α → Prop} {args : α → List D} {fl : α → List (Str × D)} (hc : X.calm = true) (tk : Takes X W) (x0 : Dxi X.K X.mg x C fI) (F1 : FnOk X.prog X.w X.K X.mg X.base CX0 kk fI fd ps (XiSp X.K C ok args fl)) (hb : Binds X.K fd ps []) (hr : Room j X.A) (hj : kk + 1 ≤ j)
    (a : α) (hok : ok a) (ha : Pa X (e :: es) g l (args a)) (hz : (args a).length ≤ 1000) (h : ∀ dx, Φ.ex (.ref C) (some dx) g (ownXd X.K dx (fl a) :: l))
    (hg : Gl X x := by rfl) (hdb : (x == ("__debug__" : Str)) = false := by decide) (he : starEach (e :: es) X.env = (false, eval e X.env) :: starEach es X.env := by rfl) (hpl : (backTo pos (starEach es X.env)).any (·.1) = false := by rfl) :
    Blk X W (.Raise (some (.Call (.Name x p) (e :: es) [] pos)) none pr :: rest) g l Φ := fun en T σ H D s m =>
  wpS_of (pss_cons (ps_raise hc tk (pmk_oex x0.T x0.iC x0.tI F1 (hr.mono hj) hb .nil pass0 hg x0.nm pa_wp hdb he hpl)) pss_wp) (by
    refine ha en T σ H _ s fun vs H1 s1 => ?_
    obtain ⟨F, M, q⟩ := s1
    refine ⟨by rw [q.tm.1.length]; exact hz, fun b hb1 => ?_⟩
    rw [List.append_nil]
    have nF : F b = none := q.exF.free hb1
    have nM : M b = none := q.exM.free hb1
    have q2 := (q.tmp (T' := T) q.tm.2).newO (r := ownEo b C none) (A := one b (exo b C none)) (H' := upd H1 b (exo b C none)) (.new hb1) (fun z o w => by obtain ⟨rfl, rfl⟩ := one_some w; exact upd_same) (fun z o w => by obtain ⟨rfl, rfl⟩ := one_some w; exact hb1) rfl
    have dAM : Dj (one b (exo b C none)) M := fun z o w => by obtain ⟨rfl, rfl⟩ := one_some w; exact nM
    refine ⟨(b, a), F, one b (exo b C none), hok, q2.exF, q2.exM.joinL, (Dj.l q2.dj.sym).sym, .cons (.adr b) q.tm.1, ⟨_, emp, (join_emp _).symm, Dj.emp _, rfl, rfl⟩, fun v d l2 H2 hp s2 => ?_, fun _ _ _ _ h => h.elim⟩
    obtain ⟨rfl, dx, rfl⟩ := hp
    obtain ⟨F2, M2, b2⟩ := s2
    have fv := b2.tm.1
    cases fv
    -- the parts
    obtain ⟨A1, B1, rfl, dj1, ⟨ws, fws, rfl⟩, r1⟩ := b2.rs
    obtain ⟨A2, B2, rfl, dj2, rfl, r2⟩ := r1
    have r2 : B2 = emp := r2
    subst r2
    rw [join_emp] at dj1
    have ndx : dx ≠ b := fun z => by
      have := dj1 dx _ one_same
      rw [z, one_same] at this; cases this
    have hdx : H2 dx = some (exd dx ws) := b2.exM dx _ (join_l one_same)
    have hbx : H2 b = some (exo b C (some dx)) := b2.exM b _ (by rw [join_r (one_ne (Ne.symm ndx)), join_emp]; exact one_same)
    have n1 : H1 dx = none := by
      rcases b2.nM dx _ (join_l one_same) with z | ⟨w, z⟩
      · have z : upd H1 b (exo b C none) dx = none := z
        rw [upd_ne ndx] at z; exact z
      · have z : one b (exo b C none) dx = some w := z
        rw [one_ne ndx] at z; cases z
    refine ⟨rfl, dx, ws, hbx, hdx, n1, ?_⟩
    refine m.ex _ _ g _ σ _ (h dx) ?_
    have z := q2.frame dAM (lB := l) q.rs b2
    -- the exception goes, its dict stays
    have hF2b : F2 b = none := b2.dj.sym b _ (by rw [join_r (one_ne (Ne.symm ndx)), join_emp]; exact one_same)
    have hF2d : F2 dx = none := b2.dj.sym dx _ (join_l one_same)
    have nMdx : M dx = none := q.exM.free n1
    refine ⟨F2, join (one dx (.xd ws)) M, ?_, ?_, ?_, z.eF, z.nF, ?_, ?_, z.sl, z.tm, ⟨_, M, rfl, ?_, ⟨ws, fws, rfl⟩, q.rs.mono b2.eF⟩⟩
    · intro y o w
      have n1 : y ≠ b := fun e => by rw [e, hF2b] at w; cases w
      have n2 : y ≠ dx := fun e => by rw [e, hF2d] at w; cases w
      rw [upd_ne n2, del_ne n1]
      exact z.exF y o w
    · intro y o w
      rcases join_some w with w | ⟨w1, w⟩
      · obtain ⟨rfl, rfl⟩ := one_some w; exact upd_same
      · have n1 : y ≠ b := fun e => by rw [e, nM] at w; cases w
        have n2 : y ≠ dx := fun e => by rw [e, nMdx] at w; cases w
        rw [upd_ne n2, del_ne n1]
        refine z.exM y o ?_
        rw [join_r (by rw [join_r (one_ne n2), join_emp]; exact one_ne n1)]
        exact w
    · intro y o w
      have n2 : y ≠ dx := fun e => by rw [e, hF2d] at w; cases w
      rw [join_r (one_ne n2)]
      exact (join_none (z.dj y o w)).2
    · intro y o w
      rcases join_some w with w | ⟨w1, w⟩
      · obtain ⟨rfl, _⟩ := one_some w
        exact z.nM y (exd y ws) (join_l (join_l one_same))
      · exact q.nM y o w
    · intro y o h1 h2
      have n1' : y ≠ b := fun e => by
        have := q.fr y o h1 h2
        rw [e, hb1] at this; cases this
      have n2 : y ≠ dx := fun e => by
        have := q.fr y o h1 h2
        rw [e, n1] at this; cases this
      rw [upd_ne n2, del_ne n1']
      exact z.fr y o h1 h2
    · intro y o w
      obtain ⟨rfl, _⟩ := one_some w
      exact nMdx)
end
section
variable {X : Cx} {W : WX} {g g' : Gm} {l l' : List Res} {Φ : Po} {body rest : List Stmt} {x : Str} {C : Addr} {np pos pos' p1 : Pos} {e : Expr}
end
end Sx
set_option Elab.async false
set_option linter.all false
set_option maxRecDepth 100000
set_option maxHeartbeats 2000000
/-! Owned lists handed in; a list of owned lists; a reversed list. -/
namespace Sx
open PySem L2
section
variable {X : Cx} {W : WX} {g g' : Gm} {l l' : List Res} {Φ : Po} {e e2 a b c o : Expr} {es : List Expr} {d d1 d2 d3 : D} {ds ds1 ds2 : List D} {pos p p2 : Pos} {rest : List Stmt}
end
end Sx
set_option Elab.async false
set_option linter.all false
set_option maxRecDepth 100000
set_option maxHeartbeats 4000000
/-! Defs that may raise: what they raise is a datum of the model; caught ones are frozen data. -/
namespace Sx
open PySem L2 PyProof.Rows
structure Xd where
  C : Addr
  fs : List (Str × D)
/-- an exception as it flies -/
def XE (K : PySem.W.Frag) (x : Xd) (cls : Value) (dd : Option Addr) (l : List Res) : Prop := cls = .ref x.C ∧ (x.fs = [] ∧ dd = none ∧ l = [] ∨ ∃ dx, dd = some dx ∧ l = [ownXd K dx x.fs])
abbrev Xd.d (x : Xd) : D := .exc x.C x.fs
def Exr (X : Cx) (W : WX) (e : Expr) (g : Gm) (l : List Res) (x : Xd) : Prop := Exv X W e g l (fun _ _ => False) (fun cls dd l' => ∃ lx, XE X.K x cls dd lx ∧ l' = lx ++ l)
/-- what giving back or raising means; raised, what was owned stands as before -/
def XR {β ε : Type} (K : PySem.W.Frag) (own : List Res) (RT : β → Re) (xc : ε → Xd) : Except ε β → Re
  | .ok v => RT v
  | .error e => { rt := fun _ _ => False, ex := fun cls dd _ l => ∃ lx, XE K (xc e) cls dd lx ∧ l = lx ++ own }
abbrev SpX (K : PySem.W.Frag) {α β ε : Type} (ok : α → Prop) (args : α → List D) (own : α → List Res) (RT : α → β → Re) (m : α → Except ε β) (xc : ε → Xd) : Sp :=
  FnX K ok args own (fun a d l => (XR K (own a) (RT a) xc (m a)).rt d l) (fun a cls dd l => (XR K (own a) (RT a) xc (m a)).ex cls dd [] l)
abbrev SpN (K : PySem.W.Frag) {α β : Type} (ok : α → Prop) (args : α → List D) (own : α → List Res) (RT : α → β → Re) (m : α → β) : Sp := FnX K ok args own (fun a d l => (RT a (m a)).rt d l) noE
/-- an exception x from g, l on is what Φ takes -/
def ExTo (K : PySem.W.Frag) (x : Xd) (Φ : Po) (g : Gm) (l : List Res) : Prop := ∀ cls dd lx, XE K x cls dd lx → ∃ l2 junk, (lx ++ l).Perm (l2 ++ junk) ∧ Φ.ex cls dd g l2
def xb {ε α β : Type} (o : Except ε α) (k : α → β) (er : ε → β) : β := match o with | .ok v => k v | .error e => er e
section
variable {X : Cx} {W : WX} {g g' : Gm} {l l' own junk : List Res} {Φ : Po} {x : Xd} {e a b c o : Expr} {es : List Expr} {d d1 d2 : D} {pos p p2 apos : Pos} {rest sts : List Stmt}
theorem S.perm2 {K : PySem.W.Frag} {en : En} {T : Tm} {σ : L2.St} {H : Hp} {l l2 junk : List Res} (p : l.Perm (l2 ++ junk)) (s : S K en g T l σ H) : S K en g T l2 σ H := S.dropO (l' := junk) (S.perm (p.trans List.perm_append_comm) s)
/-- a block whose exceptions are told plainly -/
theorem Blk.exD (h : Blk X W sts g l { Φ with ex := fun cls dd g' l' => ∃ lx, XE X.K x cls dd lx ∧ g' = g ∧ l' = lx ++ l }) (hx : ExTo X.K x Φ g l) : Blk X W sts g l Φ := fun en T σ H D s m =>
  h en T σ H D s ⟨m.nx, m.rt, m.bk, m.ct, fun cls dd g' l' σ' H' q s' => by
    obtain ⟨lx, h1, rfl, rfl⟩ := q
    obtain ⟨l2, junk, p, h2⟩ := hx cls dd lx h1
    exact m.ex cls dd g' l2 σ' H' h2 (s'.perm2 p)⟩
theorem exto_of (p : l.Perm (own ++ junk)) (h : ∀ cls dd lx, XE X.K x cls dd lx → Φ.ex cls dd g (lx ++ own)) : ExTo X.K x Φ g l := fun cls dd lx q => ⟨lx ++ own, junk, by rw [List.append_assoc]; exact p.append_left lx, h cls dd lx q⟩
section
variable {β ε Ll Ss : Type} {RT : β → Re} {xc : ε → Xd} {e0 : ε} {GL : Ll → Gm} {RL : Ll → List Res} {NX : Ss → Gm → List Res → Prop}
theorem exto_rt (p : l.Perm (own ++ junk)) : ExTo X.K (xc e0) (Rt (XR X.K own RT xc) (.error e0)) g l := exto_of (X := X) p fun _ _ lx h => ⟨lx, h, rfl⟩
theorem exto_rv (p : l.Perm (own ++ junk)) : ExTo X.K (xc e0) (Rv (XR X.K own RT xc) (.error e0)) g l := exto_of (X := X) p fun _ _ lx h => ⟨lx, h, rfl⟩
theorem exto_ou (p : l.Perm (own ++ junk)) : ExTo X.K (xc e0) (Ou (XR X.K own RT xc) GL RL NX (.rt (.error e0))) g l := exto_of (X := X) p fun _ _ lx h => ⟨lx, h, rfl⟩
theorem exto_rt0 : ExTo X.K (xc e0) (Rt (XR X.K [] RT xc) (.error e0)) g l := exto_rt (own := []) (junk := l) (.refl _)
theorem exto_rv0 : ExTo X.K (xc e0) (Rv (XR X.K [] RT xc) (.error e0)) g l := exto_rv (own := []) (junk := l) (.refl _)
theorem exto_ou0 : ExTo X.K (xc e0) (Ou (XR X.K [] RT xc) GL RL NX (.rt (.error e0))) g l := exto_ou (own := []) (junk := l) (.refl _)
end
theorem bo_xb {ε α β : Type} {Om : β → Po} {o : Except ε α} {k : α → β} {er : ε → β} (h1 : ∀ v, o = .ok v → Bo X W sts g l Om (k v)) (h2 : ∀ e, o = .error e → Bo X W sts g l Om (er e)) : Bo X W sts g l Om (xb o k er) := by
  unfold xb
  cases o with
  | ok v => exact h1 v rfl
  | error e => exact h2 e rfl
/-! ### calls -/
theorem Exv.mono {Psi Psi' : D → List Res → Prop} {XP XP' : Value → Option Addr → List Res → Prop} (h : Exv X W e g l Psi XP) (h1 : ∀ d l, Psi d l → Psi' d l) (h2 : ∀ cls d l, XP cls d l → XP' cls d l) : Exv X W e g l Psi' XP' := fun en T σ H Q s k kx => h en T σ H Q s (fun v d l' H' p s' => k v d l' H' (h1 d l' p) s') fun cls d l' H' p s' => kx cls d l' H' (h2 cls d l' p) s'
theorem Exv.ev {Psi : D → List Res → Prop} (h : Exv X (fun _ _ _ _ => False) e g l Psi (fun _ _ _ => False)) : Ev X e g l Psi := fun en T σ H Q s k => h en T σ H Q s k fun _ _ _ _ p _ => p.elim
theorem Ev.pxR (h : Ev X e g l (fun d' l' => d' = d ∧ l' = l)) : Px X e g l d := fun en T σ H Q s k => h en T σ H Q s fun v d l' H' p s' => by
  obtain ⟨rfl, rfl⟩ := p
  exact k v H' s'
section
variable {α β ε : Type} {ok : α → Prop} {args : α → List D} {enc : β → D} {m : α → Except ε β} {xc : ε → Xd} {y : Str} {ps : List Str} {k j : Nat} {C : Addr} {mm : Str} {ds : List D} {pl : Sem Bool} {v : β} {e0 : ε}
theorem px_callOk (G : GloX X.prog X.w X.K X.mg X.base k y ps (SpX X.K ok args (fun _ => []) (fun _ => PuR enc) m xc)) (hr : Room j X.A) (hj : k ≤ j) (a : α) (hok : ok a) (hv : m a = .ok v) (ha : Pa X (e :: es) g l (args a))
    (hg : Gl X y := by rfl) (hdb : (y == ("__debug__" : Str)) = false := by decide) (he : starEach (e :: es) X.env = (false, eval e X.env) :: starEach es X.env := by rfl) (hpl : (backTo pos (starEach es X.env)).any (·.1) = false := by rfl) :
    Px X (.Call (.Name y p) (e :: es) [] pos) g l (enc v) :=
  Ev.pxR (Exv.ev (exv_call (lr := l) (own := fun _ => []) takes_no G hr hj a hok ha (fun d l' h => by rw [hv] at h; exact ⟨h.1, by rw [h.2]; rfl⟩) (fun cls d l' h => by rw [hv] at h; exact h) hg hdb he hpl))
theorem exr_call (tk : Takes X W) {RT : α → β → Re} (G : GloX X.prog X.w X.K X.mg X.base k y ps (SpX X.K ok args (fun _ => []) RT m xc)) (hr : Room j X.A) (hj : k ≤ j) (a : α) (hok : ok a) (hv : m a = .error e0) (ha : Pa X (e :: es) g l (args a))
    (hg : Gl X y := by rfl) (hdb : (y == ("__debug__" : Str)) = false := by decide) (he : starEach (e :: es) X.env = (false, eval e X.env) :: starEach es X.env := by rfl) (hpl : (backTo pos (starEach es X.env)).any (·.1) = false := by rfl) :
    Exr X W (.Call (.Name y p) (e :: es) [] pos) g l (xc e0) :=
  exv_call (lr := l) (own := fun _ => []) tk G hr hj a hok ha (fun d l' h => by rw [hv] at h; exact h) (fun cls d l' h => by
    rw [hv] at h
    obtain ⟨lx, h1, rfl⟩ := h
    exact ⟨lx, h1, by rw [List.append_nil]⟩) hg hdb he hpl
end
section
variable {α β ε : Type} {ok : α → Prop} {args : α → List D} {enc : β → D} {m : α → Except ε (List β)} {xc : ε → Xd} {y : Str} {ps : List Str} {k j : Nat} {C : Addr} {mm : Str} {ds : List D} {pl : Sem Bool} {v : List β}
theorem ev_callOkL (G : GloX X.prog X.w X.K X.mg X.base k y ps (SpX X.K ok args (fun _ => []) (fun _ => FrR X.K enc) m xc)) (hr : Room j X.A) (hj : k ≤ j) (a : α) (hok : ok a) (hv : m a = .ok v) (ha : Pa X (e :: es) g l (args a))
    (hg : Gl X y := by rfl) (hdb : (y == ("__debug__" : Str)) = false := by decide) (he : starEach (e :: es) X.env = (false, eval e X.env) :: starEach es X.env := by rfl) (hpl : (backTo pos (starEach es X.env)).any (·.1) = false := by rfl) :
    EvL X (.Call (.Name y p) (e :: es) [] pos) g l (v.map enc) :=
  Exv.ev (exv_call (lr := l) (own := fun _ => []) takes_no G hr hj a hok ha (fun d l' h => by
    rw [hv] at h
    obtain ⟨q, h1, rfl⟩ := h
    exact ⟨q, h1, rfl⟩) (fun cls d l' h => by rw [hv] at h; exact h) hg hdb he hpl)
end
/-! ### statements that raise -/
section
variable {β : Type} {Om : β → Po} {mo : β}
theorem bo_xexpr (he : Exr X W e g l x) (hx : ExTo X.K x (Om mo) g l) (hs : swapsWith e none pos.line X.env = pure false := by rfl) : Bo X W (.Expr e pos :: rest) g l Om mo := Blk.exD (x := x) (blk_exprX he (fun _ _ h => h.elim) (fun cls d l' ⟨lx, h, q⟩ => ⟨lx, h, rfl, q⟩) hs) hx
theorem bo_xset {i : Nat} {y : Str} {pos' : Pos} (hN : X.N.Nodup) (hi : X.N[i]? = some y) (hl : Loc X.env.scope y) (he : Exr X W e g l x) (hx : ExTo X.K x (Om mo) g l) (hs : swapsWith e (some (.Name y pos')) pos.line X.env = pure false := by rfl) (hf : X.fn y = true ∨ X.env.scope.names.lookup y = some .local := by first | exact .inl rfl | exact .inr rfl | assumption) :
    Bo X W (.Assign [.Name y pos'] e pos :: rest) g l Om mo := Blk.exD (x := x) (blk_setXX hN hi hl he (fun _ _ h => h.elim) (fun cls d l' ⟨lx, h, q⟩ => ⟨lx, h, rfl, q⟩) hs hf) hx
theorem bo_raiseI {α : Type} {ok : α → Prop} {args : α → List D} {fl : α → List (Str × D)} {y : Str} {C fI : Addr} {fd : FuncData} {ps : List Str} {kk j : Nat} {pr : Pos} (hc : X.calm = true) (tk : Takes X W) (x0 : Dxi X.K X.mg y C fI) (F1 : FnOk X.prog X.w X.K X.mg X.base CX0 kk fI fd ps (XiSp X.K C ok args fl)) (hb : Binds X.K fd ps []) (hr : Room j X.A) (hj : kk + 1 ≤ j)
    (a : α) (hok : ok a) (ha : Pa X (e :: es) g l (args a)) (hz : (args a).length ≤ 1000) (hx : ExTo X.K ⟨C, fl a⟩ (Om mo) g l)
    (hg : Gl X y := by rfl) (hdb : (y == ("__debug__" : Str)) = false := by decide) (he : starEach (e :: es) X.env = (false, eval e X.env) :: starEach es X.env := by rfl) (hpl : (backTo pos (starEach es X.env)).any (·.1) = false := by rfl) :
    Bo X W (.Raise (some (.Call (.Name y p) (e :: es) [] pos)) none pr :: rest) g l Om mo := Blk.exD (x := ⟨C, fl a⟩) (blk_raiseI hc tk x0 F1 hb hr hj a hok ha hz (fun dx => ⟨_, ⟨rfl, .inr ⟨dx, rfl, rfl⟩⟩, rfl, rfl⟩) hg hdb he hpl) hx
end
end
/-! ### try with several clauses that keep what they caught -/
/-- clauses 'except x as n: y = n': the class at c, the slots of n and y -/
inductive Hks (X : Cx) : List ExceptHandler → List (Value × Nat × Nat) → Prop
  | nil : Hks X [] []
  | cons {hs : List ExceptHandler} {ks : List (Value × Nat × Nat)} {x n y : Str} {c : Value} {i j : Nat} {np pos' py pn ap : Pos} (hi : X.N[i]? = some n) (hln : X.env.kindOf n = some .local) (hj : X.N[j]? = some y) (hly : X.env.kindOf y = some .local) (hij : i ≠ j)
    (hil : i < X.N.length) (hvn : Vis X.env.scope n) (hdn : (n == ("__debug__" : Str)) = false) (hcn : (n == ("__classdict__" : Str)) = false) (hc : Names X x c) (hsw : ∀ Y : Cx, Y.env = X.env → swapsWith (.Name n pn) (some (.Name y py)) ap.line Y.env = pure false) (h : Hks X hs ks) :
    Hks X (.ExceptHandler (some (.Name x np)) (some n) [.Assign [.Name y py] (.Name n pn) ap] pos' :: hs) ((c, i, j) :: ks)
def wKeeps (K : PySem.W.Frag) (Wout : WX) (D : Ends) : List (Value × Nat × Nat) → WX
  | [] => Wout
  | (c, i, j) :: ks => fun cls d σ H => ∃ b, PySem.W.exmOne K cls c = some b ∧ (b = true → ∀ a, H a = none → D.nx (((σ.set i (some (.ref a))).set j (some (.ref a))).set i none) (upd H a (exO a cls d))) ∧ (b = false → wKeeps K Wout D ks cls d σ H)
section
variable {X : Cx} {body : List Stmt} {pos : Pos} {tb : WX → TS} {Wout : WX}
theorem ps_try_keeps {hks : List ExceptHandler} {ks : List (Value × Nat × Nat)} (hr : Hks X hks ks) (hne : hks ≠ []) (hs : X.stack = X.env :: X.outer) (hf : X.env.frame = some X.env.locals) (hex : X.ex = []) (hN : X.N.Nodup) (tk : Takes X Wout)
    (hb : ∀ (W : WX) (pn : List (Addr × Obj)) (xe : Value → Shared → Prop), Takes (X.tr pn xe) W → PassesOwn (model X.prog X.w) X.A X.env xe → PSs (X.tr pn xe) body (tb W)) :
    PS X (.Try body hks [] [] pos) (fun D σ H => tb (wKeeps X.K Wout D ks) D σ H) := by
  refine ⟨fun pins s σ H D I h => ?_⟩
  have ok := I.ok
  have hfr : X.A.frames = some (X.env :: X.outer) := by rw [ok.frames, hs]
  obtain ⟨h0, hk0, rfl⟩ := List.exists_cons_of_ne_nil hne
  refine wpAny_Try_except ?_
  refine wpAny_mono ((hb (wKeeps X.K Wout D ks) (X.pn ++ pins) (fun e s₁ => wpAny (model X.prog X.w) X.A (noteFrame e X.env) (fun _ s₂ => wpAny (model X.prog X.w) X.A (setFlight e none) (fun _ s₃ =>
    wpAny (model X.prog X.w) X.A (handleBy e X.env (h0 :: hk0)) (SP X pins D) X.xe s₃) X.xe s₂) X.xe s₁) (fun u s' xx => ?_) PassesOwn.looking).run [] s σ H D (I.toTry _) h) (fun f s1 hsp => ?_) (fun e s1 he => he)
  · obtain ⟨a, B, sI, pins', σ', H', cls, d, rfl, J', nb, up, sky, na, os, ag, hww⟩ := xx
    have J : Inv X pins σ' H' sI := J'.ofTry ok
    have sky' : Sky B (X.env :: X.outer) a (Zc cls d) X.env.locals s'.heap := by rw [← hs]; exact sky
    show wpAny (model X.prog X.w) X.A (noteFrame (.ref a) X.env) _ _ _
    refine Sky.land Zc.steady hfr hf sky' fun h3 fl3 up3 => ?_
    have J3 : Inv X pins σ' H' { s' with heap := h3 } := J.landed nb fl3.1 (up.trans up3) os ag
    obtain ⟨oe3, vs3, he3, hz3, hd3⟩ := fl3.there
    have nfr : a ∉ frs (X.env :: X.outer) := fun hm => by
      obtain ⟨_, o', e', hnf⟩ := fl3.2.2.1.mem hm
      rw [he3] at e'; cases e'
      exact hnf _ hd3
    have nL : a ≠ X.env.locals := fun z => nfr (List.mem_filterMap.mpr ⟨X.env, List.mem_cons_self, by rw [hf, z]⟩)
    have nF : a ∉ X.fs := fun hm => by
      obtain ⟨e, he, q⟩ := List.mem_filterMap.mp hm
      exact nfr (List.mem_filterMap.mpr ⟨e, List.mem_cons_of_mem _ he, q⟩)
    have nS : a ∉ frs X.stack := by rw [hs]; exact nfr
    -- it was not there ahead
    have nI : sI.heap.get? a = none := by
      cases q : sI.heap.get? a with
      | none => rfl
      | some o => have z := nb a o q nS; rw [fl3.2.1] at z; cases z
    have n0 : X.s_0.heap.get? a = none := by
      cases q : X.s_0.heap.get? a with
      | none => rfl
      | some o =>
        obtain ⟨o', z⟩ := J.base.there a o q (by rw [hex]; exact fun z => nomatch z)
        rw [nI] at z; cases z
    have npn : ∀ p ∈ X.pn ++ pins, p.1 ≠ a := fun p hp e => by
      have z := (J.pin p hp).1
      rw [e, nI] at z; cases z
    have nc : ∀ x c, X.env.cells.lookup x = some c → c ≠ a := fun x c e z => by
      obtain ⟨v, oc, q, _⟩ := J.cell x c e
      rw [z, nI] at q; cases q
    have S3 := J3.suite he3 hd3 na nL nF
    have key : ∀ {hks : List ExceptHandler} {ks : List (Value × Nat × Nat)}, Hks X hks ks → wKeeps X.K Wout D ks cls d σ' H' → wpAny (model X.prog X.w) X.A (handleBy (.ref a) X.env hks) (SP X pins D) X.xe { s' with heap := h3 } := by
      intro hks ks rel
      induction rel with
      | nil =>
        intro hno
        refine wpAny_handleBy_nil ?_
        obtain ⟨k1, k2, k3, oe, vs, T, oT, ts', he, hz, hd, h1, hr⟩ := id fl3
        unfold PySem.passOn
        refine wpAny_bind (wpAny_field he hd h1 ?_)
        rw [if_neg (show ¬ ((Value.ref T == Value.none) = true) from by simp)]
        have fin : wpAny (model X.prog X.w) X.A (setFlight (.ref a) X.env.frame) (fun _ s4 => wpAny (model X.prog X.w) X.A (throw (.ref a) : Sem Flow) (SP X pins D) X.xe s4) X.xe { s' with heap := h3 } := by
          rw [hf]
          refine HandSPX.setFlight_upZ fl3 fun h4 hh4 up4 => wpAny_throw (tk _ _ ?_)
          exact ⟨a, B, sI, pins, σ', H', cls, d, rfl, J, nb, (up.trans up3).trans up4, .inr (.inr (by rw [hs]; exact hh4)), na, os, ag, hno⟩
        first
          | exact wpAny_bind (wpAny_pure (wpAny_bind fin))
          | exact wpAny_bind fin
      | @cons hs0 ks0 x n y c i j np pos' py pn ap hi hln hj hly hij hil hvn hdn hcn hc hsw rel ih =>
        intro hww
        obtain ⟨b, hb1, hyes, hno⟩ := hww
        have hloc : Loc X.env.scope n := .inl hln
        have hlocy : Loc X.env.scope y := .inl hly
        refine wpAny_handleBy_cons (codeAny_handlers_test ?_) (by intro q; cases q)
        have LT : PySem.W.Looks (model X.prog X.w) h3 (typeOf (.ref a)) cls := fun A Q E s k q => wpAny_typeOf_ref (k _ _ he3) (by rw [hz3.1]; exact q)
        have LM := PySem.W.exm_one (M := model X.prog X.w) (J3.kIn) LT hb1
        have test : ∀ {Q : Value → Shared → Prop} {E : Value → Shared → Prop}, Q c { s' with heap := h3 } → wpAny (model X.prog X.w) (X.A.mark (some (.ref a))) (eval (.Name x np) X.env) Q E { s' with heap := h3 } := fun {Q E} q => by
          obtain ⟨hg, hdbg, hm | ⟨hm, hv, hnn⟩⟩ := hc
          · exact ld_glob (X := X.suite a ((a, oe3) :: (X.pn ++ pins))) S3 hg hm q hdbg
          · exact ld_blt (X := X.suite a ((a, oe3) :: (X.pn ++ pins))) S3 hg hm hv q hnn hdbg
        refine test (LM.here ?_)
        cases b with
        | true =>
          refine codeAny_handlers_suite_as ?_
          refine HandSPX.lands_againZ fl3 fun h4 fl4 up4 => ?_
          have J4 : Inv X pins σ' H' { s' with heap := h4 } := J.landed nb fl4.1 ((up.trans up3).trans up4) os ag
          obtain ⟨oe4, vs4, he4, hz4, hd4⟩ := fl4.there
          have S4 := J4.suite he4 hd4 na nL nF
          refine store_ok (X := X.suite a ((a, oe4) :: (X.pn ++ pins))) (v := .ref a) S4 hN hi hloc rfl (fun s5 S5 => ?_) (.inr hln)
          have hvar : PE (X.suite a ((a, oe4) :: (X.pn ++ pins))) (.Name n pn) (tVar i) := pe_var hi hvn hdn hcn
          have hsu : PSs (X.suite a ((a, oe4) :: (X.pn ++ pins))) [.Assign [.Name y py] (.Name n pn) ap] (tAsg (tVar i) (gName j)) := pss_one (ps_set hN hj hlocy hvar (hsw _ rfl) (.inr hly))
          have hsl : i < (σ'.set i (some (.ref a))).length := by rw [List.length_set, J4.len]; exact hil
          refine wpAny_mono (hsu.run [] s5 _ H' { nx := fun σ6 H6 => σ6 = (σ'.set i (some (.ref a))).set j (some (.ref a)) ∧ H6 = H', rt := fun _ _ => False, bk := fun _ _ => False, ct := fun _ _ => False } S5 ⟨.ref a, by rw [List.getElem?_set_self (by rw [List.length_set] at hsl; exact hsl)], rfl, rfl⟩) (fun f s6 hsp => ?_) (fun _ _ z => False.elim z)
          cases f with
          | next =>
            obtain ⟨σ6, H6, S6, e6, e7⟩ := hsp
            subst e6; subst e7
            refine gone_ok (X := X.suite a ((a, oe4) :: (X.pn ++ pins))) S6 hN hi hln fun s7 I7 => ?_
            have g7 := (I7.pin (a, oe4) (by rw [List.append_nil]; exact List.mem_cons_self)).1
            exact ⟨_, _, inv_wide (I7.unsuite ok) n0 na npn nL nc (exO_ok g7 hz4 hd4), hyes rfl a na⟩
          | brk =>
            obtain ⟨_, _, _, z⟩ := hsp
            exact z.elim
          | cont =>
            obtain ⟨_, _, _, z⟩ := hsp
            exact z.elim
          | ret u =>
            obtain ⟨_, _, _, _, _, z⟩ := hsp
            exact z.elim
        | false =>
          exact ih (hno rfl)
    exact key hr hww
  · cases f with
    | next =>
      obtain ⟨σ', H', J', q⟩ := hsp
      exact wpAny_execs_nil ⟨σ', H', J'.ofTry ok, q⟩
    | brk =>
      obtain ⟨σ', H', J', q⟩ := hsp
      exact ⟨σ', H', J'.ofTry ok, q⟩
    | cont =>
      obtain ⟨σ', H', J', q⟩ := hsp
      exact ⟨σ', H', J'.ofTry ok, q⟩
    | ret u =>
      obtain ⟨v, σ', H', J', r, q⟩ := hsp
      exact ⟨v, σ', H', J'.ofTry ok, r, q⟩
end
section
variable {X : Cx} {W : WX} {g g' : Gm} {l l' : List Res} {Φ : Po} {x : Xd} {body rest : List Stmt} {pos : Pos}
/-- caught: frozen -/
theorem S.caught {K : PySem.W.Frag} {en : En} {T : Tm} {σ : L2.St} {H : Hp} {lx : List Res} {cls : Value} {dd : Option Addr} {a : Addr} (s : S K en g T (lx ++ l) σ H) (hx : XE K x cls dd lx) (ha : H a = none) (i j : Nat) :
    S K en (((g.set i none).set j (some x.d)).set i none) T l (((σ.set i (some (.ref a))).set j (some (.ref a))).set i none) (upd H a (exO a cls dd)) := by
  obtain ⟨rfl, h⟩ := hx
  obtain ⟨F, M, q⟩ := s
  have q1 := q.newO (r := ownX a (.ref x.C) dd) (A := one a (exO a (.ref x.C) dd)) (H' := upd H a (exO a (.ref x.C) dd)) (.new ha) (fun z o w => by obtain ⟨rfl, rfl⟩ := one_some w; exact upd_same) (fun z o w => by obtain ⟨rfl, rfl⟩ := one_some w; exact ha) rfl
  obtain ⟨F1, M1, q2, h1, e1⟩ := q1.frz (P := fun F' => F' a = some (exO a (.ref x.C) dd)) fun A hA => by
    have hA : A = one a (exO a (.ref x.C) dd) := hA
    subst hA
    have hF : F a = none := q.exF.free ha
    rw [join_r hF]; exact one_same
  rcases h with ⟨f0, rfl, rfl⟩ | ⟨dx, rfl, rfl⟩
  · have fd : Fd K F1 (.ref a) x.d := .exc h1 (.inl ⟨rfl, rfl⟩) (by rw [f0]; exact .nil)
    exact ⟨F1, M1, q2.slots ((((q2.sl.clear i).set j fd)).clear i)⟩
  · obtain ⟨F2, M2, q3, ⟨vs, h2, h3⟩, e2⟩ := q2.frz (P := fun F' => ∃ vs, F' dx = some (.xd vs) ∧ FdFs K F' vs x.fs) fun A hA => by
      obtain ⟨vs, f, rfl⟩ := hA
      have hF : F1 dx = none := by
        obtain ⟨A, B, hM, _, ⟨_, _, rfl⟩, _⟩ := q2.rs
        exact q2.dj.sym dx _ (by rw [hM]; exact join_l one_same)
      exact ⟨vs, by rw [join_r hF]; exact one_same, FdFs.mono (fun x o h => join_l h) _ f⟩
    have fd : Fd K F2 (.ref a) x.d := .exc (e2 _ _ h1) (.inr ⟨dx, rfl, h2⟩) h3
    exact ⟨F2, M2, q3.slots ((((q3.sl.clear i).set j fd)).clear i)⟩
def Catch (X : Cx) (W : WX) (rest : List Stmt) (g : Gm) (l : List Res) (Φ : Po) (x : Xd) : List (Addr × Nat × Nat) → Prop
  | [] => ExTo X.K x Φ g l
  | (C, i, j) :: ks => ∃ b, PySem.W.exmOne X.K (.ref x.C) (.ref C) = some b ∧ (b = true → Blk X W rest (((g.set i none).set j (some x.d)).set i none) l Φ) ∧ (b = false → Catch X W rest g l Φ x ks)
theorem catch_keeps {en : En} {T : Tm} {σ : L2.St} {H : Hp} {D : Ends} {cls : Value} {dd : Option Addr} {lx : List Res} (m : Mt X.K W en T Φ D) (hx : XE X.K x cls dd lx) (s : S X.K en g T (lx ++ l) σ H) : ∀ {ks : List (Addr × Nat × Nat)}, Catch X W rest g l Φ x ks → wKeeps X.K W { D with nx := wpS X rest D } (ks.map fun q => (.ref q.1, q.2.1, q.2.2)) cls dd σ H
  | [], h => by
    obtain ⟨l2, junk, p, h2⟩ := h cls dd lx hx
    exact m.ex cls dd g l2 σ H h2 (s.perm2 p)
  | (C, i, j) :: ks, h => by
    obtain ⟨b, h1, h2, h3⟩ := h
    have ec := hx.1
    subst ec
    exact ⟨b, h1, fun hb a ha => h2 hb en T _ _ D (s.caught hx ha i j) m, fun hb => catch_keeps m hx s (h3 hb)⟩
theorem blk_tryF {hks : List ExceptHandler} {ks : List (Addr × Nat × Nat)} (EX : Xd → Prop) (tk : Takes X W) (hN : X.N.Nodup) (hr : Hks X hks (ks.map fun q => (.ref q.1, q.2.1, q.2.2))) (hne : hks ≠ [])
    (hb : ∀ (W' : WX) (pn : List (Addr × Obj)) (xe : Value → Shared → Prop), Takes (X.tr pn xe) W' → PassesOwn (model X.prog X.w) X.A X.env xe → Blk (X.tr pn xe) W' body g l { Φ with nx := fun g' l' => Blk X W rest g' l' Φ, ex := fun cls dd g' l' => ∃ x lx, EX x ∧ XE X.K x cls dd lx ∧ g' = g ∧ l' = lx ++ l })
    (hx : ∀ x, EX x → Catch X W rest g l Φ x ks) (hs : X.stack = X.env :: X.outer := by rfl) (hf : X.env.frame = some X.env.locals := by rfl) (hex : X.ex = [] := by rfl) :
    Blk X W (.Try body hks [] [] pos :: rest) g l Φ := fun en T σ H D s m =>
  wpS_of (pss_cons (ps_try_keeps (tb := fun W' => fun D' σ' H' => ∀ pn xe, Takes (X.tr pn xe) W' → PassesOwn (model X.prog X.w) X.A X.env xe → wpS (X.tr pn xe) body D' σ' H') hr hne hs hf hex hN tk
    (fun W' pn xe t1 t2 => ⟨fun pins s1 σ1 H1 D1 I h => h pn xe t1 t2 pins s1 I⟩)) pss_wp) (fun pn xe t1 t2 => by
      refine hb _ pn xe t1 t2 en T σ H _ s ⟨fun g' l' σ' H' p s' => p en T σ' H' D s' m, m.rt, m.bk, m.ct, fun cls d g' l' σ' H' p s' => ?_⟩
      obtain ⟨x, lx, h1, h2, rfl, rfl⟩ := p
      exact catch_keeps m h2 s' (hx x h1))
end
/-! ### try, its model -/
/-- a try's body: raised, what was known and owned stands as ahead -/
def XT {β ε : Type} (K : PySem.W.Frag) (g0 : Gm) (l0 : List Res) (RT : β → Re) (xc : ε → Xd) : Except ε β → Re
  | .ok v => RT v
  | .error e => { rt := fun _ _ => False, ex := fun cls dd g l => ∃ lx, XE K (xc e) cls dd lx ∧ g = g0 ∧ l = lx ++ l0 }
def tryN {Rr ε Ll Ss : Type} (tb : Cf (Except ε Rr) Ll Ss) (h : ε → Ss) : Cf Rr Ll Ss := match tb with
  | .nx s => .nx s | .rt (.ok r) => .rt r | .rt (.error e) => .nx (h e) | .bk s => .bk s | .ct s => .ct s
def tryK {Rr ε Ll Ss : Type} (tb : Cf (Except ε Rr) Ll Ss) (c : ε → Bool) (h : ε → Ss) : Cf (Except ε Rr) Ll Ss := match tb with
  | .rt (.error e) => cond (c e) (.nx (h e)) (.rt (.error e)) | o => o
section
variable {X : Cx} {W : WX} {g g' : Gm} {l l' : List Res} {body rest : List Stmt} {pos : Pos} {Rr ε Ll Ss S1 : Type} {RT : Rr → Re} {xc : ε → Xd} {GL : Ll → Gm} {RL : Ll → List Res} {NX : Ss → Gm → List Res → Prop} {e0 : ε}
theorem exto_xt : ExTo X.K (xc e0) (Ou (XT X.K g l RT xc) GL RL NX (.rt (.error e0))) g l := fun cls dd lx h => ⟨lx ++ l, [], by rw [List.append_nil], lx, h, rfl, rfl⟩
theorem try_core {hks : List ExceptHandler} {ks : List (Addr × Nat × Nat)} {tb : Cf (Except ε Rr) Ll S1} {Φ : Po} (G : S1 → Gm) (R : S1 → List Res) (tk : Takes X W) (hN : X.N.Nodup) (hr : Hks X hks (ks.map fun q => (.ref q.1, q.2.1, q.2.2))) (hne : hks ≠ [])
    (hb : ∀ (W' : WX) (pn : List (Addr × Obj)) (xe : Value → Shared → Prop), Takes (X.tr pn xe) W' → PassesOwn (model X.prog X.w) X.A X.env xe → Bo (X.tr pn xe) W' body g l (Ou (XT X.K g l RT xc) GL RL (NxP G R)) tb)
    (hnx : ∀ s, tb = .nx s → Blk X W rest (G s) (R s) Φ) (hrt : ∀ r, tb = .rt (.ok r) → (∀ d l, (RT r).rt d l → Φ.rt d l) ∧ ∀ c d g l, (RT r).ex c d g l → False) (hbk : ∀ s, tb = .bk s → ∀ g l, g = GL s ∧ l = RL s → Φ.bk g l) (hct : ∀ s, tb = .ct s → ∀ g l, g = GL s ∧ l = RL s → Φ.ct g l)
    (hx : ∀ e, tb = .rt (.error e) → Catch X W rest g l Φ (xc e) ks) (hs : X.stack = X.env :: X.outer) (hf : X.env.frame = some X.env.locals) (hex : X.ex = []) :
    Blk X W (.Try body hks [] [] pos :: rest) g l Φ := by
  refine blk_tryF (fun x => ∃ e, tb = .rt (.error e) ∧ x = xc e) tk hN hr hne (fun W' pn xe t1 t2 => ?_) (fun x ⟨e, h1, h2⟩ => by subst h2; exact hx e h1) hs hf hex
  have z := hb W' pn xe t1 t2
  unfold Bo at z
  cases tb with
  | nx s => exact z.imp (fun g' l' hh => by obtain ⟨w, q⟩ := hh; subst w; subst q; exact hnx s rfl) (fun _ _ h => h.elim) (fun _ _ h => h.elim) (fun _ _ h => h.elim) (fun _ _ _ _ h => h.elim)
  | bk s => exact z.imp (fun _ _ h => h.elim) (fun _ _ h => h.elim) (fun g l h => hbk s rfl g l h) (fun _ _ h => h.elim) (fun _ _ _ _ h => h.elim)
  | ct s => exact z.imp (fun _ _ h => h.elim) (fun _ _ h => h.elim) (fun _ _ h => h.elim) (fun g l h => hct s rfl g l h) (fun _ _ _ _ h => h.elim)
  | rt r => cases r with
    | ok r => exact z.imp (fun _ _ h => h.elim) (fun d l h => (hrt r rfl).1 d l h) (fun _ _ h => h.elim) (fun _ _ h => h.elim) (fun c d g l h => ((hrt r rfl).2 c d g l h).elim)
    | error e => exact z.imp (fun _ _ h => h.elim) (fun _ _ h => h.elim) (fun _ _ h => h.elim) (fun _ _ h => h.elim) (fun c d g l h => by
        obtain ⟨lx, h1, h2, h3⟩ := h
        exact ⟨_, lx, ⟨e, rfl, rfl⟩, h1, h2, h3⟩)
/-- the state behind a clause -/
abbrev after (g : Gm) (i j : Nat) (x : Xd) : Gm := ((g.set i none).set j (some x.d)).set i none
/-- in a def that does not raise: all is caught -/
theorem bo_tryNV {hks : List ExceptHandler} {ks : List (Addr × Nat × Nat)} {GL : Empty → Gm} {RL : Empty → List Res} {tb : Cf (Except ε Rr) Empty S1} {h' : ε → S1} {k : S1 → Rr} (G : S1 → Gm) (R : S1 → List Res) (i j : Nat) (tk : Takes X W) (hN : X.N.Nodup) (hr : Hks X hks (ks.map fun q => (.ref q.1, q.2.1, q.2.2))) (hne : hks ≠ [])
    (hb : ∀ (W' : WX) (pn : List (Addr × Obj)) (xe : Value → Shared → Prop), Takes (X.tr pn xe) W' → PassesOwn (model X.prog X.w) X.A X.env xe → Bo (X.tr pn xe) W' body g l (Ou (XT X.K g l RT xc) GL RL (NxP G R)) tb)
    (hnr : ∀ r c d g l, (RT r).ex c d g l → False) (hc : ∀ e Q, tb = .rt (.error e) → Blk X W rest (after g i j (xc e)) l Q → Catch X W rest g l Q (xc e) ks) (hg : ∀ e, tb = .rt (.error e) → Wk (after g i j (xc e)) (G (h' e)) ∧ l = R (h' e))
    (h : ∀ s, tryN tb h' = .nx s → Bo X W rest (G s) (R s) (Rt RT) (k s)) (hs : X.stack = X.env :: X.outer := by rfl) (hf : X.env.frame = some X.env.locals := by rfl) (hex : X.ex = [] := by rfl) : Bo X W (.Try body hks [] [] pos :: rest) g l (Rt RT) (bndV (tryN tb h') k) := by
  refine try_core G R tk hN hr hne hb (fun s e => ?_) (fun r e => ⟨fun d l z => ?_, fun c d g l z => hnr r c d g l z⟩) (fun s _ => nomatch s) (fun s _ => nomatch s) (fun e he => ?_) hs hf hex
  · subst e; exact h s rfl
  · subst e; exact z
  · have hg0 := hg e he
    clear hg
    refine hc e _ he ?_
    subst he
    have z := h (h' e) rfl
    rw [← hg0.2] at z
    exact Blk.weak hg0.1 z
/-- one clause, two clauses that take all -/
theorem catch1 {C : Addr} {i j : Nat} {x : Xd} {Q : Po} (h1 : PySem.W.exmOne X.K (.ref x.C) (.ref C) = some true) (z : Blk X W rest (after g i j x) l Q) : Catch X W rest g l Q x [(C, i, j)] := ⟨true, h1, fun _ => z, fun h => by cases h⟩
end
/-! ### what a caught one is -/
/-- the type of what stands at v -/
def TyE (K : PySem.W.Frag) (H : Hp) (v : V) (t : Value) : Prop := TyX K H v t ∨ ∃ (a D : Addr) (d : Option Addr) (vs : List (Str × V)), v = .ref a ∧ t = .ref D ∧ H a = some (exO a (.ref D) d) ∧ (d = none ∧ vs = [] ∨ ∃ dx, d = some dx ∧ H dx = some (.xd vs)) ∧ ExcC K D
theorem exO_instD {P : Program} {w : World} {H : Hp} {h : Heap} {a D : Addr} {d : Option Addr} {vs : List (Str × V)} (hok : HOk P w H h) (ha : H a = some (exO a (.ref D) d)) (hd : d = none ∧ vs = [] ∨ ∃ dx, d = some dx ∧ H dx = some (.xd vs)) :
    ∃ oe od, PySem.W.InstAt h a oe D od ∧ (∀ f v, vs.lookup f = some v → ∃ o u, od = some o ∧ PySem.W.lookIn f o = some (some u) ∧ RelV v u) := by
  have x : ObjOk P w H h a (exO a (.ref D) d) := hok a _ ha
  obtain ⟨⟨oe, h1, h2, ws, h3⟩, _⟩ := x
  have nc : PySem.W.notCls oe = true := by unfold PySem.W.notCls; rw [h3] <;> rfl
  rcases hd with ⟨rfl, rfl⟩ | ⟨dx, rfl, hdx⟩
  · exact ⟨oe, none, ⟨h1, h2.1, nc, by rw [h2.2]; trivial⟩, fun f v e => by cases e⟩
  · have hx : ObjOk P w H h dx (.xd vs) := hok dx _ hdx
    obtain ⟨mA, hns, hr⟩ := hx
    obtain ⟨od, ho, hl⟩ := lookIn_ns hns
    refine ⟨oe, some od, ⟨h1, h2.1, nc, by rw [h2.2]; exact ho⟩, fun f v e => ?_⟩
    obtain ⟨u, hu, ru⟩ := RelO.some_of (v := v) (o := mA f) (by rw [← e]; exact hr f)
    exact ⟨od, u, rfl, by rw [hl, hu], ru⟩
section
variable {X : Cx} {W : WX} {g g' : Gm} {l l' : List Res} {e o : Expr} {d d1 d2 : D} {pos p p2 : Pos}
theorem kit_ofE {pins : List (Addr × Obj)} {σ : L2.St} {H : Hp} {s : Shared} {x : V} {u t : Value} (I : Inv X pins σ H s) (rx : RelV x u) (ty : TyE X.K H x t) : ∃ P : Heap → Prop, PySem.W.KitX X.K u t P ∧ P s.heap ∧ u ≠ .builtin "__main__.__loader__#opaque" := by
  rcases ty with ty | ⟨a, D, d, vs, rfl, rfl, ha, hd, ec⟩
  · exact kit_of I rx ty
  · cases (show u = Value.ref a from rx)
    obtain ⟨oe, od, J, _⟩ := exO_instD I.hok ha hd
    have hcl : (PySem.W.clsIn X.K D).isSome = true := by
      obtain ⟨cd, hc, _⟩ := PySem.W.any_some ec.hd
      rw [hc]; rfl
    exact ⟨_, PySem.W.kitx_exc hcl ec.hg ec.hk ec.hs ec.ha ec.hn ec.ht ec.hm, J, fun z => nomatch z⟩
def rIsE (K : PySem.W.Frag) : List V → Hp → VK → Prop := fun xs H Q => ∃ (x c : V) (t cv : Value) (b : Bool), xs = [x, c] ∧ ClsV c cv ∧ TyE K H x t ∧ PySem.W.kitOne K t cv = some b ∧ Q (.bl b) H
def rIsET (K : PySem.W.Frag) : List V → Hp → VK → Prop := fun xs H Q => ∃ (x : V) (t : Value) (tp : Addr) (cs : List V) (ws : List Value) (b : Bool), xs = [x, .ref tp] ∧ TyE K H x t ∧ SqT K H tp cs ∧ Paired ClsV cs ws ∧ PySem.W.kitAny K t ws = some b ∧ Q (.bl b) H
theorem call_isE : CallR X (.builtin "isinstance") (rIsE X.K) := by
  intro pins s σ H xs us Q I r h
  obtain ⟨x, c, t, cv, b, rfl, k, ty, e, q⟩ := h
  obtain ⟨u1, u2, rfl, r1, r2⟩ := vals2 r
  have e2 := k.eq r2
  subst e2
  obtain ⟨P, Z, p, hx⟩ := kit_ofE I r1 ty
  exact PySem.W.kia_one Z I.kIn p e hx fun tk => ⟨.bl b, H, I.tok tk, rfl, q⟩
theorem Fd.tyE {K : PySem.W.Frag} {F H : Hp} {v : V} {C : Addr} {fs : List (Str × D)} (e : Ex F H) (f : Fd K F v (.exc C fs)) (ec : ExcC K C) : TyE K H v (.ref C) := by
  cases f with
  | @exc a _ vs _ d h1 h2 h3 => exact .inr ⟨a, C, d, vs, rfl, rfl, e _ _ h1, h2.imp id fun ⟨dx, q1, q2⟩ => ⟨dx, q1, e _ _ q2⟩, ec⟩
/-- a class as a value -/
inductive ClsD : D → Value → Prop
  | own (C : Addr) : ClsD (.adr C) (.ref C)
  | ty (n : String) : ClsD (.ty n) (.type n)
theorem ClsD.v {K : PySem.W.Frag} {F : Hp} {c : D} {cv : Value} {v : V} (k : ClsD c cv) (f : Fd K F v c) : ClsV v cv := by
  cases k with
  | own C => cases f; exact .own C
  | ty n => cases f; exact .ty n
theorem o_isE {C : Addr} {fs : List (Str × D)} {c : D} {cv : Value} {b : Bool} (ec : ExcC X.K C) (k : ClsD c cv) (h : PySem.W.kitOne X.K (.ref C) cv = some b) : OpN X.K l (rIsE X.K) [.exc C fs, c] (.bl b) := fun F M H vs Q eF eM dj rs f kk => by
  cases f with
  | cons f1 f2 => cases f2 with
    | cons f2 f3 =>
      cases f3
      exact ⟨_, _, _, cv, b, rfl, k.v f2, f1.tyE eF ec, h, kk _ F H (.rf eF) (.bl _)⟩
theorem o_isEn {c : D} {cv : Value} {b : Bool} (k : ClsD c cv) (h : PySem.W.kitOne X.K (.type "NoneType") cv = some b) : OpN X.K l (rIsE X.K) [.non, c] (.bl b) := fun F M H vs Q eF eM dj rs f kk => by
  cases f with
  | cons f1 f2 => cases f2 with
    | cons f2 f3 =>
      cases f3
      exact ⟨_, _, _, cv, b, rfl, k.v f2, .inl (f1.tyx eF rfl), h, kk _ F H (.rf eF) (.bl _)⟩
/-- isinstance(kept, C), kept an exception or None -/
theorem px_isX {ε : Type} {xc : ε → Xd} {o : Option ε} {ce : Expr} {c : D} {cv : Value} {q : ε → Bool} (z : X.mg "isinstance" = none) (h : Px X e g l (optE (fun x => (xc x).d) o)) (hcl : Px X ce g l c) (k : ClsD c cv) (ec : ∀ x, ExcC X.K (xc x).C) (hk : ∀ x, PySem.W.kitOne X.K (.ref (xc x).C) cv = some (q x)) (hn : PySem.W.kitOne X.K (.type "NoneType") cv = some false)
    (hg : Gl X "isinstance" := by rfl) (hs : starEach [e, ce] X.env = (false, eval e X.env) :: starEach [ce] X.env := by rfl) (hs2 : starEach [ce] X.env = [(false, eval ce X.env)] := by rfl) (hpl : (backTo pos (starEach [ce] X.env)).any (·.1) = false := by rfl) :
    Px X (.Call (.Name "isinstance" p) [e, ce] [] pos) g l (.bl (o.any q)) := by
  cases o with
  | none => exact px_bi call_isE z (pa_c h (pa_c hcl pa_n hs2) hs) (o_isEn k hn) hg (by decide +kernel) (by decide) (by decide) hs hpl
  | some x => exact px_bi call_isE z (pa_c h (pa_c hcl pa_n hs2) hs) (o_isE (ec x) k (hk x)) hg (by decide +kernel) (by decide) (by decide) hs hpl
/-- kept.f -/
def tXg (K : PySem.W.Frag) (f : Str) (te : TE) : TE := fun σ H Q => te σ H fun x H1 => ∃ (a C : Addr) (d : Option Addr) (vs : List (Str × V)) (v : V), x = .ref a ∧ H1 a = some (exO a (.ref C) d) ∧ (d = none ∧ vs = [] ∨ ∃ dx, d = some dx ∧ H1 dx = some (.xd vs)) ∧ ExcC K C ∧ PySem.W.findIn K (.ref C) f = some none ∧ vs.lookup f = some v ∧ Q v H1
theorem pe_xg {te : TE} {n : Str} (he : PE X e te) (hb : attributeBase e n X.env (eval e X.env) = eval e X.env := by rfl) : PE X (.Attribute e n pos) (tXg X.K n te) := by
  refine ⟨fun pins s σ H Q I h => ?_⟩
  refine attr_of hb (thn (he.run pins s σ H _ I h) fun u s1 hh => ?_)
  obtain ⟨x, H1, I1, rx, a, C, d, vs, v, ex, ha, hd, ec, hno, l, q⟩ := hh
  subst ex
  obtain rfl : u = Value.ref a := rx
  obtain ⟨oe, od, J, hl⟩ := exO_instD I1.hok ha hd
  obtain ⟨o, u, rfl, h1, ru⟩ := hl n v l
  exact HandSPX.exc_get I1.kIn J ec.hg ec.hk ec.hs (PySem.W.findObj_own ec.hd hno rfl h1) (handed_of ru) ⟨v, H1, I1.tok _, ru, q⟩
theorem px_xf {C : Addr} {fs : List (Str × D)} {f : Str} (ho : Px X o g l (.exc C fs)) (ec : ExcC X.K C) (hn : PySem.W.findIn X.K (.ref C) f = some none) (hl : fs.lookup f = some d) (hb : attributeBase o f X.env (eval o X.env) = eval o X.env := by rfl) : Px X (.Attribute o f pos) g l d := fun en T σ H Q s k => wpE_of (pe_xg pe_wp hb) (by
  refine ho en T σ H _ s fun v H1 s1 => ?_
  obtain ⟨F, M, q⟩ := s1
  obtain ⟨hf, ht⟩ := q.tm
  cases hf with
  | @exc a _ vs _ d0 h1 h2 h3 =>
    obtain ⟨v, e1, e2⟩ := h3.look hl
    exact ⟨a, C, d0, vs, v, rfl, q.exF _ _ h1, h2.imp id fun ⟨dx, q1, q2⟩ => ⟨dx, q1, q.exF _ _ q2⟩, ec, hn, e1, k v H1 ⟨F, M, q.tmp ⟨e2, ht⟩⟩⟩)
end
/-! ### for the walker -/
section
variable {X : Cx} {W : WX} {g g' : Gm} {l l' own junk : List Res} {sts : List Stmt} {Rr ε Ll Ss : Type} {RT : Rr → Re} {xc : ε → Xd} {GL : Ll → Gm} {RL : Ll → List Res} {NX : Ss → Gm → List Res → Prop} {v : Rr}
theorem bo_ok (h : Bo X W sts g l (Rt RT) v) : Bo X W sts g l (Rt (XR X.K own RT xc)) (.ok v) := h
end
/-- an exception class under its name with its own __init__ -/
def GloXi (P : Program) (w : World) (K : PySem.W.Frag) (mg : Str → Option Value) (base : Heap) (k : Nat) (C : Addr) (x : Str) (ps : List Str) (sp : Sp) : Prop := ∃ f fd, FnOk P w K mg base CX0 k f fd ps sp ∧ Dxi K mg x C f ∧ Binds K fd ps []
theorem bo_raiseG {X : Cx} {W : WX} {g : Gm} {l : List Res} {e : Expr} {es : List Expr} {pos p : Pos} {rest : List Stmt} {β : Type} {Om : β → Po} {mo : β} {α : Type} {ok : α → Prop} {args : α → List D} {fl : α → List (Str × D)} {y : Str} {C : Addr} {ps : List Str} {kk j : Nat} {pr : Pos} (hc : X.calm = true) (tk : Takes X W) (G : GloXi X.prog X.w X.K X.mg X.base kk C y ps (XiSp X.K C ok args fl)) (hr : Room j X.A) (hj : kk + 1 ≤ j)
    (a : α) (hok : ok a) (ha : Pa X (e :: es) g l (args a)) (hz : (args a).length ≤ 1000) (hx : ExTo X.K ⟨C, fl a⟩ (Om mo) g l)
    (hg : Gl X y := by rfl) (hdb : (y == ("__debug__" : Str)) = false := by decide) (he : starEach (e :: es) X.env = (false, eval e X.env) :: starEach es X.env := by rfl) (hpl : (backTo pos (starEach es X.env)).any (·.1) = false := by rfl) :
    Bo X W (.Raise (some (.Call (.Name y p) (e :: es) [] pos)) none pr :: rest) g l Om mo := by
  obtain ⟨f, fd, F, x0, hb⟩ := G
  exact bo_raiseI hc tk x0 F hb hr hj a hok ha hz hx hg hdb he hpl
def okv {ε α : Type} (o : Except ε α) (d : α) : α := match o with | .ok v => v | .error _ => d
end Sx
set_option Elab.async false
set_option linter.all false
set_option maxRecDepth 100000
set_option maxHeartbeats 4000000
/-! Owned instances: what they own stands beside them; defs that are handed owned things. -/
namespace Sx
open PySem L2 PyProof.Rows
/-- what a def gives back with what is owned then: for some addresses i -/
abbrev OwnR {ι Rr : Type} (dd : ι → Rr → D) (ll : ι → Rr → List Res) : Rr → Re := fun r => { rt := fun d l => ∃ i, d = dd i r ∧ l = ll i r }
theorem putD_hd {f : Str} {d x : D} {r : List (Str × D)} : putD f d ((f, x) :: r) = (f, d) :: r := by unfold putD; rw [if_pos rfl]
theorem putD_tl {f g : Str} {d x : D} {r r' : List (Str × D)} (h : putD f d r = r') (n : g ≠ f := by decide +kernel) : putD f d ((g, x) :: r) = (g, x) :: r' := by
  show (if g = f then _ else _) = _
  rw [if_neg n, h]
theorem putD_nil {f : Str} {d : D} : putD f d [] = [(f, d)] := rfl
section
variable {X : Cx} {W : WX} {g g' : Gm} {l l' l2 lr : List Res} {Φ : Po} {e a b c o : Expr} {es : List Expr} {d d1 d2 : D} {pos p p2 apos : Pos} {rest sts : List Stmt}
theorem Px.perm (q : l.Perm l2) (h : Px X e g l2 d) : Px X e g l d := fun en T σ H Q s k => h en T σ H Q (s.perm q) fun v H' s' => k v H' (s'.perm q.symm)
theorem Ev.perm {Psi : D → List Res → Prop} (q : l.Perm l2) (h : Ev X e g l2 Psi) : Ev X e g l Psi := fun en T σ H Q s k => h en T σ H Q (s.perm q) k
theorem Exv.perm {Psi : D → List Res → Prop} {XP : Value → Option Addr → List Res → Prop} (q : l.Perm l2) (h : Exv X W e g l2 Psi (fun cls dd l' => ∃ lx, XP cls dd lx ∧ l' = lx ++ l2)) : Exv X W e g l Psi (fun cls dd l' => ∃ lx, XP cls dd lx ∧ l' = lx ++ l) := fun en T σ H Q s k kx => h en T σ H Q (s.perm q) k fun cls dd l' H' z s' => by
  obtain ⟨lx, h1, rfl⟩ := z
  exact kx cls dd _ H' ⟨lx, h1, rfl⟩ (s'.perm (q.symm.append_left lx))
/-! ### calls -/
section
variable {α β ι ε : Type} {ok : α → Prop} {args : α → List D} {own : α → List Res} {dd : α → ι → β → D} {ll : α → ι → β → List Res} {y mm : Str} {ps : List Str} {k j : Nat} {C : Addr} {ds : List D} {pl : Sem Bool}
theorem ev_methO {m : α → β} {k0 : Nat} {q0 : Addr} {fs : List (Str × D)} (G : GloM X.prog X.w X.K X.mg X.base k C mm ps (SpN X.K ok args own (fun a => OwnR (dd a) (ll a)) m)) (hr : Room j X.A) (hj : k ≤ j) (a : α) (hok : ok a) (q : l.Perm (own a ++ lr)) (ho : Px X o g (own a ++ lr) (.adr q0)) (hk : (own a ++ lr)[k0]? = some (ownI X.K q0 C fs)) (hl : fs.lookup mm = none) (ha : Pa X (e :: es) g (own a ++ lr) ds) (hds : args a = .adr q0 :: ds)
    (hst : starEach (e :: es) X.env = (false, eval e X.env) :: starEach es X.env := by rfl) (hpl : (backTo pos (starEach es X.env)).any (·.1) = false := by rfl) (ht : MthE X o mm apos pos (e :: es) pl := by rfl) :
    Ev X (.Call (.Attribute o mm apos) (e :: es) [] pos) g l (fun d l' => ∃ i, d = dd a i (m a) ∧ l' = ll a i (m a) ++ lr) :=
  Ev.perm q (ev_meth G hr hj a hok ho (rc_own hk hl) ha hds (fun d l' ⟨i, h1, h2⟩ => ⟨i, h1, by rw [h2]⟩) hst hpl ht)
end
/-! ### statements -/
section
variable {α β ι : Type} {Om : β → Po} {mo : β} {k : α → β} {s0 : α}
/-- x = e, e gives something owned -/
theorem bo_setO {i : Nat} {y : Str} {pos' : Pos} {dd : ι → α → D} {ll : ι → α → List Res} (hN : X.N.Nodup) (hi : X.N[i]? = some y) (hx : Loc X.env.scope y) (he : Ev X e g l (fun d l' => ∃ j, d = dd j s0 ∧ l' = ll j s0)) (h : ∀ j s, s = s0 → Bo X W rest (g.set i (some (dd j s))) (ll j s) Om (k s))
    (hs : swapsWith e (some (.Name y pos')) pos.line X.env = pure false := by rfl) (hf : X.fn y = true ∨ X.env.scope.names.lookup y = some .local := by first | exact .inl rfl | exact .inr rfl | assumption) :
    Bo X W (.Assign [.Name y pos'] e pos :: rest) g l Om (lt s0 k) := blk_setX hN hi hx he (fun d l' ⟨j, e1, e2⟩ => by subst e1; subst e2; exact h j s0 rfl) hs hf
/-- a statement that changes what is owned -/
theorem bo_doO {dd : ι → α → D} {ll : ι → α → List Res} (he : Ev X e g l (fun d l' => ∃ j, d = dd j s0 ∧ l' = ll j s0)) (h : ∀ j s, s = s0 → Bo X W rest g (ll j s) Om (k s)) (hs : swapsWith e none pos.line X.env = pure false := by rfl) : Bo X W (.Expr e pos :: rest) g l Om (lt s0 k) := blk_expr he (fun d l' ⟨j, _, e2⟩ => by subst e2; exact h j s0 rfl) hs
/-- a target taken apart, the right side giving something owned -/
theorem blk_fldX {C q : Addr} {f : Str} {pos' : Pos} {Psi : D → List Res → Prop} (he : Ev X e g l Psi) (hc : Cls X.K C) (hn : NoAttr X.K C f) (h : ∀ d l', Psi d l' → Px X o g l' (.adr q) ∧ ∃ n fs, l'[n]? = some (ownI X.K q C fs) ∧ fs.length < 1000 ∧ Blk X W rest g (l'.set n (ownI X.K q C (putD f d fs))) Φ)
    (hs : swapsWith e (some (.Attribute o f pos')) pos.line X.env = pure false := by rfl) : Blk X W (.Assign [.Attribute o f pos'] e pos :: rest) g l Φ := fun en T σ H D s m => wpS_of (pss_cons (ps_fld pe_wp pe_wp hs) pss_wp) (by
  refine he en T σ H _ s fun v d l' H1 hp s1 => ?_
  obtain ⟨ho, n, fs, hk, hz, h⟩ := h d l' hp
  refine ho en _ σ H1 _ s1 fun u H2 s2 => ?_
  obtain ⟨F, M, q2⟩ := s2
  have fu := q2.tm.1
  cases fu
  obtain ⟨dx, vs, ff, hp⟩ := q2.rs.ins hk q2.exM
  refine ⟨q, C, dx, vs, rfl, hp, hc, hn, by rw [ff.length]; exact hz, ?_⟩
  obtain ⟨M', q'⟩ := (q2.tmp (T' := T) q2.tm.2.2).putI hk hp (ff.put q2.tm.2.1)
  exact h en T σ _ D ⟨F, M', q'⟩ m)
/-- self.f = e, frozen -/
theorem bo_fldF {n : Nat} {C q : Addr} {fs : List (Str × D)} {fs' : α → List (Str × D)} {f : Str} {pos' : Pos} (enc : α → D) (he : Px X e g l (enc s0)) (ho : Px X o g l (.adr q)) (hk : l[n]? = some (ownI X.K q C fs)) (hc : Cls X.K C) (hn : NoAttr X.K C f) (hp : ∀ y, putD f (enc y) fs = fs' y) (h : ∀ y, y = s0 → Bo X W rest g (l.set n (ownI X.K q C (fs' y))) Om (k y))
    (hz : fs.length < 1000 := by exact Nat.le_of_ble_eq_true rfl) (hs : swapsWith e (some (.Attribute o f pos')) pos.line X.env = pure false := by rfl) : Bo X W (.Assign [.Attribute o f pos'] e pos :: rest) g l Om (lt s0 k) := blk_fld he ho hk hc hn hz (by
  have := h s0 rfl
  rw [← hp] at this
  exact this) hs
/-- self.f = e, e gives something owned -/
theorem bo_fldO {n : ι → Nat} {C q : Addr} {fs : List (Str × D)} {fs' : ι → α → List (Str × D)} {f : Str} {pos' : Pos} {dd : ι → α → D} {ll : ι → α → List Res} (he : Ev X e g l (fun d l' => ∃ j, d = dd j s0 ∧ l' = ll j s0)) (ho : ∀ j, Px X o g (ll j s0) (.adr q)) (hk : ∀ j, (ll j s0)[n j]? = some (ownI X.K q C fs)) (hc : Cls X.K C) (hn : NoAttr X.K C f) (hp : ∀ j y, putD f (dd j y) fs = fs' j y) (h : ∀ j y, y = s0 → Bo X W rest g ((ll j y).set (n j) (ownI X.K q C (fs' j y))) Om (k y))
    (hz : fs.length < 1000 := by exact Nat.le_of_ble_eq_true rfl) (hs : swapsWith e (some (.Attribute o f pos')) pos.line X.env = pure false := by rfl) : Bo X W (.Assign [.Attribute o f pos'] e pos :: rest) g l Om (lt s0 k) :=
  blk_fldX (Psi := fun d l' => ∃ j, d = dd j s0 ∧ l' = ll j s0) he hc hn (fun d l' ⟨j, e1, e2⟩ => by
    subst e1; subst e2
    refine ⟨ho j, n j, fs, hk j, hz, ?_⟩
    have := h j s0 rfl
    rw [← hp] at this
    exact this) hs
/-- self.f += e -/
theorem bo_retG {Rr : Type} {dd : ι → Rr → D} {ll : ι → Rr → List Res} {r : Rr} {junk : List Res} (i : ι) (he : Px X e g l (dd i r)) (q : l.Perm (ll i r ++ junk)) : Bo X W (.Return (some e) pos :: rest) g l (Rt (OwnR dd ll)) r :=
  blk_retX (Psi := fun d l' => d = dd i r ∧ l' = ll i r) (fun en T σ H Q s k => he en T σ H Q s fun v H' s' => k v _ _ H' ⟨rfl, rfl⟩ (s'.perm2 q)) fun d l' h => ⟨i, h.1, h.2⟩
theorem bo_retGO {Rr Ll Ss : Type} {GL : Ll → Gm} {RL : Ll → List Res} {NX : Ss → Gm → List Res → Prop} {dd : ι → Rr → D} {ll : ι → Rr → List Res} {r : Rr} {junk : List Res} (i : ι) (he : Px X e g l (dd i r)) (q : l.Perm (ll i r ++ junk)) : Bo X W (.Return (some e) pos :: rest) g l (Ou (OwnR dd ll) GL RL NX) (.rt r) := bo_retG (ι := ι) i he q
theorem bo_endG {Rr : Type} {dd : ι → Rr → D} {ll : ι → Rr → List Res} {r : Rr} {junk : List Res} (i : ι) (he : dd i r = .non) (q : l.Perm (ll i r ++ junk)) : Bo X W [] g l (Rv (OwnR dd ll)) r := Blk.perm (q.trans List.perm_append_comm) (Blk.dropO (blk_nil ⟨i, he.symm, rfl⟩))
end
end
/-! ### freezing -/
section
variable {X : Cx} {W : WX} {g g' : Gm} {l l' : List Res} {Φ : Po} {rest sts : List Stmt}
section
variable {β : Type} {Om : β → Po} {mo : β}
end
end
end Sx
set_option Elab.async false
set_option linter.all false
set_option maxRecDepth 100000
set_option maxHeartbeats 4000000
/-! Walks over owned lists and dicts; sorting; pop. -/
namespace Sx
open PySem L2 PyProof.Rows
section
variable {X : Cx} {W : WX} {g g' : Gm} {l l' lk : List Res} {Φ : Po} {e e2 a b c o : Expr} {es : List Expr} {d d1 d2 : D} {pos p p2 apos : Pos} {rest sts : List Stmt}
/-! ### owned lists -/
/-- enumerate, zip of lists, owned or not -/
inductive Lz (K : PySem.W.Frag) : List Res → D → List D → Prop
  | f {ds : List D} : Lz K [] (.lst ds) ds
  | o {q : Addr} {ds : List D} : Lz K [ownL K q ds] (.adr q) ds
theorem Lz.get {K : PySem.W.Frag} {F M H : Hp} {lk : List Res} {d : D} {ds : List D} {v : V} (z : Lz K lk d ds) (f : Fd K F v d) (eF : Ex F H) (eM : Ex M H) (rs : Rs lk F M) : ∃ a vs, v = .ref a ∧ SqL K H a vs ∧ FdAll K F vs ds := by
  cases z with
  | f => cases f with | lst s a => exact ⟨_, _, rfl, SqL.of (eF _ _ s), a⟩
  | o =>
    cases f
    obtain ⟨vs, f, hq⟩ := rs.own (k := 0) rfl eM
    exact ⟨_, vs, rfl, SqL.of hq, f⟩
theorem Lz.ref {K : PySem.W.Frag} {F : Hp} {lk : List Res} {d : D} {ds : List D} {v : V} (z : Lz K lk d ds) (f : Fd K F v d) : ∃ a, v = .ref a := by
  cases z with
  | f => cases f; exact ⟨_, rfl⟩
  | o => cases f; exact ⟨_, rfl⟩
/-! ### dicts, locked -/
theorem New.tup {F H : Hp} {q : Addr} {xs : List V} (e : Ex F H) (h : H q = some (.tup xs)) : New F H (L2.upd F q (.tup xs)) H := ⟨fun x u z => by
    by_cases k : x = q
    · subst k
      have := e _ _ z
      rw [h] at this; cases this
      exact upd_same
    · rw [upd_ne k]; exact z, .rf, fun x u z => by
    by_cases k : x = q
    · subst k; rw [upd_same] at z; cases z; exact h
    · rw [upd_ne k] at z; exact e _ _ z, fun x u z => by
    by_cases k : x = q
    · subst k; rw [upd_same] at z; cases z; exact .inr (.inr ⟨_, rfl⟩)
    · rw [upd_ne k] at z; exact .inl z⟩
theorem FdFs.get {κ : Type} {K : PySem.W.Frag} {F : Hp} : ∀ {vs : List (κ × V)} {ds : List (κ × D)} {i : Nat} {k : κ} {v : V}, FdFs K F vs ds → vs[i]? = some (k, v) → ∃ d, ds[i]? = some (k, d) ∧ Fd K F v d
  | _, _, i, _, _, .nil, e => by simp at e
  | _, _, 0, _, _, .cons h _, e => by simp at e; obtain ⟨rfl, rfl⟩ := e; exact ⟨_, rfl, h⟩
  | _, _, i + 1, _, _, .cons _ t, e => by
    obtain ⟨d, h1, h2⟩ := FdFs.get (i := i) t (by simpa using e)
    exact ⟨d, by simpa using h1, h2⟩
theorem keysD {K : PySem.W.Frag} {F : Hp} : ∀ k : List Key, FdAll K F (k.map kV) (k.map kD)
  | [] => .nil
  | .inl i :: r => .cons (.int i) (keysD r)
  | .inr x :: r => .cons (.str x) (keysD r)
/-! ### sorting -/
/-- insertion sort -/
def ins {α : Type} (le : α → α → Bool) (x : α) : List α → List α
  | [] => [x]
  | y :: r => cond (le x y) (x :: y :: r) (y :: ins le x r)
def isort {α : Type} (le : α → α → Bool) : List α → List α
  | [] => []
  | x :: r => ins le x (isort le r)
section
variable {α : Type} {le : α → α → Bool}
theorem ins_perm (x : α) : ∀ r : List α, (ins le x r).Perm (x :: r)
  | [] => .refl _
  | y :: r => by
    show (cond (le x y) (x :: y :: r) (y :: ins le x r)).Perm _
    cases le x y with
    | true => exact .refl _
    | false => exact ((ins_perm x r).cons y).trans (.swap x y r)
theorem isort_perm : ∀ r : List α, (isort le r).Perm r
  | [] => .refl _
  | x :: r => (ins_perm x _).trans ((isort_perm r).cons x)
theorem ins_srt (tot : ∀ x y, le x y = false → le y x = true) (tr : ∀ x y z, le x y = true → le y z = true → le x z = true) (x : α) : ∀ r : List α, r.Pairwise (fun a b => le a b = true) → (ins le x r).Pairwise (fun a b => le a b = true)
  | [], _ => List.pairwise_singleton _ _
  | y :: r, h => by
    obtain ⟨h1, h2⟩ := List.pairwise_cons.mp h
    show (cond (le x y) (x :: y :: r) (y :: ins le x r)).Pairwise _
    cases q : le x y with
    | true => exact List.pairwise_cons.mpr ⟨fun z hz => by
        rcases List.mem_cons.mp hz with rfl | hz
        · exact q
        · exact tr _ _ _ q (h1 z hz), h⟩
    | false => exact List.pairwise_cons.mpr ⟨fun z hz => by
        rcases List.mem_cons.mp ((ins_perm x r).mem_iff.mp hz) with rfl | hz
        · exact tot _ _ q
        · exact h1 z hz, ins_srt tot tr x r h2⟩
theorem isort_srt (tot : ∀ x y, le x y = false → le y x = true) (tr : ∀ x y z, le x y = true → le y z = true → le x z = true) : ∀ r : List α, (isort le r).Pairwise (fun a b => le a b = true)
  | [] => .nil
  | x :: r => ins_srt tot tr x _ (isort_srt tot tr r)
theorem srt_uniq (anti : ∀ x y, le x y = true → le y x = true → x = y) : ∀ {l m : List α}, l.Perm m → l.Pairwise (fun a b => le a b = true) → m.Pairwise (fun a b => le a b = true) → l = m
  | [], m, p, _, _ => by rw [List.nil_perm.mp p]
  | x :: l, [], p, _, _ => by cases (List.perm_nil.mp p)
  | x :: l, y :: m, p, h1, h2 => by
    obtain ⟨a1, a2⟩ := List.pairwise_cons.mp h1
    obtain ⟨b1, b2⟩ := List.pairwise_cons.mp h2
    have e : x = y := by
      rcases List.mem_cons.mp (p.mem_iff.mp List.mem_cons_self) with z | z
      · exact z
      · rcases List.mem_cons.mp (p.mem_iff.mpr List.mem_cons_self) with w | w
        · exact w.symm
        · exact anti _ _ (a1 _ w) (b1 _ z)
    subst e
    rw [srt_uniq anti (List.Perm.cons_inv p) a2 b2]
theorem isort_uniq (tot : ∀ x y, le x y = false → le y x = true) (tr : ∀ x y z, le x y = true → le y z = true → le x z = true) (anti : ∀ x y, le x y = true → le y x = true → x = y) {l m : List α} (p : l.Perm m) (h : l.Pairwise (fun a b => le a b = true)) : l = isort le m := srt_uniq anti (p.trans (isort_perm m).symm) h (isort_srt tot tr m)
end
abbrev sortI (ns : List Int) : List Int := isort (fun a b => decide (a ≤ b)) ns
/-- keys of tuples of ints and texts -/
def kN : Key → Int ⊕ List Nat
  | .inl i => .inl i
  | .inr x => .inr x.cps.toList
abbrev Oi : KeyOrd := listOrd itemOrd
def bltK (a b : List Key) : Bool := Oi.blt (a.map kN) (b.map kN)
def leK {α : Type} (key : α → List Key) (x y : α) : Bool := !bltK (key y) (key x)
abbrev sortK {α : Type} (key : α → List Key) (xs : List α) : List α := isort (leK key) xs
theorem kN_inj : ∀ a b : Key, kN a = kN b → a = b
  | .inl i, .inl j, h => by cases h; rfl
  | .inl i, .inr y, h => by cases h
  | .inr x, .inl j, h => by cases h
  | .inr x, .inr y, h => by
    have : x.cps.toList = y.cps.toList := Sum.inr.inj h
    have e : x.cps = y.cps := Array.toList_inj.mp this
    cases x; cases y; cases e; rfl
theorem bltK_total {a b : List Key} (h1 : bltK a b = false) (h2 : bltK b a = false) : a = b := by
  have := Oi.total _ _ h1 h2
  exact (List.map_inj_right kN_inj).mp this
section
variable {α : Type} {key : α → List Key}
theorem leK_tot : ∀ x y : α, leK key x y = false → leK key y x = true := fun x y h => by
  have h : bltK (key y) (key x) = true := by unfold leK at h; simpa using h
  unfold leK
  cases q : bltK (key x) (key y) with
  | false => rfl
  | true =>
    have := Oi.trans _ _ _ h q
    rw [Oi.irrefl] at this; cases this
theorem leK_tr : ∀ x y z : α, leK key x y = true → leK key y z = true → leK key x z = true := fun x y z h1 h2 => by
  unfold leK at *
  have h1 : bltK (key y) (key x) = false := by simpa using h1
  have h2 : bltK (key z) (key y) = false := by simpa using h2
  cases q : bltK (key z) (key x) with
  | false => rfl
  | true =>
    rcases Oi.negTrans _ ((key y).map kN) _ q with w | w
    · have w : bltK (key z) (key y) = true := w
      rw [h2] at w; cases w
    · have w : bltK (key y) (key x) = true := w
      rw [h1] at w; cases w
theorem leK_anti (inj : ∀ x y, key x = key y → x = y) : ∀ x y : α, leK key x y = true → leK key y x = true → x = y := fun x y h1 h2 => by
  unfold leK at *
  exact inj _ _ (bltK_total (by simpa using h2) (by simpa using h1))
theorem sortK_srt (xs : List α) : (sortK key xs).Pairwise (fun a b => leK key a b = true) := isort_srt leK_tot leK_tr xs
theorem sortK_uniq (inj : ∀ x y, key x = key y → x = y) {l m : List α} (p : l.Perm m) (h : l.Pairwise (fun a b => leK key a b = true)) : l = sortK key m := isort_uniq leK_tot leK_tr (leK_anti inj) p h
end
/-- the kinds of a tuple's places -/
def shOk (sh : Nat → Bool) : Nat → List Key → Bool
  | _, [] => true
  | i, .inl _ :: r => !sh i && shOk sh (i + 1) r
  | i, .inr _ :: r => sh i && shOk sh (i + 1) r
theorem items_of {sh : Nat → Bool} : ∀ {i : Nat} {k : List Key} {us : List Value}, shOk sh i k = true → Vals (k.map kV) us → tupItems sh i us = some (k.map kN)
  | _, [], _, _, .nil => rfl
  | i, .inl n :: r, _, h, .cons q t => by
    obtain ⟨h1, h2⟩ := Bool.and_eq_true_iff.mp h
    obtain ⟨tk, rfl⟩ := q
    have h1 : sh i = false := by simpa using h1
    unfold tupItems
    rw [h1, items_of h2 t]
    rfl
  | i, .inr x :: r, _, h, .cons q t => by
    obtain ⟨h1, h2⟩ := Bool.and_eq_true_iff.mp h
    obtain ⟨tk, rfl⟩ := q
    unfold tupItems
    rw [h1, items_of h2 t]
    rfl
def rSortK (K : PySem.W.Frag) (sh : Nat → Bool) : List V → Hp → VK → Prop := fun vs H Q => ∃ (a : Addr) (zs : List (V × List Key)), vs = [V.ref a] ∧ SqL K H a (zs.map (·.1)) ∧ (∀ z ∈ zs, ∃ t, z.1 = V.ref t ∧ SqT K H t (z.2.map kV) ∧ shOk sh 0 z.2 = true ∧ z.2 ≠ []) ∧
  ∀ (zs' : List (V × List Key)) (p : Addr), zs'.Perm zs → zs'.Pairwise (fun x y => bltK y.2 x.2 = false) → H p = none → Q (.ref p) (upd H p (.lst (zs'.map (·.1))))
theorem perm_lift {α β : Type} {f : α → β} : ∀ {ys m : List β}, ys.Perm m → ∀ {zs : List α}, zs.map f = m → ∃ zs' : List α, zs'.Perm zs ∧ zs'.map f = ys := by
  intro ys m h
  induction h with
  | nil => intro zs e; exact ⟨[], by rw [List.map_eq_nil_iff.mp e], rfl⟩
  | cons x _ ih =>
    intro zs e
    cases zs with
    | nil => cases e
    | cons z zs =>
      rw [List.map_cons] at e
      obtain ⟨e1, e2⟩ := List.cons.inj e
      obtain ⟨zs', h1, h2⟩ := ih e2
      exact ⟨z :: zs', h1.cons z, by rw [List.map_cons, h2, e1]⟩
  | swap x y l =>
    intro zs e
    match zs, e with
    | z1 :: z2 :: zs, e =>
      rw [List.map_cons, List.map_cons] at e
      obtain ⟨e1, e⟩ := List.cons.inj e
      obtain ⟨e2, e3⟩ := List.cons.inj e
      exact ⟨z2 :: z1 :: zs, .swap _ _ _, by rw [List.map_cons, List.map_cons, e1, e2, e3]⟩
  | trans _ _ ih1 ih2 =>
    intro zs e
    obtain ⟨z2, h1, h2⟩ := ih2 e
    obtain ⟨z1, h3, h4⟩ := ih1 h2
    exact ⟨z1, h3.trans h1, h4⟩
section
variable {X : Cx}
end
/-! sorted(..) of tuples of ints and texts, of ints: a new list -/
theorem fd_tupK {K : PySem.W.Frag} {F : Hp} {v : V} {k : List Key} (f : Fd K F v (.tup (k.map kD))) : ∃ t, v = .ref t ∧ SqT K F t (k.map kV) := by
  cases f with
  | tup s a => rw [a.keys] at s; exact ⟨_, rfl, s⟩
/-! ### pop -/
end
end Sx
set_option Elab.async false
set_option linter.all false
set_option maxRecDepth 100000
set_option maxHeartbeats 4000000
/-! More rules for the walker. -/
namespace Sx
open PySem L2 PyProof.Rows
section
variable {K : PySem.W.Frag} {l : List Res} {k : Nat} {p : Addr}
end
/-! tuple keys asked: (..) in d -/
section
variable {X : Cx} {W : WX} {g : Gm} {l : List Res} {e o : Expr} {d1 : D} {pos : Pos} {κ β : Type} [DecidableEq κ] {kf : κ → Key}
end
section
variable {X : Cx} {g : Gm} {l : List Res} {e : Expr} {pos p : Pos}
end
theorem xr_ex {β ε : Type} {K : PySem.W.Frag} {own : List Res} {RT : β → Re} {xc : ε → Xd} {r : Except ε β} {cls : Value} {dd : Option Addr} {g g' : Gm} {l : List Res} (hR : ∀ v c d g l, (RT v).ex c d g l → False) (h : (XR K own RT xc r).ex cls dd g l) : (XR K own RT xc r).ex cls dd g' l := by
  cases r with
  | ok v => exact (hR v _ _ _ _ h).elim
  | error e => exact h
/-- nothing owned is changed: an expression like any other -/
theorem ev_still {X : Cx} {g : Gm} {l own0 : List Res} {e : Expr} {d : D} {Psi : D → List Res → Prop} (h : Ev X e g l Psi) (hp : ∀ d' l', Psi d' l' → d' = d ∧ l' = own0) (q : l.Perm own0) : Px X e g l d := fun en T σ H Q s k => h en T σ H Q s fun v d' l' H' z s' => by
  obtain ⟨h1, h2⟩ := hp d' l' z
  subst h1; subst h2
  exact k v H' (s'.perm q.symm)
end Sx
set_option Elab.async false
set_option linter.all false
set_option maxRecDepth 100000
set_option maxHeartbeats 2000000
/-! Owned dicts of owned lists. -/
namespace Sx
open PySem L2
/-- a dict and its lists, written out -/
abbrev dlRs (K : PySem.W.Frag) (p : Addr) (ts : List (Key × Addr × List D)) : List Res := ownD K p (ts.map fun t => (t.1, D.adr t.2.1)) :: ts.map fun t => ownL K t.2.1 t.2.2
abbrev dlK (ts : List (Key × Addr × List D)) : List (Key × List D) := ts.map fun t => (t.1, t.2.2)
def ownDL (K : PySem.W.Frag) (p : Addr) (kvs : List (Key × List D)) : Res := ⟨fun F M => ∃ ts, dlK ts = kvs ∧ Rs (dlRs K p ts) F M, fun e ⟨ts, h, r⟩ => ⟨ts, h, Rs.mono e r⟩, fun ⟨_, _, r⟩ => Rs.nt r⟩
section
variable {X : Cx} {W : WX} {g : Gm} {l : List Res} {Φ : Po} {sts rest : List Stmt} {p q : Addr} {o e x : Expr} {d : D} {pos p2 : Pos}
end
/-! told by the model: a list more at its key -/
def alapp {κ α : Type} [DecidableEq κ] : List (κ × List α) → κ → α → List (κ × List α)
  | [], k, v => [(k, [v])]
  | (k', ds) :: m, k, v => if k' = k then (k', ds ++ [v]) :: m else (k', ds) :: alapp m k v
theorem alapp_le {κ α : Type} [DecidableEq κ] {k : κ} {v : α} {i : Nat} : ∀ {m : List (κ × List α)}, (∀ kv ∈ m, kv.2.length ≤ i) → ∀ kv ∈ alapp m k v, kv.2.length ≤ i + 1
  | [], _, kv, h => by rw [List.mem_singleton.mp h]; exact Nat.succ_le_succ (Nat.zero_le _)
  | (k', ds) :: m, hm, kv, h => by
    have h0 := hm _ List.mem_cons_self
    unfold alapp at h
    split at h
    · rcases List.mem_cons.mp h with q | q
      · rw [q]; show (ds ++ [v]).length ≤ _; rw [List.length_append]; exact Nat.succ_le_succ h0
      · exact Nat.le_succ_of_le (hm kv (List.mem_cons_of_mem _ q))
    · rcases List.mem_cons.mp h with q | q
      · rw [q]; exact Nat.le_succ_of_le h0
      · exact alapp_le (fun kv z => hm kv (List.mem_cons_of_mem _ z)) kv q
theorem alapp_len {κ α : Type} [DecidableEq κ] {k : κ} {v : α} : ∀ {m : List (κ × List α)}, (alapp m k v).length ≤ m.length + 1
  | [] => Nat.le_refl _
  | (k', ds) :: m => by
    unfold alapp
    split
    · exact Nat.le_succ _
    · exact Nat.succ_le_succ alapp_len
abbrev dlE {κ α : Type} (kf : κ → Key) (enc : α → D) (m : List (κ × List α)) : List (Key × List D) := m.map fun kv => (kf kv.1, kv.2.map enc)
abbrev dlA (ts : List (Key × Addr × List D)) : List (Key × D) := ts.map fun t => (t.1, D.adr t.2.1)
section
variable {X : Cx} {W : WX} {g : Gm} {l : List Res} {rest : List Stmt} {q : Addr} {o e x : Expr} {pos p2 : Pos} {S1 : Type} {Om : S1 → Po}
end
/-! a dict of lists is frozen; an empty one -/
theorem At.frzJ {K : PySem.W.Frag} {en : En} {g : Gm} {T : Tm} {l : List Res} {σ : L2.St} {H F M : Hp} {r : Res} {P : Hp → Prop} (a : At K en g T (r :: l) σ H F M) (f : ∀ A, Dj F A → r.P F A → P (join F A)) : ∃ F' M', At K en g T l σ H F' M' ∧ P F' ∧ Ex F F' := by
  obtain ⟨A, B, rfl, dj, p, rs⟩ := a.rs
  have dF : Dj F A := fun x o h => (join_none (a.dj x o h)).1
  have eF : Ex F (join F A) := fun x o h => join_l h
  refine ⟨join F A, B, ⟨a.exF.join a.exM.joinL, a.exM.joinR dj, ?_, a.eF.tr eF, ?_, fun x o h => a.nM x o (by rw [join_r (dj.sym x o h)]; exact h), a.fr, a.sl.mono eF, T.mono eF a.tm, rs.mono eF⟩, f A dF p, eF⟩
  · intro x o h
    rcases join_some h with q | ⟨_, q⟩
    · exact (join_none (a.dj x o q)).2
    · exact dj x o q
  · intro x o h
    rcases join_some h with q | ⟨_, q⟩
    · exact a.nF x o q
    · rcases a.nM x o (join_l q) with z | z
      · exact .inr (.inl z)
      · exact .inr (.inr (.inl z))
section
variable {X : Cx} {W : WX} {g : Gm} {l : List Res} {Φ : Po} {sts rest : List Stmt} {p q : Addr} {pos : Pos} {S1 : Type} {Om : S1 → Po}
end
/-! sorted(d), whole numbers as keys -/
section
variable {X : Cx} {g : Gm} {l : List Res} {d : D} {p pos : Pos}
theorem FdFs.fsts {κ : Type} {K : PySem.W.Frag} {F : Hp} : ∀ {vs : List (κ × V)} {kvs : List (κ × D)}, FdFs K F vs kvs → vs.map (·.1) = kvs.map (·.1)
  | _, _, .nil => rfl
  | (n, v) :: vs, (_, d') :: kvs, .cons a b => by
    show n :: vs.map (·.1) = n :: kvs.map (·.1)
    rw [FdFs.fsts b]
end
theorem key_of {κ β : Type} [DecidableEq κ] {m : List (κ × β)} {k : κ} (h : k ∈ m.map (·.1)) : (aget m k).isSome = true := by
  cases q : aget m k with
  | none => exact absurd h (aget_none.mp q)
  | some v => rfl
theorem sortK_len {α : Type} {key : α → List Key} {l : List α} : (sortK key l).length = l.length := (isort_perm l).length_eq
/-! what is scalar, got with an owned dict of lists taken for frozen -/
section
variable {X : Cx} {g : Gm} {l : List Res} {e : Expr} {d : D} {q : Addr}
end
/-! try: .. except C: return a bool -/
section
variable {X : Cx} {W : WX} {g : Gm} {l : List Res} {Φ : Po} {body rest : List Stmt} {x : Str} {C : Addr} {vb : Bool} {jk : Nat} {p0 p1 p2 p3 pos : Pos}
end
def tryR {Rr ε Ll Ss : Type} (tb : Cf (Except ε Rr) Ll Ss) (r : Rr) : Cf Rr Ll Ss := match tb with
  | .nx s => .nx s | .rt (.ok v) => .rt v | .rt (.error _) => .rt r | .bk s => .bk s | .ct s => .ct s
section
variable {X : Cx} {W : WX} {g : Gm} {l : List Res} {body rest : List Stmt} {x : Str} {C : Addr} {vb : Bool} {jk : Nat} {p0 p1 p2 p3 pos : Pos} {Rr ε S1 : Type} {RT : Rr → Re} {xc : ε → Xd}
end
/-! x.extend(e), e frozen -/
section
variable {X : Cx} {W : WX} {g : Gm} {l : List Res} {Φ : Po} {rest : List Stmt} {p : Addr} {o e : Expr} {pos : Pos} {S1 : Type} {Om : S1 → Po}
end
end Sx
set_option Elab.async false
set_option linter.all false
set_option maxRecDepth 100000
set_option maxHeartbeats 2000000
/-! min(xs, default=d), whole numbers. -/
namespace Sx
open PySem L2
def minDf (ns : List Int) (d : Int) : Int := match ns with | [] => d | n :: r => r.foldl min n
section
variable {X : Cx} {g : Gm} {l : List Res} {d : D} {p pos : Pos}
def rMinDf (K : PySem.W.Frag) : List V → List V → Hp → VK → Prop := fun vs zs H Q => ∃ (a : Addr) (ns : List Int) (d : Int), vs = [V.ref a] ∧ zs = [.int d] ∧ SqL K H a (ns.map V.int) ∧ Q (.int (minDf ns d)) H
end
end Sx
set_option Elab.async false
set_option linter.all false
set_option maxRecDepth 100000
set_option maxHeartbeats 2000000
/-! Owned lists of owned lists; orders of pairs; keys that are tuples. -/
namespace Sx
open PySem L2
/-! ### pairs of whole numbers in order -/
def leII (a b : Int × Int) : Bool := decide (a.1 < b.1) || (decide (a.1 = b.1) && decide (a.2 ≤ b.2))
theorem leII_iff {a b : Int × Int} : leII a b = true ↔ a.1 < b.1 ∨ a.1 = b.1 ∧ a.2 ≤ b.2 := by
  unfold leII
  rw [Bool.or_eq_true, Bool.and_eq_true, decide_eq_true_iff, decide_eq_true_iff, decide_eq_true_iff]
def rGeT (K : PySem.W.Frag) : R2 := fun x y H Q => ∃ (a b : Addr) (ns ms : List Int), x = .ref a ∧ y = .ref b ∧ SqT K H a (ns.map V.int) ∧ SqT K H b (ms.map V.int) ∧
  Q (.bl (Ob.lexAt (fun j => decide (ns.getD j 0 = ms.getD j 0)) (fun j => decide (ms.getD j 0 ≤ ns.getD j 0)) (decide (ns.length ≥ ms.length)) 0 (min ns.length ms.length))) H
section
variable {X : Cx}
open PyProof.Rows in
end
section
variable {K : PySem.W.Frag} {l : List Res}
theorem tup_ints {F : Hp} {a : Addr} {ns : List Int} (h : Fd K F (.ref a) (.tup (ns.map D.int))) : SqT K F a (ns.map V.int) := by
  cases h with
  | tup s f => rw [FdAll.ints f] at s; exact s
theorem o_leII {a b : Int × Int} : Op2 K l (rLeT K) (.tup [.int a.1, .int a.2]) (.tup [.int b.1, .int b.2]) (.bl (leII a b)) := fun F M H v u Q eF eM dj rs f1 f2 k => by
  obtain ⟨p, rfl⟩ : ∃ p, v = .ref p := by cases f1; exact ⟨_, rfl⟩
  obtain ⟨q, rfl⟩ : ∃ p, u = .ref p := by cases f2; exact ⟨_, rfl⟩
  refine ⟨p, q, [a.1, a.2], [b.1, b.2], rfl, rfl, ex_t eF (tup_ints f1), ex_t eF (tup_ints f2), ?_⟩
  have e : Ob.lexAt (fun j => decide ([a.1, a.2].getD j 0 = [b.1, b.2].getD j 0)) (fun j => decide ([a.1, a.2].getD j 0 ≤ [b.1, b.2].getD j 0)) (decide ([a.1, a.2].length ≤ [b.1, b.2].length)) 0 (min [a.1, a.2].length [b.1, b.2].length) = leII a b := by
    show (if decide (a.1 = b.1) = true then (if decide (a.2 = b.2) = true then true else decide (a.2 ≤ b.2)) else decide (a.1 ≤ b.1)) = leII a b
    unfold leII
    by_cases h1 : a.1 = b.1
    · by_cases h2 : a.2 = b.2
      · simp [h1, h2]
      · simp [h1, h2]
    · have e1 : decide (a.1 ≤ b.1) = decide (a.1 < b.1) := decide_eq_decide.mpr (by omega)
      simp [h1, e1]
  rw [e]
  exact k _ F H (New.rf eF) (.bl _)
end
/-! ### (a, b) in d -/
section
variable {X : Cx} {g : Gm} {l : List Res} {o : Expr} {es : List Expr} {d1 : D} {ds : List D} {pos kp : Pos} {x1 : Nat}
def Tm.at (T : Tm) (p : Addr) (o : HO) : Tm := ⟨fun F => F p = some o ∧ T.P F, fun e h => ⟨e _ _ h.1, T.mono e h.2⟩⟩
theorem Px.units1 (hu : X.A.units + 64 < cLine) : X.A.units < cLine := by omega
end
section
variable {X : Cx} {g : Gm} {l : List Res} {o : Expr} {es : List Expr} {d1 : D} {ds : List D} {pos kp : Pos} {x1 : Nat} {κ β : Type} [DecidableEq κ] {kf : κ → List Key} {m : List (κ × β)} {k : κ}
end
/-! ### lists of lists -/
abbrev llRs (K : PySem.W.Frag) (p : Addr) (ts : List (Addr × List D)) : List Res := ownL K p (ts.map fun t => D.adr t.1) :: ts.map fun t => ownL K t.1 t.2
def ownLL (K : PySem.W.Frag) (p : Addr) (dss : List (List D)) : Res := ⟨fun F M => ∃ ts : List (Addr × List D), ts.map (·.2) = dss ∧ Rs (llRs K p ts) F M, fun e ⟨ts, h, r⟩ => ⟨ts, h, Rs.mono e r⟩, fun ⟨_, _, r⟩ => Rs.nt r⟩
section
variable {X : Cx} {W : WX} {g : Gm} {l : List Res} {Φ : Po} {sts rest : List Stmt} {p q : Addr} {o e x : Expr} {d : D} {pos p2 : Pos}
theorem Px.frs {k : List Res} (h : Px X e g l d) : Px X e g (k ++ l) d := by
  induction k with
  | nil => exact h
  | cons r k ih => exact ih.fr
end
section
variable {X : Cx} {W : WX} {g : Gm} {l : List Res} {rest sts : List Stmt} {q : Addr} {o e x : Expr} {pos p2 : Pos} {S1 : Type} {Om : S1 → Po} {α : Type} {enc : α → D} {m : List (List α)}
abbrev llE (enc : α → D) (m : List (List α)) : List (List D) := m.map fun xs => xs.map enc
end
/-! [[] for x in xs] -/
section
variable {X : Cx} {W : WX} {g g' : Gm} {l l' : List Res} {pos p2 : Pos} {rest : List Stmt}
variable {S1 : Type} {Om : S1 → Po} {α β : Type}
end
/-! a dict with tuples as keys is frozen -/
section
variable {X : Cx} {W : WX} {g : Gm} {l : List Res} {Φ : Po} {S1 : Type}
theorem Blk.frzT {sts : List Stmt} {p : Addr} {kvs : List (List Key × D)} {i : Nat} (hi : nth g i = some (.adr p)) (k : Blk X W sts (g.set i (some (.dT kvs))) l Φ) : Blk X W sts g (ownT X.K p kvs :: l) Φ := fun en T σ H D s m => by
  obtain ⟨F, M, q⟩ := s
  obtain ⟨v, hv, fv⟩ := q.sl.nth hi
  cases fv
  obtain ⟨F', M', q', f, _⟩ := q.frz (P := fun F' => Fd X.K F' (.ref p) (.dT kvs)) fun A hA => by
    obtain ⟨vs, f, rfl⟩ := hA
    have hF : F p = none := by
      obtain ⟨A, B, rfl, _, ⟨_, _, rfl⟩, _⟩ := q.rs
      exact q.dj.sym p _ (join_l one_same)
    exact .dT (by rw [join_r hF]; exact one_same) (FdFs.mono (fun x o h => join_l h) _ f)
  refine k en T σ H D ⟨F', M', q'.slots ?_⟩ m
  have w := q'.sl.set i f
  have e : σ.set i (some (.ref p)) = σ := by
    apply List.ext_getElem?
    intro j
    by_cases z : j = i
    · subst z
      obtain ⟨h1, h2⟩ := List.getElem?_eq_some_iff.mp hv
      rw [List.getElem?_set_self h1, hv]
    · rw [List.getElem?_set_ne (Ne.symm z)]
  rw [e] at w
  exact w
theorem bo_frzT {Om : S1 → Po} {mm : S1} {sts : List Stmt} {q : Addr} {kvs : List (List Key × D)} {i kk : Nat} (hi : nth g i = some (.adr q)) (hk : l[kk]? = some (ownT X.K q kvs)) (h : Bo X W sts (g.set i (some (.dT kvs))) (l.eraseIdx kk) Om mm) : Bo X W sts g l Om mm := Blk.perm (perm_at hk) (Blk.frzT hi h)
end
/-! a target that takes a list apart -/
end Sx
set_option Elab.async false
set_option linter.all false
set_option maxRecDepth 100000
set_option maxHeartbeats 2000000
/-! max(xs, default=d), whole numbers; xs.index(v). -/
namespace Sx
open PySem L2
def maxDf (ns : List Int) (d : Int) : Int := match ns with | [] => d | n :: r => r.foldl max n
section
variable {X : Cx} {g : Gm} {l : List Res} {d : D} {p pos : Pos}
def rMaxDf (K : PySem.W.Frag) : List V → List V → Hp → VK → Prop := fun vs zs H Q => ∃ (a : Addr) (ns : List Int) (d : Int), vs = [V.ref a] ∧ zs = [.int d] ∧ SqL K H a (ns.map V.int) ∧ Q (.int (maxDf ns d)) H
end
/-! xs.index(v) -/
def idxI (v : Int) : List Int → Nat
  | [] => 0
  | x :: xs => if x = v then 0 else idxI v xs + 1
section
variable {X : Cx} {g : Gm} {l : List Res} {d : D} {o e : Expr} {apos pos : Pos}
end
/-! k not in d, as a value -/
section
variable {X : Cx} {g : Gm} {l : List Res} {e o : Expr} {d1 d2 : D} {pos : Pos}
variable {κ β : Type} [DecidableEq κ] {m : List (κ × β)} {k : κ} {kf : κ → Key}
end
/-! ### a call one of whose arguments makes something owned -/
def PaX (X : Cx) (es : List Expr) (g : Gm) (l : List Res) (Psi : List D → List Res → Prop) : Prop := ∀ en T σ H (Q : List V → Hp → Prop), S X.K en g T l σ H → (∀ vs ds l' H', Psi ds l' → S X.K en g (T.ands X.K vs ds) l' σ H' → Q vs H') → wpA X es σ H Q
section
variable {X : Cx} {g : Gm} {l : List Res} {e : Expr} {es : List Expr} {d : D} {ds : List D} {pos p : Pos} {Psi : D → List Res → Prop} {Chi Chi2 : List D → List Res → Prop}
theorem PaX.imp (h : PaX X es g l Chi) (i : ∀ ds l', Chi ds l' → Chi2 ds l') : PaX X es g l Chi2 := fun en T σ H Q s k => h en T σ H Q s fun vs ds l' H' p s' => k vs ds l' H' (i _ _ p) s'
variable {α β ι ι' : Type} {ok : α → Prop} {args : α → List D} {own : α → List Res} {dd : α → ι → β → D} {ll : α → ι → β → List Res} {y : Str} {ps : List Str} {k j : Nat}
end
end Sx
set_option Elab.async false
set_option linter.all false
set_option maxRecDepth 100000
set_option maxHeartbeats 2000000
/-! sorted(set(..)) of whole numbers; tests that change what is owned; or by truth; + of tuples. -/
namespace Sx
open PySem L2
/-! ### sorted(set(xs)) -/
def ddI : List Int → List Int
  | [] => []
  | x :: r => if x ∈ ddI r then ddI r else x :: ddI r
def setI (l : List Int) : List Int := sortI (ddI l)
section
variable {X : Cx}
open PyProof.Rows in
def rSetI (K : PySem.W.Frag) (w : World) : List V → Hp → VK → Prop := fun xs H Q => ∃ (p : Addr) (ns : List Int), xs = [.ref p] ∧ SqT K H p (ns.map V.int) ∧ ns.length ≤ 1000 ∧ ∀ a c, H a = none → c ≤ ns.length → Q (.ref a) (L2.upd H a (SetO w a (fun j => decide (j ∈ ns)) c))
open PyProof.Rows in
variable {g : Gm} {l : List Res} {d : D} {p pos p2 pos2 : Pos}
/-! ### + of tuples -/
/-! ### x or y by truth -/
/-- how a datum is by truth -/
def TrD (K : PySem.W.Frag) (d : D) (k : Bool) : Prop := ∀ F H v, Ex F H → Fd K F v d → TruV K v H k
/-! ### enumerate of an owned list -/
/-! ### len of a dict with tuple keys -/
/-! ### tests that change what is owned -/
variable {W : L2.WX} {α ι β Rr Ll Ss : Type}
/-- the test c tells b, what is owned is ll j then -/
def TsE (X : Cx) (e : Expr) (g : Gm) (l : List Res) (b : Bool) (ll : ι → List Res) : Prop := ∀ en T σ H (Q : Bool → Hp → Prop), S X.K en g T l σ H → (∀ j H', S X.K en g T (ll j) σ H' → Q b H') → wpT X e σ H Q
end
end Sx
set_option Elab.async false
set_option linter.all false
set_option maxRecDepth 100000
set_option maxHeartbeats 2000000
/-! Owned dicts, keys tuples, of owned lists. -/
namespace Sx
open PySem L2
section
variable {X : Cx}
/-- d.setdefault(t, x), t a tuple -/
def rSetdT : V → List V → Hp → VK → Prop := fun x xs H Q => ∃ (a : Addr) (kvs : List (List Key × V)) (k : List Key) (b : Addr) (d : V), x = .ref a ∧ xs = [.ref b, d] ∧ H a = some (.dT kvs) ∧ H b = some (.tup (k.map kV)) ∧ kvs.length < sizeLine ∧
  (∀ v, valV kvs k = some v → Q v H) ∧ (valV kvs k = none → Q d (L2.upd H a (.dT (L2.putK kvs k d))))
theorem mt_setdT (hu : X.A.units + 1 < cLine) : MtR X "dict.setdefault" rSetdT := by
  intro pins s σ H x xs v us Q I rx rxs h
  obtain ⟨a, kvs, k, b, d, rfl, rfl, ha, hb, hl, q1, q2⟩ := h
  cases rx
  obtain ⟨u1, u2, rfl, r1, r2⟩ := vals2 rxs
  cases r1
  obtain ⟨z, hd, xs', rel, dd⟩ := dt_of I.hok ha
  have hz : xs'.length ≤ sizeLine := by rw [← Paired.length rel]; exact z
  have e := (rel.val k)
  refine call_setdefault_heap (knd := tupleKind (mixKind X.prog X.w)) (k := k) (tupleKind_room_in1 hu) (L2.key_of I.hok hb) hd dd (fun p hp => ?_) (fun hn h' dd' hs => ?_) hz
  · rw [hp] at e
    cases ev : valV kvs k with
    | none => rw [ev] at e; exact (show False from e).elim
    | some v0 =>
      rw [ev] at e
      exact ⟨v0, H, I.tok _, e, q1 v0 ev⟩
  · rw [hn] at e
    cases ev : valV kvs k with
    | some v0 => rw [ev] at e; exact (show False from e).elim
    | none =>
      obtain ⟨q, es, ep, hq, h2, h3, h4, _, h5⟩ := dd'
      have hl2 : (L2.putK kvs k d).length ≤ sizeLine := by have := length_putK kvs k d; omega
      refine ⟨d, L2.upd H a (.dT (L2.putK kvs k d)), d_write I (by rw [ha]; exact True.intro) hs ⟨q, hq⟩ ⟨hl2, hd, _, (rel.put k hb r2).keeps fun c ys ec => ?_, q, es, ep, hq, h2, h3, h4, h5⟩, r2, q2 ev⟩
      rw [upd_ne (ne_of ec ha (fun z => nomatch z))]
      exact ec
end
/-- a dict and its lists, written out -/
abbrev tlRs (K : PySem.W.Frag) (p : Addr) (ts : List (List Key × Addr × List D)) : List Res := ownT K p (ts.map fun t => (t.1, D.adr t.2.1)) :: ts.map fun t => ownL K t.2.1 t.2.2
abbrev tlK (ts : List (List Key × Addr × List D)) : List (List Key × List D) := ts.map fun t => (t.1, t.2.2)
def ownTL (K : PySem.W.Frag) (p : Addr) (kvs : List (List Key × List D)) : Res := ⟨fun F M => ∃ ts, tlK ts = kvs ∧ Rs (tlRs K p ts) F M, fun e ⟨ts, h, r⟩ => ⟨ts, h, Rs.mono e r⟩, fun ⟨_, _, r⟩ => Rs.nt r⟩
section
variable {X : Cx} {W : WX} {g : Gm} {l : List Res} {Φ : Po} {sts rest : List Stmt} {p q : Addr} {o e x : Expr} {d : D} {pos p2 : Pos}
theorem Blk.unTL {kvs : List (List Key × List D)} (h : ∀ ts, tlK ts = kvs → Blk X W sts g (tlRs X.K p ts ++ l) Φ) : Blk X W sts g (ownTL X.K p kvs :: l) Φ := fun en T σ H D s m => by
  obtain ⟨F, M, a⟩ := s
  obtain ⟨A, B, e, dj, ⟨ts, h1, r⟩, r2⟩ := a.rs
  exact h ts h1 en T σ H D ⟨F, M, a.exF, a.exM, a.dj, a.eF, a.nF, a.nM, a.fr, a.sl, a.tm, by rw [e]; exact Rs.app r r2 dj⟩ m
theorem Blk.toTL {ts : List (List Key × Addr × List D)} (h : Blk X W sts g (ownTL X.K p (tlK ts) :: l) Φ) : Blk X W sts g (tlRs X.K p ts ++ l) Φ := fun en T σ H D s m => by
  obtain ⟨F, M, a⟩ := s
  obtain ⟨A, B, e, dj, r, r2⟩ := a.rs.split
  exact h en T σ H D ⟨F, M, a.exF, a.exM, a.dj, a.eF, a.nF, a.nM, a.fr, a.sl, a.tm, ⟨A, B, e, dj, ⟨ts, rfl, r⟩, r2⟩⟩ m
theorem blk_setdT {n : Nat} {kvs : List (List Key × D)} {k : List Key} {es : List Expr} {x1 : Nat} {tp : Pos} {apos cpos spos dpos : Pos} (hu : X.A.units + 64 < cLine) (ho : Px X o g l (.adr q)) (he : Pa X es g l (k.map kD)) (hkz : k.length ≤ sizeLine) (hn : l[n]? = some (ownT X.K q kvs)) (hz : kvs.length < 10000) (hx : ∀ l', Px X x g l' d)
    (hit : ∀ v, valD kvs k = some v → ∃ q' m ds, v = .adr q' ∧ l[m]? = some (ownL X.K q' ds) ∧ ds.length < sizeLine ∧ Blk X W rest g (l.set m (ownL X.K q' (ds ++ [d]))) Φ)
    (miss : valD kvs k = none → ∀ q', Blk X W rest g (ownL X.K q' [d] :: l.set n (ownT X.K q (putKD kvs k (.adr q')))) Φ)
    (hp0 : PS X (.Expr (.Call (.Attribute (.Call (.Attribute o "setdefault" spos) [.Tuple es x1 tp, .List [] p2] [] dpos) "append" apos) [x] [] cpos) pos) (tDrop (tBM X.K "list" rAppend (tBM X.K "dict" rSetdT (wpE X o) (tCons (tTup (wpA X es)) (tCons (wpE X (.List [] p2)) tNil))) (tCons (wpE X x) tNil))) := by exact ps_expr (pe_bm PySem.F.plainAttrs_list PySem.F.slot_list_append PySem.F.type_list_append mt_append (pe_bm PySem.F.plainAttrs_dict PySem.F.slot_dict_setdefault PySem.F.type_dict_setdefault (mt_setdT (Px.units (by assumption))) pe_wp (pa_cons (pe_tup pa_wp) (pa_cons pe_wp pa_nil))) (pa_cons pe_wp pa_nil))) :
    Blk X W (.Expr (.Call (.Attribute (.Call (.Attribute o "setdefault" spos) [.Tuple es x1 tp, .List [] p2] [] dpos) "append" apos) [x] [] cpos) pos :: rest) g l Φ := fun en T σ H D s mm => wpS_of (pss_cons hp0 pss_wp) (by
  refine ho en T σ H _ s fun v H1 s1 => ?_
  obtain ⟨F1, M1, q1⟩ := id s1
  have fv := q1.tm.1
  cases fv
  obtain ⟨vs1, f1, hp1⟩ := q1.rs.ownT hn q1.exM
  refine ⟨.inr (.inr (.inl ⟨rfl, .inr ⟨_, hp1⟩⟩)), ?_⟩
  refine he en _ σ H1 _ s1 fun us H2 s2 => ?_
  obtain ⟨F, M, q2⟩ := s2
  have ek := q2.tm.1.keys
  subst ek
  refine ⟨by rw [List.length_map]; exact hkz, fun p hpn => ?_⟩
  have nw := New.upd (o := .tup (k.map kV)) q2.exF hpn
  have q3 := q2.new nw
  refine (ev_lst (pos := p2) pa_n) en ((T.and X.K (.ref q) (.adr q)).ex (L2.upd F p (.tup (k.map kV)))) σ _ _ ⟨_, M, q3.tmp ⟨.rf, T.mono nw.f q2.tm.2.2 |> fun z => ⟨.adr q, z⟩⟩⟩ fun z dz l' H3 h3 s3 => ?_
  obtain ⟨q0, e1, e2⟩ := h3
  subst e1; subst e2
  obtain ⟨F3, M3, a⟩ := id s3
  obtain ⟨vs, fvs, hp⟩ := a.rs.ownT (k := n + 1) hn a.exM
  have fz := a.tm.1
  cases fz
  have hkt : H3 p = some (.tup (k.map kV)) := a.exF _ _ (a.tm.2.1 _ _ upd_same)
  have a0 := a.tmp (T' := T) a.tm.2.2.2
  unfold rSetdT
  refine ⟨q, vs, k, p, .ref q0, rfl, rfl, hp, hkt, by rw [fvs.length]; exact Nat.lt_of_lt_of_le hz (by decide), fun w hw => ?_, fun hw => ?_⟩
  · cases qd : valD kvs k with
    | none => exact absurd (fvs.noV qd) (by rw [hw]; simp)
    | some d' =>
      obtain ⟨q', m, ds, rfl, hm', hds, hb⟩ := hit d' qd
      obtain ⟨w', h1, h2⟩ := fvs.valV qd
      rw [hw] at h1
      cases h1
      cases h2
      have s4 : S X.K en g T l σ H3 := S.dropO (l' := [ownL X.K q0 []]) ⟨F3, M3, a0⟩
      obtain ⟨F4, M4, a4⟩ := id s4
      obtain ⟨ws, _, hp4⟩ := a4.rs.own hm' a4.exM
      refine ⟨.inl ⟨rfl, _, SqL.of hp4⟩, ?_⟩
      refine hx l en _ σ H3 _ s4 fun u' H5 s5 => ?_
      obtain ⟨F5, M5, a5⟩ := s5
      obtain ⟨xs, fxs, hp5⟩ := a5.rs.own hm' a5.exM
      refine ⟨q', xs, u', rfl, rfl, hp5, by rw [fxs.length]; exact hds, ?_⟩
      obtain ⟨M6, a6⟩ := (a5.tmp (T' := T) a5.tm.2).putL hm' (fxs.app (.cons a5.tm.1 .nil))
      exact hb en T σ _ D ⟨F5, M6, a6⟩ mm
  · have qd : valD kvs k = none := by
      cases qd : valD kvs k with
      | none => rfl
      | some d' =>
        obtain ⟨w', h1, h2⟩ := fvs.valV qd
        rw [hw] at h1; cases h1
    obtain ⟨M', a'⟩ := a0.putOne (k := n + 1) (p := q) (r' := ownT X.K q (putKD kvs k (.adr q0))) (o' := .dT (L2.putK vs k (.ref q0))) hn (fun A ⟨_, _, e⟩ => ⟨_, e⟩) ⟨_, fvs.putK (.adr q0), rfl⟩
    have s4 : S X.K en g T (ownL X.K q0 [] :: l.set n (ownT X.K q (putKD kvs k (.adr q0)))) σ _ := ⟨F3, M', a'⟩
    obtain ⟨ws, _, hp4⟩ := a'.rs.own (k := 0) rfl a'.exM
    refine ⟨.inl ⟨rfl, _, SqL.of hp4⟩, ?_⟩
    refine hx _ en _ σ _ _ s4 fun u' H5 s5 => ?_
    obtain ⟨F5, M5, a5⟩ := s5
    obtain ⟨xs, fxs, hp5⟩ := a5.rs.own (k := 0) rfl a5.exM
    refine ⟨q0, xs, u', rfl, rfl, hp5, by rw [fxs.length]; exact (by decide), ?_⟩
    obtain ⟨M6, a6⟩ := (a5.tmp (T' := T) a5.tm.2).putL (k := 0) rfl (fxs.app (.cons a5.tm.1 .nil))
    exact miss qd q0 en T σ _ D ⟨F5, M6, a6⟩ mm)
end
abbrev tlE' {κ α : Type} (kf : κ → List Key) (enc : α → D) (m : List (κ × List α)) : List (List Key × List D) := m.map fun kv => (kf kv.1, kv.2.map enc)
theorem alapp_encT {κ α : Type} [DecidableEq κ] {kf : κ → List Key} (inj : ∀ a b, kf a = kf b → a = b) {enc : α → D} {k : κ} {v : α} : ∀ m : List (κ × List α), alapp (tlE' kf enc m) (kf k) (enc v) = tlE' kf enc (alapp m k v)
  | [] => rfl
  | (k', ds) :: m => by
    show (if kf k' = kf k then _ else _) = tlE' kf enc (if k' = k then _ else _)
    by_cases e : k' = k
    · rw [if_pos e, if_pos (congrArg kf e)]
      show (kf k', ds.map enc ++ [enc v]) :: tlE' kf enc m = (kf k', (ds ++ [v]).map enc) :: tlE' kf enc m
      rw [List.map_append]
      rfl
    · rw [if_neg e, if_neg fun z => e (inj _ _ z)]
      show (kf k', ds.map enc) :: alapp (tlE' kf enc m) (kf k) (enc v) = (kf k', ds.map enc) :: tlE' kf enc (alapp m k v)
      rw [alapp_encT inj m]
abbrev tlA (ts : List (List Key × Addr × List D)) : List (List Key × D) := ts.map fun t => (t.1, D.adr t.2.1)
theorem tl_hit {k : List Key} {d : D} : ∀ {ts : List (List Key × Addr × List D)} {v : D}, valD (tlA ts) k = some v → ∃ (i : Nat) (t : List Key × Addr × List D), ts[i]? = some t ∧ t.1 = k ∧ v = .adr t.2.1 ∧ tlK (ts.set i (t.1, t.2.1, t.2.2 ++ [d])) = alapp (tlK ts) k d
  | [], _, h => by cases h
  | t :: ts, v, h => by
    unfold valD tlA at h
    rw [List.map_cons, List.find?_cons] at h
    by_cases e : t.1 = k
    · rw [decide_eq_true e] at h
      cases h
      refine ⟨0, t, rfl, e, rfl, ?_⟩
      show (t.1, t.2.2 ++ [d]) :: tlK ts = (if t.1 = k then _ else _)
      rw [if_pos e]
    · rw [decide_eq_false e] at h
      obtain ⟨i, t', h1, h2, h3, h4⟩ := tl_hit (d := d) (ts := ts) h
      refine ⟨i + 1, t', h1, h2, h3, ?_⟩
      show (t.1, t.2.2) :: tlK (ts.set i _) = (if t.1 = k then _ else _)
      rw [if_neg e, h4]
theorem tl_miss {k : List Key} {d : D} {q' : Addr} : ∀ {ts : List (List Key × Addr × List D)}, valD (tlA ts) k = none → alapp (tlK ts) k d = tlK (ts ++ [(k, q', [d])]) ∧ (tlA ts).any (fun kv => decide (kv.1 = k)) = false
  | [], _ => ⟨rfl, rfl⟩
  | t :: ts, h => by
    unfold valD tlA at h
    rw [List.map_cons, List.find?_cons] at h
    by_cases e : t.1 = k
    · rw [decide_eq_true e] at h; cases h
    · rw [decide_eq_false e] at h
      obtain ⟨h1, h2⟩ := tl_miss (d := d) (q' := q') (ts := ts) h
      constructor
      · show (if t.1 = k then _ else _) = (t.1, t.2.2) :: tlK (ts ++ [_])
        rw [if_neg e, ← h1]
      · show (decide (t.1 = k) || (tlA ts).any _) = false
        rw [decide_eq_false e, h2]
        rfl
section
variable {X : Cx} {W : WX} {g : Gm} {l : List Res} {rest : List Stmt} {q : Addr} {o e x : Expr} {pos p2 : Pos} {S1 : Type} {Om : S1 → Po}
theorem bo_setdT {κ α : Type} [DecidableEq κ] {kf : κ → List Key} {m : List (κ × List α)} {k : κ} {v0 : α} {n : Nat} {kk : List (κ × List α) → S1} {es : List Expr} {x1 : Nat} {tp : Pos} {apos cpos spos dpos : Pos} (inj : ∀ a b, kf a = kf b → a = b) (enc : α → D) (ho : ∀ l', Px X o g l' (.adr q)) (hu : X.A.units + 64 < cLine) (he : ∀ l', Pa X es g l' ((kf k).map kD)) (hkz : (kf k).length ≤ sizeLine) (hx : ∀ l', Px X x g l' (enc v0))
    (hl : l[n]? = some (ownTL X.K q (tlE' kf enc m))) (hz : m.length < 10000) (hs : ∀ kv ∈ m, kv.2.length < 10000)
    (h : ∀ m2, m2 = alapp m k v0 → Bo X W rest g (l.set n (ownTL X.K q (tlE' kf enc m2))) Om (kk m2))
    (hp0 : PS X (.Expr (.Call (.Attribute (.Call (.Attribute o "setdefault" spos) [.Tuple es x1 tp, .List [] p2] [] dpos) "append" apos) [x] [] cpos) pos) (tDrop (tBM X.K "list" rAppend (tBM X.K "dict" rSetdT (wpE X o) (tCons (tTup (wpA X es)) (tCons (wpE X (.List [] p2)) tNil))) (tCons (wpE X x) tNil))) := by exact ps_expr (pe_bm PySem.F.plainAttrs_list PySem.F.slot_list_append PySem.F.type_list_append mt_append (pe_bm PySem.F.plainAttrs_dict PySem.F.slot_dict_setdefault PySem.F.type_dict_setdefault (mt_setdT (Px.units (by assumption))) pe_wp (pa_cons (pe_tup pa_wp) (pa_cons pe_wp pa_nil))) (pa_cons pe_wp pa_nil))) :
    Bo X W (.Expr (.Call (.Attribute (.Call (.Attribute o "setdefault" spos) [.Tuple es x1 tp, .List [] p2] [] dpos) "append" apos) [x] [] cpos) pos :: rest) g l Om (lt (alapp m k v0) kk) := by
  have hb := h _ rfl
  have pb : (ownTL X.K q (tlE' kf enc (alapp m k v0)) :: l.eraseIdx n).Perm (l.set n (ownTL X.K q (tlE' kf enc (alapp m k v0)))) := by
    have hlt : n < l.length := (List.getElem?_eq_some_iff.mp hl).1
    have := perm_at (r := ownTL X.K q (tlE' kf enc (alapp m k v0))) (l := l.set n (ownTL X.K q (tlE' kf enc (alapp m k v0)))) (k := n) (by rw [List.getElem?_set_self hlt])
    rw [List.eraseIdx_set_eq] at this
    exact this.symm
  refine Blk.perm (perm_at hl) (Blk.unTL fun ts hts => ?_)
  have hlen : ts.length = m.length := by have := congrArg List.length hts; rwa [List.length_map, List.length_map] at this
  have back : ∀ ts', tlK ts' = tlE' kf enc (alapp m k v0) → Blk X W rest g (tlRs X.K q ts' ++ l.eraseIdx n) (Om (kk (alapp m k v0))) := fun ts' e => Blk.toTL (by rw [e]; exact Blk.perm pb hb)
  refine blk_setdT (n := 0) (kvs := tlA ts) (k := kf k) (d := enc v0) hu (ho _) (he _) hkz rfl (by rw [List.length_map, hlen]; exact hz) hx (fun v hv => ?_) (fun hv q' => ?_) hp0
  · obtain ⟨i, t, h1, h2, h3, h4⟩ := tl_hit (d := enc v0) hv
    have hi : i < ts.length := (List.getElem?_eq_some_iff.mp h1).1
    refine ⟨t.2.1, i + 1, t.2.2, h3, ?_, ?_, ?_⟩
    · show ((ts.map fun t => ownL X.K t.2.1 t.2.2) ++ l.eraseIdx n)[i]? = _
      rw [List.getElem?_append_left (by rw [List.length_map]; exact hi), List.getElem?_map, h1]
      rfl
    · have : (t.1, t.2.2) ∈ tlE' kf enc m := by rw [← hts]; exact List.mem_map.mpr ⟨t, List.mem_of_getElem? h1, rfl⟩
      obtain ⟨kv, h5, h6⟩ := List.mem_map.mp this
      have h7 : kv.2.map enc = t.2.2 := congrArg (·.2) h6
      rw [← h7, List.length_map]
      exact Nat.lt_of_lt_of_le (hs kv h5) (by decide)
    · have e1 : (tlRs X.K q ts ++ l.eraseIdx n).set (i + 1) (ownL X.K t.2.1 (t.2.2 ++ [enc v0])) = tlRs X.K q (ts.set i (t.1, t.2.1, t.2.2 ++ [enc v0])) ++ l.eraseIdx n := by
        show ownT X.K q (tlA ts) :: (((ts.map fun t => ownL X.K t.2.1 t.2.2) ++ l.eraseIdx n).set i _) = ownT X.K q (tlA (ts.set i _)) :: (((ts.set i _).map fun t => ownL X.K t.2.1 t.2.2) ++ l.eraseIdx n)
        have e2 : tlA (ts.set i (t.1, t.2.1, t.2.2 ++ [enc v0])) = tlA ts := by
          unfold tlA
          rw [List.map_set]
          refine List.ext_getElem? fun j => ?_
          rw [List.getElem?_set]
          by_cases e : i = j
          · subst e
            rw [if_pos rfl, List.getElem?_map, h1, if_pos (by rw [List.length_map]; exact hi)]
            rfl
          · rw [if_neg e]
        rw [e2, List.set_append_left _ _ (by rw [List.length_map]; exact hi), List.map_set]
      rw [e1]
      exact back _ (by rw [h4, hts]; exact alapp_encT inj m)
  · obtain ⟨h1, h2⟩ := tl_miss (d := enc v0) (q' := q') hv
    have e1 : putKD (tlA ts) (kf k) (.adr q') = tlA (ts ++ [(kf k, q', [enc v0])]) := by
      unfold putKD
      rw [if_neg (by rw [h2]; simp)]
      unfold tlA
      rw [List.map_append]
      rfl
    refine Blk.perm ?_ (back (ts ++ [(kf k, q', [enc v0])]) (by rw [← h1, hts]; exact alapp_encT inj m))
    show (ownL X.K q' [enc v0] :: ownT X.K q (putKD (tlA ts) (kf k) (.adr q')) :: ((ts.map fun t => ownL X.K t.2.1 t.2.2) ++ l.eraseIdx n)).Perm (ownT X.K q (tlA (ts ++ [(kf k, q', [enc v0])])) :: (((ts ++ [(kf k, q', [enc v0])]).map fun t => ownL X.K t.2.1 t.2.2) ++ l.eraseIdx n))
    rw [e1, List.map_append, List.append_assoc]
    refine (List.Perm.swap _ _ _).trans (.cons _ ?_)
    exact (List.perm_middle (l₁ := ts.map fun t => ownL X.K t.2.1 t.2.2) (l₂ := l.eraseIdx n) (a := ownL X.K q' [enc v0])).symm
end
/-! a dict of lists is frozen; an empty one -/
theorem fs_listsT {K : PySem.W.Frag} {F F' : Hp} (ex : Ex F F') : ∀ {ts : List (List Key × Addr × List D)} {B : Hp}, Rs (ts.map fun t => ownL K t.2.1 t.2.2) F B → Ex B F' → ∀ {vs : List (List Key × V)}, FdFs K F vs (tlA ts) → FdFs K F' vs (ts.map fun t => (t.1, D.lst t.2.2))
  | [], _, _, _, _, .nil => .nil
  | t :: ts, B, ⟨A', B', e, dj, ⟨xs, f, eA⟩, r⟩, eB, (_, v) :: vs, .cons a b => by
    subst e
    subst eA
    cases a
    refine .cons (.lst (eB _ _ (join_l one_same)) (FdAll.mono ex _ f)) (fs_listsT ex r (fun x o h => eB x o ?_) b)
    exact (join_r (dj.sym x o h)).trans h
section
variable {X : Cx} {W : WX} {g : Gm} {l : List Res} {Φ : Po} {sts rest : List Stmt} {p q : Addr} {pos : Pos} {S1 : Type} {Om : S1 → Po}
theorem Blk.frzTL {kvs : List (List Key × List D)} {i : Nat} (hi : nth g i = some (.adr p)) (k : Blk X W sts (g.set i (some (.dT (kvs.map fun kv => (kv.1, D.lst kv.2))))) l Φ) : Blk X W sts g (ownTL X.K p kvs :: l) Φ := fun en T σ H Z s m => by
  obtain ⟨F, M, q⟩ := s
  obtain ⟨v, hv, fv⟩ := q.sl.nth hi
  cases fv
  obtain ⟨F', M', q', f, _⟩ := q.frzJ (P := fun F' => Fd X.K F' (.ref p) (.dT (kvs.map fun kv => (kv.1, D.lst kv.2)))) fun A dA hA => by
    have hd : ∀ x o, A x = some o → F x = none := fun x o h => dA.sym x o h
    obtain ⟨ts, hts, A1, B1, e, dj, ⟨vs, f, eA⟩, r⟩ := hA
    subst e
    subst eA
    have e2 : (kvs.map fun kv => (kv.1, D.lst kv.2)) = ts.map fun t => (t.1, D.lst t.2.2) := by rw [← hts, List.map_map]; rfl
    rw [e2]
    refine .dT ?_ (fs_listsT (fun x o h => join_l h) r (fun x o h => ?_) f)
    · rw [join_r (hd p _ (join_l one_same))]; exact join_l one_same
    · have h' : join (one p (.dT vs)) B1 x = some o := (join_r (dj.sym x o h)).trans h
      exact (join_r (hd x o h')).trans h'
  refine k en T σ H Z ⟨F', M', q'.slots ?_⟩ m
  have w := q'.sl.set i f
  have e : σ.set i (some (.ref p)) = σ := by
    apply List.ext_getElem?
    intro j
    by_cases z : j = i
    · subst z
      obtain ⟨h1, h2⟩ := List.getElem?_eq_some_iff.mp hv
      rw [List.getElem?_set_self h1, hv]
    · rw [List.getElem?_set_ne (Ne.symm z)]
  rw [e] at w
  exact w
theorem bo_frzTL {κ α : Type} [DecidableEq κ] {mm : S1} {kf : κ → List Key} {enc : α → D} {m : List (κ × List α)} {i kk : Nat} (hi : nth g i = some (.adr q)) (hk : l[kk]? = some (ownTL X.K q (tlE' kf enc m))) (h : Bo X W sts (g.set i (some (dtE kf (lstE enc) m))) (l.eraseIdx kk) Om mm) : Bo X W sts g l Om mm :=
  Blk.perm (perm_at hk) (Blk.frzTL hi (by
    have e : D.dT ((tlE' kf enc m).map fun kv => (kv.1, D.lst kv.2)) = dtE kf (lstE enc) m := by
      show D.dT ((m.map _).map _) = _
      rw [List.map_map]
      rfl
    rw [e]
    exact h))
theorem bo_l0T {κ α : Type} {i : Nat} {x : Str} {pos' p2 : Pos} {kk : List (κ × List α) → S1} (kf : κ → List Key) (enc : α → D) (hN : X.N.Nodup) (hi : X.N[i]? = some x) (hx : Loc X.env.scope x) (h : ∀ p m, m = [] → Bo X W rest (g.set i (some (.adr p))) (ownTL X.K p (tlE' kf enc m) :: l) Om (kk m))
    (hs : swapsWith (.Dict [] [] p2) (some (.Name x pos')) pos.line X.env = pure false := by rfl) (hf : X.fn x = true ∨ X.env.scope.names.lookup x = some .local := by first | exact .inl rfl | exact .inr rfl | assumption) :
    Bo X W (.Assign [.Name x pos'] (.Dict [] [] p2) pos :: rest) g l Om (lt [] kk) := blk_setX hN hi hx ev_t0 (fun d l' ⟨p, e1, e2⟩ => by
      subst e1; subst e2
      exact Blk.toTL (ts := []) (h p [] rfl)) hs hf
end
/-! ### sorted(d) of a dict with tuple keys -/
def rSortDT (sh : Nat → Bool) : List V → Hp → VK → Prop := fun vs H Q => ∃ (d : Addr) (kvs : List (List Key × V)), vs = [V.ref d] ∧ Rd H d (.dT kvs) ∧ (∀ kv ∈ kvs, shOk sh 0 kv.1 = true ∧ kv.1 ≠ []) ∧
  ∀ (zs' : List (Addr × List Key)) (p : Addr), (zs'.map (·.2)).Perm (kvs.map (·.1)) → (∀ z ∈ zs', H z.1 = some (.tup (z.2.map kV))) → zs'.Pairwise (fun x y => bltK y.2 x.2 = false) → H p = none → Q (.ref p) (L2.upd H p (.lst (zs'.map fun z => V.ref z.1)))
theorem isKeys_zip {H : Hp} : ∀ {kvs : List (List Key × V)} {bs : List Addr}, IsKeys H kvs bs → ∃ zs : List (Addr × List Key), zs.map (·.1) = bs ∧ zs.map (·.2) = kvs.map (·.1) ∧ ∀ z ∈ zs, H z.1 = some (.tup (z.2.map kV))
  | _, _, .nil => ⟨[], rfl, rfl, fun z h => nomatch h⟩
  | _, _, .cons (a := x) (b := y) h t => by
    obtain ⟨zs, h1, h2, h3⟩ := isKeys_zip t
    refine ⟨(y, x.1) :: zs, by rw [List.map_cons, h1], by rw [List.map_cons, h2]; rfl, fun z hz => ?_⟩
    rcases List.mem_cons.mp hz with rfl | hz
    · exact h
    · exact h3 z hz
section
variable {X : Cx}
open PyProof.Rows in
theorem cr_sortDT {sh : Nat → Bool} (hc : X.calm = true) : CallR X (.builtin "sorted") (rSortDT sh) := by
  intro pins s σ H vs us Q I r h
  obtain ⟨d, kvs, rfl, hd, hsh, q⟩ := h
  obtain ⟨u, rfl, ru⟩ := vals1 r
  obtain rfl : u = Value.ref d := ru
  have okd : ObjOk X.prog X.w H s.heap d (.dT kvs) := hd.ok I.hok
  obtain ⟨hz, hs, ks, pr, ob, es, ep, ho, hx, hdt, he, hn⟩ := okd
  have l1 : es.size = ks.length := size_of_entries he
  have l2 : kvs.length = ks.length := Paired.length pr
  obtain ⟨zs, z1, z2, z3⟩ := isKeys_zip (isKeys_of pr)
  have zl : zs.length = ks.length := by have e := congrArg List.length z1; rw [List.length_map, List.length_map] at e; exact e
  refine Calls.call_function_entry kind_sorted plain_sorted entry_sorted (args_sorted1 _) ?_
  unfold Builtin.«sorted»
  refine wpAny_bind (m := checkCount "sorted" 1 1 _) (wpAny_pure ?_)
  refine wpAny_bind (W.kdu_collect (A := X.A.in1) (kdl_raw hs hx hdt) (I.ok.hd hc) ho (by omega) fun h1 tk acc kp ha => ?_)
  have ea : acc.toList = zs.map fun z => Value.ref z.1 := by
    have e0 : (zs.map fun z => Value.ref z.1) = (ks.map fun x => x.2.1).map Value.ref := by rw [← z1, List.map_map]; rfl
    rw [e0, List.map_map]
    have sz : acc.toList.length = ks.length := by rw [Array.length_toList, ha.1, l1]
    refine List.ext_getElem? fun j => ?_
    rw [List.getElem?_map]
    cases qa : acc.toList[j]? with
    | none =>
      have := List.getElem?_eq_none_iff.mp qa
      rw [List.getElem?_eq_none (l := ks) (by omega)]; rfl
    | some v =>
      obtain ⟨en, e1, e2⟩ := ha.2 j v (by rw [← Array.getElem?_toList, qa])
      have e3 := entry_at he j
      rw [e1] at e3
      cases qb : ks[j]? with
      | none => rw [qb] at e3; cases (show some en = none from e3)
      | some b =>
        rw [qb] at e3
        have e4 : en = entryOfKey (tupleKind (mixKind X.prog X.w)) b := Option.some.inj e3
        rw [e2, e4]; rfl
  have I1 : Inv X pins σ H { s with heap := h1, toks := tk } := I.kept kp
  have hsz : acc.toList.length ≤ sizeLine := by rw [ea, List.length_map, zl, ← l2]; exact hz
  refine wpAny_bind (wpAny_newList ?_ hsz)
  have hoL : (h1.push (seqObj "list" acc.toList.toArray 0)).get? h1.objs.size = some (seqObj "list" acc.toList.toArray 0) := Heap.get?_push_size _ rfl
  have I2 : Inv X pins σ H { s with heap := h1.push (seqObj "list" acc.toList.toArray 0), toks := tk } := I1.kept fun b o e => Heap.get?_push_of_some _ e
  have kz : ∀ z ∈ zs, G.tupKeyC (h1.push (seqObj "list" acc.toList.toArray 0)) sh (.ref z.1) = some (z.2.map kN) ∧ ∃ f, TupOf (h1.push (seqObj "list" acc.toList.toArray 0)) sh (.ref z.1) f := fun z hz0 => by
    obtain ⟨its2, r2, ⟨o2, ho2, hc2, n2, hd2⟩, _⟩ := I2.tuple (SqT.of (z3 z hz0))
    have mk : z.2 ∈ kvs.map (·.1) := by rw [← z2]; exact List.mem_map.mpr ⟨z, hz0, rfl⟩
    obtain ⟨kv, mkv, ekv⟩ := List.mem_map.mp mk
    obtain ⟨s1, s2⟩ := hsh kv mkv
    rw [show kv.1 = z.2 from ekv] at s1 s2
    refine ⟨G.tupKeyC_of ho2 hc2 hd2 (items_of s1 r2), ?_⟩
    obtain ⟨k0, kr, hk⟩ := List.exists_cons_of_ne_nil s2
    rw [hk] at r2 s1
    cases r2 with
    | @cons _ u _ us qq tt =>
      refine ⟨u, z.1, o2, _, n2, rfl, ho2, hc2, hd2, rfl, fun h0 => ?_, fun h0 => ?_⟩
      · cases k0 with
        | inl i => obtain ⟨tk, rfl⟩ := qq; exact ⟨i, tk, rfl⟩
        | inr x => have := (Bool.and_eq_true_iff.mp s1).1; rw [h0] at this; cases this
      · cases k0 with
        | inl i => have := (Bool.and_eq_true_iff.mp s1).1; rw [h0] at this; cases this
        | inr x => obtain ⟨tk, rfl⟩ := qq; exact ⟨x, tk, rfl⟩
  have ka : ∀ v ∈ acc.toList, (∃ l, G.tupKeyC (h1.push (seqObj "list" acc.toList.toArray 0)) sh v = some l) ∧ ∃ f, TupOf (h1.push (seqObj "list" acc.toList.toArray 0)) sh v f := fun v hv => by
    rw [ea] at hv
    obtain ⟨z, hz0, rfl⟩ := List.mem_map.mp hv
    exact ⟨⟨_, (kz z hz0).1⟩, (kz z hz0).2⟩
  obtain ⟨fs, hfs⟩ : ∃ fs, TupsOf (h1.push (seqObj "list" acc.toList.toArray 0)) sh acc.toList fs := by
    have all : ∀ l : List Value, (∀ v ∈ l, ∃ f, TupOf (h1.push (seqObj "list" acc.toList.toArray 0)) sh v f) → ∃ fs, TupsOf (h1.push (seqObj "list" acc.toList.toArray 0)) sh l fs := fun l => by
      induction l with
      | nil => exact fun _ => ⟨[], .nil⟩
      | cons v l ih =>
        intro hh
        obtain ⟨f, hf⟩ := hh v List.mem_cons_self
        obtain ⟨fs, hfs⟩ := ih fun x hx => hh x (List.mem_cons_of_mem _ hx)
        exact ⟨f :: fs, .cons hf hfs⟩
    exact all _ fun v hv => (ka v hv).2
  show wpAny _ _ _ _ _ { s with heap := h1.push (seqObj "list" acc.toList.toArray 0), toks := tk }
  refine wpAny_bind (wpAny_holding (wpAny_call_entry slot_list_sort ⟨_, hoL, rfl⟩ entry_list_sort
    (G.list_sort_tups (s := { s with heap := h1.push (seqObj "list" acc.toList.toArray 0), toks := tk }) hoL hfs (fun v hv => (ka v hv).1) hsz fun st' g1 g2 _ => ⟨_, rfl, ?_⟩) (args_list_sort _)))
  have hp : (arrOf st').toList.Perm (acc.toList.zip acc.toList) := by
    have w := Array.perm_iff_toList_perm.mp g1
    rw [pairsOf_toList] at w
    exact w
  have hpm : ((arrOf st').map (·.2)).toList.Perm acc.toList := by
    have w := hp.map (·.2)
    rw [List.map_snd_zip (Nat.le_refl _)] at w
    rw [Array.toList_map]
    exact w
  obtain ⟨zs', p1, p2⟩ := perm_lift hpm ea.symm
  obtain ⟨c2, hc2⟩ := sortedHeap_at (vs := acc.toList) (out := (arrOf st').map (·.2)) hoL
  have hlz : zs'.length = (arrOf st').toList.length := by
    have e := congrArg List.length p2
    rw [List.length_map, Array.toList_map, List.length_map] at e
    exact e
  have vv : Vals (zs'.map fun z => V.ref z.1) ((arrOf st').map (·.2)).toList := by
    rw [← p2]
    have w := vals_refs (zs'.map (·.1))
    rw [List.map_map, List.map_map] at w
    exact w
  have hlen : (zs'.map fun z => V.ref z.1).length ≤ sizeLine := by rw [List.length_map, p1.length_eq, zl, ← l2]; exact hz
  have pw : zs'.Pairwise (fun x y => bltK y.2 x.2 = false) := by
    rw [List.pairwise_iff_getElem]
    intro i j hi hj hij
    have hps : (arrOf st').toList.length = (pairsOf acc.toList).size := by rw [pairsOf_size, hp.length_eq, List.length_zip]; omega
    have w := g2 i j (Nat.le_of_lt hij) (by rw [← hps, ← hlz]; exact hj)
    have kk : ∀ (m : Nat) (hm : m < zs'.length), KK (G.tupKindC (h1.push (seqObj "list" acc.toList.toArray 0)) sh) (arrOf st') m = zs'[m].2.map kN := fun m hm => by
      have hm' : m < (arrOf st').toList.length := by rw [← hlz]; exact hm
      have f1 := mem_zip_self (hp.mem_iff.mp (List.getElem_mem hm'))
      have e5 : Value.ref zs'[m].1 = (arrOf st').toList[m].2 := by
        have h5 := congrArg (fun l => l[m]?) p2
        rw [List.getElem?_map, List.getElem?_eq_getElem hm, Array.toList_map, List.getElem?_map, List.getElem?_eq_getElem hm'] at h5
        exact Option.some.inj h5
      unfold KK
      rw [← Array.getElem?_toList, List.getElem?_eq_getElem hm']
      show (G.tupKeyC _ sh (arrOf st').toList[m].1).getD _ = _
      rw [f1.1, ← e5, (kz zs'[m] (p1.mem_iff.mp (List.getElem_mem hm))).1]
      rfl
    rw [kk i hi, kk j hj] at w
    exact w
  refine wpAny_pure ⟨_, rfl, .ref h1.objs.size, L2.upd H h1.objs.size (.lst (zs'.map fun z => V.ref z.1)), I1.laid (t' := tk) (fun b u e => ?_) (Nat.le_refl _)
    (show ObjOk X.prog X.w _ _ _ (.lst (zs'.map fun z => V.ref z.1)) from ⟨hlen, ((arrOf st').map (·.2)).toList, c2, vv, by rw [Array.toArray_toList]; exact hc2⟩), rfl, q zs' _ (by rw [← z2]; exact p1.map _) (fun z hz0 => z3 z (p1.mem_iff.mp hz0)) pw (I1.hok.fresh (Nat.le_refl _))⟩
  have hb : b < h1.objs.size := Heap.lt_size e
  rw [sortedHeap_old (Nat.ne_of_lt hb) (by rw [size_push']; exact Nat.lt_succ_of_lt hb)]
  exact Heap.get?_push_of_some _ e
end
/-! told with what is frozen -/
theorem takeKeys {K : PySem.W.Frag} {H : Hp} : ∀ (zs : List (Addr × List Key)) (F : Hp), Ex F H → (∀ z ∈ zs, H z.1 = some (.tup (z.2.map kV))) → ∃ F', New F H F' H ∧ FdAll K F' (zs.map fun z => V.ref z.1) (zs.map fun z => D.tup (z.2.map kD))
  | [], F, e, _ => ⟨F, .rf e, .nil⟩
  | z :: zs, F, e, h => by
    have h0 := h z List.mem_cons_self
    have n1 := New.tup e h0
    obtain ⟨F', n2, f⟩ := takeKeys zs (L2.upd F z.1 (.tup (z.2.map kV))) n1.i fun x hx => h x (List.mem_cons_of_mem _ hx)
    exact ⟨F', n1.tr n2, .cons (.tup (SqT.of (n2.f _ _ upd_same)) (keysD z.2)) f⟩
section
variable {X : Cx} {g : Gm} {l : List Res} {d : D} {p pos : Pos}
theorem ev_sortDT {κ β : Type} {kf : κ → List Key} {enc : β → D} {m : List (κ × β)} (sh : Nat → Bool) (inj : ∀ a b, kf a = kf b → a = b) (hsh : ∀ x, shOk sh 0 (kf x) = true) (hne : ∀ x, kf x ≠ []) {e1 : Expr} (ha : Px X e1 g l d) (hd : Dw X.K l d (dE kf enc m)) (hm : X.mg "sorted" = none) (hc : X.calm = true := by rfl)
    (hg : Gl X "sorted" := by rfl) (hs : starEach [e1] X.env = (false, eval e1 X.env) :: starEach [] X.env := by rfl) : EvL X (.Call (.Name "sorted" p) [e1] [] pos) g l ((sortK kf (m.map (·.1))).map fun x => D.tup ((kf x).map kD)) :=
  ev_new (pe_callB (cr_sortDT (sh := sh) hc) hg hm (by decide +kernel) (pa_wp (es := [e1])) (by decide) (by decide) hs rfl) fun en T σ H Q s k => by
  refine pa_c ha pa_n hs en T σ H _ s fun vs H1 s1 => ?_
  obtain ⟨F, M, q⟩ := s1
  obtain ⟨f, t⟩ := q.tm
  cases f with
  | cons f1 f2 =>
    cases f2
    obtain ⟨a, ws, rfl, sq, fs⟩ := hd.get q.exF q.exM q.rs f1
    have ek : ws.map (·.1) = (m.map (·.1)).map kf := by rw [fs.fsts, List.map_map, List.map_map]; rfl
    refine ⟨a, ws, rfl, sq, fun kv hkv => ?_, fun zs' p hp hz hpw hn => ?_⟩
    · have : kv.1 ∈ (m.map (·.1)).map kf := by rw [← ek]; exact List.mem_map.mpr ⟨kv, hkv, rfl⟩
      obtain ⟨x, _, e⟩ := List.mem_map.mp this
      rw [← e]
      exact ⟨hsh x, hne x⟩
    · rw [ek] at hp
      obtain ⟨ks, k1, k2⟩ := perm_lift hp rfl
      have es : ks = sortK kf (m.map (·.1)) := sortK_uniq inj k1 (by
        rw [List.pairwise_iff_getElem]
        intro i j hi hj hij
        have l2 : zs'.length = ks.length := by have := congrArg List.length k2; rw [List.length_map, List.length_map] at this; omega
        have w := List.pairwise_iff_getElem.mp hpw i j (by omega) (by omega) hij
        have at' : ∀ (n : Nat) (h1 : n < ks.length) (h2 : n < zs'.length), zs'[n].2 = kf ks[n] := fun n h1 h2 => by
          have e := congrArg (fun l => l[n]?) k2
          rw [List.getElem?_map, List.getElem?_map, List.getElem?_eq_getElem h1, List.getElem?_eq_getElem h2] at e
          exact (Option.some.inj e).symm
        rw [at' i hi (by omega), at' j hj (by omega)] at w
        unfold leK
        rw [w]
        rfl)
      obtain ⟨F', n, fa⟩ := takeKeys (K := X.K) zs' F q.exF hz
      have ed : (zs'.map fun z => D.tup (z.2.map kD)) = (sortK kf (m.map (·.1))).map fun x => D.tup ((kf x).map kD) := by
        have : (zs'.map fun z => D.tup (z.2.map kD)) = (zs'.map (·.2)).map fun k => D.tup (k.map kD) := by rw [List.map_map]; rfl
        rw [this, ← k2, List.map_map, es]
        rfl
      rw [ed] at fa
      exact k p _ H1 F' M (((q.tmp t).new n)) fa hn
theorem px_sortDT {κ β : Type} {kf : κ → List Key} {enc : β → D} {m : List (κ × β)} (sh : Nat → Bool) (inj : ∀ a b, kf a = kf b → a = b) (hsh : ∀ x, shOk sh 0 (kf x) = true) (hne : ∀ x, kf x ≠ []) {e1 : Expr} (ha : Px X e1 g l d) (hd : Dw X.K l d (dE kf enc m)) (hm : X.mg "sorted" = none) (hc : X.calm = true := by rfl)
    (hg : Gl X "sorted" := by rfl) (hs : starEach [e1] X.env = (false, eval e1 X.env) :: starEach [] X.env := by rfl) : Px X (.Call (.Name "sorted" p) [e1] [] pos) g l (.lst ((sortK kf (m.map (·.1))).map fun x => D.tup ((kf x).map kD))) := (ev_sortDT sh inj hsh hne ha hd hm hc hg hs).frz
end
/-! ### d[k], k a tuple by name -/
def rIxDT (K : PySem.W.Frag) : R2 := fun x y H Q => ∃ (a b : Addr) (kvs : List (List Key × V)) (k : List Key) (v : V), x = .ref a ∧ y = .ref b ∧ Rd H a (.dT kvs) ∧ SqT K H b (k.map kV) ∧ valV kvs k = some v ∧ Q v H
section
variable {X : Cx}
open PyProof.Rows in
theorem ix_dT (hu : X.A.units + 1 < cLine) : IxR X (rIxDT X.K) := by
  intro value slice pins s σ H x y v u Q I rx ry h hs
  obtain ⟨a, b, kvs, k, z, rfl, rfl, hd, hq, hv, q⟩ := h
  obtain rfl : v = Value.ref a := rx
  obtain rfl : u = Value.ref b := ry
  obtain ⟨_, hsy, xs, rel, dd⟩ := dt_rd I.hok hd
  obtain ⟨its, r, ⟨o, h1, h2, n, h3⟩, _⟩ := I.tuple hq
  have hk : (tupleKind (mixKind X.prog X.w)).is s.heap k b := ⟨o, its.toArray, n, h1, h2, h3, by simpa using items_are r⟩
  obtain ⟨w', hw, rw'⟩ := RelO.some_of (v := z) (o := (atKey xs k).map (·.2)) (by rw [← hv]; exact rel.val k)
  obtain ⟨p, hp, hp2⟩ := Option.map_eq_some_iff.mp hw
  refine tail_any dd.typeIs slot_dict_getitem.lookup (wpAny_getItem_heap (tupleKind_room_in1 hu) hk dd hp ?_) hs
  rw [hp2]
  exact ⟨z, H, I.tok _, rw', q⟩
variable {g : Gm} {l : List Res} {d1 d2 : D} {o e : Expr} {pos : Pos}
theorem o_ixDT {kvs : List (List Key × D)} {k : List Key} {d : D} (hd : Dw X.K l d1 kvs) (hv : valD kvs k = some d) : Op2 X.K l (rIxDT X.K) d1 (.tup (k.map kD)) d := fun F M H v u Q eF eM dj rs f1 f2 kk => by
  obtain ⟨a, vs, rfl, rd, fs⟩ := hd.get eF eM rs f1
  obtain ⟨t, rfl, st⟩ := fd_tupK f2
  obtain ⟨w, h1, h2⟩ := fs.valV hv
  exact ⟨a, t, vs, k, w, rfl, rfl, rd, ex_t eF st, h1, kk w F H (.rf eF) h2⟩
theorem px_tgetV {κ β : Type} [DecidableEq κ] {kf : κ → List Key} {m : List (κ × β)} {k : κ} (inj : ∀ a b, kf a = kf b → a = b) (enc : β → D) {x0 : β} (hu : X.A.units + 64 < cLine) (ho : Px X o g l d1) (hd : Dw X.K l d1 (dE kf enc m)) (hi : Px X e g l (.tup ((kf k).map kD))) (hv : (aget m k).isSome = true) (hs : PlainIx e := by intro _ _; rfl) : Px X (.Subscript o e pos) g l (enc ((aget m k).getD x0)) :=
  px_ix (ix_dT (Px.units hu)) ho hi (o_ixDT hd (by
    rw [val_aget inj]
    cases h : aget m k with
    | none => rw [h] at hv; cases hv
    | some v => rfl)) hs
end
/-! == of lists of two unlike things -/
theorem lst_py {ds : List D} {p : PyData} (h : (D.lst ds).py = some p) : ∃ ps, D.pys ds = some ps ∧ p = .list ps := by
  unfold D.py at h
  obtain ⟨ps, h1, rfl⟩ := Option.map_eq_some_iff.mp h
  exact ⟨ps, h1, rfl⟩
section
variable {α β : Type} [DecidableEq α] [DecidableEq β] {k : Nat} {ok : α → Prop} {ok2 : β → Prop} {enc : α → D} {enc2 : β → D}
end
end Sx
set_option Elab.async false
set_option linter.all false
set_option maxRecDepth 100000
set_option maxHeartbeats 2000000
/-! Things of any kind: the datum itself is the model's value. -/
namespace Sx
open PySem L2
/-- the built-in classes that isinstance asks for -/
inductive AK where
  | int | bool | str | list | tuple
def AK.name : AK → String
  | .int => "int" | .bool => "bool" | .str => "str" | .list => "list" | .tuple => "tuple"
def D.is : D → AK → Bool
  | .int _, .int => true | .bl _, .int => true | .bl _, .bool => true | .str _, .str => true | .lst _, .list => true | .tup _, .tuple => true | _, _ => false
/-- == of Python -/
def D.eq (a b : D) : Bool := match a.py, b.py with
  | some p, some q => PyData.eqv p q
  | _, _ => false
def D.inn (x : D) (ds : List D) : Bool := ds.any fun z => D.eq z x
def D.els : D → List D
  | .lst ds => ds | .tup ds => ds | _ => []
def D.seq : D → Bool
  | .lst _ => true | .tup _ => true | _ => false
def D.ix (d : D) (i : Nat) : D := d.els.getD i .non
def D.toI : D → Int
  | .int i => i | _ => 0
def D.toS : D → Str
  | .str x => x | _ => ""
def D.toB : D → Bool
  | .bl b => b | _ => false
def D.isI : D → Bool
  | .int _ => true | _ => false
def D.isS : D → Bool
  | .str _ => true | _ => false
theorem D.isI_eta {d : D} (h : d.isI = true) : d = .int d.toI := by cases d <;> first | rfl | cases h
theorem D.isI_of {d : D} (h : (d.is .int && !d.is .bool) = true) : d.isI = true := by cases d <;> first | rfl | cases h
theorem D.seq_tup {d : D} (h : (!d.is .tuple) = false) : d.seq = true := by cases d <;> first | rfl | cases h
theorem D.seq_tup' {d : D} (h : d.is .tuple = true) : d.seq = true := by cases d <;> first | rfl | cases h
/-- plain, at most twenty deep -/
abbrev Any (d : D) : Prop := Dp' 20 d
theorem Dp'.els {k : Nat} {d : D} (h : Dp' k d) : ∀ x ∈ d.els, Dp' k x := fun x hx => by
  have key : ∀ (ds : List D) (ps : List PyData), D.pys ds = some ps → PyData.canLayAll0 ps = true → PyData.depthAll ps ≤ k → x ∈ ds → Dp' k x := by
    intro ds
    induction ds with
    | nil => intro ps _ _ _ h; cases h
    | cons d ds ih =>
      intro ps h1 h2 h3 h4
      obtain ⟨a, b, e1, e2, rfl⟩ := pys_cons h1
      have h2 : (PyData.canLay0 a && PyData.canLayAll0 b) = true := h2
      have h3 : max (PyData.depth a) (PyData.depthAll b) ≤ k := h3
      obtain ⟨h5, h6⟩ := Bool.and_eq_true_iff.mp h2
      rcases List.mem_cons.mp h4 with z | z
      · subst z; exact ⟨a, e1, h5, Nat.le_trans (Nat.le_max_left _ _) h3⟩
      · exact ih b e2 h6 (Nat.le_trans (Nat.le_max_right _ _) h3) z
  obtain ⟨p, h1, h2, h3⟩ := h
  cases d with
  | lst ds =>
    obtain ⟨ps, h4, rfl⟩ := lst_py h1
    exact key ds ps h4 h2 (Nat.le_trans (Nat.le_succ _) h3) hx
  | tup ds =>
    unfold D.py at h1
    obtain ⟨ps, h4, rfl⟩ := Option.map_eq_some_iff.mp h1
    exact key ds ps h4 h2 (Nat.le_trans (Nat.le_succ _) h3) hx
  | _ => cases hx
theorem any_ix {d : D} {i : Nat} (h : Any d) (hi : i < d.els.length) : Any (d.ix i) := by
  refine Dp'.els h _ ?_
  unfold D.ix
  rw [List.getD_eq_getElem?_getD, List.getElem?_eq_getElem hi]
  exact List.getElem_mem hi
theorem Any.py {d : D} (h : Any d) : ∃ p, d.py = some p ∧ SeqAt.shaped p = true := by
  obtain ⟨p, h1, h2, h3⟩ := h
  exact ⟨p, h1, shaped_of h2 h3 (by decide)⟩
theorem kit_non : ∀ k : AK, kitB "NoneType" k.name = some (D.is .non k) := fun k => by cases k <;> decide +kernel
theorem kit_bl : ∀ k : AK, kitB "bool" k.name = some (D.is (.bl true) k) := fun k => by cases k <;> decide +kernel
theorem kit_int : ∀ k : AK, kitB "int" k.name = some (D.is (.int 0) k) := fun k => by cases k <;> decide +kernel
theorem kit_str : ∀ k : AK, kitB "str" k.name = some (D.is (.str "") k) := fun k => by cases k <;> decide +kernel
theorem kit_lst : ∀ k : AK, kitB "list" k.name = some (D.is (.lst []) k) := fun k => by cases k <;> decide +kernel
theorem kit_tup : ∀ k : AK, kitB "tuple" k.name = some (D.is (.tup []) k) := fun k => by cases k <;> decide +kernel
theorem Any.tyv {d : D} (h : Any d) (k : AK) : ∃ t, d.tyv = some t ∧ kitB t k.name = some (d.is k) := by
  obtain ⟨p, h1, _⟩ := h
  cases d with
  | non => exact ⟨_, rfl, by cases k <;> exact kit_non _⟩
  | bl b => exact ⟨_, rfl, by cases k <;> exact kit_bl _⟩
  | int i => exact ⟨_, rfl, by cases k <;> exact kit_int _⟩
  | str x => exact ⟨_, rfl, by cases k <;> exact kit_str _⟩
  | lst ds => exact ⟨_, rfl, by cases k <;> exact kit_lst _⟩
  | tup ds => exact ⟨_, rfl, by cases k <;> exact kit_tup _⟩
  | adr a => cases h1
  | ty n => cases h1
  | ins C fs => cases h1
  | scr ds => cases h1
  | dK kvs => cases h1
  | dT kvs => cases h1
  | exc C fs => cases h1
  | kt k => cases h1
theorem D.eq_refl {d : D} (h : Any d) : D.eq d d = true := by
  obtain ⟨p, h1, h2, h3⟩ := h
  unfold D.eq
  rw [h1]
  exact PySem.SeqAt.eqv_refl p h2
theorem D.eq_py {a b : D} {p q : PyData} (h1 : a.py = some p) (h2 : b.py = some q) : D.eq a b = PyData.eqv p q := by unfold D.eq; rw [h1, h2]
theorem EqS.D {α : Type} [DecidableEq α] {k : Nat} {ok : α → Prop} {enc : α → Sx.D} (E : EqS k ok enc) {x y : α} (hx : ok x) (hy : ok y) : D.eq (enc x) (enc y) = decide (x = y) := by
  obtain ⟨p, h1, _⟩ := E.ex x hx
  obtain ⟨q, h2, _⟩ := E.ex y hy
  rw [D.eq_py h1 h2, E.eq x y p q h1 h2]
theorem EqS.any {α : Type} [DecidableEq α] {k : Nat} {ok : α → Prop} {enc : α → Sx.D} (E : EqS k ok enc) {x : α} (hx : ok x) (hk : k ≤ 20 := by decide) : Any (enc x) := Dp'.mono (E.ex x hx) hk
theorem lst_any {ds : List D} (k : Nat) (hk : k ≤ 19) (h : ∀ d ∈ ds, Dp' k d) : Any (.lst ds) := Dp'.mono (Dp'.lst h) (by omega)
theorem map_any {ds : List D} : ds.map (fun x : D => x) = ds := List.map_id' ds
theorem lst_coe {α : Type} {enc : α → D} {xs : List α} : D.lst (xs.map enc) = D.lst ((xs.map enc).map (fun x : D => x)) := by rw [map_any]
section
variable {K : PySem.W.Frag} {l : List Res} {d d1 d2 : D} {ds xs ys : List D}
theorem o_eqAny (h1 : Any d1) (h2 : Any d2) : Op2 K l (rEqD K) d1 d2 (.bl (D.eq d1 d2)) := by
  obtain ⟨p, h3, h4⟩ := h1.py
  obtain ⟨q, h5, h6⟩ := h2.py
  rw [D.eq_py h3 h5]
  exact o_eqD h3 h5 h4 h6
theorem o_neAny (h1 : Any d1) (h2 : Any d2) : Op2 K l (rNeD K) d1 d2 (.bl (!D.eq d1 d2)) := by
  obtain ⟨p, h3, h4⟩ := h1.py
  obtain ⟨q, h5, h6⟩ := h2.py
  rw [D.eq_py h3 h5]
  exact o_neD h3 h5 h4 h6
theorem lv_pys (hx : Any (.lst xs)) : ∃ ps, D.pys xs = some ps ∧ SeqAt.shaped (.list ps) = true := by
  obtain ⟨p, h1, h2⟩ := hx.py
  obtain ⟨ps, h3, rfl⟩ := lst_py h1
  exact ⟨ps, h3, h2⟩
theorem lst_pyE {ps : List PyData} (h : D.pys xs = some ps) : (D.lst xs).py = some (.list ps) := by
  show (D.pys xs).map PyData.list = _
  rw [h]; rfl
theorem o_eqAnyL (hd1 : Lv K l d1 xs) (hd2 : Lv K l d2 ys) (hx : Any (.lst xs)) (hy : Any (.lst ys)) : Op2 K l (rEqD K) d1 d2 (.bl (D.eq (.lst xs) (.lst ys))) := fun F M H v u Q eF eM dj rs f1 f2 kk => by
  obtain ⟨ps, h1, h2⟩ := lv_pys hx
  obtain ⟨qs, g1, g2⟩ := lv_pys hy
  refine ⟨.list ps, .list qs, hd1.dp eF eM rs f1 h1, hd2.dp eF eM rs f2 g1, h2, g2, ?_⟩
  rw [D.eq_py (lst_pyE h1) (lst_pyE g1)] at kk
  exact kk _ F H (.rf eF) (.bl _)
theorem o_neAnyL (hd1 : Lv K l d1 xs) (hd2 : Lv K l d2 ys) (hx : Any (.lst xs)) (hy : Any (.lst ys)) : Op2 K l (rNeD K) d1 d2 (.bl (!D.eq (.lst xs) (.lst ys))) := fun F M H v u Q eF eM dj rs f1 f2 kk => by
  obtain ⟨ps, h1, h2⟩ := lv_pys hx
  obtain ⟨qs, g1, g2⟩ := lv_pys hy
  refine ⟨.list ps, .list qs, hd1.dp eF eM rs f1 h1, hd2.dp eF eM rs f2 g1, h2, g2, ?_⟩
  rw [D.eq_py (lst_pyE h1) (lst_pyE g1)] at kk
  exact kk _ F H (.rf eF) (.bl _)
end
section
variable {X : Cx} {W : WX} {g g' : Gm} {l l' : List Res} {e e2 c a b o : Expr} {d d1 d2 : D} {pos p p2 : Pos} {ds : List D} {x : Str}
theorem px_isAny (k : AK) (z : X.mg "isinstance" = none) (zx : X.mg x = none) (h : Px X e g l d) (hd : Any d) (hv : bootBuiltins x = some (.type k.name) := by decide +kernel)
    (hg : Gl X "isinstance" := by rfl) (hgx : Gl X x := by rfl) (hn : x ≠ "__name__" := by decide) (hdb : (x == ("__debug__" : Str)) = false := by decide)
    (hs : starEach [e, .Name x p2] X.env = (false, eval e X.env) :: starEach [.Name x p2] X.env := by rfl) (hs2 : starEach [.Name x p2] X.env = [(false, eval (.Name x p2) X.env)] := by rfl) (hpl : (backTo pos (starEach [.Name x p2] X.env)).any (·.1) = false := by rfl) :
    Px X (.Call (.Name "isinstance" p) [e, .Name x p2] [] pos) g l (.bl (d.is k)) := by
  obtain ⟨t, ht, hk⟩ := hd.tyv k
  exact px_isT k.name t (d.is k) z zx h ht hk hv hg hgx hn hdb hs hs2 hpl
theorem px_ixAny {i : Nat} (h : Px X a g l d) (hb : Px X b g l (.int (i : Int))) (hi : i < d.els.length) (hs : PlainIx b := by intro _ _; rfl) : Px X (.Subscript a b pos) g l (d.ix i) := by
  cases d with
  | lst ds => exact px_ix ix_list h hb (o_ixL (atI_in (x0 := D.non) (Int.natCast_nonneg i) (Int.ofNat_lt.mpr hi))) hs
  | tup ds => exact px_ix ix_tup h hb (o_ixT (atI_in (x0 := D.non) (Int.natCast_nonneg i) (Int.ofNat_lt.mpr hi))) hs
  | _ => exact absurd hi (Nat.not_lt_zero _)
theorem px_lenAny {e1 : Expr} (z : X.mg "len" = none) (h : Px X e1 g l d) (hq : d.seq = true) (hg : Gl X "len" := by rfl)
    (hs : starEach (e1 :: []) X.env = (false, eval e1 X.env) :: starEach [] X.env := by rfl) (hpl : (backTo pos (starEach [] X.env)).any (·.1) = false := by rfl) : Px X (.Call (.Name "len" p) [e1] [] pos) g l (.int (d.els.length : Int)) := by
  cases d with
  | lst ds => exact px_bi call_len_seq z (pa_c h pa_n hs) o_lenL hg (by decide +kernel) (by decide) (by decide) hs hpl
  | tup ds => exact px_bi call_len_seq z (pa_c h pa_n hs) o_lenT hg (by decide +kernel) (by decide) (by decide) hs hpl
  | _ => cases hq
theorem it_any {tg : Expr} (h : Px X e g l d) (hq : d.seq = true) : Itw X tg e g l (d.els.map (fun x : D => x)) := by
  rw [map_any]
  cases d with
  | lst ds => exact it_list h
  | tup ds => exact it_tup h
  | _ => cases hq
/-! xs.count(v) -/
end
end Sx
set_option Elab.async false
set_option linter.all false
set_option maxRecDepth 100000
set_option maxHeartbeats 2000000
/-! Tuples that are keys, by name: a datum of their own (the tuple is a new object, not one of the module's). -/
namespace Sx
open PySem L2 PyProof.Rows
section
variable {X : Cx} {W : WX} {g g' : Gm} {l l' : List Res} {Φ : Po} {e e2 a b c o v x : Expr} {es : List Expr} {d d1 d2 d3 : D} {pos p p2 apos kp : Pos} {rest : List Stmt} {x1 : Nat} {ds : List D} {k : List Key} {kvs : List (List Key × D)}
end
section
variable {S1 : Type} {Om : S1 → Po} {X : Cx} {W : WX} {g : Gm} {l : List Res} {e o v x : Expr} {es : List Expr} {d1 : D} {pos p2 apos kp : Pos} {x1 : Nat} {rest : List Stmt} {κ β : Type} [DecidableEq κ] {kf : κ → List Key} {m : List (κ × β)} {k : κ} {kk : List (κ × β) → S1}
/-- set where it is not there -/
def asetd {κ β : Type} [DecidableEq κ] (m : List (κ × β)) (k : κ) (v : β) : List (κ × β) := cond (aget m k).isSome m (aput m k v)
end
section
variable {X : Cx} {e : Expr} {g : Gm} {l : List Res} {pos : Pos}
theorem Ev.frzT {kvs : List (List Key × D)} (h : Ev X e g l (fun d' l' => ∃ p, d' = .adr p ∧ l' = ownT X.K p kvs :: l)) : Px X e g l (.dT kvs) := fun en T σ H Q s k => h en T σ H Q s fun v d l' H' p s' => by
  obtain ⟨p, rfl, rfl⟩ := p
  obtain ⟨F, M, q⟩ := s'
  have hv := q.tm.1
  cases hv
  obtain ⟨F', M', q', f, _⟩ := q.frz (P := fun F' => Fd X.K F' (.ref p) (.dT kvs)) fun A hA => by
    obtain ⟨vs, f, rfl⟩ := hA
    have hF : F p = none := by
      obtain ⟨A, B, rfl, _, ⟨_, _, rfl⟩, _⟩ := q.rs
      exact q.dj.sym p _ (join_l one_same)
    exact .dT (by rw [join_r hF]; exact one_same) (FdFs.mono (fun x o h => join_l h) _ f)
  exact k _ H' ⟨F', M', q'.tmp ⟨f, q'.tm.2⟩⟩
end
end Sx
set_option Elab.async false
set_option linter.all false
set_option maxRecDepth 100000
set_option maxHeartbeats 4000000
set_option pp.maxSteps 400
/-! zip of three lists. -/
namespace Sx
open PySem PySem.Spec PyProof.Rows L2
open Sem (wp)
abbrev Tri (h : Heap) (T : Addr) (a b c : Value) : Prop := h.get? T = some { cls := .type "tuple", data := .seq #[a, b, c] }
/-- five that are written, each apart from the others; four that are read, apart from these -/
structure Ap3 (z TO i j k TI a b c : Addr) : Prop where
  z1 : z ≠ TO
  z2 : z ≠ i
  z3 : z ≠ j
  z4 : z ≠ k
  o1 : TO ≠ i
  o2 : TO ≠ j
  o3 : TO ≠ k
  i1 : i ≠ j
  i2 : i ≠ k
  j1 : j ≠ k
  r : ∀ x, x = TI ∨ x = a ∨ x = b ∨ x = c → x ≠ z ∧ x ≠ TO ∧ x ≠ i ∧ x ≠ j ∧ x ≠ k
/-- what a zip of three has, item n next -/
structure Zs (h : Heap) (z TO i j k TI a b c : Addr) (f : Value) (m n p : Nat) (u v w : Value) (xs ys zs : Array Value) : Prop where
  z : IsZip h z TI TO f
  t : Tri h TO u v w
  i : h.IsListIter i a m
  j : h.IsListIter j b n
  k : h.IsListIter k c p
  a : h.IsList a xs
  b : h.IsList b ys
  c : h.IsList c zs
section
variable {prog : Program} {w : World} {A : Around} {E : Value → Shared → Prop} {s : Shared} {z TO i j k TI a b c : Addr} {m n p : Nat} {f u v y : Value} {xs ys zs : Array Value}
section
variable {h h' : Heap} (D : Ap3 z TO i j k TI a b c)
include D
end
theorem Zs.keep {h h' : Heap} (q : Zs h z TO i j k TI a b c f m n p u v y xs ys zs) (e : ∀ x o, h.get? x = some o → h'.get? x = some o) : Zs h' z TO i j k TI a b c f m n p u v y xs ys zs :=
  ⟨e _ _ q.z, e _ _ q.t, q.i.at fun o => e _ o, q.j.at fun o => e _ o, q.k.at fun o => e _ o, q.a.at fun o => e _ o, q.b.at fun o => e _ o, q.c.at fun o => e _ o⟩
/-- all but the five stays -/
def Kp5 (z TO i j k : Addr) (h h' : Heap) : Prop := ∀ x o, x ≠ z → x ≠ TO → x ≠ i → x ≠ j → x ≠ k → h.get? x = some o → h'.get? x = some o
set_option maxHeartbeats 16000000 in
set_option maxHeartbeats 16000000 in
/-! zip(..) of three -/
abbrev itO (a : Addr) : Obj := { cls := .type "list_iterator", data := .fields #[.ref a, .int 0 0] }
abbrev zh1 (h : Heap) (a : Addr) : Heap := h.push (itO a)
abbrev zh2 (h : Heap) (a b : Addr) : Heap := (zh1 h a).push (itO b)
abbrev zh3 (h : Heap) (a b c : Addr) : Heap := (zh2 h a b).push (itO c)
abbrev zh4 (h : Heap) (a b c : Addr) : Heap := (zh3 h a b c).push { cls := .type "tuple", data := .seq #[.ref h.objs.size, .ref (zh1 h a).objs.size, .ref (zh2 h a b).objs.size] }
abbrev zh5 (h : Heap) (a b c : Addr) : Heap := (zh4 h a b c).push { cls := .type "tuple", data := .seq #[.none, .none, .none] }
abbrev zh6 (h : Heap) (a b c : Addr) : Heap := (zh5 h a b c).push { cls := .type "zip", data := .fields #[.none, .bool false, .bool false, .ref (zh3 h a b c).objs.size, .ref (zh4 h a b c).objs.size] }
end
/-! the turn -/
def It3 (K : PySem.W.Frag) (a b c : Addr) : It :=
  ⟨fun i H => ∃ (xs ys zs : List V) (x y z : V), (SqL K H a xs ∧ SqL K H b ys ∧ SqL K H c zs) ∧ xs[i]? = some x ∧ ys[i]? = some y ∧ zs[i]? = some z,
    fun i H v H' => ∃ T x y z, v = .ref T ∧ H T = none ∧ H' = upd H T (.tup [x, y, z]) ∧ (∀ xs, SqL K H a xs → xs[i]? = some x) ∧ (∀ ys, SqL K H b ys → ys[i]? = some y) ∧ ∀ zs, SqL K H c zs → zs[i]? = some z,
    fun i H => ∃ xs ys zs : List V, (SqL K H a xs ∧ SqL K H b ys ∧ SqL K H c zs) ∧ (xs.length ≤ i ∨ ys.length ≤ i ∨ zs.length ≤ i)⟩
def iZip3 (K : PySem.W.Frag) (ta : TA) : TI := fun σ H R => ta σ H fun vs H1 => ∃ a b c xs ys zs, vs = [.ref a, .ref b, .ref c] ∧ SqL K H1 a xs ∧ SqL K H1 b ys ∧ SqL K H1 c zs ∧ R (It3 K a b c) H1
/-! as a list of triples -/
section
variable {X : Cx} {g : Gm} {l : List Res} {e e2 e3 : Expr} {p : Pos}
def zipD3 (ds es fs : List D) : List D := (ds.zip (es.zip fs)).map fun q => D.tup [q.1, q.2.1, q.2.2]
end
end Sx
set_option Elab.async false
set_option linter.all false
set_option maxRecDepth 100000
set_option maxHeartbeats 4000000
set_option pp.maxSteps 400
/-! sorted(set(xs)), xs a list of texts. -/
namespace Sx
open PySem PySem.Spec PyProof.Rows L2
/-- a set of texts: its members, each once -/
def StrSet (w : World) (h : Heap) (a : Addr) (ks : List Str) : Prop :=
  ∃ o es ep t, h.get? a = some o ∧ o.ExactSet ∧ o.data = .set es ep t ∧ (∀ e ∈ es.toList, ∃ k tk, e = (hashStr w k, Value.str k tk)) ∧ (es.toList.map fun e => strOf e.2).Perm ks ∧ ks.Nodup ∧
    es.size < scanBound ∧ t.fits es.size = true ∧ Ris t.place.toList ∧ (w.params.followText "set-order" = true ∨ t.led = true)
theorem StrSet.at {w : World} {h h' : Heap} {a : Addr} {ks : List Str} (R : StrSet w h a ks) (k : ∀ o, h.get? a = some o → h'.get? a = some o) : StrSet w h' a ks := by
  obtain ⟨o, es, ep, t, g, r⟩ := R
  exact ⟨o, es, ep, t, k o g, r⟩
section
variable {P : Program} {w : World} {A : Around} {E : Value → Shared → Prop} {s : Shared} {a : Addr} {ks : List Str}
/-- the members that come one by one -/
def gather (ks : List Str) (xs : List Str) : List Str := xs.foldl (fun ks x => if x ∈ ks then ks else x :: ks) ks
abbrev newSet (w : World) : Obj := { cls := .type "set", dict := none, data := .set #[] 0 (.fresh 0 0 (!w.params.followText "set-order")) }
set_option maxRecDepth 100000 in
set_option maxHeartbeats 8000000 in
end
/-! order of texts -/
def leS (x y : Str) : Bool := !decide (y.cps.toList < x.cps.toList)
abbrev sortS (xs : List Str) : List Str := isort leS xs
/-- the texts, each once, in order -/
def setS (xs : List Str) : List Str := sortS (gather [] xs)
section
variable {X : Cx}
def SetSO (w : World) (a : Addr) (ks : List Str) : HO := .ext fun h => StrSet w h a ks
def rSetSt (K : PySem.W.Frag) (w : World) : List V → Hp → VK → Prop := fun xs H Q => ∃ (p : Addr) (ss : List Str), xs = [.ref p] ∧ SqL K H p (ss.map V.str) ∧ ss.length ≤ 1000 ∧ ∀ a, H a = none → Q (.ref a) (L2.upd H a (SetSO w a (gather [] ss)))
def rSortSt (w : World) : List V → Hp → VK → Prop := fun vs H Q => ∃ (a : Addr) (ks : List Str), vs = [V.ref a] ∧ H a = some (SetSO w a ks) ∧ ks.length < 64 ∧
  ∀ (ys : List Str) (p : Addr), ys.Perm ks → sortedS ys = true → H p = none → Q (.ref p) (L2.upd H p (.lst (ys.map V.str)))
variable {g : Gm} {l : List Res} {d : D} {p pos p2 pos2 : Pos}
end
/-! xs.count(b), xs a list of truths -/
def eqb (k : Bool) : Value → Bool
  | .bool n => n == k
  | _ => false
def rCntB (K : PySem.W.Frag) : V → List V → Hp → VK → Prop := fun x xs H Q => ∃ (p : Addr) (bs : List Bool) (k : Bool), x = .ref p ∧ xs = [.bl k] ∧ SqL K H p (bs.map V.bl) ∧ Q (.int (bs.count k : Nat)) H
section
variable {X : Cx}
variable {g : Gm} {l : List Res} {d : D} {o e : Expr} {pos : Pos}
end
end Sx
set_option Elab.async false
set_option linter.all false
set_option maxRecDepth 100000
set_option maxHeartbeats 4000000
set_option pp.maxSteps 400
/-! a comprehension over an owned dict of tuple keys, set on one line; a loop over a frozen one. -/
namespace Sx
open PySem PySem.Spec PyProof.Rows L2
open Sem (wp)
section
variable {X : Cx} {W : WX} {g g' : Gm} {l l' : List Res} {o e c : Expr} {d d1 d2 : D} {pos : Pos} {rest body : List Stmt} {Φ Om : Po} {α β S1 : Type}
/-- a heap without one place -/
def erH (F : Hp) (q : Addr) : Hp := fun a => if a = q then none else F a
/-- data that reaches no heap -/
def Flat : D → Prop
  | .int _ => True | .str _ => True | .bl _ => True | .non => True | .adr _ => True | _ => False
theorem Flat.fd {K : PySem.W.Frag} {F F' : Hp} {v : V} {d : D} (h : Fd K F v d) (f : Flat d) : Fd K F' v d := by
  cases h <;> first | exact f.elim | constructor
/-- slots: what reaches no heap is kept -/
inductive WkN : Gm → Gm → Prop
  | nil : WkN [] []
  | any {o : Option D} {g r : Gm} : WkN g r → WkN (o :: g) (none :: r)
  | keep {d : D} {g r : Gm} (h : WkN g r) (f : Flat d := by trivial) : WkN (some d :: g) (some d :: r)
inductive WkI : Nat → Gm → (Addr → Gm) → Prop
  | here {d : D} {g r : Gm} : WkN g r → WkI 0 (some d :: g) (fun q => some (.adr q) :: r)
  | any {i : Nat} {o : Option D} {g : Gm} {r : Addr → Gm} : WkI i g r → WkI (i + 1) (o :: g) (fun q => none :: r q)
  | keep {i : Nat} {d : D} {g : Gm} {r : Addr → Gm} (h : WkI i g r) (f : Flat d := by trivial) : WkI (i + 1) (some d :: g) (fun q => some d :: r q)
theorem WkN.sl {K : PySem.W.Frag} {F F' : Hp} {g r : Gm} (w : WkN g r) : ∀ {σ : L2.St}, Sl K F g σ → Sl K F' r σ := by
  induction w with
  | nil => intro σ h; cases h; exact .nil
  | any _ ih => intro σ h; cases h with
    | any h => exact .any (ih h)
    | cons _ h => exact .any (ih h)
  | keep _ f ih => intro σ h; cases h with
    | cons h1 h2 => exact .cons (Flat.fd h1 f) (ih h2)
theorem WkI.sl {K : PySem.W.Frag} {F F' : Hp} {q : Addr} {i : Nat} {g : Gm} {r : Addr → Gm} (w : WkI i g r) : ∀ {σ : L2.St}, Sl K F g σ → σ[i]? = some (some (V.ref q)) → Sl K F' (r q) σ := by
  induction w with
  | here w => intro σ h e; cases h with
    | cons _ h2 =>
      have e := Option.some.inj (Option.some.inj e)
      subst e
      exact .cons (.adr _) (w.sl h2)
  | any _ ih => intro σ h e; cases h with
    | any h => exact .any (ih h e)
    | cons _ h => exact .any (ih h e)
  | keep _ f ih => intro σ h e; cases h with
    | cons h1 h2 => exact .cons (Flat.fd h1 f) (ih h2 e)
end
end Sx
set_option Elab.async false
set_option linter.all false
set_option maxRecDepth 100000
set_option maxHeartbeats 4000000
set_option pp.maxSteps 400
/-! sorted(texts), sorted(a dict of texts), abs. -/
namespace Sx
open PySem PySem.Spec PyProof.Rows L2
section
variable {X : Cx} {g : Gm} {l : List Res} {d : D} {p pos : Pos}
end
section
variable {K : PySem.W.Frag} {l : List Res} {d : D}
def absI (i : Int) : Int := if i < 0 then -i else i
end
end Sx
set_option Elab.async false
set_option linter.all false
set_option maxRecDepth 100000
set_option maxHeartbeats 4000000
set_option pp.maxSteps 400
/-! a comprehension over the values of a frozen dict, a tuple's third. -/
namespace Sx
open PySem PySem.Spec PyProof.Rows L2
open Sem (wp)
section
variable {X : Cx} {W : WX} {g g' : Gm} {l l' : List Res} {o e c elt : Expr} {d d1 d2 : D} {pos apos cpos : Pos} {α β S1 : Type}
end
end Sx
set_option Elab.async false
set_option linter.all false
set_option maxRecDepth 100000
set_option maxHeartbeats 2000000
/-! Classes whose __init__ may raise. -/
namespace Sx
open PySem L2 PyProof.Rows
section
variable {X : Cx} {CX : CXT} {k : Nat} {f C : Addr} {fd : FuncData} {ps : List Str} {sp : Sp} {x : Str} {p pos : Pos} {e : Expr} {es : List Expr} {t : TA} {E : L2.St → XK}
/-- C(..) where what is wished of an exception may hang on the slots -/
def tMakeS (C : Addr) (sp : Sp) (E : L2.St → XK) (t : TA) : TE := fun σ H Q => t σ H fun vs H1 => ∀ y dx, H1 y = none → H1 dx = none → dx ≠ y → sp (.ref y :: vs) (upd (upd H1 dx (.own y)) y (.ins C dx [])) (fun v H2 => v = .non ∧ Q (.ref y) H2) (E σ)
end
/-- a class under its name with its __init__, which may raise -/
def GloCX (P : Program) (w : World) (K : PySem.W.Frag) (mg : Str → Option Value) (base : Heap) (k : Nat) (C : Addr) (x : Str) (ps : List Str) (sp : Sp) : Prop :=
  ∃ f fd, FnOk P w K mg base (L2.CX P w) k f fd ps sp ∧ Mk K C f ∧ mg x = some (.ref C) ∧ Binds K fd ps []
section
variable {P : Program} {w : World} {K : PySem.W.Frag} {mg : Str → Option Value} {base : Heap} {k : Nat} {x qual : Str} {st : Stmt} {ps : List Str} {sp : Sp} {C : Addr}
end
section
variable {X : Cx} {W : WX} {g : Gm} {e : Expr} {es : List Expr} {p pos : Pos}
/-- == of lists (its instance of Decidable is the common one, also where one is empty) -/
abbrev decL {α : Type} [DecidableEq α] (xs ys : List α) : Bool := decide (xs = ys)
/-! ### isinstance by several classes -/
/-! ### things of any kind -/
variable {l : List Res} {o a b : Expr} {d : D} {p2 : Pos}
end
end Sx
set_option Elab.async false
set_option linter.all false
set_option maxRecDepth 100000
set_option maxHeartbeats 2000000
/-! Displays whose elements own; targets taken apart from such; tries walked twice, once for each end. -/
namespace Sx
open PySem L2 PyProof.Rows
section
variable {X : Cx} {W : WX} {g : Gm} {l : List Res} {e : Expr} {es : List Expr} {d : D} {pos p : Pos} {ι ι' : Type} {d0 : ι → D} {l0 : ι → List Res} {dt : ι' → List D} {lt1 : ι' → List Res} {ds0 : ι → ι' → List D} {l1 : ι → ι' → List Res}
end
/-! ### a try, each end walked by itself -/
section
variable {X Y : Cx} {W W' : WX} {g : Gm} {l : List Res} {body rest : List Stmt} {pos : Pos} {β ε V : Type} {Om : β → Po}
/-- behind the body stands the rest -/
abbrev OmT (X : Cx) (W : WX) (rest : List Stmt) (Om : β → Po) : β → Po := fun m => { Om m with nx := fun g' l' => Blk X W rest g' l' (Om m), ex := fun _ _ _ _ => False }
/-- the body raises -/
abbrev OmX (K : PySem.W.Frag) (g : Gm) (l : List Res) (x : Xd) : Unit → Po := fun _ => { nx := fun _ _ => False, rt := fun _ _ => False, bk := fun _ _ => False, ct := fun _ _ => False, ex := fun cls dd g' l' => ∃ lx, XE K x cls dd lx ∧ g' = g ∧ l' = lx ++ l }
end
/-! ### raising among arguments -/
def XA (X : Cx) (W : WX) (es : List Expr) (g : Gm) (l : List Res) (x : Xd) : Prop := ∀ en T σ H (Q : List V → Hp → Prop), S X.K en g T l σ H → (∀ cls dd l' H', (∃ lx, XE X.K x cls dd lx ∧ l' = lx ++ l) → S X.K en g T l' σ H' → W cls dd σ H') → wpA X es σ H Q
section
variable {X : Cx} {W : WX} {g : Gm} {l : List Res} {e o : Expr} {es : List Expr} {d : D} {pos p : Pos} {x : Xd}
theorem S.untmp {K : PySem.W.Frag} {en : En} {T : Tm} {σ : L2.St} {H : Hp} {v : V} {d : D} (s : S K en g (T.and K v d) l σ H) : S K en g T l σ H := by
  obtain ⟨F, M, a⟩ := s
  exact ⟨F, M, a.tmp a.tm.2⟩
theorem xa_h (he : Exr X W e g l x) (hs : starEach (e :: es) X.env = (false, eval e X.env) :: starEach es X.env := by rfl) : XA X W (e :: es) g l x := fun en T σ H Q s kx => wpA_of (pa_cons pe_wp pa_wp hs) (he en T σ H _ s (fun _ _ _ _ h _ => h.elim) kx)
theorem xa_t (he : Px X e g l d) (h : XA X W es g l x) (hs : starEach (e :: es) X.env = (false, eval e X.env) :: starEach es X.env := by rfl) : XA X W (e :: es) g l x := fun en T σ H Q s kx => wpA_of (pa_cons pe_wp pa_wp hs) (he en T σ H _ s fun v H1 s1 => h en _ σ H1 _ s1 fun cls dd l' H' hp s' => kx cls dd l' H' hp s'.untmp)
end
end Sx
set_option Elab.async false
set_option linter.all false
set_option maxRecDepth 100000
set_option maxHeartbeats 2000000
/-! sorted(t), t a tuple of whole numbers; classes that are handed what they keep. -/
namespace Sx
open PySem PyProof.Rows SrtO
section
variable {prog : Program} {w : World} {A : Around} {E : Value → Shared → Prop} {s : Shared}
end
open L2
def rSortTup (K : PySem.W.Frag) : List V → Hp → VK → Prop := fun vs H Q => ∃ (a : Addr) (ns : List Int), vs = [V.ref a] ∧ SqT K H a (ns.map V.int) ∧ ∀ (ms : List Int) (p : Addr), ms.Perm ns → ms.Pairwise (· ≤ ·) → H p = none → Q (.ref p) (L2.upd H p (.lst (ms.map V.int)))
section
variable {X : Cx} {g : Gm} {l : List Res} {d : D} {p pos : Pos}
end
end Sx
set_option Elab.async false
set_option linter.all false
set_option maxRecDepth 100000
set_option maxHeartbeats 2000000
/-! What is owned, read as if it were frozen, by an expression that changes nothing of it; owned again behind it. -/
namespace Sx
open PySem L2 PyProof.Rows
def minus (F M : Hp) : Hp := fun a => match M a with | some _ => none | none => F a
def NoT (M : Hp) : Prop := (∀ x xs, M x ≠ some (.tup xs)) ∧ ∀ x o xs, M x ≠ some (.frz o (.tup xs))
def NtR (l : List Res) : Prop := ∀ F M, Rs l F M → ∀ x o xs, M x ≠ some (.frz o (.tup xs))
def Nt1 (r : Res) : Prop := ∀ F M, r.P F M → ∀ x o xs, M x ≠ some (.frz o (.tup xs))
/-- what stays, whatever lists and the like are taken away -/
def Sf (K : PySem.W.Frag) (d : D) : Prop := ∀ F M v, NoT M → Ex M F → Fd K F v d → Fd K (minus F M) v d
def SfR (K : PySem.W.Frag) (l : List Res) : Prop := ∀ F A M, NoT M → Ex M F → Rs l F A → Rs l (minus F M) A
def Sf1 (K : PySem.W.Frag) (r : Res) : Prop := ∀ F A M, NoT M → Ex M F → r.P F A → r.P (minus F M) A
section
variable {K : PySem.W.Frag} {l : List Res}
/-- with what l owns, d is d' -/
def Rdz (K : PySem.W.Frag) (l : List Res) (d d' : D) : Prop := ∀ F M v, Dj F M → Rs l F M → Fd K F v d → Fd K (join F M) v d'
def RdA (K : PySem.W.Frag) (l : List Res) (ds ds' : List D) : Prop := ∀ F M vs, Dj F M → Rs l F M → FdAll K F vs ds → FdAll K (join F M) vs ds'
def RdG (K : PySem.W.Frag) (l : List Res) (g g' : Gm) : Prop := ∀ F M σ, Dj F M → Rs l F M → Sl K F g σ → Sl K (join F M) g' σ
theorem Sl.put : ∀ {g : Gm} {σ : L2.St} {F F' : Hp} {i : Nat} {d d' : D}, Ex F F' → Sl K F g σ → Sx.nth g i = some d → (∀ v, Fd K F v d → Fd K F' v d') → Sl K F' (g.set i (some d')) σ
  | _, _, _, _, _, _, _, _, .nil, _, _ => .nil
  | _, _, _, _, 0, _, _, _, .any _, e, _ => by cases e
  | _, _, _, _, i + 1, _, _, x, .any h, e, k => .any (Sl.put x h e k)
  | _, _, _, _, 0, _, _, x, .cons a h, e, k => by cases e; exact .cons (k _ a) (Sl.mono x h)
  | _, _, _, _, i + 1, _, _, x, .cons a h, e, k => .cons (Fd.mono x _ a) (Sl.put x h e k)
theorem Sl.put2 : ∀ {g : Gm} {σ : L2.St} {F : Hp} {i : Nat} {d' : D} {v : V}, Sl K F g σ → σ[i]? = some (some v) → Fd K F v d' → Sl K F (g.set i (some d')) σ
  | _, _, _, _, _, _, .nil, _, _ => .nil
  | _, _, _, 0, _, _, .any h, e, k => by simp at e; subst e; exact .cons k h
  | _, _, _, i + 1, _, _, .any h, e, k => .any (Sl.put2 h (by simpa using e) k)
  | _, _, _, 0, _, _, .cons a h, e, k => by simp at e; subst e; exact .cons k h
  | _, _, _, i + 1, _, _, .cons a h, e, k => .cons a (Sl.put2 h (by simpa using e) k)
end
section
variable {X : Cx} {e : Expr} {g g' : Gm} {l : List Res}
end
end Sx
set_option Elab.async false
set_option linter.all false
set_option maxRecDepth 100000
set_option maxHeartbeats 4000000
/-! xs.index(b), xs a list of truths; len(set(xs)), xs a list of texts. -/
namespace Sx
open PySem PySem.Spec PyProof.Rows L2
def idxB (v : Bool) : List Bool → Nat
  | [] => 0
  | x :: xs => if x = v then 0 else idxB v xs + 1
section
variable {X : Cx} {g : Gm} {l : List Res} {d : D} {o e : Expr} {apos pos : Pos}
end
/-! a loop with ways out in a def that may run off its end -/
section
variable {X : Cx} {W : WX} {g : Gm} {l : List Res} {body rest : List Stmt} {pos : Pos} {Rr S1 α : Type}
end
section
variable {X : Cx} {g : Gm} {l : List Res} {d : D} {p pos p2 pos2 : Pos}
def rLenSt (w : World) : List V → Hp → VK → Prop := fun vs H Q => ∃ (a : Addr) (ks : List Str), vs = [V.ref a] ∧ H a = some (SetSO w a ks) ∧ Q (.int (ks.length : Nat)) H
end
end Sx
set_option Elab.async false
set_option linter.all false
set_option maxRecDepth 100000
set_option maxHeartbeats 4000000
/-! List comprehensions whose element changes what is owned. -/
namespace Sx
open PySem L2
def mapS {α β σ : Type} (F : σ → α → β × σ) : List α → σ → List β × σ
  | [], s => ([], s)
  | x :: xs, s => ((F s x).1 :: (mapS F xs (F s x).2).1, (mapS F xs (F s x).2).2)
section
variable {X : Cx} {W : WX} {g g' : Gm} {l l' : List Res} {Φ : Po} {e e2 a b c o : Expr} {es : List Expr} {d d1 d2 d3 : D} {pos p p2 : Pos} {rest : List Stmt}
variable {Sx1 : Type} {Om : Sx1 → Po}
end
end Sx
set_option Elab.async false
set_option linter.all false
set_option maxRecDepth 100000
set_option maxHeartbeats 4000000
/-! List comprehensions out of which an exception flies. -/
namespace L2
open PySem PySem.Spec PyProof.Rows
/-- a comprehension's block whose element may raise -/
abbrev Cx.blkX (X : Cx) (s : Shared) (H : Hp) (scope : Scope) (cenv : Env) (fp : List Addr) (xe : Value → Shared → Prop) : Cx := { X.blk s H scope cenv fp with xe := xe }
section
variable {M : Model} {A : Around} {E : Value → Shared → Prop} {s : Shared} {Z : Obj → Prop} {base : Heap} {env cenv : Env} {outer l : List Env} {L e : Addr}
end
section
variable {X : Cx}
end
end L2
namespace Sx
open PySem L2
/-- within a comprehension's block that may raise -/
abbrev BlkcX (X : Cx) (W : WX) (scope : Scope) (Pp : Cx → WX → Prop) : Prop := ∀ (σ : L2.St) (s : Shared) (H : Hp) (C : Addr) (cl : List (Str × Addr)) (fp : List Addr) (xe : Value → Shared → Prop), Takes (X.blkX s H scope (compEnvC scope cl C X.env) fp xe) (fun cls d _ H' => W cls d σ H') → Pp (X.blkX s H scope (compEnvC scope cl C X.env) fp xe) (fun cls d _ H' => W cls d σ H')
def teBX (X : Cx) (W : WX) (scope : Scope) (e : Expr) : L2.St → TE := fun σ0 σ H Q => ∀ (s : Shared) (H0 : Hp) (C : Addr) (cl : List (Str × Addr)) (fp : List Addr) (xe : Value → Shared → Prop), Takes (X.blkX s H0 scope (compEnvC scope cl C X.env) fp xe) (fun cls d _ H' => W cls d σ0 H') → wpE (X.blkX s H0 scope (compEnvC scope cl C X.env) fp xe) e σ H Q
section
variable {X : Cx} {W : WX} {g : Gm} {l : List Res}
/-! [f(x) for x in xs], f may raise -/
def mapE {α β ε : Type} (m : α → Except ε β) : List α → Except ε (List β)
  | [] => .ok []
  | x :: xs => match m x with
    | .error e => .error e
    | .ok v => match mapE m xs with
      | .error e => .error e
      | .ok vs => .ok (v :: vs)
end
end Sx
set_option Elab.async false
set_option linter.all false
set_option maxRecDepth 100000
set_option maxHeartbeats 4000000
/-! Ways by a constant; methods of what is made at once. -/
namespace Sx
open PySem L2
section
variable {X : Cx} {W : WX} {g : Gm} {l : List Res} {sts : List Stmt} {β : Type} {Om : β → Po} {b : Bool} {m1 m2 : β}
end
section
variable {X : Cx} {g : Gm} {l : List Res} {o : Expr} {pos apos : Pos} {α β ι ι' : Type} {ok : α → Prop} {args : α → List D} {own : α → List Res} {dd : α → ι → β → D} {ll : α → ι → β → List Res} {mm : Str} {ps : List Str} {k j : Nat} {C : Addr} {pl : Sem Bool}
end
section
variable {X : Cx} {g : Gm} {l : List Res} {a b : Expr} {pos : Pos} {ι : Type} {d2 : D} {ll : ι → List Res} {rest : List Expr} {k k' : Bool}
end
end Sx
set_option Elab.async false
set_option linter.all false
set_option maxRecDepth 100000
set_option maxHeartbeats 2000000
/-! The head: what the top has written, told by names. -/
namespace Sx
open PySem L2
def isiB (K : PySem.W.Frag) (C : Addr) : Bool := decide (PySem.W.findIn K (.ref C) "__class__" = some (some (.builtin "object.__class__"))) && (decide (PySem.W.specialIn K (.builtin "object.__class__") "__get__" = some (some (.builtin "getset_descriptor.__get__"))) && (decide (PySem.W.takesIn K (.builtin "object.__class__") = some true) && decide (PySem.W.mroIn K C (.type "object") = some true)))
theorem isiB_ok {K : PySem.W.Frag} {C : Addr} (h : isiB K C = true) : Isi K C := by
  obtain ⟨h1, h⟩ := He.ba h
  obtain ⟨h2, h⟩ := He.ba h
  obtain ⟨h3, h4⟩ := He.ba h
  exact ⟨of_decide_eq_true h1, of_decide_eq_true h2, of_decide_eq_true h3, of_decide_eq_true h4⟩
/-- one more fact -/
inductive Fb where
  | isi (x : Str)
  | kit (x y : Str) (b : Bool)
  | mk0 (x : Str)
  | exc (x : Str)
  | xin (x : Str)
  | kitT (x : Str) (t : String) (b : Bool)
  | exm (x y : Str) (b : Bool)
  | kitN (y : Str)
  | oex (x : Str)
  | xno (x f : Str)
  | rin (x : Str)
def excB (K : PySem.W.Frag) (C : Addr) : Bool := PySem.W.keepIn K (.ref C) && (decide (PySem.W.subIn K (.ref C) (.type "BaseException") = some true) && (decide (PySem.W.typeIn K (.ref C) = some (.type "type")) && (decide (PySem.W.findIn K (.ref C) "__getattribute__" = some (some (.builtin "BaseException.__getattribute__"))) && (decide (PySem.W.findIn K (.ref C) "__getattr__" = some none) && (PySem.W.hasDictIn K C && isiB K C)))))
def oexB (K : PySem.W.Frag) (C : Addr) : Bool := match K.lookup C with
  | some ⟨.type "type", _, .cls cd, sl⟩ => (match cd.mro, sl.toList with
    | .ref C' :: bm, [_, _, _, _, some (.builtin n), _] => C' == C && n == "ValueError.__new__" && !cd.hasDel && cd.hasDict && PySem.HandSPX.refsVE bm
    | _, _ => false)
  | _ => false
theorem oexB_ok {K : PySem.W.Frag} {C : Addr} (q : oexB K C = true) : ∃ nm q N bs bm sn sub ab col dd k0 k1 k2 k3 k5, K.lookup C = some (excClassObj nm q C N bs bm true sn sub ab col dd k0 k1 k2 k3 k5 "ValueError.__new__") ∧ PySem.HandSPX.refsVE bm = true := by
  unfold oexB at q
  split at q
  · rename_i dd cd sl ho
    split at q
    · rename_i C' bm k0 k1 k2 k3 n k5 hm hs
      simp only [Bool.and_eq_true, beq_iff_eq, Bool.not_eq_true'] at q
      obtain ⟨⟨⟨⟨rfl, rfl⟩, hdel⟩, hd⟩, ht⟩ := q
      obtain ⟨nm, bs, mro, ns, qn, hd', sn, sub, ab, col, del⟩ := cd
      dsimp only at hm hdel hd
      subst hm hdel hd
      have hsl : sl = #[k0, k1, k2, k3, some (.builtin "ValueError.__new__"), k5] := by
        obtain ⟨l⟩ := sl
        simp only at hs
        rw [hs]
      subst hsl
      exact ⟨nm, qn, ns, bs, bm, sn, sub, ab, col, dd, k0, k1, k2, k3, k5, ho, ht⟩
    · cases q
  · cases q
def rinB (K : PySem.W.Frag) (R : Addr) : Bool := PySem.W.readsIn K R (.type "type") && ((match PySem.W.findCls K (.ref R) (.type "type") "__init__" with | some (.val (.builtin s)) => s == "ValueError.__init__" | _ => false) && decide (PySem.W.specialIn K (.ref R) "__getattribute__" = some (some (.builtin "type.__getattribute__"))))
theorem rinB_ok {K : PySem.W.Frag} {R : Addr} (h : rinB K R = true) : Rin K R := by
  obtain ⟨h1, h⟩ := He.ba h
  obtain ⟨h2, h3⟩ := He.ba h
  refine ⟨h1, ?_, of_decide_eq_true h3⟩
  split at h2
  · rename_i s e
    rw [beq_iff_eq] at h2
    subst h2; exact e
  · cases h2
def Fb.ok (K : PySem.W.Frag) : Fb → Bool
  | .isi x => isiB K (He.ga K x)
  | .kit x y b => decide (PySem.W.kitOne K (.ref (He.ga K x)) (.ref (He.ga K y)) = some b)
  | .mk0 x => PySem.W.makesIn K (He.ga K x) && decide (PySem.W.findIn K (.ref (He.ga K x)) "__init__" = some (some (.builtin "object.__init__")))
  | .exc x => excB K (He.ga K x)
  | .xin x => PySem.W.excIn K (He.ga K x) vErr "ValueError.__new__"
  | .kitT x t b => decide (PySem.W.kitOne K (.ref (He.ga K x)) (.type t) = some b)
  | .exm x y b => decide (PySem.W.exmOne K (.ref (He.ga K x)) (.ref (He.ga K y)) = some b)
  | .kitN y => decide (PySem.W.kitOne K (.type "NoneType") (.ref (He.ga K y)) = some false)
  | .oex x => oexB K (He.ga K x) && (decide (PySem.W.findIn K (.ref (He.ga K x)) "__setattr__" = some (some (.builtin "object.__setattr__"))) && (decide (PySem.W.subIn K (.ref (He.ga K x)) (.type "BaseException") = some true) && (decide (PySem.W.typeIn K (.ref (He.ga K x)) = some (.type "type")) && (PySem.W.keepIn K (.ref (He.ga K x)) && (decide (PySem.W.findIn K (.ref (He.ga K x)) "__init__" = some (some (.ref (He.ma K (He.ga K x) "__init__")))) && decide (PySem.W.typeIn K (.ref (He.ma K (He.ga K x) "__init__")) = some (.type "function")))))))
  | .xno x f => decide (PySem.W.findIn K (.ref (He.ga K x)) f = some none)
  | .rin x => rinB K (He.ga K x)
def exB (fb : List Fb) (K : PySem.W.Frag) : Bool := fb.all fun f => f.ok K
section
variable {K : PySem.W.Frag} {h : Heap} {mg : Str → Option Value} {fb : List Fb} {w : World} {fa : List He.Fa} {fn : List He.DefD}
theorem fb_at (c : exB fb K = true) (i : Nat) {f : Fb} (h : fb[i]? = some f := by rfl) : f.ok K = true := List.all_eq_true.mp c f (List.mem_of_getElem? h)
theorem kit_ok {x y : Str} {b : Bool} (h : (Fb.kit x y b).ok K = true) : PySem.W.kitOne K (.ref (He.ga K x)) (.ref (He.ga K y)) = some b := of_decide_eq_true h
theorem mk0_ok {x : Str} (h : (Fb.mk0 x).ok K = true) (k : (He.Fa.keep x).ok K = true) : Mk0 K (He.ga K x) := by
  obtain ⟨h1, h2⟩ := He.ba h
  exact ⟨h1, He.keep_ok k, of_decide_eq_true h2⟩
theorem kitT_ok {x : Str} {t : String} {b : Bool} (h : (Fb.kitT x t b).ok K = true) : PySem.W.kitOne K (.ref (He.ga K x)) (.type t) = some b := of_decide_eq_true h
theorem exm_ok {x y : Str} {b : Bool} (h : (Fb.exm x y b).ok K = true) : PySem.W.exmOne K (.ref (He.ga K x)) (.ref (He.ga K y)) = some b := of_decide_eq_true h
theorem kitN_ok {y : Str} (h : (Fb.kitN y).ok K = true) : PySem.W.kitOne K (.type "NoneType") (.ref (He.ga K y)) = some false := of_decide_eq_true h
theorem xno_ok {x f : Str} (h : (Fb.xno x f).ok K = true) : PySem.W.findIn K (.ref (He.ga K x)) f = some none := of_decide_eq_true h
theorem rin_ok {x : Str} (h : (Fb.rin x).ok K = true) : Rin K (He.ga K x) := rinB_ok h
theorem oex_ok {x : Str} (h : (Fb.oex x).ok K = true) (hm : mg x = some (.ref (He.ga K x))) : Dxi K mg x (He.ga K x) (He.ma K (He.ga K x) "__init__") := by
  obtain ⟨h1, h⟩ := He.ba h
  obtain ⟨h2, h⟩ := He.ba h
  obtain ⟨h3, h⟩ := He.ba h
  obtain ⟨h4, h⟩ := He.ba h
  obtain ⟨h5, h⟩ := He.ba h
  obtain ⟨h6, h7⟩ := He.ba h
  exact ⟨hm, ⟨oexB_ok h1, of_decide_eq_true h2, of_decide_eq_true h3, of_decide_eq_true h4, h5⟩, of_decide_eq_true h6, of_decide_eq_true h7⟩
/-- an exception class with an own __init__ -/
def Dxin (K : PySem.W.Frag) (mg : Str → Option Value) (x : Str) (C : Addr) (qual : Str) (st : Stmt) : Prop := ∃ f fd, Fun K "__init__" qual st f fd ∧ Dxi K mg x C f
theorem xin_ok {x : Str} (h : (Fb.xin x).ok K = true) : PySem.W.excIn K (He.ga K x) vErr "ValueError.__new__" = true := h
theorem dxc_ok {x : Str} (h : (Fb.exc x).ok K = true) (hm : mg x = some (.ref (He.ga K x))) : Dxc K mg x (He.ga K x) := by
  obtain ⟨h1, h⟩ := He.ba h
  obtain ⟨h2, h⟩ := He.ba h
  obtain ⟨h3, h⟩ := He.ba h
  obtain ⟨h4, h⟩ := He.ba h
  obtain ⟨h5, h⟩ := He.ba h
  obtain ⟨h6, h7⟩ := He.ba h
  have i := isiB_ok h7
  exact ⟨hm, h1, of_decide_eq_true h2, of_decide_eq_true h3, ⟨of_decide_eq_true h4, of_decide_eq_true h5, of_decide_eq_true h2, h6, i.1, i.2, i.3, i.4⟩⟩
theorem fun_of {x qual : Str} {st : Stmt} {f : Addr} {fd : FuncData} (F : FunD K x qual (defArgs st) (defBody st) (defScope st) [] [] f fd) : Fun K x qual st f fd := by
  obtain ⟨oc, od, dV, kV, doc, pm, an, cdv, ct, osl, e, lk, hcd, hD, hK⟩ := F.ex
  rcases hD with ⟨_, rfl⟩ | ⟨z, _⟩
  · exact ⟨⟨oc, od, kV, doc, pm, an, cdv, ct, osl, e, lk, hcd⟩, F.kp⟩
  · exact absurd rfl z
abbrev dD (x : Str) (st : Stmt) : He.DefD := ⟨(x, none), x, x, defArgs st, defBody st, defScope st, [], []⟩
abbrev dM (C m qual : Str) (st : Stmt) : He.DefD := ⟨(C, some m), m, qual, defArgs st, defBody st, defScope st, [], []⟩
theorem dfn_of {x : Str} {st : Stmt} (c : He.SaysD fa fn K) (G : mg x = some (.ref (He.ga K x))) (i : Nat) (e : fn[i]? = some (dD x st) := by rfl) : Dfn K mg x st := by
  obtain ⟨fd, F⟩ := c.def_ i e
  exact ⟨_, fd, fun_of F, G⟩
theorem dmt_of {C m qual : Str} {st : Stmt} (c : He.SaysD fa fn K) (M : Meth K (He.ga K C) m (He.ma K (He.ga K C) m)) (i : Nat) (e : fn[i]? = some (dM C m qual st) := by rfl) : Dmt K (He.ga K C) m qual st := by
  obtain ⟨fd, F⟩ := c.def_ i e
  exact ⟨_, fd, fun_of F, M⟩
theorem dxin_of {C qual : Str} {st : Stmt} (c : He.SaysD fa fn K) (X0 : Dxi K mg C (He.ga K C) (He.ma K (He.ga K C) "__init__")) (i : Nat) (e : fn[i]? = some (dM C "__init__" qual st) := by rfl) : Dxin K mg C (He.ga K C) qual st := by
  obtain ⟨fd, F⟩ := c.def_ i e
  exact ⟨_, fd, fun_of F, X0⟩
theorem gloxi_of {P : Program} {w : World} {base : Heap} {k : Nat} {C : Addr} {x qual : Str} {ps : List Str} {sp : Sp} {st : Stmt} (d : Dxin K mg x C qual st) (b : Bnd "__init__" qual st ps) (h : ∀ f fd, Fun K "__init__" qual st f fd → Dxi K mg x C f → FnOk P w K mg base CX0 k f fd ps sp) : GloXi P w K mg base k C x ps sp := by
  obtain ⟨f, fd, F, x0⟩ := d
  have F0 := F
  obtain ⟨⟨oc, od, kV, doc, pm, an, cdv, ct, osl, e, lk, hcd⟩, kp⟩ := F
  exact ⟨f, fd, h f fd F0 x0, x0, Binds.all fun us hl => by rw [e]; exact b kV doc pm an cdv ct us hl⟩
theorem din_of {C qual : Str} {st : Stmt} (c : He.SaysD fa fn K) (M : Mk K (He.ga K C) (He.ma K (He.ga K C) "__init__")) (i : Nat) (e : fn[i]? = some (dM C "__init__" qual st) := by rfl) : Din K (He.ga K C) qual st := by
  obtain ⟨fd, F⟩ := c.def_ i e
  exact ⟨_, fd, fun_of F, M⟩
end
/-! the hook: what the names reach in n steps, and the interpreter's statics -/
def asY (n : Nat) (g : Addr → Option Obj) : List Addr := He.asD g n ++ [cStatics]
abbrev kY (n : Nat) (g : Addr → Option Obj) : PySem.W.Frag := He.frT g (asY n g)
abbrev AlY : Type := He.AlT × Bool
def obsY (n : Nat) (fa : List He.Fa) (fn : List He.DefD) (ex : PySem.W.Frag → Bool) (g : Addr → Option Obj) : AlY := (He.obsT fa fn [] (kY n g), ex (kY n g))
theorem saysY {n : Nat} {fa : List He.Fa} {fn : List He.DefD} {ex : PySem.W.Frag → Bool} {w : World} {h : Heap} (e : obsY n fa fn ex h.get? = (He.valT fn [] w, true)) : He.SaysX fa fn [] [] ex w h (kY n h.get?) :=
  ⟨congrArg (fun z : AlY => z.1) e, congrArg (fun z : AlY => z.2) e, fun _ q => (by cases q), fun _ q => (by cases q), fun _ q => (by cases q)⟩
def hookY (n : Nat) (fa : List He.Fa) (fn : List He.DefD) (ex : PySem.W.Frag → Bool) : PySem.W.Hook where
  α := AlY
  obs := fun s => obsY n fa fn ex s.heap.get?
  val := fun w => (He.valT fn [] w, true)
  says := fun w h => ∃ K : PySem.W.Frag, K.In h ∧ He.SaysX fa fn [] [] ex w h K
  of := fun _ _ e => ⟨_, He.frT_in, saysY e⟩
  keeps := fun _ _ _ ⟨K, hK, c⟩ k => ⟨K, PySem.W.Frag.In.keeps hK k, ⟨c.t, c.more, c.hd, c.out, fun _ q => (by cases q)⟩⟩
theorem obsY_eq {n : Nat} {fa : List He.Fa} {fn : List He.DefD} {ex : PySem.W.Frag → Bool} {g : Addr → Option Obj} {s : Shared} (h : ∀ a, g a = s.heap.get? a) : obsY n fa fn ex g = (hookY n fa fn ex).obs s := by
  have e : g = s.heap.get? := funext h
  rw [e] <;> rfl
/-- two looks are one -/
theorem obsY_app {n : Nat} {fa fa' : List He.Fa} {fn fn' : List He.DefD} {fb fb' : List Fb} {g : Addr → Option Obj} {w : World} (h1 : obsY n fa fn (exB fb) g = (He.valT fn [] w, true)) (h2 : obsY n fa' fn' (exB fb') g = (He.valT fn' [] w, true)) :
    obsY n (fa ++ fa') (fn ++ fn') (exB (fb ++ fb')) g = (He.valT (fn ++ fn') [] w, true) := by
  unfold obsY at *
  generalize kY n g = K at *
  unfold He.obsT He.obsD He.valT He.valD exB at *
  obtain ⟨h1, e1⟩ := Prod.mk.inj h1
  obtain ⟨h2, e2⟩ := Prod.mk.inj h2
  obtain ⟨h1, _⟩ := Prod.mk.inj h1
  obtain ⟨h2, _⟩ := Prod.mk.inj h2
  obtain ⟨a1, m1⟩ := Prod.mk.inj h1
  obtain ⟨a2, m2⟩ := Prod.mk.inj h2
  obtain ⟨p1, q1⟩ := He.ba a1
  obtain ⟨p2, q2⟩ := He.ba a2
  rw [List.all_append, List.all_append, List.all_append, List.map_append, List.map_append, p1, p2, q1, q2, m1, m2, e1, e2]
  rfl
theorem map_obs {n : Nat} {fa fa' : List He.Fa} {fn fn' : List He.DefD} {fb fb' : List Fb} {w : World} {o : Option PySem.W.SharedT} (h1 : o.map (fun s => obsY n fa fn (exB fb) (HandSHeadRun.getT s)) = some (He.valT fn [] w, true)) (h2 : o.map (fun s => obsY n fa' fn' (exB fb') (HandSHeadRun.getT s)) = some (He.valT fn' [] w, true)) :
    o.map (fun s => obsY n (fa ++ fa') (fn ++ fn') (exB (fb ++ fb')) (HandSHeadRun.getT s)) = some (He.valT (fn ++ fn') [] w, true) := by
  obtain ⟨s, rfl, e1⟩ := Option.map_eq_some_iff.mp h1
  obtain ⟨s2, q2, e2⟩ := Option.map_eq_some_iff.mp h2
  cases q2
  exact congrArg some (obsY_app e1 e2)
end Sx
set_option Elab.async false
set_option linter.all false
set_option maxRecDepth 100000
set_option maxHeartbeats 2000000
/-! Owned instances within owned ones: a field's list frozen, += of a field, pop, a walk over an owned dict. -/
namespace Sx
open PySem L2
/-- fields, one of which held a list -/
abbrev FrF (K : PySem.W.Frag) (q : Addr) (ds : List D) (fs fs' : List (Str × D)) : Prop := ∀ F vs, Fd K F (.ref q) (.lst ds) → FdFs K F vs fs → FdFs K F vs fs'
section
variable {X : Cx} {W : WX} {g g' : Gm} {l l' : List Res} {e e2 c a b o : Expr} {d d1 d2 : D} {pos p2 apos : Pos} {ds : List D} {x : Str} {rest sts body : List Stmt} {β : Type} {Om : β → Po} {m : β}
end
section
variable {X : Cx} {W : WX} {g : Gm} {l : List Res} {sts rest : List Stmt} {p q : Addr} {pos : Pos} {S1 : Type} {Om : S1 → Po} {m1 : S1}
end
theorem fdA_ints {K : PySem.W.Frag} {F : Hp} : ∀ ns : List Int, FdAll K F (ns.map V.int) (ns.map D.int)
  | [] => .nil
  | n :: ns => .cons (.int n) (fdA_ints ns)
/-! what is owned at places that nobody tells -/
def packR {A : Type} (f : A → List Res) : Res := ⟨fun F M => ∃ a, Rs (f a) F M, fun e ⟨a, r⟩ => ⟨a, Rs.mono e r⟩, fun ⟨_, r⟩ => Rs.nt r⟩
section
variable {X : Cx} {W : WX} {g : Gm} {l : List Res} {sts : List Stmt} {β : Type} {Om : β → Po} {m : β}
end
end Sx
set_option Elab.async false
set_option linter.all false
set_option maxRecDepth 100000
set_option maxHeartbeats 4000000
/-! What is known of a thing by a test; tuple(range(n)); raising among zip's arguments. -/
namespace Sx
open PySem L2
theorem px_tupRng {X : Cx} {g : Gm} {l : List Res} {a : Expr} {i : Int} {p p2 pos pos2 : Pos} (ha : Px X a g l (.int i)) (h0 : 0 ≤ i) (h1 : i ≤ 10000) (hm : X.mg "tuple" = none) (hm2 : X.mg "range" = none) (hc : X.calm = true := by rfl) (hg : Gl X "tuple" := by rfl) (hg2 : Gl X "range" := by rfl)
    (na : starEach [a] X.env = (false, eval a X.env) :: starEach [] X.env := by rfl) (nb : starEach [.Call (.Name "range" p2) [a] [] pos2] X.env = (false, eval (.Call (.Name "range" p2) [a] [] pos2) X.env) :: starEach [] X.env := by rfl) :
    Px X (.Call (.Name "tuple" p) [.Call (.Name "range" p2) [a] [] pos2] [] pos) g l (.tup ((rngI 0 i.toNat).map D.int)) := fun en T σ H Q s k =>
  wpE_of (pe_tupRg hc hg hm (prg_1 hg2 hm2 pe_wp na) nb) (by
  refine ha en T σ H _ s fun v H1 s1 => ?_
  obtain ⟨F, M, q⟩ := s1
  have fv := q.tm.1
  cases fv
  refine ⟨i, rfl, RgOk.of_le (by omega) (by omega) (by omega) h0, fun p hp => ?_⟩
  have e : rgV 0 i = (rngI 0 i.toNat).map V.int := by
    unfold rgV rngI
    rw [List.map_map, Int.sub_zero]
    rfl
  rw [e]
  have n := New.upd (o := .tup ((rngI 0 i.toNat).map V.int)) q.exF hp
  exact k _ _ ⟨_, M, (q.new n).tmp ⟨.tup (SqT.of upd_same) (FdAll.mono n.f _ (fdA_ints _)), T.mono n.f q.tm.2⟩⟩)
section
variable {X : Cx} {W : WX} {g : Gm} {l : List Res} {sts rest body : List Stmt} {β : Type} {Om : β → Po} {mo : β}
theorem bo_re {i : Nat} {d d' : D} (e : d = d') (h : Bo X W sts (g.set i (some d')) l Om mo) (hg : g.set i (some d) = g := by rfl) : Bo X W sts g l Om mo := by
  subst e
  rw [hg] at h
  exact h
theorem bo_xforZ {e e2 : Expr} {elts : List Expr} {kk : Nat} {tpos p pp pos : Pos} {gt : TG} {x : Xd} (hp : PassesOwn (model X.prog X.w) X.A X.env X.xe) (hc : X.calm = true) (hg : PG X (.Tuple elts kk tpos) gt) (hm : X.mg "zip" = none) (ha : XA X W [e, e2] g l x) (hx : ExTo X.K x (Om mo) g l)
    (hg0 : Gl X "zip" := by rfl) (hs : starEach [e, e2] X.env = (false, eval e X.env) :: starEach [e2] X.env := by rfl) (hpl : (backTo pp (starEach [e2] X.env)).any (·.1) = false := by rfl) (hf : ∀ x, foldedSetIterable (.Call (.Name "zip" p) [e, e2] [] pp) X.env x = pure x := by intro _; rfl) :
    Bo X W (.For (.Tuple elts kk tpos) (.Call (.Name "zip" p) [e, e2] [] pp) body [] pos :: rest) g l Om mo := Blk.exD (x := x) (fun en T σ H D s m =>
  wpS_of (pss_cons (ps_for hp hc (pi_zip hg0 hm (pa_wp (es := [e, e2])) hs hpl) hg pss_wp hf) pss_wp) (ha en T σ H _ s fun cls dd l' H' hq s' => by
    obtain ⟨lx, h1, h2⟩ := hq
    exact m.ex cls dd g l' σ H' ⟨lx, h1, rfl, h2⟩ s')) hx
end
end Sx
set_option Elab.async false
set_option linter.all false
set_option maxRecDepth 100000
set_option maxHeartbeats 4000000
/-! enumerate(t), t a tuple. -/
namespace Sx
open PySem L2 PySem.Spec PyProof.Rows
set_option maxRecDepth 100000
theorem enT_new (a : Addr) (xs : Array Value) (n : Nat) (pr : Option Addr) (sl : Array (Option Value)) :
    Meets (Builtin.«enumerate.__new__» ⟨[.type "enumerate", .ref a], []⟩) (fun _ R s => s.heap.get? a = some { cls := .type "tuple", dict := pr, data := .seq xs n, slots := sl } ∧
      R (.ok (.ret (.ref (s.heap.push { cls := .type "tuple_iterator", data := .fields #[.ref a, .int 0 0] }).objs.size)))
        { s with heap := (s.heap.push { cls := .type "tuple_iterator", data := .fields #[.ref a, .int 0 0] }).push { cls := .type "enumerate", data := .fields #[.none, .bool false, .ref s.heap.objs.size, rawInt 0, .none, .none] } }) :=
  .of_wp fun prog w A R s h => by
    obtain ⟨hp, g, d, tk, os⟩ := s
    obtain ⟨hl, h⟩ := h
    have hsub := sub_enumerate
    have hT : Heap.IsTuple (Shared.heap ⟨hp, g, d, tk, os⟩) a xs := ⟨_, hl, rfl, n, rfl⟩
    have q1 : ∀ {A' : Around} {E : Value → Shared → Prop} {Q : Value → Shared → Prop}, Q (.ref hp.objs.size) ⟨hp.push { cls := .type "tuple_iterator", data := .fields #[.ref a, .int 0 0] }, g, d, tk, os⟩ → wpAny (model prog w) A' (pyIter (.ref a)) Q E ⟨hp, g, d, tk, os⟩ :=
      fun q => (begins_tuple a xs).iter prog w _ _ ⟨hp, g, d, tk, os⟩ _ hT q
    wp_walk using q1
    refine wpAny_stack_any fun st => wpAny_pure ?_
    split
    · rename_i cl _ _ _ _ _
      cases (cl == Value.type "enumerate") <;> (wp_walk using q1; exact ⟨_, rfl, h⟩)
    · wp_walk using q1
      exact ⟨_, rfl, h⟩
section
variable {prog : Program} {w : World} {A : Around} {E : Value → Shared → Prop} {s : Shared}
theorem enT_call {a : Addr} {xs : Array Value} {Q : Value → Shared → Prop} (hT : s.heap.IsTuple a xs)
    (h : ∀ h', IsEnum h' (s.heap.objs.size + 1) s.heap.objs.size 0 .none → h'.IsTupleIter s.heap.objs.size a 0 → (∀ b o, s.heap.get? b = some o → h'.get? b = some o) → Q (.ref (s.heap.objs.size + 1)) { s with heap := h' }) :
    wpAny (model prog w) A (call (.type "enumerate") [.ref a]) Q E s := by
  obtain ⟨⟨c, pr, dt, sl⟩, hl, hc, n, hd⟩ := hT
  replace hc : c = .type "tuple" := hc
  replace hd : dt = .seq xs n := hd
  subst hc; subst hd
  refine callType_new F.called_enumerate (by decide) (F.typeCall_enumerate_1 _) (F.newCall_enumerate_1 _) (fun ob => F.args_object_init_2 ob _) F.entry_enumerate_new (enT_new a xs n pr sl) ⟨hl, ?_⟩
  obtain ⟨h1, e1⟩ : ∃ h1, h1 = s.heap.push { cls := .type "tuple_iterator", data := .fields #[.ref a, .int 0 0] } := ⟨_, rfl⟩
  rw [← e1]
  have hz : h1.objs.size = s.heap.objs.size + 1 := by rw [e1]; exact Heap.size_push ..
  have g1 : h1.get? s.heap.objs.size = some { cls := .type "tuple_iterator", data := .fields #[.ref a, .int 0 0] } := by rw [e1]; exact Heap.get?_push_size _ rfl
  have k1 : ∀ b o, s.heap.get? b = some o → h1.get? b = some o := fun b o x => by rw [e1]; exact Heap.get?_push_of_some _ x
  rw [hz]
  have he : IsEnum (h1.push { cls := .type "enumerate", data := .fields #[.none, .bool false, .ref s.heap.objs.size, rawInt 0, .none, .none] }) (s.heap.objs.size + 1) s.heap.objs.size 0 .none := by
    have := Heap.get?_push_size h1 (o := { cls := .type "enumerate", data := .fields #[.none, .bool false, .ref s.heap.objs.size, rawInt 0, .none, .none] }) rfl
    rw [hz] at this
    exact this
  exact ⟨⟨_, he, rfl⟩, h _ he ⟨_, Heap.get?_push_of_some _ g1, rfl, rfl⟩ fun b o x => Heap.get?_push_of_some _ (k1 b o x)⟩
end
section
variable {prog : Program} {w : World} {A : Around} {E : Value → Shared → Prop} {s : Shared}
theorem enT_end {e it t : Addr} {i : Nat} {xs : Array Value} {old : Value} {c : Int} {Q : Option Value → Shared → Prop} (hh : A.handled = none)
    (he : IsEnum s.heap e it c old) (hit : s.heap.IsTupleIter it t i) (hl : s.heap.IsTuple t xs) (hx : xs[i]? = none)
    (hQ : ∀ h', Heap.ExtBut it s.heap h' → Q none { s with heap := h' }) : wpAny (model prog w) A (pyNext (.ref e)) Q E s := by
  have hT : s.TypeIs (.ref e) "enumerate" := ⟨_, he, rfl⟩
  unfold pyNext
  refine wpAny_bind (wpAny_attempt (wpAny_callSpecial?_slot (name := Str.ofString "__next__") hT F.slot_enumerate_next (wpAny_call_entry F.slot_enumerate_next hT F.entry_enumerate_next ?_ (F.args_enumerate_next_1 _))))
  show wpAny _ _ (field (.ref e) 2 >>= _) _ _ _
  refine wpAny_bind (wpAny_field he rfl (x := .ref it) rfl ?_)
  refine wpAny_bind (wpAny_nextOf_tuple_end hh hit hl hx fun h' x he' hx' => ?_)
  obtain ⟨o, ho, hc⟩ := hx'
  exact wpAny_bind (wpAny_isInstance (T := "StopIteration") (b := true) ⟨o, ho, hc⟩ isSubtype_stop (wpAny_pure (hQ _ he')))
end
/-- the tuple at a, each item in a new pair -/
def Iet (K : PySem.W.Frag) (a : Addr) : It :=
  ⟨fun i H => ∃ (xs : List V) (x : V), SqT K H a xs ∧ xs[i]? = some x, fun i H v H' => ∃ T x, v = .ref T ∧ H T = none ∧ H' = L2.upd H T (.tup [.int (i : Nat), x]) ∧ ∀ xs, SqT K H a xs → xs[i]? = some x, fun i H => ∃ xs : List V, SqT K H a xs ∧ xs.length ≤ i⟩
theorem turn_enT {P : Program} {w : World} {K : PySem.W.Frag} {elts : List Expr} {kk : Nat} {tpos : Pos} (a e it : Addr) (hae : a ≠ it) (hen : e ≠ a) :
    Turn P w K (.Tuple elts kk tpos) (Iet K a) [e, it] e (fun i h => (∃ old, IsEnum h e it ((i : Nat) : Int) old) ∧ h.IsTupleIter it a i ∧ e ≠ it) where
  mem := by simp
  obj := fun i h st b hb => by
    obtain ⟨⟨old, he⟩, ⟨o, ho, hc, hd⟩, _⟩ := st
    have e' : b = e ∨ b = it := by simpa using hb
    rcases e' with z | z
    · rw [z]; exact ⟨_, he, fun v q => nomatch q⟩
    · rw [z]; exact ⟨o, ho, fun v q => by rw [hd] at q; cases q⟩
  keep := fun i h h' st k => let ⟨⟨old, he⟩, hi, hne⟩ := st; ⟨⟨old, k e (by simp) _ he⟩, hi.at fun o q => k it (by simp) o q, hne⟩
  item := by
    intro X hP hw hK hc i pins s σ H E I hf st hg
    subst hP hw hK
    obtain ⟨⟨old, he⟩, hit, hne⟩ := st
    obtain ⟨xs, x, hq, hx⟩ := hg
    obtain ⟨its, rv, p, hz⟩ := I.tuple hq
    have p : s.heap.IsTuple a its.toArray := p
    obtain ⟨u, hu, ru⟩ := rv.get hx
    have hel : e < s.heap.objs.size := Heap.lt_size he
    have hil : it < s.heap.objs.size := by obtain ⟨_, q, _⟩ := hit; exact Heap.lt_size q
    have hlt : i < its.toArray.size := by
      rw [List.size_toArray]
      exact (List.getElem?_eq_some_iff.mp hu).1
    have nf : e ∉ [it, a] := by
      intro q
      rcases List.mem_cons.mp q with z | z
      · exact hne z
      · exact hen (List.mem_singleton.mp z)
    refine wpAny_pyNext_enum_itemC (Draws.tuple (prog := X.prog) (w := X.w) (A := X.A.in1) (by exact I.ok.hd hc) it a hae its.toArray) he ⟨hit, p⟩ hlt hne nf fun x2 h' tk hx2 ho hit' hT hsz hk => ?_
    have ex : x2 = u := by
      have hx2 : its.toArray[i]? = some x2 := hx2
      rw [List.getElem?_toArray] at hx2
      exact Option.some.inj (hx2.symm.trans hu)
    subst ex
    refine ⟨_, rfl, wpAny_letOwnedTupleGo_enum (s := { s with heap := h', toks := tk + 1 }) ho fun h'' he' sb => ?_⟩
    have hT2 : h''.get? s.heap.objs.size = some { cls := .type "tuple", data := .seq #[.int (i : Int) tk, x2] } := (sb.2 _ (Nat.ne_of_gt hel)).trans hT
    have new : ObjOk X.prog X.w (L2.upd H s.heap.objs.size (.tup [.int (i : Nat), x])) h'' s.heap.objs.size (.tup [.int (i : Nat), x]) :=
      ⟨by show 2 ≤ sizeLine; decide, [.int (i : Int) tk, x2], .cons ⟨_, rfl⟩ (.cons ru .nil), ⟨_, hT2, rfl, _, rfl⟩⟩
    have I1 : Inv X pins σ (L2.upd H s.heap.objs.size (.tup [.int (i : Nat), x])) { s with heap := h'', toks := tk + 1 } :=
      I.turnedNew (ch := [e, it]) (fun b ob hb q => (sb.2 b (fun z => hb (by simp [z]))).trans (hk b ob (fun z => hb (by simp [z])) (fun z => hb (by simp [z])) q)) hf (Nat.le_refl _) new
    refine ⟨.ref s.heap.objs.size, _, I1, rfl, ⟨_, x, rfl, I.hok.fresh (Nat.le_refl _), rfl, fun ys hy => by rw [I.tuple_inj hy hq]; exact hx⟩, ⟨⟨x2, ?_⟩, hit'.1.at fun o q => (sb.2 it (Ne.symm hne)).trans q, hne⟩, fun b hb => ?_⟩
    · have e1 : ((i + 1 : Nat) : Int) = (i : Int) + 1 := by omega
      rw [e1]; exact he'
    · have hb' : b < s.heap.objs.size := by
        have e' : b = e ∨ b = it := by simpa using hb
        rcases e' with z | z
        · rw [z]; exact hel
        · rw [z]; exact hil
      rw [L2.upd_ne (Nat.ne_of_lt hb')]
      exact (hf b hb).1
  done := by
    intro X hP hw hK hc i pins s σ H E I hf st hg
    subst hP hw hK
    obtain ⟨⟨old, he⟩, hit, hne⟩ := st
    obtain ⟨xs, hq, hx⟩ := hg
    obtain ⟨its, rv, p, hz⟩ := I.tuple hq
    have p : s.heap.IsTuple a its.toArray := p
    obtain ⟨f0, f1, f2, f3, f4, f5⟩ := hf it (by simp)
    have hl := rv.length
    exact enT_end (I.ok.hd hc) he hit p (by simp; omega) fun h' eb => ⟨rfl, I.turned (t' := s.toks) (fun b o hb q => eb b o hb q) f0 f1 f3 f4 f5⟩
  self := fun A i s Q E st h => let ⟨⟨_, he⟩, _⟩ := st; wpAny_pyIter_enum he h
def iEnT (K : PySem.W.Frag) (ta : TA) : TI := fun σ H R => ta σ H fun vs H1 => ∃ a xs, vs = [.ref a] ∧ SqT K H1 a xs ∧ R (Iet K a) H1
theorem pi_enT {X : Cx} {e : Expr} {ta : TA} {p pos tpos : Pos} {elts : List Expr} {kk : Nat} (hg : Gl X "enumerate") (hm : X.mg "enumerate" = none) (ha : PA X [e] ta) (hs : starEach [e] X.env = [(false, eval e X.env)] := by rfl) :
    PI X (.Tuple elts kk tpos) (.Call (.Name "enumerate" p) [e] [] pos) (iEnT X.K ta) := by
  refine ⟨fun pins s σ H R I h => ?_⟩
  refine Call_ (ld_blt I hg hm boot_enumerate (PyProof.Rows.callWith_type1 (thn (ha.run pos pins s σ H _ I h) fun us s1 ⟨vs, H1, I1, r1, q1⟩ => ?_) hs rfl))
  obtain ⟨a, xs, ex, hq, q⟩ := q1
  subst ex
  cases r1 with
  | cons r rr =>
    cases rr
    cases r
    obtain ⟨its, rv, p', hz⟩ := I1.tuple hq
    have p' : s1.heap.IsTuple a its.toArray := p'
    have hal : a < s1.heap.objs.size := by obtain ⟨_, z, _⟩ := p'; exact Heap.lt_size z
    refine enT_call p' fun h' he hit hk => wpAny_pyIter_enum he ?_
    have I2 : Inv X pins σ H1 { s1 with heap := h' } := I1.kept (t' := s1.toks) hk
    refine ⟨s1.heap.objs.size + 1, [s1.heap.objs.size + 1, s1.heap.objs.size], _, _, H1, rfl, I2, turn_enT a (s1.heap.objs.size + 1) s1.heap.objs.size (Nat.ne_of_lt hal) (Nat.ne_of_gt (Nat.lt_succ_of_lt hal)), ⟨⟨.none, he⟩, hit, Nat.succ_ne_self _⟩, fun b hb => ?_, q⟩
    have e' : b = s1.heap.objs.size + 1 ∨ b = s1.heap.objs.size := by simpa using hb
    have hle : s1.heap.objs.size ≤ b := by
      rcases e' with z | z
      · rw [z]; exact Nat.le_add_right _ _
      · rw [z]; exact Nat.le_refl _
    exact I1.fpOk hle (I1.hok.fresh hle)
theorem jg_enT {lk : List Res} {K : PySem.W.Frag} {F : Hp} {a : Addr} {vs : List V} {ds : List D} (s : SqT K F a vs) (f : FdAll K F vs ds) : JG K lk F (Iet K a) (enumD ds) := fun F' M' H e1 e2 _ _ => by
  have s2 : SqT K H a vs := ex_t (e1.tr e2) s
  refine ⟨fun i hi => ?_, ⟨vs, s2, by rw [enumD_len, f.length]; exact Nat.le_refl _⟩, fun i d x H' hd hy => ?_⟩
  · have q : i < vs.length := by rw [f.length]; rw [enumD_len] at hi; exact hi
    exact ⟨vs, vs[i], s2, List.getElem?_eq_getElem q⟩
  · obtain ⟨T, y, rfl, hT, rfl, h⟩ := hy
    obtain ⟨d', hd', rfl⟩ := enumD_get hd
    obtain ⟨v, h1, h2⟩ := f.get hd'
    have e := Option.some.inj (h1.symm.trans (h vs s2))
    subst e
    have n := New.upd (o := .tup [.int (i : Nat), v]) e2 hT
    exact ⟨_, n, .tup (SqT.of upd_same) (.cons (.int _) (.cons (h2.mono (e1.tr n.f)) .nil))⟩
theorem it_enumT {X : Cx} {g : Gm} {l : List Res} {e : Expr} {elts : List Expr} {kk : Nat} {tpos p pp : Pos} {ds : List D} (h : Px X e g l (.tup ds)) (hm : X.mg "enumerate" = none) (hg : Gl X "enumerate" := by rfl) (hs : starEach [e] X.env = [(false, eval e X.env)] := by rfl) : Itw X (.Tuple elts kk tpos) (.Call (.Name "enumerate" p) [e] [] pp) g l (enumD ds) :=
  ⟨_, pi_enT hg hm (pa_wp (es := [e])) hs, fun en T σ H R s k => pa_c h pa_n hs en T σ H _ s fun vs H1 s1 => by
  obtain ⟨F, M, q⟩ := s1
  obtain ⟨f, t⟩ := q.tm
  cases f with
  | cons a b =>
    cases b
    cases a with
    | tup sq a => exact ⟨_, _, rfl, ex_t q.exF sq, k _ H1 F M (q.tmp t) (jg_enT sq a)⟩⟩
end Sx
set_option Elab.async false
set_option linter.all false
set_option maxRecDepth 100000
set_option maxHeartbeats 4000000
namespace Lw
open PySem L2 Sx
/-! ### plain: names, roads, nets -/
theorem szS {n : Nat} (h : n ≤ 10000) : n ≤ sizeLine := Nat.le_trans h (by decide)
abbrev small : Str := "abcdefghijklmnopqrstuvwxyz"
theorem small_tl : TL.tl small = (List.range 26).map fun i => 97 + i := by decide +kernel
theorem small_in {c : Nat} : c ∈ TL.tl small ↔ 97 ≤ c ∧ c ≤ 122 := by
  rw [small_tl, List.mem_map]
  constructor
  · rintro ⟨i, hi, rfl⟩
    have := List.mem_range.mp hi
    omega
  · intro h
    exact ⟨c - 97, List.mem_range.mpr (by omega), by omega⟩
structure OkN (x : Str) : Prop where
  lo : 1 ≤ x.length
  hi : x.length ≤ 8
  sg : ∀ c ∈ TL.tl x, 97 ≤ c ∧ c ≤ 122
def nameB (x : Str) : Bool := decide (1 ≤ (x.length : Int)) && decide ((x.length : Int) ≤ 8) && ((TL.tl x).map fun c => decide (c ∈ TL.tl small)).all id
theorem nameB_iff {x : Str} : nameB x = true ↔ OkN x := by
  unfold nameB
  rw [Bool.and_eq_true, Bool.and_eq_true, decide_eq_true_iff, decide_eq_true_iff, List.all_map, List.all_eq_true]
  constructor
  · rintro ⟨⟨h1, h2⟩, h3⟩
    exact ⟨by omega, by omega, fun c hc => small_in.mp (of_decide_eq_true (h3 c hc))⟩
  · intro h
    exact ⟨⟨by have := h.lo; omega, by have := h.hi; omega⟩, fun c hc => decide_eq_true (small_in.mpr (h.sg c hc))⟩
theorem OkN.str {x : Str} (h : OkN x) : PySem.PyData.strOk x = true := by
  show x.cps.all (fun c => decide (c < 0x110000)) = true
  rw [← Array.all_toList]
  refine List.all_eq_true.mpr fun c hc => decide_eq_true ?_
  have := h.sg c hc
  omega
structure OkH (hs : List Str) : Prop where
  ok : ∀ h ∈ hs, OkN h
  nd : hs.Nodup
  le : hs.length ≤ 12
abbrev Road := Str × Str × Int × Int
structure OkR (hs : List Str) (r : Road) : Prop where
  b : r.1 ∈ hs
  e : r.2.1 ∈ hs
  ne : r.1 ≠ r.2.1
  t : 1 ≤ r.2.2.1 ∧ r.2.2.1 ≤ 9
  w : 1 ≤ r.2.2.2 ∧ r.2.2.2 ≤ 1000000000
structure OkG (n : List Str × List Road) : Prop where
  h : OkH n.1
  r : ∀ r ∈ n.2, OkR n.1 r
  le : n.2.length ≤ 40
def roadD (r : Road) : D := .tup [.str r.1, .str r.2.1, .int r.2.2.1, .int r.2.2.2]
abbrev housesD (hs : List Str) : List D := hs.map .str
abbrev roadsD (rs : List Road) : List D := rs.map roadD
theorem mem_take_nodup {hs : List Str} {i : Nat} {x : Str} (nd : hs.Nodup) (h : hs[i]? = some x) : x ∉ hs.take i := by
  intro hm
  obtain ⟨j, hj⟩ := List.getElem?_of_mem hm
  rw [List.getElem?_take] at hj
  split at hj
  · rename_i hlt
    have h1 := List.getElem?_eq_some_iff.mp h
    have h2 := List.getElem?_eq_some_iff.mp hj
    obtain ⟨l1, e1⟩ := h1
    obtain ⟨l2, e2⟩ := h2
    have := (List.nodup_iff_pairwise_ne.mp nd)
    have p := List.pairwise_iff_getElem.mp this j i l2 l1 hlt
    exact p (e2.trans e1.symm)
  · cases hj
end Lw
set_option Elab.async false
set_option linter.all false
set_option maxRecDepth 100000
set_option maxHeartbeats 4000000
namespace Lw
open PySem L2 Sx
def top (i : Nat) : Stmt := PySem.Challenge.pw_postroad_k15_the_bag_amiss.main.body.getD i (.Pass ⟨0, 0, 0, 0⟩)
abbrev s_wall : Stmt := top 0
abbrev s_later : Stmt := top 17
abbrev s_is_number : Stmt := top 19
abbrev s_is_bag : Stmt := top 20
abbrev s_stops_at : Stmt := top 22
abbrev s_arrivals : Stmt := top 23
abbrev s_spots_at : Stmt := top 24
abbrev s_is_whole : Stmt := top 31
abbrev s_is_name : Stmt := top 32
abbrev s_are_houses : Stmt := top 33
abbrev s_is_road : Stmt := top 34
abbrev s_law_cell_at : Stmt := top 37
abbrev s_law_houses : Stmt := top 38
abbrev s_law_road : Stmt := top 39
abbrev s_law_letter : Stmt := top 40
abbrev s_law_legs : Stmt := top 41
abbrev s_law_plan : Stmt := top 42
abbrev s_law_whole : Stmt := top 43
abbrev s_law_is_bag : Stmt := top 44
abbrev s_law_lies : Stmt := top 45
abbrev s_law_reason : Stmt := top 46
abbrev s_law_odd : Stmt := top 47
abbrev s_law_refusal : Stmt := top 48
abbrev s_law_both : Stmt := top 49
abbrev s_law : Stmt := top 50
abbrev s_NoLetter_init : Stmt := inClass (top 6) 0
abbrev s_BadBag_init : Stmt := inClass (top 7) 0
abbrev s_NoWay_init : Stmt := inClass (top 8) 0
abbrev s_CutOff_init : Stmt := inClass (top 10) 0
abbrev s_Spot_line : Stmt := inClass (top 12) 0
abbrev s_NotYet_line : Stmt := inClass (top 13) 0
abbrev s_AtHouse_init : Stmt := inClass (top 14) 0
abbrev s_AtHouse_line : Stmt := inClass (top 14) 1
abbrev s_OnRoad_init : Stmt := inClass (top 15) 0
abbrev s_OnRoad_line : Stmt := inClass (top 15) 1
abbrev s_AtHome_init : Stmt := inClass (top 16) 0
abbrev s_AtHome_line : Stmt := inClass (top 16) 1
abbrev s_Walk_init : Stmt := inClass (top 21) 0
abbrev s_Walk_lies_at : Stmt := inClass (top 21) 1
abbrev s_Walk_are_letters : Stmt := inClass (top 21) 2
abbrev s_Walk_amiss : Stmt := inClass (top 21) 3
abbrev s_Walk_send : Stmt := inClass (top 21) 4
abbrev s_Net_init : Stmt := inClass (top 35) 0
abbrev s_Net_houses : Stmt := inClass (top 35) 1
abbrev s_Net_roads : Stmt := inClass (top 35) 2
abbrev s_Net_road : Stmt := inClass (top 35) 3
abbrev s_Net_known : Stmt := inClass (top 35) 4
abbrev s_Net_out_of : Stmt := inClass (top 35) 5
abbrev s_Net_into : Stmt := inClass (top 35) 6
abbrev s_Net_far : Stmt := inClass (top 35) 7
abbrev ns_wall : List Str := ["k"]
abbrev ns_later : List Str := ["net", "letter", "spot", "turn", "house"]
theorem cs_later : FnScope ns_later ["net", "letter", "spot", "turn"] (defScope s_later) := ⟨rfl, rfl, rfl, by decide +kernel, rfl, by decide +kernel, by decide +kernel⟩
abbrev ns_is_number : List Str := ["thing"]
theorem cs_is_number : FnScope ns_is_number ["thing"] (defScope s_is_number) := ⟨rfl, rfl, rfl, by decide +kernel, rfl, by decide +kernel, by decide +kernel⟩
abbrev ns_is_bag : List Str := ["thing", "one"]
theorem cs_is_bag : FnScope ns_is_bag ["thing"] (defScope s_is_bag) := ⟨rfl, rfl, rfl, by decide +kernel, rfl, by decide +kernel, by decide +kernel⟩
abbrev ns_stops_at : List Str := ["net", "letters", "plan", "turn", "walk", "kept", "place", "bag", "reason"]
theorem cs_stops_at : FnScope ns_stops_at ["net", "letters", "plan", "turn"] (defScope s_stops_at) := ⟨rfl, rfl, rfl, by decide +kernel, rfl, by decide +kernel, by decide +kernel⟩
abbrev ns_arrivals : List Str := ["net", "letters", "plan", "found", "letter", "spot"]
theorem cs_arrivals : FnScope ns_arrivals ["net", "letters", "plan"] (defScope s_arrivals) := ⟨rfl, rfl, rfl, by decide +kernel, rfl, by decide +kernel, by decide +kernel⟩
abbrev ns_spots_at : List Str := ["net", "letters", "plan", "turn", "left", "letter", "spot"]
theorem cs_spots_at : FnScope ns_spots_at ["net", "letters", "plan", "turn"] (defScope s_spots_at) := ⟨rfl, rfl, rfl, by decide +kernel, rfl, by decide +kernel, by decide +kernel⟩
abbrev ns_is_whole : List Str := ["thing", "least", "greatest"]
theorem cs_is_whole : FnScope ns_is_whole ["thing", "least", "greatest"] (defScope s_is_whole) := ⟨rfl, rfl, rfl, by decide +kernel, rfl, by decide +kernel, by decide +kernel⟩
abbrev ns_is_name : List Str := ["thing", "sign"]
theorem cs_is_name : FnScope ns_is_name ["thing"] (defScope s_is_name) := ⟨rfl, rfl, rfl, by decide +kernel, rfl, by decide +kernel, by decide +kernel⟩
abbrev ns_are_houses : List Str := ["thing", "at", "name"]
theorem cs_are_houses : FnScope ns_are_houses ["thing"] (defScope s_are_houses) := ⟨rfl, rfl, rfl, by decide +kernel, rfl, by decide +kernel, by decide +kernel⟩
abbrev ns_is_road : List Str := ["thing", "names", "end"]
theorem cs_is_road : FnScope ns_is_road ["thing", "names"] (defScope s_is_road) := ⟨rfl, rfl, rfl, by decide +kernel, rfl, by decide +kernel, by decide +kernel⟩
abbrev ns_law_cell_at : List Str := ["_law_script", "_law_k"]
theorem cs_law_cell_at : FnScope ns_law_cell_at ["_law_script", "_law_k"] (defScope s_law_cell_at) := ⟨rfl, rfl, rfl, by decide +kernel, rfl, by decide +kernel, by decide +kernel⟩
abbrev ns_law_houses : List Str := ["_law_cell", "_law_many", "_law_letters", "_law_size", "_law_at", "_law_names", "_law_k", "_law_name", "_law_j", "_law_place"]
theorem cs_law_houses : FnScope ns_law_houses ["_law_cell", "_law_many"] (defScope s_law_houses) := ⟨rfl, rfl, rfl, by decide +kernel, rfl, by decide +kernel, by decide +kernel⟩
abbrev ns_law_road : List Str := ["_law_cell", "_law_names", "_law_n", "_law_many", "_law_first", "_law_last", "_law_room"]
theorem cs_law_road : FnScope ns_law_road ["_law_cell", "_law_names"] (defScope s_law_road) := ⟨rfl, rfl, rfl, by decide +kernel, rfl, by decide +kernel, by decide +kernel⟩
abbrev ns_law_letter : List Str := ["_law_cell", "_law_names", "_law_base", "_law_n", "_law_many", "_law_first", "_law_last"]
theorem cs_law_letter : FnScope ns_law_letter ["_law_cell", "_law_names", "_law_base"] (defScope s_law_letter) := ⟨rfl, rfl, rfl, by decide +kernel, rfl, by decide +kernel, by decide +kernel⟩
abbrev ns_law_legs : List Str := ["_law_lines", "_law_letters", "_law_cells", "_law_hops", "_law_load", "_law_legs_here", "_law_number", "_law_letter_here", "_law_cell", "_law_at", "_law_ready", "_law_mine", "_law_k", "_law_outs", "_law_road_here", "_law_n"]
theorem cs_law_legs : FnScope ns_law_legs ["_law_lines", "_law_letters", "_law_cells", "_law_hops"] (defScope s_law_legs) := ⟨rfl, rfl, rfl, by decide +kernel, rfl, by decide +kernel, by decide +kernel⟩
abbrev ns_law_plan : List Str := ["_law_legs_here", "_law_bags", "_law_number", "_law_mine", "_law_leg", "_law_key"]
theorem cs_law_plan : FnScope ns_law_plan ["_law_legs_here"] (defScope s_law_plan) := ⟨rfl, rfl, rfl, by decide +kernel, rfl, by decide +kernel, by decide +kernel⟩
abbrev ns_law_whole : List Str := ["_law_thing"]
theorem cs_law_whole : FnScope ns_law_whole ["_law_thing"] (defScope s_law_whole) := ⟨rfl, rfl, rfl, by decide +kernel, rfl, by decide +kernel, by decide +kernel⟩
abbrev ns_law_is_bag : List Str := ["_law_bag", "_law_n"]
theorem cs_law_is_bag : FnScope ns_law_is_bag ["_law_bag"] (defScope s_law_is_bag) := ⟨rfl, rfl, rfl, by decide +kernel, rfl, by decide +kernel, by decide +kernel⟩
abbrev ns_law_lies : List Str := ["_law_letters", "_law_lines", "_law_ahead", "_law_number", "_law_house", "_law_turn", "_law_letter_here", "_law_here", "_law_leave", "_law_road_here", "_law_numbers"]
theorem cs_law_lies : FnScope ns_law_lies ["_law_letters", "_law_lines", "_law_ahead", "_law_number", "_law_house", "_law_turn"] (defScope s_law_lies) := ⟨rfl, rfl, rfl, by decide +kernel, rfl, by decide +kernel, by decide +kernel⟩
abbrev ns_law_reason : List Str := ["_law_letters", "_law_lines", "_law_ahead", "_law_bag", "_law_turn", "_law_road_here", "_law_numbers", "_law_before", "_law_k", "_law_n"]
theorem cs_law_reason : FnScope ns_law_reason ["_law_letters", "_law_lines", "_law_ahead", "_law_bag"] (defScope s_law_reason) := ⟨rfl, rfl, rfl, by decide +kernel, rfl, by decide +kernel, by decide +kernel⟩
abbrev ns_law_odd : List Str := ["_law_bag", "_law_letters", "_law_lines", "_law_cell", "_law_turn", "_law_road_here", "_law_numbers", "_law_far", "_law_some"]
theorem cs_law_odd : FnScope ns_law_odd ["_law_bag", "_law_letters", "_law_lines", "_law_cell"] (defScope s_law_odd) := ⟨rfl, rfl, rfl, by decide +kernel, rfl, by decide +kernel, by decide +kernel⟩
abbrev ns_law_refusal : List Str := ["_law_error", "_law_one", "_law_other"]
theorem cs_law_refusal : FnScope ns_law_refusal ["_law_error"] (defScope s_law_refusal) := ⟨rfl, rfl, rfl, by decide +kernel, rfl, by decide +kernel, by decide +kernel⟩
abbrev ns_law_both : List Str := ["_law_net", "_law_letters", "_law_plan_here", "_law_turn", "_law_kept", "_law_again", "e"]
theorem cs_law_both : FnScope ns_law_both ["_law_net", "_law_letters", "_law_plan_here", "_law_turn"] (defScope s_law_both) := ⟨rfl, rfl, rfl, by decide +kernel, rfl, by decide +kernel, by decide +kernel⟩
abbrev ns_law : List Str := ["_law_script", "_law_names", "_law_base", "_law_lines", "_law_letters", "_law_net", "_law_plan_here", "_law_k", "_law_cell", "_law_at", "_law_bag", "_law_spoiled", "_law_due", "_law_told", "_law_turns"]
theorem cs_law : FnScope ns_law ["_law_script"] (defScope s_law) := ⟨rfl, rfl, rfl, by decide +kernel, rfl, by decide +kernel, by decide +kernel⟩
abbrev ns_NoLetter_init : List Str := ["self", "number"]
abbrev ns_BadBag_init : List Str := ["self", "place", "reason"]
theorem cs_BadBag_init : FnScope ns_BadBag_init ["self", "place", "reason"] (defScope s_BadBag_init) := ⟨rfl, rfl, rfl, by decide +kernel, rfl, by decide +kernel, by decide +kernel⟩
abbrev ns_NoWay_init : List Str := ["self", "reason", "seen"]
abbrev ns_CutOff_init : List Str := ["self", "number", "seen"]
abbrev ns_Spot_line : List Str := ["self"]
abbrev ns_NotYet_line : List Str := ["self"]
abbrev ns_AtHouse_init : List Str := ["self", "at", "since"]
theorem cs_AtHouse_init : FnScope ns_AtHouse_init ["self", "at", "since"] (defScope s_AtHouse_init) := ⟨rfl, rfl, rfl, by decide +kernel, rfl, by decide +kernel, by decide +kernel⟩
abbrev ns_AtHouse_line : List Str := ["self"]
abbrev ns_OnRoad_init : List Str := ["self", "by", "due"]
theorem cs_OnRoad_init : FnScope ns_OnRoad_init ["self", "by", "due"] (defScope s_OnRoad_init) := ⟨rfl, rfl, rfl, by decide +kernel, rfl, by decide +kernel, by decide +kernel⟩
abbrev ns_OnRoad_line : List Str := ["self"]
abbrev ns_AtHome_init : List Str := ["self", "since"]
theorem cs_AtHome_init : FnScope ns_AtHome_init ["self", "since"] (defScope s_AtHome_init) := ⟨rfl, rfl, rfl, by decide +kernel, rfl, by decide +kernel, by decide +kernel⟩
abbrev ns_AtHome_line : List Str := ["self"]
abbrev ns_Walk_init : List Str := ["self", "net", "letters", "one"]
theorem cs_Walk_init : FnScope ns_Walk_init ["self", "net", "letters"] (defScope s_Walk_init) := ⟨rfl, rfl, rfl, by decide +kernel, rfl, by decide +kernel, by decide +kernel⟩
abbrev ns_Walk_lies_at : List Str := ["self", "number", "house", "turn", "spot"]
theorem cs_Walk_lies_at : FnScope ns_Walk_lies_at ["self", "number", "house", "turn"] (defScope s_Walk_lies_at) := ⟨rfl, rfl, rfl, by decide +kernel, rfl, by decide +kernel, by decide +kernel⟩
abbrev ns_Walk_are_letters : List Str := ["self", "numbers", "ahead", "number"]
theorem cs_Walk_are_letters : FnScope ns_Walk_are_letters ["self", "numbers"] (defScope s_Walk_are_letters) := ⟨rfl, rfl, rfl, by decide +kernel, rfl, by decide +kernel, by decide +kernel⟩
abbrev ns_Walk_amiss : List Str := ["self", "bag", "turn", "road", "numbers", "lines", "number"]
theorem cs_Walk_amiss : FnScope ns_Walk_amiss ["self", "bag"] (defScope s_Walk_amiss) := ⟨rfl, rfl, rfl, by decide +kernel, rfl, by decide +kernel, by decide +kernel⟩
abbrev ns_Walk_send : List Str := ["self", "bag", "turn", "road", "numbers", "number"]
theorem cs_Walk_send : FnScope ns_Walk_send ["self", "bag"] (defScope s_Walk_send) := ⟨rfl, rfl, rfl, by decide +kernel, rfl, by decide +kernel, by decide +kernel⟩
abbrev ns_Net_init : List Str := ["self", "houses", "roads", "one"]
theorem cs_Net_init : FnScope ns_Net_init ["self", "houses", "roads"] (defScope s_Net_init) := ⟨rfl, rfl, rfl, by decide +kernel, rfl, by decide +kernel, by decide +kernel⟩
abbrev ns_Net_houses : List Str := ["self"]
abbrev ns_Net_roads : List Str := ["self"]
abbrev ns_Net_road : List Str := ["self", "number"]
theorem cs_Net_road : FnScope ns_Net_road ["self", "number"] (defScope s_Net_road) := ⟨rfl, rfl, rfl, by decide +kernel, rfl, by decide +kernel, by decide +kernel⟩
abbrev ns_Net_known : List Str := ["self", "house"]
abbrev ns_Net_out_of : List Str := ["self", "house"]
abbrev ns_Net_into : List Str := ["self", "house"]
abbrev ns_Net_far : List Str := ["self", "house", "goal"]
structure Cs where
  (RoadError NoNet NoHouse NoRoad NoLetter BadBag NoWay ManyGoals CutOff Spot NotYet AtHouse OnRoad AtHome Walk Net : Addr)
structure Top (K : PySem.W.Frag) (mg : Str → Option Value) (c : Cs) : Prop where
  z_ValueError : mg "ValueError" = none
  z_enumerate : mg "enumerate" = none
  z_zip : mg "zip" = none
  z_all : mg "all" = none
  z_range : mg "range" = none
  z_len : mg "len" = none
  z_isinstance : mg "isinstance" = none
  z_int : mg "int" = none
  z_list : mg "list" = none
  z_bool : mg "bool" = none
  z_tuple : mg "tuple" = none
  z_str : mg "str" = none
  z_sorted : mg "sorted" = none
  z_max : mg "max" = none
  z_min : mg "min" = none
  d_wall : Dfn K mg "_wall" s_wall
  d_later : Dfn K mg "later" s_later
  d_is_number : Dfn K mg "is_number" s_is_number
  d_is_bag : Dfn K mg "is_bag" s_is_bag
  d_stops_at : Dfn K mg "stops_at" s_stops_at
  d_arrivals : Dfn K mg "arrivals" s_arrivals
  d_spots_at : Dfn K mg "spots_at" s_spots_at
  d_is_whole : Dfn K mg "is_whole" s_is_whole
  d_is_name : Dfn K mg "is_name" s_is_name
  d_are_houses : Dfn K mg "are_houses" s_are_houses
  d_is_road : Dfn K mg "is_road" s_is_road
  d_law_cell_at : Dfn K mg "_law_cell_at" s_law_cell_at
  d_law_houses : Dfn K mg "_law_houses" s_law_houses
  d_law_road : Dfn K mg "_law_road" s_law_road
  d_law_letter : Dfn K mg "_law_letter" s_law_letter
  d_law_legs : Dfn K mg "_law_legs" s_law_legs
  d_law_plan : Dfn K mg "_law_plan" s_law_plan
  d_law_whole : Dfn K mg "_law_whole" s_law_whole
  d_law_is_bag : Dfn K mg "_law_is_bag" s_law_is_bag
  d_law_lies : Dfn K mg "_law_lies" s_law_lies
  d_law_reason : Dfn K mg "_law_reason" s_law_reason
  d_law_odd : Dfn K mg "_law_odd" s_law_odd
  d_law_refusal : Dfn K mg "_law_refusal" s_law_refusal
  d_law_both : Dfn K mg "_law_both" s_law_both
  d_law : Dfn K mg "law" s_law
  k_SMALL : ∃ t, mg "SMALL" = some (.str "abcdefghijklmnopqrstuvwxyz" t)
  k_MOST_HOUSES : ∃ t, mg "MOST_HOUSES" = some (.int 12 t)
  k_MOST_ROADS : ∃ t, mg "MOST_ROADS" = some (.int 40 t)
  k_LONGEST : ∃ t, mg "LONGEST" = some (.int 9 t)
  k_WIDEST : ∃ t, mg "WIDEST" = some (.int 1000000000 t)
  c_Spot : Dcl K mg "Spot" c.Spot
  i_Spot : Isi K c.Spot
  d_Spot_line : Dmt K c.Spot "line" "Spot.line" s_Spot_line
  m_Spot : Mk0 K c.Spot
  c_NotYet : Dcl K mg "NotYet" c.NotYet
  i_NotYet : Isi K c.NotYet
  d_NotYet_line : Dmt K c.NotYet "line" "NotYet.line" s_NotYet_line
  m_NotYet : Mk0 K c.NotYet
  c_AtHouse : Dcl K mg "AtHouse" c.AtHouse
  i_AtHouse : Isi K c.AtHouse
  d_AtHouse_init : Din K c.AtHouse "AtHouse.__init__" s_AtHouse_init
  d_AtHouse_line : Dmt K c.AtHouse "line" "AtHouse.line" s_AtHouse_line
  n_AtHouse_at : NoAttr K c.AtHouse "at"
  n_AtHouse_since : NoAttr K c.AtHouse "since"
  c_OnRoad : Dcl K mg "OnRoad" c.OnRoad
  i_OnRoad : Isi K c.OnRoad
  d_OnRoad_init : Din K c.OnRoad "OnRoad.__init__" s_OnRoad_init
  d_OnRoad_line : Dmt K c.OnRoad "line" "OnRoad.line" s_OnRoad_line
  n_OnRoad_by : NoAttr K c.OnRoad "by"
  n_OnRoad_due : NoAttr K c.OnRoad "due"
  c_AtHome : Dcl K mg "AtHome" c.AtHome
  i_AtHome : Isi K c.AtHome
  d_AtHome_init : Din K c.AtHome "AtHome.__init__" s_AtHome_init
  d_AtHome_line : Dmt K c.AtHome "line" "AtHome.line" s_AtHome_line
  n_AtHome_since : NoAttr K c.AtHome "since"
  c_Walk : Dcl K mg "Walk" c.Walk
  i_Walk : Isi K c.Walk
  d_Walk_init : Din K c.Walk "Walk.__init__" s_Walk_init
  d_Walk_lies_at : Dmt K c.Walk "lies_at" "Walk.lies_at" s_Walk_lies_at
  d_Walk_are_letters : Dmt K c.Walk "are_letters" "Walk.are_letters" s_Walk_are_letters
  d_Walk_amiss : Dmt K c.Walk "amiss" "Walk.amiss" s_Walk_amiss
  d_Walk_send : Dmt K c.Walk "send" "Walk.send" s_Walk_send
  n_Walk_net : NoAttr K c.Walk "net"
  n_Walk_posted : NoAttr K c.Walk "posted"
  n_Walk_stood : NoAttr K c.Walk "stood"
  n_Walk_last : NoAttr K c.Walk "last"
  c_Net : Dcl K mg "Net" c.Net
  i_Net : Isi K c.Net
  d_Net_init : Din K c.Net "Net.__init__" s_Net_init
  d_Net_houses : Dmt K c.Net "houses" "Net.houses" s_Net_houses
  d_Net_roads : Dmt K c.Net "roads" "Net.roads" s_Net_roads
  d_Net_road : Dmt K c.Net "road" "Net.road" s_Net_road
  d_Net_known : Dmt K c.Net "known" "Net.known" s_Net_known
  d_Net_out_of : Dmt K c.Net "out_of" "Net.out_of" s_Net_out_of
  d_Net_into : Dmt K c.Net "into" "Net.into" s_Net_into
  d_Net_far : Dmt K c.Net "far" "Net.far" s_Net_far
  n_Net_names : NoAttr K c.Net "names"
  n_Net_lines : NoAttr K c.Net "lines"
  j_Spot_NotYet : PySem.W.kitOne K (.ref c.Spot) (.ref c.NotYet) = some false
  j_NotYet_NotYet : PySem.W.kitOne K (.ref c.NotYet) (.ref c.NotYet) = some true
  j_AtHouse_NotYet : PySem.W.kitOne K (.ref c.AtHouse) (.ref c.NotYet) = some false
  j_OnRoad_NotYet : PySem.W.kitOne K (.ref c.OnRoad) (.ref c.NotYet) = some false
  j_AtHome_NotYet : PySem.W.kitOne K (.ref c.AtHome) (.ref c.NotYet) = some false
  j_Walk_NotYet : PySem.W.kitOne K (.ref c.Walk) (.ref c.NotYet) = some false
  j_Net_NotYet : PySem.W.kitOne K (.ref c.Net) (.ref c.NotYet) = some false
  j_Spot_OnRoad : PySem.W.kitOne K (.ref c.Spot) (.ref c.OnRoad) = some false
  j_NotYet_OnRoad : PySem.W.kitOne K (.ref c.NotYet) (.ref c.OnRoad) = some false
  j_AtHouse_OnRoad : PySem.W.kitOne K (.ref c.AtHouse) (.ref c.OnRoad) = some false
  j_OnRoad_OnRoad : PySem.W.kitOne K (.ref c.OnRoad) (.ref c.OnRoad) = some true
  j_AtHome_OnRoad : PySem.W.kitOne K (.ref c.AtHome) (.ref c.OnRoad) = some false
  j_Walk_OnRoad : PySem.W.kitOne K (.ref c.Walk) (.ref c.OnRoad) = some false
  j_Net_OnRoad : PySem.W.kitOne K (.ref c.Net) (.ref c.OnRoad) = some false
  j_Spot_AtHouse : PySem.W.kitOne K (.ref c.Spot) (.ref c.AtHouse) = some false
  j_NotYet_AtHouse : PySem.W.kitOne K (.ref c.NotYet) (.ref c.AtHouse) = some false
  j_AtHouse_AtHouse : PySem.W.kitOne K (.ref c.AtHouse) (.ref c.AtHouse) = some true
  j_OnRoad_AtHouse : PySem.W.kitOne K (.ref c.OnRoad) (.ref c.AtHouse) = some false
  j_AtHome_AtHouse : PySem.W.kitOne K (.ref c.AtHome) (.ref c.AtHouse) = some false
  j_Walk_AtHouse : PySem.W.kitOne K (.ref c.Walk) (.ref c.AtHouse) = some false
  j_Net_AtHouse : PySem.W.kitOne K (.ref c.Net) (.ref c.AtHouse) = some false
  x_RoadError : Dxc K mg "RoadError" c.RoadError
  xi_RoadError : PySem.W.excIn K c.RoadError vErr "ValueError.__new__" = true
  x_NoNet : Dxc K mg "NoNet" c.NoNet
  xi_NoNet : PySem.W.excIn K c.NoNet vErr "ValueError.__new__" = true
  x_NoHouse : Dxc K mg "NoHouse" c.NoHouse
  xi_NoHouse : PySem.W.excIn K c.NoHouse vErr "ValueError.__new__" = true
  x_NoRoad : Dxc K mg "NoRoad" c.NoRoad
  xi_NoRoad : PySem.W.excIn K c.NoRoad vErr "ValueError.__new__" = true
  x_NoLetter : Dxc K mg "NoLetter" c.NoLetter
  x_BadBag : Dxc K mg "BadBag" c.BadBag
  x_NoWay : Dxc K mg "NoWay" c.NoWay
  x_ManyGoals : Dxc K mg "ManyGoals" c.ManyGoals
  xi_ManyGoals : PySem.W.excIn K c.ManyGoals vErr "ValueError.__new__" = true
  x_CutOff : Dxc K mg "CutOff" c.CutOff
  xk_NoNet_RoadError : PySem.W.kitOne K (.ref c.NoNet) (.ref c.RoadError) = some true
  xk_NoNet_NoNet : PySem.W.kitOne K (.ref c.NoNet) (.ref c.NoNet) = some true
  xk_NoNet_NoHouse : PySem.W.kitOne K (.ref c.NoNet) (.ref c.NoHouse) = some false
  xk_NoNet_NoRoad : PySem.W.kitOne K (.ref c.NoNet) (.ref c.NoRoad) = some false
  xk_NoNet_NoLetter : PySem.W.kitOne K (.ref c.NoNet) (.ref c.NoLetter) = some false
  xm_NoNet_BadBag : PySem.W.exmOne K (.ref c.NoNet) (.ref c.BadBag) = some false
  xk_NoNet_NoWay : PySem.W.kitOne K (.ref c.NoNet) (.ref c.NoWay) = some false
  xk_NoNet_ManyGoals : PySem.W.kitOne K (.ref c.NoNet) (.ref c.ManyGoals) = some false
  xk_NoNet_CutOff : PySem.W.kitOne K (.ref c.NoNet) (.ref c.CutOff) = some false
  xv_NoNet : PySem.W.kitOne K (.ref c.NoNet) (.type "ValueError") = some true
  xk_NoRoad_RoadError : PySem.W.kitOne K (.ref c.NoRoad) (.ref c.RoadError) = some true
  xk_NoRoad_NoNet : PySem.W.kitOne K (.ref c.NoRoad) (.ref c.NoNet) = some false
  xk_NoRoad_NoHouse : PySem.W.kitOne K (.ref c.NoRoad) (.ref c.NoHouse) = some false
  xk_NoRoad_NoRoad : PySem.W.kitOne K (.ref c.NoRoad) (.ref c.NoRoad) = some true
  xk_NoRoad_NoLetter : PySem.W.kitOne K (.ref c.NoRoad) (.ref c.NoLetter) = some false
  xm_NoRoad_BadBag : PySem.W.exmOne K (.ref c.NoRoad) (.ref c.BadBag) = some false
  xk_NoRoad_NoWay : PySem.W.kitOne K (.ref c.NoRoad) (.ref c.NoWay) = some false
  xk_NoRoad_ManyGoals : PySem.W.kitOne K (.ref c.NoRoad) (.ref c.ManyGoals) = some false
  xk_NoRoad_CutOff : PySem.W.kitOne K (.ref c.NoRoad) (.ref c.CutOff) = some false
  xv_NoRoad : PySem.W.kitOne K (.ref c.NoRoad) (.type "ValueError") = some true
  xk_BadBag_RoadError : PySem.W.kitOne K (.ref c.BadBag) (.ref c.RoadError) = some true
  xk_BadBag_NoNet : PySem.W.kitOne K (.ref c.BadBag) (.ref c.NoNet) = some false
  xk_BadBag_NoHouse : PySem.W.kitOne K (.ref c.BadBag) (.ref c.NoHouse) = some false
  xk_BadBag_NoRoad : PySem.W.kitOne K (.ref c.BadBag) (.ref c.NoRoad) = some false
  xk_BadBag_NoLetter : PySem.W.kitOne K (.ref c.BadBag) (.ref c.NoLetter) = some false
  xm_BadBag_BadBag : PySem.W.exmOne K (.ref c.BadBag) (.ref c.BadBag) = some true
  xk_BadBag_NoWay : PySem.W.kitOne K (.ref c.BadBag) (.ref c.NoWay) = some false
  xk_BadBag_ManyGoals : PySem.W.kitOne K (.ref c.BadBag) (.ref c.ManyGoals) = some false
  xk_BadBag_CutOff : PySem.W.kitOne K (.ref c.BadBag) (.ref c.CutOff) = some false
  dx_BadBag : Dxin K mg "BadBag" c.BadBag "BadBag.__init__" s_BadBag_init
  no_BadBag_place : PySem.W.findIn K (.ref c.BadBag) "place" = some none
  no_BadBag_reason : PySem.W.findIn K (.ref c.BadBag) "reason" = some none
  rin_RoadError : Rin K c.RoadError
  rg_RoadError : mg "RoadError" = some (.ref c.RoadError)
  xv_BadBag : PySem.W.kitOne K (.ref c.BadBag) (.type "ValueError") = some true
  xn_RoadError : PySem.W.kitOne K (.type "NoneType") (.ref c.RoadError) = some false
  xn_NoNet : PySem.W.kitOne K (.type "NoneType") (.ref c.NoNet) = some false
  xn_NoHouse : PySem.W.kitOne K (.type "NoneType") (.ref c.NoHouse) = some false
  xn_NoRoad : PySem.W.kitOne K (.type "NoneType") (.ref c.NoRoad) = some false
  xn_NoLetter : PySem.W.kitOne K (.type "NoneType") (.ref c.NoLetter) = some false
  xn_NoWay : PySem.W.kitOne K (.type "NoneType") (.ref c.NoWay) = some false
  xn_ManyGoals : PySem.W.kitOne K (.type "NoneType") (.ref c.ManyGoals) = some false
  xn_CutOff : PySem.W.kitOne K (.type "NoneType") (.ref c.CutOff) = some false
/-! ### the walk: names, roads, nets -/
section
variable {P : Program} {w : World} {K : PySem.W.Frag} {mg : Str → Option Value} {base : Heap} {c : Cs}
abbrev netD (c : Cs) (n : List Str × List Road) : D := .ins c.Net [("names", .lst (housesD n.1)), ("lines", .lst (roadsD n.2))]
theorem g_is_whole (T : Top K mg c) : Glo P w K mg base 1 "is_whole" ["thing", "least", "greatest"] (Pu K (fun _ : Int × Int × Int => True) (fun a => [.int a.1, .int a.2.1, .int a.2.2]) (fun a => .bl (decide (a.2.1 ≤ a.1) && decide (a.1 ≤ a.2.2)))) :=
  glo_of T.d_is_whole (fun _ _ _ _ _ _ us hl => match us, hl with | [_, _, _], _ => rfl) fun f fd F => fn_ok F cs_is_whole (fun _ => rfl) fun cdv A outer s H E a hr hok => by
    obtain ⟨t, lo, hi⟩ := a
    exact blk_ret (px_and (k := true) (px_isT "int" "int" true T.z_isinstance T.z_int (px_var (pv 0) rfl)) fun _ => px_and (k := true) (px_not (px_isT "bool" "int" false T.z_isinstance T.z_bool (px_var (pv 0) rfl))) fun _ => px_one (px_chain op_le op_le (px_var (pv 1) rfl) (px_var (pv 0) rfl) o_le (px_var (pv 2) rfl) (fun _ => o_le))) ⟨rfl, rfl⟩
theorem g_is_name (T : Top K mg c) : Glo P w K mg base 1 "is_name" ["thing"] (Pu K (fun x : Str => x.length ≤ 10000) (fun x => [.str x]) (fun x => .bl (nameB x))) :=
  glo_of T.d_is_name (fun _ _ _ _ _ _ us hl => match us, hl with | [_], _ => rfl) fun f fd F => fn_ok F cs_is_name (fun _ => rfl) fun cdv A outer s H E a hr hok => by
    have nd := cs_is_name.nd
    have hl : a.length ≤ 10000 := hok
    refine blk_if (ts_w (tw_or (k := false) (ts_not (ts_val (k := true) (px_isT "str" "str" true T.z_isinstance T.z_str (px_var (pv 0) rfl)))) fun _ => tw_or1 (ts_not (ts_chain op_le op_le px_int (px_bi call_len_str T.z_len (pa_c (px_var (pv 0) rfl) pa_n) (o_lenS (szS hl))) o_le px_int (fun _ => o_le))))) (fun h => ?_) (fun h => ?_)
    · refine blk_ret px_bl ⟨?_, rfl⟩
      have h : (!(decide (1 ≤ (a.length : Int)) && decide ((a.length : Int) ≤ 8))) = true := h
      show D.bl false = D.bl (nameB a)
      unfold nameB
      rw [Bool.not_eq_true'] at h
      rw [h]
      rfl
    · have h : (!(decide (1 ≤ (a.length : Int)) && decide ((a.length : Int) ≤ 8))) = false := h
      refine blk_nil (blk_ret (px_bi (cr_all rfl) T.z_all (pa_c (px_lc (own := [("sign", 1)]) (is := [1]) (rs := ((TL.tl a).map fun c => decide (c ∈ TL.tl small)).map .bl) rfl nd (it_str (px_var (pv 0) rfl)) (blkOk_by (N := ns_is_name) (sc := defScope s_is_name) (by decide +kernel)) (fun _ _ _ _ _ => pg_name (i := 1) nd rfl (.inl rfl)) (by decide) ?c1 ?c2 ?c3) pa_n) (o_all .f)) ⟨?c4, rfl⟩)
      case c1 => unfold signs; simp
      case c2 => rw [List.length_map, List.length_map, ← TL.len_tl]; exact szS hl
      case c3 =>
        intro i d hd
        unfold signs at hd
        rw [List.getElem?_map] at hd
        cases e : (TL.tl a)[i]? with
        | none => rw [e] at hd; cases hd
        | some ch =>
          rw [e] at hd
          cases hd
          refine ⟨_, .bl (decide (ch ∈ TL.tl small)), tg_name, by rw [List.getElem?_map, List.getElem?_map, e]; rfl, fun _ _ _ _ _ => ?_⟩
          exact px_cmp op_in_sign (px_var (pv 1) rfl) (px_gs T.k_SMALL) o_inX
      case c4 =>
        show _ = D.bl (nameB a)
        unfold nameB
        rw [Bool.not_eq_false'] at h
        rw [h]
        rfl
theorem g_are_houses (T : Top K mg c) : Glo P w K mg base 2 "are_houses" ["thing"] (Pu K (fun hs : List Str => OkH hs) (fun hs => [.lst (housesD hs)]) (fun _ => .bl true)) :=
  glo_of T.d_are_houses (fun _ _ _ _ _ _ us hl => match us, hl with | [_], _ => rfl) fun f fd F => fn_ok F cs_are_houses (fun _ => rfl) fun cdv A outer s H E hs hr hok => by
    have nd := cs_are_houses.nd
    have ok : OkH hs := hok
    refine blk_if (k := false) ((ts_w (tw_or (k := false) (ts_not (ts_val (k := true) (px_isT "list" "list" true T.z_isinstance T.z_list (px_var (pv 0) rfl)))) fun _ => tw_or1 (ts_cmp op_gt (px_bi call_len_seq T.z_len (pa_c (px_var (pv 0) rfl) pa_n) o_lenL) (px_gi T.k_MOST_HOUSES) o_gt))).to ?_) (fun h => by cases h) (fun _ => blk_nil ?_)
    · rw [List.length_map]
      have := ok.le
      exact decide_eq_false (by omega)
    refine blk_for (is := [1, 2]) (fun i g l => (∃ o o2, g = [some (.lst (housesD hs)), o, o2]) ∧ l = []) PassesOwn.never rfl (it_enum (px_var (pv 0) rfl) T.z_enumerate) (pg_tup rfl (pgs_cons (pg_name (i := 1) nd rfl (.inl rfl)) (pgs_cons (pg_name (i := 2) nd rfl (.inl rfl)) pgs_nil))) ⟨⟨none, none, rfl⟩, rfl⟩ (fun i d g l hd hI => ?_) (fun g l hI => ?_)
    · obtain ⟨⟨o, o2, rfl⟩, rfl⟩ := hI
      obtain ⟨d', hd', rfl⟩ := enumD_get hd
      obtain ⟨x, hx, rfl⟩ : ∃ x, hs[i]? = some x ∧ d' = .str x := by
        rw [List.getElem?_map] at hd'
        cases e : hs[i]? with
        | none => rw [e] at hd'; cases hd'
        | some x => rw [e] at hd'; cases hd'; exact ⟨x, rfl, rfl⟩
      have okx := ok.ok x (List.mem_of_getElem? hx)
      refine ⟨_, tg_tup rfl rfl, ?_⟩
      refine blk_if (k := false) ((ts_w (tw_or (k := false) ((ts_not (ts_val (px_call (g_is_name T) hr (by decide) x (Nat.le_trans okx.hi (by decide)) (pa_c (px_var (pv 2) rfl) pa_n)))).to (by rw [nameB_iff.mpr okx]; rfl)) fun _ => tw_or1 (ts_cmp op_in_seq (px_var (pv 2) rfl) ((px_slL (px_var (pv 0) rfl) .f pz_n (pz_s (px_var (pv 1) rfl))).to (d1 := .lst ((hs.take i).map .str)) ?_) (o_inS (.inl rfl))))).to ?_) (fun h => by cases h) (fun _ => blk_nil (blk_nil ⟨⟨_, _, rfl⟩, rfl⟩))
      · rw [cut_take (by omega), List.map_take]
        rfl
      · exact decide_eq_false (mem_take_nodup ok.nd hx)
    · obtain ⟨⟨o, o2, rfl⟩, rfl⟩ := hI
      exact blk_ret px_bl ⟨rfl, rfl⟩
theorem g_is_road (T : Top K mg c) : Glo P w K mg base 2 "is_road" ["thing", "names"] (Pu K (fun a : Road × List Str => OkH a.2 ∧ OkR a.2 a.1) (fun a => [roadD a.1, .lst (housesD a.2)]) (fun _ => .bl true)) :=
  glo_of T.d_is_road (fun _ _ _ _ _ _ us hl => match us, hl with | [_, _], _ => rfl) fun f fd F => fn_ok F cs_is_road (fun _ => rfl) fun cdv A outer s H E a hr hok => by
    have nd := cs_is_road.nd
    obtain ⟨⟨b, e, t, m⟩, hs⟩ := a
    obtain ⟨oh, orr⟩ : OkH hs ∧ OkR hs (b, e, t, m) := hok
    refine blk_if (k := false) (ts_w (tw_or (k := false) (ts_not (ts_val (k := true) (px_isT "tuple" "tuple" true T.z_isinstance T.z_tuple (px_var (pv 0) rfl)))) fun _ => tw_or1 (ts_cmp op_ne (px_bi call_len_seq T.z_len (pa_c (px_var (pv 0) rfl) pa_n) o_lenT) px_int o_neI))) (fun h => by cases h) (fun _ => blk_nil ?_)
    refine blk_for (is := [2]) (ds := [.str b, .str e]) (fun i g l => (∃ o, g = [some (roadD (b, e, t, m)), some (.lst (housesD hs)), o]) ∧ l = []) PassesOwn.never rfl (it_tup (px_slT (ds := [.str b, .str e, .int t, .int m]) (i := none) (j := some 2) (px_var (pv 0) rfl) pz_n (pz_s px_int))) (pg_name (i := 2) nd rfl (.inl rfl)) ⟨⟨none, rfl⟩, rfl⟩ (fun i d g l hd hI => ?_) (fun g l hI => ?_)
    · obtain ⟨⟨o, rfl⟩, rfl⟩ := hI
      obtain ⟨x, hx, rfl⟩ : ∃ x, x ∈ hs ∧ d = .str x := by
        have hm := List.mem_of_getElem? hd
        simp only [List.mem_cons, List.not_mem_nil, or_false] at hm
        rcases hm with rfl | rfl
        · exact ⟨_, orr.b, rfl⟩
        · exact ⟨_, orr.e, rfl⟩
      have okx := oh.ok x hx
      refine ⟨_, tg_name, ?_⟩
      refine blk_if (k := false) ((ts_w (tw_or (k := false) ((ts_not (ts_val (px_call (g_is_name T) hr (by decide) x (Nat.le_trans okx.hi (by decide)) (pa_c (px_var (pv 2) rfl) pa_n)))).to (by rw [nameB_iff.mpr okx]; rfl)) fun _ => tw_or1 (ts_cmp op_notIn_seq (px_var (pv 2) rfl) (px_var (pv 1) rfl) (o_ninS (xs := hs) (.inl rfl))))).to ?_) (fun h => by cases h) (fun _ => blk_nil (blk_nil ⟨⟨_, rfl⟩, rfl⟩))
      rw [decide_eq_true hx]
      rfl
    · obtain ⟨⟨o, rfl⟩, rfl⟩ := hI
      refine blk_ret (px_and (k := true) (k' := true) ((px_cmp op_ne (px_ix ix_tup (px_var (pv 0) rfl) px_int (o_ixT (d := .str b) rfl)) (px_ix ix_tup (px_var (pv 0) rfl) px_int (o_ixT (d := .str e) rfl)) o_neS).to ?_) fun _ => px_and (k := true) (k' := true) (Px.to (px_call (g_is_whole T) hr (by decide) (t, 1, 9) trivial (pa_c (px_ix ix_tup (px_var (pv 0) rfl) px_int (o_ixT (d := .int t) rfl)) (pa_c px_int (pa_c (px_gi T.k_LONGEST) pa_n)))) ?_) fun _ => px_one (Px.to (px_call (g_is_whole T) hr (by decide) (m, 1, 1000000000) trivial (pa_c (px_ix ix_tup (px_var (pv 0) rfl) px_int (o_ixT (d := .int m) rfl)) (pa_c px_int (pa_c (px_gi T.k_WIDEST) pa_n)))) ?_)) ⟨rfl, rfl⟩
      · have : ¬ b = e := orr.ne
        rw [decide_eq_false this]
        rfl
      · show D.bl (decide (1 ≤ t) && decide (t ≤ 9)) = _
        have := orr.t
        rw [decide_eq_true this.1, decide_eq_true this.2]
        rfl
      · show D.bl (decide (1 ≤ m) && decide (m ≤ 1000000000)) = _
        have := orr.w
        rw [decide_eq_true this.1, decide_eq_true this.2]
        rfl
theorem ne_nl : ¬ (("names" : Str) = "lines") := by decide +kernel
theorem g_Net (T : Top K mg c) : GloC P w K mg base 3 c.Net "Net" ["self", "houses", "roads"] (FnX K (fun a : Addr × List Str × List Road => OkG a.2) (fun a => [.adr a.1, .lst (housesD a.2.1), .lst (roadsD a.2.2)]) (fun a => [ownI K a.1 c.Net []]) (fun a d l => d = .non ∧ l = [ownI K a.1 c.Net [("names", .lst (housesD a.2.1)), ("lines", .lst (roadsD a.2.2))]]) noE) :=
  gloc_of T.d_Net_init T.c_Net (fun _ _ _ _ _ _ us hl => match us, hl with | [_, _, _], _ => rfl) fun f fd F => fn_ok F cs_Net_init (fun _ => rfl) fun cdv A outer s H E a hr hok => by
    have nd := cs_Net_init.nd
    obtain ⟨q, hs, rs⟩ := a
    have ok : OkG (hs, rs) := hok
    refine blk_if (k := false) ((ts_w (tw_or (k := false) (ts_not (ts_val (k := true) (px_call (g_are_houses T) hr (by decide) hs ok.h (pa_c (px_var (pv 1) rfl) pa_n)))) fun _ => tw_or (k := false) (ts_not (ts_val (k := true) (px_isT "list" "list" true T.z_isinstance T.z_list (px_var (pv 2) rfl)))) fun _ => tw_or1 (ts_cmp op_gt (px_bi call_len_seq T.z_len (pa_c (px_var (pv 2) rfl) pa_n) o_lenL) (px_gi T.k_MOST_ROADS) o_gt))).to ?_) (fun h => by cases h) (fun _ => blk_nil ?_)
    · rw [List.length_map]
      have : rs.length ≤ 40 := ok.le
      exact decide_eq_false (by show ¬ ((40 : Int) < (rs.length : Int)); omega)
    refine blk_if (k := false) (ts_not (ts_val (k := true) (px_bi (cr_all rfl) T.z_all (pa_c (px_lc (own := [("one", 3)]) (is := [3]) (rs := (rs.map fun _ => true).map .bl) rfl nd (it_list (px_var (pv 2) rfl)) (blkOk_by (N := ns_Net_init) (sc := defScope s_Net_init) (by decide +kernel)) (fun _ _ _ _ _ => pg_name (i := 3) nd rfl (.inl rfl)) (by decide) ?c1 ?c2 ?c3) pa_n) ?c4))) (fun h => by cases h) (fun _ => blk_nil ?_)
    case c1 => simp
    case c2 => rw [List.length_map, List.length_map]; have h : rs.length ≤ 40 := ok.le; exact Nat.le_trans h (szS (by decide))
    case c3 =>
      intro i d hd
      rw [List.getElem?_map] at hd
      cases e : rs[i]? with
      | none => rw [e] at hd; cases hd
      | some r =>
        rw [e] at hd
        cases hd
        refine ⟨_, .bl true, tg_name, by rw [List.getElem?_map, List.getElem?_map, e]; rfl, fun _ _ _ _ _ => ?_⟩
        exact px_call (g_is_road T) hr (by decide) (r, hs) ⟨ok.h, ok.r r (List.mem_of_getElem? e)⟩ (pa_c (px_var (pv 3) rfl) (pa_c (px_var (pv 1) rfl) pa_n))
    case c4 =>
      have q : (rs.map fun _ => true).all id = true := by simp
      exact (o_all .f).to (congrArg D.bl q)
    refine blk_fld (k := 0) (px_listOf (px_var (pv 1) rfl) .f T.z_list) (px_var (pv 0) rfl) rfl T.c_Net.cl T.n_Net_names (by decide) ?_
    refine blk_fld (k := 0) (px_listOf (px_var (pv 2) rfl) .f T.z_list) (px_var (pv 0) rfl) rfl T.c_Net.cl T.n_Net_lines (by show 1 < 1000; decide) ?_
    refine blk_nil ⟨rfl, ?_⟩
    show [ownI K q _ (putD _ _ (putD _ _ []))] = _
    show [ownI K q _ (if _ then _ else _)] = _
    rw [if_neg ne_nl]
    rfl
theorem look_lines {d1 d2 : D} : List.lookup ("lines" : Str) [(("names" : Str), d1), ("lines", d2)] = some d2 := by
  rw [List.lookup_cons, show (("lines" : Str) == "names") = false by decide +kernel, List.lookup_cons, beq_self_eq_true]
theorem look_none {d1 d2 : D} {m : Str} (h1 : (m == "names") = false) (h2 : (m == "lines") = false) : List.lookup m [(("names" : Str), d1), ("lines", d2)] = none := by
  rw [List.lookup_cons, h1, List.lookup_cons, h2]
  rfl
section
variable {X : Cx} {g : Gm} {l : List Res} {e1 e2 o : Expr} {p pos : Pos} {j : Nat} {hs : List Str} {rs : List Road}
theorem px_Net (T : Top X.K X.mg c) (hr : Room j X.A) (hj : 4 ≤ j) (ok : OkG (hs, rs)) (h1 : Px X e1 g l (.lst (housesD hs))) (h2 : Px X e2 g l (.lst (roadsD rs))) (hg : Gl X "Net" := by rfl) (he : starEach [e1, e2] X.env = (false, eval e1 X.env) :: starEach [e2] X.env := by rfl) (hs2 : starEach [e2] X.env = [(false, eval e2 X.env)] := by rfl) (hpl : (backTo pos (starEach [e2] X.env)).any (·.1) = false := by rfl) :
    Px X (.Call (.Name "Net" p) [e1, e2] [] pos) g l (netD c (hs, rs)) :=
  (ev_make (g_Net T) hr hj (fun q => (q, hs, rs)) (fun _ => ok) (pa_c h1 (pa_c h2 pa_n hs2) he) (fun _ => rfl) (fun _ => rfl) (fun q d l' h => ⟨h.1, q, rfl, by rw [h.2]; rfl⟩) hg (by decide) he hpl).frzI
end
end

end Lw
set_option Elab.async false
set_option linter.all false
set_option maxRecDepth 100000
set_option maxHeartbeats 4000000
namespace Lw
open PySem L2 Sx
def hfn_0 : List He.DefD := [dD "_wall" s_wall, dD "later" s_later, dD "is_number" s_is_number, dD "is_bag" s_is_bag, dD "stops_at" s_stops_at, dD "arrivals" s_arrivals, dD "spots_at" s_spots_at, dD "is_whole" s_is_whole, dD "is_name" s_is_name, dD "are_houses" s_are_houses, dD "is_road" s_is_road, dD "_law_cell_at" s_law_cell_at, dD "_law_houses" s_law_houses, dD "_law_road" s_law_road, dD "_law_letter" s_law_letter, dD "_law_legs" s_law_legs]
def hfn_1 : List He.DefD := [dD "_law_plan" s_law_plan, dD "_law_whole" s_law_whole, dD "_law_is_bag" s_law_is_bag, dD "_law_lies" s_law_lies, dD "_law_reason" s_law_reason, dD "_law_odd" s_law_odd, dD "_law_refusal" s_law_refusal, dD "_law_both" s_law_both, dD "law" s_law, dM "Spot" "line" "Spot.line" s_Spot_line, dM "NotYet" "line" "NotYet.line" s_NotYet_line, dM "AtHouse" "__init__" "AtHouse.__init__" s_AtHouse_init, dM "AtHouse" "line" "AtHouse.line" s_AtHouse_line, dM "OnRoad" "__init__" "OnRoad.__init__" s_OnRoad_init, dM "OnRoad" "line" "OnRoad.line" s_OnRoad_line, dM "AtHome" "__init__" "AtHome.__init__" s_AtHome_init]
def hfn_2 : List He.DefD := [dM "AtHome" "line" "AtHome.line" s_AtHome_line, dM "Walk" "__init__" "Walk.__init__" s_Walk_init, dM "Walk" "lies_at" "Walk.lies_at" s_Walk_lies_at, dM "Walk" "are_letters" "Walk.are_letters" s_Walk_are_letters, dM "Walk" "amiss" "Walk.amiss" s_Walk_amiss, dM "Walk" "send" "Walk.send" s_Walk_send, dM "Net" "__init__" "Net.__init__" s_Net_init, dM "Net" "houses" "Net.houses" s_Net_houses, dM "Net" "roads" "Net.roads" s_Net_roads, dM "Net" "road" "Net.road" s_Net_road, dM "Net" "known" "Net.known" s_Net_known, dM "Net" "out_of" "Net.out_of" s_Net_out_of, dM "Net" "into" "Net.into" s_Net_into, dM "Net" "far" "Net.far" s_Net_far, dM "BadBag" "__init__" "BadBag.__init__" s_BadBag_init]
def hfn : List He.DefD := hfn_0 ++ (hfn_1 ++ hfn_2)
def hfa_0 : List He.Fa := [.free "ValueError", .free "enumerate", .free "zip", .free "all", .free "range", .free "len", .free "isinstance", .free "int", .free "list", .free "bool", .free "tuple", .free "str", .free "sorted", .free "max", .free "min", .glo "_wall", .glo "later", .glo "is_number", .glo "is_bag", .glo "stops_at", .glo "arrivals", .glo "spots_at", .glo "is_whole", .glo "is_name", .glo "are_houses", .glo "is_road", .glo "_law_cell_at", .glo "_law_houses", .glo "_law_road", .glo "_law_letter"] ++ [.glo "_law_legs", .glo "_law_plan", .glo "_law_whole", .glo "_law_is_bag", .glo "_law_lies", .glo "_law_reason"]
def hfa_1 : List He.Fa := [.glo "_law_odd", .glo "_law_refusal", .glo "_law_both", .glo "law", .str "SMALL" "abcdefghijklmnopqrstuvwxyz", .int "MOST_HOUSES" 12, .int "MOST_ROADS" 40, .int "LONGEST" 9, .int "WIDEST" 1000000000, .glo "Spot", .cls "Spot", .keep "Spot", .meth "Spot" "line", .glo "NotYet", .cls "NotYet", .keep "NotYet", .meth "NotYet" "line", .glo "AtHouse", .cls "AtHouse", .keep "AtHouse", .mkr "AtHouse", .meth "AtHouse" "line", .noat "AtHouse" "at", .noat "AtHouse" "since", .glo "OnRoad", .cls "OnRoad", .keep "OnRoad", .mkr "OnRoad", .meth "OnRoad" "line", .noat "OnRoad" "by"] ++ [.noat "OnRoad" "due", .glo "AtHome", .cls "AtHome", .keep "AtHome", .mkr "AtHome", .meth "AtHome" "line"]
def hfa_2 : List He.Fa := [.noat "AtHome" "since", .glo "Walk", .cls "Walk", .keep "Walk", .mkr "Walk", .meth "Walk" "lies_at", .meth "Walk" "are_letters", .meth "Walk" "amiss", .meth "Walk" "send", .noat "Walk" "net", .noat "Walk" "posted", .noat "Walk" "stood", .noat "Walk" "last", .glo "Net", .cls "Net", .keep "Net", .mkr "Net", .meth "Net" "houses", .meth "Net" "roads", .meth "Net" "road", .meth "Net" "known", .meth "Net" "out_of", .meth "Net" "into", .meth "Net" "far", .noat "Net" "names", .noat "Net" "lines", .glo "RoadError", .glo "NoNet", .glo "NoHouse", .glo "NoRoad"] ++ [.glo "NoLetter", .glo "BadBag", .glo "NoWay", .glo "ManyGoals", .glo "CutOff"]
def hfa : List He.Fa := hfa_0 ++ (hfa_1 ++ hfa_2)
def hfb_0 : List Fb := [.isi "Spot", .mk0 "Spot", .isi "NotYet", .mk0 "NotYet", .isi "AtHouse", .isi "OnRoad", .isi "AtHome", .isi "Walk", .isi "Net", .kit "Spot" "NotYet" false, .kit "NotYet" "NotYet" true, .kit "AtHouse" "NotYet" false, .kit "OnRoad" "NotYet" false, .kit "AtHome" "NotYet" false, .kit "Walk" "NotYet" false, .kit "Net" "NotYet" false, .kit "Spot" "OnRoad" false, .kit "NotYet" "OnRoad" false, .kit "AtHouse" "OnRoad" false, .kit "OnRoad" "OnRoad" true, .kit "AtHome" "OnRoad" false, .kit "Walk" "OnRoad" false, .kit "Net" "OnRoad" false, .kit "Spot" "AtHouse" false, .kit "NotYet" "AtHouse" false, .kit "AtHouse" "AtHouse" true, .kit "OnRoad" "AtHouse" false, .kit "AtHome" "AtHouse" false, .kit "Walk" "AtHouse" false]
def hfb_1 : List Fb := [.kit "Net" "AtHouse" false, .exc "RoadError", .xin "RoadError", .exc "NoNet", .xin "NoNet", .exc "NoHouse", .xin "NoHouse", .exc "NoRoad", .xin "NoRoad", .exc "NoLetter", .exc "BadBag", .exc "NoWay", .exc "ManyGoals", .xin "ManyGoals", .exc "CutOff", .kit "NoNet" "RoadError" true, .kit "NoNet" "NoNet" true, .kit "NoNet" "NoHouse" false, .kit "NoNet" "NoRoad" false, .kit "NoNet" "NoLetter" false, .exm "NoNet" "BadBag" false, .kit "NoNet" "NoWay" false, .kit "NoNet" "ManyGoals" false, .kit "NoNet" "CutOff" false, .kitT "NoNet" "ValueError" true, .kit "NoRoad" "RoadError" true, .kit "NoRoad" "NoNet" false, .kit "NoRoad" "NoHouse" false, .kit "NoRoad" "NoRoad" true]
def hfb_2 : List Fb := [.kit "NoRoad" "NoLetter" false, .exm "NoRoad" "BadBag" false, .kit "NoRoad" "NoWay" false, .kit "NoRoad" "ManyGoals" false, .kit "NoRoad" "CutOff" false, .kitT "NoRoad" "ValueError" true, .kit "BadBag" "RoadError" true, .kit "BadBag" "NoNet" false, .kit "BadBag" "NoHouse" false, .kit "BadBag" "NoRoad" false, .kit "BadBag" "NoLetter" false, .exm "BadBag" "BadBag" true, .kit "BadBag" "NoWay" false, .kit "BadBag" "ManyGoals" false, .kit "BadBag" "CutOff" false, .oex "BadBag", .xno "BadBag" "place", .xno "BadBag" "reason", .rin "RoadError", .kitT "BadBag" "ValueError" true, .kitN "RoadError", .kitN "NoNet", .kitN "NoHouse", .kitN "NoRoad", .kitN "NoLetter", .kitN "NoWay", .kitN "ManyGoals", .kitN "CutOff"]
def hfb : List Fb := hfb_0 ++ (hfb_1 ++ hfb_2)
abbrev hex : PySem.W.Frag → Bool := exB hfb
abbrev csK (K : PySem.W.Frag) : Cs := ⟨He.ga K "RoadError", He.ga K "NoNet", He.ga K "NoHouse", He.ga K "NoRoad", He.ga K "NoLetter", He.ga K "BadBag", He.ga K "NoWay", He.ga K "ManyGoals", He.ga K "CutOff", He.ga K "Spot", He.ga K "NotYet", He.ga K "AtHouse", He.ga K "OnRoad", He.ga K "AtHome", He.ga K "Walk", He.ga K "Net"⟩
theorem top_of {K : PySem.W.Frag} {h : Heap} {mg : Str → Option Value} {w : World} (X : K.In h) (G : h.Ns mainGlobals mg) (says : He.SaysX hfa hfn [] [] hex w h K) : Top K mg (csK K) := by
  have c : He.SaysD hfa hfn K := says.t.d
  have cx : exB hfb K = true := says.more
  exact {
    z_ValueError := He.free_ok X G (c.fact 0 (f := .free "ValueError") rfl)
    z_enumerate := He.free_ok X G (c.fact 1 (f := .free "enumerate") rfl)
    z_zip := He.free_ok X G (c.fact 2 (f := .free "zip") rfl)
    z_all := He.free_ok X G (c.fact 3 (f := .free "all") rfl)
    z_range := He.free_ok X G (c.fact 4 (f := .free "range") rfl)
    z_len := He.free_ok X G (c.fact 5 (f := .free "len") rfl)
    z_isinstance := He.free_ok X G (c.fact 6 (f := .free "isinstance") rfl)
    z_int := He.free_ok X G (c.fact 7 (f := .free "int") rfl)
    z_list := He.free_ok X G (c.fact 8 (f := .free "list") rfl)
    z_bool := He.free_ok X G (c.fact 9 (f := .free "bool") rfl)
    z_tuple := He.free_ok X G (c.fact 10 (f := .free "tuple") rfl)
    z_str := He.free_ok X G (c.fact 11 (f := .free "str") rfl)
    z_sorted := He.free_ok X G (c.fact 12 (f := .free "sorted") rfl)
    z_max := He.free_ok X G (c.fact 13 (f := .free "max") rfl)
    z_min := He.free_ok X G (c.fact 14 (f := .free "min") rfl)
    d_wall := dfn_of c (He.glo_ok X G (c.fact 15 (f := .glo "_wall") rfl)) 0
    d_later := dfn_of c (He.glo_ok X G (c.fact 16 (f := .glo "later") rfl)) 1
    d_is_number := dfn_of c (He.glo_ok X G (c.fact 17 (f := .glo "is_number") rfl)) 2
    d_is_bag := dfn_of c (He.glo_ok X G (c.fact 18 (f := .glo "is_bag") rfl)) 3
    d_stops_at := dfn_of c (He.glo_ok X G (c.fact 19 (f := .glo "stops_at") rfl)) 4
    d_arrivals := dfn_of c (He.glo_ok X G (c.fact 20 (f := .glo "arrivals") rfl)) 5
    d_spots_at := dfn_of c (He.glo_ok X G (c.fact 21 (f := .glo "spots_at") rfl)) 6
    d_is_whole := dfn_of c (He.glo_ok X G (c.fact 22 (f := .glo "is_whole") rfl)) 7
    d_is_name := dfn_of c (He.glo_ok X G (c.fact 23 (f := .glo "is_name") rfl)) 8
    d_are_houses := dfn_of c (He.glo_ok X G (c.fact 24 (f := .glo "are_houses") rfl)) 9
    d_is_road := dfn_of c (He.glo_ok X G (c.fact 25 (f := .glo "is_road") rfl)) 10
    d_law_cell_at := dfn_of c (He.glo_ok X G (c.fact 26 (f := .glo "_law_cell_at") rfl)) 11
    d_law_houses := dfn_of c (He.glo_ok X G (c.fact 27 (f := .glo "_law_houses") rfl)) 12
    d_law_road := dfn_of c (He.glo_ok X G (c.fact 28 (f := .glo "_law_road") rfl)) 13
    d_law_letter := dfn_of c (He.glo_ok X G (c.fact 29 (f := .glo "_law_letter") rfl)) 14
    d_law_legs := dfn_of c (He.glo_ok X G (c.fact 30 (f := .glo "_law_legs") rfl)) 15
    d_law_plan := dfn_of c (He.glo_ok X G (c.fact 31 (f := .glo "_law_plan") rfl)) 16
    d_law_whole := dfn_of c (He.glo_ok X G (c.fact 32 (f := .glo "_law_whole") rfl)) 17
    d_law_is_bag := dfn_of c (He.glo_ok X G (c.fact 33 (f := .glo "_law_is_bag") rfl)) 18
    d_law_lies := dfn_of c (He.glo_ok X G (c.fact 34 (f := .glo "_law_lies") rfl)) 19
    d_law_reason := dfn_of c (He.glo_ok X G (c.fact 35 (f := .glo "_law_reason") rfl)) 20
    d_law_odd := dfn_of c (He.glo_ok X G (c.fact 36 (f := .glo "_law_odd") rfl)) 21
    d_law_refusal := dfn_of c (He.glo_ok X G (c.fact 37 (f := .glo "_law_refusal") rfl)) 22
    d_law_both := dfn_of c (He.glo_ok X G (c.fact 38 (f := .glo "_law_both") rfl)) 23
    d_law := dfn_of c (He.glo_ok X G (c.fact 39 (f := .glo "law") rfl)) 24
    k_SMALL := He.str_ok X G (c.fact 40 (f := .str "SMALL" "abcdefghijklmnopqrstuvwxyz") rfl)
    k_MOST_HOUSES := He.int_ok X G (c.fact 41 (f := .int "MOST_HOUSES" 12) rfl)
    k_MOST_ROADS := He.int_ok X G (c.fact 42 (f := .int "MOST_ROADS" 40) rfl)
    k_LONGEST := He.int_ok X G (c.fact 43 (f := .int "LONGEST" 9) rfl)
    k_WIDEST := He.int_ok X G (c.fact 44 (f := .int "WIDEST" 1000000000) rfl)
    c_Spot := ⟨He.glo_ok X G (c.fact 45 (f := .glo "Spot") rfl), He.cls_ok (c.fact 46 (f := .cls "Spot") rfl), He.keep_ok (c.fact 47 (f := .keep "Spot") rfl)⟩
    i_Spot := isiB_ok (fb_at cx 0 (f := .isi "Spot") rfl)
    d_Spot_line := dmt_of c (He.meth_ok (c.fact 48 (f := .meth "Spot" "line") rfl)) 25
    m_Spot := mk0_ok (fb_at cx 1 (f := .mk0 "Spot") rfl) (c.fact 47 (f := .keep "Spot") rfl)
    c_NotYet := ⟨He.glo_ok X G (c.fact 49 (f := .glo "NotYet") rfl), He.cls_ok (c.fact 50 (f := .cls "NotYet") rfl), He.keep_ok (c.fact 51 (f := .keep "NotYet") rfl)⟩
    i_NotYet := isiB_ok (fb_at cx 2 (f := .isi "NotYet") rfl)
    d_NotYet_line := dmt_of c (He.meth_ok (c.fact 52 (f := .meth "NotYet" "line") rfl)) 26
    m_NotYet := mk0_ok (fb_at cx 3 (f := .mk0 "NotYet") rfl) (c.fact 51 (f := .keep "NotYet") rfl)
    c_AtHouse := ⟨He.glo_ok X G (c.fact 53 (f := .glo "AtHouse") rfl), He.cls_ok (c.fact 54 (f := .cls "AtHouse") rfl), He.keep_ok (c.fact 55 (f := .keep "AtHouse") rfl)⟩
    i_AtHouse := isiB_ok (fb_at cx 4 (f := .isi "AtHouse") rfl)
    d_AtHouse_init := din_of c (He.mkr_ok (c.fact 56 (f := .mkr "AtHouse") rfl)) 27
    d_AtHouse_line := dmt_of c (He.meth_ok (c.fact 57 (f := .meth "AtHouse" "line") rfl)) 28
    n_AtHouse_at := He.noat_ok (c.fact 58 (f := .noat "AtHouse" "at") rfl)
    n_AtHouse_since := He.noat_ok (c.fact 59 (f := .noat "AtHouse" "since") rfl)
    c_OnRoad := ⟨He.glo_ok X G (c.fact 60 (f := .glo "OnRoad") rfl), He.cls_ok (c.fact 61 (f := .cls "OnRoad") rfl), He.keep_ok (c.fact 62 (f := .keep "OnRoad") rfl)⟩
    i_OnRoad := isiB_ok (fb_at cx 5 (f := .isi "OnRoad") rfl)
    d_OnRoad_init := din_of c (He.mkr_ok (c.fact 63 (f := .mkr "OnRoad") rfl)) 29
    d_OnRoad_line := dmt_of c (He.meth_ok (c.fact 64 (f := .meth "OnRoad" "line") rfl)) 30
    n_OnRoad_by := He.noat_ok (c.fact 65 (f := .noat "OnRoad" "by") rfl)
    n_OnRoad_due := He.noat_ok (c.fact 66 (f := .noat "OnRoad" "due") rfl)
    c_AtHome := ⟨He.glo_ok X G (c.fact 67 (f := .glo "AtHome") rfl), He.cls_ok (c.fact 68 (f := .cls "AtHome") rfl), He.keep_ok (c.fact 69 (f := .keep "AtHome") rfl)⟩
    i_AtHome := isiB_ok (fb_at cx 6 (f := .isi "AtHome") rfl)
    d_AtHome_init := din_of c (He.mkr_ok (c.fact 70 (f := .mkr "AtHome") rfl)) 31
    d_AtHome_line := dmt_of c (He.meth_ok (c.fact 71 (f := .meth "AtHome" "line") rfl)) 32
    n_AtHome_since := He.noat_ok (c.fact 72 (f := .noat "AtHome" "since") rfl)
    c_Walk := ⟨He.glo_ok X G (c.fact 73 (f := .glo "Walk") rfl), He.cls_ok (c.fact 74 (f := .cls "Walk") rfl), He.keep_ok (c.fact 75 (f := .keep "Walk") rfl)⟩
    i_Walk := isiB_ok (fb_at cx 7 (f := .isi "Walk") rfl)
    d_Walk_init := din_of c (He.mkr_ok (c.fact 76 (f := .mkr "Walk") rfl)) 33
    d_Walk_lies_at := dmt_of c (He.meth_ok (c.fact 77 (f := .meth "Walk" "lies_at") rfl)) 34
    d_Walk_are_letters := dmt_of c (He.meth_ok (c.fact 78 (f := .meth "Walk" "are_letters") rfl)) 35
    d_Walk_amiss := dmt_of c (He.meth_ok (c.fact 79 (f := .meth "Walk" "amiss") rfl)) 36
    d_Walk_send := dmt_of c (He.meth_ok (c.fact 80 (f := .meth "Walk" "send") rfl)) 37
    n_Walk_net := He.noat_ok (c.fact 81 (f := .noat "Walk" "net") rfl)
    n_Walk_posted := He.noat_ok (c.fact 82 (f := .noat "Walk" "posted") rfl)
    n_Walk_stood := He.noat_ok (c.fact 83 (f := .noat "Walk" "stood") rfl)
    n_Walk_last := He.noat_ok (c.fact 84 (f := .noat "Walk" "last") rfl)
    c_Net := ⟨He.glo_ok X G (c.fact 85 (f := .glo "Net") rfl), He.cls_ok (c.fact 86 (f := .cls "Net") rfl), He.keep_ok (c.fact 87 (f := .keep "Net") rfl)⟩
    i_Net := isiB_ok (fb_at cx 8 (f := .isi "Net") rfl)
    d_Net_init := din_of c (He.mkr_ok (c.fact 88 (f := .mkr "Net") rfl)) 38
    d_Net_houses := dmt_of c (He.meth_ok (c.fact 89 (f := .meth "Net" "houses") rfl)) 39
    d_Net_roads := dmt_of c (He.meth_ok (c.fact 90 (f := .meth "Net" "roads") rfl)) 40
    d_Net_road := dmt_of c (He.meth_ok (c.fact 91 (f := .meth "Net" "road") rfl)) 41
    d_Net_known := dmt_of c (He.meth_ok (c.fact 92 (f := .meth "Net" "known") rfl)) 42
    d_Net_out_of := dmt_of c (He.meth_ok (c.fact 93 (f := .meth "Net" "out_of") rfl)) 43
    d_Net_into := dmt_of c (He.meth_ok (c.fact 94 (f := .meth "Net" "into") rfl)) 44
    d_Net_far := dmt_of c (He.meth_ok (c.fact 95 (f := .meth "Net" "far") rfl)) 45
    n_Net_names := He.noat_ok (c.fact 96 (f := .noat "Net" "names") rfl)
    n_Net_lines := He.noat_ok (c.fact 97 (f := .noat "Net" "lines") rfl)
    j_Spot_NotYet := kit_ok (fb_at cx 9 (f := .kit "Spot" "NotYet" false) rfl)
    j_NotYet_NotYet := kit_ok (fb_at cx 10 (f := .kit "NotYet" "NotYet" true) rfl)
    j_AtHouse_NotYet := kit_ok (fb_at cx 11 (f := .kit "AtHouse" "NotYet" false) rfl)
    j_OnRoad_NotYet := kit_ok (fb_at cx 12 (f := .kit "OnRoad" "NotYet" false) rfl)
    j_AtHome_NotYet := kit_ok (fb_at cx 13 (f := .kit "AtHome" "NotYet" false) rfl)
    j_Walk_NotYet := kit_ok (fb_at cx 14 (f := .kit "Walk" "NotYet" false) rfl)
    j_Net_NotYet := kit_ok (fb_at cx 15 (f := .kit "Net" "NotYet" false) rfl)
    j_Spot_OnRoad := kit_ok (fb_at cx 16 (f := .kit "Spot" "OnRoad" false) rfl)
    j_NotYet_OnRoad := kit_ok (fb_at cx 17 (f := .kit "NotYet" "OnRoad" false) rfl)
    j_AtHouse_OnRoad := kit_ok (fb_at cx 18 (f := .kit "AtHouse" "OnRoad" false) rfl)
    j_OnRoad_OnRoad := kit_ok (fb_at cx 19 (f := .kit "OnRoad" "OnRoad" true) rfl)
    j_AtHome_OnRoad := kit_ok (fb_at cx 20 (f := .kit "AtHome" "OnRoad" false) rfl)
    j_Walk_OnRoad := kit_ok (fb_at cx 21 (f := .kit "Walk" "OnRoad" false) rfl)
    j_Net_OnRoad := kit_ok (fb_at cx 22 (f := .kit "Net" "OnRoad" false) rfl)
    j_Spot_AtHouse := kit_ok (fb_at cx 23 (f := .kit "Spot" "AtHouse" false) rfl)
    j_NotYet_AtHouse := kit_ok (fb_at cx 24 (f := .kit "NotYet" "AtHouse" false) rfl)
    j_AtHouse_AtHouse := kit_ok (fb_at cx 25 (f := .kit "AtHouse" "AtHouse" true) rfl)
    j_OnRoad_AtHouse := kit_ok (fb_at cx 26 (f := .kit "OnRoad" "AtHouse" false) rfl)
    j_AtHome_AtHouse := kit_ok (fb_at cx 27 (f := .kit "AtHome" "AtHouse" false) rfl)
    j_Walk_AtHouse := kit_ok (fb_at cx 28 (f := .kit "Walk" "AtHouse" false) rfl)
    j_Net_AtHouse := kit_ok (fb_at cx 29 (f := .kit "Net" "AtHouse" false) rfl)
    x_RoadError := dxc_ok (fb_at cx 30 (f := .exc "RoadError") rfl) (He.glo_ok X G (c.fact 98 (f := .glo "RoadError") rfl))
    xi_RoadError := xin_ok (fb_at cx 31 (f := .xin "RoadError") rfl)
    x_NoNet := dxc_ok (fb_at cx 32 (f := .exc "NoNet") rfl) (He.glo_ok X G (c.fact 99 (f := .glo "NoNet") rfl))
    xi_NoNet := xin_ok (fb_at cx 33 (f := .xin "NoNet") rfl)
    x_NoHouse := dxc_ok (fb_at cx 34 (f := .exc "NoHouse") rfl) (He.glo_ok X G (c.fact 100 (f := .glo "NoHouse") rfl))
    xi_NoHouse := xin_ok (fb_at cx 35 (f := .xin "NoHouse") rfl)
    x_NoRoad := dxc_ok (fb_at cx 36 (f := .exc "NoRoad") rfl) (He.glo_ok X G (c.fact 101 (f := .glo "NoRoad") rfl))
    xi_NoRoad := xin_ok (fb_at cx 37 (f := .xin "NoRoad") rfl)
    x_NoLetter := dxc_ok (fb_at cx 38 (f := .exc "NoLetter") rfl) (He.glo_ok X G (c.fact 102 (f := .glo "NoLetter") rfl))
    x_BadBag := dxc_ok (fb_at cx 39 (f := .exc "BadBag") rfl) (He.glo_ok X G (c.fact 103 (f := .glo "BadBag") rfl))
    x_NoWay := dxc_ok (fb_at cx 40 (f := .exc "NoWay") rfl) (He.glo_ok X G (c.fact 104 (f := .glo "NoWay") rfl))
    x_ManyGoals := dxc_ok (fb_at cx 41 (f := .exc "ManyGoals") rfl) (He.glo_ok X G (c.fact 105 (f := .glo "ManyGoals") rfl))
    xi_ManyGoals := xin_ok (fb_at cx 42 (f := .xin "ManyGoals") rfl)
    x_CutOff := dxc_ok (fb_at cx 43 (f := .exc "CutOff") rfl) (He.glo_ok X G (c.fact 106 (f := .glo "CutOff") rfl))
    xk_NoNet_RoadError := kit_ok (fb_at cx 44 (f := .kit "NoNet" "RoadError" true) rfl)
    xk_NoNet_NoNet := kit_ok (fb_at cx 45 (f := .kit "NoNet" "NoNet" true) rfl)
    xk_NoNet_NoHouse := kit_ok (fb_at cx 46 (f := .kit "NoNet" "NoHouse" false) rfl)
    xk_NoNet_NoRoad := kit_ok (fb_at cx 47 (f := .kit "NoNet" "NoRoad" false) rfl)
    xk_NoNet_NoLetter := kit_ok (fb_at cx 48 (f := .kit "NoNet" "NoLetter" false) rfl)
    xm_NoNet_BadBag := exm_ok (fb_at cx 49 (f := .exm "NoNet" "BadBag" false) rfl)
    xk_NoNet_NoWay := kit_ok (fb_at cx 50 (f := .kit "NoNet" "NoWay" false) rfl)
    xk_NoNet_ManyGoals := kit_ok (fb_at cx 51 (f := .kit "NoNet" "ManyGoals" false) rfl)
    xk_NoNet_CutOff := kit_ok (fb_at cx 52 (f := .kit "NoNet" "CutOff" false) rfl)
    xv_NoNet := kitT_ok (fb_at cx 53 (f := .kitT "NoNet" "ValueError" true) rfl)
    xk_NoRoad_RoadError := kit_ok (fb_at cx 54 (f := .kit "NoRoad" "RoadError" true) rfl)
    xk_NoRoad_NoNet := kit_ok (fb_at cx 55 (f := .kit "NoRoad" "NoNet" false) rfl)
    xk_NoRoad_NoHouse := kit_ok (fb_at cx 56 (f := .kit "NoRoad" "NoHouse" false) rfl)
    xk_NoRoad_NoRoad := kit_ok (fb_at cx 57 (f := .kit "NoRoad" "NoRoad" true) rfl)
    xk_NoRoad_NoLetter := kit_ok (fb_at cx 58 (f := .kit "NoRoad" "NoLetter" false) rfl)
    xm_NoRoad_BadBag := exm_ok (fb_at cx 59 (f := .exm "NoRoad" "BadBag" false) rfl)
    xk_NoRoad_NoWay := kit_ok (fb_at cx 60 (f := .kit "NoRoad" "NoWay" false) rfl)
    xk_NoRoad_ManyGoals := kit_ok (fb_at cx 61 (f := .kit "NoRoad" "ManyGoals" false) rfl)
    xk_NoRoad_CutOff := kit_ok (fb_at cx 62 (f := .kit "NoRoad" "CutOff" false) rfl)
    xv_NoRoad := kitT_ok (fb_at cx 63 (f := .kitT "NoRoad" "ValueError" true) rfl)
    xk_BadBag_RoadError := kit_ok (fb_at cx 64 (f := .kit "BadBag" "RoadError" true) rfl)
    xk_BadBag_NoNet := kit_ok (fb_at cx 65 (f := .kit "BadBag" "NoNet" false) rfl)
    xk_BadBag_NoHouse := kit_ok (fb_at cx 66 (f := .kit "BadBag" "NoHouse" false) rfl)
    xk_BadBag_NoRoad := kit_ok (fb_at cx 67 (f := .kit "BadBag" "NoRoad" false) rfl)
    xk_BadBag_NoLetter := kit_ok (fb_at cx 68 (f := .kit "BadBag" "NoLetter" false) rfl)
    xm_BadBag_BadBag := exm_ok (fb_at cx 69 (f := .exm "BadBag" "BadBag" true) rfl)
    xk_BadBag_NoWay := kit_ok (fb_at cx 70 (f := .kit "BadBag" "NoWay" false) rfl)
    xk_BadBag_ManyGoals := kit_ok (fb_at cx 71 (f := .kit "BadBag" "ManyGoals" false) rfl)
    xk_BadBag_CutOff := kit_ok (fb_at cx 72 (f := .kit "BadBag" "CutOff" false) rfl)
    dx_BadBag := dxin_of c (oex_ok (fb_at cx 73 (f := .oex "BadBag") rfl) (He.glo_ok X G (c.fact 103 (f := .glo "BadBag") rfl))) 46
    no_BadBag_place := xno_ok (fb_at cx 74 (f := .xno "BadBag" "place") rfl)
    no_BadBag_reason := xno_ok (fb_at cx 75 (f := .xno "BadBag" "reason") rfl)
    rin_RoadError := rin_ok (fb_at cx 76 (f := .rin "RoadError") rfl)
    rg_RoadError := He.glo_ok X G (c.fact 98 (f := .glo "RoadError") rfl)
    xv_BadBag := kitT_ok (fb_at cx 77 (f := .kitT "BadBag" "ValueError" true) rfl)
    xn_RoadError := kitN_ok (fb_at cx 78 (f := .kitN "RoadError") rfl)
    xn_NoNet := kitN_ok (fb_at cx 79 (f := .kitN "NoNet") rfl)
    xn_NoHouse := kitN_ok (fb_at cx 80 (f := .kitN "NoHouse") rfl)
    xn_NoRoad := kitN_ok (fb_at cx 81 (f := .kitN "NoRoad") rfl)
    xn_NoLetter := kitN_ok (fb_at cx 82 (f := .kitN "NoLetter") rfl)
    xn_NoWay := kitN_ok (fb_at cx 83 (f := .kitN "NoWay") rfl)
    xn_ManyGoals := kitN_ok (fb_at cx 84 (f := .kitN "ManyGoals") rfl)
    xn_CutOff := kitN_ok (fb_at cx 85 (f := .kitN "CutOff") rfl)
  }
abbrev R : PySem.W.OpenRow := PySem.W.OpenLaw.row PySem.Challenge.rw_postroad_k15_the_bag_amiss
abbrev hk : PySem.W.Hook := hookY 5 hfa hfn hex
def ob (s : PySem.W.SharedT) : AlY := obsY 5 hfa hfn hex (HandSHeadRun.getT s)
theorem ob_eq (s : PySem.W.SharedT) : ob s = hk.obs s.abs := obsY_eq (HandSHeadRun.getT_eq s)
def loose_0 : List Str := ["_wall", "RoadError", "NoNet", "NoHouse", "NoRoad", "NoLetter", "BadBag", "NoWay", "ManyGoals", "CutOff", "Spot", "NotYet", "AtHouse", "OnRoad", "AtHome", "later", "is_number", "is_bag", "Walk", "stops_at", "arrivals", "spots_at", "SMALL", "MOST_HOUSES", "MOST_ROADS", "LONGEST", "WIDEST", "is_whole", "is_name", "are_houses"]
def loose_1 : List Str := ["is_road", "Net", "_law_cell_at", "_law_houses", "_law_road", "_law_letter", "_law_legs", "_law_plan", "_law_whole", "_law_is_bag", "_law_lies", "_law_reason", "_law_odd", "_law_refusal", "_law_both"]
def loose : List Str := loose_0 ++ loose_1
section
open PySem.W PySem.Calls PyProof.Rows HandSHeadRun
theorem run1 (w : World) (os : OsState) : (HandSHeadRun.endF (HandSHeadRun.stepQ (HandSHeadRun.denQ HandSHeadRun.tabQ) R.prog w) 20000 R.prog w os).map (fun s : PySem.W.SharedT => HandSHeadRun.looksF R.prog (boot_heap w.params) s.abs) = some true := by
  kernel_rfl
theorem run2 (w : World) (os : OsState) : (HandSHeadRun.endF (HandSHeadRun.stepQ (HandSHeadRun.denQ HandSHeadRun.tabQ) R.prog w) 20000 R.prog w os).map (fun s : PySem.W.SharedT => HandSHeadRun.seenQ (PySem.W.view R.prog [50]) loose (importedModules R.prog.main.body) (fun s => xlAt (PySem.W.view R.prog [50]) [] s && recOk R.toRowW.records s) s.abs) = some (PySem.W.openGood (PySem.W.view R.prog [50]) loose) := by
  kernel_rfl
theorem run3_0 (w : World) (os : OsState) : (HandSHeadRun.endF (HandSHeadRun.stepQ (HandSHeadRun.denQ HandSHeadRun.tabQ) R.prog w) 20000 R.prog w os).map (fun s => obsY 5 hfa_0 hfn_0 (exB hfb_0) (HandSHeadRun.getT s)) = some (He.valT hfn_0 [] w, true) := by
  kernel_rfl
theorem run3_1 (w : World) (os : OsState) : (HandSHeadRun.endF (HandSHeadRun.stepQ (HandSHeadRun.denQ HandSHeadRun.tabQ) R.prog w) 20000 R.prog w os).map (fun s => obsY 5 hfa_1 hfn_1 (exB hfb_1) (HandSHeadRun.getT s)) = some (He.valT hfn_1 [] w, true) := by
  kernel_rfl
theorem run3_2 (w : World) (os : OsState) : (HandSHeadRun.endF (HandSHeadRun.stepQ (HandSHeadRun.denQ HandSHeadRun.tabQ) R.prog w) 20000 R.prog w os).map (fun s => obsY 5 hfa_2 hfn_2 (exB hfb_2) (HandSHeadRun.getT s)) = some (He.valT hfn_2 [] w, true) := by
  kernel_rfl
theorem run3 (w : World) (os : OsState) : (HandSHeadRun.endF (HandSHeadRun.stepQ (HandSHeadRun.denQ HandSHeadRun.tabQ) R.prog w) 20000 R.prog w os).map ob = some (hk.val w) := (map_obs (run3_0 w os) (map_obs (run3_1 w os) (run3_2 w os)))
end
theorem map3 {α A B C : Type} {o : Option α} {f : α → A} {g : α → B} {h : α → C} {a : A} {b : B} {c : C} (h1 : o.map f = some a) (h2 : o.map g = some b) (h3 : o.map h = some c) : o.map (fun s => (f s, g s, h s)) = some (a, b, c) := by
  obtain ⟨s, rfl, e1⟩ := Option.map_eq_some_iff.mp h1
  obtain ⟨s2, q2, e2⟩ := Option.map_eq_some_iff.mp h2
  obtain ⟨s3, q3, e3⟩ := Option.map_eq_some_iff.mp h3
  cases q2; cases q3; subst e1; subst e2; subst e3; rfl
theorem run (w : World) : HandSHeadRun.RunEq R (PySem.W.view R.prog [50]) hk ob 20000 loose w := by
  intro os
  exact map3 (run1 w os) (run2 w os) (run3 w os)

end Lw
set_option Elab.async false
set_option linter.all false
set_option maxRecDepth 100000
set_option maxHeartbeats 4000000
namespace Lw
open PySem L2 Sx
/-! ### plain: houses, roads, letters as the law draws them -/
def cellAt (ns : List Int) (k : Int) : Int := if k < (ns.length : Int) then ns.getD k.toNat 0 else 0
def abcAt (i : Int) : Str := ⟨#[(TL.tl small).getD i.toNat 0]⟩
def wordStep (s : Int × Str) : Int × Str := (s.1 / 26, s.2 ++ abcAt (s.1 % 26))
def wordSt (n0 : Int) : Nat → Int × Str
  | 0 => (n0, "")
  | i + 1 => wordStep (wordSt n0 i)
def wordN (cell : Int) : Int := cell * 1099087573 % 10000000000037
def wordA (cell : Int) : Str := (wordSt (wordN cell / 7) (1 + wordN cell % 7).toNat).2
theorem abcAt_sg {i : Int} (h0 : 0 ≤ i) (h1 : i < 26) : ∀ c ∈ TL.tl (abcAt i), 97 ≤ c ∧ c ≤ 122 := fun c hc => by
  have e : TL.tl (abcAt i) = [(TL.tl small).getD i.toNat 0] := rfl
  rw [e, List.mem_singleton] at hc
  subst hc
  refine small_in.mp ?_
  have hl : i.toNat < (TL.tl small).length := by rw [small_tl]; simp; omega
  rw [List.getD_eq_getElem?_getD, List.getElem?_eq_getElem hl]
  exact List.getElem_mem hl
def insA (x : Str) (at_ : Int) (ch : Str) : Str := cutS x none (some at_) ++ ch ++ cutS x (some at_) none
abbrev marks : Str := "kcxqamzftbje"
def oneS (c : Nat) : Str := ⟨#[c]⟩
def housesA (cell many : Int) : List Str := ((TL.tl marks).take many.toNat).map fun c => insA (wordA cell) (cell % ((wordA cell).length + 1)) (oneS c)
theorem getD_mem {α : Type} {xs : List α} {i : Int} {x0 : α} (h0 : 0 ≤ i) (h1 : i < xs.length) : xs.getD i.toNat x0 ∈ xs := by
  have hl : i.toNat < xs.length := by omega
  rw [List.getD_eq_getElem?_getD, List.getElem?_eq_getElem hl]
  exact List.getElem_mem hl
theorem getD_ne {α : Type} {xs : List α} {i j : Int} {x0 : α} (nd : xs.Nodup) (hi : 0 ≤ i ∧ i < xs.length) (hj : 0 ≤ j ∧ j < xs.length) (hne : i ≠ j) : xs.getD i.toNat x0 ≠ xs.getD j.toNat x0 := by
  have l1 : i.toNat < xs.length := by omega
  have l2 : j.toNat < xs.length := by omega
  rw [List.getD_eq_getElem?_getD, List.getElem?_eq_getElem l1, List.getD_eq_getElem?_getD, List.getElem?_eq_getElem l2]
  intro e
  have e : xs[i.toNat] = xs[j.toNat] := e
  have p := List.pairwise_iff_getElem.mp nd
  rcases Nat.lt_trichotomy i.toNat j.toNat with h | h | h
  · exact p _ _ l1 l2 h e
  · omega
  · exact p _ _ l2 l1 h e.symm
/-- a road's ends differ -/
theorem ends_ok {n m : Int} (hm : 2 ≤ m) (k : Int) : (0 ≤ n % m ∧ n % m < m) ∧ (0 ≤ (n % m + 1 + k % (m - 1)) % m ∧ (n % m + 1 + k % (m - 1)) % m < m) ∧ n % m ≠ (n % m + 1 + k % (m - 1)) % m := by
  have a1 := Int.emod_nonneg n (show m ≠ 0 by omega)
  have a2 := Int.emod_lt_of_pos n (show 0 < m by omega)
  have b1 := Int.emod_nonneg k (show m - 1 ≠ 0 by omega)
  have b2 := Int.emod_lt_of_pos k (show 0 < m - 1 by omega)
  refine ⟨⟨a1, a2⟩, ⟨Int.emod_nonneg _ (by omega), Int.emod_lt_of_pos _ (by omega)⟩, ?_⟩
  generalize n % m = x at a1 a2 ⊢
  generalize k % (m - 1) = y at b1 b2 ⊢
  by_cases h : x + 1 + y < m
  · rw [Int.emod_eq_of_lt (by omega) h]
    omega
  · have e : (x + 1 + y) % m = x + 1 + y - m := by
      rw [← Int.sub_emod_right (x + 1 + y) m]
      exact Int.emod_eq_of_lt (by omega) (by omega)
    rw [e]
    omega
def roadA (hs : List Str) (long cell : Int) : Road :=
  let n := cell * 48271 % 2147483647
  let m : Int := hs.length
  let b := n % m
  let e := (b + 1 + n / 12 % (m - 1)) % m
  (hs.getD b.toNat "", hs.getD e.toNat "", 1 + n / 2160 % long, if n / 432 % 5 = 1 then 1 + cell % 1000000000 else 1 + n / 144 % 3)
def roadsA (hs : List Str) (long : Int) (cells : List Int) : List Road := if 1 < hs.length then cells.map (roadA hs long) else []
abbrev Letter := Str × Int × Str
def letterD (a : Letter) : D := .tup [.str a.1, .int a.2.1, .str a.2.2]
abbrev lettersD (ls : List Letter) : List D := ls.map letterD
def letterA (hs : List Str) (goals base_ span cell : Int) : Letter :=
  let n := cell * 1220703125 % 2147483629
  let m : Int := hs.length
  (hs.getD ((n % goals + 1 + n / 12 % (m - 1)) % m).toNat "", base_ + n / 144 % span, hs.getD (n % goals).toNat "")
structure OkL (hs : List Str) (base_ span : Int) (a : Letter) : Prop where
  b : a.1 ∈ hs
  e : a.2.2 ∈ hs
  ne : a.1 ≠ a.2.2
  t : base_ ≤ a.2.1 ∧ a.2.1 < base_ + span
end Lw
set_option Elab.async false
set_option linter.all false
set_option maxRecDepth 100000
set_option maxHeartbeats 4000000
namespace Lw
open PySem L2 Sx
/-! ### plain: houses, roads, letters of the other laws -/
def placeB (cell : Int) (k j : Nat) : Int := cell / 64 + 5 * (j : Int) * (j : Int) + 2 * (k : Int) * (if (j : Int) = cell / 8 % (1 + cell % 8) then 1 else 0)
def preB (cell : Int) (k : Nat) : Nat → Str
  | 0 => ""
  | i + 1 => preB cell k i ++ abcAt (placeB cell k i % 26)
def sizeB (cell : Int) : Nat := (1 + cell % 8).toNat
def nameBk (cell : Int) (k : Nat) : Str := preB cell k (sizeB cell)
def housesB (cell : Int) (many : Nat) : List Str := (List.range many).map (nameBk cell)
theorem preB_tl (cell : Int) (k : Nat) : ∀ i, TL.tl (preB cell k i) = (List.range i).map fun j => (TL.tl small).getD (placeB cell k j % 26).toNat 0
  | 0 => by
    have e : TL.tl ("" : Str) = [] := by decide +kernel
    exact e
  | i + 1 => by
    show TL.tl (preB cell k i ++ abcAt _) = _
    rw [TL.tl_append, preB_tl cell k i, List.range_succ, List.map_append]
    rfl
theorem preB_ok (cell : Int) (k i : Nat) : (preB cell k i).length = i ∧ ∀ c ∈ TL.tl (preB cell k i), 97 ≤ c ∧ c ≤ 122 := by
  have e := preB_tl cell k i
  refine ⟨by rw [TL.len_tl, e]; simp, fun c hc => ?_⟩
  rw [e] at hc
  obtain ⟨j, _, rfl⟩ := List.mem_map.mp hc
  exact abcAt_sg (i := placeB cell k j % 26) (by omega) (by omega) _ (List.mem_singleton.mpr rfl)
theorem sizeB_ok (cell : Int) : 1 ≤ sizeB cell ∧ sizeB cell ≤ 8 := by
  unfold sizeB
  omega
theorem small_at {i : Nat} (h : i < 26) : (TL.tl small).getD i 0 = 97 + i := by
  rw [small_tl, List.getD_eq_getElem?_getD, List.getElem?_map, List.getElem?_range h]
  rfl
theorem nameBk_inj {cell : Int} {k k' : Nat} (h : k < 13) (h' : k' < 13) (e : nameBk cell k = nameBk cell k') : k = k' := by
  have e2 := congrArg TL.tl e
  unfold nameBk at e2
  rw [preB_tl, preB_tl] at e2
  have s1 := sizeB_ok cell
  have hz : 0 ≤ cell / 8 % (1 + cell % 8) ∧ cell / 8 % (1 + cell % 8) < 1 + cell % 8 := ⟨Int.emod_nonneg _ (by omega), Int.emod_lt_of_pos _ (by omega)⟩
  obtain ⟨p, hp⟩ : ∃ p : Nat, cell / 8 % (1 + cell % 8) = (p : Int) := ⟨(cell / 8 % (1 + cell % 8)).toNat, by omega⟩
  have hps : p < sizeB cell := by unfold sizeB; omega
  have g := congrArg (fun l : List Nat => l[p]?) e2
  simp only [List.getElem?_map, List.getElem?_range hps, Option.map_some] at g
  have g := Option.some.inj g
  have q1 : (placeB cell k p % 26).toNat < 26 := by omega
  have q2 : (placeB cell k' p % 26).toNat < 26 := by omega
  rw [small_at q1, small_at q2] at g
  have a1 : placeB cell k p = cell / 64 + 5 * (p : Int) * (p : Int) + 2 * (k : Int) := by
    unfold placeB
    rw [if_pos hp.symm, Int.mul_one]
  have a2 : placeB cell k' p = cell / 64 + 5 * (p : Int) * (p : Int) + 2 * (k' : Int) := by
    unfold placeB
    rw [if_pos hp.symm, Int.mul_one]
  rw [a1, a2] at g
  generalize cell / 64 + 5 * (p : Int) * (p : Int) = z at g
  omega
theorem housesB_len {cell : Int} {many : Nat} : (housesB cell many).length = many := by
  unfold housesB
  simp
theorem housesB_ok {cell : Int} {many : Nat} (h : many ≤ 12) : OkH (housesB cell many) := by
  refine ⟨fun x hx => ?_, ?_, by rw [housesB_len]; exact h⟩
  · unfold housesB at hx
    obtain ⟨k, _, rfl⟩ := List.mem_map.mp hx
    obtain ⟨h1, h2⟩ := preB_ok cell k (sizeB cell)
    have := sizeB_ok cell
    exact ⟨by show 1 ≤ (preB cell k (sizeB cell)).length; omega, by show (preB cell k (sizeB cell)).length ≤ 8; omega, h2⟩
  · unfold housesB
    have p : (List.range many).Pairwise (fun a b => a ≠ b ∧ a < 13 ∧ b < 13) := by
      refine List.Pairwise.imp_of_mem (fun {a b} ha hb hne => ⟨hne, ?_, ?_⟩) List.nodup_range
      · have := List.mem_range.mp ha; omega
      · have := List.mem_range.mp hb; omega
    exact List.Pairwise.map _ (fun a b ⟨h1, h2, h3⟩ e => h1 (nameBk_inj h2 h3 e)) p
def roadB (hs : List Str) (cell : Int) : Road :=
  let n := cell * 1099087573 % 10000000000037
  let m : Int := hs.length
  let b := n % m
  let e := (b + 1 + n / m % (m - 1)) % m
  (hs.getD b.toNat "", hs.getD e.toNat "", 1 + n / 1000 % 9, if n / 27000 % 5 = 0 then 1 + n / 135000 % 1000000000 else 1 + n / 9000 % 3)
theorem roadB_ok {hs : List Str} {cell : Int} (nd : hs.Nodup) (h2 : 2 ≤ hs.length) : OkR hs (roadB hs cell) := by
  have hm : (2 : Int) ≤ hs.length := by omega
  obtain ⟨a, b, c⟩ := ends_ok (n := cell * 1099087573 % 10000000000037) hm (cell * 1099087573 % 10000000000037 / (hs.length : Int))
  refine ⟨getD_mem a.1 a.2, getD_mem b.1 b.2, getD_ne nd a b c, ?_, ?_⟩
  · unfold roadB
    dsimp only
    omega
  · unfold roadB
    dsimp only
    split <;> omega
def letterB (hs : List Str) (base_ cell : Int) : Letter :=
  let n := cell * 982451653 % 10000000000037
  let m : Int := hs.length
  let b := n % m
  (hs.getD b.toNat "", base_ + n / 1000 % 31, hs.getD ((b + 1 + n / m % (m - 1)) % m).toNat "")
theorem letterB_ok {hs : List Str} {base_ cell : Int} (nd : hs.Nodup) (h2 : 2 ≤ hs.length) : OkL hs base_ 31 (letterB hs base_ cell) := by
  have hm : (2 : Int) ≤ hs.length := by omega
  obtain ⟨a, b, c⟩ := ends_ok (n := cell * 982451653 % 10000000000037) hm (cell * 982451653 % 10000000000037 / (hs.length : Int))
  refine ⟨getD_mem a.1 a.2, getD_mem b.1 b.2, getD_ne nd a b c, ?_⟩
  unfold letterB
  dsimp only
  omega

end Lw
set_option Elab.async false
set_option linter.all false
set_option maxRecDepth 100000
set_option maxHeartbeats 4000000
namespace Lw
open PySem L2 Sx
/-! ### the walk: what these laws draw -/
section
variable {P : Program} {w : World} {K : PySem.W.Frag} {mg : Str → Option Value} {base : Heap} {c : Cs}
theorem g_cell (T : Top K mg c) : Glo P w K mg base 1 "_law_cell_at" ["_law_script", "_law_k"] (Pu K (fun a : List Int × Int => 0 ≤ a.2) (fun a => [.scr (a.1.map .int), .int a.2]) (fun a => .int (cellAt a.1 a.2))) :=
  glo_of T.d_law_cell_at (fun _ _ _ _ _ _ us hl => match us, hl with | [_, _], _ => rfl) fun f fd F => fn_ok F cs_law_cell_at (fun _ => rfl) fun cdv A outer s H E a hr hok => by
    obtain ⟨ns, k⟩ := a
    have hk : 0 ≤ k := hok
    refine blk_if (ts_cmp op_lt (px_var (pv 1) rfl) (px_bi call_len_seq T.z_len (pa_c (px_var (pv 0) rfl) pa_n) o_lenR) o_lt) (fun h => ?_) (fun h => ?_)
    · have h1 : k < (ns.length : Int) := by
        have := of_decide_eq_true h
        rwa [List.length_map] at this
      refine blk_ret (px_ix ix_list (px_var (pv 0) rfl) (px_var (pv 1) rfl) (o_ixR (d := .int (ns.getD k.toNat 0)) (atI_map (atI_in hk h1)))) ⟨?_, rfl⟩
      show D.int _ = D.int (cellAt ns k)
      unfold cellAt
      rw [if_pos h1]
    · have h1 : ¬ k < (ns.length : Int) := by
        have := of_decide_eq_false h
        rwa [List.length_map] at this
      refine blk_nil (blk_ret px_int ⟨?_, rfl⟩)
      show D.int _ = D.int (cellAt ns k)
      unfold cellAt
      rw [if_neg h1]
/-- int(test) -/
theorem o_intB {K : PySem.W.Frag} {l : List Res} {b : Bool} : OpN K l (fun xs H Q => (∃ i, xs = [.int i] ∧ Q (.int i) H) ∨ ∃ k, xs = [.bl k] ∧ Q (.int (if k then 1 else 0)) H) [.bl b] (.int (if b then 1 else 0)) := fun F M H vs Q eF eM dj rs f k => by
  cases f with
  | cons f1 f2 =>
    cases f2; cases f1
    exact .inr ⟨b, rfl, k _ F H (.rf eF) (.int _)⟩
theorem g_housesB (T : Top K mg c) : Glo P w K mg base 1 "_law_houses" ["_law_cell", "_law_many"] (Fr K (fun a : Int × Int => 0 ≤ a.2 ∧ a.2 ≤ 12) (fun a => [.int a.1, .int a.2]) (fun a => housesD (housesB a.1 a.2.toNat))) :=
  glo_of T.d_law_houses (fun _ _ _ _ _ _ us hl => match us, hl with | [_, _], _ => rfl) fun f fd F => fn_ok F cs_law_houses (fun _ => rfl) fun cdv A outer s H E a hr hok => by
    have nd := cs_law_houses.nd
    obtain ⟨cell, many⟩ := a
    obtain ⟨hm0, hm1⟩ : 0 ≤ many ∧ many ≤ 12 := hok
    have s8 := sizeB_ok cell
    refine blk_set nd (i := 2) rfl (.inl rfl) px_str ?_
    refine blk_set nd (i := 3) (d := .int (1 + cell % 8)) rfl (.inl rfl) (px_op op_add px_int (px_op op_mod (px_var (pv 0) rfl) px_int o_mod) o_add) ?_
    refine blk_set nd (i := 4) (d := .int (cell / 8 % (1 + cell % 8))) rfl (.inl rfl) (px_op op_mod (px_op op_fdiv (px_var (pv 0) rfl) px_int o_fdiv) (px_var (pv 3) rfl) (o_mod (by omega))) ?_
    refine blk_setX nd (i := 5) rfl (.inl rfl) (ev_lst pa_n) fun d l' ⟨p, e1, e2⟩ => ?_
    subst e1; subst e2
    refine blk_for (is := [6]) (fun i g l => (∃ o6 o7 o8 o9, g = [some (.int cell), some (.int many), some (.str small), some (.int (1 + cell % 8)), some (.int (cell / 8 % (1 + cell % 8))), some (.adr p), o6, o7, o8, o9]) ∧ l = [ownL K p (housesD (housesB cell i))]) PassesOwn.never rfl
      (it_range (px_var (pv 1) rfl) (by omega) (by omega) T.z_range) (pg_name (i := 6) nd rfl (.inl rfl)) ⟨⟨none, none, none, none, rfl⟩, rfl⟩ (fun k d g l hd hI => ?_) (fun g l hI => ?_)
    · obtain ⟨⟨o6, o7, o8, o9, rfl⟩, rfl⟩ := hI
      obtain ⟨hk, rfl⟩ := rng_get hd
      have hk : k < many.toNat := hk
      refine ⟨_, tg_name, ?_⟩
      refine blk_set nd (i := 7) rfl (.inl rfl) px_str ?_
      refine blk_for (is := [8]) (fun i g l => (∃ o8 o9, g = [some (.int cell), some (.int many), some (.str small), some (.int (1 + cell % 8)), some (.int (cell / 8 % (1 + cell % 8))), some (.adr p), some (.int (0 + (k : Int))), some (.str (preB cell k i)), o8, o9]) ∧ l = [ownL K p (housesD (housesB cell k))]) PassesOwn.never rfl
        (it_range (px_var (pv 3) rfl) (by omega) (by omega) T.z_range) (pg_name (i := 8) nd rfl (.inl rfl)) ⟨⟨o8, o9, rfl⟩, rfl⟩ (fun i d g l hd hI => ?_) (fun g l hI => ?_)
      · obtain ⟨⟨o8, o9, rfl⟩, rfl⟩ := hI
        obtain ⟨hi, rfl⟩ := rng_get hd
        have hi : i < (1 + cell % 8).toNat := hi
        have h1 := (preB_ok cell k i).1
        have hp : 0 ≤ placeB cell k i % 26 ∧ placeB cell k i % 26 < 26 := by omega
        refine ⟨_, tg_name, ?_⟩
        refine blk_set nd (i := 9) (d := .int (placeB cell k i)) rfl (.inl rfl) (Px.to (px_op op_add (px_op op_add (px_op op_fdiv (px_var (pv 0) rfl) px_int o_fdiv) (px_op op_mul (px_op op_mul px_int (px_var (pv 8) rfl) o_mulL) (px_var (pv 8) rfl) (o_mulR (by omega) (by omega))) o_add) (px_op op_mul (px_op op_mul px_int (px_var (pv 6) rfl) o_mulL) (px_ty call_int1 T.z_int (pa_c (px_cmp op_eq (px_var (pv 8) rfl) (px_var (pv 4) rfl) o_eqI) pa_n) o_intB) (o_mulL (by omega) (by omega))) o_add) ?_) ?_
        · unfold placeB
          rw [Int.zero_add, Int.zero_add]
          congr 3
          by_cases z : (i : Int) = cell / 8 % (1 + cell % 8)
          · rw [decide_eq_true z, if_pos z]; rfl
          · rw [decide_eq_false z, if_neg z]; rfl
        refine blk_set nd (i := 7) (d := .str (preB cell k (i + 1))) rfl (.inl rfl) (px_op op_add_str (px_var (pv 7) rfl) (px_ix ix_str (px_var (pv 2) rfl) (px_op op_mod (px_var (pv 9) rfl) px_int o_mod) (o_ixS (c := (TL.tl small).getD (placeB cell k i % 26).toNat 0) (by decide) (atI_in hp.1 hp.2))) (o_addS ?_)) ?_
        · rw [h1]
          show i + 1 ≤ sizeLine
          exact Nat.le_trans (show i + 1 ≤ 100 by omega) (by decide)
        exact blk_nil ⟨⟨_, _, rfl⟩, rfl⟩
      · obtain ⟨⟨o8, o9, rfl⟩, rfl⟩ := hI
        rw [rng_len]
        refine blk_add (k := 0) (px_var (pv 5) rfl) (px_var (pv 7) rfl) rfl ?_ ?_
        · rw [List.length_map, housesB_len]
          exact Nat.lt_of_lt_of_le (show k < 10000 by omega) (szS (Nat.le_refl _))
        · refine blk_nil ⟨⟨_, _, _, _, rfl⟩, ?_⟩
          have e : housesB cell (k + 1) = housesB cell k ++ [nameBk cell k] := by
            unfold housesB
            rw [List.range_succ, List.map_append]
            rfl
          rw [e]
          show [ownL K p (housesD (housesB cell k) ++ [.str (preB cell k (1 + cell % 8).toNat)])] = [ownL K p ((housesB cell k ++ [nameBk cell k]).map D.str)]
          rw [List.map_append]
          rfl
    · obtain ⟨⟨o6, o7, o8, o9, rfl⟩, rfl⟩ := hI
      rw [rng_len]
      exact blk_ret (px_var (pv 5) rfl) ⟨p, rfl, rfl⟩
theorem g_roadB (T : Top K mg c) : Glo P w K mg base 1 "_law_road" ["_law_cell", "_law_names"] (Pu K (fun a : Int × List Str => 2 ≤ a.2.length ∧ a.2.length ≤ 12) (fun a => [.int a.1, .lst (housesD a.2)]) (fun a => roadD (roadB a.2 a.1))) :=
  glo_of T.d_law_road (fun _ _ _ _ _ _ us hl => match us, hl with | [_, _], _ => rfl) fun f fd F => fn_ok F cs_law_road (fun _ => rfl) fun cdv A outer s H E a hr hok => by
    have nd := cs_law_road.nd
    obtain ⟨cell, hs⟩ := a
    obtain ⟨h2, h12⟩ : 2 ≤ hs.length ∧ hs.length ≤ 12 := hok
    have el : (housesD hs).length = hs.length := List.length_map ..
    have hm : (2 : Int) ≤ hs.length := by omega
    have er : roadB hs cell = (hs.getD ((cell * 1099087573 % 10000000000037) % (hs.length : Int)).toNat "", hs.getD (((cell * 1099087573 % 10000000000037) % (hs.length : Int) + 1 + (cell * 1099087573 % 10000000000037) / (hs.length : Int) % ((hs.length : Int) - 1)) % (hs.length : Int)).toNat "", 1 + (cell * 1099087573 % 10000000000037) / 1000 % 9, if (cell * 1099087573 % 10000000000037) / 27000 % 5 = 0 then 1 + (cell * 1099087573 % 10000000000037) / 135000 % 1000000000 else 1 + (cell * 1099087573 % 10000000000037) / 9000 % 3) := rfl
    show Blk _ _ _ _ _ { nx := _, rt := fun d l' => d = roadD (roadB hs cell) ∧ l' = [] }
    refine blk_set nd (i := 2) (d := .int (cell * 1099087573 % 10000000000037)) rfl (.inl rfl) (px_op op_mod (px_op op_mul (px_var (pv 0) rfl) px_int o_mulR) px_int o_mod) ?_
    generalize cell * 1099087573 % 10000000000037 = n at er ⊢
    obtain ⟨a1, a2, a3⟩ := ends_ok (n := n) hm (n / (hs.length : Int))
    refine blk_set nd (i := 3) (d := .int (hs.length : Int)) rfl (.inl rfl) (Px.to (px_bi call_len_seq T.z_len (pa_c (px_var (pv 1) rfl) pa_n) o_lenL) (by rw [el])) ?_
    refine blk_set nd (i := 4) (d := .int (n % (hs.length : Int))) rfl (.inl rfl) (px_op op_mod (px_var (pv 2) rfl) (px_var (pv 3) rfl) (o_mod (by omega))) ?_
    refine blk_set nd (i := 5) (d := .int ((n % (hs.length : Int) + 1 + n / (hs.length : Int) % ((hs.length : Int) - 1)) % (hs.length : Int))) rfl (.inl rfl) (px_op op_mod (px_op op_add (px_op op_add (px_var (pv 4) rfl) px_int o_add) (px_op op_mod (px_op op_fdiv (px_var (pv 2) rfl) (px_var (pv 3) rfl) (o_fdiv (by omega) (by omega))) (px_op op_sub (px_var (pv 3) rfl) px_int o_sub) (o_mod (by omega))) o_add) (px_var (pv 3) rfl) (o_mod (by omega))) ?_
    generalize hb : n % (hs.length : Int) = b at a1 a2 a3 er ⊢
    generalize he : (b + 1 + n / (hs.length : Int) % ((hs.length : Int) - 1)) % (hs.length : Int) = e' at a2 a3 er ⊢
    refine blk_set nd (i := 6) (d := .int (1 + n / 9000 % 3)) rfl (.inl rfl) (px_op op_add px_int (px_op op_mod (px_op op_fdiv (px_var (pv 2) rfl) px_int o_fdiv) px_int o_mod) o_add) ?_
    refine blk_ifJ (fun g l => g = [some (.int cell), some (.lst (housesD hs)), some (.int n), some (.int (hs.length : Int)), some (.int b), some (.int e'), some (.int (if n / 27000 % 5 = 0 then 1 + n / 135000 % 1000000000 else 1 + n / 9000 % 3))] ∧ l = []) (ts_cmp op_eq (px_op op_mod (px_op op_fdiv (px_var (pv 2) rfl) px_int o_fdiv) px_int o_mod) px_int o_eqI) (fun h => ?_) (fun h => ?_) (fun g l hM => ?_)
    · have h : n / 27000 % 5 = 0 := of_decide_eq_true h
      refine blk_set nd (i := 6) (d := .int (1 + n / 135000 % 1000000000)) rfl (.inl rfl) (px_op op_add px_int (px_op op_mod (px_op op_fdiv (px_var (pv 2) rfl) px_int o_fdiv) (px_op op_pow px_int px_int o_pow) (o_mod (j := 1000000000))) o_add) ?_
      refine blk_nil ⟨?_, rfl⟩
      rw [if_pos h]
      rfl
    · have h : ¬ n / 27000 % 5 = 0 := of_decide_eq_false h
      refine blk_nil ⟨?_, rfl⟩
      rw [if_neg h]
      rfl
    · obtain ⟨rfl, rfl⟩ := hM
      refine blk_ret (Px.to (px_tup (pa_c (px_ix ix_list (px_var (pv 1) rfl) (px_var (pv 4) rfl) (o_ixL (d := .str (hs.getD b.toNat "")) (atI_map (atI_in a1.1 a1.2)))) (pa_c (px_ix ix_list (px_var (pv 1) rfl) (px_var (pv 5) rfl) (o_ixL (d := .str (hs.getD e'.toNat "")) (atI_map (atI_in a2.1 a2.2)))) (pa_c (px_op op_add px_int (px_op op_mod (px_op op_fdiv (px_var (pv 2) rfl) px_int o_fdiv) px_int o_mod) o_add) (pa_c (px_var (pv 6) rfl) pa_n))))) (by rw [er]; rfl)) ⟨rfl, rfl⟩
end
/-! ### the walk: letters -/
section
variable {P : Program} {w : World} {K : PySem.W.Frag} {mg : Str → Option Value} {base : Heap} {c : Cs}
theorem g_letterB (T : Top K mg c) : Glo P w K mg base 1 "_law_letter" ["_law_cell", "_law_names", "_law_base"] (Pu K (fun a : Int × List Str × Int => 2 ≤ a.2.1.length ∧ a.2.1.length ≤ 12) (fun a => [.int a.1, .lst (housesD a.2.1), .int a.2.2]) (fun a => letterD (letterB a.2.1 a.2.2 a.1))) :=
  glo_of T.d_law_letter (fun _ _ _ _ _ _ us hl => match us, hl with | [_, _, _], _ => rfl) fun f fd F => fn_ok F cs_law_letter (fun _ => rfl) fun cdv A outer s H E a hr hok => by
    have nd := cs_law_letter.nd
    obtain ⟨cell, hs, bs⟩ := a
    obtain ⟨h2, h12⟩ : 2 ≤ hs.length ∧ hs.length ≤ 12 := hok
    have el : (housesD hs).length = hs.length := List.length_map ..
    have hm : (2 : Int) ≤ hs.length := by omega
    have er : letterB hs bs cell = (hs.getD ((cell * 982451653 % 10000000000037) % (hs.length : Int)).toNat "", bs + (cell * 982451653 % 10000000000037) / 1000 % 31, hs.getD (((cell * 982451653 % 10000000000037) % (hs.length : Int) + 1 + (cell * 982451653 % 10000000000037) / (hs.length : Int) % ((hs.length : Int) - 1)) % (hs.length : Int)).toNat "") := rfl
    show Blk _ _ _ _ _ { nx := _, rt := fun d l' => d = letterD (letterB hs bs cell) ∧ l' = [] }
    refine blk_set nd (i := 3) (d := .int (cell * 982451653 % 10000000000037)) rfl (.inl rfl) (px_op op_mod (px_op op_mul (px_var (pv 0) rfl) px_int o_mulR) px_int o_mod) ?_
    generalize cell * 982451653 % 10000000000037 = n at er ⊢
    obtain ⟨a1, a2, a3⟩ := ends_ok (n := n) hm (n / (hs.length : Int))
    refine blk_set nd (i := 4) (d := .int (hs.length : Int)) rfl (.inl rfl) (Px.to (px_bi call_len_seq T.z_len (pa_c (px_var (pv 1) rfl) pa_n) o_lenL) (by rw [el])) ?_
    refine blk_set nd (i := 5) (d := .int (n % (hs.length : Int))) rfl (.inl rfl) (px_op op_mod (px_var (pv 3) rfl) (px_var (pv 4) rfl) (o_mod (by omega))) ?_
    refine blk_set nd (i := 6) (d := .int ((n % (hs.length : Int) + 1 + n / (hs.length : Int) % ((hs.length : Int) - 1)) % (hs.length : Int))) rfl (.inl rfl) (px_op op_mod (px_op op_add (px_op op_add (px_var (pv 5) rfl) px_int o_add) (px_op op_mod (px_op op_fdiv (px_var (pv 3) rfl) (px_var (pv 4) rfl) (o_fdiv (by omega) (by omega))) (px_op op_sub (px_var (pv 4) rfl) px_int o_sub) (o_mod (by omega))) o_add) (px_var (pv 4) rfl) (o_mod (by omega))) ?_
    generalize hb : n % (hs.length : Int) = b at a1 a2 a3 er ⊢
    generalize he : (b + 1 + n / (hs.length : Int) % ((hs.length : Int) - 1)) % (hs.length : Int) = e' at a2 a3 er ⊢
    refine blk_ret (Px.to (px_tup (pa_c (px_ix ix_list (px_var (pv 1) rfl) (px_var (pv 5) rfl) (o_ixL (d := .str (hs.getD b.toNat "")) (atI_map (atI_in a1.1 a1.2)))) (pa_c (px_op op_add (px_var (pv 2) rfl) (px_op op_mod (px_op op_fdiv (px_var (pv 3) rfl) px_int o_fdiv) px_int o_mod) o_add) (pa_c (px_ix ix_list (px_var (pv 1) rfl) (px_var (pv 6) rfl) (o_ixL (d := .str (hs.getD e'.toNat "")) (atI_map (atI_in a2.1 a2.2)))) pa_n)))) (by rw [er]; rfl)) ⟨rfl, rfl⟩
end

end Lw
set_option Elab.async false
set_option linter.all false
set_option maxRecDepth 100000
set_option maxHeartbeats 4000000
namespace Lw
open PySem L2 Sx
/-! ### spots: the four kinds as one sort -/
inductive Sp where
  | no
  | at (h : Str) (t : Int)
  | on (r t : Int)
  | home (t : Int)
  deriving DecidableEq
instance : Inhabited Sp := ⟨.no⟩
def Sp.isNo : Sp → Bool | .no => true | _ => false
def Sp.isAt : Sp → Bool | .at _ _ => true | _ => false
def Sp.isOn : Sp → Bool | .on _ _ => true | _ => false
def Sp.isHome : Sp → Bool | .home _ => true | _ => false
def Sp.h : Sp → Str | .at h _ => h | _ => ""
def Sp.r : Sp → Int | .on r _ => r | _ => 0
def Sp.t : Sp → Int | .at _ t => t | .on _ t => t | .home t => t | .no => 0
def Sp.hasSince : Sp → Bool | .at _ _ => true | .home _ => true | _ => false
end Lw
set_option Elab.async false
set_option linter.all false
set_option maxRecDepth 100000
set_option maxHeartbeats 4000000
namespace Lw
open PySem L2 Sx
section
variable {P : Program} {w : World} {K : PySem.W.Frag} {mg : Str → Option Value} {base : Heap} {c : Cs}
abbrev spD (c : Cs) : Sp → D
  | .no => .ins c.NotYet []
  | .at h t => .ins c.AtHouse [("at", .str h), ("since", .int t)]
  | .on r t => .ins c.OnRoad [("by", .int r), ("due", .int t)]
  | .home t => .ins c.AtHome [("since", .int t)]
abbrev mk2 (C : Addr) (a b : Str) (d1 d2 : D) : D := .ins C [(a, d1), (b, d2)]
theorem ne_as : ¬ (("at" : Str) = "since") := by decide +kernel
theorem ne_bd : ¬ (("by" : Str) = "due") := by decide +kernel
theorem put2 {a b : Str} {d1 d2 : D} (h : ¬ a = b) : putD b d2 (putD a d1 []) = [(a, d1), (b, d2)] := by
  show (if a = b then _ else (a, d1) :: putD b d2 []) = _
  rw [if_neg h]
  rfl
theorem g_AtHouse (T : Top K mg c) : GloC P w K mg base 1 c.AtHouse "AtHouse" ["self", "at", "since"] (FnX K (fun _ : Addr × D × D => True) (fun a => [.adr a.1, a.2.1, a.2.2]) (fun a => [ownI K a.1 c.AtHouse []]) (fun a d l => d = .non ∧ l = [ownI K a.1 c.AtHouse [("at", a.2.1), ("since", a.2.2)]]) noE) :=
  gloc_of T.d_AtHouse_init T.c_AtHouse (fun _ _ _ _ _ _ us hl => match us, hl with | [_, _, _], _ => rfl) fun f fd F => fn_ok F cs_AtHouse_init (fun _ => rfl) fun cdv A outer s H E a hr hok => by
    obtain ⟨q, d1, d2⟩ := a
    refine blk_fld (k := 0) (px_var (pv 1) rfl) (px_var (pv 0) rfl) rfl T.c_AtHouse.cl T.n_AtHouse_at (by decide) ?_
    refine blk_fld (k := 0) (px_var (pv 2) rfl) (px_var (pv 0) rfl) rfl T.c_AtHouse.cl T.n_AtHouse_since (by show 1 < 1000; decide) ?_
    exact blk_nil ⟨rfl, by show [ownI K q _ (putD _ _ (putD _ _ []))] = _; rw [put2 ne_as]⟩
theorem g_OnRoad (T : Top K mg c) : GloC P w K mg base 1 c.OnRoad "OnRoad" ["self", "by", "due"] (FnX K (fun _ : Addr × D × D => True) (fun a => [.adr a.1, a.2.1, a.2.2]) (fun a => [ownI K a.1 c.OnRoad []]) (fun a d l => d = .non ∧ l = [ownI K a.1 c.OnRoad [("by", a.2.1), ("due", a.2.2)]]) noE) :=
  gloc_of T.d_OnRoad_init T.c_OnRoad (fun _ _ _ _ _ _ us hl => match us, hl with | [_, _, _], _ => rfl) fun f fd F => fn_ok F cs_OnRoad_init (fun _ => rfl) fun cdv A outer s H E a hr hok => by
    obtain ⟨q, d1, d2⟩ := a
    refine blk_fld (k := 0) (px_var (pv 1) rfl) (px_var (pv 0) rfl) rfl T.c_OnRoad.cl T.n_OnRoad_by (by decide) ?_
    refine blk_fld (k := 0) (px_var (pv 2) rfl) (px_var (pv 0) rfl) rfl T.c_OnRoad.cl T.n_OnRoad_due (by show 1 < 1000; decide) ?_
    exact blk_nil ⟨rfl, by show [ownI K q _ (putD _ _ (putD _ _ []))] = _; rw [put2 ne_bd]⟩
theorem g_AtHome (T : Top K mg c) : GloC P w K mg base 1 c.AtHome "AtHome" ["self", "since"] (FnX K (fun _ : Addr × D => True) (fun a => [.adr a.1, a.2]) (fun a => [ownI K a.1 c.AtHome []]) (fun a d l => d = .non ∧ l = [ownI K a.1 c.AtHome [("since", a.2)]]) noE) :=
  gloc_of T.d_AtHome_init T.c_AtHome (fun _ _ _ _ _ _ us hl => match us, hl with | [_, _], _ => rfl) fun f fd F => fn_ok F cs_AtHome_init (fun _ => rfl) fun cdv A outer s H E a hr hok => by
    obtain ⟨q, d1⟩ := a
    refine blk_fld (k := 0) (px_var (pv 1) rfl) (px_var (pv 0) rfl) rfl T.c_AtHome.cl T.n_AtHome_since (by decide) ?_
    exact blk_nil ⟨rfl, rfl⟩
section
variable {X : Cx} {g : Gm} {l : List Res} {e1 e2 : Expr} {d1 d2 : D} {p pos : Pos} {j : Nat}
theorem px_AtHouse (T : Top X.K X.mg c) (hr : Room j X.A) (hj : 2 ≤ j) (h1 : Px X e1 g l d1) (h2 : Px X e2 g l d2) (hg : Gl X "AtHouse" := by rfl) (he : starEach [e1, e2] X.env = (false, eval e1 X.env) :: starEach [e2] X.env := by rfl) (hs2 : starEach [e2] X.env = [(false, eval e2 X.env)] := by rfl) (hpl : (backTo pos (starEach [e2] X.env)).any (·.1) = false := by rfl) :
    Px X (.Call (.Name "AtHouse" p) [e1, e2] [] pos) g l (.ins c.AtHouse [("at", d1), ("since", d2)]) :=
  (ev_make (g_AtHouse T) hr hj (fun q => (q, d1, d2)) (fun _ => trivial) (pa_c h1 (pa_c h2 pa_n hs2) he) (fun _ => rfl) (fun _ => rfl) (fun q d l' h => ⟨h.1, q, rfl, by rw [h.2]; rfl⟩) hg (by decide) he hpl).frzI
theorem px_OnRoad (T : Top X.K X.mg c) (hr : Room j X.A) (hj : 2 ≤ j) (h1 : Px X e1 g l d1) (h2 : Px X e2 g l d2) (hg : Gl X "OnRoad" := by rfl) (he : starEach [e1, e2] X.env = (false, eval e1 X.env) :: starEach [e2] X.env := by rfl) (hs2 : starEach [e2] X.env = [(false, eval e2 X.env)] := by rfl) (hpl : (backTo pos (starEach [e2] X.env)).any (·.1) = false := by rfl) :
    Px X (.Call (.Name "OnRoad" p) [e1, e2] [] pos) g l (.ins c.OnRoad [("by", d1), ("due", d2)]) :=
  (ev_make (g_OnRoad T) hr hj (fun q => (q, d1, d2)) (fun _ => trivial) (pa_c h1 (pa_c h2 pa_n hs2) he) (fun _ => rfl) (fun _ => rfl) (fun q d l' h => ⟨h.1, q, rfl, by rw [h.2]; rfl⟩) hg (by decide) he hpl).frzI
theorem px_AtHome (T : Top X.K X.mg c) (hr : Room j X.A) (hj : 2 ≤ j) (h1 : Px X e1 g l d1) (hg : Gl X "AtHome" := by rfl) (he : starEach [e1] X.env = [(false, eval e1 X.env)] := by rfl) :
    Px X (.Call (.Name "AtHome" p) [e1] [] pos) g l (.ins c.AtHome [("since", d1)]) :=
  (ev_make (g_AtHome T) hr hj (fun q => (q, d1)) (fun _ => trivial) (pa_c h1 pa_n he) (fun _ => rfl) (fun _ => rfl) (fun q d l' h => ⟨h.1, q, rfl, by rw [h.2]; rfl⟩) hg (by decide) he rfl).frzI
end
section
variable {X : Cx} {g : Gm} {l : List Res} {e1 e2 : Expr} {p pos : Pos} {j : Nat}
theorem px_spNo (T : Top X.K X.mg c) (hg : Gl X "NotYet" := by rfl) : Px X (.Call (.Name "NotYet" p) [] [] pos) g l (spD c .no) := px_make0 T.m_NotYet T.c_NotYet.mg hg
theorem px_spAt {h : Str} {t : Int} (T : Top X.K X.mg c) (hr : Room j X.A) (hj : 2 ≤ j) (h1 : Px X e1 g l (.str h)) (h2 : Px X e2 g l (.int t)) (hg : Gl X "AtHouse" := by rfl) (he : starEach [e1, e2] X.env = (false, eval e1 X.env) :: starEach [e2] X.env := by rfl) (hs2 : starEach [e2] X.env = [(false, eval e2 X.env)] := by rfl) (hpl : (backTo pos (starEach [e2] X.env)).any (·.1) = false := by rfl) :
    Px X (.Call (.Name "AtHouse" p) [e1, e2] [] pos) g l (spD c (.at h t)) := px_AtHouse T hr hj h1 h2 hg he hs2 hpl
theorem px_spOn {r t : Int} (T : Top X.K X.mg c) (hr : Room j X.A) (hj : 2 ≤ j) (h1 : Px X e1 g l (.int r)) (h2 : Px X e2 g l (.int t)) (hg : Gl X "OnRoad" := by rfl) (he : starEach [e1, e2] X.env = (false, eval e1 X.env) :: starEach [e2] X.env := by rfl) (hs2 : starEach [e2] X.env = [(false, eval e2 X.env)] := by rfl) (hpl : (backTo pos (starEach [e2] X.env)).any (·.1) = false := by rfl) :
    Px X (.Call (.Name "OnRoad" p) [e1, e2] [] pos) g l (spD c (.on r t)) := px_OnRoad T hr hj h1 h2 hg he hs2 hpl
theorem px_spHome {t : Int} (T : Top X.K X.mg c) (hr : Room j X.A) (hj : 2 ≤ j) (h1 : Px X e1 g l (.int t)) (hg : Gl X "AtHome" := by rfl) (he : starEach [e1] X.env = [(false, eval e1 X.env)] := by rfl) :
    Px X (.Call (.Name "AtHome" p) [e1] [] pos) g l (spD c (.home t)) := px_AtHome T hr hj h1 hg he
theorem px_isNo {s : Sp} {p2 : Pos} (T : Top X.K X.mg c) (h : Px X e1 g l (spD c s)) (hg : Gl X "isinstance" := by rfl) (hg2 : Gl X "NotYet" := by rfl) (hs : starEach [e1, .Name "NotYet" p2] X.env = (false, eval e1 X.env) :: starEach [.Name "NotYet" p2] X.env := by rfl) (hs2 : starEach [.Name "NotYet" p2] X.env = [(false, eval (.Name "NotYet" p2) X.env)] := by rfl) (hpl : (backTo pos (starEach [.Name "NotYet" p2] X.env)).any (·.1) = false := by rfl) :
    Px X (.Call (.Name "isinstance" p) [e1, .Name "NotYet" p2] [] pos) g l (.bl s.isNo) := by
  cases s with
  | no => exact px_isC T.z_isinstance T.c_NotYet.mg h T.c_NotYet.cl T.i_NotYet T.j_NotYet_NotYet hg hg2 (by decide) hs hs2 hpl
  | «at» _ _ => exact px_isC T.z_isinstance T.c_NotYet.mg h T.c_AtHouse.cl T.i_AtHouse T.j_AtHouse_NotYet hg hg2 (by decide) hs hs2 hpl
  | on _ _ => exact px_isC T.z_isinstance T.c_NotYet.mg h T.c_OnRoad.cl T.i_OnRoad T.j_OnRoad_NotYet hg hg2 (by decide) hs hs2 hpl
  | home _ => exact px_isC T.z_isinstance T.c_NotYet.mg h T.c_AtHome.cl T.i_AtHome T.j_AtHome_NotYet hg hg2 (by decide) hs hs2 hpl
theorem px_isAt {s : Sp} {p2 : Pos} (T : Top X.K X.mg c) (h : Px X e1 g l (spD c s)) (hg : Gl X "isinstance" := by rfl) (hg2 : Gl X "AtHouse" := by rfl) (hs : starEach [e1, .Name "AtHouse" p2] X.env = (false, eval e1 X.env) :: starEach [.Name "AtHouse" p2] X.env := by rfl) (hs2 : starEach [.Name "AtHouse" p2] X.env = [(false, eval (.Name "AtHouse" p2) X.env)] := by rfl) (hpl : (backTo pos (starEach [.Name "AtHouse" p2] X.env)).any (·.1) = false := by rfl) :
    Px X (.Call (.Name "isinstance" p) [e1, .Name "AtHouse" p2] [] pos) g l (.bl s.isAt) := by
  cases s with
  | no => exact px_isC T.z_isinstance T.c_AtHouse.mg h T.c_NotYet.cl T.i_NotYet T.j_NotYet_AtHouse hg hg2 (by decide) hs hs2 hpl
  | «at» _ _ => exact px_isC T.z_isinstance T.c_AtHouse.mg h T.c_AtHouse.cl T.i_AtHouse T.j_AtHouse_AtHouse hg hg2 (by decide) hs hs2 hpl
  | on _ _ => exact px_isC T.z_isinstance T.c_AtHouse.mg h T.c_OnRoad.cl T.i_OnRoad T.j_OnRoad_AtHouse hg hg2 (by decide) hs hs2 hpl
  | home _ => exact px_isC T.z_isinstance T.c_AtHouse.mg h T.c_AtHome.cl T.i_AtHome T.j_AtHome_AtHouse hg hg2 (by decide) hs hs2 hpl
theorem px_isOn {s : Sp} {p2 : Pos} (T : Top X.K X.mg c) (h : Px X e1 g l (spD c s)) (hg : Gl X "isinstance" := by rfl) (hg2 : Gl X "OnRoad" := by rfl) (hs : starEach [e1, .Name "OnRoad" p2] X.env = (false, eval e1 X.env) :: starEach [.Name "OnRoad" p2] X.env := by rfl) (hs2 : starEach [.Name "OnRoad" p2] X.env = [(false, eval (.Name "OnRoad" p2) X.env)] := by rfl) (hpl : (backTo pos (starEach [.Name "OnRoad" p2] X.env)).any (·.1) = false := by rfl) :
    Px X (.Call (.Name "isinstance" p) [e1, .Name "OnRoad" p2] [] pos) g l (.bl s.isOn) := by
  cases s with
  | no => exact px_isC T.z_isinstance T.c_OnRoad.mg h T.c_NotYet.cl T.i_NotYet T.j_NotYet_OnRoad hg hg2 (by decide) hs hs2 hpl
  | «at» _ _ => exact px_isC T.z_isinstance T.c_OnRoad.mg h T.c_AtHouse.cl T.i_AtHouse T.j_AtHouse_OnRoad hg hg2 (by decide) hs hs2 hpl
  | on _ _ => exact px_isC T.z_isinstance T.c_OnRoad.mg h T.c_OnRoad.cl T.i_OnRoad T.j_OnRoad_OnRoad hg hg2 (by decide) hs hs2 hpl
  | home _ => exact px_isC T.z_isinstance T.c_OnRoad.mg h T.c_AtHome.cl T.i_AtHome T.j_AtHome_OnRoad hg hg2 (by decide) hs hs2 hpl
theorem px_sp_h {s : Sp} {o : Expr} (T : Top X.K X.mg c) (h : Px X o g l (spD c s)) (hk : s.isAt = true) (hb : attributeBase o "at" X.env (eval o X.env) = eval o X.env := by rfl) : Px X (.Attribute o "at" pos) g l (.str s.h) := by
  cases s with
  | «at» _ _ => exact px_fld h T.c_AtHouse.cl T.n_AtHouse_at look_hd hb
  | _ => cases hk
theorem px_sp_r {s : Sp} {o : Expr} (T : Top X.K X.mg c) (h : Px X o g l (spD c s)) (hk : s.isOn = true) (hb : attributeBase o "by" X.env (eval o X.env) = eval o X.env := by rfl) : Px X (.Attribute o "by" pos) g l (.int s.r) := by
  cases s with
  | on _ _ => exact px_fld h T.c_OnRoad.cl T.n_OnRoad_by look_hd hb
  | _ => cases hk
theorem px_sp_due {s : Sp} {o : Expr} (T : Top X.K X.mg c) (h : Px X o g l (spD c s)) (hk : s.isOn = true) (hb : attributeBase o "due" X.env (eval o X.env) = eval o X.env := by rfl) : Px X (.Attribute o "due" pos) g l (.int s.t) := by
  cases s with
  | on _ _ => exact px_fld h T.c_OnRoad.cl T.n_OnRoad_due (look_tl look_hd) hb
  | _ => cases hk
end
end

end Lw
set_option Elab.async false
set_option linter.all false
set_option maxRecDepth 100000
set_option maxHeartbeats 4000000
namespace Lw
open PySem L2 Sx
/-! a bag, of a thing of any kind -/
def toBag (d : D) : Int × Int × List Int := ((d.ix 0).toI, (d.ix 1).toI, (d.ix 2).els.map D.toI)

end Lw
set_option Elab.async false
set_option linter.all false
set_option maxRecDepth 100000
set_option maxHeartbeats 4000000
namespace Lw
open PySem L2 Sx
inductive Exn where
  | BadBag (place : Int) (reason : Str)
  | NoNet
  | NoRoad
  deriving DecidableEq
def Exn.is_BadBag : Exn → Bool
  | .BadBag _ _ => true
  | .NoNet => false
  | .NoRoad => false
def Exn.is_CutOff : Exn → Bool
  | .BadBag _ _ => false
  | .NoNet => false
  | .NoRoad => false
def Exn.is_ManyGoals : Exn → Bool
  | .BadBag _ _ => false
  | .NoNet => false
  | .NoRoad => false
def Exn.is_NoHouse : Exn → Bool
  | .BadBag _ _ => false
  | .NoNet => false
  | .NoRoad => false
def Exn.is_NoLetter : Exn → Bool
  | .BadBag _ _ => false
  | .NoNet => false
  | .NoRoad => false
def Exn.is_NoNet : Exn → Bool
  | .BadBag _ _ => false
  | .NoNet => true
  | .NoRoad => false
def Exn.is_NoRoad : Exn → Bool
  | .BadBag _ _ => false
  | .NoNet => false
  | .NoRoad => true
def Exn.is_NoWay : Exn → Bool
  | .BadBag _ _ => false
  | .NoNet => false
  | .NoRoad => false
def Exn.is_RoadError : Exn → Bool
  | .BadBag _ _ => true
  | .NoNet => true
  | .NoRoad => true
def Exn.place : Exn → Int
  | .BadBag place _ => place
  | _ => 0
def Exn.has_place : Exn → Bool
  | .BadBag _ _ => true
  | _ => false
def Exn.reason : Exn → Str
  | .BadBag _ reason => reason
  | _ => ""
def Exn.has_reason : Exn → Bool
  | .BadBag _ _ => true
  | _ => false

def Net_road_m (self : List Str × List Road) (number : Int) : Road :=
  (self.2.getD (number).toNat ("", "", 0, 0))

def Net_houses_m (self : List Str × List Road) : List Str :=
  self.1

def later_m (net : List Str × List Road) (letter : Letter) (spot : Sp) (turn : Int) : Sp :=
  cond (spot.isNo && (decide (letter.2.1 ≤ turn))) (
    (Sp.at letter.1 letter.2.1)) (
  cond (spot.isOn && (decide (spot.t ≤ turn))) (
    lt ((Net_road_m net spot.r).2.1) fun house : Str =>
    cond (decide (house = letter.2.2)) (
      (Sp.home spot.t)) (
    (Sp.at house spot.t))) (
  spot))

def is_number_m (thing : Int) : Bool :=
  (true && (!false))

def is_bag_m (thing : Int × Int × List Int) : Bool :=
  cond ((!true) || (!decide (3 = 3))) (
    false) (
  cond ((!(is_number_m thing.1)) || ((!(is_number_m thing.2.1)) || (!true))) (
    false) (
  ((!decide (thing.2.2 = [])) && ((thing.2.2.map (fun z1 : Int => (is_number_m z1))).all id))))

def Walk_init_o_m (net : List Str × List Road) (letters : List Letter) : ((List Str × List Road) × List Letter × List Sp × (Option (Int × Int))) :=
  lt net fun net_2 : List Str × List Road =>
  lt letters fun posted : List Letter =>
  lt (letters.map (fun z1 : Letter => Sp.no)) fun stood : List Sp =>
  lt none fun last : Option (Int × Int) =>
  (net_2, posted, stood, last)

def Walk_lies_at_m (self : (List Str × List Road) × List Letter × List Sp × (Option (Int × Int))) (number : Int) (house : Str) (turn : Int) : Bool :=
  lt (later_m self.1 (self.2.1.getD (number).toNat ("", 0, "")) (self.2.2.1.getD (number).toNat .no) turn) fun spot : Sp =>
  (spot.isAt && (decide (spot.h = house)))

def Walk_are_letters_m (self : (List Str × List Road) × List Letter × List Sp × (Option (Int × Int))) (numbers : List Int) : Bool :=
  lt (-1) fun ahead : Int =>
  bndV (loop (fun (s1 : Int) (x1 : Int) =>
    cond ((decide (x1 ≤ s1)) || (decide ((self.2.1.length : Int) ≤ x1))) (
      .rt false) (
    lt x1 fun ahead_2 : Int =>
    .nx ahead_2)) numbers ahead) fun s1 : Int =>
  true

def Walk_amiss_m (self : (List Str × List Road) × List Letter × List Sp × (Option (Int × Int))) (bag : Int × Int × List Int) : Option Str :=
  cond (!(is_bag_m bag)) (
    (some "bag")) (
  cond ((!self.2.2.2.isNone) && (leII (bag.1, bag.2.1) (self.2.2.2.getD (0, 0)))) (
    (some "order")) (
  lt self.1.2 fun lines : List Road =>
  cond (!((decide (0 ≤ bag.2.1)) && (decide (bag.2.1 < (lines.length : Int))))) (
    (some "road")) (
  cond (decide ((lines.getD (bag.2.1).toNat ("", "", 0, 0)).2.2.2 < (bag.2.2.length : Int))) (
    (some "room")) (
  cond (!(Walk_are_letters_m self bag.2.2)) (
    (some "letter")) (
  cond (!((bag.2.2.map (fun z1 : Int => (Walk_lies_at_m self z1 ((lines.getD (bag.2.1).toNat ("", "", 0, 0)).1) bag.1))).all id)) (
    (some "there")) (
  none))))))

def Walk_send_m (self : (List Str × List Road) × List Letter × List Sp × (Option (Int × Int))) (bag : Int × Int × List Int) : ((List Str × List Road) × List Letter × List Sp × (Option (Int × Int))) :=
  lt (bag.2.2.foldl (fun (s1 : ((List Str × List Road) × List Letter × List Sp × (Option (Int × Int)))) (x1 : Int) =>
    lt (s1.2.2.1.set (x1).toNat (Sp.on bag.2.1 (bag.1 + (Net_road_m s1.1 bag.2.1).2.2.1))) fun stood : List Sp =>
    (s1.1, s1.2.1, stood, s1.2.2.2)) self) fun s1 : ((List Str × List Road) × List Letter × List Sp × (Option (Int × Int))) =>
  lt (some (bag.1, bag.2.1)) fun last : Option (Int × Int) =>
  (s1.1, s1.2.1, s1.2.2.1, last)

def stops_at_m (net : List Str × List Road) (letters : List Letter) (plan : List (Int × Int × List Int)) (turn : Option Int) : List Sp :=
  lt (Walk_init_o_m net letters) fun walk =>
  lt none fun kept : Option (List Sp) =>
  bndV (loop (fun (s1 : Option (List Sp) × ((List Str × List Road) × List Letter × List Sp × (Option (Int × Int)))) (x1 : Int × (Int × Int × List Int)) =>
    lt (Walk_amiss_m s1.2 x1.2) fun reason : Option Str =>
    lt (cond ((s1.1.isNone) && ((!turn.isNone) && (decide ((turn.getD 0) < x1.2.1)))) (
        lt (some s1.2.2.2.1) fun kept_2 : Option (List Sp) =>
        kept_2) (
        s1.1)) fun j2 : Option (List Sp) =>
    lt (Walk_send_m s1.2 x1.2) fun walk_2 =>
    .nx (j2, walk_2)) (enumI plan) (kept, walk)) fun s1 : Option (List Sp) × ((List Str × List Road) × List Letter × List Sp × (Option (Int × Int))) =>
  lt (cond (s1.1.isNone) (
      (some s1.2.2.2.1)) (
      s1.1)) fun j3 : Option (List Sp) =>
  (j3.getD ([]))

def arrivals_m (net : List Str × List Road) (letters : List Letter) (plan : List (Int × Int × List Int)) : List (Option Int) :=
  lt ([] : List (Option Int)) fun found =>
  lt ((letters.zip (stops_at_m net letters plan none)).foldl (fun (s1 : List (Option Int)) (x1 : Letter × Sp) =>
    cond (x1.2.isOn && (decide ((Net_road_m net x1.2.r).2.1 = x1.1.2.2))) (
      lt (s1 ++ [(some x1.2.t)]) fun found_2 =>
      found_2) (
      lt (s1 ++ [none]) fun found_3 =>
      found_3)) found) fun s1 : List (Option Int) =>
  s1

def spots_at_m (net : List Str × List Road) (letters : List Letter) (plan : List (Int × Int × List Int)) (turn : Int) : List Sp :=
  lt (stops_at_m net letters plan (some turn)) fun left : List Sp =>
  ((letters.zip left).map (fun z1 : Letter × Sp => (later_m net z1.1 z1.2 turn)))

def law_legs_m (lines : List Road) (letters : List Letter) (cells : List Int) (hops : Int) : List (List (Int × Int × Int × Str)) :=
  lt ([] : List ((Int × Int) × Int)) fun load =>
  lt ([] : List (List (Int × Int × Int × Str))) fun legs =>
  lt ((enumI letters).foldl (fun (s1 : (List ((Int × Int) × Int)) × (List (List (Int × Int × Int × Str)))) (x1 : Int × Letter) =>
    lt ((((cells.getD ((x1.1 % (cells.length : Int))).toNat 0) * 48271) % 2147483647) + x1.1) fun cell : Int =>
    lt x1.2.1 fun at_2 : Str =>
    lt x1.2.2.1 fun ready : Int =>
    lt ([] : List (Int × Int × Int × Str)) fun mine =>
    lt ((rngI 0 ((cell % (hops + 1)) : Int).toNat).foldl (fun (s2 : Int × Int × (List ((Int × Int) × Int)) × (List (Int × Int × Int × Str)) × Str) (x2 : Int) =>
      lt ((s2.1 * 48271) % 2147483647) fun cell_2 : Int =>
      lt (((rngI 0 ((lines.length : Int) : Int).toNat).filter (fun z1 : Int => (decide ((lines.getD (z1).toNat ("", "", 0, 0)).1 = s2.2.2.2.2)))).map (fun z1 : Int => z1)) fun outs : List Int =>
      cond ((!(decide (outs = []))) && (!decide (s2.2.2.2.2 = x1.2.2.2))) (
        lt (outs.getD ((cell_2 % (outs.length : Int))).toNat 0) fun road : Int =>
        lt (s2.2.1 + ((cell_2 / 64) % 4)) fun ready_2 : Int =>
        lt (whileF (fun w1 : Int => (decide ((lines.getD (road).toNat ("", "", 0, 0)).2.2.2 ≤ ((aget s2.2.2.1 (w1, road)).getD 0)))) (fun w1 : Int =>
          lt (w1 + 1) fun ready_3 : Int =>
          ready_3) 200 ready_2) fun w1 : Int =>
        lt (aput s2.2.2.1 (w1, road) (((aget s2.2.2.1 (w1, road)).getD 0) + 1)) fun load_2 =>
        lt (s2.2.2.2.1 ++ [(w1, road, (w1 + (lines.getD (road).toNat ("", "", 0, 0)).2.2.1), (lines.getD (road).toNat ("", "", 0, 0)).2.1)]) fun mine_2 =>
        lt ((lines.getD (road).toNat ("", "", 0, 0)).2.1) fun at_3 : Str =>
        lt (w1 + (lines.getD (road).toNat ("", "", 0, 0)).2.2.1) fun ready_4 : Int =>
        (cell_2, ready_4, load_2, mine_2, at_3)) (
        (cell_2, s2.2.1, s2.2.2.1, s2.2.2.2.1, s2.2.2.2.2))) (cell, ready, s1.1, mine, at_2)) fun s2 : Int × Int × (List ((Int × Int) × Int)) × (List (Int × Int × Int × Str)) × Str =>
    lt (s1.2 ++ [s2.2.2.2.1]) fun legs_2 =>
    (s2.2.2.1, legs_2)) (load, legs)) fun s1 : (List ((Int × Int) × Int)) × (List (List (Int × Int × Int × Str))) =>
  s1.2

def law_plan_m (legs : List (List (Int × Int × Int × Str))) : List (Int × Int × List Int) :=
  lt ([] : List ((Int × Int) × List Int)) fun bags =>
  lt ((enumI legs).foldl (fun (s1 : (List ((Int × Int) × List Int))) (x1 : Int × (List (Int × Int × Int × Str))) =>
    lt (x1.2.foldl (fun (s2 : (List ((Int × Int) × List Int))) (x2 : Int × Int × Int × Str) =>
      lt (alapp s2 (x2.1, x2.2.1) x1.1) fun bags_2 =>
      bags_2) s1) fun s2 : (List ((Int × Int) × List Int)) =>
    s2) bags) fun s1 : (List ((Int × Int) × List Int)) =>
  ((sortK kII (s1.map (·.1))).map (fun z1 : Int × Int => (z1.1, z1.2, ((aget s1 z1).getD ([])))))

def is_number_x_m (thing : D) : Bool :=
  ((thing.is .int) && (!(thing.is .bool)))

def is_bag_x_m (thing : D) : Bool :=
  cond ((!(thing.is .tuple)) || (!decide ((thing.els.length : Int) = 3))) (
    false) (
  cond ((!(is_number_x_m (thing.ix 0))) || ((!(is_number_x_m (thing.ix 1))) || (!((thing.ix 2).is .tuple)))) (
    false) (
  ((!(D.eq (thing.ix 2) ((tlE D.int) ([])))) && (((thing.ix 2).els.map (fun z1 : D => (is_number_x_m z1))).all id))))

def Walk_amiss_x_m (self : (List Str × List Road) × List Letter × List Sp × (Option (Int × Int))) (bag : D) : Option Str :=
  cond (!(is_bag_x_m bag)) (
    (some "bag")) (
  cond ((!self.2.2.2.isNone) && (leII ((toBag bag).1, (toBag bag).2.1) (self.2.2.2.getD (0, 0)))) (
    (some "order")) (
  lt self.1.2 fun lines : List Road =>
  cond (!((decide (0 ≤ (toBag bag).2.1)) && (decide ((toBag bag).2.1 < (lines.length : Int))))) (
    (some "road")) (
  cond (decide ((lines.getD ((toBag bag).2.1).toNat ("", "", 0, 0)).2.2.2 < (((toBag bag).2.2).length : Int))) (
    (some "room")) (
  cond (!(Walk_are_letters_m self ((toBag bag).2.2))) (
    (some "letter")) (
  cond (!((((toBag bag).2.2).map (fun z1 : Int => (Walk_lies_at_m self z1 ((lines.getD ((toBag bag).2.1).toNat ("", "", 0, 0)).1) ((toBag bag).1)))).all id)) (
    (some "there")) (
  none))))))

def stops_at_x_m (net : List Str × List Road) (letters : List Letter) (plan : List D) (turn : Option Int) : Except Exn (List Sp) :=
  lt (Walk_init_o_m net letters) fun walk =>
  lt none fun kept : Option (List Sp) =>
  bndV (loop (fun (s1 : Option (List Sp) × ((List Str × List Road) × List Letter × List Sp × (Option (Int × Int)))) (x1 : Int × D) =>
    lt (Walk_amiss_x_m s1.2 x1.2) fun reason : Option Str =>
    cond (!reason.isNone) (
      .rt (.error (Exn.BadBag x1.1 (reason.getD "")))) (
    lt (cond ((s1.1.isNone) && ((!turn.isNone) && (decide ((turn.getD 0) < (toBag x1.2).1)))) (
        lt (some s1.2.2.2.1) fun kept_2 : Option (List Sp) =>
        kept_2) (
        s1.1)) fun j2 : Option (List Sp) =>
    lt (Walk_send_m s1.2 (toBag x1.2)) fun walk_2 =>
    .nx (j2, walk_2))) (enumI plan) (kept, walk)) fun s1 : Option (List Sp) × ((List Str × List Road) × List Letter × List Sp × (Option (Int × Int))) =>
  lt (cond (s1.1.isNone) (
      (some s1.2.2.2.1)) (
      s1.1)) fun j3 : Option (List Sp) =>
  .ok (j3.getD ([]))

def arrivals_x_m (net : List Str × List Road) (letters : List Letter) (plan : List D) : Except Exn (List (Option Int)) :=
  lt ([] : List (Option Int)) fun found =>
  xb (stops_at_x_m net letters plan none) (fun v1 =>
    lt ((letters.zip v1).foldl (fun (s1 : List (Option Int)) (x1 : Letter × Sp) =>
      cond (x1.2.isOn && (decide ((Net_road_m net x1.2.r).2.1 = x1.1.2.2))) (
        lt (s1 ++ [(some x1.2.t)]) fun found_2 =>
        found_2) (
        lt (s1 ++ [none]) fun found_3 =>
        found_3)) found) fun s1 : List (Option Int) =>
    .ok s1) (fun e1 => .error e1)

def spots_at_x_m (net : List Str × List Road) (letters : List Letter) (plan : List D) (turn : Int) : Except Exn (List Sp) :=
  xb (stops_at_x_m net letters plan (some turn)) (fun v1 =>
    lt v1 fun left : List Sp =>
    .ok ((letters.zip left).map (fun z1 : Letter × Sp => (later_m net z1.1 z1.2 turn)))) (fun e1 => .error e1)

def law_whole_m (thing : D) : Bool :=
  ((thing.is .int) && (!(thing.is .bool)))

def law_is_bag_m (bag : D) : Bool :=
  cond ((!(bag.is .tuple)) || ((!decide ((bag.els.length : Int) = 3)) || ((!((bag.ix 2).is .tuple)) || (D.eq (bag.ix 2) ((tlE D.int) ([])))))) (
    false) (
  ((law_whole_m (bag.ix 0)) && ((law_whole_m (bag.ix 1)) && (((bag.ix 2).els.map (fun z1 : D => (law_whole_m z1))).all id))))

def law_lies_m (letters : List Letter) (lines : List Road) (ahead : List (Int × Int × List Int)) (number : Int) (house : Str) (turn : Int) : Bool :=
  lt (letters.getD (number).toNat ("", 0, "")) fun letter : Letter =>
  lt (letter.1, letter.2.1) fun here : Str × Int =>
  bndV (loop (fun (s1 : (Str × Int)) (x1 : Int × Int × List Int) =>
    cond (decide (number ∈ x1.2.2)) (
      lt ((lines.getD (x1.2.1).toNat ("", "", 0, 0)).2.1, (x1.1 + (lines.getD (x1.2.1).toNat ("", "", 0, 0)).2.2.1)) fun here_2 : Str × Int =>
      cond (decide (here_2.1 = letter.2.2)) (
        .rt false) (
        .nx here_2)) (
      .nx s1)) ahead here) fun s1 : (Str × Int) =>
  ((decide (s1.1 = house)) && (decide (s1.2 ≤ turn)))

def law_reason_m (letters : List Letter) (lines : List Road) (ahead : List (Int × Int × List Int)) (bag : D) : Str :=
  cond (!(law_is_bag_m bag)) (
    "bag") (
  bndV (loop (fun (s1 : Unit) (x1 : Int × Int × List Int) =>
    cond (leII ((toBag bag).1, (toBag bag).2.1) (x1.1, x1.2.1)) (
      .rt "order") (
      .nx ())) (cut ahead (some (-1)) none) ()) fun s1 : Unit =>
  cond ((decide ((toBag bag).2.1 < 0)) || (decide ((lines.length : Int) ≤ (toBag bag).2.1))) (
    "road") (
  cond (decide ((lines.getD ((toBag bag).2.1).toNat ("", "", 0, 0)).2.2.2 < (((toBag bag).2.2).length : Int))) (
    "room") (
  bndV (loop (fun (s2 : Unit) (x2 : Int × Int) =>
    cond ((decide (x2.2 < 0)) || ((decide ((letters.length : Int) ≤ x2.2)) || ((decide (0 < x2.1)) && (decide (x2.2 ≤ (((toBag bag).2.2).getD ((x2.1 - 1)).toNat 0)))))) (
      .rt "letter") (
      .nx ())) (enumI ((toBag bag).2.2)) ()) fun s2 : Unit =>
  bndV (loop (fun (s3 : Unit) (x3 : Int) =>
    cond (!(law_lies_m letters lines ahead x3 ((lines.getD ((toBag bag).2.1).toNat ("", "", 0, 0)).1) ((toBag bag).1))) (
      .rt "there") (
      .nx ())) ((toBag bag).2.2) ()) fun s3 : Unit =>
  "")))

def law_odd_m (bag : Int × Int × List Int) (letters : List Letter) (lines : List Road) (cell : Int) : D :=
  lt ((cell / 20) % 1000000000) fun far : Int =>
  lt ([D.non, (D.int bag.1), (D.str "bag"), D.lst [(D.int bag.1), (D.int bag.2.1), ((tlE D.int) bag.2.2)], D.tup [(D.int bag.1), (D.int bag.2.1)], D.tup [(D.int bag.1), (D.int bag.2.1), ((tlE D.int) bag.2.2), (D.int 0)], D.tup [(D.int bag.1), (D.int bag.2.1), ((tlE D.int) ([]))]]) fun some_2 : List D =>
  lt (some_2 ++ [D.tup [(D.int bag.1), (D.str (toString bag.2.1 : Str)), ((tlE D.int) bag.2.2)], D.tup [(D.bl true), (D.int bag.2.1), ((tlE D.int) bag.2.2)], D.tup [(D.int bag.1), (D.int bag.2.1), D.tup [D.non]]]) fun some_3 : List D =>
  lt (some_3 ++ (([(bag.1, bag.2.1, bag.2.2)] : List (Int × Int × List Int)).map (fun x : Int × Int × List Int => D.tup [(D.int x.1), (D.int x.2.1), ((lstE D.int) x.2.2)]))) fun some_4 : List D =>
  lt (some_4 ++ (([(bag.1, ((lines.length : Int) + far), bag.2.2), (bag.1, ((-1) - far), bag.2.2)] : List (Int × Int × List Int)).map (fun x : Int × Int × List Int => D.tup [(D.int x.1), (D.int x.2.1), ((tlE D.int) x.2.2)]))) fun some_5 : List D =>
  lt (some_5 ++ [D.tup [(D.int bag.1), (D.int bag.2.1), ((tlE D.int) (rngI 0 (((min ((lines.getD (bag.2.1).toNat ("", "", 0, 0)).2.2.2) 40) + 1) : Int).toNat))], D.tup [(D.int bag.1), (D.int bag.2.1), D.tup [(D.int ((letters.length : Int) + far))]]]) fun some_6 : List D =>
  lt (some_6 ++ [D.tup [(D.int bag.1), (D.int bag.2.1), D.tup [(D.int ((-1) - far))]], D.tup [(D.int bag.1), (D.int bag.2.1), D.tup [(D.int (bag.2.2.getD (0 : Int).toNat 0)), (D.int (bag.2.2.getD (0 : Int).toNat 0))]]]) fun some_7 : List D =>
  lt (some_7 ++ [D.tup [(D.int ((bag.1 - 1) - (far % 40))), (D.int bag.2.1), ((tlE D.int) bag.2.2)], D.tup [(D.int bag.1), (D.int bag.2.1), D.tup [(D.int (far % (letters.length : Int)))]]]) fun some_8 : List D =>
  ((some_8 ++ (([(bag.1, (far % (lines.length : Int)), bag.2.2)] : List (Int × Int × List Int)).map (fun x : Int × Int × List Int => D.tup [(D.int x.1), (D.int x.2.1), ((tlE D.int) x.2.2)]))).getD ((cell % 20)).toNat D.non)

def law_refusal_m (error : Option Exn) : D :=
  cond ((!(error.any Exn.is_RoadError)) || (!(error.any fun _ => true))) (
    (D.str "none")) (
  lt ((error.any Exn.is_NoNet) || ((error.any Exn.is_NoHouse) || (error.any Exn.is_NoRoad))) fun one : Bool =>
  lt ((error.any Exn.is_NoLetter) || ((error.any Exn.is_NoWay) || (error.any Exn.is_ManyGoals))) fun other : Bool =>
  cond (one || (other || ((error.any Exn.is_CutOff) || (!(law_whole_m (D.int (error.elim 0 Exn.place))))))) (
    (D.str "others")) (
  (D.tup [(D.int (error.elim 0 Exn.place)), (D.str (error.elim "" Exn.reason))])))

def law_both_m (net : List Str × List Road) (letters : List Letter) (plan : List D) (turn : Int) : List D :=
  lt none fun kept : Option Exn =>
  lt none fun again : Option Exn =>
  bndV (tryN (
      xb (arrivals_x_m net letters plan) (fun v1 =>
        .nx kept) (fun e1 => .rt (.error e1))) (fun e : Exn => (some e))) fun t1 : Option Exn =>
  bndV (tryN (
      xb (spots_at_x_m net letters plan turn) (fun v2 =>
        .nx again) (fun e2 => .rt (.error e2))) (fun e : Exn => (some e))) fun t2 : Option Exn =>
  [(law_refusal_m t1), (law_refusal_m t2)]

def law_m (script : List Int) : Bool :=
  lt (housesB (cellAt script 0) ((2 + ((cellAt script 1) % 11)) : Int).toNat) fun names : List Str =>
  lt (1 + ((cellAt script 2) % (1000000000 - 30))) fun base_2 : Int =>
  lt ((pickN script (places script.length (some 3) (some 35) (some 2))).map (fun z1 : Int => (roadB names z1))) fun lines : List Road =>
  lt ((pickN script (places script.length (some 4) (some 36) (some 2))).map (fun z2 : Int => (letterB names base_2 z2))) fun letters : List Letter =>
  lt (names, lines) fun net : List Str × List Road =>
  lt (law_plan_m (law_legs_m lines letters script 3)) fun plan : List (Int × Int × List Int) =>
  cond (decide (plan = [])) (
    ((D.eq (D.lst ((law_both_m net letters ([D.non]) base_2).map (fun x : D => x))) (D.lst (([(0, "bag"), (0, "bag")] : List (Int × Str)).map (fun x : Int × Str => D.tup [(D.int x.1), (D.str x.2)])))) && (decide ((arrivals_m net ([]) ([])) = [])))) (
  bndV (loop (fun (s1 : Unit) (x1 : Int) =>
    lt ((((cellAt script (x1 + 1)) * 48271) % 2147483647) + ((cellAt script 0) % 2147483647)) fun cell : Int =>
    lt (cell % (plan.length : Int)) fun at_2 : Int =>
    lt (plan.getD (at_2).toNat (0, 0, [])) fun bag : Int × Int × List Int =>
    lt (cond (decide (((cell / 64) % 7) = 0)) (
        lt (D.tup [(D.int ((plan.getD ((max 0 (at_2 - 1))).toNat (0, 0, [])).1)), (D.int ((plan.getD ((max 0 (at_2 - 1))).toNat (0, 0, [])).2.1)), ((tlE D.int) ((plan.getD ((max 0 (at_2 - 1))).toNat (0, 0, [])).2.2))]) fun bag_2 : D =>
        bag_2) (
        lt (law_odd_m bag letters lines (cell / 448)) fun bag_3 : D =>
        bag_3)) fun j2 : D =>
    lt ((((cut plan none (some at_2)).map (fun x : Int × Int × List Int => D.tup [(D.int x.1), (D.int x.2.1), ((tlE D.int) x.2.2)])) ++ [j2]) ++ ((cut plan (some (at_2 + ((cell / 448) % 2))) none).map (fun x : Int × Int × List Int => D.tup [(D.int x.1), (D.int x.2.1), ((tlE D.int) x.2.2)]))) fun spoiled : List D =>
    lt (law_reason_m letters lines (cut plan none (some at_2)) j2) fun due : Str =>
    lt (law_both_m net letters spoiled (cell % 2000000000)) fun told : List D =>
    cond ((!decide (due = "")) && (!(D.eq (D.lst (told.map (fun x : D => x))) (D.lst (([(at_2, due), (at_2, due)] : List (Int × Str)).map (fun x : Int × Str => D.tup [(D.int x.1), (D.str x.2)])))))) (
      .rt false) (
      .nx ())) (rngI 0 (3 : Int).toNat) ()) fun s1 : Unit =>
  lt (arrivals_m net letters plan) fun turns : List (Option Int) =>
  (true && (decide ((turns.length : Int) = (letters.length : Int)))))

end Lw
set_option Elab.async false
set_option linter.all false
set_option maxRecDepth 100000
set_option maxHeartbeats 4000000
namespace Lw
open PySem L2 Sx
/-! ### plain: a plan on its way -/
abbrev NetW := List Str × List Road
abbrev WalkW := NetW × List Letter × List Sp × Option (Int × Int)
abbrev BagT := Int × Int × List Int
structure OkWk (s : WalkW) : Prop where
  l : s.2.2.1.length = s.2.1.length
  r : ∀ x ∈ s.2.2.1, x.isOn = true → 0 ≤ x.r ∧ x.r < (s.1.2.length : Int)
theorem okwk_init {net : NetW} {letters : List Letter} : OkWk (Walk_init_o_m net letters) := by
  have e : Walk_init_o_m net letters = (net, letters, letters.map (fun z1 : Letter => Sp.no), none) := rfl
  rw [e]
  refine ⟨List.length_map .., fun x hx h => ?_⟩
  obtain ⟨_, _, rfl⟩ := List.mem_map.mp hx
  cases h
def alstep (n : Int) (s1 x1 : Int) : Cf Bool Int Int :=
    cond ((decide (x1 ≤ s1)) || (decide (n ≤ x1))) (
      .rt false) (
    lt x1 fun ahead_2 : Int =>
    .nx ahead_2)
theorem loop_nx {α Rr Ll Ss : Type} {step : Ss → α → Cf Rr Ss Ss} {x : α} {xs : List α} {s s' : Ss} (h : step s x = .nx s') : (loop step (x :: xs) s : Cf Rr Ll Ss) = loop step xs s' := by
  conv => lhs; unfold loop
  rw [h]
theorem loop_rt {α Rr Ll Ss : Type} {step : Ss → α → Cf Rr Ss Ss} {x : α} {xs : List α} {s : Ss} {r : Rr} (h : step s x = .rt r) : (loop step (x :: xs) s : Cf Rr Ll Ss) = .rt r := by
  conv => lhs; unfold loop
  rw [h]
theorem al_rng {n : Int} : ∀ (ns : List Int) (a : Int) , (bndV (loop (alstep n) ns a) (fun _ => true) : Bool) = true ↔ (∀ x ∈ ns, a < x ∧ x < n) ∧ ns.Pairwise (· < ·)
  | [], a => ⟨fun _ => ⟨(fun _ h => by cases h), .nil⟩, fun _ => rfl⟩
  | x :: ns, a => by
    by_cases h1 : x ≤ a
    · have e : alstep n a x = .rt false := by unfold alstep; rw [decide_eq_true h1]; rfl
      constructor
      · intro h
        rw [loop_rt e] at h
        cases h
      · intro ⟨h, _⟩
        have := (h x List.mem_cons_self).1
        omega
    · by_cases h2 : n ≤ x
      · have e : alstep n a x = .rt false := by unfold alstep; rw [decide_eq_true h2, Bool.or_true]; rfl
        constructor
        · intro h
          rw [loop_rt e] at h
          cases h
        · intro ⟨h, _⟩
          have := (h x List.mem_cons_self).2
          omega
      · have e : alstep n a x = .nx x := by unfold alstep; rw [decide_eq_false h1, decide_eq_false h2]; rfl
        rw [loop_nx e, al_rng ns x]
        constructor
        · intro ⟨h, p⟩
          refine ⟨fun y hy => ?_, List.pairwise_cons.mpr ⟨fun y hy => (h y hy).1, p⟩⟩
          rcases List.mem_cons.mp hy with q | q
          · subst q; omega
          · have := h y q; omega
        · intro ⟨h, p⟩
          have pc := List.pairwise_cons.mp p
          exact ⟨fun y hy => ⟨pc.1 y hy, (h y (List.mem_cons_of_mem _ hy)).2⟩, pc.2⟩
theorem are_letters_iff {s : WalkW} {ns : List Int} : Walk_are_letters_m s ns = true ↔ (∀ x ∈ ns, 0 ≤ x ∧ x < (s.2.1.length : Int)) ∧ ns.Pairwise (· < ·) := by
  have e : Walk_are_letters_m s ns = bndV (loop (alstep (s.2.1.length : Int)) ns (-1)) (fun _ => true) := rfl
  rw [e, al_rng]
  constructor
  · exact fun ⟨h, p⟩ => ⟨fun x hx => by have := h x hx; omega, p⟩
  · exact fun ⟨h, p⟩ => ⟨fun x hx => by have := h x hx; omega, p⟩
/-- nothing amiss -/
structure Fine (s : WalkW) (b : BagT) : Prop where
  ne : b.2.2 ≠ []
  ord : ∀ t, s.2.2.2 = some t → leII (b.1, b.2.1) t = false
  r : 0 ≤ b.2.1 ∧ b.2.1 < (s.1.2.length : Int)
  le : (b.2.2.length : Int) ≤ (Net_road_m s.1 b.2.1).2.2.2
  n : ∀ x ∈ b.2.2, 0 ≤ x ∧ x < (s.2.1.length : Int)
  up : b.2.2.Pairwise (· < ·)
  lies : ∀ x ∈ b.2.2, Walk_lies_at_m s x (Net_road_m s.1 b.2.1).1 b.1 = true
theorem is_bag_iff {b : BagT} : is_bag_m b = true ↔ b.2.2 ≠ [] := by
  have e : is_bag_m b = ((!decide (b.2.2 = [])) && ((b.2.2.map (fun z1 : Int => (is_number_m z1))).all id)) := rfl
  have h2 : ((b.2.2.map (fun z1 : Int => (is_number_m z1))).all id) = true := by
    rw [List.all_map, List.all_eq_true]; exact fun _ _ => rfl
  rw [e, h2, Bool.and_true]
  simp
theorem amiss_none {s : WalkW} {b : BagT} : Walk_amiss_m s b = none ↔ Fine s b := by
  have e : Walk_amiss_m s b = cond (!(is_bag_m b)) (some ("bag" : Str)) (
    cond ((!s.2.2.2.isNone) && (leII (b.1, b.2.1) (s.2.2.2.getD (0, 0)))) (some ("order" : Str)) (
    cond (!((decide (0 ≤ b.2.1)) && (decide (b.2.1 < (s.1.2.length : Int))))) (some ("road" : Str)) (
    cond (decide ((Net_road_m s.1 b.2.1).2.2.2 < (b.2.2.length : Int))) (some ("room" : Str)) (
    cond (!(Walk_are_letters_m s b.2.2)) (some ("letter" : Str)) (
    cond (!((b.2.2.map (fun z1 : Int => (Walk_lies_at_m s z1 (Net_road_m s.1 b.2.1).1 b.1))).all id)) (some ("there" : Str)) none))))) := rfl
  rw [e]
  constructor
  · intro h
    have nn : ∀ {c : Bool} {a : Str} {r : Option Str}, cond c (some a) r = none → c = false ∧ r = none := fun {c a r} h => by
      cases c with
      | true => cases h
      | false => exact ⟨rfl, h⟩
    obtain ⟨h1, h⟩ := nn h
    obtain ⟨h2, h⟩ := nn h
    obtain ⟨h3, h⟩ := nn h
    obtain ⟨h4, h⟩ := nn h
    obtain ⟨h5, h⟩ := nn h
    obtain ⟨h6, _⟩ := nn h
    have h1 := is_bag_iff.mp (by simpa using h1 : is_bag_m b = true)
    have h3 : 0 ≤ b.2.1 ∧ b.2.1 < (s.1.2.length : Int) := by simpa using h3
    have h4 := of_decide_eq_false h4
    obtain ⟨h5, h7⟩ := are_letters_iff.mp (by simpa using h5 : Walk_are_letters_m s b.2.2 = true)
    have h6 : ((b.2.2.map (fun z1 : Int => (Walk_lies_at_m s z1 (Net_road_m s.1 b.2.1).1 b.1))).all id) = true := by simpa using h6
    rw [List.all_map, List.all_eq_true] at h6
    refine ⟨h1, fun t ht => ?_, h3, by omega, h5, h7, h6⟩
    rw [ht] at h2
    simpa using h2
  · intro f
    have h1 := is_bag_iff.mpr f.ne
    have h2 : ((!s.2.2.2.isNone) && (leII (b.1, b.2.1) (s.2.2.2.getD (0, 0)))) = false := by
      cases q : s.2.2.2 with
      | none => rfl
      | some t => exact f.ord t q
    have h4 : ¬ (Net_road_m s.1 b.2.1).2.2.2 < (b.2.2.length : Int) := by have := f.le; omega
    have h5 := are_letters_iff.mpr ⟨f.n, f.up⟩
    have h6 : ((b.2.2.map (fun z1 : Int => (Walk_lies_at_m s z1 (Net_road_m s.1 b.2.1).1 b.1))).all id) = true := by
      rw [List.all_map, List.all_eq_true]; exact f.lies
    rw [h1, h2, decide_eq_true f.r.1, decide_eq_true f.r.2, decide_eq_false h4, h5, h6]
    rfl
def sdstep (r t : Int) (s1 : WalkW) (x1 : Int) : WalkW :=
    lt (s1.2.2.1.set (x1).toNat (Sp.on r (t + (Net_road_m s1.1 r).2.2.1))) fun stood : List Sp =>
    (s1.1, s1.2.1, stood, s1.2.2.2)
theorem send_eq {s : WalkW} {b : BagT} : Walk_send_m s b = (s.1, s.2.1, (b.2.2.foldl (fun st x => st.set x.toNat (Sp.on b.2.1 (b.1 + (Net_road_m s.1 b.2.1).2.2.1))) s.2.2.1), some (b.1, b.2.1)) := by
  have e : Walk_send_m s b = lt (b.2.2.foldl (sdstep b.2.1 b.1) s) fun s1 => (s1.1, s1.2.1, s1.2.2.1, some (b.1, b.2.1)) := rfl
  have key : ∀ (ns : List Int) (z : WalkW), ns.foldl (sdstep b.2.1 b.1) z = (z.1, z.2.1, ns.foldl (fun st x => st.set x.toNat (Sp.on b.2.1 (b.1 + (Net_road_m z.1 b.2.1).2.2.1))) z.2.2.1, z.2.2.2) := by
    intro ns
    induction ns with
    | nil => intro z; rfl
    | cons n ns ih => intro z; rw [List.foldl_cons, ih, List.foldl_cons]; rfl
  rw [e, key]
  rfl
theorem sets_len {v : Sp} : ∀ (ns : List Int) (st : List Sp), (ns.foldl (fun st x => st.set x.toNat v) st).length = st.length
  | [], _ => rfl
  | n :: ns, st => by rw [List.foldl_cons, sets_len ns, List.length_set]
theorem sets_mem {v x : Sp} : ∀ (ns : List Int) (st : List Sp), x ∈ ns.foldl (fun st x => st.set x.toNat v) st → x = v ∨ x ∈ st
  | [], _, h => .inr h
  | n :: ns, st, h => by
    rw [List.foldl_cons] at h
    rcases sets_mem ns _ h with q | q
    · exact .inl q
    · rcases List.mem_or_eq_of_mem_set q with z | z
      · exact .inr z
      · exact .inl z
theorem send_ok {s : WalkW} {b : BagT} (o : OkWk s) (f : Fine s b) : OkWk (Walk_send_m s b) := by
  rw [send_eq]
  refine ⟨?_, fun x hx h => ?_⟩
  · exact (sets_len _ _).trans o.l
  · rcases sets_mem _ _ hx with q | q
    · rw [q]; exact f.r
    · exact o.r x q h
/-- the walk behind so many bags -/
def wkAt (net : NetW) (letters : List Letter) (plan : List BagT) (i : Nat) : WalkW := (plan.take i).foldl Walk_send_m (Walk_init_o_m net letters)
structure PlanFine (net : NetW) (letters : List Letter) (plan : List BagT) : Prop where
  f : ∀ i b, plan[i]? = some b → Fine (wkAt net letters plan i) b
  z : ∀ b ∈ plan, b.2.2.length ≤ 10000
  l : letters.length ≤ 10000
theorem wkAt_succ {net : NetW} {letters : List Letter} {plan : List BagT} {i : Nat} {b : BagT} (h : plan[i]? = some b) : wkAt net letters plan (i + 1) = Walk_send_m (wkAt net letters plan i) b := by
  unfold wkAt
  rw [List.take_add_one, h, Option.toList_some, List.foldl_append]
  rfl
theorem wkAt_ok {net : NetW} {letters : List Letter} {plan : List BagT} (p : PlanFine net letters plan) : ∀ i, OkWk (wkAt net letters plan i)
  | 0 => okwk_init
  | i + 1 => by
    cases q : plan[i]? with
    | none =>
      have e : wkAt net letters plan (i + 1) = wkAt net letters plan i := by
        unfold wkAt
        rw [List.take_add_one, q, Option.toList_none, List.append_nil]
      rw [e]; exact wkAt_ok p i
    | some b => rw [wkAt_succ q]; exact send_ok (wkAt_ok p i) (p.f i b q)
theorem wkAt_net {net : NetW} {letters : List Letter} {plan : List BagT} : ∀ i, (wkAt net letters plan i).1 = net ∧ (wkAt net letters plan i).2.1 = letters
  | 0 => ⟨rfl, rfl⟩
  | i + 1 => by
    cases q : plan[i]? with
    | none =>
      have e : wkAt net letters plan (i + 1) = wkAt net letters plan i := by
        unfold wkAt
        rw [List.take_add_one, q, Option.toList_none, List.append_nil]
      rw [e]; exact wkAt_net i
    | some b => rw [wkAt_succ q, send_eq]; exact wkAt_net i
def ststep (turn : Option Int) (s1 : Option (List Sp) × WalkW) (x1 : Int × BagT) : Cf (List Sp) (Option (List Sp) × WalkW) (Option (List Sp) × WalkW) :=
    lt (Walk_amiss_m s1.2 x1.2) fun reason : Option Str =>
    lt (cond ((s1.1.isNone) && ((!turn.isNone) && (decide ((turn.getD 0) < x1.2.1)))) (
        lt (some s1.2.2.2.1) fun kept_2 : Option (List Sp) =>
        kept_2) (
        s1.1)) fun j2 : Option (List Sp) =>
    lt (Walk_send_m s1.2 x1.2) fun walk_2 =>
    .nx (j2, walk_2)
theorem st_loop {net : NetW} {letters : List Letter} {plan : List BagT} (turn : Option Int) (K : Nat → Option (List Sp)) (h0 : K 0 = none) (hs : ∀ i b, plan[i]? = some b → K (i + 1) = cond ((K i).isNone && ((!turn.isNone) && (decide ((turn.getD 0) < b.1)))) (some (wkAt net letters plan i).2.2.1) (K i)) : ∀ (xs : List (Int × BagT)) (i : Nat), (∀ j x, xs[j]? = some x → plan[i + j]? = some x.2) → i + xs.length = plan.length →
    (loop (ststep turn) xs (K i, wkAt net letters plan i) : Cf (List Sp) Empty (Option (List Sp) × WalkW)) = .nx (K plan.length, wkAt net letters plan plan.length)
  | [], i, _, h => by
    have : i = plan.length := h
    subst this
    rfl
  | x :: xs, i, hx, h => by
    have hb : plan[i]? = some x.2 := hx 0 x rfl
    have e : ststep turn (K i, wkAt net letters plan i) x = .nx (K (i + 1), wkAt net letters plan (i + 1)) := by
      rw [hs i x.2 hb, wkAt_succ hb]
      rfl
    rw [show (loop (ststep turn) (x :: xs) (K i, wkAt net letters plan i) : Cf (List Sp) Empty (Option (List Sp) × WalkW)) = loop (ststep turn) xs (K (i + 1), wkAt net letters plan (i + 1)) from loop_nx e]
    refine st_loop turn K h0 hs xs (i + 1) (fun j y hy => ?_) (by rw [List.length_cons] at h; omega)
    have := hx (j + 1) y hy
    rw [show i + 1 + j = i + (j + 1) by omega]
    exact this
theorem stops_none {net : NetW} {letters : List Letter} {plan : List BagT} : stops_at_m net letters plan none = (wkAt net letters plan plan.length).2.2.1 := by
  have e : stops_at_m net letters plan none = bndV (loop (ststep none) (enumI plan) (none, wkAt net letters plan 0)) fun s1 => (cond (s1.1.isNone) (some s1.2.2.2.1) s1.1).getD [] := rfl
  have := st_loop (net := net) (letters := letters) (plan := plan) none (fun _ => none) rfl (fun i b _ => rfl) (enumI plan) 0 (fun j x hx => by rw [Nat.zero_add]; exact (enumI_get hx).2) (by rw [enumI_len, Nat.zero_add])
  rw [e, this]
  rfl
theorem stops_rng {net : NetW} {letters : List Letter} {plan : List BagT} (p : PlanFine net letters plan) {x : Sp} (hx : x ∈ stops_at_m net letters plan none) (h : x.isOn = true) : 0 ≤ x.r ∧ x.r < (net.2.length : Int) := by
  rw [stops_none] at hx
  have := (wkAt_ok p plan.length).r x hx h
  rw [(wkAt_net plan.length).1] at this
  exact this
theorem arr_js {s : List (Option Int)} {i : Nat} {c : Bool} {v : Option Int} (h : s.length = i) : (cond c (s ++ [v]) (s ++ [none])).length = i + 1 := by
  cases c <;> (show (s ++ [_]).length = _; rw [List.length_append, h]; rfl)

end Lw
set_option Elab.async false
set_option linter.all false
set_option maxRecDepth 100000
set_option maxHeartbeats 4000000
namespace Lw
open PySem L2 Sx
/-! ### plain: where letters are left at a turn -/
theorem findIdx_spec {α : Type} {p : α → Bool} : ∀ {xs : List α} {i : Nat} {x : α}, xs[i]? = some x → (xs.findIdx p < i ∨ xs.findIdx p = i ∧ p x = true ∨ i < xs.findIdx p ∧ p x = false)
  | [], i, x, h => by simp at h
  | y :: xs, 0, x, h => by
    have : y = x := Option.some.inj h
    subst this
    rw [List.findIdx_cons]
    cases q : p y with
    | true => exact .inr (.inl ⟨rfl, rfl⟩)
    | false => exact .inr (.inr ⟨by simp, rfl⟩)
  | y :: xs, i + 1, x, h => by
    have h : xs[i]? = some x := h
    rw [List.findIdx_cons]
    cases q : p y with
    | true => exact .inl (by simp)
    | false =>
      simp only [cond_false]
      rcases findIdx_spec (p := p) h with a | ⟨a, b⟩ | ⟨a, b⟩
      · exact .inl (by omega)
      · exact .inr (.inl ⟨by omega, b⟩)
      · exact .inr (.inr ⟨by omega, b⟩)
/-- how many bags leave up to a turn -/
abbrev upto (plan : List BagT) (t : Int) : Nat := plan.findIdx fun b => decide (t < b.1)
theorem stops_some {net : NetW} {letters : List Letter} {plan : List BagT} {t : Int} : stops_at_m net letters plan (some t) = (wkAt net letters plan (upto plan t)).2.2.1 := by
  have e : stops_at_m net letters plan (some t) = bndV (loop (ststep (some t)) (enumI plan) (none, wkAt net letters plan 0)) fun s1 => (cond (s1.1.isNone) (some s1.2.2.2.1) s1.1).getD [] := rfl
  have hs : ∀ i b, plan[i]? = some b → (if upto plan t < i + 1 then some (wkAt net letters plan (upto plan t)).2.2.1 else none) = cond (((if upto plan t < i then some (wkAt net letters plan (upto plan t)).2.2.1 else none) : Option (List Sp)).isNone && ((!(some t : Option Int).isNone) && (decide (((some t : Option Int).getD 0) < b.1)))) (some (wkAt net letters plan i).2.2.1) (if upto plan t < i then some (wkAt net letters plan (upto plan t)).2.2.1 else none) := by
    intro i b hb
    rcases findIdx_spec (p := fun b : BagT => decide (t < b.1)) hb with a | ⟨a, c⟩ | ⟨a, c⟩
    · rw [if_pos (show upto plan t < i + 1 from Nat.lt_succ_of_lt a), if_pos a]; rfl
    · have a : upto plan t = i := a
      rw [if_pos (by omega), if_neg (by omega), a]
      show _ = cond (true && (true && decide (t < b.1))) _ _
      rw [show decide (t < b.1) = true from c]; rfl
    · have a : i < upto plan t := a
      rw [if_neg (by omega), if_neg (by omega)]
      show _ = cond (true && (true && decide (t < b.1))) _ _
      rw [show decide (t < b.1) = false from c]; rfl
  have := st_loop (net := net) (letters := letters) (plan := plan) (some t) (fun j => if upto plan t < j then some (wkAt net letters plan (upto plan t)).2.2.1 else none) (if_neg (Nat.not_lt_zero _)) hs (enumI plan) 0 (fun j x hx => by rw [Nat.zero_add]; exact (enumI_get hx).2) (by rw [enumI_len, Nat.zero_add])
  simp only [if_neg (Nat.not_lt_zero (upto plan t))] at this
  rw [e, this]
  show (cond (Option.isNone (if upto plan t < plan.length then some (wkAt net letters plan (upto plan t)).2.2.1 else none)) (some (wkAt net letters plan plan.length).2.2.1) (if upto plan t < plan.length then some (wkAt net letters plan (upto plan t)).2.2.1 else none) : Option (List Sp)).getD [] = _
  have hle : upto plan t ≤ plan.length := List.findIdx_le_length
  by_cases h : upto plan t < plan.length
  · rw [if_pos h]; rfl
  · have : upto plan t = plan.length := by omega
    rw [if_neg h, this]; rfl
theorem stops_len {net : NetW} {letters : List Letter} {plan : List BagT} {turn : Option Int} (p : PlanFine net letters plan) : (stops_at_m net letters plan turn).length = letters.length := by
  cases turn with
  | none => rw [stops_none, (wkAt_ok p _).l, (wkAt_net _).2]
  | some t => rw [stops_some, (wkAt_ok p _).l, (wkAt_net _).2]

end Lw
set_option Elab.async false
set_option linter.all false
set_option maxRecDepth 100000
set_option maxHeartbeats 4000000
namespace Lw
open PySem L2 Sx
/-! ### plain: the legs -/
theorem fold_invP {α S1 : Type} (J : Nat → S1 → Prop) {step : S1 → α → S1} {xs : List α} (hs : ∀ i x s, xs[i]? = some x → J i s → J (i + 1) (step s x)) {s0 : S1} (h : J 0 s0) : J xs.length (xs.foldl step s0) := by
  have : ∀ (ys : List α) (i : Nat) (s : S1), xs.drop i = ys → i + ys.length = xs.length → J i s → J xs.length (ys.foldl step s) := by
    intro ys
    induction ys with
    | nil => intro i s _ e j; rw [← e]; exact j
    | cons y ys ih =>
      intro i s e el j
      have hy : xs[i]? = some y := by
        have : (xs.drop i)[0]? = some y := by rw [e]; rfl
        rw [List.getElem?_drop] at this
        exact this
      refine ih (i + 1) _ ?_ (by rw [List.length_cons] at el; omega) (hs i y s hy j)
      rw [← List.drop_drop, e]
      rfl
  exact this xs 0 s0 rfl (by omega) h
theorem emod_rng {n : Nat} (h : 0 < n) (a : Int) : 0 ≤ a % (n : Int) ∧ a % (n : Int) < (n : Int) := ⟨Int.emod_nonneg _ (by omega), Int.emod_lt_of_pos _ (by omega)⟩
abbrev LegT := Int × Int × Int × Str
abbrev LoadT := List ((Int × Int) × Int)
abbrev LgS := Int × Int × LoadT × List LegT × Str
abbrev outsL (lines : List Road) (h : Str) : List Int := ((rngI 0 ((lines.length : Int) : Int).toNat).filter (fun z1 : Int => (decide ((lines.getD (z1).toNat ("", "", 0, 0)).1 = h)))).map (fun z1 : Int => z1)
theorem outs_rng {lines : List Road} {h : Str} {outs : List Int} {i : Int} (ho : outs = outsL lines h) (h0 : 0 ≤ i) (h1 : i < (outs.length : Int)) : (0 ≤ outs.getD i.toNat 0 ∧ outs.getD i.toNat 0 < (lines.length : Int)) ∧ (lines.getD (outs.getD i.toNat 0).toNat ("", "", 0, 0)).1 = h := by
  have hm : outs.getD i.toNat 0 ∈ outs := getD_mem h0 h1
  generalize outs.getD i.toNat 0 = x at hm
  rw [ho] at hm
  obtain ⟨y, hy, rfl⟩ := List.mem_map.mp hm
  obtain ⟨h2, h3⟩ := List.mem_filter.mp hy
  obtain ⟨k, hk⟩ := List.getElem?_of_mem h2
  obtain ⟨h4, h5⟩ := rngI_get hk
  exact ⟨⟨by omega, by omega⟩, of_decide_eq_true h3⟩
/-- how many turns from w on are taken on a road -/
def lwm (m : LoadT) (road w : Int) : Nat := m.countP fun kv => decide (kv.1.2 = road) && decide (w ≤ kv.1.1)
theorem countP_lt {α : Type} {p q : α → Bool} {x : α} : ∀ {l : List α}, (∀ y, q y = true → p y = true) → x ∈ l → p x = true → q x = false → l.countP q < l.countP p
  | [], _, h, _, _ => by cases h
  | y :: l, hpq, h, hp, hq => by
    have mono : ∀ l : List α, l.countP q ≤ l.countP p := fun l => List.countP_mono_left fun y _ => hpq y
    rcases List.mem_cons.mp h with e | e
    · subst e
      rw [List.countP_cons_of_pos hp, List.countP_cons_of_neg (by simp [hq])]
      exact Nat.lt_succ_of_le (mono l)
    · have ih := countP_lt hpq e hp hq
      by_cases z : q y = true
      · rw [List.countP_cons_of_pos z, List.countP_cons_of_pos (hpq y z)]
        exact Nat.succ_lt_succ ih
      · rw [List.countP_cons_of_neg z]
        by_cases z2 : p y = true
        · rw [List.countP_cons_of_pos z2]; omega
        · rw [List.countP_cons_of_neg z2]; exact ih
theorem lw_step {m : LoadT} {road w room : Int} {n : Nat} (h1 : 1 ≤ room) (hj : lwm m road w ≤ n) (hc : decide (room ≤ (aget m (w, road)).getD 0) = true) : ∃ n', n = n' + 1 ∧ lwm m road (w + 1) ≤ n' := by
  have hc := of_decide_eq_true hc
  cases q : aget m (w, road) with
  | none => rw [q] at hc; have hc : room ≤ 0 := hc; omega
  | some v =>
    have hm := aget_mem q
    have : lwm m road (w + 1) < lwm m road w := countP_lt (x := ((w, road), v)) (fun y hy => by
      obtain ⟨a, b⟩ := Bool.and_eq_true_iff.mp hy
      rw [Bool.and_eq_true]
      exact ⟨a, decide_eq_true (by have := of_decide_eq_true b; omega)⟩) hm (by simp) (by simp <;> omega)
    exact ⟨n - 1, by omega, by omega⟩
def lgstep (lines : List Road) (goal : Str) (s2 : LgS) (x2 : Int) : LgS :=
      lt ((s2.1 * 48271) % 2147483647) fun cell_2 : Int =>
      lt (((rngI 0 ((lines.length : Int) : Int).toNat).filter (fun z1 : Int => (decide ((lines.getD (z1).toNat ("", "", 0, 0)).1 = s2.2.2.2.2)))).map (fun z1 : Int => z1)) fun outs : List Int =>
      cond ((!decide (outs = [])) && (!decide (s2.2.2.2.2 = goal))) (
        lt (outs.getD ((cell_2 % (outs.length : Int))).toNat 0) fun road : Int =>
        lt (s2.2.1 + ((cell_2 / 64) % 4)) fun ready_2 : Int =>
        lt (whileF (fun w1 : Int => (decide ((lines.getD (road).toNat ("", "", 0, 0)).2.2.2 ≤ ((aget s2.2.2.1 (w1, road)).getD 0)))) (fun w1 : Int =>
          lt (w1 + 1) fun ready_3 : Int =>
          ready_3) 200 ready_2) fun w1 : Int =>
        lt (aput s2.2.2.1 (w1, road) (((aget s2.2.2.1 (w1, road)).getD 0) + 1)) fun load_2 =>
        lt (s2.2.2.2.1 ++ [(w1, road, (w1 + (lines.getD (road).toNat ("", "", 0, 0)).2.2.1), (lines.getD (road).toNat ("", "", 0, 0)).2.1)]) fun mine_2 =>
        lt ((lines.getD (road).toNat ("", "", 0, 0)).2.1) fun at_3 : Str =>
        lt (w1 + (lines.getD (road).toNat ("", "", 0, 0)).2.2.1) fun ready_4 : Int =>
        (cell_2, ready_4, load_2, mine_2, at_3)) (
        (cell_2, s2.2.1, s2.2.2.1, s2.2.2.2.1, s2.2.2.2.2))
theorem lg_len {lines : List Road} {goal : Str} {s : LgS} {x : Int} {a b : Nat} (h : s.2.2.1.length ≤ a ∧ s.2.2.2.1.length ≤ b) : (lgstep lines goal s x).2.2.1.length ≤ a + 1 ∧ (lgstep lines goal s x).2.2.2.1.length ≤ b + 1 := by
  unfold lgstep
  simp only [lt]
  refine cond_keep (P := fun z : LgS => z.2.2.1.length ≤ a + 1 ∧ z.2.2.2.1.length ≤ b + 1) (fun _ => ⟨Nat.le_trans aput_len (Nat.succ_le_succ h.1), ?_⟩) (fun _ => ⟨Nat.le_succ_of_le h.1, Nat.le_succ_of_le h.2⟩)
  show (_ ++ [_]).length ≤ _
  rw [List.length_append]
  exact Nat.succ_le_succ h.2
def lgout (lines : List Road) (cells : List Int) (hops : Int) (s1 : LoadT × List (List LegT)) (x1 : Int × Letter) : LoadT × List (List LegT) :=
    lt ((((cells.getD ((x1.1 % (cells.length : Int))).toNat 0) * 48271) % 2147483647) + x1.1) fun cell : Int =>
    lt x1.2.1 fun at_2 : Str =>
    lt x1.2.2.1 fun ready : Int =>
    lt ([] : List (Int × Int × Int × Str)) fun mine =>
    lt ((rngI 0 ((cell % (hops + 1)) : Int).toNat).foldl (fun (s2 : LgS) (x2 : Int) => lgstep lines x1.2.2.2 s2 x2) (cell, ready, s1.1, mine, at_2)) fun s2 : LgS =>
    lt (s1.2 ++ [s2.2.2.2.1]) fun legs_2 =>
    (s2.2.2.1, legs_2)
theorem hops_rng {hops : Int} (c : Int) (h : hops = 2 ∨ hops = 3) : (c % (hops + 1)).toNat ≤ 3 ∧ 0 ≤ c % (hops + 1) ∧ c % (hops + 1) ≤ 3 := by
  rcases h with rfl | rfl <;> omega
theorem lgout_len {lines : List Road} {cells : List Int} {s1 : LoadT × List (List LegT)} {x1 : Int × Letter} {i : Nat} {hops : Int} (hh : hops = 2 ∨ hops = 3) (h : s1.1.length ≤ 3 * i ∧ s1.2.length ≤ i) : (lgout lines cells hops s1 x1).1.length ≤ 3 * (i + 1) ∧ (lgout lines cells hops s1 x1).2.length ≤ i + 1 := by
  unfold lgout
  simp only [lt]
  constructor
  · have := fold_invP (fun k (s : LgS) => s.2.2.1.length ≤ 3 * i + k ∧ s.2.2.2.1.length ≤ k) (xs := rngI 0 (((((cells.getD ((x1.1 % (cells.length : Int))).toNat 0) * 48271) % 2147483647) + x1.1) % (hops + 1) : Int).toNat) (step := fun s2 x2 => lgstep lines x1.2.2.2 s2 x2) (fun k x s _ hs => lg_len hs) (s0 := ((((cells.getD ((x1.1 % (cells.length : Int))).toNat 0) * 48271) % 2147483647) + x1.1, x1.2.2.1, s1.1, [], x1.2.1)) ⟨h.1, Nat.le_refl 0⟩
    rw [rngI_len] at this
    have h2 := this.1
    have h3 := hops_rng ((((cells.getD ((x1.1 % (cells.length : Int))).toNat 0) * 48271) % 2147483647) + x1.1) hh
    omega
  · show (_ ++ [_]).length ≤ _
    rw [List.length_append]
    exact Nat.succ_le_succ h.2
theorem plout_len {x1 : Int × List LegT} {s1 : List ((Int × Int) × List Int)} {i : Nat} (h3 : x1.2.length ≤ 3) (h : s1.length ≤ 3 * i ∧ ∀ kv ∈ s1, kv.2.length ≤ 3 * i) : (x1.2.foldl (fun (s2 : (List ((Int × Int) × List Int))) (x2 : Int × Int × Int × Str) => lt (alapp s2 (x2.1, x2.2.1) x1.1) fun bags_2 => bags_2) s1).length ≤ 3 * (i + 1) ∧ ∀ kv ∈ (x1.2.foldl (fun (s2 : (List ((Int × Int) × List Int))) (x2 : Int × Int × Int × Str) => lt (alapp s2 (x2.1, x2.2.1) x1.1) fun bags_2 => bags_2) s1), kv.2.length ≤ 3 * (i + 1) := by
  have := fold_invP (fun k (s : List ((Int × Int) × List Int)) => s.length ≤ 3 * i + k ∧ ∀ kv ∈ s, kv.2.length ≤ 3 * i + k) (xs := x1.2) (step := fun (s2 : (List ((Int × Int) × List Int))) (x2 : Int × Int × Int × Str) => lt (alapp s2 (x2.1, x2.2.1) x1.1) fun bags_2 => bags_2) (fun k x s _ hs => ⟨Nat.le_trans alapp_len (Nat.succ_le_succ hs.1), alapp_le hs.2⟩) (s0 := s1) h
  exact ⟨by have := this.1; omega, fun kv hkv => by have := this.2 kv hkv; omega⟩
theorem mem_sortK {α : Type} {key : α → List Key} {l : List α} {x : α} (h : x ∈ sortK key l) : x ∈ l := (isort_perm l).mem_iff.mp h
/-! ### plain: what the law's walk asks -/
theorem legs_len {lines : List Road} {letters : List Letter} {cells : List Int} {hops : Int} (hh : hops = 2 ∨ hops = 3) (h40 : letters.length ≤ 40) : (law_legs_m lines letters cells hops).length ≤ 40 ∧ ∀ x ∈ law_legs_m lines letters cells hops, x.length ≤ 3 := by
  have e : law_legs_m lines letters cells hops = ((enumI letters).foldl (lgout lines cells hops) ([], [])).2 := rfl
  rw [e]
  have := fold_invP (fun i (s : LoadT × List (List LegT)) => s.2.length ≤ i ∧ ∀ x ∈ s.2, x.length ≤ 3) (xs := enumI letters) (step := lgout lines cells hops) (fun i x s _ hs => by
    refine ⟨?_, ?_⟩
    · unfold lgout
      simp only [lt]
      show (_ ++ [_]).length ≤ _
      rw [List.length_append]
      exact Nat.succ_le_succ hs.1
    · intro y hy
      unfold lgout at hy
      simp only [lt] at hy
      rcases List.mem_append.mp hy with q | q
      · exact hs.2 y q
      · rw [List.mem_singleton.mp q]
        have := fold_invP (fun k (z : LgS) => z.2.2.1.length ≤ s.1.length + k ∧ z.2.2.2.1.length ≤ k) (xs := rngI 0 (((((cells.getD ((x.1 % (cells.length : Int))).toNat 0) * 48271) % 2147483647) + x.1) % (hops + 1) : Int).toNat) (step := fun s2 x2 => lgstep lines x.2.2.2 s2 x2) (fun k x s _ hs => lg_len hs) (s0 := ((((cells.getD ((x.1 % (cells.length : Int))).toNat 0) * 48271) % 2147483647) + x.1, x.2.2.1, s.1, [], x.2.1)) ⟨Nat.le_refl _, Nat.le_refl 0⟩
        rw [rngI_len] at this
        have h2 := this.2
        have h3 := hops_rng ((((cells.getD ((x.1 % (cells.length : Int))).toNat 0) * 48271) % 2147483647) + x.1) hh
        omega) (s0 := ([], [])) ⟨Nat.le_refl 0, fun _ h => by cases h⟩
  rw [enumI_len] at this
  exact ⟨Nat.le_trans this.1 h40, this.2⟩
theorem fine_nil {net : NetW} {letters : List Letter} (h40 : letters.length ≤ 40) : PlanFine net letters [] := ⟨fun i b h => by simp at h, fun _ h => by (cases h), by omega⟩
/-- the letters that are drawn -/
structure OkLs (names : List Str) (base_ : Int) (letters : List Letter) : Prop where
  a : ∀ a ∈ letters, OkL names base_ 31 a
  l : letters.length ≤ 40
theorem okls_0 {names : List Str} {base_ : Int} {xs : List Int} (nd : names.Nodup) (h2 : 2 ≤ names.length) (hx : xs.length ≤ 40) : OkLs names base_ (xs.map (fun z2 : Int => (letterB names base_ z2))) := ⟨fun a ha => by
  obtain ⟨z, _, rfl⟩ := List.mem_map.mp ha
  exact letterB_ok nd h2, by rw [List.length_map]; exact hx⟩
/-! ### plain: a letter's legs are a chain -/
abbrev rdAt (lines : List Road) (r : Int) : Road := lines.getD r.toNat ("", "", 0, 0)
structure LegOk (lines : List Road) (goal h : Str) (ready : Int) (l : LegT) : Prop where
  r : 0 ≤ l.2.1 ∧ l.2.1 < (lines.length : Int)
  b : (rdAt lines l.2.1).1 = h
  ne : h ≠ goal
  t : ready ≤ l.1
  d : l.2.2.1 = l.1 + (rdAt lines l.2.1).2.2.1
  e : l.2.2.2 = (rdAt lines l.2.1).2.1
def Chain (lines : List Road) (goal : Str) : Str → Int → List LegT → Prop
  | _, _, [] => True
  | h, ready, l :: ls => LegOk lines goal h ready l ∧ Chain lines goal l.2.2.2 l.2.2.1 ls
def cEnd : Str → Int → List LegT → Str × Int
  | h, ready, [] => (h, ready)
  | _, _, l :: ls => cEnd l.2.2.2 l.2.2.1 ls
theorem cEnd_snoc : ∀ {ls : List LegT} {h : Str} {ready : Int} {l : LegT}, cEnd h ready (ls ++ [l]) = (l.2.2.2, l.2.2.1)
  | [], _, _, _ => rfl
  | _ :: ls, _, _, l => cEnd_snoc (ls := ls) (l := l)
theorem chain_snoc {lines : List Road} {goal : Str} : ∀ {ls : List LegT} {h : Str} {ready : Int} {l : LegT}, Chain lines goal h ready ls → LegOk lines goal (cEnd h ready ls).1 (cEnd h ready ls).2 l → Chain lines goal h ready (ls ++ [l])
  | [], _, _, _, _, o => ⟨o, trivial⟩
  | _ :: _, _, _, _, c, o => ⟨c.1, chain_snoc c.2 o⟩
theorem whileF_ge {c : Int → Bool} : ∀ (n : Nat) (w : Int), w ≤ whileF c (fun w => w + 1) n w
  | 0, _ => Int.le_refl _
  | n + 1, w => by
    unfold whileF
    cases c w with
    | true => have := whileF_ge (c := c) n (w + 1); show w ≤ whileF c _ n (w + 1); omega
    | false => exact Int.le_refl _
/-- a turn of the inner loop: a leg more, or none -/
structure LgI (lines : List Road) (goal h : Str) (ready : Int) (s : LgS) : Prop where
  c : Chain lines goal h ready s.2.2.2.1
  e : (cEnd h ready s.2.2.2.1).1 = s.2.2.2.2 ∧ (cEnd h ready s.2.2.2.1).2 ≤ s.2.1
theorem lgi_step {lines : List Road} {goal h : Str} {ready : Int} {s : LgS} {x : Int} (i : LgI lines goal h ready s) : LgI lines goal h ready (lgstep lines goal s x) := by
  unfold lgstep
  simp only [lt]
  refine cond_keep (P := fun z : LgS => LgI lines goal h ready z) (fun hc => ?_) (fun _ => ⟨i.c, i.e⟩)
  obtain ⟨h1, h2⟩ := Bool.and_eq_true_iff.mp hc
  have hop : 0 < (outsL lines s.2.2.2.2).length := List.length_pos_iff.mpr (by simpa using h1)
  have hor := emod_rng hop ((s.1 * 48271) % 2147483647)
  obtain ⟨hrd, hb⟩ := outs_rng (h := s.2.2.2.2) rfl hor.1 hor.2
  have hne : s.2.2.2.2 ≠ goal := by simpa using h2
  have hge := whileF_ge (c := fun w1 : Int => (decide ((rdAt lines ((outsL lines s.2.2.2.2).getD (((s.1 * 48271) % 2147483647) % ((outsL lines s.2.2.2.2).length : Int)).toNat 0)).2.2.2 ≤ ((aget s.2.2.1 (w1, ((outsL lines s.2.2.2.2).getD (((s.1 * 48271) % 2147483647) % ((outsL lines s.2.2.2.2).length : Int)).toNat 0))).getD 0)))) 200 (s.2.1 + (((s.1 * 48271) % 2147483647) / 64) % 4)
  refine ⟨chain_snoc i.c ⟨hrd, by rw [i.e.1]; exact hb, by rw [i.e.1]; exact hne, ?_, rfl, rfl⟩, ?_⟩
  · have := i.e.2
    refine Int.le_trans (Int.le_trans this ?_) hge
    omega
  · show (cEnd h ready (_ ++ [_])).1 = _ ∧ (cEnd h ready (_ ++ [_])).2 ≤ _
    rw [cEnd_snoc]
    exact ⟨rfl, Int.le_refl _⟩
/-! ### plain: what is taken on each road at each turn -/
abbrev cntL (all : List LegT) (k : Int × Int) : Nat := all.countP fun l => decide ((l.1, l.2.1) = k)
structure LdI (lines : List Road) (all : List LegT) (m : LoadT) : Prop where
  c : ∀ k, (aget m k).getD 0 = (cntL all k : Int)
  r : ∀ k, 0 ≤ k.2 → k.2 < (lines.length : Int) → (cntL all k : Int) ≤ (rdAt lines k.2).2.2.2
theorem lw_end {m : LoadT} {road room : Int} (h1 : 1 ≤ room) : ∀ (n : Nat) (w : Int), lwm m road w ≤ n → decide (room ≤ (aget m (whileF (fun w1 : Int => decide (room ≤ (aget m (w1, road)).getD 0)) (fun w1 => w1 + 1) n w, road)).getD 0) = false
  | 0, w, h => by
    show decide (room ≤ (aget m (w, road)).getD 0) = false
    cases q : decide (room ≤ (aget m (w, road)).getD 0) with
    | false => rfl
    | true =>
      obtain ⟨n', e, _⟩ := lw_step h1 h q
      cases e
  | n + 1, w, h => by
    unfold whileF
    cases q : decide (room ≤ (aget m (w, road)).getD 0) with
    | false => exact q
    | true =>
      obtain ⟨n', e, h2⟩ := lw_step h1 h q
      have e : n = n' := by omega
      subst e
      exact lw_end h1 n (w + 1) h2
theorem ldi_put {lines : List Road} {all : List LegT} {m : LoadT} {w road : Int} {l : LegT} (i : LdI lines all m) (hl : l.1 = w ∧ l.2.1 = road) (hf : (aget m (w, road)).getD 0 < (rdAt lines road).2.2.2) : LdI lines (all ++ [l]) (aput m (w, road) (((aget m (w, road)).getD 0) + 1)) := by
  have cn : ∀ k, cntL (all ++ [l]) k = cntL all k + if (w, road) = k then 1 else 0 := fun k => by
    show (all ++ [l]).countP _ = _
    rw [List.countP_append, List.countP_singleton, hl.1, hl.2]
    simp only [decide_eq_true_eq]
  refine ⟨fun k => ?_, fun k h0 h1 => ?_⟩
  · rw [aget_put, cn k]
    by_cases e : (w, road) = k
    · subst e
      rw [if_pos rfl, if_pos rfl]
      show (aget m (w, road)).getD 0 + 1 = _
      rw [i.c]
      omega
    · rw [if_neg (fun z => e z.symm), if_neg e]
      exact i.c k
  · rw [cn k]
    by_cases e : (w, road) = k
    · subst e
      rw [if_pos rfl]
      have := i.c (w, road)
      rw [this] at hf
      have hf : (cntL all (w, road) : Int) < (rdAt lines road).2.2.2 := hf
      show ((cntL all (w, road) + 1 : Nat) : Int) ≤ (rdAt lines road).2.2.2
      omega
    · rw [if_neg e]
      exact i.r k h0 h1
theorem ldi_step {lines : List Road} {goal : Str} {acc : List LegT} {s : LgS} {x : Int} (hrm : ∀ r ∈ lines, 1 ≤ r.2.2.2) (hz : s.2.2.1.length ≤ 200) (i : LdI lines (acc ++ s.2.2.2.1) s.2.2.1) : LdI lines (acc ++ (lgstep lines goal s x).2.2.2.1) (lgstep lines goal s x).2.2.1 := by
  unfold lgstep
  simp only [lt]
  refine cond_keep (P := fun z : LgS => LdI lines (acc ++ z.2.2.2.1) z.2.2.1) (fun hc => ?_) (fun _ => i)
  obtain ⟨h1, h2⟩ := Bool.and_eq_true_iff.mp hc
  have hop : 0 < (outsL lines s.2.2.2.2).length := List.length_pos_iff.mpr (by simpa using h1)
  have hor := emod_rng hop ((s.1 * 48271) % 2147483647)
  obtain ⟨hrd, hb⟩ := outs_rng (h := s.2.2.2.2) rfl hor.1 hor.2
  have hr1 : 1 ≤ (rdAt lines ((outsL lines s.2.2.2.2).getD (((s.1 * 48271) % 2147483647) % ((outsL lines s.2.2.2.2).length : Int)).toNat 0)).2.2.2 := hrm _ (getD_mem hrd.1 hrd.2)
  have he := lw_end (m := s.2.2.1) (road := (outsL lines s.2.2.2.2).getD (((s.1 * 48271) % 2147483647) % ((outsL lines s.2.2.2.2).length : Int)).toNat 0) hr1 200 (s.2.1 + (((s.1 * 48271) % 2147483647) / 64) % 4) (Nat.le_trans List.countP_le_length hz)
  show LdI lines (acc ++ (s.2.2.2.1 ++ [_])) _
  rw [← List.append_assoc]
  refine ldi_put i ⟨rfl, rfl⟩ ?_
  have he := of_decide_eq_false he
  exact Int.not_le.mp he
/-! ### plain: all legs -/
structure OkLg (lines : List Road) (letters : List Letter) (i : Nat) (s : LoadT × List (List LegT)) : Prop where
  l : s.2.length = i
  c : ∀ (k : Nat) (a : Letter) (ls : List LegT), letters[k]? = some a → s.2[k]? = some ls → Chain lines a.2.2 a.1 a.2.1 ls
  d : LdI lines s.2.flatten s.1
  n : s.1.length ≤ 3 * i
theorem lgout_ok {lines : List Road} {letters : List Letter} {cells : List Int} {hops : Int} {s : LoadT × List (List LegT)} {i : Nat} {x : Int × Letter} (hh : hops = 2 ∨ hops = 3) (hrm : ∀ r ∈ lines, 1 ≤ r.2.2.2) (h40 : letters.length ≤ 40) (hx : (enumI letters)[i]? = some x) (o : OkLg lines letters i s) : OkLg lines letters (i + 1) (lgout lines cells hops s x) := by
  obtain ⟨hx1, hx2⟩ := enumI_get hx
  have hi := (List.getElem?_eq_some_iff.mp hx2).1
  have hl := lgout_len (lines := lines) (cells := cells) (x1 := x) (hops := hops) hh (show s.1.length ≤ 3 * i ∧ s.2.length ≤ i from ⟨o.n, Nat.le_of_eq o.l⟩)
  unfold lgout at hl ⊢
  simp only [lt] at hl ⊢
  have hk : ∀ (ns : List Int) (z : LgS) (b : Nat), ns.length + b ≤ 4 → (z.2.2.1.length ≤ 3 * i + b) → LgI lines x.2.2.2 x.2.1 x.2.2.1 z → LdI lines (s.2.flatten ++ z.2.2.2.1) z.2.2.1 → LgI lines x.2.2.2 x.2.1 x.2.2.1 (ns.foldl (fun s2 x2 => lgstep lines x.2.2.2 s2 x2) z) ∧ LdI lines (s.2.flatten ++ (ns.foldl (fun s2 x2 => lgstep lines x.2.2.2 s2 x2) z).2.2.2.1) (ns.foldl (fun s2 x2 => lgstep lines x.2.2.2 s2 x2) z).2.2.1 := by
    intro ns
    induction ns with
    | nil => intro z b _ _ a c; exact ⟨a, c⟩
    | cons n ns ih =>
      intro z b hb hz a c
      rw [List.length_cons] at hb
      rw [List.foldl_cons]
      exact ih _ (b + 1) (by omega) (lg_len (lines := lines) (goal := x.2.2.2) (x := n) (s := z) (a := 3 * i + b) (b := z.2.2.2.1.length) ⟨hz, Nat.le_refl _⟩).1 (lgi_step a) (ldi_step hrm (by omega) c)
  have hq := hk (rngI 0 (((((cells.getD ((x.1 % (cells.length : Int))).toNat 0) * 48271) % 2147483647) + x.1) % (hops + 1) : Int).toNat) ((((cells.getD ((x.1 % (cells.length : Int))).toNat 0) * 48271) % 2147483647) + x.1, x.2.2.1, s.1, [], x.2.1) 0 (by rw [rngI_len]; have h3 := hops_rng ((((cells.getD ((x.1 % (cells.length : Int))).toNat 0) * 48271) % 2147483647) + x.1) hh; omega) o.n ⟨trivial, rfl, Int.le_refl _⟩ (by rw [List.append_nil]; exact o.d)
  generalize (rngI 0 (((((cells.getD ((x.1 % (cells.length : Int))).toNat 0) * 48271) % 2147483647) + x.1) % (hops + 1) : Int).toNat).foldl (fun s2 x2 => lgstep lines x.2.2.2 s2 x2) ((((cells.getD ((x.1 % (cells.length : Int))).toNat 0) * 48271) % 2147483647) + x.1, x.2.2.1, s.1, [], x.2.1) = z at hq hl ⊢
  obtain ⟨q1, q2⟩ := hq
  refine ⟨by show (s.2 ++ [_]).length = _; rw [List.length_append, o.l]; rfl, fun k a ls ha hls => ?_, ?_, hl.1⟩
  · have hls : (s.2 ++ [z.2.2.2.1])[k]? = some ls := hls
    by_cases e : k < s.2.length
    · rw [List.getElem?_append_left e] at hls
      exact o.c k a ls ha hls
    · rw [List.getElem?_append_right (by omega)] at hls
      have hk0 : k - s.2.length = 0 := by
        cases q : k - s.2.length with
        | zero => rfl
        | succ m => rw [q] at hls; simp at hls
      rw [hk0] at hls
      have e2 : k = i := by have := o.l; omega
      rw [e2, hx2] at ha
      cases ha
      cases hls
      exact q1.c
  · show LdI lines (s.2 ++ [z.2.2.2.1]).flatten z.2.2.1
    rw [List.flatten_append]
    simpa using q2
theorem legs_ok {lines : List Road} {letters : List Letter} {cells : List Int} {hops : Int} (hh : hops = 2 ∨ hops = 3) (hrm : ∀ r ∈ lines, 1 ≤ r.2.2.2) (h40 : letters.length ≤ 40) : ∃ m, OkLg lines letters letters.length (m, law_legs_m lines letters cells hops) := by
  have e : law_legs_m lines letters cells hops = ((enumI letters).foldl (lgout lines cells hops) ([], [])).2 := rfl
  have := fold_invP (fun i (s : LoadT × List (List LegT)) => OkLg lines letters i s) (xs := enumI letters) (step := lgout lines cells hops) (fun i x s hx o => lgout_ok hh hrm h40 hx o) (s0 := ([], [])) ⟨rfl, fun k a ls _ h => (by simp at h), ⟨fun k => rfl, fun k h0 h1 => by
    have h2 : 1 ≤ (rdAt lines k.2).2.2.2 := hrm _ (getD_mem h0 h1)
    show ((0 : Nat) : Int) ≤ (rdAt lines k.2).2.2.2
    omega⟩, Nat.le_refl 0⟩
  rw [enumI_len] at this
  exact ⟨_, by rw [e]; exact this⟩
/-! ### plain: a chain's turns rise -/
theorem chain_rise {lines : List Road} {goal : Str} (ht : ∀ r ∈ lines, 1 ≤ r.2.2.1) : ∀ {ls : List LegT} {h : Str} {ready : Int}, Chain lines goal h ready ls → (∀ l ∈ ls, ready ≤ l.1) ∧ ls.Pairwise (fun a b => a.2.2.1 ≤ b.1 ∧ a.1 < b.1)
  | [], _, _, _ => ⟨fun _ h => (by cases h), .nil⟩
  | l :: ls, h, ready, c => by
    obtain ⟨o, c2⟩ := c
    obtain ⟨h1, h2⟩ := chain_rise ht c2
    have h3 : 1 ≤ (rdAt lines l.2.1).2.2.1 := ht _ (getD_mem o.r.1 o.r.2)
    have h4 := o.d
    have h5 := o.t
    refine ⟨fun x hx => ?_, List.pairwise_cons.mpr ⟨fun x hx => ⟨h1 x hx, by have := h1 x hx; omega⟩, h2⟩⟩
    rcases List.mem_cons.mp hx with e | e
    · rw [e]; exact h5
    · have := h1 x e; omega
/-! ### plain: lists in a dict -/
theorem aget_alapp {κ α : Type} [DecidableEq κ] {k j : κ} {v : α} : ∀ {m : List (κ × List α)}, aget (alapp m k v) j = if j = k then some ((aget m k).getD [] ++ [v]) else aget m j
  | [] => by
    show aget [(k, [v])] j = _
    by_cases e : j = k
    · subst e; rw [if_pos rfl]; simp [aget]
    · rw [if_neg e]
      have : ¬ k = j := fun z => e z.symm
      simp [aget, this]
  | (k', ds) :: m => by
    have ih := aget_alapp (k := k) (j := j) (v := v) (m := m)
    unfold alapp
    by_cases e : k' = k
    · subst e
      rw [if_pos rfl]
      by_cases e2 : j = k'
      · subst e2; simp [aget]
      · have : ¬ k' = j := fun z => e2 z.symm
        simp [aget, e2, this]
    · rw [if_neg e]
      by_cases e2 : k' = j
      · subst e2
        rw [if_neg e]
        simp [aget]
      · have h1 : aget ((k', ds) :: alapp m k v) j = aget (alapp m k v) j := by simp [aget, e2]
        have h2 : aget ((k', ds) :: m) j = aget m j := by simp [aget, e2]
        have h3 : aget ((k', ds) :: m) k = aget m k := by simp [aget, e]
        rw [h1, h2, h3]
        exact ih
abbrev EvT := (Int × Int) × Int
theorem fold_alapp {k : Int × Int} : ∀ (E : List EvT) (m : List ((Int × Int) × List Int)), (aget (E.foldl (fun m e => alapp m e.1 e.2) m) k).getD [] = (aget m k).getD [] ++ (E.filter fun e => decide (e.1 = k)).map (·.2)
  | [], m => by rw [List.filter_nil, List.map_nil, List.append_nil]; rfl
  | e :: E, m => by
    rw [List.foldl_cons, fold_alapp E, aget_alapp]
    by_cases h : e.1 = k
    · subst h
      rw [if_pos rfl, List.filter_cons_of_pos (by simp), List.map_cons]
      simp
    · rw [if_neg (fun z => h z.symm), List.filter_cons_of_neg (by simp [h])]
theorem fold_alapp_mem {k : Int × Int} : ∀ (E : List EvT) (m : List ((Int × Int) × List Int)), (aget (E.foldl (fun m e => alapp m e.1 e.2) m) k).isSome = true ↔ (aget m k).isSome = true ∨ ∃ e ∈ E, e.1 = k
  | [], m => ⟨.inl, fun h => h.elim id fun ⟨_, h, _⟩ => by cases h⟩
  | e :: E, m => by
    rw [List.foldl_cons, fold_alapp_mem E, aget_alapp]
    by_cases h : e.1 = k
    · rw [if_pos h.symm]
      exact ⟨fun _ => .inr ⟨e, List.mem_cons_self, h⟩, fun _ => .inl rfl⟩
    · rw [if_neg (fun z => h z.symm)]
      constructor
      · rintro (q | ⟨x, hx, hk⟩)
        · exact .inl q
        · exact .inr ⟨x, List.mem_cons_of_mem _ hx, hk⟩
      · rintro (q | ⟨x, hx, hk⟩)
        · exact .inl q
        · rcases List.mem_cons.mp hx with z | z
          · subst z; exact absurd hk h
          · exact .inr ⟨x, z, hk⟩
abbrev evsOf (legs : List (List LegT)) : List EvT := (enumI legs).flatMap fun q => q.2.map fun l => ((l.1, l.2.1), q.1)
theorem bags_fold {legs : List (List LegT)} : (enumI legs).foldl (fun (s1 : (List ((Int × Int) × List Int))) (x1 : Int × (List (Int × Int × Int × Str))) =>
    lt (x1.2.foldl (fun (s2 : (List ((Int × Int) × List Int))) (x2 : Int × Int × Int × Str) =>
      lt (alapp s2 (x2.1, x2.2.1) x1.1) fun bags_2 =>
      bags_2) s1) fun s2 : (List ((Int × Int) × List Int)) =>
    s2) [] = (evsOf legs).foldl (fun m e => alapp m e.1 e.2) [] := by
  have key : ∀ (xs : List (Int × List LegT)) (m : List ((Int × Int) × List Int)), xs.foldl (fun (s1 : (List ((Int × Int) × List Int))) (x1 : Int × (List (Int × Int × Int × Str))) =>
    lt (x1.2.foldl (fun (s2 : (List ((Int × Int) × List Int))) (x2 : Int × Int × Int × Str) =>
      lt (alapp s2 (x2.1, x2.2.1) x1.1) fun bags_2 =>
      bags_2) s1) fun s2 : (List ((Int × Int) × List Int)) =>
    s2) m = (xs.flatMap fun q => q.2.map fun l => ((l.1, l.2.1), q.1)).foldl (fun m e => alapp m e.1 e.2) m := by
    intro xs
    induction xs with
    | nil => intro m; rfl
    | cons x xs ih =>
      intro m
      rw [List.foldl_cons, ih, List.flatMap_cons, List.foldl_append, List.foldl_map]
      rfl
  exact key _ _
/-! ### plain: the plan, bag by bag -/
theorem alapp_keysP {κ α : Type} [DecidableEq κ] {k : κ} {v : α} : ∀ {m : List (κ × List α)}, (alapp m k v).map (·.1) = if k ∈ m.map (·.1) then m.map (·.1) else m.map (·.1) ++ [k]
  | [] => rfl
  | (k', ds) :: m => by
    unfold alapp
    by_cases e : k' = k
    · subst e
      rw [if_pos rfl, if_pos (show k' ∈ List.map (fun x => x.1) ((k', ds) :: m) from List.mem_cons_self)]
      rfl
    · rw [if_neg e, List.map_cons, alapp_keysP (m := m), List.map_cons]
      have hk : ¬ k = k' := fun z => e z.symm
      by_cases h : k ∈ m.map (·.1)
      · rw [if_pos h, if_pos (List.mem_cons_of_mem _ h)]
      · rw [if_neg h, if_neg (fun z => by rcases List.mem_cons.mp z with q | q; exact hk q; exact h q)]
        rfl
theorem fold_nodup : ∀ (E : List EvT) (m : List ((Int × Int) × List Int)), (m.map (·.1)).Nodup → ((E.foldl (fun m e => alapp m e.1 e.2) m).map (·.1)).Nodup
  | [], _, h => h
  | e :: E, m, h => by
    rw [List.foldl_cons]
    refine fold_nodup E _ ?_
    rw [alapp_keysP]
    split
    · exact h
    · next hn =>
      rw [List.nodup_append]
      refine ⟨h, List.nodup_cons.mpr ⟨(by simp), List.nodup_nil⟩, fun a ha b hb => ?_⟩
      rw [List.mem_singleton.mp hb]
      intro z
      exact hn (z ▸ ha)
abbrev bagsD (legs : List (List LegT)) : List ((Int × Int) × List Int) := (evsOf legs).foldl (fun m e => alapp m e.1 e.2) []
theorem plan_eq {legs : List (List LegT)} : law_plan_m legs = (sortK kII ((bagsD legs).map (·.1))).map (fun z1 : Int × Int => (z1.1, z1.2, ((aget (bagsD legs) z1).getD ([])))) := by
  have e : law_plan_m legs = (fun s1 : List ((Int × Int) × List Int) => (sortK kII (s1.map (·.1))).map (fun z1 : Int × Int => (z1.1, z1.2, ((aget s1 z1).getD ([]))))) ((enumI legs).foldl (fun (s1 : (List ((Int × Int) × List Int))) (x1 : Int × (List (Int × Int × Int × Str))) =>
    lt (x1.2.foldl (fun (s2 : (List ((Int × Int) × List Int))) (x2 : Int × Int × Int × Str) =>
      lt (alapp s2 (x2.1, x2.2.1) x1.1) fun bags_2 =>
      bags_2) s1) fun s2 : (List ((Int × Int) × List Int)) =>
    s2) []) := rfl
  rw [e, bags_fold]
theorem bagsD_nums {legs : List (List LegT)} (k : Int × Int) : (aget (bagsD legs) k).getD [] = ((evsOf legs).filter fun e => decide (e.1 = k)).map (·.2) := by
  rw [fold_alapp]; rfl
theorem bagsD_keys {legs : List (List LegT)} {k : Int × Int} : k ∈ (bagsD legs).map (·.1) ↔ ∃ e ∈ evsOf legs, e.1 = k := by
  have h := fold_alapp_mem (k := k) (evsOf legs) []
  constructor
  · intro hk
    rcases h.mp (Classical.byContradiction fun z => by
      cases q : aget (bagsD legs) k with
      | none => exact absurd hk (aget_none.mp q)
      | some v => exact z (by rw [q]; rfl)) with q | q
    · cases q
    · exact q
  · intro he
    have := h.mpr (.inr he)
    exact Classical.byContradiction fun z => by
      rw [aget_none.mpr z] at this; cases this
theorem evs_mem {legs : List (List LegT)} {e : EvT} : e ∈ evsOf legs ↔ ∃ (n : Nat) (ls : List LegT) (l : LegT), legs[n]? = some ls ∧ l ∈ ls ∧ e = ((l.1, l.2.1), (n : Int)) := by
  constructor
  · intro h
    obtain ⟨q, hq, he⟩ := List.mem_flatMap.mp h
    obtain ⟨l, hl, rfl⟩ := List.mem_map.mp he
    obtain ⟨i, hi⟩ := List.getElem?_of_mem hq
    obtain ⟨h1, h2⟩ := enumI_get hi
    exact ⟨i, q.2, l, h2, hl, by rw [h1]⟩
  · rintro ⟨n, ls, l, h1, h2, rfl⟩
    refine List.mem_flatMap.mpr ⟨((n : Int), ls), ?_, List.mem_map.mpr ⟨l, h2, rfl⟩⟩
    unfold enumI
    exact List.mem_map.mpr ⟨(ls, n), List.mem_iff_getElem?.mpr ⟨n, by rw [List.getElem?_zipIdx, h1]; simp⟩, rfl⟩
theorem enumI_pw {α : Type} {xs : List α} : (enumI xs).Pairwise (fun a b => a.1 < b.1) := by
  rw [List.pairwise_iff_getElem]
  intro i j hi hj hij
  have h1 := (enumI_get (List.getElem?_eq_getElem hi)).1
  have h2 := (enumI_get (List.getElem?_eq_getElem hj)).1
  omega
theorem evs_pw {legs : List (List LegT)} (h : ∀ ls ∈ legs, ls.Pairwise (fun a b => a.1 < b.1)) : (evsOf legs).Pairwise (fun a b => a.2 < b.2 ∨ a.2 = b.2 ∧ a.1.1 < b.1.1) := by
  unfold evsOf
  rw [List.pairwise_flatMap]
  refine ⟨fun q hq => ?_, enumI_pw.imp fun {a b} hab x hx y hy => ?_⟩
  · rw [List.pairwise_map]
    obtain ⟨i, hi⟩ := List.getElem?_of_mem hq
    exact (h q.2 (List.mem_of_getElem? (enumI_get hi).2)).imp fun hl => .inr ⟨rfl, hl⟩
  · obtain ⟨_, _, rfl⟩ := List.mem_map.mp hx
    obtain ⟨_, _, rfl⟩ := List.mem_map.mp hy
    exact .inl hab
theorem nums_rise {legs : List (List LegT)} (h : ∀ ls ∈ legs, ls.Pairwise (fun a b => a.1 < b.1)) (k : Int × Int) : ((aget (bagsD legs) k).getD []).Pairwise (· < ·) := by
  rw [bagsD_nums, List.pairwise_map]
  refine ((evs_pw h).filter _).imp_of_mem fun {a b} ha hb hab => ?_
  have e1 := of_decide_eq_true (List.mem_filter.mp ha).2
  have e2 := of_decide_eq_true (List.mem_filter.mp hb).2
  rw [e1, e2] at hab
  omega

end Lw
set_option Elab.async false
set_option linter.all false
set_option maxRecDepth 100000
set_option maxHeartbeats 4000000
namespace Lw
open PySem L2 Sx
/-! ### plain: the drawn plan is walked without a fault -/
theorem leKII (x y : Int × Int) : leK kII x y = leII x y := by
  have hb : bltK [.inl y.1, .inl y.2] [.inl x.1, .inl x.2] = true ↔ y.1 < x.1 ∨ y.1 = x.1 ∧ y.2 < x.2 := by
    show PyProof.Rows.lexLt PyProof.Rows.itemOrd [.inl y.1, .inl y.2] [.inl x.1, .inl x.2] = true ↔ _
    rw [PyProof.Rows.lex_true, PyProof.Rows.lex_true]
    have e1 : ∀ a b : Int, PyProof.Rows.itemOrd.blt (.inl a) (.inl b) = decide (a < b) := fun _ _ => rfl
    have e2 : PyProof.Rows.lexLt PyProof.Rows.itemOrd [] [] = false := rfl
    rw [e1, e1, e1, e1, e2]
    simp only [decide_eq_true_iff, decide_eq_false_iff_not]
    constructor
    · rintro (h | ⟨h1, h | ⟨_, h⟩⟩)
      · exact .inl h
      · by_cases q : y.1 < x.1
        · exact .inl q
        · exact .inr ⟨by omega, h⟩
      · cases h
    · rintro (h | ⟨h1, h2⟩)
      · exact .inl h
      · exact .inr ⟨by omega, .inl h2⟩
  unfold leK
  show (!bltK [.inl y.1, .inl y.2] [.inl x.1, .inl x.2]) = leII x y
  cases q : bltK [.inl y.1, .inl y.2] [.inl x.1, .inl x.2] with
  | true =>
    have := hb.mp q
    cases z : leII x y with
    | false => rfl
    | true => have := leII_iff.mp z; omega
  | false =>
    cases z : leII x y with
    | true => rfl
    | false =>
      have h1 : ¬ (y.1 < x.1 ∨ y.1 = x.1 ∧ y.2 < x.2) := fun h => by rw [hb.mpr h] at q; cases q
      have h2 : ¬ (x.1 < y.1 ∨ x.1 = y.1 ∧ x.2 ≤ y.2) := fun h => by rw [leII_iff.mpr h] at z; cases z
      omega
abbrev keyL (l : LegT) : Int × Int := (l.1, l.2.1)
abbrev keysL (legs : List (List LegT)) : List (Int × Int) := sortK kII ((bagsD legs).map (·.1))
abbrev numsL (legs : List (List LegT)) (k : Int × Int) : List Int := (aget (bagsD legs) k).getD []
abbrev bagL (legs : List (List LegT)) (k : Int × Int) : BagT := (k.1, k.2, numsL legs k)
/-- the legs that are drawn -/
structure LegsOk (net : NetW) (letters : List Letter) (legs : List (List LegT)) : Prop where
  l : legs.length = letters.length
  c : ∀ (n : Nat) (a : Letter) (ls : List LegT), letters[n]? = some a → legs[n]? = some ls → Chain net.2 a.2.2 a.1 a.2.1 ls
  r : ∀ k : Int × Int, 0 ≤ k.2 → k.2 < (net.2.length : Int) → (cntL legs.flatten k : Int) ≤ (rdAt net.2 k.2).2.2.2
  t : ∀ r ∈ net.2, 1 ≤ r.2.2.1
  w : letters.length ≤ 40
theorem mem_keysL {legs : List (List LegT)} {k : Int × Int} : k ∈ keysL legs ↔ ∃ (n : Nat) (ls : List LegT) (l : LegT), legs[n]? = some ls ∧ l ∈ ls ∧ keyL l = k := by
  rw [show k ∈ keysL legs ↔ k ∈ (bagsD legs).map (·.1) from (isort_perm _).mem_iff, bagsD_keys]
  constructor
  · rintro ⟨e, he, hk⟩
    obtain ⟨n, ls, l, h1, h2, h3⟩ := evs_mem.mp he
    exact ⟨n, ls, l, h1, h2, by rw [h3] at hk; exact hk⟩
  · rintro ⟨n, ls, l, h1, h2, h3⟩
    exact ⟨(keyL l, (n : Int)), evs_mem.mpr ⟨n, ls, l, h1, h2, rfl⟩, h3⟩
theorem mem_numsL {legs : List (List LegT)} {k : Int × Int} {x : Int} : x ∈ numsL legs k ↔ ∃ (n : Nat) (ls : List LegT) (l : LegT), x = (n : Int) ∧ legs[n]? = some ls ∧ l ∈ ls ∧ keyL l = k := by
  rw [show numsL legs k = _ from bagsD_nums k, List.mem_map]
  constructor
  · rintro ⟨e, he, hx⟩
    obtain ⟨he, hk⟩ := List.mem_filter.mp he
    obtain ⟨n, ls, l, h1, h2, h3⟩ := evs_mem.mp he
    rw [h3] at hx hk
    exact ⟨n, ls, l, hx.symm, h1, h2, of_decide_eq_true hk⟩
  · rintro ⟨n, ls, l, hx, h1, h2, h3⟩
    exact ⟨(keyL l, (n : Int)), List.mem_filter.mpr ⟨evs_mem.mpr ⟨n, ls, l, h1, h2, rfl⟩, decide_eq_true h3⟩, hx.symm⟩
theorem keysL_nd {legs : List (List LegT)} : (keysL legs).Nodup := (isort_perm _).nodup_iff.mpr (fold_nodup _ _ List.nodup_nil)
theorem keysL_srt {legs : List (List LegT)} : (keysL legs).Pairwise (fun a b => leII a b = true) := (sortK_srt (key := kII) _).imp fun {a b} h => by rw [← leKII]; exact h
theorem LegsOk.rise {net : NetW} {letters : List Letter} {legs : List (List LegT)} (o : LegsOk net letters legs) {n : Nat} {ls : List LegT} (h : legs[n]? = some ls) : ls.Pairwise (fun a b => a.2.2.1 ≤ b.1 ∧ a.1 < b.1) := by
  have hn := (List.getElem?_eq_some_iff.mp h).1
  have hl := o.l
  exact (chain_rise o.t (o.c n _ ls (List.getElem?_eq_getElem (by omega)) h)).2
theorem LegsOk.up {net : NetW} {letters : List Letter} {legs : List (List LegT)} (o : LegsOk net letters legs) : ∀ ls ∈ legs, ls.Pairwise (fun a b => a.1 < b.1) := fun ls h => by
  obtain ⟨n, hn⟩ := List.getElem?_of_mem h
  exact (o.rise hn).imp fun h => h.2
/-- where a letter is behind so many of its legs -/
def spLg (ls : List LegT) : Sp := match ls.getLast? with
  | none => .no
  | some l => .on l.2.1 l.2.2.1
theorem spLg_snoc {ls : List LegT} {l : LegT} : spLg (ls ++ [l]) = .on l.2.1 l.2.2.1 := by
  unfold spLg
  rw [List.getLast?_concat]
theorem chain_at {lines : List Road} {goal : Str} : ∀ {a b : List LegT} {l : LegT} {h : Str} {ready : Int}, Chain lines goal h ready (a ++ l :: b) → LegOk lines goal (cEnd h ready a).1 (cEnd h ready a).2 l
  | [], _, _, _, _, c => c.1
  | _ :: a, _, _, _, _, c => chain_at (a := a) c.2
theorem snoc_of : ∀ (a : List LegT), a = [] ∨ ∃ b p, a = b ++ [p] := fun a => by
  rcases List.eq_nil_or_concat a with h | ⟨b, p, h⟩
  · exact .inl h
  · exact .inr ⟨b, p, by simpa using h⟩
theorem later_spL {net : NetW} {x : Letter} {a b : List LegT} {l : LegT} (c : Chain net.2 x.2.2 x.1 x.2.1 (a ++ l :: b)) : (later_m net x (spLg a) l.1).isAt = true ∧ (later_m net x (spLg a) l.1).h = (rdAt net.2 l.2.1).1 := by
  have o := chain_at c
  rcases snoc_of a with e | ⟨a', p, e⟩
  · subst e
    have ht : x.2.1 ≤ l.1 := o.t
    have e2 : later_m net x (spLg []) l.1 = .at x.1 x.2.1 := by
      unfold later_m
      rw [show (spLg []).isNo = true from rfl, decide_eq_true ht]
      rfl
    rw [e2]
    exact ⟨rfl, o.b.symm⟩
  · subst e
    rw [cEnd_snoc] at o
    have c2 : Chain net.2 x.2.2 x.1 x.2.1 (a' ++ p :: (l :: b)) := by
      rw [List.append_assoc] at c
      exact c
    have op := chain_at c2
    have ht : p.2.2.1 ≤ l.1 := o.t
    have e2 : later_m net x (spLg (a' ++ [p])) l.1 = .at p.2.2.2 p.2.2.1 := by
      rw [spLg_snoc]
      unfold later_m
      rw [show (Sp.on p.2.1 p.2.2.1).isNo = false from rfl, show (Sp.on p.2.1 p.2.2.1).isOn = true from rfl, show (Sp.on p.2.1 p.2.2.1).t = p.2.2.1 from rfl, decide_eq_true ht]
      show cond (decide ((rdAt net.2 p.2.1).2.1 = x.2.2)) _ (Sp.at (rdAt net.2 p.2.1).2.1 _) = _
      rw [← op.e, decide_eq_false o.ne]
      rfl
    rw [e2]
    exact ⟨rfl, o.b.symm⟩
theorem sets_out {v : Sp} {n : Nat} : ∀ (ns : List Int) (st : List Sp), (∀ x ∈ ns, x.toNat ≠ n) → (ns.foldl (fun st x => st.set x.toNat v) st)[n]? = st[n]?
  | [], _, _ => rfl
  | m :: ns, st, h => by
    rw [List.foldl_cons, sets_out ns _ (fun x hx => h x (List.mem_cons_of_mem _ hx)), List.getElem?_set_ne (h m List.mem_cons_self)]
theorem sets_in {v : Sp} {n : Nat} : ∀ (ns : List Int) (st : List Sp), n < st.length → (∃ x ∈ ns, x.toNat = n) → (ns.foldl (fun st x => st.set x.toNat v) st)[n]? = some v
  | [], _, _, ⟨_, h, _⟩ => by cases h
  | m :: ns, st, hl, h => by
    rw [List.foldl_cons]
    by_cases q : ∃ x ∈ ns, x.toNat = n
    · exact sets_in ns _ (by rw [List.length_set]; exact hl) q
    · rw [sets_out ns _ (fun x hx e => q ⟨x, hx, e⟩)]
      obtain ⟨x, hx, e⟩ := h
      rcases List.mem_cons.mp hx with z | z
      · subst z
        rw [e, List.getElem?_set_self hl]
      · exact absurd ⟨x, z, e⟩ q
/-- the walk behind the bags of so many keys -/
structure WkI (letters : List Letter) (legs : List (List LegT)) (keys : List (Int × Int)) (i : Nat) (st : List Sp) : Prop where
  l : st.length = letters.length
  s : ∀ (n : Nat) (ls : List LegT), legs[n]? = some ls → ∃ a b, ls = a ++ b ∧ st[n]? = some (spLg a) ∧ (∀ l ∈ a, keyL l ∈ keys.take i) ∧ (∀ l ∈ b, keyL l ∈ keys.drop i)
theorem drop_at {α : Type} {xs : List α} {i : Nat} {x : α} (h : xs[i]? = some x) : xs.drop i = x :: xs.drop (i + 1) := by
  obtain ⟨hl, e⟩ := List.getElem?_eq_some_iff.mp h
  rw [List.drop_eq_getElem_cons hl, e]
theorem take_at {α : Type} {xs : List α} {i : Nat} {x : α} (h : xs[i]? = some x) : xs.take (i + 1) = xs.take i ++ [x] := by
  rw [List.take_add_one, h]; rfl
theorem wki_cut {keys : List (Int × Int)} {i : Nat} {k : Int × Int} {ls a b : List LegT} (hk : keys[i]? = some k) (srt : keys.Pairwise (fun a b => leII a b = true)) (nd : keys.Nodup) (up : ls.Pairwise (fun a b => a.1 < b.1)) (e : ls = a ++ b) (ha : ∀ l ∈ a, keyL l ∈ keys.take i) (hb : ∀ l ∈ b, keyL l ∈ keys.drop i) : (∃ l b', b = l :: b' ∧ keyL l = k ∧ ∀ x ∈ b', keyL x ∈ keys.drop (i + 1)) ∨ ((∀ l ∈ b, keyL l ∈ keys.drop (i + 1)) ∧ ∀ l ∈ ls, keyL l ≠ k) := by
  rw [drop_at hk] at hb
  have sd : (k :: keys.drop (i + 1)).Pairwise (fun a b => leII a b = true) := by rw [← drop_at hk]; exact List.Pairwise.sublist (List.drop_sublist _ _) srt
  have hge := (List.pairwise_cons.mp sd).1
  have upb : b.Pairwise (fun a b => a.1 < b.1) := (List.pairwise_append.mp (e ▸ up)).2.1
  by_cases q : ∃ l ∈ b, keyL l = k
  · refine .inl ?_
    obtain ⟨l, hl, hlk⟩ := q
    cases b with
    | nil => cases hl
    | cons h b' =>
      have hu := (List.pairwise_cons.mp upb).1
      have hkh : k.1 ≤ h.1 := by
        rcases List.mem_cons.mp (hb h List.mem_cons_self) with z | z
        · rw [← z]; exact Int.le_refl _
        · have := leII_iff.mp (hge _ z)
          have e1 : (keyL h).1 = h.1 := rfl
          omega
      have hh : keyL h = k := by
        rcases List.mem_cons.mp hl with z | z
        · rw [← z]; exact hlk
        · have h1 := hu l z
          have h2 : l.1 = k.1 := by rw [← hlk]
          omega
      refine ⟨h, b', rfl, hh, fun x hx => ?_⟩
      rcases List.mem_cons.mp (hb x (List.mem_cons_of_mem _ hx)) with z | z
      · have h1 := hu x hx
        have h2 : x.1 = h.1 := by
          have e2 : keyL x = keyL h := z.trans hh.symm
          exact (Prod.mk.inj e2).1
        omega
      · exact z
  · refine .inr ⟨fun l hl => ?_, fun l hl z => ?_⟩
    · rcases List.mem_cons.mp (hb l hl) with z | z
      · exact absurd ⟨l, hl, z⟩ q
      · exact z
    · rw [e] at hl
      rcases List.mem_append.mp hl with w | w
      · have h1 := ha l w
        rw [z] at h1
        have h2 := nd
        rw [← List.take_append_drop i keys, drop_at hk] at h2
        exact (List.nodup_append.mp h2).2.2 k h1 k List.mem_cons_self rfl
      · exact q ⟨l, w, z⟩
theorem wki_0 {net : NetW} {letters : List Letter} {legs : List (List LegT)} (o : LegsOk net letters legs) : WkI letters legs (keysL legs) 0 (letters.map fun _ => Sp.no) := by
  refine ⟨List.length_map .., fun n ls h => ⟨[], ls, rfl, ?_, fun _ h => by (cases h), fun l hl => ?_⟩⟩
  · have hn := (List.getElem?_eq_some_iff.mp h).1
    have hl := o.l
    rw [List.getElem?_map, List.getElem?_eq_getElem (by omega)]
    rfl
  · exact mem_keysL.mpr ⟨n, ls, l, h, hl, rfl⟩
theorem wki_step {net : NetW} {letters : List Letter} {legs : List (List LegT)} (o : LegsOk net letters legs) {i : Nat} {k : Int × Int} {st : List Sp} (hk : (keysL legs)[i]? = some k) (w : WkI letters legs (keysL legs) i st) : WkI letters legs (keysL legs) (i + 1) ((numsL legs k).foldl (fun st x => st.set x.toNat (Sp.on k.2 (k.1 + (Net_road_m net k.2).2.2.1))) st) := by
  refine ⟨(sets_len _ _).trans w.l, fun n ls h => ?_⟩
  obtain ⟨a, b, e, hs, ha, hb⟩ := w.s n ls h
  have hn := (List.getElem?_eq_some_iff.mp h).1
  have hl := o.l
  have hwl := w.l
  rcases wki_cut hk keysL_srt keysL_nd (o.up ls (List.mem_of_getElem? h)) e ha hb with ⟨l, b', e2, h2, h3⟩ | ⟨h2, h3⟩
  · refine ⟨a ++ [l], b', by rw [e, e2]; simp, ?_, fun x hx => ?_, h3⟩
    · rw [sets_in _ _ (by omega) ⟨(n : Int), mem_numsL.mpr ⟨n, ls, l, rfl, h, by rw [e, e2]; simp, h2⟩, Int.toNat_natCast n⟩, spLg_snoc]
      have c := o.c n _ ls (List.getElem?_eq_getElem (by omega)) h
      rw [e, e2] at c
      have ol := chain_at c
      have k1 : k.1 = l.1 := by rw [← h2]
      have k2 : k.2 = l.2.1 := by rw [← h2]
      rw [k1, k2, ol.d]
      rfl
    · rw [take_at hk]
      rcases List.mem_append.mp hx with z | z
      · exact List.mem_append_left _ (ha x z)
      · rw [List.mem_singleton.mp z, h2]
        exact List.mem_append_right _ List.mem_cons_self
  · refine ⟨a, b, e, ?_, fun x hx => ?_, h2⟩
    · rw [sets_out _ _ (fun x hx z => ?_)]
      · exact hs
      · obtain ⟨m, ls', l, h4, h5, h6, h7⟩ := mem_numsL.mp hx
        have : m = n := by rw [h4] at z; omega
        subst this
        rw [h] at h5
        cases h5
        exact h3 l h6 h7
    · rw [take_at hk]
      exact List.mem_append_left _ (ha x hx)
theorem wk_wki {net : NetW} {letters : List Letter} {legs : List (List LegT)} (o : LegsOk net letters legs) : ∀ i, i ≤ (keysL legs).length → WkI letters legs (keysL legs) i (wkAt net letters (law_plan_m legs) i).2.2.1
  | 0, _ => wki_0 o
  | i + 1, h => by
    have ih := wk_wki o i (by omega)
    have hk : (keysL legs)[i]? = some (keysL legs)[i] := List.getElem?_eq_getElem (by omega)
    have hb : (law_plan_m legs)[i]? = some (bagL legs (keysL legs)[i]) := by
      rw [plan_eq, List.getElem?_map, hk]
      rfl
    rw [wkAt_succ hb, send_eq]
    have e := (wkAt_net (net := net) (letters := letters) (plan := law_plan_m legs) i).1
    show WkI letters legs (keysL legs) (i + 1) (List.foldl _ _ _)
    rw [e]
    exact wki_step o hk ih
theorem wk_last {net : NetW} {letters : List Letter} {plan : List BagT} {i : Nat} {b : BagT} (h : plan[i]? = some b) : (wkAt net letters plan (i + 1)).2.2.2 = some (b.1, b.2.1) := by
  rw [wkAt_succ h, send_eq]
theorem cnt_flat {legs : List (List LegT)} {k : Int × Int} : (numsL legs k).length = cntL legs.flatten k := by
  rw [show numsL legs k = _ from bagsD_nums k, List.length_map, ← List.countP_eq_length_filter]
  have key : ∀ (xs : List (List LegT)) (j : Nat), (((xs.zipIdx j).map (fun q : List LegT × Nat => ((q.2 : Int), q.1))).flatMap (fun q : Int × List LegT => q.2.map (fun l : LegT => (((l.1, l.2.1), q.1) : EvT)))).countP (fun e : EvT => decide (e.1 = k)) = cntL xs.flatten k := by
    intro xs
    induction xs with
    | nil => intro j; rfl
    | cons x xs ih =>
      intro j
      rw [List.zipIdx_cons, List.map_cons, List.flatMap_cons, List.countP_append, ih, List.flatten_cons, List.countP_map]
      show _ + xs.flatten.countP _ = (x ++ xs.flatten).countP _
      rw [List.countP_append]
      rfl
  exact key legs 0
theorem plan_fineL {net : NetW} {letters : List Letter} {legs : List (List LegT)} (o : LegsOk net letters legs) : PlanFine net letters (law_plan_m legs) := by
  have hz : ∀ k ∈ keysL legs, (0 ≤ k.2 ∧ k.2 < (net.2.length : Int)) := fun k hk => by
    obtain ⟨n, ls, l, h1, h2, h3⟩ := mem_keysL.mp hk
    have hn := (List.getElem?_eq_some_iff.mp h1).1
    have hl := o.l
    obtain ⟨a, b, e⟩ := List.append_of_mem h2
    have c := o.c n _ ls (List.getElem?_eq_getElem (by omega)) h1
    rw [e] at c
    rw [← h3]
    exact (chain_at c).r
  have hlen : ∀ k, (numsL legs k).length ≤ 40 := fun k => by
    have hp := nums_rise o.up k
    have hb : ∀ x ∈ numsL legs k, 0 ≤ x ∧ x < (letters.length : Int) := fun x hx => by
      obtain ⟨n, ls, l, h0, h1, _⟩ := mem_numsL.mp hx
      have hn := (List.getElem?_eq_some_iff.mp h1).1
      have hl := o.l
      omega
    have hw := o.w
    have : ∀ (ns : List Int) (lo : Int), (∀ x ∈ ns, lo ≤ x ∧ x < (letters.length : Int)) → ns.Pairwise (· < ·) → lo ≤ (letters.length : Int) → (ns.length : Int) ≤ (letters.length : Int) - lo := by
      intro ns
      induction ns with
      | nil => intro lo _ _ h; show ((0 : Nat) : Int) ≤ _; omega
      | cons n ns ih =>
        intro lo h p _
        have pc := List.pairwise_cons.mp p
        have hn := h n List.mem_cons_self
        have := ih (n + 1) (fun x hx => ⟨by have := pc.1 x hx; omega, (h x (List.mem_cons_of_mem _ hx)).2⟩) pc.2 (by omega)
        rw [List.length_cons]
        omega
    have := this _ 0 hb hp (by omega)
    show (numsL legs k).length ≤ 40
    omega
  refine ⟨fun i b hb => ?_, fun b hb => ?_, by have := o.w; omega⟩
  · have hpl := hb
    rw [plan_eq, List.getElem?_map] at hb
    cases hk : (keysL legs)[i]? with
    | none => rw [show (sortK kII ((bagsD legs).map (·.1)))[i]? = none from hk] at hb; cases hb
    | some k =>
      rw [show (sortK kII ((bagsD legs).map (·.1)))[i]? = some k from hk] at hb
      have hb : bagL legs k = b := Option.some.inj hb
      subst hb
      obtain ⟨en, el⟩ := wkAt_net (net := net) (letters := letters) (plan := law_plan_m legs) i
      have hil := (List.getElem?_eq_some_iff.mp hk).1
      have w := wk_wki o i (by omega)
      have hkm := List.mem_of_getElem? hk
      have hr := hz k hkm
      refine ⟨?_, ?_, ?_, ?_, ?_, nums_rise o.up k, ?_⟩
      · obtain ⟨n, ls, l, h1, h2, h3⟩ := mem_keysL.mp hkm
        exact List.ne_nil_of_mem (mem_numsL.mpr ⟨n, ls, l, rfl, h1, h2, h3⟩)
      · intro t ht
        cases i with
        | zero => cases ht
        | succ j =>
          have hj : (keysL legs)[j]? = some (keysL legs)[j] := List.getElem?_eq_getElem (by omega)
          have hbj : (law_plan_m legs)[j]? = some (bagL legs (keysL legs)[j]) := by
            rw [plan_eq, List.getElem?_map, hj]
            rfl
          rw [wk_last hbj] at ht
          have ht : (keysL legs)[j] = t := Option.some.inj ht
          subst ht
          have hk' : (keysL legs)[j + 1] = k := (List.getElem?_eq_some_iff.mp hk).2
          have h1 := List.pairwise_iff_getElem.mp (keysL_srt (legs := legs)) j (j + 1) (by omega) hil (by omega)
          have h2 := List.pairwise_iff_getElem.mp (List.nodup_iff_pairwise_ne.mp (keysL_nd (legs := legs))) j (j + 1) (by omega) hil (by omega)
          rw [hk'] at h1 h2
          show leII k (keysL legs)[j] = false
          cases q : leII k (keysL legs)[j] with
          | false => rfl
          | true =>
            have a1 := leII_iff.mp h1
            have a2 := leII_iff.mp q
            exact absurd (Prod.ext (by omega) (by omega)) h2
      · rw [en]; exact hr
      · rw [en]
        have := o.r k hr.1 hr.2
        rw [← cnt_flat] at this
        exact this
      · intro x hx
        rw [el]
        obtain ⟨n, ls, l, h0, h1, _⟩ := mem_numsL.mp hx
        have hn := (List.getElem?_eq_some_iff.mp h1).1
        have hl := o.l
        omega
      · intro x hx
        obtain ⟨n, ls, l, h0, h1, h2, h3⟩ := mem_numsL.mp hx
        have hn := (List.getElem?_eq_some_iff.mp h1).1
        have hl := o.l
        obtain ⟨a, b, e, hs, ha, hb⟩ := w.s n ls h1
        have ex : x.toNat = n := by omega
        rcases wki_cut hk keysL_srt keysL_nd (o.up ls (List.mem_of_getElem? h1)) e ha hb with ⟨l', b', e2, h4, h5⟩ | ⟨_, h5⟩
        · have hle : letters[n]? = some letters[n] := List.getElem?_eq_getElem (by omega)
          have c := o.c n _ ls hle h1
          rw [e, e2] at c
          obtain ⟨r1, r2⟩ := later_spL c
          have k1 : k.1 = l'.1 := by rw [← h4]
          have k2 : k.2 = l'.2.1 := by rw [← h4]
          show ((later_m _ (List.getD _ x.toNat _) (List.getD _ x.toNat _) k.1).isAt && decide ((later_m _ (List.getD _ x.toNat _) (List.getD _ x.toNat _) k.1).h = (Net_road_m _ k.2).1)) = true
          rw [en, el, ex, List.getD_eq_getElem?_getD, List.getD_eq_getElem?_getD, hs, hle, Option.getD_some, Option.getD_some, k1, k2, r1, r2]
          exact decide_eq_true rfl
        · exact absurd h3 (h5 l h2)
  · rw [plan_eq] at hb
    obtain ⟨k, _, rfl⟩ := List.mem_map.mp hb
    exact Nat.le_trans (hlen k) (by decide)
theorem legsOk_of {names : List Str} {base_ : Int} {lines : List Road} {letters : List Letter} {script : List Int} {hops : Int} (hh : hops = 2 ∨ hops = 3) (og : OkG (names, lines)) (o : OkLs names base_ letters) : LegsOk (names, lines) letters (law_legs_m lines letters script hops) := by
  obtain ⟨m, k⟩ := legs_ok (lines := lines) (letters := letters) (cells := script) hh (fun r hr => (og.r r hr).w.1) o.l
  exact ⟨k.l, k.c, k.d.r, fun r hr => (og.r r hr).t.1, o.l⟩
theorem plan_fine {names : List Str} {base_ : Int} {lines : List Road} {letters : List Letter} {script : List Int} {hops : Int} (hh : hops = 2 ∨ hops = 3) (og : OkG (names, lines)) (o : OkLs names base_ letters) : PlanFine (names, lines) letters (law_plan_m (law_legs_m lines letters script hops)) := plan_fineL (legsOk_of hh og o)

end Lw
set_option Elab.async false
set_option linter.all false
set_option maxRecDepth 100000
set_option maxHeartbeats 4000000
namespace Lw
open PySem L2 Sx
abbrev bagE (b : BagT) : D := D.tup [(D.int b.1), (D.int b.2.1), ((tlE D.int) b.2.2)]
structure OkThing (d : D) : Prop where
  any : Dp' 10 d
  bag : (toBag d).2.2.length ≤ 10000
theorem OkThing.a {d : D} (o : OkThing d) : Any d := Dp'.mono o.any (by decide)
theorem OkThing.el {d : D} (o : OkThing d) : ∀ x ∈ d.els, Any x := fun x hx => Dp'.mono (Dp'.els o.any x hx) (by decide)
theorem ixD_any {d : D} {i : Nat} (o : OkThing d) (h : i < d.els.length) : Any (d.ix i) := any_ix o.a h
theorem seq_any {d : D} (h : Any d) : ∀ x ∈ d.els, Any x := fun x hx => Dp'.els h x hx
theorem num_int {d : D} (h : is_number_x_m d = true) : d = .int d.toI := D.isI_eta (D.isI_of h)
theorem nums_re : ∀ ds : List D, (ds.map (fun z1 : D => (is_number_x_m z1))).all id = true → ds = (ds.map D.toI).map D.int
  | [], _ => rfl
  | d :: ds, h => by
    rw [List.map_cons, List.all_cons, Bool.and_eq_true] at h
    rw [List.map_cons, List.map_cons, ← nums_re ds h.2, ← num_int (d := d) h.1]
theorem len3 {ds : List D} (h : decide (((D.tup ds).els.length : Int) = 3) = true) : ∃ a b c, ds = [a, b, c] := by
  have h := of_decide_eq_true h
  have h : (ds.length : Int) = 3 := h
  match ds, h with
  | [a, b, c], _ => exact ⟨a, b, c, rfl⟩
  | [], h => cases h
  | [_], h => cases h
  | [_, _], h => cases h
  | _ :: _ :: _ :: _ :: _, h => simp at h; omega
theorem nnF {c r : Bool} (h : cond c false r = true) : c = false ∧ r = true := by
  cases c with
  | true => cases h
  | false => exact ⟨rfl, h⟩
theorem bag_re1 {d : D} (h : is_bag_x_m d = true) : d = bagE (toBag d) ∧ D.eq (d.ix 2) ((tlE D.int) ([])) = false := by
  unfold is_bag_x_m at h
  obtain ⟨h1, h⟩ := nnF h
  obtain ⟨h2, h⟩ := nnF h
  obtain ⟨h3, h4⟩ := Bool.and_eq_true_iff.mp h
  obtain ⟨h5, h6⟩ := Bool.or_eq_false_iff.mp h1
  obtain ⟨h7, h8⟩ := Bool.or_eq_false_iff.mp h2
  obtain ⟨h9, h10⟩ := Bool.or_eq_false_iff.mp h8
  have h5 : d.is .tuple = true := by simpa using h5
  have h6 : decide ((d.els.length : Int) = 3) = true := by simpa using h6
  have h7 : is_number_x_m (d.ix 0) = true := by simpa using h7
  have h9 : is_number_x_m (d.ix 1) = true := by simpa using h9
  have h10 : (d.ix 2).is .tuple = true := by simpa using h10
  have h3 : D.eq (d.ix 2) ((tlE D.int) ([])) = false := by simpa using h3
  refine ⟨?_, h3⟩
  cases d with
  | tup ds =>
    obtain ⟨a, b, c, rfl⟩ := len3 h6
    have g7 : is_number_x_m a = true := h7
    have g9 : is_number_x_m b = true := h9
    have g10 : c.is .tuple = true := h10
    have g4 : (c.els.map (fun z1 : D => (is_number_x_m z1))).all id = true := h4
    cases c with
    | tup es =>
      have e : es = (es.map D.toI).map D.int := nums_re es g4
      show D.tup [a, b, D.tup es] = D.tup [D.int a.toI, D.int b.toI, tlE D.int (es.map D.toI)]
      rw [← num_int g7, ← num_int g9]
      show _ = D.tup [a, b, D.tup ((es.map D.toI).map D.int)]
      rw [← e]
    | _ => cases g10
  | _ => cases h5
theorem bag_re {d : D} (_o : OkThing d) (h : (!(is_bag_x_m d)) = false) : d = bagE (toBag d) := (bag_re1 (by simpa using h)).1
theorem bag_same {d : D} : law_is_bag_m d = is_bag_x_m d := by
  unfold law_is_bag_m is_bag_x_m
  show cond ((!(d.is .tuple)) || ((!decide ((d.els.length : Int) = 3)) || ((!((d.ix 2).is .tuple)) || (D.eq (d.ix 2) ((tlE D.int) ([])))))) false ((is_number_x_m (d.ix 0)) && ((is_number_x_m (d.ix 1)) && (((d.ix 2).els.map (fun z1 : D => (is_number_x_m z1))).all id))) = _
  generalize d.is .tuple = a1
  generalize decide ((d.els.length : Int) = 3) = a2
  generalize (d.ix 2).is .tuple = a3
  generalize D.eq (d.ix 2) ((tlE D.int) ([])) = a4
  generalize is_number_x_m (d.ix 0) = a5
  generalize is_number_x_m (d.ix 1) = a6
  generalize ((d.ix 2).els.map (fun z1 : D => (is_number_x_m z1))).all id = a7
  revert a1 a2 a3 a4 a5 a6 a7
  decide
theorem lbag_re {d : D} (o : OkThing d) (h : (!(law_is_bag_m d)) = false) : d = bagE (toBag d) := bag_re o (by rw [bag_same] at h; exact h)
theorem toBag_E (b : BagT) : toBag (bagE b) = b := by
  obtain ⟨t, r, ns⟩ := b
  show (t, r, (ns.map D.int).map D.toI) = _
  rw [List.map_map]
  exact congrArg (fun z => (t, r, z)) (List.map_id ns)
theorem eq_nil (ns : List Int) : D.eq (tlE D.int ns) (tlE D.int []) = decide (ns = []) := EqS.D (eqs_tl eqs_int) (fun _ _ => trivial) (fun _ _ => trivial)
theorem bag_E (b : BagT) : is_bag_x_m (bagE b) = is_bag_m b := by
  have h1 : is_bag_x_m (bagE b) = ((!(D.eq (tlE D.int b.2.2) (tlE D.int []))) && (((b.2.2.map D.int).map (fun z1 : D => (is_number_x_m z1))).all id)) := rfl
  have h2 : ((b.2.2.map D.int).map (fun z1 : D => (is_number_x_m z1))).all id = true := by
    rw [List.map_map, List.all_map, List.all_eq_true]
    exact fun _ _ => rfl
  rw [h1, h2, eq_nil, Bool.and_true, Bool.eq_iff_iff, is_bag_iff]
  simp
theorem okE {b : BagT} (h : b.2.2.length ≤ 10000) : OkThing (bagE b) := ⟨Dp'.mono ((eqs_t3 (e := fun x : BagT => bagE x) eqs_int eqs_int (eqs_tl eqs_int)).ex b ⟨trivial, trivial, fun _ _ => trivial⟩) (by decide), by rw [toBag_E]; exact h⟩
theorem amissx_E (s : WalkW) (b : BagT) : Walk_amiss_x_m s (bagE b) = Walk_amiss_m s b := by
  unfold Walk_amiss_x_m
  rw [toBag_E, bag_E]
  rfl
theorem amissx_bad {s : WalkW} {d : D} (h : is_bag_x_m d = false) : Walk_amiss_x_m s d = some "bag" := by
  unfold Walk_amiss_x_m
  rw [h]
  rfl
theorem amissx_fine {s : WalkW} {d : D} (h : Walk_amiss_x_m s d = none) : d = bagE (toBag d) ∧ Fine s (toBag d) := by
  cases q : is_bag_x_m d with
  | false => rw [amissx_bad q] at h; cases h
  | true =>
    have e := (bag_re1 q).1
    have h2 : Walk_amiss_x_m s (bagE (toBag d)) = none := by rw [← e]; exact h
    rw [amissx_E] at h2
    exact ⟨e, amiss_none.mp h2⟩
theorem strs6 : PySem.PyData.strOk "bag" = true ∧ PySem.PyData.strOk "order" = true ∧ PySem.PyData.strOk "road" = true ∧ PySem.PyData.strOk "room" = true ∧ PySem.PyData.strOk "letter" = true ∧ PySem.PyData.strOk "there" = true := by decide +kernel
theorem amissx_str {s : WalkW} {d : D} {r : Str} (h : Walk_amiss_x_m s d = some r) : PySem.PyData.strOk r = true := by
  obtain ⟨s1, s2, s3, s4, s5, s6⟩ := strs6
  have nn : ∀ {c : Bool} {a : Str} {o : Option Str}, PySem.PyData.strOk a = true → (o = some r → PySem.PyData.strOk r = true) → cond c (some a) o = some r → PySem.PyData.strOk r = true := fun {c a o} ha ho h => by
    cases c with
    | true => cases h; exact ha
    | false => exact ho h
  exact nn s1 (nn s2 (nn s3 (nn s4 (nn s5 (nn s6 (fun h => by cases h)))))) h

end Lw
set_option Elab.async false
set_option linter.all false
set_option maxRecDepth 100000
set_option maxHeartbeats 4000000
namespace Lw
open PySem L2 Sx
def xstep (turn : Option Int) (s1 : Option (List Sp) × WalkW) (x1 : Int × D) : Cf (Except Exn (List Sp)) (Option (List Sp) × WalkW) (Option (List Sp) × WalkW) :=
    lt (Walk_amiss_x_m s1.2 x1.2) fun reason : Option Str =>
    cond (!reason.isNone) (
      .rt (.error (Exn.BadBag x1.1 (reason.getD "")))) (
    lt (cond ((s1.1.isNone) && ((!turn.isNone) && (decide ((turn.getD 0) < (toBag x1.2).1)))) (
        lt (some s1.2.2.2.1) fun kept_2 : Option (List Sp) =>
        kept_2) (
        s1.1)) fun j2 : Option (List Sp) =>
    lt (Walk_send_m s1.2 (toBag x1.2)) fun walk_2 =>
    .nx (j2, walk_2))
def lystep (lines : List Road) (goal : Str) (number : Int) (s1 : Str × Int) (x1 : BagT) : Cf Bool (Str × Int) (Str × Int) :=
    cond (decide (number ∈ x1.2.2)) (
      lt ((lines.getD (x1.2.1).toNat ("", "", 0, 0)).2.1, (x1.1 + (lines.getD (x1.2.1).toNat ("", "", 0, 0)).2.2.1)) fun here_2 : Str × Int =>
      cond (decide (here_2.1 = goal)) (
        .rt false) (
        .nx here_2)) (
      .nx s1)
theorem xstep_nx {turn : Option Int} {s s' : Option (List Sp) × WalkW} {x : Int × D} (h : xstep turn s x = .nx s') : Walk_amiss_x_m s.2 x.2 = none ∧ s'.2 = Walk_send_m s.2 (toBag x.2) ∧ (s'.1 = s.1 ∨ s'.1 = some s.2.2.2.1) := by
  unfold xstep at h
  simp only [lt] at h
  cases q : Walk_amiss_x_m s.2 x.2 with
  | some r => rw [q] at h; cases h
  | none =>
    rw [q] at h
    have h : (Cf.nx (cond ((s.1.isNone) && ((!turn.isNone) && (decide ((turn.getD 0) < (toBag x.2).1)))) (some s.2.2.2.1) s.1, Walk_send_m s.2 (toBag x.2)) : Cf (Except Exn (List Sp)) (Option (List Sp) × WalkW) (Option (List Sp) × WalkW)) = .nx s' := h
    cases h
    refine ⟨rfl, rfl, ?_⟩
    show (cond _ _ _ = _ ∨ cond _ _ _ = _)
    cases ((s.1.isNone) && ((!turn.isNone) && (decide ((turn.getD 0) < (toBag x.2).1))))
    · exact .inl rfl
    · exact .inr rfl
theorem xstep_go {turn : Option Int} {s : Option (List Sp) × WalkW} {x : Int × D} (h : Walk_amiss_x_m s.2 x.2 = none) : ∃ k, xstep turn s x = .nx (k, Walk_send_m s.2 (toBag x.2)) := by
  unfold xstep
  simp only [lt]
  rw [h]
  exact ⟨_, rfl⟩
theorem xstep_no {turn : Option Int} {s : Option (List Sp) × WalkW} {x : Int × D} {r : Str} (h : Walk_amiss_x_m s.2 x.2 = some r) : xstep turn s x = .rt (.error (.BadBag x.1 r)) := by
  unfold xstep
  simp only [lt]
  rw [h]
  rfl
theorem xstep_ct {turn : Option Int} {s s' : Option (List Sp) × WalkW} {x : Int × D} (h : xstep turn s x = .ct s') : False := by
  cases q : Walk_amiss_x_m s.2 x.2 with
  | some r => rw [xstep_no q] at h; cases h
  | none => obtain ⟨k, e⟩ := xstep_go (turn := turn) q; rw [e] at h; cases h
theorem xstep_bk {turn : Option Int} {s s' : Option (List Sp) × WalkW} {x : Int × D} (h : xstep turn s x = .bk s') : False := by
  cases q : Walk_amiss_x_m s.2 x.2 with
  | some r => rw [xstep_no q] at h; cases h
  | none => obtain ⟨k, e⟩ := xstep_go (turn := turn) q; rw [e] at h; cases h
structure JX (net : NetW) (letters : List Letter) (s : Option (List Sp) × WalkW) : Prop where
  w : OkWk s.2
  n : s.2.1 = net
  l : s.2.2.1 = letters
  k : ∀ k, s.1 = some k → ∀ x ∈ k, x.isOn = true → 0 ≤ x.r ∧ x.r < (net.2.length : Int)
theorem jx_0 {net : NetW} {letters : List Letter} : JX net letters (none, Walk_init_o_m net letters) := ⟨okwk_init, rfl, rfl, fun _ h => by cases h⟩
theorem jx_step {net : NetW} {letters : List Letter} {turn : Option Int} {s s' : Option (List Sp) × WalkW} {x : Int × D} (j : JX net letters s) (h : xstep turn s x = .nx s') : JX net letters s' := by
  obtain ⟨h1, h2, h3⟩ := xstep_nx h
  have f := (amissx_fine h1).2
  refine ⟨by rw [h2]; exact send_ok j.w f, by rw [h2, send_eq]; exact j.n, by rw [h2, send_eq]; exact j.l, fun k hk => ?_⟩
  rcases h3 with e | e
  · exact j.k k (by rw [← e]; exact hk)
  · rw [hk] at e
    cases e
    intro x hx hon
    have := j.w.r x hx hon
    rw [j.n] at this
    exact this
theorem js_x {net : NetW} {letters : List Letter} {turn : Option Int} {s : Option (List Sp) × WalkW} {x : Int × D} {Jb : Option (List Sp) × WalkW → Prop} (j : JX net letters s) : (∀ s', xstep turn s x = .nx s' → JX net letters s') ∧ (∀ s', xstep turn s x = .ct s' → JX net letters s') ∧ ∀ s', xstep turn s x = .bk s' → Jb s' := ⟨fun _ e => jx_step j e, fun _ e => (xstep_ct e).elim, fun _ e => (xstep_bk e).elim⟩
theorem sx_eq (net : NetW) (letters : List Letter) (plan : List D) (turn : Option Int) : stops_at_x_m net letters plan turn = bndV (loop (xstep turn) (enumI plan) (none, Walk_init_o_m net letters)) (fun s1 => .ok ((cond (s1.1.isNone) (some s1.2.2.2.1) s1.1).getD [])) := rfl
/-- how it ends -/
theorem xloop_end {net : NetW} {letters : List Letter} {turn : Option Int} : ∀ (xs : List (Int × D)) (s : Option (List Sp) × WalkW), JX net letters s → (∃ s', (loop (xstep turn) xs s : Cf (Except Exn (List Sp)) Empty (Option (List Sp) × WalkW)) = .nx s' ∧ JX net letters s') ∨ ∃ p r, (loop (xstep turn) xs s : Cf (Except Exn (List Sp)) Empty (Option (List Sp) × WalkW)) = .rt (.error (.BadBag p r)) ∧ PySem.PyData.strOk r = true
  | [], s, j => .inl ⟨s, rfl, j⟩
  | x :: xs, s, j => by
    cases q : Walk_amiss_x_m s.2 x.2 with
    | some r => exact .inr ⟨x.1, r, loop_rt (xstep_no q), amissx_str q⟩
    | none =>
      obtain ⟨k, e⟩ := xstep_go (turn := turn) q
      rw [show (loop (xstep turn) (x :: xs) s : Cf (Except Exn (List Sp)) Empty (Option (List Sp) × WalkW)) = loop (xstep turn) xs (k, Walk_send_m s.2 (toBag x.2)) from loop_nx e]
      exact xloop_end xs _ (jx_step j e)
theorem sx_end (net : NetW) (letters : List Letter) (plan : List D) (turn : Option Int) : (∃ v, stops_at_x_m net letters plan turn = .ok v ∧ ∀ x ∈ v, x.isOn = true → 0 ≤ x.r ∧ x.r < (net.2.length : Int)) ∨ ∃ p r, stops_at_x_m net letters plan turn = .error (.BadBag p r) ∧ PySem.PyData.strOk r = true := by
  rw [sx_eq]
  rcases xloop_end (turn := turn) (enumI plan) _ (jx_0 (net := net) (letters := letters)) with ⟨s', e, j⟩ | ⟨p, r, e, h⟩
  · rw [e]
    refine .inl ⟨_, rfl, ?_⟩
    cases q : s'.1 with
    | none =>
      intro x hx hon
      have := j.w.r x hx hon
      rw [j.n] at this
      exact this
    | some k => exact j.k k q
  · rw [e]
    exact .inr ⟨p, r, rfl, h⟩
theorem sx_rng {net : NetW} {letters : List Letter} {plan : List D} {turn : Option Int} {v : List Sp} (h : stops_at_x_m net letters plan turn = .ok v) : ∀ x ∈ v, x.isOn = true → 0 ≤ x.r ∧ x.r < (net.2.length : Int) := by
  rcases sx_end net letters plan turn with ⟨v', e, q⟩ | ⟨p, r, e, _⟩
  · rw [e] at h; cases h; exact q
  · rw [e] at h; cases h
theorem sx_err {net : NetW} {letters : List Letter} {plan : List D} {turn : Option Int} {e : Exn} (h : stops_at_x_m net letters plan turn = .error e) : ∃ p r, e = .BadBag p r ∧ PySem.PyData.strOk r = true := by
  rcases sx_end net letters plan turn with ⟨v', q, _⟩ | ⟨p, r, q, hr⟩
  · rw [q] at h; cases h
  · rw [q] at h; cases h; exact ⟨p, r, rfl, hr⟩
theorem arrx_err {net : NetW} {letters : List Letter} {plan : List D} {e : Exn} (h : arrivals_x_m net letters plan = .error e) : stops_at_x_m net letters plan none = .error e := by
  unfold arrivals_x_m at h
  simp only [lt] at h
  cases q : stops_at_x_m net letters plan none with
  | ok v => rw [q] at h; cases h
  | error e' => rw [q] at h; cases h; rfl
theorem spsx_err {net : NetW} {letters : List Letter} {plan : List D} {t : Int} {e : Exn} (h : spots_at_x_m net letters plan t = .error e) : stops_at_x_m net letters plan (some t) = .error e := by
  unfold spots_at_x_m at h
  cases q : stops_at_x_m net letters plan (some t) with
  | ok v => rw [q] at h; cases h
  | error e' => rw [q] at h; cases h; rfl
theorem arrx_of {net : NetW} {letters : List Letter} {plan : List D} {e : Exn} (h : stops_at_x_m net letters plan none = .error e) : arrivals_x_m net letters plan = .error e := by
  unfold arrivals_x_m
  simp only [lt]
  rw [h]
  rfl
theorem spsx_of {net : NetW} {letters : List Letter} {plan : List D} {t : Int} {e : Exn} (h : stops_at_x_m net letters plan (some t) = .error e) : spots_at_x_m net letters plan t = .error e := by
  unfold spots_at_x_m
  rw [h]
  rfl
theorem enumI_at {α : Type} {xs : List α} {i : Nat} {x : α} (h : xs[i]? = some x) : (enumI xs)[i]? = some ((i : Int), x) := by
  obtain ⟨hl, _⟩ := List.getElem?_eq_some_iff.mp h
  have q := List.getElem?_eq_getElem (l := enumI xs) (i := i) (by rw [enumI_len]; exact hl)
  obtain ⟨e1, e2⟩ := enumI_get q
  rw [q]
  rw [h] at e2
  exact congrArg some (Prod.ext e1 (Option.some.inj e2).symm)
/-- the spoiled place is told -/
theorem sx_bad {net : NetW} {letters : List Letter} {plan : List BagT} (pf : PlanFine net letters plan) {i : Nat} (hi : i ≤ plan.length) {d : D} {rest : List D} {r : Str} (hr : Walk_amiss_x_m (wkAt net letters plan i) d = some r) (turn : Option Int) : stops_at_x_m net letters ((plan.take i).map bagE ++ d :: rest) turn = .error (.BadBag i r) := by
  rw [sx_eq]
  obtain ⟨xs, hxs⟩ : ∃ xs, xs = (plan.take i).map bagE ++ d :: rest := ⟨_, rfl⟩
  rw [← hxs]
  have hat : ∀ j b, j < i → plan[j]? = some b → xs[j]? = some (bagE b) := fun j b hj hb => by
    rw [hxs, List.getElem?_append_left (by rw [List.length_map, List.length_take]; omega), List.getElem?_map, List.getElem?_take, if_pos hj, hb]
    rfl
  have hd : xs[i]? = some d := by
    rw [hxs, List.getElem?_append_right (by rw [List.length_map, List.length_take]; omega), List.length_map, List.length_take, Nat.min_eq_left hi, Nat.sub_self]
    rfl
  have key : ∀ (n j : Nat) (k : Option (List Sp)), j + n = i → (loop (xstep turn) ((enumI xs).drop j) (k, wkAt net letters plan j) : Cf (Except Exn (List Sp)) Empty (Option (List Sp) × WalkW)) = .rt (.error (.BadBag i r)) := by
    intro n
    induction n with
    | zero =>
      intro j k e
      have e : j = i := e
      subst e
      rw [loop_step (enumI_at hd), xstep_no hr]
    | succ n ih =>
      intro j k e
      have hj : j < i := by omega
      obtain ⟨b, hb⟩ : ∃ b, plan[j]? = some b := ⟨_, List.getElem?_eq_getElem (show j < plan.length by omega)⟩
      have hm : Walk_amiss_x_m (wkAt net letters plan j) (bagE b) = none := by rw [amissx_E]; exact amiss_none.mpr (pf.f j b hb)
      obtain ⟨k', e2⟩ := xstep_go (turn := turn) (s := (k, wkAt net letters plan j)) (x := ((j : Int), bagE b)) hm
      rw [loop_step (enumI_at (hat j b hj hb)), e2]
      show (loop (xstep turn) ((enumI xs).drop (j + 1)) (k', Walk_send_m (wkAt net letters plan j) (toBag (bagE b))) : Cf (Except Exn (List Sp)) Empty (Option (List Sp) × WalkW)) = _
      rw [toBag_E, ← wkAt_succ hb]
      exact ih (j + 1) k' (by omega)
  have := key i 0 none (Nat.zero_add i)
  rw [List.drop_zero] at this
  have this : (loop (xstep turn) (enumI xs) (none, Walk_init_o_m net letters) : Cf (Except Exn (List Sp)) Empty (Option (List Sp) × WalkW)) = _ := this
  rw [this]
  rfl

end Lw
set_option Elab.async false
set_option linter.all false
set_option maxRecDepth 100000
set_option maxHeartbeats 4000000
namespace Lw
open PySem L2 Sx
/-! ### plain: where a letter lies by the law's own walk -/
def lyEnd (house : Str) (turn : Int) : Option (Str × Int) → Bool
  | some s1 => decide (s1.1 = house) && decide (s1.2 ≤ turn)
  | none => false
def lyf (lines : List Road) (goal : Str) (n : Int) (o : Option (Str × Int)) (b : BagT) : Option (Str × Int) := match o with
  | none => none
  | some h => if n ∈ b.2.2 then (if (lines.getD b.2.1.toNat ("", "", 0, 0)).2.1 = goal then none else some ((lines.getD b.2.1.toNat ("", "", 0, 0)).2.1, b.1 + (lines.getD b.2.1.toNat ("", "", 0, 0)).2.2.1)) else some h
theorem lyf_out {lines : List Road} {goal : Str} {n : Int} {s : Str × Int} {b : BagT} (h : n ∉ b.2.2) : lyf lines goal n (some s) b = some s := by
  show (if _ then _ else _) = _
  rw [if_neg h]
theorem lyf_home {lines : List Road} {goal : Str} {n : Int} {s : Str × Int} {b : BagT} (h : n ∈ b.2.2) (h2 : (lines.getD b.2.1.toNat ("", "", 0, 0)).2.1 = goal) : lyf lines goal n (some s) b = none := by
  show (if _ then (if _ then _ else _) else _) = _
  rw [if_pos h, if_pos h2]
theorem lyf_go {lines : List Road} {goal : Str} {n : Int} {s : Str × Int} {b : BagT} (h : n ∈ b.2.2) (h2 : (lines.getD b.2.1.toNat ("", "", 0, 0)).2.1 ≠ goal) : lyf lines goal n (some s) b = some ((lines.getD b.2.1.toNat ("", "", 0, 0)).2.1, b.1 + (lines.getD b.2.1.toNat ("", "", 0, 0)).2.2.1) := by
  show (if _ then (if _ then _ else _) else _) = _
  rw [if_pos h, if_neg h2]
theorem lyf_none {lines : List Road} {goal : Str} {n : Int} : ∀ bs : List BagT, bs.foldl (lyf lines goal n) none = none
  | [] => rfl
  | _ :: bs => lyf_none bs
theorem ly_loop {lines : List Road} {goal : Str} {n : Int} : ∀ (bs : List BagT) (s : Str × Int), (loop (lystep lines goal n) bs s : Cf Bool Empty (Str × Int)) = (match bs.foldl (lyf lines goal n) (some s) with | some s' => .nx s' | none => .rt false)
  | [], s => rfl
  | b :: bs, s => by
    rw [List.foldl_cons]
    by_cases h : n ∈ b.2.2
    · by_cases h2 : (lines.getD b.2.1.toNat ("", "", 0, 0)).2.1 = goal
      · have e : lystep lines goal n s b = .rt false := by unfold lystep; simp only [lt]; rw [decide_eq_true h, decide_eq_true h2]; rfl
        have e2 : lyf lines goal n (some s) b = none := lyf_home h h2
        rw [loop_rt e, e2, lyf_none]
      · have e : lystep lines goal n s b = .nx ((lines.getD b.2.1.toNat ("", "", 0, 0)).2.1, b.1 + (lines.getD b.2.1.toNat ("", "", 0, 0)).2.2.1) := by unfold lystep; simp only [lt]; rw [decide_eq_true h, decide_eq_false h2]; rfl
        have e2 : lyf lines goal n (some s) b = some ((lines.getD b.2.1.toNat ("", "", 0, 0)).2.1, b.1 + (lines.getD b.2.1.toNat ("", "", 0, 0)).2.2.1) := lyf_go h h2
        rw [loop_nx e, e2, ly_loop bs]
    · have e : lystep lines goal n s b = .nx s := by unfold lystep; simp only [lt]; rw [decide_eq_false h]; rfl
      have e2 : lyf lines goal n (some s) b = some s := lyf_out h
      rw [loop_nx e, e2, ly_loop bs]
theorem lies_ly {letters : List Letter} {lines : List Road} {ahead : List BagT} {n : Int} {house : Str} {turn : Int} : law_lies_m letters lines ahead n house turn = lyEnd house turn (ahead.foldl (lyf lines (letters.getD n.toNat ("", 0, "")).2.2 n) (some ((letters.getD n.toNat ("", 0, "")).1, (letters.getD n.toNat ("", 0, "")).2.1))) := by
  have e : law_lies_m letters lines ahead n house turn = bndV (loop (lystep lines (letters.getD n.toNat ("", 0, "")).2.2 n) ahead ((letters.getD n.toNat ("", 0, "")).1, (letters.getD n.toNat ("", 0, "")).2.1)) (fun s1 => ((decide (s1.1 = house)) && (decide (s1.2 ≤ turn)))) := rfl
  rw [e, ly_loop]
  cases ahead.foldl (lyf lines (letters.getD n.toNat ("", 0, "")).2.2 n) (some ((letters.getD n.toNat ("", 0, "")).1, (letters.getD n.toNat ("", 0, "")).2.1)) <;> rfl
abbrev rdL (net : NetW) (r : Int) : Road := net.2.getD r.toNat ("", "", 0, 0)
/-- the law's walk and the walk beside one another -/
inductive LySt (net : NetW) (a : Letter) : Sp → Option (Str × Int) → Prop where
  | no : LySt net a .no (some (a.1, a.2.1))
  | go (r t : Int) (h : (rdL net r).2.1 ≠ a.2.2) : LySt net a (.on r t) (some ((rdL net r).2.1, t))
  | home (r t : Int) (h : (rdL net r).2.1 = a.2.2) : LySt net a (.on r t) none
theorem ly_lies {net : NetW} {a : Letter} {sp : Sp} {o : Option (Str × Int)} (l : LySt net a sp o) (house : Str) (turn : Int) : ((later_m net a sp turn).isAt && decide ((later_m net a sp turn).h = house)) = lyEnd house turn o := by
  cases l with
  | no =>
    show _ = (decide (a.1 = house) && decide (a.2.1 ≤ turn))
    have e : later_m net a .no turn = cond (decide (a.2.1 ≤ turn)) (Sp.at a.1 a.2.1) .no := by
      show cond (true && decide (a.2.1 ≤ turn)) _ _ = _
      rw [Bool.true_and]
      rfl
    rw [e]
    cases decide (a.2.1 ≤ turn) with
    | true => show (true && decide (a.1 = house)) = _; rw [Bool.and_true, Bool.true_and]
    | false => rw [Bool.and_false]; rfl
  | go r t h =>
    show _ = (decide ((rdL net r).2.1 = house) && decide (t ≤ turn))
    have e : later_m net a (.on r t) turn = cond (decide (t ≤ turn)) (cond (decide ((rdL net r).2.1 = a.2.2)) (.home t) (.at (rdL net r).2.1 t)) (.on r t) := rfl
    rw [e, decide_eq_false h]
    cases decide (t ≤ turn) with
    | true => show (true && decide ((rdL net r).2.1 = house)) = _; rw [Bool.and_true, Bool.true_and]
    | false => rw [Bool.and_false]; rfl
  | home r t h =>
    show _ = false
    have e : later_m net a (.on r t) turn = cond (decide (t ≤ turn)) (cond (decide ((rdL net r).2.1 = a.2.2)) (.home t) (.at (rdL net r).2.1 t)) (.on r t) := rfl
    rw [e, decide_eq_true h]
    cases decide (t ≤ turn) <;> rfl
theorem ly_inv {net : NetW} {letters : List Letter} {plan : List BagT} (pf : PlanFine net letters plan) {n : Int} (h0 : 0 ≤ n) (hn : n < (letters.length : Int)) : ∀ i, i ≤ plan.length → LySt net (letters.getD n.toNat ("", 0, "")) ((wkAt net letters plan i).2.2.1.getD n.toNat .no) ((plan.take i).foldl (lyf net.2 (letters.getD n.toNat ("", 0, "")).2.2 n) (some ((letters.getD n.toNat ("", 0, "")).1, (letters.getD n.toNat ("", 0, "")).2.1)))
  | 0, _ => by
    have e : (wkAt net letters plan 0).2.2.1.getD n.toNat .no = .no := by
      show (letters.map (fun z1 : Letter => Sp.no)).getD n.toNat .no = .no
      rw [List.getD_eq_getElem?_getD, List.getElem?_map]
      cases letters[n.toNat]? <;> rfl
    rw [e, List.take_zero]
    exact .no
  | i + 1, hi => by
    have ih := ly_inv pf h0 hn i (by omega)
    obtain ⟨b, hb⟩ : ∃ b, plan[i]? = some b := ⟨_, List.getElem?_eq_getElem (show i < plan.length by omega)⟩
    have f := pf.f i b hb
    have ok := wkAt_ok pf i
    obtain ⟨w1, w2⟩ := wkAt_net (net := net) (letters := letters) (plan := plan) i
    rw [List.take_add_one, hb, Option.toList_some, List.foldl_append, List.foldl_cons, List.foldl_nil, wkAt_succ hb, send_eq]
    show LySt net _ ((b.2.2.foldl (fun st x => st.set x.toNat (Sp.on b.2.1 (b.1 + (Net_road_m (wkAt net letters plan i).1 b.2.1).2.2.1))) (wkAt net letters plan i).2.2.1).getD n.toNat .no) _
    have hl : (wkAt net letters plan i).2.2.1.length = letters.length := by rw [ok.l, w2]
    by_cases hm : n ∈ b.2.2
    · have e1 : (b.2.2.foldl (fun st x => st.set x.toNat (Sp.on b.2.1 (b.1 + (Net_road_m (wkAt net letters plan i).1 b.2.1).2.2.1))) (wkAt net letters plan i).2.2.1).getD n.toNat .no = Sp.on b.2.1 (b.1 + (rdL net b.2.1).2.2.1) := by
        rw [List.getD_eq_getElem?_getD, sets_in _ _ (by rw [hl]; omega) ⟨n, hm, rfl⟩, w1]
        rfl
      rw [e1]
      have hlie := f.lies n hm
      have e2 : Walk_lies_at_m (wkAt net letters plan i) n (Net_road_m (wkAt net letters plan i).1 b.2.1).1 b.1 = ((later_m (wkAt net letters plan i).1 ((wkAt net letters plan i).2.1.getD n.toNat ("", 0, "")) ((wkAt net letters plan i).2.2.1.getD n.toNat .no) b.1).isAt && decide ((later_m (wkAt net letters plan i).1 ((wkAt net letters plan i).2.1.getD n.toNat ("", 0, "")) ((wkAt net letters plan i).2.2.1.getD n.toNat .no) b.1).h = (Net_road_m (wkAt net letters plan i).1 b.2.1).1)) := rfl
      rw [e2, w1, w2, ly_lies ih] at hlie
      generalize hq : (plan.take i).foldl (lyf net.2 (letters.getD n.toNat ("", 0, "")).2.2 n) (some ((letters.getD n.toNat ("", 0, "")).1, (letters.getD n.toNat ("", 0, "")).2.1)) = q at ih hlie
      cases q with
      | none => cases hlie
      | some s =>
        by_cases hg : (rdL net b.2.1).2.1 = (letters.getD n.toNat ("", 0, "")).2.2
        · have e3 : lyf net.2 (letters.getD n.toNat ("", 0, "")).2.2 n (some s) b = none := lyf_home hm hg
          rw [e3]
          exact .home _ _ hg
        · have e3 : lyf net.2 (letters.getD n.toNat ("", 0, "")).2.2 n (some s) b = some ((rdL net b.2.1).2.1, b.1 + (rdL net b.2.1).2.2.1) := lyf_go hm hg
          rw [e3]
          exact .go _ _ hg
    · have e1 : (b.2.2.foldl (fun st x => st.set x.toNat (Sp.on b.2.1 (b.1 + (Net_road_m (wkAt net letters plan i).1 b.2.1).2.2.1))) (wkAt net letters plan i).2.2.1).getD n.toNat .no = (wkAt net letters plan i).2.2.1.getD n.toNat .no := by
        rw [List.getD_eq_getElem?_getD, List.getD_eq_getElem?_getD, sets_out _ _ (fun x hx e => hm (by
          have := (f.n x hx).1
          have e : x = n := by omega
          rw [← e]; exact hx))]
      rw [e1]
      generalize (plan.take i).foldl (lyf net.2 (letters.getD n.toNat ("", 0, "")).2.2 n) (some ((letters.getD n.toNat ("", 0, "")).1, (letters.getD n.toNat ("", 0, "")).2.1)) = q at ih
      have e3 : lyf net.2 (letters.getD n.toNat ("", 0, "")).2.2 n q b = q := by
        cases q with
        | none => rfl
        | some s => exact lyf_out hm
      rw [e3]
      exact ih
theorem lies_eq {net : NetW} {letters : List Letter} {plan : List BagT} (pf : PlanFine net letters plan) {i : Nat} (hi : i ≤ plan.length) {n : Int} (h0 : 0 ≤ n) (hn : n < (letters.length : Int)) (house : Str) (turn : Int) : Walk_lies_at_m (wkAt net letters plan i) n house turn = law_lies_m letters net.2 (plan.take i) n house turn := by
  obtain ⟨w1, w2⟩ := wkAt_net (net := net) (letters := letters) (plan := plan) i
  have e2 : Walk_lies_at_m (wkAt net letters plan i) n house turn = ((later_m (wkAt net letters plan i).1 ((wkAt net letters plan i).2.1.getD n.toNat ("", 0, "")) ((wkAt net letters plan i).2.2.1.getD n.toNat .no) turn).isAt && decide ((later_m (wkAt net letters plan i).1 ((wkAt net letters plan i).2.1.getD n.toNat ("", 0, "")) ((wkAt net letters plan i).2.2.1.getD n.toNat .no) turn).h = house)) := rfl
  rw [e2, w1, w2, ly_lies (ly_inv pf h0 hn i hi), lies_ly]

end Lw
set_option Elab.async false
set_option linter.all false
set_option maxRecDepth 100000
set_option maxHeartbeats 4000000
namespace Lw
open PySem L2 Sx
/-! ### plain: the law's reasons -/
theorem loop_anyU {α Rr : Type} {p : α → Bool} {r : Rr} {k : Unit → Rr} : ∀ xs : List α, bndV (loop (fun (_ : Unit) (x : α) => (cond (p x) (.rt r) (.nx ()) : Cf Rr Unit Unit)) xs () : Cf Rr Empty Unit) k = cond (xs.any p) r (k ())
  | [] => rfl
  | x :: xs => by
    rw [List.any_cons]
    cases q : p x with
    | true =>
      have e : (loop (fun (_ : Unit) (x : α) => (cond (p x) (.rt r) (.nx ()) : Cf Rr Unit Unit)) (x :: xs) () : Cf Rr Empty Unit) = .rt r := loop_rt (by show cond (p x) _ _ = _; rw [q]; rfl)
      rw [e]; rfl
    | false =>
      have e : (loop (fun (_ : Unit) (x : α) => (cond (p x) (.rt r) (.nx ()) : Cf Rr Unit Unit)) (x :: xs) () : Cf Rr Empty Unit) = loop (fun (_ : Unit) (x : α) => (cond (p x) (.rt r) (.nx ()) : Cf Rr Unit Unit)) xs () := loop_nx (by show cond (p x) _ _ = _; rw [q]; rfl)
      rw [e, loop_anyU xs]
      rfl
abbrev ltP (many : Int) (ns : List Int) (x2 : Int × Int) : Bool := ((decide (x2.2 < 0)) || ((decide (many ≤ x2.2)) || ((decide (0 < x2.1)) && (decide (x2.2 ≤ (ns.getD ((x2.1 - 1)).toNat 0))))))
theorem reason_eq {letters : List Letter} {lines : List Road} {ahead : List BagT} {d : D} : law_reason_m letters lines ahead d = cond (!(law_is_bag_m d)) ("bag" : Str) (
    cond ((cut ahead (some (-1)) none).any (fun x1 => leII ((toBag d).1, (toBag d).2.1) (x1.1, x1.2.1))) ("order" : Str) (
    cond ((decide ((toBag d).2.1 < 0)) || (decide ((lines.length : Int) ≤ (toBag d).2.1))) ("road" : Str) (
    cond (decide ((lines.getD ((toBag d).2.1).toNat ("", "", 0, 0)).2.2.2 < (((toBag d).2.2).length : Int))) ("room" : Str) (
    cond ((enumI ((toBag d).2.2)).any (ltP (letters.length : Int) (toBag d).2.2)) ("letter" : Str) (
    cond (((toBag d).2.2).any (fun x3 => !(law_lies_m letters lines ahead x3 ((lines.getD ((toBag d).2.1).toNat ("", "", 0, 0)).1) ((toBag d).1)))) ("there" : Str) ""))))) := by
  unfold law_reason_m
  simp only [loop_anyU]
theorem cut_last {α : Type} (xs : List α) (x : α) : cut (xs ++ [x]) (some (-1)) none = [x] := by
  have e1 : HT.sIx (xs ++ [x]).length 0 (some (-1)) = xs.length := by
    show (if (-1 : Int) < 0 then ((-1 : Int) + ((xs ++ [x]).length : Int)).toNat else min (-1 : Int).toNat (xs ++ [x]).length) = _
    rw [if_pos (by decide), List.length_append]
    show ((-1 : Int) + ((xs.length + 1 : Nat) : Int)).toNat = _
    omega
  unfold cut
  rw [e1, List.drop_append_of_le_length (Nat.le_refl _), List.drop_length, List.nil_append]
  show [x].take ((xs ++ [x]).length - xs.length) = _
  rw [List.length_append, Nat.add_sub_cancel_left]
  rfl
theorem order_eq {net : NetW} {letters : List Letter} {plan : List BagT} {i : Nat} (hi : i ≤ plan.length) (k : Int × Int) : ((!(wkAt net letters plan i).2.2.2.isNone) && (leII k ((wkAt net letters plan i).2.2.2.getD (0, 0)))) = (cut (plan.take i) (some (-1)) none).any (fun x1 => leII k (x1.1, x1.2.1)) := by
  cases i with
  | zero => rfl
  | succ j =>
    obtain ⟨b, hb⟩ : ∃ b, plan[j]? = some b := ⟨_, List.getElem?_eq_getElem (show j < plan.length by omega)⟩
    rw [wk_last hb, List.take_add_one, hb, Option.toList_some, cut_last]
    show (true && leII k (b.1, b.2.1)) = (leII k (b.1, b.2.1) || false)
    rw [Bool.true_and, Bool.or_false]
theorem pair_succ : ∀ ns : List Int, (∀ (k : Nat) a b, ns[k]? = some a → ns[k + 1]? = some b → a < b) → ns.Pairwise (· < ·)
  | [], _ => .nil
  | [x], _ => List.pairwise_singleton _ _
  | x :: y :: r, h => by
    have ih := pair_succ (y :: r) fun k a b h1 h2 => h (k + 1) a b h1 h2
    have hxy := h 0 x y rfl rfl
    refine List.pairwise_cons.mpr ⟨fun z hz => ?_, ih⟩
    rcases List.mem_cons.mp hz with q | q
    · rw [q]; exact hxy
    · have := (List.pairwise_cons.mp ih).1 z q
      omega
theorem letter_eq {s : WalkW} {ns : List Int} : (!(Walk_are_letters_m s ns)) = (enumI ns).any (ltP (s.2.1.length : Int) ns) := by
  have key : Walk_are_letters_m s ns = true ↔ (enumI ns).any (ltP (s.2.1.length : Int) ns) = false := by
    rw [are_letters_iff, List.any_eq_false]
    constructor
    · intro ⟨h1, h2⟩ x hx
      obtain ⟨k, hk⟩ := List.getElem?_of_mem hx
      obtain ⟨e1, e2⟩ := enumI_get hk
      have hr := h1 x.2 (List.mem_of_getElem? e2)
      unfold ltP
      rw [decide_eq_false (show ¬ x.2 < 0 by omega), decide_eq_false (show ¬ (s.2.1.length : Int) ≤ x.2 by omega), Bool.false_or, Bool.false_or]
      cases k with
      | zero =>
        rw [decide_eq_false (show ¬ 0 < x.1 by omega)]
        simp
      | succ k =>
        obtain ⟨hl, e3⟩ := List.getElem?_eq_some_iff.mp e2
        have hp := List.pairwise_iff_getElem.mp h2 k (k + 1) (by omega) hl (by omega)
        have e4 : ns.getD (x.1 - 1).toNat 0 = ns[k] := by
          rw [show (x.1 - 1).toNat = k by omega, List.getD_eq_getElem?_getD, List.getElem?_eq_getElem (show k < ns.length by omega)]
          rfl
        rw [e4, ← e3, decide_eq_false (show ¬ ns[k + 1] ≤ ns[k] by omega), Bool.and_false]
        simp
    · intro h
      have g : ∀ (k : Nat) x, ns[k]? = some x → ¬ x < 0 ∧ ¬ (s.2.1.length : Int) ≤ x ∧ (0 < k → ¬ x ≤ ns.getD (k - 1) 0) := fun k x hx => by
        have := h ((k : Int), x) (List.mem_of_getElem? (enumI_at hx))
        unfold ltP at this
        simp only [Bool.or_eq_true, decide_eq_true_eq, Bool.and_eq_true, not_or, not_and] at this
        refine ⟨this.1, this.2.1, fun hk => ?_⟩
        have h3 := this.2.2 (by omega)
        rw [show ((k : Int) - 1).toNat = k - 1 by omega] at h3
        exact h3
      refine ⟨fun x hx => ?_, pair_succ ns fun k a b h1 h2 => ?_⟩
      · obtain ⟨k, hk⟩ := List.getElem?_of_mem hx
        have := g k x hk
        omega
      · have := (g (k + 1) b h2).2.2 (Nat.succ_pos k)
        rw [Nat.add_sub_cancel, List.getD_eq_getElem?_getD, h1] at this
        have : ¬ b ≤ a := this
        omega
  cases q : Walk_are_letters_m s ns with
  | true => rw [key.mp q]; rfl
  | false =>
    cases q2 : (enumI ns).any (ltP (s.2.1.length : Int) ns) with
    | true => rfl
    | false => rw [key.mpr q2] at q; cases q
theorem chain6 (a1 a2 a3 a4 a5 a6 : Bool) : (cond a1 (some ("bag" : Str)) (cond a2 (some ("order" : Str)) (cond a3 (some ("road" : Str)) (cond a4 (some ("room" : Str)) (cond a5 (some ("letter" : Str)) (cond a6 (some ("there" : Str)) none)))))) = cond (decide ((cond a1 ("bag" : Str) (cond a2 ("order" : Str) (cond a3 ("road" : Str) (cond a4 ("room" : Str) (cond a5 ("letter" : Str) (cond a6 ("there" : Str) "")))))) = "")) none (some (cond a1 ("bag" : Str) (cond a2 ("order" : Str) (cond a3 ("road" : Str) (cond a4 ("room" : Str) (cond a5 ("letter" : Str) (cond a6 ("there" : Str) "")))))))  := by
  have n1 : decide (("bag" : Str) = "") = false := by decide +kernel
  have n2 : decide (("order" : Str) = "") = false := by decide +kernel
  have n3 : decide (("road" : Str) = "") = false := by decide +kernel
  have n4 : decide (("room" : Str) = "") = false := by decide +kernel
  have n5 : decide (("letter" : Str) = "") = false := by decide +kernel
  have n6 : decide (("there" : Str) = "") = false := by decide +kernel
  have n7 : decide (("" : Str) = "") = true := by decide +kernel
  cases a1 with
  | true => simp only [cond_true, n1, cond_false]
  | false =>
    cases a2 with
    | true => simp only [cond_true, n2, cond_false]
    | false =>
      cases a3 with
      | true => simp only [cond_true, n3, cond_false]
      | false =>
        cases a4 with
        | true => simp only [cond_true, n4, cond_false]
        | false =>
          cases a5 with
          | true => simp only [cond_true, n5, cond_false]
          | false =>
            cases a6 with
            | true => simp only [cond_true, n6, cond_false]
            | false =>
              show none = cond (decide (("" : Str) = "")) none _
              rw [n7]; rfl
theorem reason_amiss {net : NetW} {letters : List Letter} {plan : List BagT} (pf : PlanFine net letters plan) {i : Nat} (hi : i ≤ plan.length) (d : D) : Walk_amiss_x_m (wkAt net letters plan i) d = cond (decide (law_reason_m letters net.2 (plan.take i) d = "")) none (some (law_reason_m letters net.2 (plan.take i) d)) := by
  obtain ⟨w1, w2⟩ := wkAt_net (net := net) (letters := letters) (plan := plan) i
  have e : Walk_amiss_x_m (wkAt net letters plan i) d = cond (!(is_bag_x_m d)) (some ("bag" : Str)) (
    cond ((!(wkAt net letters plan i).2.2.2.isNone) && (leII ((toBag d).1, (toBag d).2.1) ((wkAt net letters plan i).2.2.2.getD (0, 0)))) (some ("order" : Str)) (
    cond (!((decide (0 ≤ (toBag d).2.1)) && (decide ((toBag d).2.1 < ((wkAt net letters plan i).1.2.length : Int))))) (some ("road" : Str)) (
    cond (decide (((wkAt net letters plan i).1.2.getD ((toBag d).2.1).toNat ("", "", 0, 0)).2.2.2 < (((toBag d).2.2).length : Int))) (some ("room" : Str)) (
    cond (!(Walk_are_letters_m (wkAt net letters plan i) ((toBag d).2.2))) (some ("letter" : Str)) (
    cond (!((((toBag d).2.2).map (fun z1 : Int => (Walk_lies_at_m (wkAt net letters plan i) z1 (((wkAt net letters plan i).1.2.getD ((toBag d).2.1).toNat ("", "", 0, 0)).1) ((toBag d).1)))).all id)) (some ("there" : Str)) none))))) := rfl
  have h3 : (!((decide (0 ≤ (toBag d).2.1)) && (decide ((toBag d).2.1 < (net.2.length : Int))))) = ((decide ((toBag d).2.1 < 0)) || (decide ((net.2.length : Int) ≤ (toBag d).2.1))) := by
    rw [Bool.eq_iff_iff]
    simp only [Bool.not_eq_true', Bool.and_eq_false_iff, decide_eq_false_iff_not, Bool.or_eq_true, decide_eq_true_eq]
    omega
  rw [reason_eq, e, order_eq hi, letter_eq, w1, w2, h3, bag_same]
  have h6 : ∀ X : Option Str, cond ((enumI ((toBag d).2.2)).any (ltP (letters.length : Int) (toBag d).2.2)) (some ("letter" : Str)) (cond (!((((toBag d).2.2).map (fun z1 : Int => (Walk_lies_at_m (wkAt net letters plan i) z1 ((net.2.getD ((toBag d).2.1).toNat ("", "", 0, 0)).1) ((toBag d).1)))).all id)) (some ("there" : Str)) X) = cond ((enumI ((toBag d).2.2)).any (ltP (letters.length : Int) (toBag d).2.2)) (some ("letter" : Str)) (cond (((toBag d).2.2).any (fun x3 => !(law_lies_m letters net.2 (plan.take i) x3 ((net.2.getD ((toBag d).2.1).toNat ("", "", 0, 0)).1) ((toBag d).1)))) (some ("there" : Str)) X) := fun X => by
    cases q : (enumI ((toBag d).2.2)).any (ltP (letters.length : Int) (toBag d).2.2) with
    | true => rfl
    | false =>
      have hl : Walk_are_letters_m (wkAt net letters plan i) (toBag d).2.2 = true := by
        have := letter_eq (s := wkAt net letters plan i) (ns := (toBag d).2.2)
        rw [w2, q] at this
        simpa using this
      have hr := (are_letters_iff.mp hl).1
      rw [w2] at hr
      have : (!((((toBag d).2.2).map (fun z1 : Int => (Walk_lies_at_m (wkAt net letters plan i) z1 ((net.2.getD ((toBag d).2.1).toNat ("", "", 0, 0)).1) ((toBag d).1)))).all id)) = (((toBag d).2.2).any (fun x3 => !(law_lies_m letters net.2 (plan.take i) x3 ((net.2.getD ((toBag d).2.1).toNat ("", "", 0, 0)).1) ((toBag d).1)))) := by
        rw [List.all_map, List.not_all_eq_any_not]
        rw [Bool.eq_iff_iff, List.any_eq_true, List.any_eq_true]
        constructor
        · rintro ⟨x, hx, h⟩
          refine ⟨x, hx, ?_⟩
          rw [← lies_eq pf hi (hr x hx).1 (hr x hx).2]
          exact h
        · rintro ⟨x, hx, h⟩
          refine ⟨x, hx, ?_⟩
          show (!(Walk_lies_at_m _ _ _ _)) = true
          rw [lies_eq pf hi (hr x hx).1 (hr x hx).2]
          exact h
      rw [this]
  rw [h6]
  exact chain6 _ _ _ _ _ _

end Lw
set_option Elab.async false
set_option linter.all false
set_option maxRecDepth 100000
set_option maxHeartbeats 4000000
namespace Lw
open PySem L2 Sx
/-! ### plain: the odd things -/
theorem an {P : D → Prop} : ∀ d ∈ ([] : List D), P d := fun _ h => by cases h
theorem ac {P : D → Prop} {a : D} {l : List D} (h : P a) (q : ∀ d ∈ l, P d) : ∀ d ∈ a :: l, P d := fun d hd => by
  rcases List.mem_cons.mp hd with e | e
  · rw [e]; exact h
  · exact q d e
theorem aa {P : D → Prop} {l m : List D} (h : ∀ d ∈ l, P d) (q : ∀ d ∈ m, P d) : ∀ d ∈ l ++ m, P d := fun d hd => (List.mem_append.mp hd).elim (h d) (q d)
theorem tl_ints {ns : List Int} : Dp' 1 (tlE D.int ns) := Dp'.tup (k := 0) Dp'.ints
theorem numS_ok : ∀ k : Fin 40, PySem.PyData.strOk (toString ((k.val : Nat) : Int) : Str) = true := by decide +kernel
theorem road_str {r : Int} (h0 : 0 ≤ r) (h1 : r < 40) : PySem.PyData.strOk (toString r : Str) = true := by
  have := numS_ok ⟨r.toNat, by omega⟩
  rw [show ((r.toNat : Nat) : Int) = r by omega] at this
  exact this
theorem t3_ok {a b c : D} (h1 : Dp' 1 a) (h2 : Dp' 1 b) (h3 : Dp' 1 c) (hl : c.els.length ≤ 10000) : OkThing (.tup [a, b, c]) := ⟨Dp'.mono (Dp'.tup (k := 1) (ac h1 (ac h2 (ac h3 an)))) (by decide), by
  show (c.els.map D.toI).length ≤ 10000
  rw [List.length_map]; exact hl⟩
theorem tl_len {ns : List Int} (h : ns.length ≤ 10000) : (tlE D.int ns).els.length ≤ 10000 := by
  show (ns.map D.int).length ≤ 10000
  rw [List.length_map]; exact h
theorem sm_ok {d : D} (h : Dp' 10 d) (hl : (d.ix 2).els = []) : OkThing d := ⟨h, by show ((d.ix 2).els.map D.toI).length ≤ 10000; rw [hl]; exact Nat.zero_le _⟩
theorem odd_ok {b : BagT} {letters : List Letter} {lines : List Road} {cell : Int} (h0 : 0 ≤ b.2.1) (h1 : b.2.1 < 40) (hn : b.2.2.length ≤ 10000) : OkThing (law_odd_m b letters lines cell) := by
  have hI : ∀ {i : Int}, Dp' 1 (D.int i) := Dp'.int
  have one : ∀ {d : D}, Dp' 0 d → Dp' 1 (D.tup [d]) := fun h => Dp'.tup (k := 0) (ac h an)
  have hr : (rngI 0 ((((min ((lines.getD (b.2.1).toNat ("", "", 0, 0)).2.2.2) 40) + 1) : Int).toNat)).length ≤ 10000 := by rw [rngI_len]; omega
  have key : ∀ (l : List D) (k : Nat), (∀ d ∈ l, OkThing d) → OkThing (l.getD k .non) := fun l k h => by
    rw [List.getD_eq_getElem?_getD]
    cases q : l[k]? with
    | none => exact sm_ok Dp'.non rfl
    | some d => exact h d (List.mem_of_getElem? q)
  have hb : ∀ {i j : Int}, OkThing (D.tup [D.int i, D.int j, tlE D.int b.2.2]) := t3_ok hI hI tl_ints (tl_len hn)
  unfold law_odd_m
  simp only [lt]
  refine key _ _ (aa (aa (aa (aa (aa (aa (aa ?_ ?_) ?_) ?_) ?_) ?_) ?_) ?_)
  · refine ac (sm_ok Dp'.non rfl) (ac (sm_ok Dp'.int rfl) (ac (sm_ok Dp'.str rfl) (ac ⟨Dp'.mono (Dp'.lst (k := 1) (ac hI (ac hI (ac tl_ints an)))) (by decide), ?_⟩ (ac (sm_ok (Dp'.mono (Dp'.tup (k := 1) (ac hI (ac hI an))) (by decide)) rfl) (ac ⟨Dp'.mono (Dp'.tup (k := 1) (ac hI (ac hI (ac tl_ints (ac hI an))))) (by decide), ?_⟩ (ac (t3_ok hI hI tl_ints (Nat.zero_le _)) an))))))
    · show ((b.2.2.map D.int).map D.toI).length ≤ 10000
      rw [List.length_map, List.length_map]; exact hn
    · show ((b.2.2.map D.int).map D.toI).length ≤ 10000
      rw [List.length_map, List.length_map]; exact hn
  · exact ac (t3_ok hI (Dp'.str (road_str h0 h1)) tl_ints (tl_len hn)) (ac (t3_ok Dp'.bl hI tl_ints (tl_len hn)) (ac (t3_ok hI hI (one Dp'.non) (by decide)) an))
  · exact ac (t3_ok hI hI (Dp'.lst (k := 0) Dp'.ints) (tl_len hn)) an
  · exact ac hb (ac hb an)
  · exact ac (t3_ok hI hI tl_ints (tl_len hr)) (ac (t3_ok hI hI (one Dp'.int) (by show 1 ≤ 10000; decide)) an)
  · exact ac (t3_ok hI hI (one Dp'.int) (by show 1 ≤ 10000; decide)) (ac (t3_ok hI hI (Dp'.tup (k := 0) (ac Dp'.int (ac Dp'.int an))) (by show 2 ≤ 10000; decide)) an)
  · exact ac hb (ac (t3_ok hI hI (one Dp'.int) (by show 1 ≤ 10000; decide)) an)
  · exact ac hb an
/-! ### plain: the law -/
theorem pick_len {script : List Int} {a : Int} {n : Nat} (h0 : 0 ≤ a) (hn : ((32 + 2 - 1 : Int) / 2).toNat = n) : (pickN script (places script.length (some a) (some (a + 32)) (some 2))).length ≤ n := by
  refine Nat.le_trans (pickN_len _ _) (Nat.le_trans (places_len h0 (by omega) (by omega)) ?_)
  rw [← hn]
  exact Nat.le_of_eq (congrArg Int.toNat (congrArg (· / 2) (by omega)))
theorem script_pos {names : List Str} {base_ : Int} {script : List Int} (h : (pickN script (places script.length (some 4) (some 36) (some 2))).map (fun z2 : Int => (letterB names base_ z2)) ≠ []) : 0 < script.length := by
  cases script with
  | nil => exact absurd rfl h
  | cons a r => exact Nat.succ_pos _
theorem both_bad {net : NetW} {letters : List Letter} {plan : List D} {t : Int} {p : Int} {r : Str} (h : ∀ turn, stops_at_x_m net letters plan turn = .error (.BadBag p r)) : law_both_m net letters plan t = [D.tup [D.int p, D.str r], D.tup [D.int p, D.str r]] := by
  unfold law_both_m
  simp only [lt]
  rw [arrx_of (h none), spsx_of (h (some t))]
  rfl
theorem due2_any {p : Int} {r : Str} (h : PySem.PyData.strOk r = true) : Any (D.lst (([D.tup [D.int p, D.str r], D.tup [D.int p, D.str r]]).map (fun x : D => x))) := by
  rw [map_any]
  have : Dp' 1 (D.tup [D.int p, D.str r]) := Dp'.tup (k := 0) (ac Dp'.int (ac (Dp'.str h) an))
  exact lst_any 1 (by decide) (ac this (ac this an))
theorem both_eq {net : NetW} {letters : List Letter} {plan : List D} {t : Int} {p : Int} {r : Str} (hr : PySem.PyData.strOk r = true) (h : ∀ turn, stops_at_x_m net letters plan turn = .error (.BadBag p r)) : D.eq (D.lst ((law_both_m net letters plan t).map (fun x : D => x))) (D.lst (([(p, r), (p, r)] : List (Int × Str)).map (fun x : Int × Str => D.tup [(D.int x.1), (D.str x.2)]))) = true := by
  rw [both_bad h]
  exact D.eq_refl (due2_any hr)
theorem spoil_bad {net : NetW} {letters : List Letter} {plan : List BagT} (pf : PlanFine net letters plan) {i : Nat} (hi : i ≤ plan.length) {d : D} {rest : List D} (hd : law_reason_m letters net.2 (plan.take i) d ≠ "") : PySem.PyData.strOk (law_reason_m letters net.2 (plan.take i) d) = true ∧ ∀ turn, stops_at_x_m net letters ((plan.take i).map bagE ++ d :: rest) turn = .error (.BadBag i (law_reason_m letters net.2 (plan.take i) d)) := by
  have h := reason_amiss pf hi d
  rw [decide_eq_false hd] at h
  have h : Walk_amiss_x_m (wkAt net letters plan i) d = some (law_reason_m letters net.2 (plan.take i) d) := h
  exact ⟨amissx_str h, fun turn => sx_bad pf hi h turn⟩
theorem pf_nil {net : NetW} {letters : List Letter} (h : letters.length ≤ 10000) : PlanFine net letters [] := ⟨fun _ _ h => (by cases h), fun _ h => (by cases h), h⟩
theorem none_bad {net : NetW} {letters : List Letter} (h : letters.length ≤ 10000) (turn : Option Int) : stops_at_x_m net letters [D.non] turn = .error (.BadBag 0 "bag") := sx_bad (pf_nil h) (i := 0) (Nat.le_refl _) (d := D.non) (rest := []) (amissx_bad rfl) turn
theorem arr_lenP {net : NetW} {letters : List Letter} {plan : List BagT} (p : PlanFine net letters plan) : (arrivals_m net letters plan).length = letters.length := by
  have e : arrivals_m net letters plan = (letters.zip (stops_at_m net letters plan none)).foldl (fun (s1 : List (Option Int)) (x1 : Letter × Sp) => cond (x1.2.isOn && (decide ((Net_road_m net x1.2.r).2.1 = x1.1.2.2))) (lt (s1 ++ [(some x1.2.t)]) fun found_2 => found_2) (lt (s1 ++ [none]) fun found_3 => found_3)) [] := rfl
  have key : ∀ (xs : List (Letter × Sp)) (s : List (Option Int)), (xs.foldl (fun (s1 : List (Option Int)) (x1 : Letter × Sp) => cond (x1.2.isOn && (decide ((Net_road_m net x1.2.r).2.1 = x1.1.2.2))) (lt (s1 ++ [(some x1.2.t)]) fun found_2 => found_2) (lt (s1 ++ [none]) fun found_3 => found_3)) s).length = s.length + xs.length := by
    intro xs
    induction xs with
    | nil => intro s; rfl
    | cons x xs ih =>
      intro s
      rw [List.foldl_cons, ih, List.length_cons]
      cases (x.2.isOn && (decide ((Net_road_m net x.2.r).2.1 = x.1.2.2)))
      · show (s ++ [_]).length + _ = _; rw [List.length_append]; show s.length + 1 + _ = _; omega
      · show (s ++ [_]).length + _ = _; rw [List.length_append]; show s.length + 1 + _ = _; omega
  rw [e, key, List.length_zip, stops_len p]
  show 0 + _ = _
  omega

end Lw
set_option Elab.async false
set_option linter.all false
set_option maxRecDepth 100000
set_option maxHeartbeats 4000000
namespace Lw
open PySem L2 Sx
def f15 (script : List Int) (lines : List Road) (letters : List Letter) (net : List Str × List Road) (plan : List (Int × Int × List Int)) (s1 : Unit) (x1 : Int) : Cf Bool Unit Unit :=
    lt ((((cellAt script (x1 + 1)) * 48271) % 2147483647) + ((cellAt script 0) % 2147483647)) fun cell : Int =>
    lt (cell % (plan.length : Int)) fun at_2 : Int =>
    lt (plan.getD (at_2).toNat (0, 0, [])) fun bag : Int × Int × List Int =>
    lt (cond (decide (((cell / 64) % 7) = 0)) (
        lt (D.tup [(D.int ((plan.getD ((max 0 (at_2 - 1))).toNat (0, 0, [])).1)), (D.int ((plan.getD ((max 0 (at_2 - 1))).toNat (0, 0, [])).2.1)), ((tlE D.int) ((plan.getD ((max 0 (at_2 - 1))).toNat (0, 0, [])).2.2))]) fun bag_2 : D =>
        bag_2) (
        lt (law_odd_m bag letters lines (cell / 448)) fun bag_3 : D =>
        bag_3)) fun j2 : D =>
    lt ((((cut plan none (some at_2)).map (fun x : Int × Int × List Int => D.tup [(D.int x.1), (D.int x.2.1), ((tlE D.int) x.2.2)])) ++ [j2]) ++ ((cut plan (some (at_2 + ((cell / 448) % 2))) none).map (fun x : Int × Int × List Int => D.tup [(D.int x.1), (D.int x.2.1), ((tlE D.int) x.2.2)]))) fun spoiled : List D =>
    lt (law_reason_m letters lines (cut plan none (some at_2)) j2) fun due : Str =>
    lt (law_both_m net letters spoiled (cell % 2000000000)) fun told : List D =>
    cond ((!decide (due = "")) && (!(D.eq (D.lst (told.map (fun x : D => x))) (D.lst (([(at_2, due), (at_2, due)] : List (Int × Str)).map (fun x : Int × Str => D.tup [(D.int x.1), (D.str x.2)])))))) (
      .rt false) (
      .nx ())
theorem plan_len120 {legs : List (List LegT)} (h40 : legs.length ≤ 40) (h3 : ∀ x ∈ legs, x.length ≤ 3) : (law_plan_m legs).length ≤ 120 := by
  have e : (law_plan_m legs).length = ((enumI legs).foldl (fun (s1 : (List ((Int × Int) × List Int))) (x1 : Int × (List (Int × Int × Int × Str))) => x1.2.foldl (fun (s2 : (List ((Int × Int) × List Int))) (x2 : Int × Int × Int × Str) => lt (alapp s2 (x2.1, x2.2.1) x1.1) fun bags_2 => bags_2) s1) []).length := by
    show ((sortK kII (List.map _ _)).map _).length = _
    rw [List.length_map, sortK_len, List.length_map]
    rfl
  rw [e]
  have := (fold_invP (fun i (s : List ((Int × Int) × List Int)) => s.length ≤ 3 * i ∧ ∀ kv ∈ s, kv.2.length ≤ 3 * i) (xs := enumI legs) (step := fun (s1 : (List ((Int × Int) × List Int))) (x1 : Int × (List (Int × Int × Int × Str))) => x1.2.foldl (fun (s2 : (List ((Int × Int) × List Int))) (x2 : Int × Int × Int × Str) => lt (alapp s2 (x2.1, x2.2.1) x1.1) fun bags_2 => bags_2) s1) (fun i x s hx hs => plout_len (h3 x.2 (List.mem_of_getElem? (enumI_get hx).2)) hs) (s0 := []) ⟨Nat.le_refl 0, fun _ h => by cases h⟩).1
  rw [enumI_len] at this
  omega
theorem f15_tail {names : List Str} {lines : List Road} {letters : List Letter} {plan : List BagT} (pf : PlanFine (names, lines) letters plan) {at_2 : Int} (hat : 0 ≤ at_2 ∧ at_2 < (plan.length : Int)) (j2 : D) (rest : List D) (t : Int) :
    (cond ((!decide (law_reason_m letters lines (cut plan none (some at_2)) j2 = "")) && (!(D.eq (D.lst ((law_both_m (names, lines) letters ((((cut plan none (some at_2)).map (fun x : Int × Int × List Int => D.tup [(D.int x.1), (D.int x.2.1), ((tlE D.int) x.2.2)])) ++ [j2]) ++ rest) t).map (fun x : D => x))) (D.lst (([(at_2, law_reason_m letters lines (cut plan none (some at_2)) j2), (at_2, law_reason_m letters lines (cut plan none (some at_2)) j2)] : List (Int × Str)).map (fun x : Int × Str => D.tup [(D.int x.1), (D.str x.2)])))))) (.rt false) (.nx ()) : Cf Bool Unit Unit) = .nx () := by
  rw [cut_take hat.1]
  obtain ⟨i, rfl⟩ : ∃ i : Nat, at_2 = (i : Int) := ⟨at_2.toNat, by omega⟩
  rw [Int.toNat_natCast]
  have hs : (((plan.take i).map (fun x : Int × Int × List Int => D.tup [(D.int x.1), (D.int x.2.1), ((tlE D.int) x.2.2)])) ++ [j2]) ++ rest = (plan.take i).map bagE ++ j2 :: rest := by rw [List.append_assoc]; rfl
  rw [hs]
  by_cases hd : law_reason_m letters lines (plan.take i) j2 = ""
  · rw [decide_eq_true hd]; rfl
  · obtain ⟨h1, h2⟩ := spoil_bad pf (i := i) (by omega) (d := j2) (rest := rest) hd
    rw [decide_eq_false hd, both_eq h1 h2]
    rfl
theorem f15_ok {script : List Int} {names : List Str} {lines : List Road} {letters : List Letter} {plan : List BagT} (pf : PlanFine (names, lines) letters plan) (hne : 0 < plan.length) (x1 : Int) : f15 script lines letters (names, lines) plan () x1 = .nx () := by
  unfold f15
  exact f15_tail pf (emod_rng hne _) _ _ _
theorem law_true (ns : List Int) (_h : ns.length ≤ 63) : law_m ns = true := by
  unfold law_m
  show lt (housesB (cellAt ns 0) ((2 + ((cellAt ns 1) % 11)) : Int).toNat) _ = true
  have oh : OkH (housesB (cellAt ns 0) ((2 + ((cellAt ns 1) % 11)) : Int).toNat) := housesB_ok (by omega)
  have hl : (housesB (cellAt ns 0) ((2 + ((cellAt ns 1) % 11)) : Int).toNat).length = (2 + cellAt ns 1 % 11).toNat := housesB_len
  simp only [lt]
  generalize housesB (cellAt ns 0) ((2 + ((cellAt ns 1) % 11)) : Int).toNat = names at oh hl
  have o0 : OkLs names (1 + ((cellAt ns 2) % (1000000000 - 30))) ((pickN ns (places ns.length (some 4) (some 36) (some 2))).map (fun z2 : Int => (letterB names (1 + ((cellAt ns 2) % (1000000000 - 30))) z2))) := okls_0 oh.nd (by omega) (Nat.le_trans (pick_len (n := 16) (by decide) rfl) (by decide))
  have og : OkG (names, ((pickN ns (places ns.length (some 3) (some 35) (some 2))).map (fun z1 : Int => (roadB names z1)))) := ⟨oh, fun r hr => by
    obtain ⟨z, _, rfl⟩ := List.mem_map.mp hr
    exact roadB_ok oh.nd (show 2 ≤ names.length by omega), by show (List.map _ _).length ≤ 40; rw [List.length_map]; exact Nat.le_trans (pick_len (n := 16) (by decide) rfl) (by decide)⟩
  generalize ((pickN ns (places ns.length (some 3) (some 35) (some 2))).map (fun z1 : Int => (roadB names z1))) = lines at og
  generalize ((pickN ns (places ns.length (some 4) (some 36) (some 2))).map (fun z2 : Int => (letterB names (1 + ((cellAt ns 2) % (1000000000 - 30))) z2))) = letters at o0
  have pf := plan_fine (script := ns) (.inr rfl : (3 : Int) = 2 ∨ (3 : Int) = 3) og o0
  generalize law_plan_m (law_legs_m lines letters ns 3) = plan at pf
  show cond (decide (plan = [])) (_ && decide (arrivals_m (names, lines) [] [] = [])) (bndV (loop (f15 ns lines letters (names, lines) plan) (rngI 0 (3 : Int).toNat) ()) fun _ => (true && (decide (((arrivals_m (names, lines) letters plan).length : Int) = (letters.length : Int))))) = true
  by_cases hp : plan = []
  · rw [decide_eq_true hp, cond_true]
    have h1 := both_eq (net := (names, lines)) (letters := letters) (plan := [D.non]) (t := 1 + ((cellAt ns 2) % (1000000000 - 30))) strs6.1 (none_bad (pf.l))
    rw [show decide (arrivals_m (names, lines) [] [] = []) = true from decide_eq_true rfl, Bool.and_true]
    exact h1
  · rw [decide_eq_false hp, cond_false]
    have hne : 0 < plan.length := List.length_pos_iff.mpr hp
    have e : (loop (f15 ns lines letters (names, lines) plan) (rngI 0 (3 : Int).toNat) () : Cf Bool Empty Unit) = .nx () := loop_unit (fun x _ => f15_ok pf hne x)
    rw [e]
    show (true && decide _) = true
    rw [arr_lenP pf]
    simp

end Lw
set_option Elab.async false
set_option linter.all false
set_option maxRecDepth 100000
set_option maxHeartbeats 4000000
namespace Lw
open PySem L2 Sx
/-! ### plain: what the walk asks -/
theorem len_of {d : D} (h : ((!(d.is .tuple)) || (!decide ((d.els.length : Int) = 3))) = false) : d.els.length = 3 := by
  have := (Bool.or_eq_false_iff.mp h).2
  have : decide ((d.els.length : Int) = 3) = true := by simpa using this
  have := of_decide_eq_true this
  omega
theorem len_of2 {d : D} {i : Nat} (h : (!decide ((d.els.length : Int) = 3)) = false) (hi : i < 3) : i < d.els.length := by
  have : decide ((d.els.length : Int) = 3) = true := by simpa using h
  have := of_decide_eq_true this
  omega
theorem tup_of {a b c : Bool} (h : ((!a) || ((!b) || (!c))) = false) : c = true := by cases a <;> cases b <;> cases c <;> first | rfl | cases h
theorem tup_of4 {d : D} {a c e : Bool} (h : ((!a) || ((!decide ((d.els.length : Int) = 3)) || ((!c) || e))) = false) : d.els.length = 3 ∧ c = true := by
  obtain ⟨_, h⟩ := Bool.or_eq_false_iff.mp h
  obtain ⟨h1, h⟩ := Bool.or_eq_false_iff.mp h
  obtain ⟨h2, _⟩ := Bool.or_eq_false_iff.mp h
  have : decide ((d.els.length : Int) = 3) = true := by simpa using h1
  have := of_decide_eq_true this
  exact ⟨by omega, by simpa using h2⟩
theorem OkThing.len {d : D} (o : OkThing d) : (d.ix 2).els.length ≤ 10000 := by
  have h : ((d.ix 2).els.map D.toI).length ≤ 10000 := o.bag
  rw [List.length_map] at h
  exact h
structure OkRs (lines : List Road) (ahead : List BagT) (d : D) : Prop where
  b : OkThing d
  r : ∀ b ∈ ahead, 0 ≤ b.2.1 ∧ b.2.1 < (lines.length : Int)
theorem rd_of {r n : Int} (h : ((decide (r < 0)) || (decide (n ≤ r))) = false) : 0 ≤ r ∧ r < n := by
  obtain ⟨h1, h2⟩ := Bool.or_eq_false_iff.mp h
  have := of_decide_eq_false h1
  have := of_decide_eq_false h2
  omega
theorem gt_of {a b : Int} (h : decide (a < b) = true) : a < b := of_decide_eq_true h
theorem loop_nxU {α Rr Ll : Type} {p : α → Bool} {r : Rr} {s : Unit} : ∀ {xs : List α}, (loop (fun (_ : Unit) (x : α) => (cond (p x) (.rt r) (.nx ()) : Cf Rr Unit Unit)) xs () : Cf Rr Ll Unit) = .nx s → ∀ x ∈ xs, p x = false
  | [], _, x, hx => by cases hx
  | y :: ys, h, x, hx => by
    cases q : p y with
    | true =>
      have e : (loop (fun (_ : Unit) (x : α) => (cond (p x) (.rt r) (.nx ()) : Cf Rr Unit Unit)) (y :: ys) () : Cf Rr Ll Unit) = .rt r := loop_rt (by show cond (p y) _ _ = _; rw [q]; rfl)
      rw [e] at h
      cases h
    | false =>
      have e : (loop (fun (_ : Unit) (x : α) => (cond (p x) (.rt r) (.nx ()) : Cf Rr Unit Unit)) (y :: ys) () : Cf Rr Ll Unit) = loop (fun (_ : Unit) (x : α) => (cond (p x) (.rt r) (.nx ()) : Cf Rr Unit Unit)) ys () := loop_nx (by show cond (p y) _ _ = _; rw [q]; rfl)
      rw [e] at h
      rcases List.mem_cons.mp hx with z | z
      · rw [z]; exact q
      · exact loop_nxU h x z
theorem let_rng {Ll : Type} {ns : List Int} {many : Int} {s : Unit} (h : (loop (fun (_ : Unit) (x2 : Int × Int) => (cond ((decide (x2.2 < 0)) || ((decide (many ≤ x2.2)) || ((decide (0 < x2.1)) && (decide (x2.2 ≤ (ns.getD ((x2.1 - 1)).toNat 0)))))) (.rt ("letter" : Str)) (.nx ()) : Cf Str Unit Unit)) (enumI ns) () : Cf Str Ll Unit) = .nx s) : ∀ x ∈ ns, 0 ≤ x ∧ x < many := fun x hx => by
  obtain ⟨k, hk⟩ := List.getElem?_of_mem hx
  have := loop_nxU (p := fun x2 : Int × Int => ((decide (x2.2 < 0)) || ((decide (many ≤ x2.2)) || ((decide (0 < x2.1)) && (decide (x2.2 ≤ (ns.getD ((x2.1 - 1)).toNat 0))))))) h ((k : Int), x) (List.mem_of_getElem? (enumI_at hk))
  obtain ⟨h1, h2⟩ := Bool.or_eq_false_iff.mp this
  obtain ⟨h3, _⟩ := Bool.or_eq_false_iff.mp h2
  have h1 := of_decide_eq_false h1
  have h3 := of_decide_eq_false h3
  have h1 : ¬ x < 0 := h1
  have h3 : ¬ many ≤ x := h3
  omega
structure OkOd (b : BagT) (letters : List Letter) (lines : List Road) : Prop where
  r : 0 ≤ b.2.1 ∧ b.2.1 < (lines.length : Int)
  n : 0 < b.2.2.length
  z : b.2.2.length ≤ 10000
  l : lines.length ≤ 40
  a : 0 < letters.length
  la : letters.length ≤ 40
  w : 0 ≤ (lines.getD b.2.1.toNat ("", "", 0, 0)).2.2.2
theorem okod_of {net : NetW} {letters : List Letter} {plan : List BagT} (pf : PlanFine net letters plan) (h40 : net.2.length ≤ 40) (hl : letters.length ≤ 40) (hw : ∀ r ∈ net.2, 1 ≤ r.2.2.2) {b : BagT} (hb : b ∈ plan) : OkOd b letters net.2 := by
  obtain ⟨i, hi⟩ := List.getElem?_of_mem hb
  have f := pf.f i b hi
  obtain ⟨w1, w2⟩ := wkAt_net (net := net) (letters := letters) (plan := plan) i
  have hr := f.r
  rw [w1] at hr
  have hn := List.length_pos_iff.mpr f.ne
  refine ⟨hr, hn, pf.z b hb, h40, ?_, hl, Int.le_trans (by decide) (hw _ (getD_mem hr.1 hr.2))⟩
  obtain ⟨x, hx⟩ := List.exists_mem_of_ne_nil _ f.ne
  have := f.n x hx
  rw [w2] at this
  omega
theorem place_of {error : Option Exn} {c : Bool} (h : ∀ e, error = some e → e.has_place = true) (hi : ((!(error.any Exn.is_RoadError)) || c) = false) : error.any Exn.has_place = true := by
  cases error with
  | none => cases (Bool.or_eq_false_iff.mp hi).1
  | some e => exact h e rfl
theorem reason_of {error : Option Exn} (h : error.any Exn.has_place = true) : error.any Exn.has_reason = true := by
  cases error with
  | none => cases h
  | some e => cases e <;> first | rfl | (cases (show false = true from h))
theorem xb_err {V Rr Ll Ss : Type} {o : Except Exn V} {F : V → Ss} {e : Exn} (h : (xb o (fun v1 => (.nx (F v1) : Cf (Except Exn Rr) Ll Ss)) (fun e1 => .rt (.error e1))) = .rt (.error e)) : o = .error e := by
  cases o with
  | ok v => cases h
  | error x => cases h; rfl
theorem arr_caught {net : NetW} {letters : List Letter} {plan : List D} {Rr Ll Ss : Type} {F : List (Option Int) → Ss} {e : Exn} (he : (xb (arrivals_x_m net letters plan) (fun v1 => (.nx (F v1) : Cf (Except Exn Rr) Ll Ss)) (fun e1 => .rt (.error e1))) = .rt (.error e)) : e.is_BadBag = true := by
  obtain ⟨p, r, q, _⟩ := sx_err (arrx_err (xb_err he))
  rw [q]; rfl
theorem sps_caught {net : NetW} {letters : List Letter} {plan : List D} {t : Int} {Rr Ll Ss : Type} {F : List Sp → Ss} {e : Exn} (he : (xb (spots_at_x_m net letters plan t) (fun v1 => (.nx (F v1) : Cf (Except Exn Rr) Ll Ss)) (fun e1 => .rt (.error e1))) = .rt (.error e)) : e.is_BadBag = true := by
  obtain ⟨p, r, q, _⟩ := sx_err (spsx_err (xb_err he))
  rw [q]; rfl
abbrev OkEr (error : Option Exn) : Prop := ∀ e, error = some e → ∃ p r, e = .BadBag p r ∧ PySem.PyData.strOk r = true
theorem try_er {V : Type} {o : Except Exn V} {Rr Ll : Type} {kept t1 : Option Exn} (hk : kept = none) (ho : ∀ e, o = .error e → ∃ p r, e = .BadBag p r ∧ PySem.PyData.strOk r = true) (h : (tryN (xb o (fun _ => (.nx kept : Cf (Except Exn Rr) Ll (Option Exn))) (fun e1 => .rt (.error e1))) (fun e : Exn => some e) : Cf Rr Ll (Option Exn)) = .nx t1) : OkEr t1 := fun e he => by
  cases o with
  | ok v =>
    have h : (Cf.nx kept : Cf Rr Ll (Option Exn)) = .nx t1 := h
    cases h
    rw [hk] at he; cases he
  | error x =>
    have h : (Cf.nx (some x) : Cf Rr Ll (Option Exn)) = .nx t1 := h
    cases h
    cases he
    exact ho _ rfl
theorem okEr_place {error : Option Exn} (h : OkEr error) : ∀ e, error = some e → e.has_place = true := fun e he => by
  obtain ⟨p, r, q, _⟩ := h e he
  rw [q]; rfl
theorem ref1 {net : NetW} {letters : List Letter} {plan : List D} {Rr Ll : Type} {kept t1 : Option Exn} (hk : kept = none) (h : (tryN (xb (arrivals_x_m net letters plan) (fun _ => (.nx kept : Cf (Except Exn Rr) Ll (Option Exn))) (fun e1 => .rt (.error e1))) (fun e : Exn => some e) : Cf Rr Ll (Option Exn)) = .nx t1) : ∀ e, t1 = some e → e.has_place = true := okEr_place (try_er hk (fun _ he => sx_err (arrx_err he)) h)
theorem ref2 {net : NetW} {letters : List Letter} {plan : List D} {t : Int} {Rr Ll : Type} {kept t1 : Option Exn} (hk : kept = none) (h : (tryN (xb (spots_at_x_m net letters plan t) (fun _ => (.nx kept : Cf (Except Exn Rr) Ll (Option Exn))) (fun e1 => .rt (.error e1))) (fun e : Exn => some e) : Cf Rr Ll (Option Exn)) = .nx t1) : ∀ e, t1 = some e → e.has_place = true := okEr_place (try_er hk (fun _ he => sx_err (spsx_err he)) h)
theorem refusal_dp {error : Option Exn} (h : OkEr error) : Dp' 1 (law_refusal_m error) := by
  unfold law_refusal_m
  refine cond_keep (P := Dp' 1) (fun _ => Dp'.str) fun _ => ?_
  refine cond_keep (P := Dp' 1) (fun _ => Dp'.str) fun _ => Dp'.tup (k := 0) (ac Dp'.int (ac (Dp'.str ?_) an))
  cases error with
  | none => decide +kernel
  | some e =>
    obtain ⟨p, r, q, hr⟩ := h e rfl
    rw [q]; exact hr
theorem both_any {net : NetW} {letters : List Letter} {plan : List D} {t : Int} : Any (D.lst ((law_both_m net letters plan t).map (fun x : D => x))) := by
  rw [map_any]
  have key : ∀ (o1 : Except Exn (List (Option Int))) (o2 : Except Exn (List Sp)), (∀ e, o1 = .error e → ∃ p r, e = .BadBag p r ∧ PySem.PyData.strOk r = true) → (∀ e, o2 = .error e → ∃ p r, e = .BadBag p r ∧ PySem.PyData.strOk r = true) → ∀ l, l = (bndV (tryN (xb o1 (fun _ => (.nx none : Cf (Except Exn (List D)) Empty (Option Exn))) (fun e1 => .rt (.error e1))) (fun e : Exn => some e)) fun t1 : Option Exn => bndV (tryN (xb o2 (fun _ => (.nx none : Cf (Except Exn (List D)) Empty (Option Exn))) (fun e1 => .rt (.error e1))) (fun e : Exn => some e)) fun t2 : Option Exn => [(law_refusal_m t1), (law_refusal_m t2)]) → Any (D.lst l) := by
    intro o1 o2 h1 h2 l hl
    have g : ∀ t1 t2, OkEr t1 → OkEr t2 → Any (D.lst [(law_refusal_m t1), (law_refusal_m t2)]) := fun t1 t2 k1 k2 => lst_any 1 (by decide) (ac (refusal_dp k1) (ac (refusal_dp k2) an))
    have n0 : OkEr none := fun e he => by cases he
    rw [hl]
    cases o1 with
    | ok v =>
      cases o2 with
      | ok v2 => exact g none none n0 n0
      | error e2 => exact g none (some e2) n0 fun e he => by cases he; exact h2 _ rfl
    | error e1 =>
      cases o2 with
      | ok v2 => exact g (some e1) none (fun e he => by cases he; exact h1 _ rfl) n0
      | error e2 => exact g (some e1) (some e2) (fun e he => by cases he; exact h1 _ rfl) fun e he => by cases he; exact h2 _ rfl
  exact key _ _ (fun _ he => sx_err (arrx_err he)) (fun _ he => sx_err (spsx_err he)) _ rfl
theorem pair_any {p : Int} {r : Str} (h : PySem.PyData.strOk r = true) : Any (D.lst (([(p, r), (p, r)] : List (Int × Str)).map (fun x : Int × Str => D.tup [(D.int x.1), (D.str x.2)]))) := by
  have := due2_any (p := p) h
  rw [map_any] at this
  exact this
theorem reason_str {letters : List Letter} {lines : List Road} {ahead : List BagT} {d : D} : PySem.PyData.strOk (law_reason_m letters lines ahead d) = true := by
  obtain ⟨s1, s2, s3, s4, s5, s6⟩ := strs6
  rw [reason_eq]
  refine cond_keep (P := fun x : Str => PySem.PyData.strOk x = true) (fun _ => s1) fun _ => cond_keep (P := fun x : Str => PySem.PyData.strOk x = true) (fun _ => s2) fun _ => cond_keep (P := fun x : Str => PySem.PyData.strOk x = true) (fun _ => s3) fun _ => cond_keep (P := fun x : Str => PySem.PyData.strOk x = true) (fun _ => s4) fun _ => cond_keep (P := fun x : Str => PySem.PyData.strOk x = true) (fun _ => s5) fun _ => cond_keep (P := fun x : Str => PySem.PyData.strOk x = true) (fun _ => s6) fun _ => by decide +kernel
theorem cut_things {net : NetW} {letters : List Letter} {plan : List BagT} (pf : PlanFine net letters plan) {lo hi : Option Int} : ∀ d ∈ (cut plan lo hi).map (fun x : Int × Int × List Int => D.tup [(D.int x.1), (D.int x.2.1), ((tlE D.int) x.2.2)]), OkThing d := fun d hd => by
  obtain ⟨b, hb, rfl⟩ := List.mem_map.mp hd
  exact okE (pf.z b (cut_mem hb))

end Lw
set_option Elab.async false
set_option linter.all false
set_option maxRecDepth 100000
set_option maxHeartbeats 2000000
/-! Calls that change what is owned, within expressions: the call is what is evaluated first. -/
namespace Sx
open PySem L2
section
variable {X : Cx} {W : WX} {g : Gm} {l : List Res} {a b e : Expr} {pos : Pos} {rest : List Stmt} {ι : Type}
end
end Sx
set_option Elab.async false
set_option linter.all false
set_option maxRecDepth 100000
set_option maxHeartbeats 4000000
namespace Lw
open PySem L2 Sx
section
variable {P : Program} {w : World} {K : PySem.W.Frag} {mg : Str → Option Value} {base : Heap} {c : Cs}

def Exn.xd (c : Cs) : Exn → Xd
  | .BadBag place reason => ⟨c.BadBag, [("reason", (D.str reason)), ("place", (D.int place))]⟩
  | .NoNet => ⟨c.NoNet, []⟩
  | .NoRoad => ⟨c.NoRoad, []⟩
theorem Exn.ec (T : Top K mg c) : ∀ e : Exn, ExcC K (e.xd c).C
  | .BadBag _ _ => T.x_BadBag.ec
  | .NoNet => T.x_NoNet.ec
  | .NoRoad => T.x_NoRoad.ec
theorem k_CutOff (T : Top K mg c) : ∀ e : Exn, PySem.W.kitOne K (.ref (e.xd c).C) (.ref c.CutOff) = some e.is_CutOff
  | .BadBag _ _ => T.xk_BadBag_CutOff
  | .NoNet => T.xk_NoNet_CutOff
  | .NoRoad => T.xk_NoRoad_CutOff
theorem k_ManyGoals (T : Top K mg c) : ∀ e : Exn, PySem.W.kitOne K (.ref (e.xd c).C) (.ref c.ManyGoals) = some e.is_ManyGoals
  | .BadBag _ _ => T.xk_BadBag_ManyGoals
  | .NoNet => T.xk_NoNet_ManyGoals
  | .NoRoad => T.xk_NoRoad_ManyGoals
theorem k_NoHouse (T : Top K mg c) : ∀ e : Exn, PySem.W.kitOne K (.ref (e.xd c).C) (.ref c.NoHouse) = some e.is_NoHouse
  | .BadBag _ _ => T.xk_BadBag_NoHouse
  | .NoNet => T.xk_NoNet_NoHouse
  | .NoRoad => T.xk_NoRoad_NoHouse
theorem k_NoLetter (T : Top K mg c) : ∀ e : Exn, PySem.W.kitOne K (.ref (e.xd c).C) (.ref c.NoLetter) = some e.is_NoLetter
  | .BadBag _ _ => T.xk_BadBag_NoLetter
  | .NoNet => T.xk_NoNet_NoLetter
  | .NoRoad => T.xk_NoRoad_NoLetter
theorem k_NoNet (T : Top K mg c) : ∀ e : Exn, PySem.W.kitOne K (.ref (e.xd c).C) (.ref c.NoNet) = some e.is_NoNet
  | .BadBag _ _ => T.xk_BadBag_NoNet
  | .NoNet => T.xk_NoNet_NoNet
  | .NoRoad => T.xk_NoRoad_NoNet
theorem k_NoRoad (T : Top K mg c) : ∀ e : Exn, PySem.W.kitOne K (.ref (e.xd c).C) (.ref c.NoRoad) = some e.is_NoRoad
  | .BadBag _ _ => T.xk_BadBag_NoRoad
  | .NoNet => T.xk_NoNet_NoRoad
  | .NoRoad => T.xk_NoRoad_NoRoad
theorem k_NoWay (T : Top K mg c) : ∀ e : Exn, PySem.W.kitOne K (.ref (e.xd c).C) (.ref c.NoWay) = some e.is_NoWay
  | .BadBag _ _ => T.xk_BadBag_NoWay
  | .NoNet => T.xk_NoNet_NoWay
  | .NoRoad => T.xk_NoRoad_NoWay
theorem k_RoadError (T : Top K mg c) : ∀ e : Exn, PySem.W.kitOne K (.ref (e.xd c).C) (.ref c.RoadError) = some e.is_RoadError
  | .BadBag _ _ => T.xk_BadBag_RoadError
  | .NoNet => T.xk_NoNet_RoadError
  | .NoRoad => T.xk_NoRoad_RoadError
theorem m_BadBag (T : Top K mg c) : ∀ e : Exn, PySem.W.exmOne K (.ref (e.xd c).C) (.ref c.BadBag) = some e.is_BadBag
  | .BadBag _ _ => T.xm_BadBag_BadBag
  | .NoNet => T.xm_NoNet_BadBag
  | .NoRoad => T.xm_NoRoad_BadBag
theorem k_ValueError (T : Top K mg c) : ∀ e : Exn, PySem.W.kitOne K (.ref (e.xd c).C) (.type "ValueError") = some true
  | .BadBag _ _ => T.xv_BadBag
  | .NoNet => T.xv_NoNet
  | .NoRoad => T.xv_NoRoad
theorem px_x_place {X : Cx} {g : Gm} {l : List Res} {o : Expr} {pos : Pos} {k : Option Exn} (T : Top X.K X.mg c) (ho : Px X o g l (optE (fun x : Exn => (Exn.xd c x).d) k)) (hk : k.any Exn.has_place = true) (hb : attributeBase o "place" X.env (eval o X.env) = eval o X.env := by rfl) : Px X (.Attribute o "place" pos) g l (D.int (k.elim 0 Exn.place)) := by
  cases k with
  | none => cases hk
  | some e =>
    cases e with
    | BadBag place reason => exact px_xf ho T.x_BadBag.ec T.no_BadBag_place (look_tl look_hd) hb
    | NoNet  => cases hk
    | NoRoad  => cases hk
theorem px_x_reason {X : Cx} {g : Gm} {l : List Res} {o : Expr} {pos : Pos} {k : Option Exn} (T : Top X.K X.mg c) (ho : Px X o g l (optE (fun x : Exn => (Exn.xd c x).d) k)) (hk : k.any Exn.has_reason = true) (hb : attributeBase o "reason" X.env (eval o X.env) = eval o X.env := by rfl) : Px X (.Attribute o "reason" pos) g l (D.str (k.elim "" Exn.reason)) := by
  cases k with
  | none => cases hk
  | some e =>
    cases e with
    | BadBag place reason => exact px_xf ho T.x_BadBag.ec T.no_BadBag_reason look_hd hb
    | NoNet  => cases hk
    | NoRoad  => cases hk
theorem g_BadBag_init (T : Top K mg c) : GloXi P w K mg base 1 c.BadBag "BadBag" ["self", "place", "reason"] (XiSp K c.BadBag (fun _ : Int × Str => True) (fun a => [(D.int a.1), (D.str a.2)]) (fun a => [("reason", (D.str a.2)), ("place", (D.int a.1))])) :=
  gloxi_of T.dx_BadBag (fun _ _ _ _ _ _ us hl => match us, hl with | [_, _, _], _ => rfl) fun f fd F D0 => fn_ok F cs_BadBag_init (fun _ => rfl) fun cdv A outer s H E a hr hok => by
    refine blk_reinit (k := 0) T.rg_RoadError T.rin_RoadError D0.T (pa_c (px_var (pv 0) rfl) (pa_c px_str pa_n)) rfl (by decide) ?_
    refine blk_ost0 (k := 0) D0.T T.no_BadBag_place (px_var (pv 1) rfl) (px_var (pv 0) rfl) rfl (fun dx => ?_)
    refine blk_ost1 (k := 1) (j := 0) D0.T T.no_BadBag_reason (px_var (pv 2) rfl) (px_var (pv 0) rfl) rfl rfl (by exact Nat.le_of_ble_eq_true rfl) ?_
    exact blk_nil ⟨rfl, dx, rfl⟩
end

section
variable {P : Program} {w : World} {K : PySem.W.Frag} {mg : Str → Option Value} {base : Heap} {c : Cs}

theorem g_Net_road (T : Top K mg c) : GloM P w K mg base 1 c.Net "road" ["self", "number"] (Pu K (fun a : (List Str × List Road) × Int => (fun (self : List Str × List Road) (number : Int) => 0 ≤ number ∧ number < (self.2.length : Int)) a.1 a.2) (fun a => [((netD c) a.1), (D.int a.2)]) (fun a => (roadD (Net_road_m a.1 a.2)))) :=
  glom_of T.d_Net_road T.c_Net.cl (fun _ _ _ _ _ _ us hl => match us, hl with | [_, _], _ => rfl) fun f fd F => fn_ok F cs_Net_road (fun _ => rfl) fun cdv A outer s H E a hr hok => by
    have nd := cs_Net_road.nd
    obtain ⟨self, number⟩ := a
    have hok : 0 ≤ number ∧ number < (self.2.length : Int) := hok
    refine Blk.imp (show Bo _ _ _ [some ((netD c) self), some (D.int number)] _ (Rt (PuR roadD)) (Net_road_m self number) from ?_) (fun _ _ h => h.elim) (fun _ _ h => h) (fun _ _ h => h.elim) (fun _ _ h => h.elim) (fun _ _ _ _ h => h.elim)
    unfold Net_road_m
    refine bo_ifD (ts_not (ts_chain op_le op_lt px_int (px_var (pv 1) rfl) o_le (px_bi call_len_seq T.z_len (pa_c (px_fld (px_var (pv 0) rfl) T.c_Net.cl T.n_Net_lines look_lines) pa_n) (o_lenM .f)) (fun _ => o_lt))) (by rw [decide_eq_true hok.1, decide_eq_true hok.2]; rfl) ?_
    -- if1f
    exact bo_ret (px_ix ix_list (px_fld (px_var (pv 0) rfl) T.c_Net.cl T.n_Net_lines look_lines) (px_var (pv 1) rfl) (o_ixM roadD (x0 := ("", "", 0, 0)) .f /-lo1-/(by omega) /-hi1-/(by omega)))

theorem g_later (T : Top K mg c) : Glo P w K mg base 3 "later" ["net", "letter", "spot", "turn"] (Pu K (fun a : (List Str × List Road) × Letter × Sp × Int => (fun (net : List Str × List Road) (letter : Letter) (spot : Sp) (turn : Int) => spot.isOn = true → (0 ≤ spot.r ∧ spot.r < (net.2.length : Int))) a.1 a.2.1 a.2.2.1 a.2.2.2) (fun a => [((netD c) a.1), (letterD a.2.1), (spD c a.2.2.1), (D.int a.2.2.2)]) (fun a => (spD c (later_m a.1 a.2.1 a.2.2.1 a.2.2.2)))) :=
  glo_of T.d_later (fun _ _ _ _ _ _ us hl => match us, hl with | [_, _, _, _], _ => rfl) fun f fd F => fn_ok F cs_later (fun _ => rfl) fun cdv A outer s H E a hr hok => by
    have nd := cs_later.nd
    obtain ⟨net, letter, spot, turn⟩ := a
    have hok : spot.isOn = true → (0 ≤ spot.r ∧ spot.r < (net.2.length : Int)) := hok
    refine Blk.imp (show Bo _ _ _ [some ((netD c) net), some (letterD letter), some (spD c spot), some (D.int turn), none] _ (Rt (PuR (fun x : Sp => (spD c x)))) (later_m net letter spot turn) from ?_) (fun _ _ h => h.elim) (fun _ _ h => h) (fun _ _ h => h.elim) (fun _ _ h => h.elim) (fun _ _ _ _ h => h.elim)
    unfold later_m
    refine bo_ifR (ts_w (tw_and (ts_val (px_isNo T (px_var (pv 2) rfl))) fun hb1 => (tw_and1 (ts_cmp op_le (px_ix ix_tup (px_var (pv 1) rfl) px_int (o_ixT (d := (D.int letter.2.1)) rfl)) (px_var (pv 3) rfl) o_le)))) (fun hi1 => ?_) (fun hi1 => ?_)
    · -- if1t
      exact bo_ret (px_spAt T hr (by decide) (px_ix ix_tup (px_var (pv 1) rfl) px_int (o_ixT (d := (D.str letter.1)) rfl)) (px_ix ix_tup (px_var (pv 1) rfl) px_int (o_ixT (d := (D.int letter.2.1)) rfl)))
    · -- if1f
      refine bo_ifR (ts_w (tw_and (ts_val (px_isOn T (px_var (pv 2) rfl))) fun hb2 => (tw_and1 (ts_cmp op_le (px_sp_due T (px_var (pv 2) rfl) /-sp_due1-/(by assumption)) (px_var (pv 3) rfl) o_le)))) (fun hi2 => ?_) (fun hi2 => ?_)
      · -- if2t
        have hon : spot.isOn = true := (Bool.and_eq_true_iff.mp hi2).1
        refine bo_set D.str nd (i := 4) rfl (.inl rfl) (px_ix ix_tup (px_meth (g_Net_road T) hr (by decide) (net, spot.r) /-ok_road_1-/(hok hon) (px_var (pv 0) rfl) (look_none (by decide +kernel) (by decide +kernel)) (pa_c (px_sp_r T (px_var (pv 2) rfl) /-sp_by1-/(by assumption)) pa_n) rfl) px_int (o_ixT (d := (D.str ((Net_road_m net spot.r).2.1))) rfl)) (fun house hhouse => ?_)
        refine bo_ifR (ts_cmp op_eq (px_var (pv 4) rfl) (px_ix ix_tup (px_var (pv 1) rfl) px_int (o_ixT (d := (D.str letter.2.2)) rfl)) o_eqS) (fun hi3 => ?_) (fun hi3 => ?_)
        · -- if3t
          exact bo_ret (px_spHome T hr (by decide) (px_sp_due T (px_var (pv 2) rfl) /-sp_due2-/(by assumption)))
        · -- if3f
          exact bo_ret (px_spAt T hr (by decide) (px_var (pv 4) rfl) (px_sp_due T (px_var (pv 2) rfl) /-sp_due3-/(by assumption)))
      · -- if2f
        exact bo_ret (px_var (pv 2) rfl)

theorem g_is_number (T : Top K mg c) : Glo P w K mg base 1 "is_number" ["thing"] (Pu K (fun a : Int => True) (fun a => [(D.int a)]) (fun a => (D.bl (is_number_m a)))) :=
  glo_of T.d_is_number (fun _ _ _ _ _ _ us hl => match us, hl with | [_], _ => rfl) fun f fd F => fn_ok F cs_is_number (fun _ => rfl) fun cdv A outer s H E a hr hok => by
    have nd := cs_is_number.nd
    revert hok; revert a; intro thing hok
    refine Blk.imp (show Bo _ _ _ [some (D.int thing)] _ (Rt (PuR D.bl)) (is_number_m thing) from ?_) (fun _ _ h => h.elim) (fun _ _ h => h) (fun _ _ h => h.elim) (fun _ _ h => h.elim) (fun _ _ _ _ h => h.elim)
    unfold is_number_m
    exact bo_ret (px_and (px_isT "int" "int" true T.z_isinstance T.z_int (px_var (pv 0) rfl)) fun hb1 => (px_one (px_not (px_isT "bool" "int" false T.z_isinstance T.z_bool (px_var (pv 0) rfl)))))

theorem g_is_bag (T : Top K mg c) : Glo P w K mg base 2 "is_bag" ["thing"] (Pu K (fun a : (Int × Int × List Int) => (fun (thing : Int × Int × List Int) => thing.2.2.length ≤ 10000) a) (fun a => [D.tup [(D.int a.1), (D.int a.2.1), ((tlE D.int) a.2.2)]]) (fun a => (D.bl (is_bag_m a)))) :=
  glo_of T.d_is_bag (fun _ _ _ _ _ _ us hl => match us, hl with | [_], _ => rfl) fun f fd F => fn_ok F cs_is_bag (fun _ => rfl) fun cdv A outer s H E a hr hok => by
    have nd := cs_is_bag.nd
    revert hok; revert a; intro thing hok
    have hok : thing.2.2.length ≤ 10000 := hok
    refine Blk.imp (show Bo _ _ _ [some (D.tup [(D.int thing.1), (D.int thing.2.1), ((tlE D.int) thing.2.2)]), none] _ (Rt (PuR D.bl)) (is_bag_m thing) from ?_) (fun _ _ h => h.elim) (fun _ _ h => h) (fun _ _ h => h.elim) (fun _ _ h => h.elim) (fun _ _ _ _ h => h.elim)
    unfold is_bag_m
    refine bo_ifR (ts_w (tw_or (ts_not (ts_val (px_isT "tuple" "tuple" true T.z_isinstance T.z_tuple (px_var (pv 0) rfl)))) fun hb1 => (tw_or1 (ts_cmp op_ne (px_bi call_len_seq T.z_len (pa_c (px_var (pv 0) rfl) pa_n) o_lenT) px_int o_neI)))) (fun hi1 => ?_) (fun hi1 => ?_)
    · -- if1t
      exact bo_ret px_bl
    · -- if1f
      refine bo_ifR (ts_w (tw_or (ts_not (ts_val (px_call (g_is_number T) hr (by decide) thing.1 /-ok_is_number_1-/(trivial) (pa_c (px_ix ix_tup (px_var (pv 0) rfl) px_int (o_ixT (d := (D.int thing.1)) rfl)) pa_n)))) fun hb3 => (tw_or (ts_not (ts_val (px_call (g_is_number T) hr (by decide) thing.2.1 /-ok_is_number_2-/(trivial) (pa_c (px_ix ix_tup (px_var (pv 0) rfl) px_int (o_ixT (d := (D.int thing.2.1)) rfl)) pa_n)))) fun hb2 => (tw_or1 (ts_not (ts_val (px_isT "tuple" "tuple" true T.z_isinstance T.z_tuple (px_ix ix_tup (px_var (pv 0) rfl) px_int (o_ixT (d := ((tlE D.int) thing.2.2)) rfl))))))))) (fun hi2 => ?_) (fun hi2 => ?_)
      · -- if2t
        exact bo_ret px_bl
      · -- if2f
        exact bo_ret (px_and (px_cmp (op_neD hr.units) (px_ix ix_tup (px_var (pv 0) rfl) px_int (o_ixT (d := ((tlE D.int) thing.2.2)) rfl)) (Px.to (px_tup pa_n) (rfl : _ = tlE D.int [])) (o_neE (eqs_tl eqs_int) /-eqk1-/(by simp) /-eqk2-/(by simp))) fun hb4 => (px_one (px_bi (cr_all rfl) T.z_all (pa_c (px_lcM (own := [("one", 1)]) (is := [1]) D.int D.bl (fun z1 : Int => (is_number_m z1)) rfl nd (it_tup (px_ix ix_tup (px_var (pv 0) rfl) px_int (o_ixT (d := ((tlE D.int) thing.2.2)) rfl))) (blkOk_by (N := ns_is_bag) (sc := defScope s_is_bag) (by decide +kernel)) (fun _ _ _ _ _ => (pg_name (i := 1) nd rfl (.inl rfl))) (by decide) /-csz1-/(hok) (fun i z1 hz1 => by
          have hz1m := List.mem_of_getElem? hz1
          have hz1l := (List.getElem?_eq_some_iff.mp hz1).1
          exact ⟨_, tg_name, fun _ _ _ _ _ => (px_call (g_is_number T) hr (by decide) z1 /-ok_is_number_3-/(trivial) (pa_c (px_var (pv 1) rfl) pa_n))⟩)) pa_n) (o_all .f))))

theorem g_Walk_init_o (T : Top K mg c) : GloC P w K mg base 1 c.Walk "Walk" ["self", "net", "letters"] (SpN K (fun a : Addr × (List Str × List Road) × List Letter => a.2.2.length ≤ 10000) (fun a => [.adr a.1, ((netD c) a.2.1), ((lstE letterD) a.2.2)]) (fun a => [ownI K a.1 c.Walk []]) (fun a => OwnR (fun (i : Addr) (r : ((List Str × List Road) × List Letter × List Sp × (Option (Int × Int)))) => (.non : D)) (fun (i : Addr) (r : ((List Str × List Road) × List Letter × List Sp × (Option (Int × Int)))) => ([ownI K a.1 c.Walk [("net", ((netD c) r.1)), ("posted", ((lstE letterD) r.2.1)), ("stood", .adr i), ("last", ((optE (fun x : Int × Int => D.tup [(D.int x.1), (D.int x.2)])) r.2.2.2))], ownL K i (r.2.2.1.map (fun x : Sp => (spD c x)))] : List Res))) (fun a => Walk_init_o_m a.2.1 a.2.2)) :=
  gloc_of T.d_Walk_init T.c_Walk (fun _ _ _ _ _ _ us hl => match us, hl with | [_, _, _], _ => rfl) fun f fd F => fn_ok F cs_Walk_init (fun _ => rfl) fun cdv A outer s H E a hr hok => by
    have nd := cs_Walk_init.nd
    obtain ⟨p_self, net, letters⟩ := a
    have hok : letters.length ≤ 10000 := hok
    refine Blk.imp (show Bo _ _ _ [some (D.adr p_self), some ((netD c) net), some ((lstE letterD) letters), none] [ownI K p_self c.Walk []] (Rv (OwnR (fun (i : Addr) (r : ((List Str × List Road) × List Letter × List Sp × (Option (Int × Int)))) => (.non : D)) (fun (i : Addr) (r : ((List Str × List Road) × List Letter × List Sp × (Option (Int × Int)))) => ([ownI K p_self c.Walk [("net", ((netD c) r.1)), ("posted", ((lstE letterD) r.2.1)), ("stood", .adr i), ("last", ((optE (fun x : Int × Int => D.tup [(D.int x.1), (D.int x.2)])) r.2.2.2))], ownL K i (r.2.2.1.map (fun x : Sp => (spD c x)))] : List Res)))) (Walk_init_o_m net letters) from ?_) (fun _ _ h => h) (fun _ _ h => h) (fun _ _ h => h.elim) (fun _ _ h => h.elim) (fun _ _ _ _ h => h.elim)
    unfold Walk_init_o_m
    refine bo_fldF (n := 0) (fs' := fun net_2 => [("net", ((netD c) net_2))]) (netD c) (px_var (pv 1) rfl) (px_var (pv 0) rfl) rfl T.c_Walk.cl T.n_Walk_net (fun _ => putD_nil) (fun net_2 hnet_2 => ?_)
    show Bo _ _ _ [some (D.adr p_self), some ((netD c) net), some ((lstE letterD) letters), none] [ownI K p_self c.Walk [("net", ((netD c) net_2))]] _ _
    refine bo_fldF (n := 0) (fs' := fun posted => [("net", ((netD c) net_2)), ("posted", ((lstE letterD) posted))]) (lstE letterD) (px_listOf (px_var (pv 2) rfl) .f T.z_list) (px_var (pv 0) rfl) rfl T.c_Walk.cl T.n_Walk_posted (fun _ => (putD_tl putD_nil)) (fun posted hposted => ?_)
    show Bo _ _ _ [some (D.adr p_self), some ((netD c) net), some ((lstE letterD) letters), none] [ownI K p_self c.Walk [("net", ((netD c) net_2)), ("posted", ((lstE letterD) posted))]] _ _
    refine bo_fldO (n := fun _ => 1) (fs' := fun q_stood stood => [("net", ((netD c) net_2)), ("posted", ((lstE letterD) posted)), ("stood", .adr q_stood)]) (dd := fun (q_stood : Addr) (stood : List Sp) => D.adr q_stood) (ll := fun (q_stood : Addr) (stood : List Sp) => [ownL K q_stood (stood.map (fun x : Sp => (spD c x))), ownI K p_self c.Walk [("net", ((netD c) net_2)), ("posted", ((lstE letterD) posted))]]) (ev_lcM (own := [("one", 3)]) (is := [3]) letterD (fun x : Sp => (spD c x)) (fun z1 : Letter => Sp.no) rfl nd (it_list (px_var (pv 2) rfl)) (blkOk_by (N := ns_Walk_init) (sc := defScope s_Walk_init) (by decide +kernel)) (fun _ _ _ _ _ => (pg_name (i := 3) nd rfl (.inl rfl))) (by decide) /-csz1-/(hok) (fun i z1 hz1 => by
      have hz1m := List.mem_of_getElem? hz1
      have hz1l := (List.getElem?_eq_some_iff.mp hz1).1
      exact ⟨_, tg_name, fun _ _ _ _ _ => (px_spNo T)⟩)) (fun _ => (px_var (pv 0) rfl)) (fun _ => rfl) T.c_Walk.cl T.n_Walk_stood (fun _ _ => (putD_tl (putD_tl putD_nil))) (fun q_stood stood hstood => ?_)
    show Bo _ _ _ [some (D.adr p_self), some ((netD c) net), some ((lstE letterD) letters), none] [ownL K q_stood (stood.map (fun x : Sp => (spD c x))), ownI K p_self c.Walk [("net", ((netD c) net_2)), ("posted", ((lstE letterD) posted)), ("stood", .adr q_stood)]] _ _
    refine bo_fldF (n := 1) (fs' := fun last => [("net", ((netD c) net_2)), ("posted", ((lstE letterD) posted)), ("stood", .adr q_stood), ("last", ((optE (fun x : Int × Int => D.tup [(D.int x.1), (D.int x.2)])) last))]) (optE (fun x : Int × Int => D.tup [(D.int x.1), (D.int x.2)])) (Px.to px_non (rfl : _ = ((optE (fun x : Int × Int => D.tup [(D.int x.1), (D.int x.2)])) none))) (px_var (pv 0) rfl) rfl T.c_Walk.cl T.n_Walk_last (fun _ => (putD_tl (putD_tl (putD_tl putD_nil)))) (fun last hlast => ?_)
    show Bo _ _ _ [some (D.adr p_self), some ((netD c) net), some ((lstE letterD) letters), none] [ownL K q_stood (stood.map (fun x : Sp => (spD c x))), ownI K p_self c.Walk [("net", ((netD c) net_2)), ("posted", ((lstE letterD) posted)), ("stood", .adr q_stood), ("last", ((optE (fun x : Int × Int => D.tup [(D.int x.1), (D.int x.2)])) last))]] _ _
    exact bo_endG (junk := []) (r := (net_2, posted, stood, last)) q_stood rfl ((perm_at (k := 1) rfl).trans (.cons _ ((perm_at (k := 0) rfl).trans (.cons _ (.refl _)))))
section
variable {X : Cx} {g : Gm} {l : List Res} {e1 : Expr} {es : List Expr} {p pos : Pos} {j : Nat}
theorem ev_new_Walk (T : Top X.K X.mg c) (hr : Room j X.A) (hj : 2 ≤ j) (a : (List Str × List Road) × List Letter) (hok : a.2.length ≤ 10000) (ha : Pa X (e1 :: es) g l [((netD c) a.1), ((lstE letterD) a.2)]) (hg : Gl X "Walk" := by rfl) (he : starEach (e1 :: es) X.env = (false, eval e1 X.env) :: starEach es X.env := by rfl) (hpl : (backTo pos (starEach es X.env)).any (·.1) = false := by rfl) :
    Ev X (.Call (.Name "Walk" p) (e1 :: es) [] pos) g l (fun d l' => ∃ i : Addr × Addr, d = (fun (i : Addr × Addr) (_ : (List Str × List Road) × List Letter × List Sp × (Option (Int × Int))) => D.adr i.1) i (Walk_init_o_m a.1 a.2) ∧ l' = (fun (i : Addr × Addr) (r : (List Str × List Road) × List Letter × List Sp × (Option (Int × Int))) => (([ownI X.K i.1 c.Walk [("net", ((netD c) r.1)), ("posted", ((lstE letterD) r.2.1)), ("stood", .adr i.2), ("last", ((optE (fun x : Int × Int => D.tup [(D.int x.1), (D.int x.2)])) r.2.2.2))], ownL X.K i.2 (r.2.2.1.map (fun x : Sp => (spD c x)))] : List Res) ++ l)) i (Walk_init_o_m a.1 a.2)) :=
  ev_make (g_Walk_init_o T) hr hj (fun q => (q, a.1, a.2)) (fun _ => hok) ha (fun _ => rfl) (fun _ => rfl) (fun q d l' ⟨i, h1, h2⟩ => ⟨h1, (q, i), rfl, by rw [h2]⟩) hg (by decide) he hpl
end

theorem g_Walk_lies_at (T : Top K mg c) : GloM P w K mg base 4 c.Walk "lies_at" ["self", "number", "house", "turn"] (SpN K (fun a : ((List Str × List Road) × List Letter × List Sp × (Option (Int × Int))) × Addr × Addr × Int × Str × Int => (0 ≤ a.2.2.2.1 ∧ a.2.2.2.1 < (a.1.2.1.length : Int)) ∧ OkWk a.1) (fun a => [.adr a.2.1, (D.int a.2.2.2.1), (D.str a.2.2.2.2.1), (D.int a.2.2.2.2.2)]) (fun a => [ownI K a.2.1 c.Walk [("net", ((netD c) a.1.1)), ("posted", ((lstE letterD) a.1.2.1)), ("stood", .adr a.2.2.1), ("last", ((optE (fun x : Int × Int => D.tup [(D.int x.1), (D.int x.2)])) a.1.2.2.2))], ownL K a.2.2.1 (a.1.2.2.1.map (fun x : Sp => (spD c x)))]) (fun a => OwnR (fun (i : Unit) (r : Bool) => ((D.bl r) : D)) (fun (i : Unit) (r : Bool) => ([ownI K a.2.1 c.Walk [("net", ((netD c) a.1.1)), ("posted", ((lstE letterD) a.1.2.1)), ("stood", .adr a.2.2.1), ("last", ((optE (fun x : Int × Int => D.tup [(D.int x.1), (D.int x.2)])) a.1.2.2.2))], ownL K a.2.2.1 (a.1.2.2.1.map (fun x : Sp => (spD c x)))] : List Res))) (fun a => Walk_lies_at_m a.1 a.2.2.2.1 a.2.2.2.2.1 a.2.2.2.2.2)) :=
  glom_of T.d_Walk_lies_at T.c_Walk.cl (fun _ _ _ _ _ _ us hl => match us, hl with | [_, _, _, _], _ => rfl) fun f fd F => fn_ok F cs_Walk_lies_at (fun _ => rfl) fun cdv A outer s H E a hr hok => by
    have nd := cs_Walk_lies_at.nd
    obtain ⟨self, p_self, q_self_stood, number, house, turn⟩ := a
    have hok : (0 ≤ number ∧ number < (self.2.1.length : Int)) ∧ OkWk self := hok
    have hl := hok.2.l
    have hnr := hok.1
    refine Blk.imp (show Bo _ _ _ [some (D.adr p_self), some (D.int number), some (D.str house), some (D.int turn), none] [ownI K p_self c.Walk [("net", ((netD c) self.1)), ("posted", ((lstE letterD) self.2.1)), ("stood", .adr q_self_stood), ("last", ((optE (fun x : Int × Int => D.tup [(D.int x.1), (D.int x.2)])) self.2.2.2))], ownL K q_self_stood (self.2.2.1.map (fun x : Sp => (spD c x)))] (Rt (OwnR (fun (i : Unit) (r : Bool) => ((D.bl r) : D)) (fun (i : Unit) (r : Bool) => ([ownI K p_self c.Walk [("net", ((netD c) self.1)), ("posted", ((lstE letterD) self.2.1)), ("stood", .adr q_self_stood), ("last", ((optE (fun x : Int × Int => D.tup [(D.int x.1), (D.int x.2)])) self.2.2.2))], ownL K q_self_stood (self.2.2.1.map (fun x : Sp => (spD c x)))] : List Res)))) (Walk_lies_at_m self number house turn) from ?_) (fun _ _ h => h.elim) (fun _ _ h => h) (fun _ _ h => h.elim) (fun _ _ h => h.elim) (fun _ _ _ _ h => h.elim)
    unfold Walk_lies_at_m
    refine bo_set (fun x : Sp => (spD c x)) nd (i := 4) rfl (.inl rfl) (px_call (g_later T) hr (by decide) (self.1, (self.2.1.getD (number).toNat ("", 0, "")), (self.2.2.1.getD (number).toNat .no), turn) /-ok_later_1-/(fun h => hok.2.r _ (getD_mem hnr.1 (by omega)) h) (pa_c (px_fldO (px_var (pv 0) rfl) (k := 0) rfl T.c_Walk.cl T.n_Walk_net look_hd) (pa_c (px_ix ix_list (px_fldO (px_var (pv 0) rfl) (k := 0) rfl T.c_Walk.cl T.n_Walk_posted (look_tl look_hd)) (px_var (pv 1) rfl) (o_ixM letterD (x0 := ("", 0, "")) .f /-lo1-/(hnr.1) /-hi1-/(by omega))) (pa_c (px_ix ix_list (px_fldO (px_var (pv 0) rfl) (k := 0) rfl T.c_Walk.cl T.n_Walk_stood (look_tl (look_tl look_hd))) (px_var (pv 1) rfl) (o_ixM (fun x : Sp => (spD c x)) (x0 := .no) (.o (k := 1) rfl) /-lo2-/(hnr.1) /-hi2-/(by omega))) (pa_c (px_var (pv 3) rfl) pa_n))))) (fun spot hspot => ?_)
    exact bo_retG (dd := (fun (i : Unit) (r : Bool) => ((D.bl r) : D))) (ll := (fun (i : Unit) (r : Bool) => ([ownI K p_self c.Walk [("net", ((netD c) self.1)), ("posted", ((lstE letterD) self.2.1)), ("stood", .adr q_self_stood), ("last", ((optE (fun x : Int × Int => D.tup [(D.int x.1), (D.int x.2)])) self.2.2.2))], ownL K q_self_stood (self.2.2.1.map (fun x : Sp => (spD c x)))] : List Res))) (junk := []) (r := (spot.isAt && (decide (spot.h = house)))) () (px_and (px_isAt T (px_var (pv 4) rfl)) fun hb1 => (px_one (px_cmp op_eq (px_sp_h T (px_var (pv 4) rfl) /-sp_at1-/(by assumption)) (px_var (pv 2) rfl) o_eqS))) (.refl _)

theorem g_Walk_are_letters (T : Top K mg c) : GloM P w K mg base 1 c.Walk "are_letters" ["self", "numbers"] (SpN K (fun a : ((List Str × List Road) × List Letter × List Sp × (Option (Int × Int))) × Addr × Addr × List Int => True) (fun a => [.adr a.2.1, ((tlE D.int) a.2.2.2)]) (fun a => [ownI K a.2.1 c.Walk [("net", ((netD c) a.1.1)), ("posted", ((lstE letterD) a.1.2.1)), ("stood", .adr a.2.2.1), ("last", ((optE (fun x : Int × Int => D.tup [(D.int x.1), (D.int x.2)])) a.1.2.2.2))], ownL K a.2.2.1 (a.1.2.2.1.map (fun x : Sp => (spD c x)))]) (fun a => OwnR (fun (i : Unit) (r : Bool) => ((D.bl r) : D)) (fun (i : Unit) (r : Bool) => ([ownI K a.2.1 c.Walk [("net", ((netD c) a.1.1)), ("posted", ((lstE letterD) a.1.2.1)), ("stood", .adr a.2.2.1), ("last", ((optE (fun x : Int × Int => D.tup [(D.int x.1), (D.int x.2)])) a.1.2.2.2))], ownL K a.2.2.1 (a.1.2.2.1.map (fun x : Sp => (spD c x)))] : List Res))) (fun a => Walk_are_letters_m a.1 a.2.2.2)) :=
  glom_of T.d_Walk_are_letters T.c_Walk.cl (fun _ _ _ _ _ _ us hl => match us, hl with | [_, _], _ => rfl) fun f fd F => fn_ok F cs_Walk_are_letters (fun _ => rfl) fun cdv A outer s H E a hr hok => by
    have nd := cs_Walk_are_letters.nd
    obtain ⟨self, p_self, q_self_stood, numbers⟩ := a
    refine Blk.imp (show Bo _ _ _ [some (D.adr p_self), some ((tlE D.int) numbers), none, none] [ownI K p_self c.Walk [("net", ((netD c) self.1)), ("posted", ((lstE letterD) self.2.1)), ("stood", .adr q_self_stood), ("last", ((optE (fun x : Int × Int => D.tup [(D.int x.1), (D.int x.2)])) self.2.2.2))], ownL K q_self_stood (self.2.2.1.map (fun x : Sp => (spD c x)))] (Rt (OwnR (fun (i : Unit) (r : Bool) => ((D.bl r) : D)) (fun (i : Unit) (r : Bool) => ([ownI K p_self c.Walk [("net", ((netD c) self.1)), ("posted", ((lstE letterD) self.2.1)), ("stood", .adr q_self_stood), ("last", ((optE (fun x : Int × Int => D.tup [(D.int x.1), (D.int x.2)])) self.2.2.2))], ownL K q_self_stood (self.2.2.1.map (fun x : Sp => (spD c x)))] : List Res)))) (Walk_are_letters_m self numbers) from ?_) (fun _ _ h => h.elim) (fun _ _ h => h) (fun _ _ h => h.elim) (fun _ _ h => h.elim) (fun _ _ _ _ h => h.elim)
    unfold Walk_are_letters_m
    refine bo_set D.int nd (i := 2) rfl (.inl rfl) (px_un un_neg px_int o_neg) (fun ahead hahead => ?_)
    refine bo_forV (is := [3]) D.int (fun s1 : Int => [some (D.adr p_self), some ((tlE D.int) numbers), some (D.int s1), none]) (fun s1 : Int => [ownI K p_self c.Walk [("net", ((netD c) self.1)), ("posted", ((lstE letterD) self.2.1)), ("stood", .adr q_self_stood), ("last", ((optE (fun x : Int × Int => D.tup [(D.int x.1), (D.int x.2)])) self.2.2.2))], ownL K q_self_stood (self.2.2.1.map (fun x : Sp => (spD c x)))]) (fun _ _ => True) (fun _ => True) PassesOwn.never rfl (it_tup (px_var (pv 1) rfl)) (pg_name (i := 3) nd rfl (.inl rfl)) (.keep (.keep (.keep (.any .nil)))) rfl trivial (fun i1 x1 s1 hx1 hp1 hj1 => ?_) (fun _ _ => trivial) (fun s1 hs1 hj1e => ?_)
    · -- for1
      have hx1m := List.mem_of_getElem? hx1
      have hx1l := (List.getElem?_eq_some_iff.mp hx1).1
      refine ⟨⟨fun _ _ => trivial, fun _ _ => trivial, fun _ _ => trivial⟩, _, tg_name, ?_⟩
      refine bo_ifO (ts_w (tw_or (ts_cmp op_le (px_var (pv 3) rfl) (px_var (pv 2) rfl) o_le) fun hb1 => (tw_or1 (ts_cmp op_ge (px_var (pv 3) rfl) (px_bi call_len_seq T.z_len (pa_c (px_fldO (px_var (pv 0) rfl) (k := 0) rfl T.c_Walk.cl T.n_Walk_posted (look_tl look_hd)) pa_n) (o_lenM .f)) o_ge)))) (fun hi1 => ?_) (fun hi1 => ?_)
      · -- if1t
        exact bo_retGO (dd := (fun (i : Unit) (r : Bool) => ((D.bl r) : D))) (ll := (fun (i : Unit) (r : Bool) => ([ownI K p_self c.Walk [("net", ((netD c) self.1)), ("posted", ((lstE letterD) self.2.1)), ("stood", .adr q_self_stood), ("last", ((optE (fun x : Int × Int => D.tup [(D.int x.1), (D.int x.2)])) self.2.2.2))], ownL K q_self_stood (self.2.2.1.map (fun x : Sp => (spD c x)))] : List Res))) (junk := []) (r := false) () px_bl (.refl _)
      · -- if1f
        refine bo_set D.int nd (i := 2) rfl (.inl rfl) (px_var (pv 3) rfl) (fun ahead_2 hahead_2 => ?_)
        exact bo_nxO (.keep (.keep (.keep (.any .nil)))) rfl
    -- behind for1
    exact bo_retG (dd := (fun (i : Unit) (r : Bool) => ((D.bl r) : D))) (ll := (fun (i : Unit) (r : Bool) => ([ownI K p_self c.Walk [("net", ((netD c) self.1)), ("posted", ((lstE letterD) self.2.1)), ("stood", .adr q_self_stood), ("last", ((optE (fun x : Int × Int => D.tup [(D.int x.1), (D.int x.2)])) self.2.2.2))], ownL K q_self_stood (self.2.2.1.map (fun x : Sp => (spD c x)))] : List Res))) (junk := []) (r := true) () px_bl (.refl _)

theorem g_Walk_amiss (T : Top K mg c) : GloM P w K mg base 5 c.Walk "amiss" ["self", "bag"] (SpN K (fun a : ((List Str × List Road) × List Letter × List Sp × (Option (Int × Int))) × Addr × Addr × (Int × Int × List Int) => OkWk a.1 ∧ a.2.2.2.2.2.length ≤ 10000) (fun a => [.adr a.2.1, D.tup [(D.int a.2.2.2.1), (D.int a.2.2.2.2.1), ((tlE D.int) a.2.2.2.2.2)]]) (fun a => [ownI K a.2.1 c.Walk [("net", ((netD c) a.1.1)), ("posted", ((lstE letterD) a.1.2.1)), ("stood", .adr a.2.2.1), ("last", ((optE (fun x : Int × Int => D.tup [(D.int x.1), (D.int x.2)])) a.1.2.2.2))], ownL K a.2.2.1 (a.1.2.2.1.map (fun x : Sp => (spD c x)))]) (fun a => OwnR (fun (i : Unit) (r : Option Str) => (((optE D.str) r) : D)) (fun (i : Unit) (r : Option Str) => ([ownI K a.2.1 c.Walk [("net", ((netD c) a.1.1)), ("posted", ((lstE letterD) a.1.2.1)), ("stood", .adr a.2.2.1), ("last", ((optE (fun x : Int × Int => D.tup [(D.int x.1), (D.int x.2)])) a.1.2.2.2))], ownL K a.2.2.1 (a.1.2.2.1.map (fun x : Sp => (spD c x)))] : List Res))) (fun a => Walk_amiss_m a.1 a.2.2.2)) :=
  glom_of T.d_Walk_amiss T.c_Walk.cl (fun _ _ _ _ _ _ us hl => match us, hl with | [_, _], _ => rfl) fun f fd F => fn_ok F cs_Walk_amiss (fun _ => rfl) fun cdv A outer s H E a hr hok => by
    have nd := cs_Walk_amiss.nd
    obtain ⟨self, p_self, q_self_stood, bag⟩ := a
    have hok : OkWk self ∧ bag.2.2.length ≤ 10000 := hok
    refine Blk.imp (show Bo _ _ _ [some (D.adr p_self), some (D.tup [(D.int bag.1), (D.int bag.2.1), ((tlE D.int) bag.2.2)]), none, none, none, none, none] [ownI K p_self c.Walk [("net", ((netD c) self.1)), ("posted", ((lstE letterD) self.2.1)), ("stood", .adr q_self_stood), ("last", ((optE (fun x : Int × Int => D.tup [(D.int x.1), (D.int x.2)])) self.2.2.2))], ownL K q_self_stood (self.2.2.1.map (fun x : Sp => (spD c x)))] (Rt (OwnR (fun (i : Unit) (r : Option Str) => (((optE D.str) r) : D)) (fun (i : Unit) (r : Option Str) => ([ownI K p_self c.Walk [("net", ((netD c) self.1)), ("posted", ((lstE letterD) self.2.1)), ("stood", .adr q_self_stood), ("last", ((optE (fun x : Int × Int => D.tup [(D.int x.1), (D.int x.2)])) self.2.2.2))], ownL K q_self_stood (self.2.2.1.map (fun x : Sp => (spD c x)))] : List Res)))) (Walk_amiss_m self bag) from ?_) (fun _ _ h => h.elim) (fun _ _ h => h) (fun _ _ h => h.elim) (fun _ _ h => h.elim) (fun _ _ _ _ h => h.elim)
    unfold Walk_amiss_m
    refine bo_ifR (ts_not (ts_val (px_call (g_is_bag T) hr (by decide) bag /-ok_is_bag_1-/(hok.2) (pa_c (px_var (pv 1) rfl) pa_n)))) (fun hi1 => ?_) (fun hi1 => ?_)
    · -- if1t
      exact bo_retG (dd := (fun (i : Unit) (r : Option Str) => (((optE D.str) r) : D))) (ll := (fun (i : Unit) (r : Option Str) => ([ownI K p_self c.Walk [("net", ((netD c) self.1)), ("posted", ((lstE letterD) self.2.1)), ("stood", .adr q_self_stood), ("last", ((optE (fun x : Int × Int => D.tup [(D.int x.1), (D.int x.2)])) self.2.2.2))], ownL K q_self_stood (self.2.2.1.map (fun x : Sp => (spD c x)))] : List Res))) (junk := []) (r := (some "bag")) () (Px.to px_str (rfl : _ = ((optE D.str) (some "bag")))) (.refl _)
    · -- if1f
      refine bo_asg (is := [2, 3, 4]) (px_var (pv 1) rfl) (pg_tup rfl (pgs_cons (pg_name (i := 2) nd rfl (.inr rfl)) (pgs_cons (pg_name (i := 3) nd rfl (.inr rfl)) (pgs_cons (pg_name (i := 4) nd rfl (.inl rfl)) pgs_nil)))) (tg_tup rfl rfl) ?_
      refine bo_ifR (ts_w (tw_and (ts_cmp op_notN (px_fldO (px_var (pv 0) rfl) (k := 0) rfl T.c_Walk.cl T.n_Walk_last (look_tl (look_tl (look_tl look_hd)))) px_non (o_notNo (fun _ => rfl))) fun hb1 => (tw_and1 (ts_cmp (op_leT (Px.units1 hr.units)) (px_tup (pa_c (px_var (pv 2) rfl) (pa_c (px_var (pv 3) rfl) pa_n))) (Px.to (px_fldO (px_var (pv 0) rfl) (k := 0) rfl T.c_Walk.cl T.n_Walk_last (look_tl (look_tl (look_tl look_hd)))) (optE_get (x0 := (0, 0)) /-opt1-/(by first | assumption | simp_all))) (o_leII (a := (bag.1, bag.2.1)) (b := (self.2.2.2.getD (0, 0)))))))) (fun hi2 => ?_) (fun hi2 => ?_)
      · -- if2t
        exact bo_retG (dd := (fun (i : Unit) (r : Option Str) => (((optE D.str) r) : D))) (ll := (fun (i : Unit) (r : Option Str) => ([ownI K p_self c.Walk [("net", ((netD c) self.1)), ("posted", ((lstE letterD) self.2.1)), ("stood", .adr q_self_stood), ("last", ((optE (fun x : Int × Int => D.tup [(D.int x.1), (D.int x.2)])) self.2.2.2))], ownL K q_self_stood (self.2.2.1.map (fun x : Sp => (spD c x)))] : List Res))) (junk := []) (r := (some "order")) () (Px.to px_str (rfl : _ = ((optE D.str) (some "order")))) (.refl _)
      · -- if2f
        refine bo_set (lstE roadD) nd (i := 5) rfl (.inr rfl) (px_fld (px_fldO (px_var (pv 0) rfl) (k := 0) rfl T.c_Walk.cl T.n_Walk_net look_hd) T.c_Net.cl T.n_Net_lines look_lines) (fun lines hlines => ?_)
        refine bo_ifR (ts_not (ts_chain op_le op_lt px_int (px_var (pv 3) rfl) o_le (px_bi call_len_seq T.z_len (pa_c (px_var (pv 5) rfl) pa_n) (o_lenM .f)) (fun _ => o_lt))) (fun hi3 => ?_) (fun hi3 => ?_)
        · -- if3t
          exact bo_retG (dd := (fun (i : Unit) (r : Option Str) => (((optE D.str) r) : D))) (ll := (fun (i : Unit) (r : Option Str) => ([ownI K p_self c.Walk [("net", ((netD c) self.1)), ("posted", ((lstE letterD) self.2.1)), ("stood", .adr q_self_stood), ("last", ((optE (fun x : Int × Int => D.tup [(D.int x.1), (D.int x.2)])) self.2.2.2))], ownL K q_self_stood (self.2.2.1.map (fun x : Sp => (spD c x)))] : List Res))) (junk := []) (r := (some "road")) () (Px.to px_str (rfl : _ = ((optE D.str) (some "road")))) (.refl _)
        · -- if3f
          have hrd : 0 ≤ bag.2.1 ∧ bag.2.1 < (lines.length : Int) := by simpa using hi3
          refine bo_ifR (ts_cmp op_gt (px_bi call_len_seq T.z_len (pa_c (px_var (pv 4) rfl) pa_n) (o_lenM .t)) (px_ix ix_tup (px_ix ix_list (px_var (pv 5) rfl) (px_var (pv 3) rfl) (o_ixM roadD (x0 := ("", "", 0, 0)) .f /-lo1-/(hrd.1) /-hi1-/(hrd.2))) px_int (o_ixT (d := (D.int ((lines.getD (bag.2.1).toNat ("", "", 0, 0)).2.2.2))) rfl)) o_gt) (fun hi4 => ?_) (fun hi4 => ?_)
          · -- if4t
            exact bo_retG (dd := (fun (i : Unit) (r : Option Str) => (((optE D.str) r) : D))) (ll := (fun (i : Unit) (r : Option Str) => ([ownI K p_self c.Walk [("net", ((netD c) self.1)), ("posted", ((lstE letterD) self.2.1)), ("stood", .adr q_self_stood), ("last", ((optE (fun x : Int × Int => D.tup [(D.int x.1), (D.int x.2)])) self.2.2.2))], ownL K q_self_stood (self.2.2.1.map (fun x : Sp => (spD c x)))] : List Res))) (junk := []) (r := (some "room")) () (Px.to px_str (rfl : _ = ((optE D.str) (some "room")))) (.refl _)
          · -- if4f
            refine bo_ifR (ts_not (ts_val (ev_still (d := (D.bl (Walk_are_letters_m self bag.2.2))) (own0 := [ownI K p_self c.Walk [("net", ((netD c) self.1)), ("posted", ((lstE letterD) self.2.1)), ("stood", .adr q_self_stood), ("last", ((optE (fun x : Int × Int => D.tup [(D.int x.1), (D.int x.2)])) self.2.2.2))], ownL K q_self_stood (self.2.2.1.map (fun x : Sp => (spD c x)))] ++ []) (ev_methO (lr := []) (g_Walk_are_letters T) hr (by decide) (self, p_self, q_self_stood, bag.2.2) /-ok_are_letters_1-/(trivial) (.refl _) (px_var (pv 0) rfl) (k0 := 0) rfl (look_tl (look_tl (look_tl (look_tl look_nil)))) (pa_c (px_var (pv 4) rfl) pa_n) rfl) (fun _ _ ⟨_, h1, h2⟩ => ⟨h1, h2⟩) (.refl _)))) (fun hi5 => ?_) (fun hi5 => ?_)
            · -- if5t
              exact bo_retG (dd := (fun (i : Unit) (r : Option Str) => (((optE D.str) r) : D))) (ll := (fun (i : Unit) (r : Option Str) => ([ownI K p_self c.Walk [("net", ((netD c) self.1)), ("posted", ((lstE letterD) self.2.1)), ("stood", .adr q_self_stood), ("last", ((optE (fun x : Int × Int => D.tup [(D.int x.1), (D.int x.2)])) self.2.2.2))], ownL K q_self_stood (self.2.2.1.map (fun x : Sp => (spD c x)))] : List Res))) (junk := []) (r := (some "letter")) () (Px.to px_str (rfl : _ = ((optE D.str) (some "letter")))) (.refl _)
            · -- if5f
              have hal := are_letters_iff.mp (by simpa using hi5 : Walk_are_letters_m self bag.2.2 = true)
              refine bo_ifR (ts_not (ts_val (px_bi (cr_all rfl) T.z_all (pa_c (px_lcM (own := [("number", 6)]) (is := [6]) D.int D.bl (fun z1 : Int => (Walk_lies_at_m self z1 ((lines.getD (bag.2.1).toNat ("", "", 0, 0)).1) bag.1)) rfl nd (it_tup (px_var (pv 4) rfl)) (blkOk_by (N := ns_Walk_amiss) (sc := defScope s_Walk_amiss) (by decide +kernel)) (fun _ _ _ _ _ => (pg_name (i := 6) nd rfl (.inl rfl))) (by decide) /-csz1-/(hok.2) (fun i z1 hz1 => by
                have hz1m := List.mem_of_getElem? hz1
                have hz1l := (List.getElem?_eq_some_iff.mp hz1).1
                exact ⟨_, tg_name, fun _ _ _ _ _ => (ev_still (d := (D.bl (Walk_lies_at_m self z1 ((lines.getD (bag.2.1).toNat ("", "", 0, 0)).1) bag.1))) (own0 := [ownI K p_self c.Walk [("net", ((netD c) self.1)), ("posted", ((lstE letterD) self.2.1)), ("stood", .adr q_self_stood), ("last", ((optE (fun x : Int × Int => D.tup [(D.int x.1), (D.int x.2)])) self.2.2.2))], ownL K q_self_stood (self.2.2.1.map (fun x : Sp => (spD c x)))] ++ []) (ev_methO (lr := []) (g_Walk_lies_at T) hr (by decide) (self, p_self, q_self_stood, z1, (lines.getD (bag.2.1).toNat ("", "", 0, 0)).1, bag.1) /-ok_lies_at_1-/(⟨hal.1 z1 hz1m, hok.1⟩) (.refl _) (px_var (pv 0) rfl) (k0 := 0) rfl (look_tl (look_tl (look_tl (look_tl look_nil)))) (pa_c (px_var (pv 6) rfl) (pa_c (px_ix ix_tup (px_ix ix_list (px_var (pv 5) rfl) (px_var (pv 3) rfl) (o_ixM roadD (x0 := ("", "", 0, 0)) .f /-lo2-/(hrd.1) /-hi2-/(hrd.2))) px_int (o_ixT (d := (D.str ((lines.getD (bag.2.1).toNat ("", "", 0, 0)).1))) rfl)) (pa_c (px_var (pv 2) rfl) pa_n))) rfl) (fun _ _ ⟨_, h1, h2⟩ => ⟨h1, h2⟩) (.refl _))⟩)) pa_n) (o_all .f)))) (fun hi6 => ?_) (fun hi6 => ?_)
              · -- if6t
                exact bo_retG (dd := (fun (i : Unit) (r : Option Str) => (((optE D.str) r) : D))) (ll := (fun (i : Unit) (r : Option Str) => ([ownI K p_self c.Walk [("net", ((netD c) self.1)), ("posted", ((lstE letterD) self.2.1)), ("stood", .adr q_self_stood), ("last", ((optE (fun x : Int × Int => D.tup [(D.int x.1), (D.int x.2)])) self.2.2.2))], ownL K q_self_stood (self.2.2.1.map (fun x : Sp => (spD c x)))] : List Res))) (junk := []) (r := (some "there")) () (Px.to px_str (rfl : _ = ((optE D.str) (some "there")))) (.refl _)
              · -- if6f
                exact bo_retG (dd := (fun (i : Unit) (r : Option Str) => (((optE D.str) r) : D))) (ll := (fun (i : Unit) (r : Option Str) => ([ownI K p_self c.Walk [("net", ((netD c) self.1)), ("posted", ((lstE letterD) self.2.1)), ("stood", .adr q_self_stood), ("last", ((optE (fun x : Int × Int => D.tup [(D.int x.1), (D.int x.2)])) self.2.2.2))], ownL K q_self_stood (self.2.2.1.map (fun x : Sp => (spD c x)))] : List Res))) (junk := []) (r := none) () (Px.to px_non (rfl : _ = ((optE D.str) none))) (.refl _)

theorem g_Walk_send (T : Top K mg c) : GloM P w K mg base 3 c.Walk "send" ["self", "bag"] (SpN K (fun a : ((List Str × List Road) × List Letter × List Sp × (Option (Int × Int))) × Addr × Addr × (Int × Int × List Int) => (0 ≤ a.2.2.2.2.1 ∧ a.2.2.2.2.1 < (a.1.1.2.length : Int)) ∧ ∀ x ∈ a.2.2.2.2.2, 0 ≤ x ∧ x < (a.1.2.2.1.length : Int)) (fun a => [.adr a.2.1, D.tup [(D.int a.2.2.2.1), (D.int a.2.2.2.2.1), ((tlE D.int) a.2.2.2.2.2)]]) (fun a => [ownI K a.2.1 c.Walk [("net", ((netD c) a.1.1)), ("posted", ((lstE letterD) a.1.2.1)), ("stood", .adr a.2.2.1), ("last", ((optE (fun x : Int × Int => D.tup [(D.int x.1), (D.int x.2)])) a.1.2.2.2))], ownL K a.2.2.1 (a.1.2.2.1.map (fun x : Sp => (spD c x)))]) (fun a => OwnR (fun (i : Unit) (r : ((List Str × List Road) × List Letter × List Sp × (Option (Int × Int)))) => (.non : D)) (fun (i : Unit) (r : ((List Str × List Road) × List Letter × List Sp × (Option (Int × Int)))) => ([ownI K a.2.1 c.Walk [("net", ((netD c) r.1)), ("posted", ((lstE letterD) r.2.1)), ("stood", .adr a.2.2.1), ("last", ((optE (fun x : Int × Int => D.tup [(D.int x.1), (D.int x.2)])) r.2.2.2))], ownL K a.2.2.1 (r.2.2.1.map (fun x : Sp => (spD c x)))] : List Res))) (fun a => Walk_send_m a.1 a.2.2.2)) :=
  glom_of T.d_Walk_send T.c_Walk.cl (fun _ _ _ _ _ _ us hl => match us, hl with | [_, _], _ => rfl) fun f fd F => fn_ok F cs_Walk_send (fun _ => rfl) fun cdv A outer s H E a hr hok => by
    have nd := cs_Walk_send.nd
    obtain ⟨self, p_self, q_self_stood, bag⟩ := a
    have hok : (0 ≤ bag.2.1 ∧ bag.2.1 < (self.1.2.length : Int)) ∧ ∀ x ∈ bag.2.2, 0 ≤ x ∧ x < (self.2.2.1.length : Int) := hok
    refine Blk.imp (show Bo _ _ _ [some (D.adr p_self), some (D.tup [(D.int bag.1), (D.int bag.2.1), ((tlE D.int) bag.2.2)]), none, none, none, none] [ownI K p_self c.Walk [("net", ((netD c) self.1)), ("posted", ((lstE letterD) self.2.1)), ("stood", .adr q_self_stood), ("last", ((optE (fun x : Int × Int => D.tup [(D.int x.1), (D.int x.2)])) self.2.2.2))], ownL K q_self_stood (self.2.2.1.map (fun x : Sp => (spD c x)))] (Rv (OwnR (fun (i : Unit) (r : ((List Str × List Road) × List Letter × List Sp × (Option (Int × Int)))) => (.non : D)) (fun (i : Unit) (r : ((List Str × List Road) × List Letter × List Sp × (Option (Int × Int)))) => ([ownI K p_self c.Walk [("net", ((netD c) r.1)), ("posted", ((lstE letterD) r.2.1)), ("stood", .adr q_self_stood), ("last", ((optE (fun x : Int × Int => D.tup [(D.int x.1), (D.int x.2)])) r.2.2.2))], ownL K q_self_stood (r.2.2.1.map (fun x : Sp => (spD c x)))] : List Res)))) (Walk_send_m self bag) from ?_) (fun _ _ h => h) (fun _ _ h => h) (fun _ _ h => h.elim) (fun _ _ h => h.elim) (fun _ _ _ _ h => h.elim)
    unfold Walk_send_m
    refine bo_asg (is := [2, 3, 4]) (px_var (pv 1) rfl) (pg_tup rfl (pgs_cons (pg_name (i := 2) nd rfl (.inl rfl)) (pgs_cons (pg_name (i := 3) nd rfl (.inl rfl)) (pgs_cons (pg_name (i := 4) nd rfl (.inl rfl)) pgs_nil)))) (tg_tup rfl rfl) ?_
    refine bo_for (is := [5]) D.int (fun s1 : ((List Str × List Road) × List Letter × List Sp × (Option (Int × Int))) => [some (D.adr p_self), some (D.tup [(D.int bag.1), (D.int bag.2.1), ((tlE D.int) bag.2.2)]), some (D.int bag.1), some (D.int bag.2.1), some ((tlE D.int) bag.2.2), none]) (fun s1 : ((List Str × List Road) × List Letter × List Sp × (Option (Int × Int))) => [ownI K p_self c.Walk [("net", ((netD c) s1.1)), ("posted", ((lstE letterD) s1.2.1)), ("stood", .adr q_self_stood), ("last", ((optE (fun x : Int × Int => D.tup [(D.int x.1), (D.int x.2)])) s1.2.2.2))], ownL K q_self_stood (s1.2.2.1.map (fun x : Sp => (spD c x)))]) (fun i s => s.1 = self.1 ∧ s.2.2.1.length = self.2.2.1.length) PassesOwn.never rfl (it_tup (px_var (pv 4) rfl)) (pg_name (i := 5) nd rfl (.inl rfl)) (.keep (.keep (.keep (.keep (.keep (.any .nil)))))) rfl (⟨rfl, rfl⟩) (fun i1 x1 s1 hx1 hp1 hj1 => ?_) (fun s1 hs1 hj1e => ?_)
    · -- for1
      have hx1m := List.mem_of_getElem? hx1
      have hx1l := (List.getElem?_eq_some_iff.mp hx1).1
      refine ⟨⟨hj1.1, (List.length_set ..).trans hj1.2⟩, _, tg_name, ?_⟩
      refine bo_seti (kk := 1) (fun x : Sp => (spD c x)) (px_spOn T hr (by decide) (px_var (pv 3) rfl) (px_op op_add (px_var (pv 2) rfl) (px_ix ix_tup (px_meth (g_Net_road T) hr (by decide) (s1.1, bag.2.1) /-ok_road_1-/(by rw [hj1.1]; exact hok.1) (px_fldO (px_var (pv 0) rfl) (k := 0) rfl T.c_Walk.cl T.n_Walk_net look_hd) (look_none (by decide +kernel) (by decide +kernel)) (pa_c (px_var (pv 3) rfl) pa_n) rfl) px_int (o_ixT (d := (D.int ((Net_road_m s1.1 bag.2.1).2.2.1))) rfl)) o_add)) (px_fldO (px_var (pv 0) rfl) (k := 0) rfl T.c_Walk.cl T.n_Walk_stood (look_tl (look_tl look_hd))) (px_var (pv 5) rfl) rfl /-slo1-/((hok.2 x1 hx1m).1) /-shi1-/(by rw [hj1.2]; exact (hok.2 x1 hx1m).2) (fun stood hstood => ?_)
      exact bo_nx (.keep (.keep (.keep (.keep (.keep (.any .nil)))))) rfl
    -- behind for1
    refine bo_fldF (n := 0) (fs' := fun last => [("net", ((netD c) s1.1)), ("posted", ((lstE letterD) s1.2.1)), ("stood", .adr q_self_stood), ("last", ((optE (fun x : Int × Int => D.tup [(D.int x.1), (D.int x.2)])) last))]) (optE (fun x : Int × Int => D.tup [(D.int x.1), (D.int x.2)])) (Px.to (px_tup (pa_c (px_var (pv 2) rfl) (pa_c (px_var (pv 3) rfl) pa_n))) (rfl : _ = ((optE (fun x : Int × Int => D.tup [(D.int x.1), (D.int x.2)])) (some (bag.1, bag.2.1))))) (px_var (pv 0) rfl) rfl T.c_Walk.cl T.n_Walk_last (fun _ => (putD_tl (putD_tl (putD_tl putD_hd)))) (fun last hlast => ?_)
    show Bo _ _ _ [some (D.adr p_self), some (D.tup [(D.int bag.1), (D.int bag.2.1), ((tlE D.int) bag.2.2)]), some (D.int bag.1), some (D.int bag.2.1), some ((tlE D.int) bag.2.2), none] [ownI K p_self c.Walk [("net", ((netD c) s1.1)), ("posted", ((lstE letterD) s1.2.1)), ("stood", .adr q_self_stood), ("last", ((optE (fun x : Int × Int => D.tup [(D.int x.1), (D.int x.2)])) last))], ownL K q_self_stood (s1.2.2.1.map (fun x : Sp => (spD c x)))] _ _
    exact bo_endG (junk := []) (r := (s1.1, s1.2.1, s1.2.2.1, last)) () rfl (.refl _)

theorem g_stops_at (T : Top K mg c) : Glo P w K mg base 6 "stops_at" ["net", "letters", "plan", "turn"] (Pu K (fun a : (List Str × List Road) × List Letter × (List (Int × Int × List Int)) × Option Int => (fun (net : List Str × List Road) (letters : List Letter) (plan : List (Int × Int × List Int)) (turn : Option Int) => PlanFine net letters plan) a.1 a.2.1 a.2.2.1 a.2.2.2) (fun a => [((netD c) a.1), ((lstE letterD) a.2.1), ((lstE (fun x : Int × Int × List Int => D.tup [(D.int x.1), (D.int x.2.1), ((tlE D.int) x.2.2)])) a.2.2.1), ((optE D.int) a.2.2.2)]) (fun a => ((lstE (fun x : Sp => (spD c x))) (stops_at_m a.1 a.2.1 a.2.2.1 a.2.2.2)))) :=
  glo_of T.d_stops_at (fun _ _ _ _ _ _ us hl => match us, hl with | [_, _, _, _], _ => rfl) fun f fd F => fn_ok F cs_stops_at (fun _ => rfl) fun cdv A outer s H E a hr hok => by
    have nd := cs_stops_at.nd
    obtain ⟨net, letters, plan, turn⟩ := a
    have hok : PlanFine net letters plan := hok
    refine Blk.imp (show Bo _ _ _ [some ((netD c) net), some ((lstE letterD) letters), some ((lstE (fun x : Int × Int × List Int => D.tup [(D.int x.1), (D.int x.2.1), ((tlE D.int) x.2.2)])) plan), some ((optE D.int) turn), none, none, none, none, none] _ (Rt (PuR (lstE (fun x : Sp => (spD c x))))) (stops_at_m net letters plan turn) from ?_) (fun _ _ h => h.elim) (fun _ _ h => h) (fun _ _ h => h.elim) (fun _ _ h => h.elim) (fun _ _ _ _ h => h.elim)
    unfold stops_at_m
    refine bo_setO (dd := fun (i : Addr × Addr) (r : ((List Str × List Road) × List Letter × List Sp × (Option (Int × Int)))) => (.adr i.1 : D)) (ll := fun (i : Addr × Addr) (r : ((List Str × List Road) × List Letter × List Sp × (Option (Int × Int)))) => ([ownI K i.1 c.Walk [("net", ((netD c) r.1)), ("posted", ((lstE letterD) r.2.1)), ("stood", .adr i.2), ("last", ((optE (fun x : Int × Int => D.tup [(D.int x.1), (D.int x.2)])) r.2.2.2))], ownL K i.2 (r.2.2.1.map (fun x : Sp => (spD c x)))] : List Res)) nd (i := 4) rfl (.inl rfl) (ev_new_Walk T hr (by decide) (net, letters) /-ok_init___1-/(hok.l) (pa_c (px_var (pv 0) rfl) (pa_c (px_var (pv 1) rfl) pa_n))) (fun jwalk walk hwalk => ?_)
    obtain ⟨p_walk, q_walk_stood⟩ := jwalk
    show Bo _ _ _ [some ((netD c) net), some ((lstE letterD) letters), some ((lstE (fun x : Int × Int × List Int => D.tup [(D.int x.1), (D.int x.2.1), ((tlE D.int) x.2.2)])) plan), some ((optE D.int) turn), some (D.adr p_walk), none, none, none, none] [ownI K p_walk c.Walk [("net", ((netD c) walk.1)), ("posted", ((lstE letterD) walk.2.1)), ("stood", .adr q_walk_stood), ("last", ((optE (fun x : Int × Int => D.tup [(D.int x.1), (D.int x.2)])) walk.2.2.2))], ownL K q_walk_stood (walk.2.2.1.map (fun x : Sp => (spD c x)))] _ _
    refine bo_set (optE (lstE (fun x : Sp => (spD c x)))) nd (i := 5) rfl (.inl rfl) (Px.to px_non (rfl : _ = ((optE (lstE (fun x : Sp => (spD c x)))) none))) (fun kept hkept => ?_)
    refine bo_forV (is := [6, 7]) (fun x : Int × (Int × Int × List Int) => D.tup [(D.int x.1), D.tup [(D.int x.2.1), (D.int x.2.2.1), ((tlE D.int) x.2.2.2)]]) (fun s1 : Option (List Sp) × ((List Str × List Road) × List Letter × List Sp × (Option (Int × Int))) => [some ((netD c) net), some ((lstE letterD) letters), some ((lstE (fun x : Int × Int × List Int => D.tup [(D.int x.1), (D.int x.2.1), ((tlE D.int) x.2.2)])) plan), some ((optE D.int) turn), some (D.adr p_walk), some ((optE (lstE (fun x : Sp => (spD c x)))) s1.1), none, none, none]) (fun s1 : Option (List Sp) × ((List Str × List Road) × List Letter × List Sp × (Option (Int × Int))) => [ownI K p_walk c.Walk [("net", ((netD c) s1.2.1)), ("posted", ((lstE letterD) s1.2.2.1)), ("stood", .adr q_walk_stood), ("last", ((optE (fun x : Int × Int => D.tup [(D.int x.1), (D.int x.2)])) s1.2.2.2.2))], ownL K q_walk_stood (s1.2.2.2.1.map (fun x : Sp => (spD c x)))]) (fun i s => s.2 = wkAt net letters plan i) (fun _ => True) PassesOwn.never rfl (Itw.to (it_enum (px_var (pv 2) rfl) T.z_enumerate) enumI_map) (pg_tup rfl (pgs_cons (pg_name (i := 6) nd rfl (.inl rfl)) (pgs_cons (pg_name (i := 7) nd rfl (.inl rfl)) pgs_nil))) (.keep (.keep (.keep (.keep (.keep (.keep (.any (.any (.any .nil))))))))) rfl (by rw [hwalk]; rfl) (fun i1 x1 s1 hx1 hp1 hj1 => ?_) (fun _ _ => trivial) (fun s1 hs1 hj1e => ?_)
    · -- for1
      have hx11 := (enumI_get hx1).1
      have hx12 := (enumI_get hx1).2
      have hx1m := List.mem_of_getElem? hx12
      have hx1l := (List.getElem?_eq_some_iff.mp hx12).1
      have hwk := wkAt_ok hok i1
      have hf := hok.f _ _ hx12
      rw [← hj1] at hwk hf
      refine ⟨⟨fun s' e => (by have e : Cf.nx _ = Cf.nx s' := e; cases e; show Walk_send_m s1.2 x1.2 = _; rw [hj1]; exact (wkAt_succ hx12).symm), fun s' e => (by cases e), fun _ _ => trivial⟩, _, tg_tup rfl rfl, ?_⟩
      refine bo_set (optE D.str) nd (i := 8) rfl (.inl rfl) (ev_still (d := ((optE D.str) (Walk_amiss_m s1.2 x1.2))) (own0 := [ownI K p_walk c.Walk [("net", ((netD c) s1.2.1)), ("posted", ((lstE letterD) s1.2.2.1)), ("stood", .adr q_walk_stood), ("last", ((optE (fun x : Int × Int => D.tup [(D.int x.1), (D.int x.2)])) s1.2.2.2.2))], ownL K q_walk_stood (s1.2.2.2.1.map (fun x : Sp => (spD c x)))] ++ []) (ev_methO (lr := []) (g_Walk_amiss T) hr (by decide) (s1.2, p_walk, q_walk_stood, x1.2) /-ok_amiss_1-/(⟨hwk, hok.z _ hx1m⟩) (.refl _) (px_var (pv 4) rfl) (k0 := 0) rfl (look_tl (look_tl (look_tl (look_tl look_nil)))) (pa_c (px_var (pv 7) rfl) pa_n) rfl) (fun _ _ ⟨_, h1, h2⟩ => ⟨h1, h2⟩) (.refl _)) (fun reason hreason => ?_)
      refine bo_ifD (ts_cmp op_notN (px_var (pv 8) rfl) px_non (o_notNo (fun _ => rfl))) (by rw [hreason, hj1, amiss_none.mpr (hok.f _ _ hx12)]; rfl) ?_
      -- if1f
      refine bo_ifS (fun j2 : Option (List Sp) => [some ((netD c) net), some ((lstE letterD) letters), some ((lstE (fun x : Int × Int × List Int => D.tup [(D.int x.1), (D.int x.2.1), ((tlE D.int) x.2.2)])) plan), some ((optE D.int) turn), some (D.adr p_walk), some ((optE (lstE (fun x : Sp => (spD c x)))) j2), some (D.int x1.1), some (D.tup [(D.int x1.2.1), (D.int x1.2.2.1), ((tlE D.int) x1.2.2.2)]), some ((optE D.str) reason)]) (fun j2 : Option (List Sp) => [ownI K p_walk c.Walk [("net", ((netD c) s1.2.1)), ("posted", ((lstE letterD) s1.2.2.1)), ("stood", .adr q_walk_stood), ("last", ((optE (fun x : Int × Int => D.tup [(D.int x.1), (D.int x.2)])) s1.2.2.2.2))], ownL K q_walk_stood (s1.2.2.2.1.map (fun x : Sp => (spD c x)))]) (ts_w (tw_and (ts_cmp op_isN (px_var (pv 5) rfl) px_non (o_isNo (fun _ => rfl))) fun hb2 => (tw_and (ts_cmp op_notN (px_var (pv 3) rfl) px_non (o_notNo (fun _ => rfl))) fun hb1 => (tw_and1 (ts_cmp op_gt (px_ix ix_tup (px_var (pv 7) rfl) px_int (o_ixT (d := (D.int x1.2.1)) rfl)) (Px.to (px_var (pv 3) rfl) (optE_get (x0 := 0) /-opt1-/(by first | assumption | simp_all))) o_gt))))) (fun hi2 => ?_) (fun hi2 => ?_) (fun j2 hj2 => ?_)
      · -- if2t
        refine bo_set (optE (lstE (fun x : Sp => (spD c x)))) nd (i := 5) rfl (.inl rfl) (Px.to (px_listOf (px_fldO (px_var (pv 4) rfl) (k := 0) rfl T.c_Walk.cl T.n_Walk_stood (look_tl (look_tl look_hd))) (.o (k := 1) rfl) T.z_list) (rfl : _ = ((optE (lstE (fun x : Sp => (spD c x)))) (some s1.2.2.2.1)))) (fun kept_2 hkept_2 => ?_)
        exact bo_nx (.keep (.keep (.keep (.keep (.keep (.keep (.keep (.keep (.keep .nil))))))))) rfl
      · -- if2f
        exact bo_nx (.keep (.keep (.keep (.keep (.keep (.keep (.keep (.keep (.keep .nil))))))))) rfl
      -- if2j
      refine bo_doO (dd := fun (i : Unit) (r : ((List Str × List Road) × List Letter × List Sp × (Option (Int × Int)))) => (.non : D)) (ll := fun (i : Unit) (r : ((List Str × List Road) × List Letter × List Sp × (Option (Int × Int)))) => ([ownI K p_walk c.Walk [("net", ((netD c) r.1)), ("posted", ((lstE letterD) r.2.1)), ("stood", .adr q_walk_stood), ("last", ((optE (fun x : Int × Int => D.tup [(D.int x.1), (D.int x.2)])) r.2.2.2))], ownL K q_walk_stood (r.2.2.1.map (fun x : Sp => (spD c x)))] : List Res)) (ev_methO (lr := []) (g_Walk_send T) hr (by decide) (s1.2, p_walk, q_walk_stood, x1.2) /-ok_send_1-/(⟨hf.r, fun x hx => by rw [hwk.l]; exact hf.n x hx⟩) (.refl _) (px_var (pv 4) rfl) (k0 := 0) rfl (look_tl (look_tl (look_tl (look_tl look_nil)))) (pa_c (px_var (pv 7) rfl) pa_n) rfl) (fun jwalk_2 walk_2 hwalk_2 => ?_)
      clear jwalk_2
      show Bo _ _ _ [some ((netD c) net), some ((lstE letterD) letters), some ((lstE (fun x : Int × Int × List Int => D.tup [(D.int x.1), (D.int x.2.1), ((tlE D.int) x.2.2)])) plan), some ((optE D.int) turn), some (D.adr p_walk), some ((optE (lstE (fun x : Sp => (spD c x)))) j2), some (D.int x1.1), some (D.tup [(D.int x1.2.1), (D.int x1.2.2.1), ((tlE D.int) x1.2.2.2)]), some ((optE D.str) reason)] [ownI K p_walk c.Walk [("net", ((netD c) walk_2.1)), ("posted", ((lstE letterD) walk_2.2.1)), ("stood", .adr q_walk_stood), ("last", ((optE (fun x : Int × Int => D.tup [(D.int x.1), (D.int x.2)])) walk_2.2.2.2))], ownL K q_walk_stood (walk_2.2.2.1.map (fun x : Sp => (spD c x)))] _ _
      exact bo_nxO (.keep (.keep (.keep (.keep (.keep (.keep (.any (.any (.any .nil))))))))) rfl
    -- behind for1
    refine bo_ifS (fun j3 : Option (List Sp) => [some ((netD c) net), some ((lstE letterD) letters), some ((lstE (fun x : Int × Int × List Int => D.tup [(D.int x.1), (D.int x.2.1), ((tlE D.int) x.2.2)])) plan), some ((optE D.int) turn), none, some ((optE (lstE (fun x : Sp => (spD c x)))) j3), none, none, none]) (fun j3 : Option (List Sp) => []) (ts_cmp op_isN (px_var (pv 5) rfl) px_non (o_isNo (fun _ => rfl))) (fun hi3 => ?_) (fun hi3 => ?_) (fun j3 hj3 => ?_)
    · -- if3t
      refine blk_set nd (i := 5) rfl (.inl rfl) (px_fldO (px_var (pv 4) rfl) (k := 0) rfl T.c_Walk.cl T.n_Walk_stood (look_tl (look_tl look_hd))) ?_
      refine bo_frz (i := 5) (kk := 1) rfl rfl ?_
      show Bo _ _ _ [some ((netD c) net), some ((lstE letterD) letters), some ((lstE (fun x : Int × Int × List Int => D.tup [(D.int x.1), (D.int x.2.1), ((tlE D.int) x.2.2)])) plan), some ((optE D.int) turn), some (D.adr p_walk), some ((optE (lstE (fun x : Sp => (spD c x)))) (some s1.2.2.2.1)), none, none, none] [ownI K p_walk c.Walk [("net", ((netD c) s1.2.1)), ("posted", ((lstE letterD) s1.2.2.1)), ("stood", .adr q_walk_stood), ("last", ((optE (fun x : Int × Int => D.tup [(D.int x.1), (D.int x.2)])) s1.2.2.2.2))]] _ _
      refine bo_dropN 1 ?_
      exact bo_nx (.keep (.keep (.keep (.keep (.any (.keep (.any (.any (.any .nil))))))))) rfl
    · -- if3f
      refine bo_dropN 2 ?_
      exact bo_nx (.keep (.keep (.keep (.keep (.any (.keep (.any (.any (.any .nil))))))))) rfl
    -- if3j
    exact bo_ret (Px.to (px_var (pv 5) rfl) (optE_get (x0 := []) /-opt2-/(by rw [hj3]; cases s1.1 <;> rfl)))

theorem g_arrivals (T : Top K mg c) : Glo P w K mg base 7 "arrivals" ["net", "letters", "plan"] (Fr K (fun a : (List Str × List Road) × List Letter × (List (Int × Int × List Int)) => (fun (net : List Str × List Road) (letters : List Letter) (plan : List (Int × Int × List Int)) => PlanFine net letters plan) a.1 a.2.1 a.2.2) (fun a => [((netD c) a.1), ((lstE letterD) a.2.1), ((lstE (fun x : Int × Int × List Int => D.tup [(D.int x.1), (D.int x.2.1), ((tlE D.int) x.2.2)])) a.2.2)]) (fun a => (arrivals_m a.1 a.2.1 a.2.2).map (optE D.int))) :=
  glo_of T.d_arrivals (fun _ _ _ _ _ _ us hl => match us, hl with | [_, _, _], _ => rfl) fun f fd F => fn_ok F cs_arrivals (fun _ => rfl) fun cdv A outer s H E a hr hok => by
    have nd := cs_arrivals.nd
    obtain ⟨net, letters, plan⟩ := a
    have hok : PlanFine net letters plan := hok
    refine Blk.imp (show Bo _ _ _ [some ((netD c) net), some ((lstE letterD) letters), some ((lstE (fun x : Int × Int × List Int => D.tup [(D.int x.1), (D.int x.2.1), ((tlE D.int) x.2.2)])) plan), none, none, none] _ (Rt (FrR K (optE D.int))) (arrivals_m net letters plan) from ?_) (fun _ _ h => h.elim) (fun _ _ h => h) (fun _ _ h => h.elim) (fun _ _ h => h.elim) (fun _ _ _ _ h => h.elim)
    unfold arrivals_m
    refine bo_setL (optE D.int) nd (i := 3) rfl (.inl rfl) (ev_lst pa_n) (fun q found hfound => ?_)
    refine bo_for (is := [4, 5]) (fun x : Letter × Sp => D.tup [(letterD x.1), (spD c x.2)]) (fun s1 : List (Option Int) => [some ((netD c) net), some ((lstE letterD) letters), some ((lstE (fun x : Int × Int × List Int => D.tup [(D.int x.1), (D.int x.2.1), ((tlE D.int) x.2.2)])) plan), some (D.adr q), none, none]) (fun s1 : List (Option Int) => [ownL K q (s1.map (optE D.int))]) (fun i s => s.length = i) PassesOwn.never rfl (Itw.to (it_zip (px_var (pv 1) rfl) (px_call (g_stops_at T) hr (by decide) (net, letters, plan, none) /-ok_stops_at_1-/(hok) (pa_c (px_var (pv 0) rfl) (pa_c (px_var (pv 1) rfl) (pa_c (px_var (pv 2) rfl) (pa_c (Px.to px_non (rfl : _ = ((optE D.int) none))) pa_n))))) T.z_zip) zip_map) (pg_tup rfl (pgs_cons (pg_name (i := 4) nd rfl (.inl rfl)) (pgs_cons (pg_name (i := 5) nd rfl (.inl rfl)) pgs_nil))) (.keep (.keep (.keep (.keep (.any (.any .nil)))))) rfl (by rw [hfound]; rfl) (fun i1 x1 s1 hx1 hp1 hj1 => ?_) (fun s1 hs1 hj1e => ?_)
    · -- for1
      have hx11 := (zip_get hx1).1
      have hx12 := (zip_get hx1).2
      have hll := hok.l
      have hil : i1 < letters.length := (List.getElem?_eq_some_iff.mp hx11).1
      refine ⟨(arr_js hj1), _, tg_tup rfl rfl, ?_⟩
      refine bo_if (ts_w (tw_and (ts_val (px_isOn T (px_var (pv 5) rfl))) fun hb1 => (tw_and1 (ts_cmp op_eq (px_ix ix_tup (px_meth (g_Net_road T) hr (by decide) (net, x1.2.r) /-ok_road_1-/(stops_rng hok (List.mem_of_getElem? hx12) (by assumption)) (px_var (pv 0) rfl) (look_none (by decide +kernel) (by decide +kernel)) (pa_c (px_sp_r T (px_var (pv 5) rfl) /-sp_by1-/(by assumption)) pa_n) rfl) px_int (o_ixT (d := (D.str ((Net_road_m net x1.2.r).2.1))) rfl)) (px_ix ix_tup (px_var (pv 4) rfl) px_int (o_ixT (d := (D.str x1.1.2.2)) rfl)) o_eqS)))) (fun hi1 => ?_) (fun hi1 => ?_)
      · -- if1t
        have hon : x1.2.isOn = true := (Bool.and_eq_true_iff.mp hi1).1
        refine bo_app (kk := 0) (optE D.int) (px_var (pv 3) rfl) rfl (Px.to (px_sp_due T (px_var (pv 5) rfl) /-sp_due2-/(hon)) (rfl : _ = ((optE D.int) (some x1.2.t)))) /-app1-/(by omega) (fun found_2 hfound_2 => ?_)
        exact bo_nx (.keep (.keep (.keep (.keep (.any (.any .nil)))))) rfl
      · -- if1f
        refine bo_app (kk := 0) (optE D.int) (px_var (pv 3) rfl) rfl (Px.to px_non (rfl : _ = ((optE D.int) none))) /-app2-/(by omega) (fun found_3 hfound_3 => ?_)
        exact bo_nx (.keep (.keep (.keep (.keep (.any (.any .nil)))))) rfl
    -- behind for1
    exact bo_retW (kk := 0) (px_var (pv 3) rfl) rfl

theorem g_law_legs (T : Top K mg c) : Glo P w K mg base 1 "_law_legs" ["_law_lines", "_law_letters", "_law_cells", "_law_hops"] (Pu K (fun a : List Road × List Letter × List Int × Int => (fun (lines : List Road) (letters : List Letter) (cells : List Int) (hops : Int) => (hops = 2 ∨ hops = 3) ∧ lines.length ≤ 40 ∧ letters.length ≤ 40 ∧ (letters ≠ [] → 0 < cells.length) ∧ ∀ r ∈ lines, 1 ≤ r.2.2.2) a.1 a.2.1 a.2.2.1 a.2.2.2) (fun a => [((lstE roadD) a.1), ((lstE letterD) a.2.1), D.scr (a.2.2.1.map D.int), (D.int a.2.2.2)]) (fun a => ((lstE (lstE (fun x : Int × Int × Int × Str => D.tup [(D.int x.1), (D.int x.2.1), (D.int x.2.2.1), (D.str x.2.2.2)]))) (law_legs_m a.1 a.2.1 a.2.2.1 a.2.2.2)))) :=
  glo_of T.d_law_legs (fun _ _ _ _ _ _ us hl => match us, hl with | [_, _, _, _], _ => rfl) fun f fd F => fn_ok F cs_law_legs (fun _ => rfl) fun cdv A outer s H E a hr hok => by
    have nd := cs_law_legs.nd
    obtain ⟨lines, letters, cells, hops⟩ := a
    have hok : (hops = 2 ∨ hops = 3) ∧ lines.length ≤ 40 ∧ letters.length ≤ 40 ∧ (letters ≠ [] → 0 < cells.length) ∧ ∀ r ∈ lines, 1 ≤ r.2.2.2 := hok
    obtain ⟨hhp, h40, hl40, hc0, hrm⟩ := hok
    have hh0 : 1 ≤ hops + 1 ∧ hops + 1 ≤ 4 := by omega
    refine Blk.imp (show Bo _ _ _ [some ((lstE roadD) lines), some ((lstE letterD) letters), some (D.scr (cells.map D.int)), some (D.int hops), none, none, none, none, none, none, none, none, none, none, none, none] _ (Rt (PuR (lstE (lstE (fun x : Int × Int × Int × Str => D.tup [(D.int x.1), (D.int x.2.1), (D.int x.2.2.1), (D.str x.2.2.2)]))))) (law_legs_m lines letters cells hops) from ?_) (fun _ _ h => h.elim) (fun _ _ h => h) (fun _ _ h => h.elim) (fun _ _ h => h.elim) (fun _ _ _ _ h => h.elim)
    unfold law_legs_m
    refine bo_t0 kII D.int nd (i := 4) rfl (.inl rfl) (fun q load hload => ?_)
    refine bo_setL (lstE (fun x : Int × Int × Int × Str => D.tup [(D.int x.1), (D.int x.2.1), (D.int x.2.2.1), (D.str x.2.2.2)])) nd (i := 5) rfl (.inl rfl) (ev_lst pa_n) (fun q_2 legs hlegs => ?_)
    refine bo_for (is := [6, 7]) (fun x : Int × Letter => D.tup [(D.int x.1), (letterD x.2)]) (fun s1 : (List ((Int × Int) × Int)) × (List (List (Int × Int × Int × Str))) => [some ((lstE roadD) lines), some ((lstE letterD) letters), some (D.scr (cells.map D.int)), some (D.int hops), some (D.adr q), some (D.adr q_2), none, none, none, none, none, none, none, none, none, none]) (fun s1 : (List ((Int × Int) × Int)) × (List (List (Int × Int × Int × Str))) => [ownL K q_2 (s1.2.map (lstE (fun x : Int × Int × Int × Str => D.tup [(D.int x.1), (D.int x.2.1), (D.int x.2.2.1), (D.str x.2.2.2)]))), ownT K q (dE kII D.int s1.1)]) (fun i s => s.1.length ≤ 3 * i ∧ s.2.length ≤ i) PassesOwn.never rfl (Itw.to (it_enum (px_var (pv 1) rfl) T.z_enumerate) enumI_map) (pg_tup rfl (pgs_cons (pg_name (i := 6) nd rfl (.inl rfl)) (pgs_cons (pg_name (i := 7) nd rfl (.inl rfl)) pgs_nil))) (.keep (.keep (.keep (.keep (.keep (.keep (.any (.any (.any (.any (.any (.any (.any (.any (.any (.any .nil)))))))))))))))) rfl (by rw [hload, hlegs]; exact ⟨Nat.le_refl 0, Nat.le_refl 0⟩) (fun i1 x1 s1 hx1 hp1 hj1 => ?_) (fun s1 hs1 hj1e => ?_)
    · -- for1
      have hx11 := (enumI_get hx1).1
      have hx12 := (enumI_get hx1).2
      have hx1m := List.mem_of_getElem? hx12
      have hx1l := (List.getElem?_eq_some_iff.mp hx12).1
      have hcl : 0 < cells.length := hc0 (List.ne_nil_of_mem hx1m)
      have hcr := emod_rng hcl x1.1
      refine ⟨(lgout_len (lines := lines) (cells := cells) (x1 := x1) hhp hj1), _, tg_tup rfl rfl, ?_⟩
      refine bo_set D.int nd (i := 8) rfl (.inl rfl) (px_op op_add (px_op op_mod (px_op op_mul (px_ix ix_list (px_var (pv 2) rfl) (px_op op_mod (px_var (pv 6) rfl) (px_bi call_len_seq T.z_len (pa_c (px_var (pv 2) rfl) pa_n) (o_lenM .s)) (o_mod /-mod1-/(by omega))) (o_ixM D.int (x0 := 0) .s /-lo1-/(hcr.1) /-hi1-/(hcr.2))) px_int o_mulR) px_int (o_mod (j := 2147483647))) (px_var (pv 6) rfl) o_add) (fun cell hcell => ?_)
      refine bo_set D.str nd (i := 9) rfl (.inr rfl) (px_ix ix_tup (px_var (pv 7) rfl) px_int (o_ixT (d := (D.str x1.2.1)) rfl)) (fun at_2 hat_2 => ?_)
      refine bo_set D.int nd (i := 10) rfl (.inl rfl) (px_ix ix_tup (px_var (pv 7) rfl) px_int (o_ixT (d := (D.int x1.2.2.1)) rfl)) (fun ready hready => ?_)
      refine bo_setL (fun x : Int × Int × Int × Str => D.tup [(D.int x.1), (D.int x.2.1), (D.int x.2.2.1), (D.str x.2.2.2)]) nd (i := 11) rfl (.inl rfl) (ev_lst pa_n) (fun q_3 mine hmine => ?_)
      refine bo_for (is := [12]) D.int (fun s2 : Int × Int × (List ((Int × Int) × Int)) × (List (Int × Int × Int × Str)) × Str => [some ((lstE roadD) lines), some ((lstE letterD) letters), some (D.scr (cells.map D.int)), some (D.int hops), some (D.adr q), some (D.adr q_2), some (D.int x1.1), some (letterD x1.2), some (D.int s2.1), some (D.str s2.2.2.2.2), some (D.int s2.2.1), some (D.adr q_3), none, none, none, none]) (fun s2 : Int × Int × (List ((Int × Int) × Int)) × (List (Int × Int × Int × Str)) × Str => [ownL K q_3 (s2.2.2.2.1.map (fun x : Int × Int × Int × Str => D.tup [(D.int x.1), (D.int x.2.1), (D.int x.2.2.1), (D.str x.2.2.2)])), ownL K q_2 (s1.2.map (lstE (fun x : Int × Int × Int × Str => D.tup [(D.int x.1), (D.int x.2.1), (D.int x.2.2.1), (D.str x.2.2.2)]))), ownT K q (dE kII D.int s2.2.2.1)]) (fun i s => s.2.2.1.length ≤ 3 * i1 + i ∧ s.2.2.2.1.length ≤ i) PassesOwn.never rfl (Itw.to (it_range (px_op op_mod (px_var (pv 8) rfl) (px_op op_add (px_var (pv 3) rfl) px_int o_add) (o_mod /-mod2-/(by omega))) /-rlo1-/(by have h2 := hops_rng cell hhp; omega) /-rhi1-/(by have h2 := hops_rng cell hhp; omega) T.z_range) rngI_map) (pg_name (i := 12) nd rfl (.inl rfl)) (.keep (.keep (.keep (.keep (.keep (.keep (.keep (.keep (.keep (.keep (.keep (.keep (.any (.any (.any (.any .nil)))))))))))))))) rfl (by rw [hmine]; exact ⟨hj1.1, Nat.le_refl 0⟩) (fun i2 x2 s2 hx2 hp2 hj2 => ?_) (fun s2 hs2 hj2e => ?_)
      · -- for2
        have hx21 := (rngI_get hx2).1
        have hx22 := (rngI_get hx2).2
        have hi23 : i2 < 4 := by have h := hx21; have h2 := hops_rng cell hhp; omega
        refine ⟨(lg_len (lines := lines) (goal := x1.2.2.2) (x := x2) hj2), _, tg_name, ?_⟩
        refine bo_set D.int nd (i := 8) rfl (.inl rfl) (px_op op_mod (px_op op_mul (px_var (pv 8) rfl) px_int o_mulR) px_int (o_mod (j := 2147483647))) (fun cell_2 hcell_2 => ?_)
        refine bo_lcF (own := [("_law_n", 15)]) (is := [15]) D.int D.int (fun z1 : Int => (decide ((lines.getD (z1).toNat ("", "", 0, 0)).1 = s2.2.2.2.2))) (fun z1 : Int => z1) nd (i := 13) rfl rfl (by exact Nat.le_of_ble_eq_true rfl) rfl (Itw.to (it_range (px_bi call_len_seq T.z_len (pa_c (px_var (pv 0) rfl) pa_n) (o_lenM .f)) /-rlo2-/(by omega) /-rhi2-/(by omega) T.z_range) rngI_map) (blkOk_by (N := ns_law_legs) (sc := defScope s_law_legs) (by decide +kernel)) (fun _ _ _ _ _ => (pg_name (i := 15) nd rfl (.inl rfl))) (by decide) /-csz1-/(by rw [rngI_len]; omega) (fun i z1 hz1 => by
          have hz11 := (rngI_get hz1).1
          have hz12 := (rngI_get hz1).2
          exact ⟨_, tg_name, fun _ _ _ _ _ => (ts_cmp op_eq (px_ix ix_tup (px_ix ix_list (px_var (pv 0) rfl) (px_var (pv 15) rfl) (o_ixM roadD (x0 := ("", "", 0, 0)) .f /-lo2-/(by omega) /-hi2-/(by omega))) px_int (o_ixT (d := (D.str ((lines.getD (z1).toNat ("", "", 0, 0)).1))) rfl)) (px_var (pv 9) rfl) o_eqS), fun hcz1 => fun _ _ _ _ _ => (px_var (pv 15) rfl)⟩) (fun outs houts => ?_)
        refine bo_if (ts_w (tw_and (ts_cmp (op_neD hr.units) (px_var (pv 13) rfl) (px_lst pa_n) (o_neLE eqs_int .f .f /-eqk1-/(by simp) /-eqk2-/(by simp))) fun hb1 => (tw_and1 (ts_cmp op_ne (px_var (pv 9) rfl) (px_ix ix_tup (px_var (pv 7) rfl) px_int (o_ixT (d := (D.str x1.2.2.2)) rfl)) o_neS)))) (fun hi1 => ?_) (fun hi1 => ?_)
        · -- if1t
          have hop : 0 < outs.length := List.length_pos_iff.mpr (by have h := (Bool.and_eq_true_iff.mp hi1).1; simpa using h)
          have hor := emod_rng hop cell_2
          refine bo_set D.int nd (i := 14) rfl (.inl rfl) (px_ix ix_list (px_var (pv 13) rfl) (px_op op_mod (px_var (pv 8) rfl) (px_bi call_len_seq T.z_len (pa_c (px_var (pv 13) rfl) pa_n) (o_lenM .f)) (o_mod /-mod3-/(by omega))) (o_ixM D.int (x0 := 0) .f /-lo3-/(hor.1) /-hi3-/(hor.2))) (fun road hroad => ?_)
          have hrd := (outs_rng (h := s2.2.2.2.2) houts hor.1 hor.2).1
          rw [← hroad] at hrd
          have hrr : 1 ≤ (lines.getD road.toNat ("", "", 0, 0)).2.2.2 := hrm _ (getD_mem hrd.1 hrd.2)
          refine bo_set D.int nd (i := 10) rfl (.inl rfl) (px_op op_add (px_var (pv 10) rfl) (px_op op_mod (px_op op_fdiv (px_var (pv 8) rfl) px_int (o_fdiv (j := 64))) px_int (o_mod (j := 4))) o_add) (fun ready_2 hready_2 => ?_)
          refine bo_while (fun w1 : Int => [some ((lstE roadD) lines), some ((lstE letterD) letters), some (D.scr (cells.map D.int)), some (D.int hops), some (D.adr q), some (D.adr q_2), some (D.int x1.1), some (letterD x1.2), some (D.int cell_2), some (D.str s2.2.2.2.2), some (D.int w1), some (D.adr q_3), some (D.int x2), some ((lstE D.int) outs), some (D.int road), none]) (fun w1 : Int => [ownL K q_3 (s2.2.2.2.1.map (fun x : Int × Int × Int × Str => D.tup [(D.int x.1), (D.int x.2.1), (D.int x.2.2.1), (D.str x.2.2.2)])), ownL K q_2 (s1.2.map (lstE (fun x : Int × Int × Int × Str => D.tup [(D.int x.1), (D.int x.2.1), (D.int x.2.2.1), (D.str x.2.2.2)]))), ownT K q (dE kII D.int s2.2.2.1)]) (fun n w => lwm s2.2.2.1 road w ≤ n) PassesOwn.never (.keep (.keep (.keep (.keep (.keep (.keep (.keep (.keep (.keep (.keep (.keep (.keep (.keep (.keep (.keep (.any .nil)))))))))))))))) rfl (Nat.le_trans List.countP_le_length (by omega)) (fun n1 w1 hj1 => ?_) (fun n1 w1 hw1 hj1 hc1 => ?_)
          · -- while1
            refine ⟨(ts_cmp op_ge (px_tget2M kII_inj D.int hr.units (px_var (pv 4) rfl) (.o (k := 2) rfl) (pa_c (px_var (pv 10) rfl) (pa_c (px_var (pv 14) rfl) pa_n)) px_int (szS (by exact Nat.le_of_ble_eq_true rfl)) ) (px_ix ix_tup (px_ix ix_list (px_var (pv 0) rfl) (px_var (pv 14) rfl) (o_ixM roadD (x0 := ("", "", 0, 0)) .f /-lo4-/(hrd.1) /-hi4-/(hrd.2))) px_int (o_ixT (d := (D.int ((lines.getD (road).toNat ("", "", 0, 0)).2.2.2))) rfl)) o_ge), fun hc1 => ?_⟩
            obtain ⟨n', e1, j1⟩ := lw_step hrr hj1 hc1
            refine ⟨_, e1, j1, ?_⟩
            refine bo_set D.int nd (i := 10) rfl (.inl rfl) (px_op op_add (px_var (pv 10) rfl) px_int o_add) (fun ready_3 hready_3 => ?_)
            exact bo_nx (.keep (.keep (.keep (.keep (.keep (.keep (.keep (.keep (.keep (.keep (.keep (.keep (.keep (.keep (.keep (.any .nil)))))))))))))))) rfl
          -- behind while1
          refine bo_tput (n := 2) kII_inj D.int hr.units (px_op op_add (px_tget2M kII_inj D.int hr.units (px_var (pv 4) rfl) (.o (k := 2) rfl) (pa_c (px_var (pv 10) rfl) (pa_c (px_var (pv 14) rfl) pa_n)) px_int (szS (by exact Nat.le_of_ble_eq_true rfl)) ) px_int o_add) (px_var (pv 4) rfl) (pa_c (px_var (pv 10) rfl) (pa_c (px_var (pv 14) rfl) pa_n)) (szS (by exact Nat.le_of_ble_eq_true rfl)) rfl /-dsz1-/(by omega) (fun load_2 hload_2 => ?_)
          refine bo_app (kk := 0) (fun x : Int × Int × Int × Str => D.tup [(D.int x.1), (D.int x.2.1), (D.int x.2.2.1), (D.str x.2.2.2)]) (px_var (pv 11) rfl) rfl (px_tup (pa_c (px_var (pv 10) rfl) (pa_c (px_var (pv 14) rfl) (pa_c (px_op op_add (px_var (pv 10) rfl) (px_ix ix_tup (px_ix ix_list (px_var (pv 0) rfl) (px_var (pv 14) rfl) (o_ixM roadD (x0 := ("", "", 0, 0)) .f /-lo7-/(hrd.1) /-hi7-/(hrd.2))) px_int (o_ixT (d := (D.int ((lines.getD (road).toNat ("", "", 0, 0)).2.2.1))) rfl)) o_add) (pa_c (px_ix ix_tup (px_ix ix_list (px_var (pv 0) rfl) (px_var (pv 14) rfl) (o_ixM roadD (x0 := ("", "", 0, 0)) .f /-lo8-/(hrd.1) /-hi8-/(hrd.2))) px_int (o_ixT (d := (D.str ((lines.getD (road).toNat ("", "", 0, 0)).2.1))) rfl)) pa_n))))) /-app1-/(by omega) (fun mine_2 hmine_2 => ?_)
          refine bo_set D.str nd (i := 9) rfl (.inr rfl) (px_ix ix_tup (px_ix ix_list (px_var (pv 0) rfl) (px_var (pv 14) rfl) (o_ixM roadD (x0 := ("", "", 0, 0)) .f /-lo9-/(hrd.1) /-hi9-/(hrd.2))) px_int (o_ixT (d := (D.str ((lines.getD (road).toNat ("", "", 0, 0)).2.1))) rfl)) (fun at_3 hat_3 => ?_)
          refine bo_set D.int nd (i := 10) rfl (.inl rfl) (px_op op_add (px_var (pv 10) rfl) (px_ix ix_tup (px_ix ix_list (px_var (pv 0) rfl) (px_var (pv 14) rfl) (o_ixM roadD (x0 := ("", "", 0, 0)) .f /-lo10-/(hrd.1) /-hi10-/(hrd.2))) px_int (o_ixT (d := (D.int ((lines.getD (road).toNat ("", "", 0, 0)).2.2.1))) rfl)) o_add) (fun ready_4 hready_4 => ?_)
          exact bo_nx (.keep (.keep (.keep (.keep (.keep (.keep (.keep (.keep (.keep (.keep (.keep (.keep (.any (.any (.any (.any .nil)))))))))))))))) rfl
        · -- if1f
          exact bo_nx (.keep (.keep (.keep (.keep (.keep (.keep (.keep (.keep (.keep (.keep (.keep (.keep (.any (.any (.any (.any .nil)))))))))))))))) rfl
      -- behind for2
      refine bo_frz (i := 11) (kk := 0) rfl rfl ?_
      refine bo_app (kk := 0) (lstE (fun x : Int × Int × Int × Str => D.tup [(D.int x.1), (D.int x.2.1), (D.int x.2.2.1), (D.str x.2.2.2)])) (px_var (pv 5) rfl) rfl (px_var (pv 11) rfl) /-app2-/(by omega) (fun legs_2 hlegs_2 => ?_)
      exact bo_nx (.keep (.keep (.keep (.keep (.keep (.keep (.any (.any (.any (.any (.any (.any (.any (.any (.any (.any .nil)))))))))))))))) rfl
    -- behind for1
    refine bo_frzT (i := 4) (kk := 1) rfl rfl ?_
    exact bo_retF (kk := 0) (px_var (pv 5) rfl) rfl

theorem g_law_plan (T : Top K mg c) : Glo P w K mg base 1 "_law_plan" ["_law_legs_here"] (Pu K (fun a : (List (List (Int × Int × Int × Str))) => (fun (legs : List (List (Int × Int × Int × Str))) => legs.length ≤ 40 ∧ ∀ x ∈ legs, x.length ≤ 3) a) (fun a => [((lstE (lstE (fun x : Int × Int × Int × Str => D.tup [(D.int x.1), (D.int x.2.1), (D.int x.2.2.1), (D.str x.2.2.2)]))) a)]) (fun a => ((lstE (fun x : Int × Int × List Int => D.tup [(D.int x.1), (D.int x.2.1), ((tlE D.int) x.2.2)])) (law_plan_m a)))) :=
  glo_of T.d_law_plan (fun _ _ _ _ _ _ us hl => match us, hl with | [_], _ => rfl) fun f fd F => fn_ok F cs_law_plan (fun _ => rfl) fun cdv A outer s H E a hr hok => by
    have nd := cs_law_plan.nd
    revert hok; revert a; intro legs hok
    have hok : legs.length ≤ 40 ∧ ∀ x ∈ legs, x.length ≤ 3 := hok
    obtain ⟨h40, h3⟩ := hok
    refine Blk.imp (show Bo _ _ _ [some ((lstE (lstE (fun x : Int × Int × Int × Str => D.tup [(D.int x.1), (D.int x.2.1), (D.int x.2.2.1), (D.str x.2.2.2)]))) legs), none, none, none, none, none] _ (Rt (PuR (lstE (fun x : Int × Int × List Int => D.tup [(D.int x.1), (D.int x.2.1), ((tlE D.int) x.2.2)])))) (law_plan_m legs) from ?_) (fun _ _ h => h.elim) (fun _ _ h => h) (fun _ _ h => h.elim) (fun _ _ h => h.elim) (fun _ _ _ _ h => h.elim)
    unfold law_plan_m
    refine bo_l0T kII D.int nd (i := 1) rfl (.inr rfl) (fun q bags hbags => ?_)
    refine bo_for (is := [2, 3]) (fun x : Int × (List (Int × Int × Int × Str)) => D.tup [(D.int x.1), ((lstE (fun x : Int × Int × Int × Str => D.tup [(D.int x.1), (D.int x.2.1), (D.int x.2.2.1), (D.str x.2.2.2)])) x.2)]) (fun s1 : (List ((Int × Int) × List Int)) => [some ((lstE (lstE (fun x : Int × Int × Int × Str => D.tup [(D.int x.1), (D.int x.2.1), (D.int x.2.2.1), (D.str x.2.2.2)]))) legs), some (D.adr q), none, none, none, none]) (fun s1 : (List ((Int × Int) × List Int)) => [ownTL K q (tlE' kII D.int s1)]) (fun i s => s.length ≤ 3 * i ∧ ∀ kv ∈ s, kv.2.length ≤ 3 * i) PassesOwn.never rfl (Itw.to (it_enum (px_var (pv 0) rfl) T.z_enumerate) enumI_map) (pg_tup rfl (pgs_cons (pg_name (i := 2) nd rfl (.inl rfl)) (pgs_cons (pg_name (i := 3) nd rfl (.inl rfl)) pgs_nil))) (.keep (.keep (.any (.any (.any (.any .nil)))))) rfl (by rw [hbags]; exact ⟨Nat.le_refl 0, fun _ h => by cases h⟩) (fun i1 x1 s1 hx1 hp1 hj1 => ?_) (fun s1 hs1 hj1e => ?_)
    · -- for1
      have hx11 := (enumI_get hx1).1
      have hx12 := (enumI_get hx1).2
      have hx1m := List.mem_of_getElem? hx12
      have hx1l := (List.getElem?_eq_some_iff.mp hx12).1
      have hm3 := h3 _ hx1m
      refine ⟨(plout_len hm3 hj1), _, tg_tup rfl rfl, ?_⟩
      refine bo_for (is := [4]) (fun x : Int × Int × Int × Str => D.tup [(D.int x.1), (D.int x.2.1), (D.int x.2.2.1), (D.str x.2.2.2)]) (fun s2 : (List ((Int × Int) × List Int)) => [some ((lstE (lstE (fun x : Int × Int × Int × Str => D.tup [(D.int x.1), (D.int x.2.1), (D.int x.2.2.1), (D.str x.2.2.2)]))) legs), some (D.adr q), some (D.int x1.1), some ((lstE (fun x : Int × Int × Int × Str => D.tup [(D.int x.1), (D.int x.2.1), (D.int x.2.2.1), (D.str x.2.2.2)])) x1.2), none, none]) (fun s2 : (List ((Int × Int) × List Int)) => [ownTL K q (tlE' kII D.int s2)]) (fun i s => s.length ≤ 3 * i1 + i ∧ ∀ kv ∈ s, kv.2.length ≤ 3 * i1 + i) PassesOwn.never rfl (it_list (px_var (pv 3) rfl)) (pg_name (i := 4) nd rfl (.inl rfl)) (.keep (.keep (.keep (.keep (.any (.any .nil)))))) rfl hj1 (fun i2 x2 s2 hx2 hp2 hj2 => ?_) (fun s2 hs2 hj2e => ?_)
      · -- for2
        have hx2m := List.mem_of_getElem? hx2
        have hx2l := (List.getElem?_eq_some_iff.mp hx2).1
        refine ⟨⟨Nat.le_trans alapp_len (Nat.succ_le_succ hj2.1), alapp_le hj2.2⟩, _, tg_name, ?_⟩
        refine bo_setdT (n := 0) kII_inj D.int (fun _ => (px_var (pv 1) rfl)) hr.units (fun _ => (pa_c (px_ix ix_tup (px_var (pv 4) rfl) px_int (o_ixT (d := (D.int x2.1)) rfl)) (pa_c (px_ix ix_tup (px_var (pv 4) rfl) px_int (o_ixT (d := (D.int x2.2.1)) rfl)) pa_n))) (szS (by exact Nat.le_of_ble_eq_true rfl))  (fun _ => (px_var (pv 2) rfl)) rfl /-dsz1-/(by omega) /-lsz1-/(fun kv h => Nat.lt_of_le_of_lt (hj2.2 kv h) (by omega)) (fun bags_2 hbags_2 => ?_) (hp0 := by exact ps_expr (pe_bm PySem.F.plainAttrs_list PySem.F.slot_list_append PySem.F.type_list_append mt_append (pe_bm PySem.F.plainAttrs_dict PySem.F.slot_dict_setdefault PySem.F.type_dict_setdefault (mt_setdT (Px.units hr.units)) pe_wp (pa_cons (pe_tup pa_wp) (pa_cons pe_wp pa_nil))) (pa_cons pe_wp pa_nil)))
        exact bo_nx (.keep (.keep (.keep (.keep (.any (.any .nil)))))) rfl
      -- behind for2
      exact bo_nx (.keep (.keep (.any (.any (.any (.any .nil)))))) rfl
    -- behind for1
    refine bo_frzTL (i := 1) (kk := 0) rfl rfl ?_
    exact bo_ret (px_lcM (own := [("_law_key", 5)]) (is := [5]) (fun x : Int × Int => D.tup [(D.int x.1), (D.int x.2)]) (fun x : Int × Int × List Int => D.tup [(D.int x.1), (D.int x.2.1), ((tlE D.int) x.2.2)]) (fun z1 : Int × Int => (z1.1, z1.2, ((aget s1 z1).getD ([])))) rfl nd (it_list (px_sortDT (kf := kII) (enc := (lstE D.int)) (fun i => false) kII_inj (fun _ => rfl) (fun _ h => by cases h) (px_var (pv 1) rfl) .f T.z_sorted)) (blkOk_by (N := ns_law_plan) (sc := defScope s_law_plan) (by decide +kernel)) (fun _ _ _ _ _ => (pg_name (i := 5) nd rfl (.inl rfl))) (by decide) /-csz1-/(by have h := hj1e.1; rw [enumI_len] at h; rw [sortK_len, List.length_map]; omega) (fun i z1 hz1 => by
      have hz1m := List.mem_of_getElem? hz1
      have hz1l := (List.getElem?_eq_some_iff.mp hz1).1
      exact ⟨_, tg_name, fun _ _ _ _ _ => (px_tup (pa_c (px_ix ix_tup (px_var (pv 5) rfl) px_int (o_ixT (d := (D.int z1.1)) rfl)) (pa_c (px_ix ix_tup (px_var (pv 5) rfl) px_int (o_ixT (d := (D.int z1.2)) rfl)) (pa_c (px_tupOf (px_tgetV (k := z1) kII_inj (lstE D.int) (x0 := []) hr.units (px_var (pv 1) rfl) .f (px_var (pv 5) rfl) /-key1-/(key_of (mem_sortK hz1m))) .f T.z_tuple) pa_n))))⟩))


end

end Lw
set_option Elab.async false
set_option linter.all false
set_option maxRecDepth 100000
set_option maxHeartbeats 4000000
namespace Lw
open PySem L2 Sx
section
variable {P : Program} {w : World} {K : PySem.W.Frag} {mg : Str → Option Value} {base : Heap} {c : Cs}
theorem g_is_number_x (T : Top K mg c) : Glo P w K mg base 1 "is_number" ["thing"] (Pu K (fun a : D => (fun (thing : D) => Any thing) a) (fun a => [a]) (fun a => (D.bl (is_number_x_m a)))) :=
  glo_of T.d_is_number (fun _ _ _ _ _ _ us hl => match us, hl with | [_], _ => rfl) fun f fd F => fn_ok F cs_is_number (fun _ => rfl) fun cdv A outer s H E a hr hok => by
    have nd := cs_is_number.nd
    revert hok; revert a; intro thing hok
    have hok : Any thing := hok
    refine Blk.imp (show Bo _ _ _ [some thing] _ (Rt (PuR D.bl)) (is_number_x_m thing) from ?_) (fun _ _ h => h.elim) (fun _ _ h => h) (fun _ _ h => h.elim) (fun _ _ h => h.elim) (fun _ _ _ _ h => h.elim)
    unfold is_number_x_m
    exact bo_ret (px_and (px_isAny .int T.z_isinstance T.z_int (px_var (pv 0) rfl) /-any1-/(hok)) fun hb1 => (px_one (px_not (px_isAny .bool T.z_isinstance T.z_bool (px_var (pv 0) rfl) /-any2-/(hok)))))

theorem g_is_bag_x (T : Top K mg c) : Glo P w K mg base 2 "is_bag" ["thing"] (Pu K (fun a : D => (fun (thing : D) => OkThing thing) a) (fun a => [a]) (fun a => (D.bl (is_bag_x_m a)))) :=
  glo_of T.d_is_bag (fun _ _ _ _ _ _ us hl => match us, hl with | [_], _ => rfl) fun f fd F => fn_ok F cs_is_bag (fun _ => rfl) fun cdv A outer s H E a hr hok => by
    have nd := cs_is_bag.nd
    revert hok; revert a; intro thing hok
    have hok : OkThing thing := hok
    have ha := hok.a
    refine Blk.imp (show Bo _ _ _ [some thing, none] _ (Rt (PuR D.bl)) (is_bag_x_m thing) from ?_) (fun _ _ h => h.elim) (fun _ _ h => h) (fun _ _ h => h.elim) (fun _ _ h => h.elim) (fun _ _ _ _ h => h.elim)
    unfold is_bag_x_m
    refine bo_ifR (ts_w (tw_or (ts_not (ts_val (px_isAny .tuple T.z_isinstance T.z_tuple (px_var (pv 0) rfl) /-any1-/(by first | exact ha | exact ixD_any hok (by omega) | exact seq_any (ixD_any hok (by omega)) _ hz1m | exact Dp'.mono tl_ints (by decide))))) fun hb1 => (tw_or1 (ts_cmp op_ne (px_lenAny T.z_len (px_var (pv 0) rfl) /-seq1-/(D.seq_tup (by assumption))) px_int o_neI)))) (fun hi1 => ?_) (fun hi1 => ?_)
    · -- if1t
      exact bo_ret px_bl
    · -- if1f
      have h3 := len_of hi1
      refine bo_ifR (ts_w (tw_or (ts_not (ts_val (px_call (g_is_number_x T) hr (by decide) (thing.ix 0) /-ok_is_number_1-/(by first | exact ixD_any hok (by omega) | exact seq_any (ixD_any hok (by omega)) _ hz1m) (pa_c (px_ixAny (i := 0) (px_var (pv 0) rfl) px_int /-ixa1-/(by omega)) pa_n)))) fun hb3 => (tw_or (ts_not (ts_val (px_call (g_is_number_x T) hr (by decide) (thing.ix 1) /-ok_is_number_2-/(by first | exact ixD_any hok (by omega) | exact seq_any (ixD_any hok (by omega)) _ hz1m) (pa_c (px_ixAny (i := 1) (px_var (pv 0) rfl) px_int /-ixa2-/(by omega)) pa_n)))) fun hb2 => (tw_or1 (ts_not (ts_val (px_isAny .tuple T.z_isinstance T.z_tuple (px_ixAny (i := 2) (px_var (pv 0) rfl) px_int /-ixa3-/(by omega)) /-any2-/(by first | exact ha | exact ixD_any hok (by omega) | exact seq_any (ixD_any hok (by omega)) _ hz1m | exact Dp'.mono tl_ints (by decide))))))))) (fun hi2 => ?_) (fun hi2 => ?_)
      · -- if2t
        exact bo_ret px_bl
      · -- if2f
        have h2 := tup_of hi2
        exact bo_ret (px_and (px_cmp (op_neD hr.units) (px_ixAny (i := 2) (px_var (pv 0) rfl) px_int /-ixa4-/(by omega)) (Px.to (px_tup pa_n) (rfl : _ = tlE D.int [])) (o_neAny /-any3-/(by first | exact ha | exact ixD_any hok (by omega) | exact seq_any (ixD_any hok (by omega)) _ hz1m | exact Dp'.mono tl_ints (by decide)) /-any4-/(by first | exact ha | exact ixD_any hok (by omega) | exact seq_any (ixD_any hok (by omega)) _ hz1m | exact Dp'.mono tl_ints (by decide)))) fun hb4 => (px_one (px_bi (cr_all rfl) T.z_all (pa_c (px_lcM (own := [("one", 1)]) (is := [1]) (fun x : D => x) D.bl (fun z1 : D => (is_number_x_m z1)) rfl nd (it_any (px_ixAny (i := 2) (px_var (pv 0) rfl) px_int /-ixa5-/(by omega)) /-seq2-/(D.seq_tup' h2)) (blkOk_by (N := ns_is_bag) (sc := defScope s_is_bag) (by decide +kernel)) (fun _ _ _ _ _ => (pg_name (i := 1) nd rfl (.inl rfl))) (by decide) /-csz1-/(hok.len) (fun i z1 hz1 => by
          have hz1m := List.mem_of_getElem? hz1
          have hz1l := (List.getElem?_eq_some_iff.mp hz1).1
          exact ⟨_, tg_name, fun _ _ _ _ _ => (px_call (g_is_number_x T) hr (by decide) z1 /-ok_is_number_3-/(by first | exact ixD_any hok (by omega) | exact seq_any (ixD_any hok (by omega)) _ hz1m) (pa_c (px_var (pv 1) rfl) pa_n))⟩)) pa_n) (o_all .f))))

theorem g_Walk_amiss_x (T : Top K mg c) : GloM P w K mg base 5 c.Walk "amiss" ["self", "bag"] (SpN K (fun a : ((List Str × List Road) × List Letter × List Sp × (Option (Int × Int))) × Addr × Addr × D => OkWk a.1 ∧ OkThing a.2.2.2) (fun a => [.adr a.2.1, a.2.2.2]) (fun a => [ownI K a.2.1 c.Walk [("net", ((netD c) a.1.1)), ("posted", ((lstE letterD) a.1.2.1)), ("stood", .adr a.2.2.1), ("last", ((optE (fun x : Int × Int => D.tup [(D.int x.1), (D.int x.2)])) a.1.2.2.2))], ownL K a.2.2.1 (a.1.2.2.1.map (fun x : Sp => (spD c x)))]) (fun a => OwnR (fun (i : Unit) (r : Option Str) => (((optE D.str) r) : D)) (fun (i : Unit) (r : Option Str) => ([ownI K a.2.1 c.Walk [("net", ((netD c) a.1.1)), ("posted", ((lstE letterD) a.1.2.1)), ("stood", .adr a.2.2.1), ("last", ((optE (fun x : Int × Int => D.tup [(D.int x.1), (D.int x.2)])) a.1.2.2.2))], ownL K a.2.2.1 (a.1.2.2.1.map (fun x : Sp => (spD c x)))] : List Res))) (fun a => Walk_amiss_x_m a.1 a.2.2.2)) :=
  glom_of T.d_Walk_amiss T.c_Walk.cl (fun _ _ _ _ _ _ us hl => match us, hl with | [_, _], _ => rfl) fun f fd F => fn_ok F cs_Walk_amiss (fun _ => rfl) fun cdv A outer s H E a hr hok => by
    have nd := cs_Walk_amiss.nd
    obtain ⟨self, p_self, q_self_stood, bag⟩ := a
    have hok : OkWk self ∧ OkThing bag := hok
    refine Blk.imp (show Bo _ _ _ [some (D.adr p_self), some bag, none, none, none, none, none] [ownI K p_self c.Walk [("net", ((netD c) self.1)), ("posted", ((lstE letterD) self.2.1)), ("stood", .adr q_self_stood), ("last", ((optE (fun x : Int × Int => D.tup [(D.int x.1), (D.int x.2)])) self.2.2.2))], ownL K q_self_stood (self.2.2.1.map (fun x : Sp => (spD c x)))] (Rt (OwnR (fun (i : Unit) (r : Option Str) => (((optE D.str) r) : D)) (fun (i : Unit) (r : Option Str) => ([ownI K p_self c.Walk [("net", ((netD c) self.1)), ("posted", ((lstE letterD) self.2.1)), ("stood", .adr q_self_stood), ("last", ((optE (fun x : Int × Int => D.tup [(D.int x.1), (D.int x.2)])) self.2.2.2))], ownL K q_self_stood (self.2.2.1.map (fun x : Sp => (spD c x)))] : List Res)))) (Walk_amiss_x_m self bag) from ?_) (fun _ _ h => h.elim) (fun _ _ h => h) (fun _ _ h => h.elim) (fun _ _ h => h.elim) (fun _ _ _ _ h => h.elim)
    unfold Walk_amiss_x_m
    refine bo_ifR (ts_not (ts_val (px_call (g_is_bag_x T) hr (by decide) bag /-ok_is_bag_1-/(hok.2) (pa_c (px_var (pv 1) rfl) pa_n)))) (fun hi1 => ?_) (fun hi1 => ?_)
    · -- if1t
      exact bo_retG (dd := (fun (i : Unit) (r : Option Str) => (((optE D.str) r) : D))) (ll := (fun (i : Unit) (r : Option Str) => ([ownI K p_self c.Walk [("net", ((netD c) self.1)), ("posted", ((lstE letterD) self.2.1)), ("stood", .adr q_self_stood), ("last", ((optE (fun x : Int × Int => D.tup [(D.int x.1), (D.int x.2)])) self.2.2.2))], ownL K q_self_stood (self.2.2.1.map (fun x : Sp => (spD c x)))] : List Res))) (junk := []) (r := (some "bag")) () (Px.to px_str (rfl : _ = ((optE D.str) (some "bag")))) (.refl _)
    · -- if1f
      refine bo_re (i := 1) (bag_re hok.2 hi1) ?_
      show Bo _ _ _ [some (D.adr p_self), some (D.tup [(D.int ((toBag bag).1)), (D.int ((toBag bag).2.1)), ((tlE D.int) ((toBag bag).2.2))]), none, none, none, none, none] [ownI K p_self c.Walk [("net", ((netD c) self.1)), ("posted", ((lstE letterD) self.2.1)), ("stood", .adr q_self_stood), ("last", ((optE (fun x : Int × Int => D.tup [(D.int x.1), (D.int x.2)])) self.2.2.2))], ownL K q_self_stood (self.2.2.1.map (fun x : Sp => (spD c x)))] _ _
      refine bo_asg (is := [2, 3, 4]) (px_var (pv 1) rfl) (pg_tup rfl (pgs_cons (pg_name (i := 2) nd rfl (.inr rfl)) (pgs_cons (pg_name (i := 3) nd rfl (.inr rfl)) (pgs_cons (pg_name (i := 4) nd rfl (.inl rfl)) pgs_nil)))) (tg_tup rfl rfl) ?_
      refine bo_ifR (ts_w (tw_and (ts_cmp op_notN (px_fldO (px_var (pv 0) rfl) (k := 0) rfl T.c_Walk.cl T.n_Walk_last (look_tl (look_tl (look_tl look_hd)))) px_non (o_notNo (fun _ => rfl))) fun hb1 => (tw_and1 (ts_cmp (op_leT (Px.units1 hr.units)) (px_tup (pa_c (px_var (pv 2) rfl) (pa_c (px_var (pv 3) rfl) pa_n))) (Px.to (px_fldO (px_var (pv 0) rfl) (k := 0) rfl T.c_Walk.cl T.n_Walk_last (look_tl (look_tl (look_tl look_hd)))) (optE_get (x0 := (0, 0)) /-opt1-/(by first | assumption | simp_all))) (o_leII (a := ((toBag bag).1, (toBag bag).2.1)) (b := (self.2.2.2.getD (0, 0)))))))) (fun hi2 => ?_) (fun hi2 => ?_)
      · -- if2t
        exact bo_retG (dd := (fun (i : Unit) (r : Option Str) => (((optE D.str) r) : D))) (ll := (fun (i : Unit) (r : Option Str) => ([ownI K p_self c.Walk [("net", ((netD c) self.1)), ("posted", ((lstE letterD) self.2.1)), ("stood", .adr q_self_stood), ("last", ((optE (fun x : Int × Int => D.tup [(D.int x.1), (D.int x.2)])) self.2.2.2))], ownL K q_self_stood (self.2.2.1.map (fun x : Sp => (spD c x)))] : List Res))) (junk := []) (r := (some "order")) () (Px.to px_str (rfl : _ = ((optE D.str) (some "order")))) (.refl _)
      · -- if2f
        refine bo_set (lstE roadD) nd (i := 5) rfl (.inr rfl) (px_fld (px_fldO (px_var (pv 0) rfl) (k := 0) rfl T.c_Walk.cl T.n_Walk_net look_hd) T.c_Net.cl T.n_Net_lines look_lines) (fun lines hlines => ?_)
        refine bo_ifR (ts_not (ts_chain op_le op_lt px_int (px_var (pv 3) rfl) o_le (px_bi call_len_seq T.z_len (pa_c (px_var (pv 5) rfl) pa_n) (o_lenM .f)) (fun _ => o_lt))) (fun hi3 => ?_) (fun hi3 => ?_)
        · -- if3t
          exact bo_retG (dd := (fun (i : Unit) (r : Option Str) => (((optE D.str) r) : D))) (ll := (fun (i : Unit) (r : Option Str) => ([ownI K p_self c.Walk [("net", ((netD c) self.1)), ("posted", ((lstE letterD) self.2.1)), ("stood", .adr q_self_stood), ("last", ((optE (fun x : Int × Int => D.tup [(D.int x.1), (D.int x.2)])) self.2.2.2))], ownL K q_self_stood (self.2.2.1.map (fun x : Sp => (spD c x)))] : List Res))) (junk := []) (r := (some "road")) () (Px.to px_str (rfl : _ = ((optE D.str) (some "road")))) (.refl _)
        · -- if3f
          have hrd : 0 ≤ (toBag bag).2.1 ∧ (toBag bag).2.1 < (lines.length : Int) := by simpa using hi3
          refine bo_ifR (ts_cmp op_gt (px_bi call_len_seq T.z_len (pa_c (px_var (pv 4) rfl) pa_n) (o_lenM .t)) (px_ix ix_tup (px_ix ix_list (px_var (pv 5) rfl) (px_var (pv 3) rfl) (o_ixM roadD (x0 := ("", "", 0, 0)) .f /-lo1-/(hrd.1) /-hi1-/(hrd.2))) px_int (o_ixT (d := (D.int ((lines.getD ((toBag bag).2.1).toNat ("", "", 0, 0)).2.2.2))) rfl)) o_gt) (fun hi4 => ?_) (fun hi4 => ?_)
          · -- if4t
            exact bo_retG (dd := (fun (i : Unit) (r : Option Str) => (((optE D.str) r) : D))) (ll := (fun (i : Unit) (r : Option Str) => ([ownI K p_self c.Walk [("net", ((netD c) self.1)), ("posted", ((lstE letterD) self.2.1)), ("stood", .adr q_self_stood), ("last", ((optE (fun x : Int × Int => D.tup [(D.int x.1), (D.int x.2)])) self.2.2.2))], ownL K q_self_stood (self.2.2.1.map (fun x : Sp => (spD c x)))] : List Res))) (junk := []) (r := (some "room")) () (Px.to px_str (rfl : _ = ((optE D.str) (some "room")))) (.refl _)
          · -- if4f
            refine bo_ifR (ts_not (ts_val (ev_still (d := (D.bl (Walk_are_letters_m self ((toBag bag).2.2)))) (own0 := [ownI K p_self c.Walk [("net", ((netD c) self.1)), ("posted", ((lstE letterD) self.2.1)), ("stood", .adr q_self_stood), ("last", ((optE (fun x : Int × Int => D.tup [(D.int x.1), (D.int x.2)])) self.2.2.2))], ownL K q_self_stood (self.2.2.1.map (fun x : Sp => (spD c x)))] ++ []) (ev_methO (lr := []) (g_Walk_are_letters T) hr (by decide) (self, p_self, q_self_stood, (toBag bag).2.2) /-ok_are_letters_1-/(trivial) (.refl _) (px_var (pv 0) rfl) (k0 := 0) rfl (look_tl (look_tl (look_tl (look_tl look_nil)))) (pa_c (px_var (pv 4) rfl) pa_n) rfl) (fun _ _ ⟨_, h1, h2⟩ => ⟨h1, h2⟩) (.refl _)))) (fun hi5 => ?_) (fun hi5 => ?_)
            · -- if5t
              exact bo_retG (dd := (fun (i : Unit) (r : Option Str) => (((optE D.str) r) : D))) (ll := (fun (i : Unit) (r : Option Str) => ([ownI K p_self c.Walk [("net", ((netD c) self.1)), ("posted", ((lstE letterD) self.2.1)), ("stood", .adr q_self_stood), ("last", ((optE (fun x : Int × Int => D.tup [(D.int x.1), (D.int x.2)])) self.2.2.2))], ownL K q_self_stood (self.2.2.1.map (fun x : Sp => (spD c x)))] : List Res))) (junk := []) (r := (some "letter")) () (Px.to px_str (rfl : _ = ((optE D.str) (some "letter")))) (.refl _)
            · -- if5f
              have hal := are_letters_iff.mp (by simpa using hi5 : Walk_are_letters_m self (toBag bag).2.2 = true)
              refine bo_ifR (ts_not (ts_val (px_bi (cr_all rfl) T.z_all (pa_c (px_lcM (own := [("number", 6)]) (is := [6]) D.int D.bl (fun z1 : Int => (Walk_lies_at_m self z1 ((lines.getD ((toBag bag).2.1).toNat ("", "", 0, 0)).1) ((toBag bag).1))) rfl nd (it_tup (px_var (pv 4) rfl)) (blkOk_by (N := ns_Walk_amiss) (sc := defScope s_Walk_amiss) (by decide +kernel)) (fun _ _ _ _ _ => (pg_name (i := 6) nd rfl (.inl rfl))) (by decide) /-csz1-/(hok.2.bag) (fun i z1 hz1 => by
                have hz1m := List.mem_of_getElem? hz1
                have hz1l := (List.getElem?_eq_some_iff.mp hz1).1
                exact ⟨_, tg_name, fun _ _ _ _ _ => (ev_still (d := (D.bl (Walk_lies_at_m self z1 ((lines.getD ((toBag bag).2.1).toNat ("", "", 0, 0)).1) ((toBag bag).1)))) (own0 := [ownI K p_self c.Walk [("net", ((netD c) self.1)), ("posted", ((lstE letterD) self.2.1)), ("stood", .adr q_self_stood), ("last", ((optE (fun x : Int × Int => D.tup [(D.int x.1), (D.int x.2)])) self.2.2.2))], ownL K q_self_stood (self.2.2.1.map (fun x : Sp => (spD c x)))] ++ []) (ev_methO (lr := []) (g_Walk_lies_at T) hr (by decide) (self, p_self, q_self_stood, z1, (lines.getD ((toBag bag).2.1).toNat ("", "", 0, 0)).1, (toBag bag).1) /-ok_lies_at_1-/(⟨hal.1 z1 hz1m, hok.1⟩) (.refl _) (px_var (pv 0) rfl) (k0 := 0) rfl (look_tl (look_tl (look_tl (look_tl look_nil)))) (pa_c (px_var (pv 6) rfl) (pa_c (px_ix ix_tup (px_ix ix_list (px_var (pv 5) rfl) (px_var (pv 3) rfl) (o_ixM roadD (x0 := ("", "", 0, 0)) .f /-lo2-/(hrd.1) /-hi2-/(hrd.2))) px_int (o_ixT (d := (D.str ((lines.getD ((toBag bag).2.1).toNat ("", "", 0, 0)).1))) rfl)) (pa_c (px_var (pv 2) rfl) pa_n))) rfl) (fun _ _ ⟨_, h1, h2⟩ => ⟨h1, h2⟩) (.refl _))⟩)) pa_n) (o_all .f)))) (fun hi6 => ?_) (fun hi6 => ?_)
              · -- if6t
                exact bo_retG (dd := (fun (i : Unit) (r : Option Str) => (((optE D.str) r) : D))) (ll := (fun (i : Unit) (r : Option Str) => ([ownI K p_self c.Walk [("net", ((netD c) self.1)), ("posted", ((lstE letterD) self.2.1)), ("stood", .adr q_self_stood), ("last", ((optE (fun x : Int × Int => D.tup [(D.int x.1), (D.int x.2)])) self.2.2.2))], ownL K q_self_stood (self.2.2.1.map (fun x : Sp => (spD c x)))] : List Res))) (junk := []) (r := (some "there")) () (Px.to px_str (rfl : _ = ((optE D.str) (some "there")))) (.refl _)
              · -- if6f
                exact bo_retG (dd := (fun (i : Unit) (r : Option Str) => (((optE D.str) r) : D))) (ll := (fun (i : Unit) (r : Option Str) => ([ownI K p_self c.Walk [("net", ((netD c) self.1)), ("posted", ((lstE letterD) self.2.1)), ("stood", .adr q_self_stood), ("last", ((optE (fun x : Int × Int => D.tup [(D.int x.1), (D.int x.2)])) self.2.2.2))], ownL K q_self_stood (self.2.2.1.map (fun x : Sp => (spD c x)))] : List Res))) (junk := []) (r := none) () (Px.to px_non (rfl : _ = ((optE D.str) none))) (.refl _)

theorem g_stops_at_x (T : Top K mg c) : GloX P w K mg base 6 "stops_at" ["net", "letters", "plan", "turn"] (SpX K (fun a : (List Str × List Road) × List Letter × List D × Option Int => (fun (net : List Str × List Road) (letters : List Letter) (plan : List D) (turn : Option Int) => letters.length ≤ 10000 ∧ ∀ b ∈ plan, OkThing b) a.1 a.2.1 a.2.2.1 a.2.2.2) (fun a => [((netD c) a.1), ((lstE letterD) a.2.1), ((lstE (fun x : D => x)) a.2.2.1), ((optE D.int) a.2.2.2)]) (fun _ => []) (fun _ => PuR (lstE (fun x : Sp => (spD c x)))) (fun a => stops_at_x_m a.1 a.2.1 a.2.2.1 a.2.2.2) (Exn.xd c)) :=
  glox_of T.d_stops_at (fun _ _ _ _ _ _ us hl => match us, hl with | [_, _, _, _], _ => rfl) fun f fd F => fn_okX F cs_stops_at (fun _ => rfl) fun cdv A outer s H E a hr hok => by
    have nd := cs_stops_at.nd
    obtain ⟨net, letters, plan, turn⟩ := a
    have hok : letters.length ≤ 10000 ∧ ∀ b ∈ plan, OkThing b := hok
    refine Blk.imp (show Bo _ _ _ [some ((netD c) net), some ((lstE letterD) letters), some ((lstE (fun x : D => x)) plan), some ((optE D.int) turn), none, none, none, none, none] _ (Rt (XR K [] (PuR (lstE (fun x : Sp => (spD c x)))) (Exn.xd c))) (stops_at_x_m net letters plan turn) from ?_) (fun _ _ h => h.elim) (fun _ _ h => h) (fun _ _ h => h.elim) (fun _ _ h => h.elim) (fun _ _ _ _ h => xr_ex (fun _ _ _ _ _ h => h) h)
    unfold stops_at_x_m
    refine bo_setO (dd := fun (i : Addr × Addr) (r : ((List Str × List Road) × List Letter × List Sp × (Option (Int × Int)))) => (.adr i.1 : D)) (ll := fun (i : Addr × Addr) (r : ((List Str × List Road) × List Letter × List Sp × (Option (Int × Int)))) => ([ownI K i.1 c.Walk [("net", ((netD c) r.1)), ("posted", ((lstE letterD) r.2.1)), ("stood", .adr i.2), ("last", ((optE (fun x : Int × Int => D.tup [(D.int x.1), (D.int x.2)])) r.2.2.2))], ownL K i.2 (r.2.2.1.map (fun x : Sp => (spD c x)))] : List Res)) nd (i := 4) rfl (.inl rfl) (ev_new_Walk T hr (by decide) (net, letters) /-ok_init___1-/(hok.1) (pa_c (px_var (pv 0) rfl) (pa_c (px_var (pv 1) rfl) pa_n))) (fun jwalk walk hwalk => ?_)
    obtain ⟨p_walk, q_walk_stood⟩ := jwalk
    show Bo _ _ _ [some ((netD c) net), some ((lstE letterD) letters), some ((lstE (fun x : D => x)) plan), some ((optE D.int) turn), some (D.adr p_walk), none, none, none, none] [ownI K p_walk c.Walk [("net", ((netD c) walk.1)), ("posted", ((lstE letterD) walk.2.1)), ("stood", .adr q_walk_stood), ("last", ((optE (fun x : Int × Int => D.tup [(D.int x.1), (D.int x.2)])) walk.2.2.2))], ownL K q_walk_stood (walk.2.2.1.map (fun x : Sp => (spD c x)))] _ _
    refine bo_set (optE (lstE (fun x : Sp => (spD c x)))) nd (i := 5) rfl (.inl rfl) (Px.to px_non (rfl : _ = ((optE (lstE (fun x : Sp => (spD c x)))) none))) (fun kept hkept => ?_)
    refine bo_forV (is := [6, 7]) (fun x : Int × D => D.tup [(D.int x.1), x.2]) (fun s1 : Option (List Sp) × ((List Str × List Road) × List Letter × List Sp × (Option (Int × Int))) => [some ((netD c) net), some ((lstE letterD) letters), some ((lstE (fun x : D => x)) plan), some ((optE D.int) turn), some (D.adr p_walk), some ((optE (lstE (fun x : Sp => (spD c x)))) s1.1), none, none, none]) (fun s1 : Option (List Sp) × ((List Str × List Road) × List Letter × List Sp × (Option (Int × Int))) => [ownI K p_walk c.Walk [("net", ((netD c) s1.2.1)), ("posted", ((lstE letterD) s1.2.2.1)), ("stood", .adr q_walk_stood), ("last", ((optE (fun x : Int × Int => D.tup [(D.int x.1), (D.int x.2)])) s1.2.2.2.2))], ownL K q_walk_stood (s1.2.2.2.1.map (fun x : Sp => (spD c x)))]) (fun i s => JX net letters s) (fun _ => True) (passes_of rfl) rfl (Itw.to (it_enum (px_var (pv 2) rfl) T.z_enumerate) enumI_map) (pg_tup rfl (pgs_cons (pg_name (i := 6) nd rfl (.inl rfl)) (pgs_cons (pg_name (i := 7) nd rfl (.inl rfl)) pgs_nil))) (.keep (.keep (.keep (.keep (.keep (.keep (.any (.any (.any .nil))))))))) rfl (by rw [hkept, hwalk]; exact jx_0) (fun i1 x1 s1 hx1 hp1 hj1 => ?_) (fun _ _ => trivial) (fun s1 hs1 hj1e => ?_)
    · -- for1
      have hx11 := (enumI_get hx1).1
      have hx12 := (enumI_get hx1).2
      have hx1m := List.mem_of_getElem? hx12
      have hx1l := (List.getElem?_eq_some_iff.mp hx12).1
      refine ⟨(js_x hj1), _, tg_tup rfl rfl, ?_⟩
      refine bo_set (optE D.str) nd (i := 8) rfl (.inl rfl) (ev_still (d := ((optE D.str) (Walk_amiss_x_m s1.2 x1.2))) (own0 := [ownI K p_walk c.Walk [("net", ((netD c) s1.2.1)), ("posted", ((lstE letterD) s1.2.2.1)), ("stood", .adr q_walk_stood), ("last", ((optE (fun x : Int × Int => D.tup [(D.int x.1), (D.int x.2)])) s1.2.2.2.2))], ownL K q_walk_stood (s1.2.2.2.1.map (fun x : Sp => (spD c x)))] ++ []) (ev_methO (lr := []) (g_Walk_amiss_x T) hr (by decide) (s1.2, p_walk, q_walk_stood, x1.2) /-ok_amiss_1-/(⟨hj1.w, hok.2 _ hx1m⟩) (.refl _) (px_var (pv 4) rfl) (k0 := 0) rfl (look_tl (look_tl (look_tl (look_tl look_nil)))) (pa_c (px_var (pv 7) rfl) pa_n) rfl) (fun _ _ ⟨_, h1, h2⟩ => ⟨h1, h2⟩) (.refl _)) (fun reason hreason => ?_)
      refine bo_ifO (ts_cmp op_notN (px_var (pv 8) rfl) px_non (o_notNo (fun _ => rfl))) (fun hi1 => ?_) (fun hi1 => ?_)
      · -- if1t
        exact bo_raiseG rfl takes_cx (g_BadBag_init T) hr (by decide) (x1.1, (reason.getD "")) trivial (pa_c (px_var (pv 6) rfl) (pa_c (Px.to (px_var (pv 8) rfl) (optE_get (x0 := ("" : Str)) /-opt1-/(show reason.isNone = false by cases reason with | none => cases hi1 | some r => rfl))) pa_n)) (by exact Nat.le_of_ble_eq_true rfl) (by first | exact exto_rt0 (xc := Exn.xd c) (e0 := (Exn.BadBag x1.1 (reason.getD ""))) | exact exto_rv0 (xc := Exn.xd c) (e0 := (Exn.BadBag x1.1 (reason.getD ""))) | exact exto_ou0 (xc := Exn.xd c) (e0 := (Exn.BadBag x1.1 (reason.getD ""))) | exact exto_xt (xc := Exn.xd c) (e0 := (Exn.BadBag x1.1 (reason.getD ""))))
      · -- if1f
        have hfx := amissx_fine (s := s1.2) (d := x1.2) (by rw [← hreason]; cases reason with | none => rfl | some r => cases hi1)
        have hbr := hfx.1
        have hf := hfx.2
        refine bo_re (i := 7) hbr ?_
        show Bo _ _ _ [some ((netD c) net), some ((lstE letterD) letters), some ((lstE (fun x : D => x)) plan), some ((optE D.int) turn), some (D.adr p_walk), some ((optE (lstE (fun x : Sp => (spD c x)))) s1.1), some (D.int x1.1), some (D.tup [(D.int ((toBag x1.2).1)), (D.int ((toBag x1.2).2.1)), ((tlE D.int) ((toBag x1.2).2.2))]), some ((optE D.str) reason)] [ownI K p_walk c.Walk [("net", ((netD c) s1.2.1)), ("posted", ((lstE letterD) s1.2.2.1)), ("stood", .adr q_walk_stood), ("last", ((optE (fun x : Int × Int => D.tup [(D.int x.1), (D.int x.2)])) s1.2.2.2.2))], ownL K q_walk_stood (s1.2.2.2.1.map (fun x : Sp => (spD c x)))] _ _
        refine bo_ifS (fun j2 : Option (List Sp) => [some ((netD c) net), some ((lstE letterD) letters), some ((lstE (fun x : D => x)) plan), some ((optE D.int) turn), some (D.adr p_walk), some ((optE (lstE (fun x : Sp => (spD c x)))) j2), some (D.int x1.1), some (D.tup [(D.int ((toBag x1.2).1)), (D.int ((toBag x1.2).2.1)), ((tlE D.int) ((toBag x1.2).2.2))]), some ((optE D.str) reason)]) (fun j2 : Option (List Sp) => [ownI K p_walk c.Walk [("net", ((netD c) s1.2.1)), ("posted", ((lstE letterD) s1.2.2.1)), ("stood", .adr q_walk_stood), ("last", ((optE (fun x : Int × Int => D.tup [(D.int x.1), (D.int x.2)])) s1.2.2.2.2))], ownL K q_walk_stood (s1.2.2.2.1.map (fun x : Sp => (spD c x)))]) (ts_w (tw_and (ts_cmp op_isN (px_var (pv 5) rfl) px_non (o_isNo (fun _ => rfl))) fun hb2 => (tw_and (ts_cmp op_notN (px_var (pv 3) rfl) px_non (o_notNo (fun _ => rfl))) fun hb1 => (tw_and1 (ts_cmp op_gt (px_ix ix_tup (px_var (pv 7) rfl) px_int (o_ixT (d := (D.int ((toBag x1.2).1))) rfl)) (Px.to (px_var (pv 3) rfl) (optE_get (x0 := 0) /-opt2-/(by cases turn with | none => cases hb1 | some r => rfl))) o_gt))))) (fun hi2 => ?_) (fun hi2 => ?_) (fun j2 hj2 => ?_)
        · -- if2t
          refine bo_set (optE (lstE (fun x : Sp => (spD c x)))) nd (i := 5) rfl (.inl rfl) (Px.to (px_listOf (px_fldO (px_var (pv 4) rfl) (k := 0) rfl T.c_Walk.cl T.n_Walk_stood (look_tl (look_tl look_hd))) (.o (k := 1) rfl) T.z_list) (rfl : _ = ((optE (lstE (fun x : Sp => (spD c x)))) (some s1.2.2.2.1)))) (fun kept_2 hkept_2 => ?_)
          exact bo_nx (.keep (.keep (.keep (.keep (.keep (.keep (.keep (.keep (.keep .nil))))))))) rfl
        · -- if2f
          exact bo_nx (.keep (.keep (.keep (.keep (.keep (.keep (.keep (.keep (.keep .nil))))))))) rfl
        -- if2j
        refine bo_doO (dd := fun (i : Unit) (r : ((List Str × List Road) × List Letter × List Sp × (Option (Int × Int)))) => (.non : D)) (ll := fun (i : Unit) (r : ((List Str × List Road) × List Letter × List Sp × (Option (Int × Int)))) => ([ownI K p_walk c.Walk [("net", ((netD c) r.1)), ("posted", ((lstE letterD) r.2.1)), ("stood", .adr q_walk_stood), ("last", ((optE (fun x : Int × Int => D.tup [(D.int x.1), (D.int x.2)])) r.2.2.2))], ownL K q_walk_stood (r.2.2.1.map (fun x : Sp => (spD c x)))] : List Res)) (ev_methO (lr := []) (g_Walk_send T) hr (by decide) (s1.2, p_walk, q_walk_stood, (toBag x1.2)) /-ok_send_1-/(⟨hf.r, fun x hx => by rw [hj1.w.l]; exact hf.n x hx⟩) (.refl _) (px_var (pv 4) rfl) (k0 := 0) rfl (look_tl (look_tl (look_tl (look_tl look_nil)))) (pa_c (px_var (pv 7) rfl) pa_n) rfl) (fun jwalk_2 walk_2 hwalk_2 => ?_)
        clear jwalk_2
        show Bo _ _ _ [some ((netD c) net), some ((lstE letterD) letters), some ((lstE (fun x : D => x)) plan), some ((optE D.int) turn), some (D.adr p_walk), some ((optE (lstE (fun x : Sp => (spD c x)))) j2), some (D.int x1.1), some (D.tup [(D.int ((toBag x1.2).1)), (D.int ((toBag x1.2).2.1)), ((tlE D.int) ((toBag x1.2).2.2))]), some ((optE D.str) reason)] [ownI K p_walk c.Walk [("net", ((netD c) walk_2.1)), ("posted", ((lstE letterD) walk_2.2.1)), ("stood", .adr q_walk_stood), ("last", ((optE (fun x : Int × Int => D.tup [(D.int x.1), (D.int x.2)])) walk_2.2.2.2))], ownL K q_walk_stood (walk_2.2.2.1.map (fun x : Sp => (spD c x)))] _ _
        exact bo_nxO (.keep (.keep (.keep (.keep (.keep (.keep (.any (.any (.any .nil))))))))) rfl
    -- behind for1
    refine bo_ifS (fun j3 : Option (List Sp) => [some ((netD c) net), some ((lstE letterD) letters), some ((lstE (fun x : D => x)) plan), some ((optE D.int) turn), none, some ((optE (lstE (fun x : Sp => (spD c x)))) j3), none, none, none]) (fun j3 : Option (List Sp) => []) (ts_cmp op_isN (px_var (pv 5) rfl) px_non (o_isNo (fun _ => rfl))) (fun hi3 => ?_) (fun hi3 => ?_) (fun j3 hj3 => ?_)
    · -- if3t
      refine blk_set nd (i := 5) rfl (.inl rfl) (px_fldO (px_var (pv 4) rfl) (k := 0) rfl T.c_Walk.cl T.n_Walk_stood (look_tl (look_tl look_hd))) ?_
      refine bo_frz (i := 5) (kk := 1) rfl rfl ?_
      show Bo _ _ _ [some ((netD c) net), some ((lstE letterD) letters), some ((lstE (fun x : D => x)) plan), some ((optE D.int) turn), some (D.adr p_walk), some ((optE (lstE (fun x : Sp => (spD c x)))) (some s1.2.2.2.1)), none, none, none] [ownI K p_walk c.Walk [("net", ((netD c) s1.2.1)), ("posted", ((lstE letterD) s1.2.2.1)), ("stood", .adr q_walk_stood), ("last", ((optE (fun x : Int × Int => D.tup [(D.int x.1), (D.int x.2)])) s1.2.2.2.2))]] _ _
      refine bo_dropN 1 ?_
      exact bo_nx (.keep (.keep (.keep (.keep (.any (.keep (.any (.any (.any .nil))))))))) rfl
    · -- if3f
      refine bo_dropN 2 ?_
      exact bo_nx (.keep (.keep (.keep (.keep (.any (.keep (.any (.any (.any .nil))))))))) rfl
    -- if3j
    refine bo_ok ?_
    exact bo_ret (Px.to (px_var (pv 5) rfl) (optE_get (x0 := []) /-opt3-/(by rw [hj3]; cases s1.1 <;> rfl)))

theorem g_arrivals_x (T : Top K mg c) : GloX P w K mg base 7 "arrivals" ["net", "letters", "plan"] (SpX K (fun a : (List Str × List Road) × List Letter × List D => (fun (net : List Str × List Road) (letters : List Letter) (plan : List D) => letters.length ≤ 10000 ∧ ∀ b ∈ plan, OkThing b) a.1 a.2.1 a.2.2) (fun a => [((netD c) a.1), ((lstE letterD) a.2.1), ((lstE (fun x : D => x)) a.2.2)]) (fun _ => []) (fun _ => FrR K (optE D.int)) (fun a => arrivals_x_m a.1 a.2.1 a.2.2) (Exn.xd c)) :=
  glox_of T.d_arrivals (fun _ _ _ _ _ _ us hl => match us, hl with | [_, _, _], _ => rfl) fun f fd F => fn_okX F cs_arrivals (fun _ => rfl) fun cdv A outer s H E a hr hok => by
    have nd := cs_arrivals.nd
    obtain ⟨net, letters, plan⟩ := a
    have hok : letters.length ≤ 10000 ∧ ∀ b ∈ plan, OkThing b := hok
    refine Blk.imp (show Bo _ _ _ [some ((netD c) net), some ((lstE letterD) letters), some ((lstE (fun x : D => x)) plan), none, none, none] _ (Rt (XR K [] (FrR K (optE D.int)) (Exn.xd c))) (arrivals_x_m net letters plan) from ?_) (fun _ _ h => h.elim) (fun _ _ h => h) (fun _ _ h => h.elim) (fun _ _ h => h.elim) (fun _ _ _ _ h => xr_ex (fun _ _ _ _ _ h => h) h)
    unfold arrivals_x_m
    refine bo_setL (optE D.int) nd (i := 3) rfl (.inl rfl) (ev_lst pa_n) (fun q found hfound => ?_)
    refine bo_xb (fun v1 hv1 => ?_) (fun e1 he1 => ?_)
    · refine bo_for (is := [4, 5]) (fun x : Letter × Sp => D.tup [(letterD x.1), (spD c x.2)]) (fun s1 : List (Option Int) => [some ((netD c) net), some ((lstE letterD) letters), some ((lstE (fun x : D => x)) plan), some (D.adr q), none, none]) (fun s1 : List (Option Int) => [ownL K q (s1.map (optE D.int))]) (fun i s => s.length = i) (passes_of rfl) rfl (Itw.to (it_zip (px_var (pv 1) rfl) (Px.to (px_callOk (g_stops_at_x T) hr (by decide) (net, letters, plan, none) /-ok_stops_at_1-/(hok) hv1 (pa_c (px_var (pv 0) rfl) (pa_c (px_var (pv 1) rfl) (pa_c (px_var (pv 2) rfl) (pa_c (Px.to px_non (rfl : _ = ((optE D.int) none))) pa_n))))) (rfl : _ = D.lst (v1.map (fun x : Sp => (spD c x))))) T.z_zip) zip_map) (pg_tup rfl (pgs_cons (pg_name (i := 4) nd rfl (.inl rfl)) (pgs_cons (pg_name (i := 5) nd rfl (.inl rfl)) pgs_nil))) (.keep (.keep (.keep (.keep (.any (.any .nil)))))) rfl (by rw [hfound]; rfl) (fun i1 x1 s1 hx1 hp1 hj1 => ?_) (fun s1 hs1 hj1e => ?_)
      · -- for1
        have hx11 := (zip_get hx1).1
        have hx12 := (zip_get hx1).2
        have hll := hok.1
        have hil : i1 < letters.length := (List.getElem?_eq_some_iff.mp hx11).1
        refine ⟨(arr_js hj1), _, tg_tup rfl rfl, ?_⟩
        refine bo_if (ts_w (tw_and (ts_val (px_isOn T (px_var (pv 5) rfl))) fun hb1 => (tw_and1 (ts_cmp op_eq (px_ix ix_tup (px_meth (g_Net_road T) hr (by decide) (net, x1.2.r) /-ok_road_1-/(sx_rng hv1 _ (List.mem_of_getElem? hx12) (by assumption)) (px_var (pv 0) rfl) (look_none (by decide +kernel) (by decide +kernel)) (pa_c (px_sp_r T (px_var (pv 5) rfl) /-sp_by1-/(by assumption)) pa_n) rfl) px_int (o_ixT (d := (D.str ((Net_road_m net x1.2.r).2.1))) rfl)) (px_ix ix_tup (px_var (pv 4) rfl) px_int (o_ixT (d := (D.str x1.1.2.2)) rfl)) o_eqS)))) (fun hi1 => ?_) (fun hi1 => ?_)
        · -- if1t
          have hon : x1.2.isOn = true := (Bool.and_eq_true_iff.mp hi1).1
          refine bo_app (kk := 0) (optE D.int) (px_var (pv 3) rfl) rfl (Px.to (px_sp_due T (px_var (pv 5) rfl) /-sp_due2-/(hon)) (rfl : _ = ((optE D.int) (some x1.2.t)))) /-app1-/(by omega) (fun found_2 hfound_2 => ?_)
          exact bo_nx (.keep (.keep (.keep (.keep (.any (.any .nil)))))) rfl
        · -- if1f
          refine bo_app (kk := 0) (optE D.int) (px_var (pv 3) rfl) rfl (Px.to px_non (rfl : _ = ((optE D.int) none))) /-app2-/(by omega) (fun found_3 hfound_3 => ?_)
          exact bo_nx (.keep (.keep (.keep (.keep (.any (.any .nil)))))) rfl
      -- behind for1
      refine bo_ok ?_
      exact bo_retW (kk := 0) (px_var (pv 3) rfl) rfl
    · exact bo_xforZ (passes_of rfl) rfl (pg_tup rfl (pgs_cons (pg_name (i := 4) nd rfl (.inl rfl)) (pgs_cons (pg_name (i := 5) nd rfl (.inl rfl)) pgs_nil))) T.z_zip (xa_t (px_var (pv 1) rfl) (xa_h (exr_call takes_cx (g_stops_at_x T) hr (by decide) (net, letters, plan, none) /-ok_stops_at_1-/(hok) he1 (pa_c (px_var (pv 0) rfl) (pa_c (px_var (pv 1) rfl) (pa_c (px_var (pv 2) rfl) (pa_c (Px.to px_non (rfl : _ = ((optE D.int) none))) pa_n))))))) (by first | exact exto_rt0 (xc := Exn.xd c) (e0 := e1) | exact exto_rv0 (xc := Exn.xd c) (e0 := e1) | exact exto_ou0 (xc := Exn.xd c) (e0 := e1) | exact exto_xt (xc := Exn.xd c) (e0 := e1))

theorem g_spots_at_x (T : Top K mg c) : GloX P w K mg base 7 "spots_at" ["net", "letters", "plan", "turn"] (SpX K (fun a : (List Str × List Road) × List Letter × List D × Int => (fun (net : List Str × List Road) (letters : List Letter) (plan : List D) (turn : Int) => letters.length ≤ 10000 ∧ ∀ b ∈ plan, OkThing b) a.1 a.2.1 a.2.2.1 a.2.2.2) (fun a => [((netD c) a.1), ((lstE letterD) a.2.1), ((lstE (fun x : D => x)) a.2.2.1), (D.int a.2.2.2)]) (fun _ => []) (fun _ => FrR K (fun x : Sp => (spD c x))) (fun a => spots_at_x_m a.1 a.2.1 a.2.2.1 a.2.2.2) (Exn.xd c)) :=
  glox_of T.d_spots_at (fun _ _ _ _ _ _ us hl => match us, hl with | [_, _, _, _], _ => rfl) fun f fd F => fn_okX F cs_spots_at (fun _ => rfl) fun cdv A outer s H E a hr hok => by
    have nd := cs_spots_at.nd
    obtain ⟨net, letters, plan, turn⟩ := a
    have hok : letters.length ≤ 10000 ∧ ∀ b ∈ plan, OkThing b := hok
    refine Blk.imp (show Bo _ _ _ [some ((netD c) net), some ((lstE letterD) letters), some ((lstE (fun x : D => x)) plan), some (D.int turn), none, none, none] _ (Rt (XR K [] (FrR K (fun x : Sp => (spD c x))) (Exn.xd c))) (spots_at_x_m net letters plan turn) from ?_) (fun _ _ h => h.elim) (fun _ _ h => h) (fun _ _ h => h.elim) (fun _ _ h => h.elim) (fun _ _ _ _ h => xr_ex (fun _ _ _ _ _ h => h) h)
    unfold spots_at_x_m
    refine bo_xb (fun v1 hv1 => ?_) (fun e1 he1 => ?_)
    · refine bo_set (lstE (fun x : Sp => (spD c x))) nd (i := 4) rfl (.inl rfl) (px_callOk (g_stops_at_x T) hr (by decide) (net, letters, plan, (some turn)) /-ok_stops_at_1-/(hok) hv1 (pa_c (px_var (pv 0) rfl) (pa_c (px_var (pv 1) rfl) (pa_c (px_var (pv 2) rfl) (pa_c (Px.to (px_var (pv 3) rfl) (rfl : _ = ((optE D.int) (some turn)))) pa_n))))) (fun left hleft => ?_)
      refine bo_ok ?_
      exact bo_retL (ev_lcM (own := [("letter", 5), ("spot", 6)]) (gt := gTup K 2 (gCons (gName 5) (gCons (gName 6) gNil))) (is := [5, 6]) (fun x : Letter × Sp => D.tup [(letterD x.1), (spD c x.2)]) (fun x : Sp => (spD c x)) (fun z1 : Letter × Sp => (later_m net z1.1 z1.2 turn)) rfl nd (Itw.to (it_zip (px_var (pv 1) rfl) (px_var (pv 4) rfl) T.z_zip) zip_map) (blkOk_by (N := ns_spots_at) (sc := defScope s_spots_at) (by decide +kernel)) (fun _ _ _ _ _ => (pg_tup rfl (pgs_cons (pg_name (i := 5) nd rfl (.inl rfl)) (pgs_cons (pg_name (i := 6) nd rfl (.inl rfl)) pgs_nil)))) (by decide) /-csz1-/(by rw [List.length_zip]; have := hok.1; omega) (fun i z1 hz1 => by
        have hz11 := (zip_get hz1).1
        have hz12 := (zip_get hz1).2
        exact ⟨_, tg_tup rfl rfl, fun _ _ _ _ _ => (px_call (g_later T) hr (by decide) (net, z1.1, z1.2, turn) /-ok_later_1-/(fun h => sx_rng hv1 _ (hleft ▸ List.mem_of_getElem? hz12) h) (pa_c (px_var (pv 0) rfl) (pa_c (px_var (pv 5) rfl) (pa_c (px_var (pv 6) rfl) (pa_c (px_var (pv 3) rfl) pa_n)))))⟩))
    · exact bo_xset nd (i := 4) rfl (.inl rfl) (exr_call takes_cx (g_stops_at_x T) hr (by decide) (net, letters, plan, (some turn)) /-ok_stops_at_1-/(hok) he1 (pa_c (px_var (pv 0) rfl) (pa_c (px_var (pv 1) rfl) (pa_c (px_var (pv 2) rfl) (pa_c (Px.to (px_var (pv 3) rfl) (rfl : _ = ((optE D.int) (some turn)))) pa_n))))) (by first | exact exto_rt0 (xc := Exn.xd c) (e0 := e1) | exact exto_rv0 (xc := Exn.xd c) (e0 := e1) | exact exto_ou0 (xc := Exn.xd c) (e0 := e1) | exact exto_xt (xc := Exn.xd c) (e0 := e1))


end

end Lw
set_option Elab.async false
set_option linter.all false
set_option maxRecDepth 100000
set_option maxHeartbeats 4000000
namespace Lw
open PySem L2 Sx
section
variable {P : Program} {w : World} {K : PySem.W.Frag} {mg : Str → Option Value} {base : Heap} {c : Cs}
theorem g_law_whole (T : Top K mg c) : Glo P w K mg base 1 "_law_whole" ["_law_thing"] (Pu K (fun a : D => (fun (thing : D) => Any thing) a) (fun a => [a]) (fun a => (D.bl (law_whole_m a)))) :=
  glo_of T.d_law_whole (fun _ _ _ _ _ _ us hl => match us, hl with | [_], _ => rfl) fun f fd F => fn_ok F cs_law_whole (fun _ => rfl) fun cdv A outer s H E a hr hok => by
    have nd := cs_law_whole.nd
    revert hok; revert a; intro thing hok
    have hok : Any thing := hok
    refine Blk.imp (show Bo _ _ _ [some thing] _ (Rt (PuR D.bl)) (law_whole_m thing) from ?_) (fun _ _ h => h.elim) (fun _ _ h => h) (fun _ _ h => h.elim) (fun _ _ h => h.elim) (fun _ _ _ _ h => h.elim)
    unfold law_whole_m
    exact bo_ret (px_and (px_isAny .int T.z_isinstance T.z_int (px_var (pv 0) rfl) /-any1-/(hok)) fun hb1 => (px_one (px_not (px_isAny .bool T.z_isinstance T.z_bool (px_var (pv 0) rfl) /-any2-/(hok)))))

theorem g_law_is_bag (T : Top K mg c) : Glo P w K mg base 2 "_law_is_bag" ["_law_bag"] (Pu K (fun a : D => (fun (bag : D) => OkThing bag) a) (fun a => [a]) (fun a => (D.bl (law_is_bag_m a)))) :=
  glo_of T.d_law_is_bag (fun _ _ _ _ _ _ us hl => match us, hl with | [_], _ => rfl) fun f fd F => fn_ok F cs_law_is_bag (fun _ => rfl) fun cdv A outer s H E a hr hok => by
    have nd := cs_law_is_bag.nd
    revert hok; revert a; intro bag hok
    have hok : OkThing bag := hok
    have ha := hok.a
    refine Blk.imp (show Bo _ _ _ [some bag, none] _ (Rt (PuR D.bl)) (law_is_bag_m bag) from ?_) (fun _ _ h => h.elim) (fun _ _ h => h) (fun _ _ h => h.elim) (fun _ _ h => h.elim) (fun _ _ _ _ h => h.elim)
    unfold law_is_bag_m
    refine bo_ifR (ts_w (tw_or (ts_not (ts_val (px_isAny .tuple T.z_isinstance T.z_tuple (px_var (pv 0) rfl) /-any1-/(by first | exact ha | exact ixD_any hok (len_of2 (by assumption) (by decide)) | exact Dp'.mono tl_ints (by decide))))) fun hb3 => (tw_or (ts_cmp op_ne (px_lenAny T.z_len (px_var (pv 0) rfl) /-seq1-/(D.seq_tup (by assumption))) px_int o_neI) fun hb2 => (tw_or (ts_not (ts_val (px_isAny .tuple T.z_isinstance T.z_tuple (px_ixAny (i := 2) (px_var (pv 0) rfl) px_int /-ixa1-/(by first | omega | exact len_of2 (by assumption) (by decide))) /-any2-/(by first | exact ha | exact ixD_any hok (len_of2 (by assumption) (by decide)) | exact Dp'.mono tl_ints (by decide))))) fun hb1 => (tw_or1 (ts_cmp (op_eqD hr.units) (px_ixAny (i := 2) (px_var (pv 0) rfl) px_int /-ixa2-/(by first | omega | exact len_of2 (by assumption) (by decide))) (Px.to (px_tup pa_n) (rfl : _ = tlE D.int [])) (o_eqAny /-any3-/(by first | exact ha | exact ixD_any hok (len_of2 (by assumption) (by decide)) | exact Dp'.mono tl_ints (by decide)) /-any4-/(by first | exact ha | exact ixD_any hok (len_of2 (by assumption) (by decide)) | exact Dp'.mono tl_ints (by decide))))))))) (fun hi1 => ?_) (fun hi1 => ?_)
    · -- if1t
      exact bo_ret px_bl
    · -- if1f
      obtain ⟨h3, h2⟩ := tup_of4 hi1
      exact bo_ret (px_and (px_call (g_law_whole T) hr (by decide) (bag.ix 0) /-ok_whole_1-/(by first | exact ixD_any hok (by omega) | exact seq_any (ixD_any hok (by omega)) _ hz1m) (pa_c (px_ixAny (i := 0) (px_var (pv 0) rfl) px_int /-ixa3-/(by first | omega | exact len_of2 (by assumption) (by decide))) pa_n)) fun hb5 => (px_and (px_call (g_law_whole T) hr (by decide) (bag.ix 1) /-ok_whole_2-/(by first | exact ixD_any hok (by omega) | exact seq_any (ixD_any hok (by omega)) _ hz1m) (pa_c (px_ixAny (i := 1) (px_var (pv 0) rfl) px_int /-ixa4-/(by first | omega | exact len_of2 (by assumption) (by decide))) pa_n)) fun hb4 => (px_one (px_bi (cr_all rfl) T.z_all (pa_c (px_lcM (own := [("_law_n", 1)]) (is := [1]) (fun x : D => x) D.bl (fun z1 : D => (law_whole_m z1)) rfl nd (it_any (px_ixAny (i := 2) (px_var (pv 0) rfl) px_int /-ixa5-/(by first | omega | exact len_of2 (by assumption) (by decide))) /-seq2-/(D.seq_tup' h2)) (blkOk_by (N := ns_law_is_bag) (sc := defScope s_law_is_bag) (by decide +kernel)) (fun _ _ _ _ _ => (pg_name (i := 1) nd rfl (.inl rfl))) (by decide) /-csz1-/(hok.len) (fun i z1 hz1 => by
        have hz1m := List.mem_of_getElem? hz1
        have hz1l := (List.getElem?_eq_some_iff.mp hz1).1
        exact ⟨_, tg_name, fun _ _ _ _ _ => (px_call (g_law_whole T) hr (by decide) z1 /-ok_whole_3-/(by first | exact ixD_any hok (by omega) | exact seq_any (ixD_any hok (by omega)) _ hz1m) (pa_c (px_var (pv 1) rfl) pa_n))⟩)) pa_n) (o_all .f)))))

theorem g_law_lies (T : Top K mg c) : Glo P w K mg base 1 "_law_lies" ["_law_letters", "_law_lines", "_law_ahead", "_law_number", "_law_house", "_law_turn"] (Pu K (fun a : List Letter × List Road × (List (Int × Int × List Int)) × Int × Str × Int => (fun (letters : List Letter) (lines : List Road) (ahead : List (Int × Int × List Int)) (number : Int) (house : Str) (turn : Int) => (0 ≤ number ∧ number < (letters.length : Int)) ∧ ∀ b ∈ ahead, 0 ≤ b.2.1 ∧ b.2.1 < (lines.length : Int)) a.1 a.2.1 a.2.2.1 a.2.2.2.1 a.2.2.2.2.1 a.2.2.2.2.2) (fun a => [((lstE letterD) a.1), ((lstE roadD) a.2.1), ((lstE (fun x : Int × Int × List Int => D.tup [(D.int x.1), (D.int x.2.1), ((tlE D.int) x.2.2)])) a.2.2.1), (D.int a.2.2.2.1), (D.str a.2.2.2.2.1), (D.int a.2.2.2.2.2)]) (fun a => (D.bl (law_lies_m a.1 a.2.1 a.2.2.1 a.2.2.2.1 a.2.2.2.2.1 a.2.2.2.2.2)))) :=
  glo_of T.d_law_lies (fun _ _ _ _ _ _ us hl => match us, hl with | [_, _, _, _, _, _], _ => rfl) fun f fd F => fn_ok F cs_law_lies (fun _ => rfl) fun cdv A outer s H E a hr hok => by
    have nd := cs_law_lies.nd
    obtain ⟨letters, lines, ahead, number, house, turn⟩ := a
    have hok : (0 ≤ number ∧ number < (letters.length : Int)) ∧ ∀ b ∈ ahead, 0 ≤ b.2.1 ∧ b.2.1 < (lines.length : Int) := hok
    refine Blk.imp (show Bo _ _ _ [some ((lstE letterD) letters), some ((lstE roadD) lines), some ((lstE (fun x : Int × Int × List Int => D.tup [(D.int x.1), (D.int x.2.1), ((tlE D.int) x.2.2)])) ahead), some (D.int number), some (D.str house), some (D.int turn), none, none, none, none, none] _ (Rt (PuR D.bl)) (law_lies_m letters lines ahead number house turn) from ?_) (fun _ _ h => h.elim) (fun _ _ h => h) (fun _ _ h => h.elim) (fun _ _ h => h.elim) (fun _ _ _ _ h => h.elim)
    unfold law_lies_m
    refine bo_set letterD nd (i := 6) rfl (.inl rfl) (px_ix ix_list (px_var (pv 0) rfl) (px_var (pv 3) rfl) (o_ixM letterD (x0 := ("", 0, "")) .f /-lo1-/(hok.1.1) /-hi1-/(hok.1.2))) (fun letter hletter => ?_)
    refine bo_set (fun x : Str × Int => D.lst [(D.str x.1), (D.int x.2)]) nd (i := 7) rfl (.inl rfl) (px_lst (pa_c (px_ix ix_tup (px_var (pv 6) rfl) px_int (o_ixT (d := (D.str letter.1)) rfl)) (pa_c (px_ix ix_tup (px_var (pv 6) rfl) px_int (o_ixT (d := (D.int letter.2.1)) rfl)) pa_n))) (fun here hhere => ?_)
    refine bo_forV (is := [8, 9, 10]) (fun x : Int × Int × List Int => D.tup [(D.int x.1), (D.int x.2.1), ((tlE D.int) x.2.2)]) (fun s1 : (Str × Int) => [some ((lstE letterD) letters), some ((lstE roadD) lines), some ((lstE (fun x : Int × Int × List Int => D.tup [(D.int x.1), (D.int x.2.1), ((tlE D.int) x.2.2)])) ahead), some (D.int number), some (D.str house), some (D.int turn), some (letterD letter), some (D.lst [(D.str s1.1), (D.int s1.2)]), none, none, none]) (fun s1 : (Str × Int) => []) (fun _ _ => True) (fun _ => True) PassesOwn.never rfl (it_list (px_var (pv 2) rfl)) (pg_tup rfl (pgs_cons (pg_name (i := 8) nd rfl (.inl rfl)) (pgs_cons (pg_name (i := 9) nd rfl (.inl rfl)) (pgs_cons (pg_name (i := 10) nd rfl (.inl rfl)) pgs_nil)))) (.keep (.keep (.keep (.keep (.keep (.keep (.keep (.keep (.any (.any (.any .nil))))))))))) rfl trivial (fun i1 x1 s1 hx1 hp1 hj1 => ?_) (fun _ _ => trivial) (fun s1 hs1 hj1e => ?_)
    · -- for1
      have hx1m := List.mem_of_getElem? hx1
      have hx1l := (List.getElem?_eq_some_iff.mp hx1).1
      refine ⟨⟨fun _ _ => trivial, fun _ _ => trivial, fun _ _ => trivial⟩, _, tg_tup rfl rfl, ?_⟩
      refine bo_if (ts_cmp op_in_seq (px_var (pv 3) rfl) (px_var (pv 10) rfl) (o_inI (.inr rfl))) (fun hi1 => ?_) (fun hi1 => ?_)
      · -- if1t
        refine bo_set (fun x : Str × Int => D.lst [(D.str x.1), (D.int x.2)]) nd (i := 7) rfl (.inl rfl) (px_lst (pa_c (px_ix ix_tup (px_ix ix_list (px_var (pv 1) rfl) (px_var (pv 9) rfl) (o_ixM roadD (x0 := ("", "", 0, 0)) .f /-lo2-/((hok.2 _ hx1m).1) /-hi2-/((hok.2 _ hx1m).2))) px_int (o_ixT (d := (D.str ((lines.getD (x1.2.1).toNat ("", "", 0, 0)).2.1))) rfl)) (pa_c (px_op op_add (px_var (pv 8) rfl) (px_ix ix_tup (px_ix ix_list (px_var (pv 1) rfl) (px_var (pv 9) rfl) (o_ixM roadD (x0 := ("", "", 0, 0)) .f /-lo3-/((hok.2 _ hx1m).1) /-hi3-/((hok.2 _ hx1m).2))) px_int (o_ixT (d := (D.int ((lines.getD (x1.2.1).toNat ("", "", 0, 0)).2.2.1))) rfl)) o_add) pa_n))) (fun here_2 hhere_2 => ?_)
        refine bo_if (ts_cmp op_eq (px_ix ix_list (px_var (pv 7) rfl) px_int (o_ixL (d := (D.str here_2.1)) rfl)) (px_ix ix_tup (px_var (pv 6) rfl) px_int (o_ixT (d := (D.str letter.2.2)) rfl)) o_eqS) (fun hi2 => ?_) (fun hi2 => ?_)
        · -- if2t
          exact bo_retO px_bl
        · -- if2f
          exact bo_nxO (.keep (.keep (.keep (.keep (.keep (.keep (.keep (.keep (.any (.any (.any .nil))))))))))) rfl
      · -- if1f
        exact bo_nxO (.keep (.keep (.keep (.keep (.keep (.keep (.keep (.keep (.any (.any (.any .nil))))))))))) rfl
    -- behind for1
    exact bo_ret (px_and (px_cmp op_eq (px_ix ix_list (px_var (pv 7) rfl) px_int (o_ixL (d := (D.str s1.1)) rfl)) (px_var (pv 4) rfl) o_eqS) fun hb1 => (px_one (px_cmp op_le (px_ix ix_list (px_var (pv 7) rfl) px_int (o_ixL (d := (D.int s1.2)) rfl)) (px_var (pv 5) rfl) o_le)))

theorem g_law_reason (T : Top K mg c) : Glo P w K mg base 3 "_law_reason" ["_law_letters", "_law_lines", "_law_ahead", "_law_bag"] (Pu K (fun a : List Letter × List Road × (List (Int × Int × List Int)) × D => (fun (letters : List Letter) (lines : List Road) (ahead : List (Int × Int × List Int)) (bag : D) => OkRs lines ahead bag) a.1 a.2.1 a.2.2.1 a.2.2.2) (fun a => [((lstE letterD) a.1), ((lstE roadD) a.2.1), ((lstE (fun x : Int × Int × List Int => D.tup [(D.int x.1), (D.int x.2.1), ((tlE D.int) x.2.2)])) a.2.2.1), a.2.2.2]) (fun a => (D.str (law_reason_m a.1 a.2.1 a.2.2.1 a.2.2.2)))) :=
  glo_of T.d_law_reason (fun _ _ _ _ _ _ us hl => match us, hl with | [_, _, _, _], _ => rfl) fun f fd F => fn_ok F cs_law_reason (fun _ => rfl) fun cdv A outer s H E a hr hok => by
    have nd := cs_law_reason.nd
    obtain ⟨letters, lines, ahead, bag⟩ := a
    have hok : OkRs lines ahead bag := hok
    refine Blk.imp (show Bo _ _ _ [some ((lstE letterD) letters), some ((lstE roadD) lines), some ((lstE (fun x : Int × Int × List Int => D.tup [(D.int x.1), (D.int x.2.1), ((tlE D.int) x.2.2)])) ahead), some bag, none, none, none, none, none, none] _ (Rt (PuR D.str)) (law_reason_m letters lines ahead bag) from ?_) (fun _ _ h => h.elim) (fun _ _ h => h) (fun _ _ h => h.elim) (fun _ _ h => h.elim) (fun _ _ _ _ h => h.elim)
    unfold law_reason_m
    refine bo_ifR (ts_not (ts_val (px_call (g_law_is_bag T) hr (by decide) bag /-ok_is_bag_1-/(hok.b) (pa_c (px_var (pv 3) rfl) pa_n)))) (fun hi1 => ?_) (fun hi1 => ?_)
    · -- if1t
      exact bo_ret px_str
    · -- if1f
      refine bo_re (i := 3) (lbag_re hok.b hi1) ?_
      show Bo _ _ _ [some ((lstE letterD) letters), some ((lstE roadD) lines), some ((lstE (fun x : Int × Int × List Int => D.tup [(D.int x.1), (D.int x.2.1), ((tlE D.int) x.2.2)])) ahead), some (D.tup [(D.int ((toBag bag).1)), (D.int ((toBag bag).2.1)), ((tlE D.int) ((toBag bag).2.2))]), none, none, none, none, none, none] [] _ _
      refine bo_asg (is := [4, 5, 6]) (px_var (pv 3) rfl) (pg_tup rfl (pgs_cons (pg_name (i := 4) nd rfl (.inl rfl)) (pgs_cons (pg_name (i := 5) nd rfl (.inl rfl)) (pgs_cons (pg_name (i := 6) nd rfl (.inl rfl)) pgs_nil)))) (tg_tup rfl rfl) ?_
      refine bo_forV (is := [7]) (fun x : Int × Int × List Int => D.tup [(D.int x.1), (D.int x.2.1), ((tlE D.int) x.2.2)]) (fun s1 : Unit => [some ((lstE letterD) letters), some ((lstE roadD) lines), some ((lstE (fun x : Int × Int × List Int => D.tup [(D.int x.1), (D.int x.2.1), ((tlE D.int) x.2.2)])) ahead), some (D.tup [(D.int ((toBag bag).1)), (D.int ((toBag bag).2.1)), ((tlE D.int) ((toBag bag).2.2))]), some (D.int ((toBag bag).1)), some (D.int ((toBag bag).2.1)), some ((tlE D.int) ((toBag bag).2.2)), none, none, none]) (fun s1 : Unit => []) (fun _ _ => True) (fun _ => True) PassesOwn.never rfl (it_list (px_slM (fun x : Int × Int × List Int => D.tup [(D.int x.1), (D.int x.2.1), ((tlE D.int) x.2.2)]) (px_var (pv 2) rfl) .f (pz_s (px_un un_neg px_int o_neg)) pz_n)) (pg_name (i := 7) nd rfl (.inl rfl)) (.keep (.keep (.keep (.keep (.keep (.keep (.keep (.any (.any (.any .nil)))))))))) rfl trivial (fun i1 x1 s1 hx1 hp1 hj1 => ?_) (fun _ _ => trivial) (fun s1 hs1 hj1e => ?_)
      · -- for1
        have hx1m := List.mem_of_getElem? hx1
        have hx1l := (List.getElem?_eq_some_iff.mp hx1).1
        refine ⟨⟨fun _ _ => trivial, fun _ _ => trivial, fun _ _ => trivial⟩, _, tg_name, ?_⟩
        refine bo_if (ts_cmp (op_leT (Px.units1 hr.units)) (px_tup (pa_c (px_var (pv 4) rfl) (pa_c (px_var (pv 5) rfl) pa_n))) (px_tup (pa_c (px_ix ix_tup (px_var (pv 7) rfl) px_int (o_ixT (d := (D.int x1.1)) rfl)) (pa_c (px_ix ix_tup (px_var (pv 7) rfl) px_int (o_ixT (d := (D.int x1.2.1)) rfl)) pa_n))) (o_leII (a := ((toBag bag).1, (toBag bag).2.1)) (b := (x1.1, x1.2.1)))) (fun hi2 => ?_) (fun hi2 => ?_)
        · -- if2t
          exact bo_retO px_str
        · -- if2f
          exact bo_nxO (.keep (.keep (.keep (.keep (.keep (.keep (.keep (.any (.any (.any .nil)))))))))) rfl
      -- behind for1
      refine bo_ifR (ts_w (tw_or (ts_cmp op_lt (px_var (pv 5) rfl) px_int o_lt) fun hb1 => (tw_or1 (ts_cmp op_ge (px_var (pv 5) rfl) (px_bi call_len_seq T.z_len (pa_c (px_var (pv 1) rfl) pa_n) (o_lenM .f)) o_ge)))) (fun hi3 => ?_) (fun hi3 => ?_)
      · -- if3t
        exact bo_ret px_str
      · -- if3f
        have hrd := rd_of hi3
        refine bo_ifR (ts_cmp op_gt (px_bi call_len_seq T.z_len (pa_c (px_var (pv 6) rfl) pa_n) (o_lenM .t)) (px_ix ix_tup (px_ix ix_list (px_var (pv 1) rfl) (px_var (pv 5) rfl) (o_ixM roadD (x0 := ("", "", 0, 0)) .f /-lo1-/(hrd.1) /-hi1-/(hrd.2))) px_int (o_ixT (d := (D.int ((lines.getD ((toBag bag).2.1).toNat ("", "", 0, 0)).2.2.2))) rfl)) o_gt) (fun hi4 => ?_) (fun hi4 => ?_)
        · -- if4t
          exact bo_ret px_str
        · -- if4f
          refine bo_forV (is := [8, 9]) (fun x : Int × Int => D.tup [(D.int x.1), (D.int x.2)]) (fun s2 : Unit => [some ((lstE letterD) letters), some ((lstE roadD) lines), some ((lstE (fun x : Int × Int × List Int => D.tup [(D.int x.1), (D.int x.2.1), ((tlE D.int) x.2.2)])) ahead), some (D.tup [(D.int ((toBag bag).1)), (D.int ((toBag bag).2.1)), ((tlE D.int) ((toBag bag).2.2))]), some (D.int ((toBag bag).1)), some (D.int ((toBag bag).2.1)), some ((tlE D.int) ((toBag bag).2.2)), none, none, none]) (fun s2 : Unit => []) (fun _ _ => True) (fun _ => True) PassesOwn.never rfl (Itw.to (it_enumT (px_var (pv 6) rfl) T.z_enumerate) enumI_map) (pg_tup rfl (pgs_cons (pg_name (i := 8) nd rfl (.inl rfl)) (pgs_cons (pg_name (i := 9) nd rfl (.inl rfl)) pgs_nil))) (.keep (.keep (.keep (.keep (.keep (.keep (.keep (.any (.any (.any .nil)))))))))) rfl trivial (fun i2 x2 s2 hx2 hp2 hj2 => ?_) (fun _ _ => trivial) (fun s2 hs2 hj2e => ?_)
          · -- for2
            have hx21 := (enumI_get hx2).1
            have hx22 := (enumI_get hx2).2
            have hx2m := List.mem_of_getElem? hx22
            have hx2l := (List.getElem?_eq_some_iff.mp hx22).1
            have h2m := enumI_get hx2
            refine ⟨⟨fun _ _ => trivial, fun _ _ => trivial, fun _ _ => trivial⟩, _, tg_tup rfl rfl, ?_⟩
            refine bo_if (ts_w (tw_or (ts_cmp op_lt (px_var (pv 9) rfl) px_int o_lt) fun hb4 => (tw_or (ts_cmp op_ge (px_var (pv 9) rfl) (px_bi call_len_seq T.z_len (pa_c (px_var (pv 0) rfl) pa_n) (o_lenM .f)) o_ge) fun hb3 => (tw_or1 (ts_w (tw_and (ts_cmp op_gt (px_var (pv 8) rfl) px_int o_gt) fun hb2 => (tw_and1 (ts_cmp op_ge (px_ix ix_tup (px_var (pv 6) rfl) (px_op op_sub (px_var (pv 8) rfl) px_int o_sub) (o_ixT (atI_map (atI_in /-lo2-/(by have := gt_of (a := 0) (b := x2.1) (by assumption); omega) /-hi2-/(by have h9 := (List.getElem?_eq_some_iff.mp h2m.2).1; have := h2m.1; have := gt_of (a := 0) (b := x2.1) (by assumption); omega))))) (px_var (pv 9) rfl) o_ge)))))))) (fun hi5 => ?_) (fun hi5 => ?_)
            · -- if5t
              exact bo_retO px_str
            · -- if5f
              exact bo_nxO (.keep (.keep (.keep (.keep (.keep (.keep (.keep (.any (.any (.any .nil)))))))))) rfl
          -- behind for2
          have hlr := let_rng hs2
          refine bo_forV (is := [9]) D.int (fun s3 : Unit => [some ((lstE letterD) letters), some ((lstE roadD) lines), some ((lstE (fun x : Int × Int × List Int => D.tup [(D.int x.1), (D.int x.2.1), ((tlE D.int) x.2.2)])) ahead), some (D.tup [(D.int ((toBag bag).1)), (D.int ((toBag bag).2.1)), ((tlE D.int) ((toBag bag).2.2))]), some (D.int ((toBag bag).1)), some (D.int ((toBag bag).2.1)), some ((tlE D.int) ((toBag bag).2.2)), none, none, none]) (fun s3 : Unit => []) (fun _ _ => True) (fun _ => True) PassesOwn.never rfl (it_tup (px_var (pv 6) rfl)) (pg_name (i := 9) nd rfl (.inl rfl)) (.keep (.keep (.keep (.keep (.keep (.keep (.keep (.any (.any (.any .nil)))))))))) rfl trivial (fun i3 x3 s3 hx3 hp3 hj3 => ?_) (fun _ _ => trivial) (fun s3 hs3 hj3e => ?_)
          · -- for3
            have hx3m := List.mem_of_getElem? hx3
            have hx3l := (List.getElem?_eq_some_iff.mp hx3).1
            have hxr := hlr x3 hx3m
            refine ⟨⟨fun _ _ => trivial, fun _ _ => trivial, fun _ _ => trivial⟩, _, tg_name, ?_⟩
            refine bo_if (ts_not (ts_val (px_call (g_law_lies T) hr (by decide) (letters, lines, ahead, x3, (lines.getD ((toBag bag).2.1).toNat ("", "", 0, 0)).1, (toBag bag).1) /-ok_lies_1-/(⟨hxr, hok.r⟩) (pa_c (px_var (pv 0) rfl) (pa_c (px_var (pv 1) rfl) (pa_c (px_var (pv 2) rfl) (pa_c (px_var (pv 9) rfl) (pa_c (px_ix ix_tup (px_ix ix_list (px_var (pv 1) rfl) (px_var (pv 5) rfl) (o_ixM roadD (x0 := ("", "", 0, 0)) .f /-lo3-/(hrd.1) /-hi3-/(hrd.2))) px_int (o_ixT (d := (D.str ((lines.getD ((toBag bag).2.1).toNat ("", "", 0, 0)).1))) rfl)) (pa_c (px_var (pv 4) rfl) pa_n))))))))) (fun hi6 => ?_) (fun hi6 => ?_)
            · -- if6t
              exact bo_retO px_str
            · -- if6f
              exact bo_nxO (.keep (.keep (.keep (.keep (.keep (.keep (.keep (.any (.any (.any .nil)))))))))) rfl
          -- behind for3
          exact bo_ret px_str

theorem g_law_odd (T : Top K mg c) : Glo P w K mg base 1 "_law_odd" ["_law_bag", "_law_letters", "_law_lines", "_law_cell"] (Pu K (fun a : (Int × Int × List Int) × List Letter × List Road × Int => (fun (bag : Int × Int × List Int) (letters : List Letter) (lines : List Road) (cell : Int) => OkOd bag letters lines) a.1 a.2.1 a.2.2.1 a.2.2.2) (fun a => [D.tup [(D.int a.1.1), (D.int a.1.2.1), ((tlE D.int) a.1.2.2)], ((lstE letterD) a.2.1), ((lstE roadD) a.2.2.1), (D.int a.2.2.2)]) (fun a => (law_odd_m a.1 a.2.1 a.2.2.1 a.2.2.2))) :=
  glo_of T.d_law_odd (fun _ _ _ _ _ _ us hl => match us, hl with | [_, _, _, _], _ => rfl) fun f fd F => fn_ok F cs_law_odd (fun _ => rfl) fun cdv A outer s H E a hr hok => by
    have nd := cs_law_odd.nd
    obtain ⟨bag, letters, lines, cell⟩ := a
    have hok : OkOd bag letters lines := hok
    obtain ⟨⟨hr0, hr1⟩, hn0, hz, hl40, ha0, hla, hw0⟩ := hok
    refine Blk.imp (show Bo _ _ _ [some (D.tup [(D.int bag.1), (D.int bag.2.1), ((tlE D.int) bag.2.2)]), some ((lstE letterD) letters), some ((lstE roadD) lines), some (D.int cell), none, none, none, none, none] _ (Rt (PuR (fun x : D => x))) (law_odd_m bag letters lines cell) from ?_) (fun _ _ h => h.elim) (fun _ _ h => h) (fun _ _ h => h.elim) (fun _ _ h => h.elim) (fun _ _ _ _ h => h.elim)
    unfold law_odd_m
    refine bo_asg (is := [4, 5, 6]) (px_var (pv 0) rfl) (pg_tup rfl (pgs_cons (pg_name (i := 4) nd rfl (.inl rfl)) (pgs_cons (pg_name (i := 5) nd rfl (.inl rfl)) (pgs_cons (pg_name (i := 6) nd rfl (.inl rfl)) pgs_nil)))) (tg_tup rfl rfl) ?_
    refine bo_set D.int nd (i := 7) rfl (.inl rfl) (px_op op_mod (px_op op_fdiv (px_var (pv 3) rfl) px_int (o_fdiv (j := 20))) (Px.to (px_op op_pow px_int px_int o_pow) (rfl : _ = D.int 1000000000)) (o_mod (j := 1000000000))) (fun far hfar => ?_)
    refine bo_set (lstE (fun x : D => x)) nd (i := 8) rfl (.inl rfl) (px_lst (pa_c px_non (pa_c (px_var (pv 4) rfl) (pa_c px_str (pa_c (px_lst (pa_c (px_var (pv 4) rfl) (pa_c (px_var (pv 5) rfl) (pa_c (px_var (pv 6) rfl) pa_n)))) (pa_c (px_tup (pa_c (px_var (pv 4) rfl) (pa_c (px_var (pv 5) rfl) pa_n))) (pa_c (px_tup (pa_c (px_var (pv 4) rfl) (pa_c (px_var (pv 5) rfl) (pa_c (px_var (pv 6) rfl) (pa_c px_int pa_n))))) (pa_c (px_tup (pa_c (px_var (pv 4) rfl) (pa_c (px_var (pv 5) rfl) (pa_c (Px.to (px_tup pa_n) (rfl : _ = tlE D.int [])) pa_n)))) pa_n)))))))) (fun some_2 hsome_2 => ?_)
    have hl2 : some_2.length = 7 := by rw [hsome_2]; rfl
    refine bo_set (lstE (fun x : D => x)) nd (i := 8) rfl (.inl rfl) (px_catM (fun x : D => x) (px_var (pv 8) rfl) (px_lst (pa_c (px_tup (pa_c (px_var (pv 4) rfl) (pa_c (px_ty call_str_int T.z_str (pa_c (px_var (pv 5) rfl) pa_n) (o_str /-str1-/(Nat.lt_of_le_of_lt (Nat.log2_le_self _) (by omega)))) (pa_c (px_var (pv 6) rfl) pa_n)))) (pa_c (px_tup (pa_c px_bl (pa_c (px_var (pv 5) rfl) (pa_c (px_var (pv 6) rfl) pa_n)))) (pa_c (px_tup (pa_c (px_var (pv 4) rfl) (pa_c (px_var (pv 5) rfl) (pa_c (px_tup (pa_c px_non pa_n)) pa_n)))) pa_n)))) .f .f /-lcat1-/(by simp only [List.length_append, List.length_map, List.length_cons, List.length_nil]; omega)) (fun some_3 hsome_3 => ?_)
    have hl3 : some_3.length = 10 := by rw [hsome_3, List.length_append, hl2]; rfl
    refine bo_set (lstE (fun x : D => x)) nd (i := 8) rfl (.inl rfl) (px_catM (fun x : D => x) (px_var (pv 8) rfl) (Px.to (px_lst (pa_c (px_tup (pa_c (px_var (pv 4) rfl) (pa_c (px_var (pv 5) rfl) (pa_c (px_listOf (px_var (pv 6) rfl) .t T.z_list) pa_n)))) pa_n)) (rfl : _ = ((lstE (fun x : D => x)) (([(bag.1, bag.2.1, bag.2.2)] : List (Int × Int × List Int)).map (fun x : Int × Int × List Int => D.tup [(D.int x.1), (D.int x.2.1), ((lstE D.int) x.2.2)]))))) .f .f /-lcat2-/(by simp only [List.length_append, List.length_map, List.length_cons, List.length_nil]; omega)) (fun some_4 hsome_4 => ?_)
    have hl4 : some_4.length = 11 := by rw [hsome_4, List.length_append, hl3]; rfl
    refine bo_set (lstE (fun x : D => x)) nd (i := 8) rfl (.inl rfl) (px_catM (fun x : D => x) (px_var (pv 8) rfl) (Px.to (px_lst (pa_c (px_tup (pa_c (px_var (pv 4) rfl) (pa_c (px_op op_add (px_bi call_len_seq T.z_len (pa_c (px_var (pv 2) rfl) pa_n) (o_lenM .f)) (px_var (pv 7) rfl) o_add) (pa_c (px_var (pv 6) rfl) pa_n)))) (pa_c (px_tup (pa_c (px_var (pv 4) rfl) (pa_c (px_op op_sub (px_un un_neg px_int o_neg) (px_var (pv 7) rfl) o_sub) (pa_c (px_var (pv 6) rfl) pa_n)))) pa_n))) (rfl : _ = ((lstE (fun x : D => x)) (([(bag.1, ((lines.length : Int) + far), bag.2.2), (bag.1, ((-1) - far), bag.2.2)] : List (Int × Int × List Int)).map (fun x : Int × Int × List Int => D.tup [(D.int x.1), (D.int x.2.1), ((tlE D.int) x.2.2)]))))) .f .f /-lcat3-/(by simp only [List.length_append, List.length_map, List.length_cons, List.length_nil]; omega)) (fun some_5 hsome_5 => ?_)
    have hl5 : some_5.length = 13 := by rw [hsome_5, List.length_append, hl4]; rfl
    refine bo_set (lstE (fun x : D => x)) nd (i := 8) rfl (.inl rfl) (px_catM (fun x : D => x) (px_var (pv 8) rfl) (px_lst (pa_c (px_tup (pa_c (px_var (pv 4) rfl) (pa_c (px_var (pv 5) rfl) (pa_c (px_tupRng (px_op op_add (px_bi (call_min2 rfl) T.z_min (pa_c (px_ix ix_tup (px_ix ix_list (px_var (pv 2) rfl) (px_var (pv 5) rfl) (o_ixM roadD (x0 := ("", "", 0, 0)) .f /-lo1-/(hr0) /-hi1-/(hr1))) px_int (o_ixT (d := (D.int ((lines.getD (bag.2.1).toNat ("", "", 0, 0)).2.2.2))) rfl)) (pa_c px_int pa_n)) o_min2) px_int o_add) /-rlo1-/(by omega) /-rhi1-/(by omega) T.z_tuple T.z_range) pa_n)))) (pa_c (px_tup (pa_c (px_var (pv 4) rfl) (pa_c (px_var (pv 5) rfl) (pa_c (px_tup (pa_c (px_op op_add (px_bi call_len_seq T.z_len (pa_c (px_var (pv 1) rfl) pa_n) (o_lenM .f)) (px_var (pv 7) rfl) o_add) pa_n)) pa_n)))) pa_n))) .f .f /-lcat4-/(by simp only [List.length_append, List.length_map, List.length_cons, List.length_nil]; omega)) (fun some_6 hsome_6 => ?_)
    have hl6 : some_6.length = 15 := by rw [hsome_6, List.length_append, hl5]; rfl
    refine bo_set (lstE (fun x : D => x)) nd (i := 8) rfl (.inl rfl) (px_catM (fun x : D => x) (px_var (pv 8) rfl) (px_lst (pa_c (px_tup (pa_c (px_var (pv 4) rfl) (pa_c (px_var (pv 5) rfl) (pa_c (px_tup (pa_c (px_op op_sub (px_un un_neg px_int o_neg) (px_var (pv 7) rfl) o_sub) pa_n)) pa_n)))) (pa_c (px_tup (pa_c (px_var (pv 4) rfl) (pa_c (px_var (pv 5) rfl) (pa_c (px_tup (pa_c (px_ix ix_tup (px_var (pv 6) rfl) px_int (o_ixT (atI_map (atI_in /-lo2-/(by omega) /-hi2-/(by omega))))) (pa_c (px_ix ix_tup (px_var (pv 6) rfl) px_int (o_ixT (atI_map (atI_in /-lo3-/(by omega) /-hi3-/(by omega))))) pa_n))) pa_n)))) pa_n))) .f .f /-lcat5-/(by simp only [List.length_append, List.length_map, List.length_cons, List.length_nil]; omega)) (fun some_7 hsome_7 => ?_)
    have hl7 : some_7.length = 17 := by rw [hsome_7, List.length_append, hl6]; rfl
    refine bo_set (lstE (fun x : D => x)) nd (i := 8) rfl (.inl rfl) (px_catM (fun x : D => x) (px_var (pv 8) rfl) (px_lst (pa_c (px_tup (pa_c (px_op op_sub (px_op op_sub (px_var (pv 4) rfl) px_int o_sub) (px_op op_mod (px_var (pv 7) rfl) px_int (o_mod (j := 40))) o_sub) (pa_c (px_var (pv 5) rfl) (pa_c (px_var (pv 6) rfl) pa_n)))) (pa_c (px_tup (pa_c (px_var (pv 4) rfl) (pa_c (px_var (pv 5) rfl) (pa_c (px_tup (pa_c (px_op op_mod (px_var (pv 7) rfl) (px_bi call_len_seq T.z_len (pa_c (px_var (pv 1) rfl) pa_n) (o_lenM .f)) (o_mod /-mod1-/(by omega))) pa_n)) pa_n)))) pa_n))) .f .f /-lcat6-/(by simp only [List.length_append, List.length_map, List.length_cons, List.length_nil]; omega)) (fun some_8 hsome_8 => ?_)
    have hl8 : some_8.length = 19 := by rw [hsome_8, List.length_append, hl7]; rfl
    exact bo_ret (px_ix ix_list (px_catM (fun x : D => x) (px_var (pv 8) rfl) (Px.to (px_lst (pa_c (px_tup (pa_c (px_var (pv 4) rfl) (pa_c (px_op op_mod (px_var (pv 7) rfl) (px_bi call_len_seq T.z_len (pa_c (px_var (pv 2) rfl) pa_n) (o_lenM .f)) (o_mod /-mod2-/(by omega))) (pa_c (px_var (pv 6) rfl) pa_n)))) pa_n)) (rfl : _ = ((lstE (fun x : D => x)) (([(bag.1, (far % (lines.length : Int)), bag.2.2)] : List (Int × Int × List Int)).map (fun x : Int × Int × List Int => D.tup [(D.int x.1), (D.int x.2.1), ((tlE D.int) x.2.2)]))))) .f .f /-lcat7-/(by simp only [List.length_append, List.length_map, List.length_cons, List.length_nil]; omega)) (px_op op_mod (px_var (pv 3) rfl) px_int (o_mod (j := 20))) (o_ixM (fun x : D => x) (x0 := D.non) .f /-lo4-/(by omega) /-hi4-/(by rw [List.length_append, hl8]; show _ < ((20 : Nat) : Int); omega)))

theorem g_law_refusal (T : Top K mg c) : Glo P w K mg base 3 "_law_refusal" ["_law_error"] (Pu K (fun a : Option Exn => (fun (error : Option Exn) => ∀ e, error = some e → e.has_place = true) a) (fun a => [((optE (fun x : Exn => (Exn.xd c x).d)) a)]) (fun a => (law_refusal_m a))) :=
  glo_of T.d_law_refusal (fun _ _ _ _ _ _ us hl => match us, hl with | [_], _ => rfl) fun f fd F => fn_ok F cs_law_refusal (fun _ => rfl) fun cdv A outer s H E a hr hok => by
    have nd := cs_law_refusal.nd
    revert hok; revert a; intro error hok
    have hok : ∀ e, error = some e → e.has_place = true := hok
    refine Blk.imp (show Bo _ _ _ [some ((optE (fun x : Exn => (Exn.xd c x).d)) error), none, none] _ (Rt (PuR (fun x : D => x))) (law_refusal_m error) from ?_) (fun _ _ h => h.elim) (fun _ _ h => h) (fun _ _ h => h.elim) (fun _ _ h => h.elim) (fun _ _ _ _ h => h.elim)
    unfold law_refusal_m
    refine bo_ifR (ts_w (tw_or (ts_not (ts_val (px_isX (xc := Exn.xd c) T.z_isinstance (px_var (pv 0) rfl) (px_cls T.x_RoadError.nm) (.own c.RoadError) (Exn.ec T) (k_RoadError T) T.xn_RoadError))) fun hb1 => (tw_or1 (ts_not (ts_val (px_isX (xc := Exn.xd c) (q := fun _ => true) T.z_isinstance (px_var (pv 0) rfl) (px_tyn T.z_ValueError) (.ty "ValueError") (Exn.ec T) (k_ValueError T) (kit_ty (by decide +kernel)))))))) (fun hi1 => ?_) (fun hi1 => ?_)
    · -- if1t
      exact bo_ret px_str
    · -- if1f
      have hpl := place_of hok hi1
      have hrn := reason_of hpl
      refine bo_set D.bl nd (i := 1) rfl (.inl rfl) (px_or (px_isX (xc := Exn.xd c) T.z_isinstance (px_var (pv 0) rfl) (px_cls T.x_NoNet.nm) (.own c.NoNet) (Exn.ec T) (k_NoNet T) T.xn_NoNet) fun hb3 => (px_or (px_isX (xc := Exn.xd c) T.z_isinstance (px_var (pv 0) rfl) (px_cls T.x_NoHouse.nm) (.own c.NoHouse) (Exn.ec T) (k_NoHouse T) T.xn_NoHouse) fun hb2 => (px_one (px_isX (xc := Exn.xd c) T.z_isinstance (px_var (pv 0) rfl) (px_cls T.x_NoRoad.nm) (.own c.NoRoad) (Exn.ec T) (k_NoRoad T) T.xn_NoRoad)))) (fun one hone => ?_)
      refine bo_set D.bl nd (i := 2) rfl (.inl rfl) (px_or (px_isX (xc := Exn.xd c) T.z_isinstance (px_var (pv 0) rfl) (px_cls T.x_NoLetter.nm) (.own c.NoLetter) (Exn.ec T) (k_NoLetter T) T.xn_NoLetter) fun hb5 => (px_or (px_isX (xc := Exn.xd c) T.z_isinstance (px_var (pv 0) rfl) (px_cls T.x_NoWay.nm) (.own c.NoWay) (Exn.ec T) (k_NoWay T) T.xn_NoWay) fun hb4 => (px_one (px_isX (xc := Exn.xd c) T.z_isinstance (px_var (pv 0) rfl) (px_cls T.x_ManyGoals.nm) (.own c.ManyGoals) (Exn.ec T) (k_ManyGoals T) T.xn_ManyGoals)))) (fun other hother => ?_)
      refine bo_ifR (ts_w (tw_or (ts_val (px_var (pv 1) rfl)) fun hb8 => (tw_or (ts_val (px_var (pv 2) rfl)) fun hb7 => (tw_or (ts_val (px_isX (xc := Exn.xd c) T.z_isinstance (px_var (pv 0) rfl) (px_cls T.x_CutOff.nm) (.own c.CutOff) (Exn.ec T) (k_CutOff T) T.xn_CutOff)) fun hb6 => (tw_or1 (ts_not (ts_val (px_call (g_law_whole T) hr (by decide) (D.int (error.elim 0 Exn.place)) /-ok_whole_1-/(Dp'.int) (pa_c (px_x_place T (px_var (pv 0) rfl) /-fld_place1-/(hpl)) pa_n))))))))) (fun hi2 => ?_) (fun hi2 => ?_)
      · -- if2t
        exact bo_ret px_str
      · -- if2f
        exact bo_ret (px_tup (pa_c (px_x_place T (px_var (pv 0) rfl) /-fld_place2-/(hpl)) (pa_c (px_x_reason T (px_var (pv 0) rfl) /-fld_reason1-/(hrn)) pa_n)))

theorem g_law_both (T : Top K mg c) : Glo P w K mg base 8 "_law_both" ["_law_net", "_law_letters", "_law_plan_here", "_law_turn"] (Pu K (fun a : (List Str × List Road) × List Letter × List D × Int => (fun (net : List Str × List Road) (letters : List Letter) (plan : List D) (turn : Int) => letters.length ≤ 10000 ∧ ∀ b ∈ plan, OkThing b) a.1 a.2.1 a.2.2.1 a.2.2.2) (fun a => [((netD c) a.1), ((lstE letterD) a.2.1), ((lstE (fun x : D => x)) a.2.2.1), (D.int a.2.2.2)]) (fun a => ((lstE (fun x : D => x)) (law_both_m a.1 a.2.1 a.2.2.1 a.2.2.2)))) :=
  glo_of T.d_law_both (fun _ _ _ _ _ _ us hl => match us, hl with | [_, _, _, _], _ => rfl) fun f fd F => fn_ok F cs_law_both (fun _ => rfl) fun cdv A outer s H E a hr hok => by
    have nd := cs_law_both.nd
    obtain ⟨net, letters, plan, turn⟩ := a
    have hok : letters.length ≤ 10000 ∧ ∀ b ∈ plan, OkThing b := hok
    refine Blk.imp (show Bo _ _ _ [some ((netD c) net), some ((lstE letterD) letters), some ((lstE (fun x : D => x)) plan), some (D.int turn), none, none, none] _ (Rt (PuR (lstE (fun x : D => x)))) (law_both_m net letters plan turn) from ?_) (fun _ _ h => h.elim) (fun _ _ h => h) (fun _ _ h => h.elim) (fun _ _ h => h.elim) (fun _ _ _ _ h => h.elim)
    unfold law_both_m
    refine bo_set (optE (fun x : Exn => (Exn.xd c x).d)) nd (i := 4) rfl (.inl rfl) (Px.to px_non (rfl : _ = ((optE (fun x : Exn => (Exn.xd c x).d)) none))) (fun kept hkept => ?_)
    refine bo_set (optE (fun x : Exn => (Exn.xd c x).d)) nd (i := 5) rfl (.inl rfl) (Px.to px_non (rfl : _ = ((optE (fun x : Exn => (Exn.xd c x).d)) none))) (fun again hagain => ?_)
    refine bo_tryNV (xc := Exn.xd c) (ks := [(c.BadBag, 6, 4)]) (GL := fun _ => []) (RL := fun _ => []) (fun t1 : Option Exn => [some ((netD c) net), some ((lstE letterD) letters), some ((lstE (fun x : D => x)) plan), some (D.int turn), some ((optE (fun x : Exn => (Exn.xd c x).d)) t1), some ((optE (fun x : Exn => (Exn.xd c x).d)) again), none]) (fun t1 : Option Exn => []) 6 4 takes_no nd (.cons rfl rfl rfl rfl (show (6 : Nat) ≠ 4 by decide) (by exact Nat.le_of_ble_eq_true rfl) (.inl rfl) (by decide) (by decide) ⟨rfl, by decide, .inl T.x_BadBag.nm⟩ (by intro Y e; rw [e]; rfl) .nil) (by simp) (fun W_1 pn_1 xe_1 t1_1 t2_1 => ?_) (fun _ _ _ _ _ h => h) (fun e Q he z => catch1 ((m_BadBag T e).trans (congrArg some /-caught2-/(arr_caught he))) z) (fun e he => ⟨(.keep (.keep (.keep (.keep (.keep (.keep (.any .nil))))))), rfl⟩) (fun t1 ht1 => ?_)
    · -- try1
      refine bo_xb (fun v1 hv1 => ?_) (fun e1 he1 => ?_)
      · refine bo_do (Ev.frz (ev_callOkL (g_arrivals_x T) hr (by decide) (net, letters, plan) /-ok_arrivals_1-/(hok) hv1 (pa_c (px_var (pv 0) rfl) (pa_c (px_var (pv 1) rfl) (pa_c (px_var (pv 2) rfl) pa_n))))) ?_
        exact bo_nxO (.keep (.keep (.keep (.keep (.keep (.keep (.any .nil))))))) rfl
      · exact bo_xexpr (exr_call t1_1 (g_arrivals_x T) hr (by decide) (net, letters, plan) /-ok_arrivals_1-/(hok) he1 (pa_c (px_var (pv 0) rfl) (pa_c (px_var (pv 1) rfl) (pa_c (px_var (pv 2) rfl) pa_n)))) (by first | exact exto_rt0 (xc := Exn.xd c) (e0 := e1) | exact exto_rv0 (xc := Exn.xd c) (e0 := e1) | exact exto_ou0 (xc := Exn.xd c) (e0 := e1) | exact exto_xt (xc := Exn.xd c) (e0 := e1))
    -- behind try1
    refine bo_tryNV (xc := Exn.xd c) (ks := [(c.BadBag, 6, 5)]) (GL := fun _ => []) (RL := fun _ => []) (fun t2 : Option Exn => [some ((netD c) net), some ((lstE letterD) letters), some ((lstE (fun x : D => x)) plan), some (D.int turn), some ((optE (fun x : Exn => (Exn.xd c x).d)) t1), some ((optE (fun x : Exn => (Exn.xd c x).d)) t2), none]) (fun t2 : Option Exn => []) 6 5 takes_no nd (.cons rfl rfl rfl rfl (show (6 : Nat) ≠ 5 by decide) (by exact Nat.le_of_ble_eq_true rfl) (.inl rfl) (by decide) (by decide) ⟨rfl, by decide, .inl T.x_BadBag.nm⟩ (by intro Y e; rw [e]; rfl) .nil) (by simp) (fun W_2 pn_2 xe_2 t1_2 t2_2 => ?_) (fun _ _ _ _ _ h => h) (fun e Q he z => catch1 ((m_BadBag T e).trans (congrArg some /-caught1-/(sps_caught he))) z) (fun e he => ⟨(.keep (.keep (.keep (.keep (.keep (.keep (.any .nil))))))), rfl⟩) (fun t2 ht2 => ?_)
    · -- try2
      refine bo_xb (fun v2 hv2 => ?_) (fun e2 he2 => ?_)
      · refine bo_do (Ev.frz (ev_callOkL (g_spots_at_x T) hr (by decide) (net, letters, plan, turn) /-ok_spots_at_1-/(hok) hv2 (pa_c (px_var (pv 0) rfl) (pa_c (px_var (pv 1) rfl) (pa_c (px_var (pv 2) rfl) (pa_c (px_var (pv 3) rfl) pa_n)))))) ?_
        exact bo_nxO (.keep (.keep (.keep (.keep (.keep (.keep (.any .nil))))))) rfl
      · exact bo_xexpr (exr_call t1_2 (g_spots_at_x T) hr (by decide) (net, letters, plan, turn) /-ok_spots_at_1-/(hok) he2 (pa_c (px_var (pv 0) rfl) (pa_c (px_var (pv 1) rfl) (pa_c (px_var (pv 2) rfl) (pa_c (px_var (pv 3) rfl) pa_n))))) (by first | exact exto_rt0 (xc := Exn.xd c) (e0 := e2) | exact exto_rv0 (xc := Exn.xd c) (e0 := e2) | exact exto_ou0 (xc := Exn.xd c) (e0 := e2) | exact exto_xt (xc := Exn.xd c) (e0 := e2))
    -- behind try2
    exact bo_ret (px_lst (pa_c (px_call (g_law_refusal T) hr (by decide) t1 /-ok_refusal_1-/(ref1 hkept ht1) (pa_c (px_var (pv 4) rfl) pa_n)) (pa_c (px_call (g_law_refusal T) hr (by decide) t2 /-ok_refusal_2-/(ref2 hagain ht2) (pa_c (px_var (pv 5) rfl) pa_n)) pa_n)))


end

end Lw
set_option Elab.async false
set_option linter.all false
set_option maxRecDepth 100000
set_option maxHeartbeats 4000000
namespace Lw
open PySem L2 Sx
section
variable {P : Program} {w : World} {K : PySem.W.Frag} {mg : Str → Option Value} {base : Heap} {c : Cs}
abbrev lvl : Nat := 9
theorem ok_law0 (T : Top K mg c) (H0 : ∀ ns : List Int, ns.length ≤ 63 → law_m ns = true) {f : Addr} {fd : FuncData} (F : Fun K "law" "law" s_law f fd) : FnOk P w K mg base CX0 lvl f fd ["_law_script"] (spL K) :=
  fn_ok F cs_law (fun _ => rfl) fun cdv A outer s H E a hr hok => by
    have nd := cs_law.nd
    revert hok; revert a; intro script hok
    have hok : script.length ≤ 63 := hok
    refine Blk.imp (show Bo _ _ _ [some (D.scr (script.map D.int)), none, none, none, none, none, none, none, none, none, none, none, none, none, none] _ (Rt (PuR D.bl)) (law_m script) from ?_) (fun _ _ h => h.elim) (fun _ _ h => ⟨h.1.trans (congrArg D.bl (H0 script hok)), h.2⟩) (fun _ _ h => h.elim) (fun _ _ h => h.elim) (fun _ _ _ _ h => h.elim)
    unfold law_m
    refine bo_set (lstE D.str) nd (i := 1) rfl (.inr rfl) (px_callL (g_housesB T) hr (by decide) ((cellAt script 0), (2 + ((cellAt script 1) % 11))) /-ok_houses_1-/(⟨by dsimp only; omega, by dsimp only; omega⟩) (pa_c (px_call (g_cell T) hr (by decide) (script, 0) /-ok_cell_at_1-/(by dsimp only; omega) (pa_c (px_var (pv 0) rfl) (pa_c px_int pa_n))) (pa_c (px_op op_add px_int (px_op op_mod (px_call (g_cell T) hr (by decide) (script, 1) /-ok_cell_at_2-/(by dsimp only; omega) (pa_c (px_var (pv 0) rfl) (pa_c px_int pa_n))) px_int (o_mod (j := 11))) o_add) pa_n))) (fun names hnames => ?_)
    have oh : OkH names := by rw [hnames]; exact housesB_ok (by omega)
    have hl : names.length = (2 + cellAt script 1 % 11).toNat := by rw [hnames]; exact housesB_len
    have h12 := oh.le
    refine bo_set D.int nd (i := 2) rfl (.inr rfl) (px_op op_add px_int (px_op op_mod (px_call (g_cell T) hr (by decide) (script, 2) /-ok_cell_at_3-/(by dsimp only; omega) (pa_c (px_var (pv 0) rfl) (pa_c px_int pa_n))) (px_op op_sub (Px.to (px_op op_pow px_int px_int o_pow) (rfl : _ = D.int 1000000000)) px_int o_sub) (o_mod (j := (1000000000 - 30)))) o_add) (fun base_2 hbase_2 => ?_)
    have hpk : ∀ k : Int, 0 ≤ k → (pickN script (places script.length (some k) (some (k + 32)) (some 2))).length ≤ 16 := fun k h => pick_len h rfl
    refine bo_lc (own := [("_law_cell", 8)]) (is := [8]) D.int roadD (fun z1 : Int => (roadB names z1)) nd (i := 3) rfl rfl (by exact Nat.le_of_ble_eq_true rfl) rfl (it_list (px_strideM D.int (px_var (pv 0) rfl) .s (pz_s px_int) (pz_s px_int) (pz_s px_int) (by decide) /-step1-/(Nat.le_trans (pickN_len _ _) (Nat.le_trans (places_len (by decide) (by decide) (by decide)) (by decide))))) (blkOk_by (N := ns_law) (sc := defScope s_law) (by decide +kernel)) (fun _ _ _ _ _ => (pg_name (i := 8) nd rfl (.inl rfl))) (by decide) /-csz1-/(Nat.le_trans (hpk 3 (by decide)) (by decide)) (fun i z1 hz1 => by
      have hz1m := List.mem_of_getElem? hz1
      have hz1l := (List.getElem?_eq_some_iff.mp hz1).1
      exact ⟨_, tg_name, fun _ _ _ _ _ => (px_call (g_roadB T) hr (by decide) (z1, names) /-ok_road_1-/(⟨by dsimp only; omega, by dsimp only; omega⟩) (pa_c (px_var (pv 8) rfl) (pa_c (px_var (pv 1) rfl) pa_n)))⟩) (fun lines hlines => ?_)
    have og : OkG (names, lines) := ⟨oh, fun r hr => by
      have hr : r ∈ lines := hr
      rw [hlines] at hr
      obtain ⟨z, _, rfl⟩ := List.mem_map.mp hr
      exact roadB_ok oh.nd (show 2 ≤ names.length by omega), by show lines.length ≤ 40; rw [hlines, List.length_map]; exact Nat.le_trans (hpk 3 (by decide)) (by decide)⟩
    refine bo_lc (own := [("_law_cell", 8)]) (is := [8]) D.int letterD (fun z2 : Int => (letterB names base_2 z2)) nd (i := 4) rfl rfl (by exact Nat.le_of_ble_eq_true rfl) rfl (it_list (px_strideM D.int (px_var (pv 0) rfl) .s (pz_s px_int) (pz_s px_int) (pz_s px_int) (by decide) /-step2-/(Nat.le_trans (pickN_len _ _) (Nat.le_trans (places_len (by decide) (by decide) (by decide)) (by decide))))) (blkOk_by (N := ns_law) (sc := defScope s_law) (by decide +kernel)) (fun _ _ _ _ _ => (pg_name (i := 8) nd rfl (.inl rfl))) (by decide) /-csz2-/(Nat.le_trans (hpk 4 (by decide)) (by decide)) (fun i z2 hz2 => by
      have hz2m := List.mem_of_getElem? hz2
      have hz2l := (List.getElem?_eq_some_iff.mp hz2).1
      exact ⟨_, tg_name, fun _ _ _ _ _ => (px_call (g_letterB T) hr (by decide) (z2, names, base_2) /-ok_letter_1-/(⟨by dsimp only; omega, by dsimp only; omega⟩) (pa_c (px_var (pv 8) rfl) (pa_c (px_var (pv 1) rfl) (pa_c (px_var (pv 2) rfl) pa_n))))⟩) (fun letters hletters => ?_)
    have o0 : OkLs names base_2 letters := by rw [hletters]; exact okls_0 oh.nd (by omega) (Nat.le_trans (hpk 4 (by decide)) (by decide))
    have hll := o0.l
    have hsc : letters ≠ [] → 0 < script.length := fun h => by rw [hletters] at h; exact script_pos h
    refine bo_set (netD c) nd (i := 5) rfl (.inl rfl) (px_Net (hs := names) (rs := lines) T hr (by decide) /-net1-/(og) (px_var (pv 1) rfl) (px_var (pv 3) rfl)) (fun net hnet => ?_)
    have hlo : ((3 : Int) = 2 ∨ (3 : Int) = 3) ∧ lines.length ≤ 40 ∧ letters.length ≤ 40 ∧ (letters ≠ [] → 0 < script.length) ∧ ∀ r ∈ lines, 1 ≤ r.2.2.2 := ⟨.inr rfl, og.le, hll, hsc, fun r hr => (og.r r hr).w.1⟩
    have hpo : (law_legs_m lines letters script 3).length ≤ 40 ∧ ∀ x ∈ law_legs_m lines letters script 3, x.length ≤ 3 := legs_len (.inr rfl) hll
    refine bo_set (lstE (fun x : Int × Int × List Int => D.tup [(D.int x.1), (D.int x.2.1), ((tlE D.int) x.2.2)])) nd (i := 6) rfl (.inl rfl) (px_call (g_law_plan T) hr (by decide) (law_legs_m lines letters script 3) /-ok_plan_1-/(hpo) (pa_c (px_call (g_law_legs T) hr (by decide) (lines, letters, script, 3) /-ok_legs_1-/(hlo) (pa_c (px_var (pv 3) rfl) (pa_c (px_var (pv 4) rfl) (pa_c (px_var (pv 0) rfl) (pa_c px_int pa_n))))) pa_n)) (fun plan hplan => ?_)
    have hpf : PlanFine net letters plan := by rw [hplan, hnet]; exact plan_fine (.inr rfl) og o0
    have hp120 : plan.length ≤ 120 := by rw [hplan]; exact plan_len120 hpo.1 hpo.2
    have h40n : net.2.length ≤ 40 := by rw [hnet]; exact og.le
    have hwn : ∀ r ∈ net.2, 1 ≤ r.2.2.2 := by rw [hnet]; exact fun r hr => (og.r r hr).w.1
    have hlnr : ∀ b ∈ plan, 0 ≤ b.2.1 ∧ b.2.1 < (lines.length : Int) := fun b hb => by have := (okod_of hpf h40n hll hwn hb).r; rw [hnet] at this; exact this
    refine bo_ifR (ts_cmp (op_eqD hr.units) (px_var (pv 6) rfl) (px_lst pa_n) (o_eqLE (eqs_t3 (e := (fun x : Int × Int × List Int => D.tup [(D.int x.1), (D.int x.2.1), ((tlE D.int) x.2.2)])) eqs_int eqs_int (eqs_tl eqs_int)) .f .f /-eqk1-/(by simp) /-eqk2-/(by simp))) (fun hi1 => ?_) (fun hi1 => ?_)
    · -- if1t
      exact bo_ret (px_and (px_cmp (op_eqD hr.units) (px_call (g_law_both T) hr (by decide) (net, letters, [D.non], base_2) /-ok_both_1-/(⟨Nat.le_trans hll (by decide), ac (sm_ok Dp'.non rfl) an⟩) (pa_c (px_var (pv 5) rfl) (pa_c (px_var (pv 4) rfl) (pa_c (px_lst (pa_c px_non pa_n)) (pa_c (px_var (pv 2) rfl) pa_n))))) (px_lst (pa_c (px_tup (pa_c px_int (pa_c px_str pa_n))) (pa_c (px_tup (pa_c px_int (pa_c px_str pa_n))) pa_n))) (o_eqAnyL .f .f /-any1-/(both_any) /-any2-/(pair_any (by decide +kernel)))) fun hb1 => (px_one (px_cmp (op_eqD hr.units) (px_callL (g_arrivals T) hr (by decide) (net, [], []) /-ok_arrivals_1-/(fine_nil (letters := []) (Nat.zero_le _)) (pa_c (px_var (pv 5) rfl) (pa_c (px_lst pa_n) (pa_c (px_lst pa_n) pa_n)))) (px_lst pa_n) (o_eqLE (eqs_opt eqs_int) .f .f /-eqk3-/(by simp) /-eqk4-/(by simp)))))
    · -- if1f
      have hpp : 0 < plan.length := List.length_pos_iff.mpr (by simpa using hi1)
      refine bo_forV (is := [7]) D.int (fun s1 : Unit => [some (D.scr (script.map D.int)), some ((lstE D.str) names), some (D.int base_2), some ((lstE roadD) lines), some ((lstE letterD) letters), some ((netD c) net), some ((lstE (fun x : Int × Int × List Int => D.tup [(D.int x.1), (D.int x.2.1), ((tlE D.int) x.2.2)])) plan), none, none, none, none, none, none, none, none]) (fun s1 : Unit => []) (fun _ _ => True) (fun _ => True) PassesOwn.never rfl (Itw.to (it_range px_int /-rlo1-/(by omega) /-rhi1-/(by omega) T.z_range) rngI_map) (pg_name (i := 7) nd rfl (.inl rfl)) (.keep (.keep (.keep (.keep (.keep (.keep (.keep (.any (.any (.any (.any (.any (.any (.any (.any .nil))))))))))))))) rfl trivial (fun i1 x1 s1 hx1 hp1 hj1 => ?_) (fun _ _ => trivial) (fun s1 hs1 hj1e => ?_)
      · -- for1
        have hx11 := (rngI_get hx1).1
        have hx12 := (rngI_get hx1).2
        refine ⟨⟨fun _ _ => trivial, fun _ _ => trivial, fun _ _ => trivial⟩, _, tg_name, ?_⟩
        refine bo_set D.int nd (i := 8) rfl (.inl rfl) (px_op op_add (px_op op_mod (px_op op_mul (px_call (g_cell T) hr (by decide) (script, (x1 + 1)) /-ok_cell_at_4-/(by dsimp only; omega) (pa_c (px_var (pv 0) rfl) (pa_c (px_op op_add (px_var (pv 7) rfl) px_int o_add) pa_n))) px_int o_mulR) px_int (o_mod (j := 2147483647))) (px_op op_mod (px_call (g_cell T) hr (by decide) (script, 0) /-ok_cell_at_5-/(by dsimp only; omega) (pa_c (px_var (pv 0) rfl) (pa_c px_int pa_n))) px_int (o_mod (j := 2147483647))) o_add) (fun cell hcell => ?_)
        refine bo_set D.int nd (i := 9) rfl (.inl rfl) (px_op op_mod (px_var (pv 8) rfl) (px_bi call_len_seq T.z_len (pa_c (px_var (pv 6) rfl) pa_n) (o_lenM .f)) (o_mod /-mod1-/(by omega))) (fun at_2 hat_2 => ?_)
        have hcr := emod_rng hpp cell
        rw [← hat_2] at hcr
        refine bo_set (fun x : Int × Int × List Int => D.tup [(D.int x.1), (D.int x.2.1), ((tlE D.int) x.2.2)]) nd (i := 10) rfl (.inl rfl) (px_ix ix_list (px_var (pv 6) rfl) (px_var (pv 9) rfl) (o_ixM (fun x : Int × Int × List Int => D.tup [(D.int x.1), (D.int x.2.1), ((tlE D.int) x.2.2)]) (x0 := (0, 0, [])) .f /-lo1-/(hcr.1) /-hi1-/(hcr.2))) (fun bag hbag => ?_)
        have hbm : bag ∈ plan := by rw [hbag]; exact getD_mem hcr.1 hcr.2
        have hod : OkOd bag letters lines := by have := okod_of hpf h40n hll hwn hbm; rw [hnet] at this; exact this
        refine bo_ifS (fun j2 : D => [some (D.scr (script.map D.int)), some ((lstE D.str) names), some (D.int base_2), some ((lstE roadD) lines), some ((lstE letterD) letters), some ((netD c) net), some ((lstE (fun x : Int × Int × List Int => D.tup [(D.int x.1), (D.int x.2.1), ((tlE D.int) x.2.2)])) plan), some (D.int x1), some (D.int cell), some (D.int at_2), some j2, none, none, none, none]) (fun j2 : D => []) (ts_cmp op_eq (px_op op_mod (px_op op_fdiv (px_var (pv 8) rfl) px_int (o_fdiv (j := 64))) px_int (o_mod (j := 7))) px_int o_eqI) (fun hi2 => ?_) (fun hi2 => ?_) (fun j2 hj2 => ?_)
        · -- if2t
          refine bo_set (fun x : D => x) nd (i := 10) rfl (.inl rfl) (px_ix ix_list (px_var (pv 6) rfl) (px_bi (call_max2 rfl) T.z_max (pa_c px_int (pa_c (px_op op_sub (px_var (pv 9) rfl) px_int o_sub) pa_n)) o_max2) (o_ixM (fun x : Int × Int × List Int => D.tup [(D.int x.1), (D.int x.2.1), ((tlE D.int) x.2.2)]) (x0 := (0, 0, [])) .f /-lo2-/(by omega) /-hi2-/(by omega))) (fun bag_2 hbag_2 => ?_)
          exact bo_nx (.keep (.keep (.keep (.keep (.keep (.keep (.keep (.keep (.keep (.keep (.keep (.any (.any (.any (.any .nil))))))))))))))) rfl
        · -- if2f
          refine bo_set (fun x : D => x) nd (i := 10) rfl (.inl rfl) (px_call (g_law_odd T) hr (by decide) (bag, letters, lines, (cell / 448)) /-ok_odd_1-/(hod) (pa_c (px_var (pv 10) rfl) (pa_c (px_var (pv 4) rfl) (pa_c (px_var (pv 3) rfl) (pa_c (px_op op_fdiv (px_var (pv 8) rfl) px_int (o_fdiv (j := 448))) pa_n))))) (fun bag_3 hbag_3 => ?_)
          exact bo_nx (.keep (.keep (.keep (.keep (.keep (.keep (.keep (.keep (.keep (.keep (.keep (.any (.any (.any (.any .nil))))))))))))))) rfl
        -- if2j
        have hoj : OkThing j2 := by
          rw [hj2]
          refine cond_keep (P := OkThing) (fun _ => okE (hpf.z _ (getD_mem (by omega) (by omega)))) fun _ => odd_ok hod.r.1 (by have := hod.r.2; have := hod.l; omega) hod.z
        refine bo_set (lstE (fun x : D => x)) nd (i := 11) rfl (.inl rfl) (px_catM (fun x : D => x) (px_catM (fun x : D => x) (Px.to (px_slM (fun x : Int × Int × List Int => D.tup [(D.int x.1), (D.int x.2.1), ((tlE D.int) x.2.2)]) (px_var (pv 6) rfl) .f pz_n (pz_s (px_var (pv 9) rfl))) lst_coe) (px_lst (pa_c (px_var (pv 10) rfl) pa_n)) .f .f /-lcat1-/(by have e1 := cut_len (xs := plan) (lo := none) (hi := some at_2); have e2 := cut_len (xs := plan) (lo := some (at_2 + ((cell / 448) % 2))) (hi := none); simp only [List.length_append, List.length_map, List.length_cons, List.length_nil]; omega)) (Px.to (px_slM (fun x : Int × Int × List Int => D.tup [(D.int x.1), (D.int x.2.1), ((tlE D.int) x.2.2)]) (px_var (pv 6) rfl) .f (pz_s (px_op op_add (px_var (pv 9) rfl) (px_op op_mod (px_op op_fdiv (px_var (pv 8) rfl) px_int (o_fdiv (j := 448))) px_int (o_mod (j := 2))) o_add)) pz_n) lst_coe) .f .f /-lcat2-/(by have e1 := cut_len (xs := plan) (lo := none) (hi := some at_2); have e2 := cut_len (xs := plan) (lo := some (at_2 + ((cell / 448) % 2))) (hi := none); simp only [List.length_append, List.length_map, List.length_cons, List.length_nil]; omega)) (fun spoiled hspoiled => ?_)
        have hsp : ∀ d ∈ spoiled, OkThing d := by rw [hspoiled]; exact aa (aa (cut_things hpf) (ac hoj an)) (cut_things hpf)
        refine bo_set D.str nd (i := 12) rfl (.inl rfl) (px_call (g_law_reason T) hr (by decide) (letters, lines, (cut plan none (some at_2)), j2) /-ok_reason_1-/(⟨hoj, fun b hb => hlnr b (cut_mem hb)⟩) (pa_c (px_var (pv 4) rfl) (pa_c (px_var (pv 3) rfl) (pa_c (px_slM (fun x : Int × Int × List Int => D.tup [(D.int x.1), (D.int x.2.1), ((tlE D.int) x.2.2)]) (px_var (pv 6) rfl) .f pz_n (pz_s (px_var (pv 9) rfl))) (pa_c (px_var (pv 10) rfl) pa_n))))) (fun due hdue => ?_)
        refine bo_set (lstE (fun x : D => x)) nd (i := 13) rfl (.inl rfl) (px_call (g_law_both T) hr (by decide) (net, letters, spoiled, (cell % 2000000000)) /-ok_both_2-/(⟨Nat.le_trans hll (by decide), hsp⟩) (pa_c (px_var (pv 5) rfl) (pa_c (px_var (pv 4) rfl) (pa_c (px_var (pv 11) rfl) (pa_c (px_op op_mod (px_var (pv 8) rfl) px_int (o_mod (j := 2000000000))) pa_n))))) (fun told htold => ?_)
        refine bo_if (ts_w (tw_and (ts_cmp op_ne (px_var (pv 12) rfl) px_str o_neS) fun hb2 => (tw_and1 (ts_cmp (op_neD hr.units) (px_var (pv 13) rfl) (px_lst (pa_c (px_tup (pa_c (px_var (pv 9) rfl) (pa_c (px_var (pv 12) rfl) pa_n))) (pa_c (px_tup (pa_c (px_var (pv 9) rfl) (pa_c (px_var (pv 12) rfl) pa_n))) pa_n))) (o_neAnyL .f .f /-any3-/(by rw [htold]; exact both_any) /-any4-/(pair_any (by rw [hdue]; exact reason_str))))))) (fun hi3 => ?_) (fun hi3 => ?_)
        · -- if3t
          exact bo_retO px_bl
        · -- if3f
          exact bo_nxO (.keep (.keep (.keep (.keep (.keep (.keep (.keep (.any (.any (.any (.any (.any (.any (.any (.any .nil))))))))))))))) rfl
      -- behind for1
      refine bo_set (lstE (optE D.int)) nd (i := 14) rfl (.inl rfl) (px_callL (g_arrivals T) hr (by decide) (net, letters, plan) /-ok_arrivals_2-/(hpf) (pa_c (px_var (pv 5) rfl) (pa_c (px_var (pv 4) rfl) (pa_c (px_var (pv 6) rfl) pa_n)))) (fun turns hturns => ?_)
      exact bo_ret (px_and (px_isT "list" "list" true T.z_isinstance T.z_list (px_var (pv 14) rfl)) fun hb3 => (px_one (px_cmp op_eq (px_bi call_len_seq T.z_len (pa_c (px_var (pv 14) rfl) pa_n) (o_lenM .f)) (px_bi call_len_seq T.z_len (pa_c (px_var (pv 4) rfl) pa_n) (o_lenM .f)) o_eqI)))

end

end Lw
set_option Elab.async false
set_option linter.all false
set_option maxRecDepth 100000
set_option maxHeartbeats 4000000
namespace Lw
open PySem L2 Sx
section
variable {P : Program} {w : World} {K : PySem.W.Frag} {mg : Str → Option Value} {base : Heap} {c : Cs}
theorem ok_law (T : Top K mg c) {f : Addr} {fd : FuncData} (F : Fun K "law" "law" s_law f fd) : FnOk P w K mg base CX0 lvl f fd ["_law_script"] (spL K) := ok_law0 T law_true F
end

end Lw
open PySem PySem.W PySem.Calls PyProof.Rows
set_option maxHeartbeats 0 in
theorem PySem.Challenge.cw_postroad_k15_the_bag_amiss_holds : PySem.Challenge.rw_postroad_k15_the_bag_amiss.Holds := by
  w_on; o_law
  refine HandSHeadRun.head_any (r := OpenLaw.row PySem.Challenge.rw_postroad_k15_the_bag_amiss) (q := view (OpenLaw.row PySem.Challenge.rw_postroad_k15_the_bag_amiss).prog [50]) (H := Lw.hk) (ob := Lw.ob) (M := 20000) (loose := Lw.loose) (d := HandSHeadRun.topDef (OpenLaw.row PySem.Challenge.rw_postroad_k15_the_bag_amiss).prog 50) (kwd := []) Lw.ob_eq
    (by kernel_rfl) (fun s => by kernel_rfl) Lw.run (by kernel_rfl) (by kernel_rfl) (by kernel_rfl) (by rfl) (by first | assumption | decide +kernel) (by decide +kernel) ⟨rfl, rfl, rfl, rfl, rfl, by decide +kernel⟩ ?hw ?hc
  case hw => w_witness2
  case hc =>
    refine L2.walk_ofE (l := PySem.Challenge.rw_postroad_k15_the_bag_amiss) (n := 63) (k := Lw.lvl) (x := "_law_script") (CX := L2.CX0) rfl (by decide) (by kernel_rfl) ⟨rfl, by decide, by decide⟩ ?F (fun _ _ _ _ z => z)
    intro w mg fa h Y G hmg0
    obtain ⟨K, KX, c⟩ := Y
    have hmg : mg ("law" : PySem.Str) = some (.ref fa) := by
      have e : (HandSHeadRun.topDef (OpenLaw.row PySem.Challenge.rw_postroad_k15_the_bag_amiss).prog 50).name = ("law" : PySem.Str) := by kernel_rfl
      rw [← e]
      exact hmg0
    have T := Lw.top_of KX G c
    obtain ⟨fd, hb, hF⟩ := Sx.law_end (P := (PySem.Challenge.rw_postroad_k15_the_bag_amiss).prog) (w := w) (pn := "_law_script") (k := Lw.lvl) T.d_law hmg (fun _ _ _ _ _ _ s v => .of_eq rfl) (fun base h1 h2 f fd F => Lw.ok_law T F)
    exact ⟨K, fd, Sx.spLaw K, KX, hb, fun H a ns hl _ hS => ⟨a, ns, rfl, hS, hl, fun _ => rfl⟩, hF⟩
