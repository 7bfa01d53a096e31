import PyProof.Rows.All
import Wide.All
import OpenK.AllK
import Wide.FinOn
import HandS.ForMost
import HandS.Exc
import HandS.WordsExc
import HandS.IsInst
import HandS.Conv
import HandS.Text
import HandS.TupAny
import HandS.Steps
import HandS.SortInts
import HandS.DictComp
import KE.KIsAll
import HandS.ExcOwn
import HandS.ExcIs
import HandS.ExcInit
import HandS.TryOnly
import KE.KExcIs
import KE.KSortTupG
import KE.KSortTupUse
import HandS.Iter
import HandS.DictTup
import HandS.SetKeys
import HandS.More
import HandS.SortKw
import KE.DataMinMax
import HandS.TupLe
import HandS.SetFor
import HandS.Strs
import HandS.Flow
import HandS.TupLen
import PyProof.DictMoreH
import HandS.Deep
import PyProof.ZipIter
import HandS.Set
import PyProof.Rows.SortStr
import HandS.WordsDict
import KE.GoesRaise
import Lean
import KE.KStateDown
import HandS.Defaults
import HandS.Head0
import HandS.Head1
import HandS.Head2
import HandS.HeadEnd
import HandS.HeadHook1
import HandS.HeadHook2
import HandS.HeadHook3
import HandS.HeadHook4
import PySem.Challenge.RW_postroad_k82_no_plan_text
set_option Elab.async false
set_option linter.all false
set_option maxRecDepth 100000
set_option maxHeartbeats 2000000
/-! Frozen data, owned cells, states: a small separation logic over the layer's readings. -/
namespace Sx
open PySem L2

/-! ### heaps -/
/-- B knows all that A knows -/
def Ex (A B : Hp) : Prop := ∀ x u, A x = some u → B x = some u
theorem Ex.rf {A : Hp} : Ex A A := fun _ _ q => q
theorem Ex.tr {A B C : Hp} (p : Ex A B) (q : Ex B C) : Ex A C := fun x u z => q x u (p x u z)
theorem Ex.mut {A B : Hp} {q : Addr} {u : HO} (s : Ex A B) (n : A q = none) : Ex A (upd B q u) := fun x v z => (upd_ne (ne_of_none z n)).trans (s x v z)
theorem Ex.new {A : Hp} {q : Addr} {u : HO} (n : A q = none) : Ex A (upd A q u) := Ex.rf.mut n
theorem Ex.free {A B : Hp} (s : Ex A B) {q : Addr} (n : B q = none) : A q = none := Option.eq_none_iff_forall_ne_some.mpr fun u z => by
  rw [s q u z] at n; cases n
theorem Ex.upd2 {A B : Hp} {q : Addr} {u : HO} (s : Ex A B) : Ex (upd A q u) (upd B q u) := fun x v z => by
  by_cases k : x = q
  · subst k; rw [upd_same] at z ⊢; exact z
  · rw [upd_ne k] at z ⊢; exact s x v z
theorem ex_rd {A B : Hp} {x : Addr} {u : HO} (s : Ex A B) : Rd A x u → Rd B x u := Or.imp (s x _) fun ⟨o, z⟩ => ⟨o, s x _ z⟩
theorem ex_l {K : PySem.W.Frag} {A B : Hp} {x : Addr} {vs : List V} (s : Ex A B) : SqL K A x vs → SqL K B x vs := Or.imp (ex_rd s) id
theorem ex_t {K : PySem.W.Frag} {A B : Hp} {x : Addr} {vs : List V} (s : Ex A B) : SqT K A x vs → SqT K B x vs := Or.imp (ex_rd s) id
def emp : Hp := fun _ => none
def one (p : Addr) (o : HO) : Hp := upd emp p o
def join (A B : Hp) : Hp := fun a => match A a with | some o => some o | none => B a
theorem join_l {A B : Hp} {a : Addr} {o : HO} (h : A a = some o) : join A B a = some o := by unfold join; rw [h]
theorem join_r {A B : Hp} {a : Addr} (h : A a = none) : join A B a = B a := by unfold join; rw [h]
theorem join_emp (A : Hp) : join A emp = A := by
  funext a; unfold join emp; cases A a <;> rfl
theorem emp_join (A : Hp) : join emp A = A := by
  funext a; unfold join emp; rfl
theorem join_some {A B : Hp} {a : Addr} {o : HO} (h : join A B a = some o) : A a = some o ∨ (A a = none ∧ B a = some o) := by
  unfold join at h
  cases q : A a with
  | some u => rw [q] at h; exact .inl h
  | none => rw [q] at h; exact .inr ⟨rfl, h⟩
theorem join_none {A B : Hp} {a : Addr} (h : join A B a = none) : A a = none ∧ B a = none := by
  unfold join at h
  cases q : A a with
  | some u => rw [q] at h; cases h
  | none => rw [q] at h; exact ⟨rfl, h⟩
theorem join_assoc (A B C : Hp) : join (join A B) C = join A (join B C) := by
  funext a; unfold join; cases A a <;> rfl
/-- nothing in common -/
def Dj (A B : Hp) : Prop := ∀ a o, A a = some o → B a = none
theorem Dj.sym {A B : Hp} (h : Dj A B) : Dj B A := fun a o e => by
  cases q : A a with
  | none => rfl
  | some u => rw [h a u q] at e; cases e
theorem Dj.comm {A B : Hp} (h : Dj A B) : join A B = join B A := by
  funext a
  unfold join
  cases q : A a with
  | none => cases B a <;> rfl
  | some u => rw [h a u q]
theorem Dj.emp (A : Hp) : Dj A emp := fun _ _ _ => rfl
theorem Dj.l {A B C : Hp} (h : Dj (join A B) C) : Dj A C := fun a o e => h a o (join_l e)
theorem Dj.r {A B C : Hp} (d : Dj A B) (h : Dj (join A B) C) : Dj B C := fun a o e => h a o (by rw [join_r (d.sym a o e)]; exact e)
theorem Dj.joinL {A B C : Hp} (h : Dj A C) (k : Dj B C) : Dj (join A B) C := fun a o e => by
  rcases join_some e with q | ⟨_, q⟩
  · exact h a o q
  · exact k a o q
theorem Ex.joinL {A B H : Hp} (h : Ex (join A B) H) : Ex A H := fun a o e => h a o (join_l e)
theorem Ex.joinR {A B H : Hp} (d : Dj A B) (h : Ex (join A B) H) : Ex B H := fun a o e => h a o (by rw [join_r (d.sym a o e)]; exact e)
theorem Ex.join {A B H : Hp} (h : Ex A H) (k : Ex B H) : Ex (join A B) H := fun a o e => by
  rcases join_some e with q | ⟨_, q⟩
  · exact h a o q
  · exact k a o q
theorem one_same {p : Addr} {o : HO} : one p o p = some o := upd_same
theorem one_some {p a : Addr} {o u : HO} (h : one p o a = some u) : a = p ∧ u = o := by
  unfold one upd emp at h
  by_cases e : a = p
  · rw [if_pos e] at h; exact ⟨e, (Option.some.inj h).symm⟩
  · rw [if_neg e] at h; cases h
theorem one_ne {p a : Addr} {o : HO} (h : a ≠ p) : one p o a = none := by
  unfold one; rw [upd_ne h]; rfl
theorem upd_one {p : Addr} {o u : HO} : upd (one p o) p u = one p u := upd_upd

/-! ### frozen data -/
/-- an exception, tracked -/
def exO (a : Addr) (cls : Value) (d : Option Addr) : HO := .ext fun h => ∃ oe, h.get? a = some oe ∧ Zc cls d oe ∧ ∃ vs, oe.data = .fields vs
inductive D where
  | non | bl (b : Bool) | int (i : Int) | str (x : Str) | adr (a : Addr) | ty (n : String)
  | lst (ds : List D) | tup (ds : List D) | ins (C : Addr) (fs : List (Str × D)) | scr (ds : List D) | dK (kvs : List (Key × D)) | dT (kvs : List (List Key × D)) | exc (C : Addr) (fs : List (Str × D)) | kt (k : List Key)

mutual
inductive Fd (K : PySem.W.Frag) (F : Hp) : V → D → Prop
  | non : Fd K F .non .non
  | bl (b : Bool) : Fd K F (.bl b) (.bl b)
  | int (i : Int) : Fd K F (.int i) (.int i)
  | str (x : Str) : Fd K F (.str x) (.str x)
  | adr (a : Addr) : Fd K F (.ref a) (.adr a)
  | ty (n : String) : Fd K F (.ty n) (.ty n)
  | lst {a : Addr} {vs : List V} {ds : List D} : F a = some (.lst vs) → FdAll K F vs ds → Fd K F (.ref a) (.lst ds)
  | tup {a : Addr} {vs : List V} {ds : List D} : SqT K F a vs → FdAll K F vs ds → Fd K F (.ref a) (.tup ds)
  | ins {a C dx : Addr} {vs : List (Str × V)} {fs : List (Str × D)} : F a = some (.ins C dx vs) → FdFs K F vs fs → Fd K F (.ref a) (.ins C fs)
  | scr {a : Addr} {vs : List V} {ds : List D} : SqL K F a vs → FdAll K F vs ds → Fd K F (.ref a) (.scr ds)
  | dK {a : Addr} {vs : List (Key × V)} {kvs : List (Key × D)} : F a = some (.dK vs) → FdFs K F vs kvs → Fd K F (.ref a) (.dK kvs)
  | dT {a : Addr} {vs : List (List Key × V)} {kvs : List (List Key × D)} : F a = some (.dT vs) → FdFs K F vs kvs → Fd K F (.ref a) (.dT kvs)
  | exc {a C : Addr} {vs : List (Str × V)} {fs : List (Str × D)} {d : Option Addr} : F a = some (exO a (.ref C) d) → (d = none ∧ vs = [] ∨ ∃ dx, d = some dx ∧ F dx = some (.xd vs)) → FdFs K F vs fs → Fd K F (.ref a) (.exc C fs)
  | kt {a : Addr} {k : List Key} : F a = some (.tup (k.map kV)) → Fd K F (.ref a) (.kt k)
inductive FdAll (K : PySem.W.Frag) (F : Hp) : List V → List D → Prop
  | nil : FdAll K F [] []
  | cons {v : V} {vs : List V} {d : D} {ds : List D} : Fd K F v d → FdAll K F vs ds → FdAll K F (v :: vs) (d :: ds)
inductive FdFs (K : PySem.W.Frag) (F : Hp) : {κ : Type} → List (κ × V) → List (κ × D) → Prop
  | nil {κ : Type} : FdFs K F (κ := κ) [] []
  | cons {κ : Type} {n : κ} {v : V} {vs : List (κ × V)} {d : D} {ds : List (κ × D)} : Fd K F v d → FdFs K F vs ds → FdFs K F ((n, v) :: vs) ((n, d) :: ds)
end

section
variable {K : PySem.W.Frag} {F F' : Hp}
mutual
theorem Fd.go (e : Ex F F') : ∀ {v : V} {d : D}, Fd K F v d → Fd K F' v d
  | _, _, .non => .non
  | _, _, .bl _ => .bl _
  | _, _, .int _ => .int _
  | _, _, .str _ => .str _
  | _, _, .adr _ => .adr _
  | _, _, .ty _ => .ty _
  | _, _, .lst s a => .lst (e _ _ s) (FdAll.go e a)
  | _, _, .tup s a => .tup (ex_t e s) (FdAll.go e a)
  | _, _, .ins s a => .ins (e _ _ s) (FdFs.go e a)
  | _, _, .scr s a => .scr (ex_l e s) (FdAll.go e a)
  | _, _, .dK s a => .dK (e _ _ s) (FdFs.go e a)
  | _, _, .dT s a => .dT (e _ _ s) (FdFs.go e a)
  | _, _, .exc s q a => .exc (e _ _ s) (q.imp id fun ⟨dx, h1, h2⟩ => ⟨dx, h1, e _ _ h2⟩) (FdFs.go e a)
  | _, _, .kt s => .kt (e _ _ s)
theorem FdAll.go (e : Ex F F') : ∀ {vs : List V} {ds : List D}, FdAll K F vs ds → FdAll K F' vs ds
  | _, _, .nil => .nil
  | _, _, .cons a b => .cons (Fd.go e a) (FdAll.go e b)
theorem FdFs.go (e : Ex F F') : ∀ {κ : Type} {vs : List (κ × V)} {ds : List (κ × D)}, FdFs K F vs ds → FdFs K F' vs ds
  | _, _, _, .nil => .nil
  | _, _, _, .cons a b => .cons (Fd.go e a) (FdFs.go e b)
end
theorem Fd.mono (e : Ex F F') (d : D) {v : V} (h : Fd K F v d) : Fd K F' v d := Fd.go e h
theorem FdAll.mono (e : Ex F F') (ds : List D) {vs : List V} (h : FdAll K F vs ds) : FdAll K F' vs ds := FdAll.go e h
theorem FdFs.mono {κ : Type} (e : Ex F F') (ds : List (κ × D)) {vs : List (κ × V)} (h : FdFs K F vs ds) : FdFs K F' vs ds := FdFs.go e h
theorem FdAll.length : ∀ {vs : List V} {ds : List D}, FdAll K F vs ds → vs.length = ds.length
  | _, _, .nil => rfl
  | _, _, .cons _ t => by rw [List.length_cons, List.length_cons, FdAll.length t]
theorem FdAll.get : ∀ {vs : List V} {ds : List D} {i : Nat} {d : D}, FdAll K F vs ds → ds[i]? = some d → ∃ v, vs[i]? = some v ∧ Fd K F v d
  | _, _, i, _, .nil, e => by simp at e
  | _, _, 0, _, .cons h _, e => by simp at e; subst e; exact ⟨_, rfl, h⟩
  | _, _, i + 1, _, .cons _ t, e => by
    obtain ⟨v, h1, h2⟩ := FdAll.get (i := i) t (by simpa using e)
    exact ⟨v, by simpa using h1, h2⟩
theorem FdAll.getV : ∀ {vs : List V} {ds : List D} {i : Nat} {v : V}, FdAll K F vs ds → vs[i]? = some v → ∃ d, ds[i]? = some d ∧ Fd K F v d
  | _, _, i, _, .nil, e => by simp at e
  | _, _, 0, _, .cons h _, e => by simp at e; subst e; exact ⟨_, rfl, h⟩
  | _, _, i + 1, _, .cons _ t, e => by
    obtain ⟨v, h1, h2⟩ := FdAll.getV (i := i) t (by simpa using e)
    exact ⟨v, by simpa using h1, h2⟩
theorem FdAll.app : ∀ {vs ws : List V} {ds es : List D}, FdAll K F vs ds → FdAll K F ws es → FdAll K F (vs ++ ws) (ds ++ es)
  | _, _, _, _, .nil, h => h
  | _, _, _, _, .cons h t, k => .cons h (FdAll.app t k)
theorem FdAll.take : ∀ {vs : List V} {ds : List D} (n : Nat), FdAll K F vs ds → FdAll K F (vs.take n) (ds.take n)
  | _, _, 0, _ => by simp; exact .nil
  | _, _, _ + 1, .nil => by simp; exact .nil
  | _, _, n + 1, .cons h t => .cons h (FdAll.take n t)
theorem FdAll.drop : ∀ {vs : List V} {ds : List D} (n : Nat), FdAll K F vs ds → FdAll K F (vs.drop n) (ds.drop n)
  | _, _, 0, h => h
  | _, _, _ + 1, .nil => by simp; exact .nil
  | _, _, n + 1, .cons _ t => FdAll.drop n t
theorem FdAll.set : ∀ {vs : List V} {ds : List D} (n : Nat) {v : V} {d : D}, FdAll K F vs ds → Fd K F v d → FdAll K F (vs.set n v) (ds.set n d)
  | _, _, _, _, _, .nil, _ => .nil
  | _, _, 0, _, _, .cons _ t, k => .cons k t
  | _, _, n + 1, _, _, .cons h t, k => .cons h (FdAll.set n t k)
theorem FdAll.rev : ∀ {vs : List V} {ds : List D}, FdAll K F vs ds → FdAll K F vs.reverse ds.reverse
  | _, _, .nil => .nil
  | _, _, .cons h t => by rw [List.reverse_cons, List.reverse_cons]; exact (FdAll.rev t).app (.cons h .nil)
theorem FdAll.replicate {v : V} {d : D} (h : Fd K F v d) : ∀ n, FdAll K F (List.replicate n v) (List.replicate n d)
  | 0 => .nil
  | n + 1 => .cons h (FdAll.replicate h n)
theorem FdFs.names {κ : Type} : ∀ {vs : List (κ × V)} {ds : List (κ × D)}, FdFs K F vs ds → vs.map (·.1) = ds.map (·.1)
  | _, _, .nil => rfl
  | _, _, .cons _ t => by rw [List.map_cons, List.map_cons, FdFs.names t]
theorem FdFs.length {κ : Type} {vs : List (κ × V)} {ds : List (κ × D)} (h : FdFs K F vs ds) : vs.length = ds.length := by
  have e := congrArg List.length h.names
  rw [List.length_map, List.length_map] at e
  exact e
theorem FdFs.look {f : Str} {d : D} : ∀ {vs : List (Str × V)} {ds : List (Str × D)}, FdFs K F vs ds → ds.lookup f = some d → ∃ v, vs.lookup f = some v ∧ Fd K F v d
  | _, _, .nil, e => by simp at e
  | _, _, .cons (n := n) h t, e => by
    rw [List.lookup_cons] at e ⊢
    cases q : (f == n) with
    | true => rw [q] at e; cases e; exact ⟨_, rfl, h⟩
    | false => rw [q] at e; exact FdFs.look t e
theorem FdFs.nolook {f : Str} : ∀ {vs : List (Str × V)} {ds : List (Str × D)}, FdFs K F vs ds → ds.lookup f = none → vs.lookup f = none
  | _, _, .nil, _ => rfl
  | _, _, .cons (n := n) h t, e => by
    rw [List.lookup_cons] at e ⊢
    cases q : (f == n) with
    | true => rw [q] at e; cases e
    | false => rw [q] at e; exact FdFs.nolook t e
def putD (f : Str) (d : D) : List (Str × D) → List (Str × D)
  | [] => [(f, d)]
  | (g, x) :: r => if g = f then (g, d) :: r else (g, x) :: putD f d r
theorem FdFs.put {f : Str} {v : V} {d : D} (k : Fd K F v d) : ∀ {vs : List (Str × V)} {ds : List (Str × D)}, FdFs K F vs ds → FdFs K F (putF f v vs) (putD f d ds)
  | _, _, .nil => .cons k .nil
  | _, _, .cons (n := n) h t => by
    unfold putF putD
    by_cases e : n = f
    · rw [if_pos e, if_pos e]; exact .cons k t
    · rw [if_neg e, if_neg e]; exact .cons h (FdFs.put k t)
theorem FdAll.ints : ∀ {vs : List V} {ns : List Int}, FdAll K F vs (ns.map D.int) → vs = ns.map V.int
  | _, [], h => by cases h; rfl
  | _, n :: ns, h => by cases h with | cons a b => cases a; rw [List.map_cons, FdAll.ints b]
theorem FdAll.strs : ∀ {vs : List V} {ns : List Str}, FdAll K F vs (ns.map D.str) → vs = ns.map V.str
  | _, [], h => by cases h; rfl
  | _, n :: ns, h => by cases h with | cons a b => cases a; rw [List.map_cons, FdAll.strs b]
theorem FdAll.bls : ∀ {vs : List V} {ns : List Bool}, FdAll K F vs (ns.map D.bl) → vs = ns.map V.bl
  | _, [], h => by cases h; rfl
  | _, n :: ns, h => by cases h with | cons a b => cases a; rw [List.map_cons, FdAll.bls b]
theorem FdAll.ofInts : ∀ (ns : List Int), FdAll K F (ns.map V.int) (ns.map D.int)
  | [] => .nil
  | n :: ns => .cons (.int n) (FdAll.ofInts ns)
theorem FdAll.ofStrs : ∀ (ns : List Str), FdAll K F (ns.map V.str) (ns.map D.str)
  | [] => .nil
  | n :: ns => .cons (.str n) (FdAll.ofStrs ns)
end

/-! ### owned cells -/
structure Res where
  P : Hp → Hp → Prop
  mono : ∀ {F F' M : Hp}, Ex F F' → P F M → P F' M
  nt : ∀ {F M : Hp}, P F M → ∀ x xs, M x ≠ some (.tup xs)
def Rs : List Res → Hp → Hp → Prop
  | [], _, M => M = emp
  | r :: l, F, M => ∃ A B, M = join A B ∧ Dj A B ∧ r.P F A ∧ Rs l F B
theorem Rs.mono {F F' : Hp} (e : Ex F F') : ∀ {l : List Res} {M : Hp}, Rs l F M → Rs l F' M
  | [], _, h => h
  | r :: l, _, ⟨A, B, h1, h2, h3, h4⟩ => ⟨A, B, h1, h2, r.mono e h3, Rs.mono e h4⟩
theorem Rs.nt {F : Hp} : ∀ {l : List Res} {M : Hp}, Rs l F M → ∀ x xs, M x ≠ some (.tup xs)
  | [], M, h, x, xs, e => by
    have h : M = emp := h
    subst h; cases e
  | r :: l, M, ⟨A, B, h1, _, h3, h4⟩, x, xs, e => by
    subst h1
    rcases join_some e with q | ⟨_, q⟩
    · exact r.nt h3 x xs q
    · exact Rs.nt h4 x xs q
theorem Rs.split {F : Hp} : ∀ {l k : List Res} {M : Hp}, Rs (l ++ k) F M → ∃ A B, M = join A B ∧ Dj A B ∧ Rs l F A ∧ Rs k F B
  | [], _, M, h => ⟨emp, M, (emp_join M).symm, (Dj.emp M).sym, rfl, h⟩
  | r :: l, k, M, ⟨A, B, h1, h2, h3, h4⟩ => by
    obtain ⟨A', B', g1, g2, g3, g4⟩ := Rs.split h4
    subst g1
    refine ⟨join A A', B', by rw [h1, join_assoc], ?_, ⟨A, A', rfl, (Dj.l h2.sym).sym, h3, g3⟩, g4⟩
    exact Dj.joinL ((Dj.r g2 h2.sym).sym) g2
theorem Rs.app {F : Hp} : ∀ {l k : List Res} {A B : Hp}, Rs l F A → Rs k F B → Dj A B → Rs (l ++ k) F (join A B)
  | [], _, _, _, h, g, _ => by
    have e : _ = emp := h
    subst e
    rw [emp_join]; exact g
  | r :: l, k, _, B, ⟨A1, A2, h1, h2, h3, h4⟩, g, d => by
    subst h1
    rw [join_assoc]
    refine ⟨A1, join A2 B, rfl, ?_, h3, Rs.app h4 g (Dj.r h2 d)⟩
    exact (Dj.joinL h2.sym (Dj.l d).sym).sym
/-- the k-th one apart -/
theorem Rs.at {F : Hp} : ∀ {l : List Res} {k : Nat} {r : Res} {M : Hp}, l[k]? = some r → Rs l F M → ∃ A B, M = join A B ∧ Dj A B ∧ r.P F A ∧ ∀ r' A' F', Ex F F' → r'.P F' A' → Dj A' B → Rs (l.set k r') F' (join A' B)
  | [], k, r, M, e, _ => by simp at e
  | r0 :: l, 0, r, M, e, ⟨A, B, h1, h2, h3, h4⟩ => by
    simp at e; subst e
    exact ⟨A, B, h1, h2, h3, fun r' A' F' x p d => ⟨A', B, rfl, d, p, Rs.mono x h4⟩⟩
  | r0 :: l, k + 1, r, M, e, ⟨A, B, h1, h2, h3, h4⟩ => by
    obtain ⟨A2, B2, g1, g2, g3, g4⟩ := Rs.at (k := k) (r := r) (by simpa using e) h4
    subst g1
    refine ⟨A2, join A B2, ?_, ?_, g3, fun r' A' F' x p d => ?_⟩
    · rw [h1, ← join_assoc, ← join_assoc, (Dj.l h2.sym).comm]
    · exact (Dj.joinL (Dj.l h2.sym).sym g2.sym).sym
    · rw [List.set_cons_succ]
      have dA : Dj A A' := Dj.l d.sym
      have dAB : Dj A B2 := (Dj.r g2 h2.sym).sym
      have dB : Dj A' B2 := (Dj.r dAB d.sym).sym
      refine ⟨A, join A' B2, ?_, ?_, r0.mono x h3, g4 r' A' F' x p dB⟩
      · rw [← join_assoc, ← join_assoc, dA.comm]
      · exact (Dj.joinL dA.sym dAB.sym).sym

/-! ### states -/
structure Tm where
  P : Hp → Prop
  mono : ∀ {F F' : Hp}, Ex F F' → P F → P F'
def Tm.tt : Tm := ⟨fun _ => True, fun _ _ => trivial⟩
def Tm.and (K : PySem.W.Frag) (T : Tm) (v : V) (d : D) : Tm := ⟨fun F => Fd K F v d ∧ T.P F, fun e h => ⟨Fd.mono e d h.1, T.mono e h.2⟩⟩
def Tm.ands (K : PySem.W.Frag) (T : Tm) (vs : List V) (ds : List D) : Tm := ⟨fun F => FdAll K F vs ds ∧ T.P F, fun e h => ⟨FdAll.mono e ds h.1, T.mono e h.2⟩⟩
def Tm.ex (T : Tm) (F0 : Hp) : Tm := ⟨fun F => Ex F0 F ∧ T.P F, fun e h => ⟨h.1.tr e, T.mono e h.2⟩⟩
abbrev Gm := List (Option D)
def nth : Gm → Nat → Option D
  | [], _ => none
  | d :: _, 0 => d
  | _ :: r, i + 1 => nth r i
inductive Sl (K : PySem.W.Frag) (F : Hp) : Gm → St → Prop
  | nil : Sl K F [] []
  | any {o : Option V} {g : Gm} {σ : St} : Sl K F g σ → Sl K F (none :: g) (o :: σ)
  | cons {v : V} {d : D} {g : Gm} {σ : St} : Fd K F v d → Sl K F g σ → Sl K F (some d :: g) (some v :: σ)
section
variable {K : PySem.W.Frag} {F F' : Hp}
theorem Sl.mono (e : Ex F F') : ∀ {g : Gm} {σ : St}, Sl K F g σ → Sl K F' g σ
  | _, _, .nil => .nil
  | _, _, .any h => .any (Sl.mono e h)
  | _, _, .cons a h => .cons (Fd.mono e _ a) (Sl.mono e h)
theorem Sl.nth : ∀ {g : Gm} {σ : St} {i : Nat} {d : D}, Sl K F g σ → Sx.nth g i = some d → ∃ v, σ[i]? = some (some v) ∧ Fd K F v d
  | _, _, _, _, .nil, e => by cases e
  | _, _, 0, _, .any _, e => by cases e
  | _, _, i + 1, d, .any h, e => by
    obtain ⟨v, h1, h2⟩ := Sl.nth (i := i) (d := d) h e
    exact ⟨v, by simpa using h1, h2⟩
  | _, _, 0, _, .cons a _, e => by cases e; exact ⟨_, rfl, a⟩
  | _, _, i + 1, d, .cons _ h, e => by
    obtain ⟨v, h1, h2⟩ := Sl.nth (i := i) (d := d) h e
    exact ⟨v, by simpa using h1, h2⟩
theorem Sl.set : ∀ {g : Gm} {σ : St} (i : Nat) {v : V} {d : D}, Sl K F g σ → Fd K F v d → Sl K F (g.set i (some d)) (σ.set i (some v))
  | _, _, _, _, _, .nil, _ => .nil
  | _, _, 0, _, _, .any h, k => .cons k h
  | _, _, i + 1, _, _, .any h, k => .any (Sl.set i h k)
  | _, _, 0, _, _, .cons _ h, k => .cons k h
  | _, _, i + 1, _, _, .cons a h, k => .cons a (Sl.set i h k)
theorem Sl.clear : ∀ {g : Gm} {σ : St} (i : Nat) {o : Option V}, Sl K F g σ → Sl K F (g.set i none) (σ.set i o)
  | _, _, _, _, .nil => .nil
  | _, _, 0, _, .any h => .any h
  | _, _, i + 1, _, .any h => .any (Sl.clear i h)
  | _, _, 0, _, .cons _ h => .any h
  | _, _, i + 1, _, .cons a h => .cons a (Sl.clear i h)
/-- forgetting -/
inductive Wk : Gm → Gm → Prop
  | nil : Wk [] []
  | any {o : Option D} {g g' : Gm} : Wk g g' → Wk (o :: g) (none :: g')
  | keep {o : Option D} {g g' : Gm} : Wk g g' → Wk (o :: g) (o :: g')
theorem Wk.rf : ∀ {g : Gm}, Wk g g
  | [] => .nil
  | _ :: _ => .keep Wk.rf
theorem Sl.weak : ∀ {g g' : Gm} {σ : St}, Wk g g' → Sl K F g σ → Sl K F g' σ
  | _, _, _, .nil, h => h
  | _, _, _, .any w, .any h => .any (Sl.weak w h)
  | _, _, _, .any w, .cons _ h => .any (Sl.weak w h)
  | _, _, _, .keep w, .any h => .any (Sl.weak w h)
  | _, _, _, .keep w, .cons a h => .cons a (Sl.weak w h)
theorem Sl.len : ∀ {g : Gm} {σ : St}, Sl K F g σ → g.length = σ.length
  | _, _, .nil => rfl
  | _, _, .any h => by rw [List.length_cons, List.length_cons, Sl.len h]
  | _, _, .cons _ h => by rw [List.length_cons, List.length_cons, Sl.len h]
theorem Sl.nones : ∀ n, Sl K F (List.replicate n none) (List.replicate n none)
  | 0 => .nil
  | n + 1 => .any (Sl.nones n)
theorem Sl.args : ∀ {vs : List V} {ds : List D} (n : Nat), FdAll K F vs ds → Sl K F (ds.map some ++ List.replicate n none) (vs.map some ++ List.replicate n none)
  | _, _, n, .nil => Sl.nones n
  | _, _, n, .cons a h => .cons a (Sl.args n h)
end
/-- a def's entry: what was frozen, what was owned, the heap -/
structure En where
  F : Hp
  M : Hp
  H : Hp
structure At (K : PySem.W.Frag) (e : En) (g : Gm) (T : Tm) (l : List Res) (σ : St) (H F M : Hp) : Prop where
  exF : Ex F H
  exM : Ex M H
  dj : Dj F M
  eF : Ex e.F F
  nF : ∀ a o, F a = some o → e.F a = some o ∨ e.H a = none ∨ (∃ u, e.M a = some u) ∨ ∃ xs, o = .tup xs
  nM : ∀ a o, M a = some o → e.H a = none ∨ ∃ u, e.M a = some u
  fr : ∀ a o, e.H a = some o → e.M a = none → H a = some o
  sl : Sl K F g σ
  tm : T.P F
  rs : Rs l F M
def S (K : PySem.W.Frag) (e : En) (g : Gm) (T : Tm) (l : List Res) (σ : St) (H : Hp) : Prop := ∃ F M, At K e g T l σ H F M
/-- something new is frozen -/
structure New (F H F' H' : Hp) : Prop where
  f : Ex F F'
  h : Ex H H'
  i : Ex F' H'
  n : ∀ a o, F' a = some o → F a = some o ∨ H a = none ∨ ∃ xs, o = .tup xs
theorem New.rf {F H : Hp} (e : Ex F H) : New F H F H := ⟨.rf, .rf, e, fun _ _ h => .inl h⟩
theorem New.tr {F H F1 H1 F2 H2 : Hp} (a : New F H F1 H1) (b : New F1 H1 F2 H2) : New F H F2 H2 :=
  ⟨a.f.tr b.f, a.h.tr b.h, b.i, fun x o h => by
    rcases b.n x o h with q | q | q
    · exact a.n x o q
    · exact .inr (.inl (a.h.free q))
    · exact .inr (.inr q)⟩
theorem New.upd {F H : Hp} {p : Addr} {o : HO} (e : Ex F H) (h : H p = none) : New F H (upd F p o) (L2.upd H p o) :=
  ⟨.new (e.free h), .new h, e.upd2, fun a u q => by
    by_cases z : a = p
    · subst z; exact .inr (.inl h)
    · rw [upd_ne z] at q; exact .inl q⟩
/-- the heap grows without being frozen -/
theorem New.grow {F H H' : Hp} (e : Ex F H) (h : Ex H H') : New F H F H' := ⟨.rf, h, e.tr h, fun _ _ q => .inl q⟩
section
variable {K : PySem.W.Frag} {e : En} {g g' : Gm} {T T' : Tm} {l l' : List Res} {σ σ' : St} {H H' F F' M M' : Hp}
theorem At.new (a : At K e g T l σ H F M) (n : New F H F' H') : At K e g T l σ H' F' M :=
  ⟨n.i, a.exM.tr n.h, fun x o h => by
    rcases n.n x o h with q | q | ⟨xs, q⟩
    · exact a.dj x o q
    · exact a.exM.free q
    · cases z : M x with
      | none => rfl
      | some u =>
        have e1 := n.h x u (a.exM x u z)
        rw [n.i x o h] at e1
        cases e1
        exact absurd (q ▸ z) (a.rs.nt x xs),
   a.eF.tr n.f, fun x o h => by
    rcases n.n x o h with q | q | q
    · exact a.nF x o q
    · by_cases z : e.M x = none
      · right; left
        cases w : e.H x with
        | none => rfl
        | some u => rw [a.fr x u w z] at q; cases q
      · right; right; left
        cases w : e.M x with
        | none => exact absurd w z
        | some u => exact ⟨u, rfl⟩
    · exact .inr (.inr (.inr q)),
   a.nM, fun x o h1 h2 => n.h x o (a.fr x o h1 h2), a.sl.mono n.f, T.mono n.f a.tm, a.rs.mono n.f⟩
theorem At.tmp (a : At K e g T l σ H F M) (h : T'.P F) : At K e g T' l σ H F M := ⟨a.exF, a.exM, a.dj, a.eF, a.nF, a.nM, a.fr, a.sl, h, a.rs⟩
theorem At.slots (a : At K e g T l σ H F M) (h : Sl K F g' σ') : At K e g' T l σ' H F M := ⟨a.exF, a.exM, a.dj, a.eF, a.nF, a.nM, a.fr, h, a.tm, a.rs⟩
theorem At.entry (ef : Ex F H) (em : Ex M H) (d : Dj F M) (s : Sl K F g σ) (t : T.P F) (r : Rs l F M) : At K ⟨F, M, H⟩ g T l σ H F M :=
  ⟨ef, em, d, .rf, fun _ _ h => .inl h, fun _ o h => .inr ⟨o, h⟩, fun _ _ h _ => h, s, t, r⟩
/-- a part of the state apart: what runs on F, A (of M = join A B) gives back the whole -/
theorem At.frame {A B : Hp} {lA lB : List Res} (a : At K e g T l σ H F (join A B)) (d : Dj A B) (rB : Rs lB F B) {g2 : Gm} {σ2 : St} {T2 : Tm} {F2 M2 : Hp} (b : At K ⟨F, A, H⟩ g2 T2 lA σ2 H' F2 M2) :
    At K e g T (lA ++ lB) σ H' F2 (join M2 B) := by
  have eB : Ex B H' := fun x o h => b.fr x o (a.exM x o (by rw [join_r (d.sym x o h)]; exact h)) (d.sym x o h)
  have dB : Dj M2 B := fun x o h => by
    cases q : B x with
    | none => rfl
    | some u =>
      rcases b.nM x o h with z | ⟨w, z⟩
      · have := a.exM x u (by rw [join_r (d.sym x u q)]; exact q)
        rw [show H x = none from z] at this; cases this
      · rw [d x w z] at q; cases q
  refine ⟨b.exF, b.exM.join eB, ?_, a.eF.tr b.eF, ?_, ?_, ?_, a.sl.mono b.eF, T.mono b.eF a.tm, Rs.app b.rs (rB.mono b.eF) dB⟩
  · intro x o h
    cases q : join M2 B x with
    | none => rfl
    | some u =>
      rcases join_some q with z | ⟨_, z⟩
      · rw [b.dj x o h] at z; cases z
      · rcases b.nF x o h with w | w | ⟨w, y⟩ | ⟨xs, w⟩
        · have := a.dj x o w
          rw [join_r (d.sym x u z), z] at this; cases this
        · have := a.exM x u (by rw [join_r (d.sym x u z)]; exact z)
          rw [show H x = none from w] at this; cases this
        · rw [d x w y] at z; cases z
        · have e1 := eB x u z
          rw [b.exF x o h] at e1
          cases e1
          exact absurd (join_r (A := A) (d.sym x o z) ▸ w ▸ z) (a.rs.nt x xs)
  · intro x o h
    rcases b.nF x o h with w | w | ⟨w, y⟩ | w
    · exact a.nF x o w
    · cases q : e.H x with
      | none => exact .inr (.inl rfl)
      | some u =>
        cases z : e.M x with
        | some y => exact .inr (.inr (.inl ⟨y, rfl⟩))
        | none =>
          have w' : H x = none := w
          rw [a.fr x u q z] at w'; cases w'
    · rcases a.nM x w (join_l y) with q | q
      · exact .inr (.inl q)
      · exact .inr (.inr (.inl q))
    · exact .inr (.inr (.inr w))
  · intro x o h
    rcases join_some h with z | ⟨_, z⟩
    · rcases b.nM x o z with w | ⟨w, y⟩
      · cases q : e.H x with
        | none => exact .inl rfl
        | some u =>
          cases k : e.M x with
          | some y => exact .inr ⟨y, rfl⟩
          | none =>
            have w' : H x = none := w
            rw [a.fr x u q k] at w'; cases w'
      · exact a.nM x w (join_l y)
    · exact a.nM x o (by rw [join_r (d.sym x o z)]; exact z)
  · intro x o h1 h2
    refine b.fr x o (a.fr x o h1 h2) ?_
    show A x = none
    cases q : A x with
    | none => rfl
    | some u =>
      rcases a.nM x u (join_l q) with z | ⟨w, z⟩
      · rw [h1] at z; cases z
      · rw [h2] at z; cases z
/-- the k-th one first -/
theorem perm_at {r : Res} : ∀ {l : List Res} {k : Nat}, l[k]? = some r → l.Perm (r :: l.eraseIdx k)
  | [], _, h => by simp at h
  | a :: l, 0, h => by simp at h; subst h; exact .refl _
  | a :: l, k + 1, h => by
    have ih := perm_at (l := l) (k := k) (by simpa using h)
    rw [List.eraseIdx_cons_succ]
    exact (ih.cons a).trans (.swap _ _ _)
/-- lk is a part of l -/
def SubR (l lk : List Res) : Prop := ∃ junk, l.Perm (lk ++ junk)
theorem subr0 {l : List Res} : SubR l [] := ⟨l, .refl _⟩
theorem subr1 {l : List Res} {r : Res} (k : Nat) (h : l[k]? = some r) : SubR l [r] := ⟨l.eraseIdx k, perm_at h⟩
theorem subr2 {l : List Res} {r r2 : Res} (k k2 : Nat) (h : l[k]? = some r) (h2 : (l.eraseIdx k)[k2]? = some r2) : SubR l [r, r2] := ⟨(l.eraseIdx k).eraseIdx k2, (perm_at h).trans ((perm_at h2).cons r)⟩
theorem Rs.permA {F : Hp} : ∀ {l k : List Res}, l.Perm k → ∀ {M : Hp}, Rs l F M → Rs k F M := by
  intro l k h
  induction h with
  | nil => exact fun h => h
  | cons x _ ih => exact fun ⟨A, B, h1, h2, h3, h4⟩ => ⟨A, B, h1, h2, h3, ih h4⟩
  | swap x y l =>
    rintro M ⟨A, B, h1, h2, h3, ⟨A', B', g1, g2, g3, g4⟩⟩
    subst g1; subst h1
    have dAA : Dj A A' := (Dj.l h2.sym).sym
    have dAB : Dj A B' := (Dj.r g2 h2.sym).sym
    exact ⟨A', join A B', by rw [← join_assoc, ← join_assoc, dAA.comm], (Dj.joinL dAA g2.sym).sym, g3, A, B', rfl, dAB, h3, g4⟩
  | trans _ _ h1 h2 => exact fun h => h2 (h1 h)
theorem Rs.sub {F M H : Hp} {l lk : List Res} (s : SubR l lk) (h : Rs l F M) (e : Ex M H) : ∃ M', Rs lk F M' ∧ Ex M' H := by
  obtain ⟨junk, p⟩ := s
  obtain ⟨A, B, rfl, _, h1, _⟩ := Rs.split (Rs.permA p h)
  exact ⟨A, h1, fun x o q => e x o (join_l q)⟩
theorem S.weak (s : S K e g T l σ H) (w : Wk g g') : S K e g' T l σ H := let ⟨F, M, a⟩ := s; ⟨F, M, a.slots (a.sl.weak w)⟩
end
end Sx
set_option Elab.async false
set_option linter.all false
set_option maxRecDepth 100000
set_option maxHeartbeats 2000000
/-! Judgements: expressions, tests, arguments, blocks over states. -/
namespace Sx
open PySem L2

/-! ### the weakest readings -/
def wpE (X : Cx) (e : Expr) : TE := fun σ H Q => ∀ pins s, Inv X pins σ H s → wpAny (model X.prog X.w) X.A (eval e X.env) (EP X pins σ Q) X.xe s
def wpT (X : Cx) (e : Expr) : TT := fun σ H Q => ∀ pins s, Inv X pins σ H s → wpAny (model X.prog X.w) X.A (isTrue e X.env (eval e X.env)) (TP X pins σ Q) X.xe s
def wpW (X : Cx) (e : Expr) : TT := fun σ H Q => ∀ whole pins s, Inv X pins σ H s → wpAny (model X.prog X.w) X.A (isTrue e X.env whole) (TP X pins σ Q) X.xe s
def wpA (X : Cx) (es : List Expr) : TA := fun σ H Q => ∀ pos pins s, Inv X pins σ H s → wpAny (model X.prog X.w) X.A (spliced (backTo pos (starEach es X.env))) (AP X pins σ Q) X.xe s
def wpS (X : Cx) (sts : List Stmt) : TS := fun D σ H => ∀ pins s, Inv X pins σ H s → wpAny (model X.prog X.w) X.A (execs sts X.env) (SP X pins D) X.xe s
section
variable {X : Cx} {σ : L2.St} {H : Hp}
theorem pe_wp {e : Expr} : PE X e (wpE X e) := ⟨fun pins s _ _ _ I h => h pins s I⟩
theorem pt_wp {e : Expr} : PT X e (wpT X e) := ⟨fun pins s _ _ _ I h => h pins s I⟩
theorem pw_wp {e : Expr} : PW X e (wpW X e) := ⟨fun whole pins s _ _ _ I h => h whole pins s I⟩
theorem pa_wp {es : List Expr} : PA X es (wpA X es) := ⟨fun pos pins s _ _ _ I h => h pos pins s I⟩
theorem pss_wp {sts : List Stmt} : PSs X sts (wpS X sts) := ⟨fun pins s _ _ _ I h => h pins s I⟩
theorem wpE_of {e : Expr} {t : TE} {Q : VK} (h : PE X e t) (q : t σ H Q) : wpE X e σ H Q := fun pins s I => h.run pins s σ H Q I q
theorem wpT_of {e : Expr} {t : TT} {Q : Bool → Hp → Prop} (h : PT X e t) (q : t σ H Q) : wpT X e σ H Q := fun pins s I => h.run pins s σ H Q I q
theorem wpW_of {e : Expr} {t : TT} {Q : Bool → Hp → Prop} (h : PW X e t) (q : t σ H Q) : wpW X e σ H Q := fun whole pins s I => h.run whole pins s σ H Q I q
theorem wpA_of {es : List Expr} {t : TA} {Q : List V → Hp → Prop} (h : PA X es t) (q : t σ H Q) : wpA X es σ H Q := fun pos pins s I => h.run pos pins s σ H Q I q
theorem wpS_of {sts : List Stmt} {t : TS} {D : Ends} (h : PSs X sts t) (q : t D σ H) : wpS X sts D σ H := fun pins s I => h.run pins s σ H D I q
end

/-! ### judgements -/
/-- e evaluates to the datum d, changing nothing that is owned -/
def Px (X : Cx) (e : Expr) (g : Gm) (l : List Res) (d : D) : Prop := ∀ en T σ H (Q : VK), S X.K en g T l σ H → (∀ v H', S X.K en g (T.and X.K v d) l σ H' → Q v H') → wpE X e σ H Q
/-- e evaluates to one of the data that Psi tells, with what is owned then -/
def Ev (X : Cx) (e : Expr) (g : Gm) (l : List Res) (Psi : D → List Res → Prop) : Prop := ∀ en T σ H (Q : VK), S X.K en g T l σ H → (∀ v d l' H', Psi d l' → S X.K en g (T.and X.K v d) l' σ H' → Q v H') → wpE X e σ H Q
def Pa (X : Cx) (es : List Expr) (g : Gm) (l : List Res) (ds : List D) : Prop := ∀ en T σ H (Q : List V → Hp → Prop), S X.K en g T l σ H → (∀ vs H', S X.K en g (T.ands X.K vs ds) l σ H' → Q vs H') → wpA X es σ H Q
def Ts (X : Cx) (e : Expr) (g : Gm) (l : List Res) (b : Bool) : Prop := ∀ en T σ H (Q : Bool → Hp → Prop), S X.K en g T l σ H → (∀ H', S X.K en g T l σ H' → Q b H') → wpT X e σ H Q
def Tw (X : Cx) (e : Expr) (g : Gm) (l : List Res) (b : Bool) : Prop := ∀ en T σ H (Q : Bool → Hp → Prop), S X.K en g T l σ H → (∀ H', S X.K en g T l σ H' → Q b H') → wpW X e σ H Q
/-- operations on values -/
def Op1 (K : PySem.W.Frag) (l : List Res) (r : V → Hp → VK → Prop) (a d : D) : Prop := ∀ F M H v (Q : VK), Ex F H → Ex M H → Dj F M → Rs l F M → Fd K F v a → (∀ v F' H', New F H F' H' → Fd K F' v d → Q v H') → r v H Q
def Op2 (K : PySem.W.Frag) (l : List Res) (r : R2) (a b d : D) : Prop := ∀ F M H v u (Q : VK), Ex F H → Ex M H → Dj F M → Rs l F M → Fd K F v a → Fd K F u b → (∀ v F' H', New F H F' H' → Fd K F' v d → Q v H') → r v u H Q
def OpN (K : PySem.W.Frag) (l : List Res) (r : List V → Hp → VK → Prop) (as : List D) (d : D) : Prop := ∀ F M H vs (Q : VK), Ex F H → Ex M H → Dj F M → Rs l F M → FdAll K F vs as → (∀ v F' H', New F H F' H' → Fd K F' v d → Q v H') → r vs H Q
def OpM (K : PySem.W.Frag) (l : List Res) (r : V → List V → Hp → VK → Prop) (a : D) (as : List D) (d : D) : Prop := ∀ F M H v vs (Q : VK), Ex F H → Ex M H → Dj F M → Rs l F M → Fd K F v a → FdAll K F vs as → (∀ v F' H', New F H F' H' → Fd K F' v d → Q v H') → r v vs H Q

/-- what is wanted behind a block -/
structure Po where
  nx : Gm → List Res → Prop
  rt : D → List Res → Prop
  bk : Gm → List Res → Prop := fun _ _ => False
  ct : Gm → List Res → Prop := fun _ _ => False
  ex : Value → Option Addr → Gm → List Res → Prop := fun _ _ _ _ => False
structure Mt (K : PySem.W.Frag) (W : L2.WX) (en : En) (T : Tm) (Φ : Po) (D : Ends) : Prop where
  nx : ∀ g l σ H, Φ.nx g l → S K en g T l σ H → D.nx σ H
  rt : ∀ d l v H, Φ.rt d l → S K en [] (T.and K v d) l [] H → D.rt v H
  bk : ∀ g l σ H, Φ.bk g l → S K en g T l σ H → D.bk σ H
  ct : ∀ g l σ H, Φ.ct g l → S K en g T l σ H → D.ct σ H
  ex : ∀ cls d g l σ H, Φ.ex cls d g l → S K en g T l σ H → W cls d σ H
def Blk (X : Cx) (W : WX) (sts : List Stmt) (g : Gm) (l : List Res) (Φ : Po) : Prop := ∀ en T σ H D, S X.K en g T l σ H → Mt X.K W en T Φ D → wpS X sts D σ H

section
variable {X : Cx} {W : WX} {g g' : Gm} {l l' : List Res} {Φ : Po} {e e2 a b c o : Expr} {es : List Expr} {d d1 d2 d3 : D} {pos p : Pos}

theorem Tm.and_of {K : PySem.W.Frag} {T : Tm} {v : V} {d : D} {F : Hp} (h : (T.and K v d).P F) : Fd K F v d ∧ T.P F := h
theorem S.drop {K : PySem.W.Frag} {en : En} {T : Tm} {σ : L2.St} {H : Hp} {v : V} {d : D} (s : S K en g (T.and K v d) l σ H) : S K en g T l σ H := let ⟨F, M, a⟩ := s; ⟨F, M, a.tmp a.tm.2⟩
theorem S.slotless {K : PySem.W.Frag} {en : En} {T : Tm} {σ : L2.St} {H : Hp} (s : S K en g T l σ H) : S K en [] T l [] H := let ⟨F, M, a⟩ := s; ⟨F, M, a.slots .nil⟩

/-! ### expressions -/
theorem px_var {i : Nat} (h : PE X e (tVar i)) (hd : nth g i = some d) : Px X e g l d := fun en T σ H Q s k => wpE_of h (by
  obtain ⟨F, M, a⟩ := s
  obtain ⟨v, h1, h2⟩ := a.sl.nth hd
  exact ⟨v, h1, k v H ⟨F, M, a.tmp ⟨h2, a.tm⟩⟩⟩)
theorem px_c {v : V} (h : PE X e (tC v)) (hd : ∀ F, Fd X.K F v d) : Px X e g l d := fun en T σ H Q s k => wpE_of h (by
  obtain ⟨F, M, a⟩ := s
  exact k v H ⟨F, M, a.tmp ⟨hd F, a.tm⟩⟩)
theorem px_int {i : Int} {j} : Px X (.Constant (.int i) j pos) g l (.int i) := px_c pe_int fun _ => .int _
theorem px_bl {b : Bool} {j} : Px X (.Constant (.bool b) j pos) g l (.bl b) := px_c pe_bl fun _ => .bl _
theorem px_non {j} : Px X (.Constant .none j pos) g l .non := px_c pe_non fun _ => .non
theorem px_str {x : Str} {j} : Px X (.Constant (.str x) j pos) g l (.str x) := px_c pe_str fun _ => .str _
theorem Px.to (h : Px X e g l d) (q : d = d1) : Px X e g l d1 := q ▸ h
theorem Px.ev (h : Px X e g l d) : Ev X e g l (fun d' l' => d' = d ∧ l' = l) := fun en T σ H Q s k => h en T σ H Q s fun v H' s' => k v d l H' ⟨rfl, rfl⟩ s'
theorem Ev.imp {Psi Chi : D → List Res → Prop} (h : Ev X e g l Psi) (i : ∀ d l', Psi d l' → Chi d l') : Ev X e g l Chi := fun en T σ H Q s k => h en T σ H Q s fun v d l' H' p s' => k v d l' H' (i _ _ p) s'
theorem Ev.px (h : Ev X e g l (fun d' l' => d' = d ∧ l' = l)) : Px X e g l d := fun en T σ H Q s k => h en T σ H Q s fun v d' l' H' p s' => k v H' (by obtain ⟨rfl, rfl⟩ := p; exact s')
theorem px_1 {r : V → Hp → VK → Prop} (he : PE X e2 (tUn r (wpE X a))) (hr : Op1 X.K l r d1 d) (ha : Px X a g l d1) : Px X e2 g l d := fun en T σ H Q s k => wpE_of he (by
  refine ha en T σ H _ s fun v H1 s1 => ?_
  obtain ⟨F, M, q⟩ := s1
  exact hr F M H1 v Q q.exF q.exM q.dj q.rs q.tm.1 fun u F' H' n f => k u H' ⟨F', M, (q.new n).tmp ⟨f, T.mono n.f q.tm.2⟩⟩)
theorem px_2 {r : R2} (he : PE X e2 (tOp r (wpE X a) (wpE X b))) (hr : Op2 X.K l r d1 d2 d) (ha : Px X a g l d1) (hb : Px X b g l d2) : Px X e2 g l d := fun en T σ H Q s k => wpE_of he (by
  refine ha en T σ H _ s fun v H1 s1 => ?_
  refine hb en _ σ H1 _ s1 fun u H2 s2 => ?_
  obtain ⟨F, M, q⟩ := s2
  exact hr F M H2 v u Q q.exF q.exM q.dj q.rs q.tm.2.1 q.tm.1 fun w F' H' n f => k w H' ⟨F', M, (q.new n).tmp ⟨f, T.mono n.f q.tm.2.2⟩⟩)
theorem px_op {op : Operator} {r : R2} (ho : OpR X (binaryOp op) r) (ha : Px X a g l d1) (hb : Px X b g l d2) (hr : Op2 X.K l r d1 d2 d) : Px X (.BinOp a op b pos) g l d := px_2 (pe_op ho pe_wp pe_wp) hr ha hb
theorem px_un {op : UnaryOp} {r : V → Hp → VK → Prop} (ho : UnR X (unaryOp op) r) (ha : Px X a g l d1) (hr : Op1 X.K l r d1 d) : Px X (.UnaryOp op a pos) g l d := px_1 (pe_un ho pe_wp) hr ha
theorem px_cmp {op : CmpOp} {r : R2} (ho : OpR X (compareOp op) r) (ha : Px X a g l d1) (hb : Px X b g l d2) (hr : Op2 X.K l r d1 d2 d) (hm : behindInMarks op b = false := by first | exact nomark _ | rfl) : Px X (.Compare a [op] [b] pos) g l d := px_2 (pe_cmpR ho pe_wp pe_wp hm) hr ha hb
theorem px_ix {r : R2} (hi : IxR X r) (ha : Px X a g l d1) (hb : Px X b g l d2) (hr : Op2 X.K l r d1 d2 d) (hs : PlainIx b := by intro _ _; rfl) : Px X (.Subscript a b pos) g l d := px_2 (pe_ix hi pe_wp pe_wp hs) hr ha hb
theorem px_chain {op op' : CmpOp} {r r' : R2} {k k' : Bool} (ho : OpR X (compareOp op) r) (ho' : OpR X (compareOp op') r') (ha : Px X a g l d1) (hb : Px X b g l d2) (hr : Op2 X.K l r d1 d2 (.bl k)) (hc : Px X c g l d3) (hr' : k = true → Op2 X.K l r' d2 d3 (.bl k'))
    (hm : lastMarks [op, op'] [b, c] = false := by with_unfolding_all rfl) : Px X (.Compare a [op, op'] [b, c] pos) g l (.bl (k && k')) := fun en T σ H Q s kk => wpE_of (pe_chain ho ho' pe_wp pe_wp pe_wp hm) (by
  refine ha en T σ H _ s fun v H1 s1 => ?_
  refine hb en _ σ H1 _ s1 fun u H2 s2 => ?_
  obtain ⟨F, M, q⟩ := s2
  refine hr F M H2 v u _ q.exF q.exM q.dj q.rs q.tm.2.1 q.tm.1 fun w F' H' n f => ?_
  cases f
  refine ⟨k, rfl, ?_⟩
  have q' := q.new n
  cases k with
  | false => exact kk _ H' ⟨F', M, q'.tmp ⟨.bl _, T.mono n.f q.tm.2.2⟩⟩
  | true =>
    show wpE X c σ H' _
    refine hc en _ σ H' _ ⟨F', M, q'⟩ fun w H3 s3 => ?_
    obtain ⟨F3, M3, q3⟩ := s3
    exact hr' rfl F3 M3 H3 u w Q q3.exF q3.exM q3.dj q3.rs q3.tm.2.1 q3.tm.1 fun w F' H' n f => kk w H' ⟨F', M3, (q3.new n).tmp ⟨f, T.mono n.f q3.tm.2.2.2⟩⟩)
/-- a new list, frozen; a new tuple -/
theorem px_lst {ds : List D} (h : Pa X es g l ds) (hz : ds.length ≤ sizeLine := by first | decide | exact Nat.le_of_ble_eq_true rfl) : Px X (.List es pos) g l (.lst ds) := fun en T σ H Q s k => wpE_of (pe_lst pa_wp) (by
  refine h en T σ H _ s fun vs H1 s1 => ?_
  obtain ⟨F, M, q⟩ := s1
  refine ⟨by rw [q.tm.1.length]; exact hz, fun p hp => ?_⟩
  have n := New.upd (o := .lst vs) q.exF hp
  exact k _ _ ⟨_, M, (q.new n).tmp ⟨.lst upd_same (FdAll.mono n.f _ q.tm.1), T.mono n.f q.tm.2⟩⟩)
theorem px_tup {ds : List D} {x1} (h : Pa X es g l ds) (hz : ds.length ≤ sizeLine := by first | decide | exact Nat.le_of_ble_eq_true rfl) : Px X (.Tuple es x1 pos) g l (.tup ds) := fun en T σ H Q s k => wpE_of (pe_tup pa_wp) (by
  refine h en T σ H _ s fun vs H1 s1 => ?_
  obtain ⟨F, M, q⟩ := s1
  refine ⟨by rw [q.tm.1.length]; exact hz, fun p hp => ?_⟩
  have n := New.upd (o := .tup vs) q.exF hp
  exact k _ _ ⟨_, M, (q.new n).tmp ⟨.tup (SqT.of upd_same) (FdAll.mono n.f _ q.tm.1), T.mono n.f q.tm.2⟩⟩)
theorem pa_n : Pa X [] g l [] := fun en T σ H Q s k => wpA_of pa_nil (by
  obtain ⟨F, M, a⟩ := s
  exact k [] H ⟨F, M, a.tmp ⟨.nil, a.tm⟩⟩)
theorem pa_c {ds : List D} (he : Px X e g l d) (h : Pa X es g l ds) (hs : starEach (e :: es) X.env = (false, eval e X.env) :: starEach es X.env := by rfl) : Pa X (e :: es) g l (d :: ds) := fun en T σ H Q s k => wpA_of (pa_cons pe_wp pa_wp hs) (by
  refine he en T σ H _ s fun v H1 s1 => ?_
  refine h en _ σ H1 _ s1 fun vs H2 s2 => ?_
  obtain ⟨F, M, a⟩ := s2
  exact k _ H2 ⟨F, M, a.tmp ⟨.cons a.tm.2.1 a.tm.1, a.tm.2.2⟩⟩)
/-- e if c else e' -/
theorem px_if {k : Bool} (hc : Ts X c g l k) (ha : k = true → Px X a g l d1) (hb : k = false → Px X b g l d2) : Px X (.IfExp c a b pos) g l (if k = true then d1 else d2) := fun en T σ H Q s kk => wpE_of (pe_ifExp pt_wp pe_wp pe_wp) (by
  refine hc en T σ H _ s fun H1 s1 => ?_
  cases k with
  | true => exact ha rfl en T σ H1 Q s1 kk
  | false => exact hb rfl en T σ H1 Q s1 kk)
theorem px_and {rest : List Expr} {k k' : Bool} (ha : Px X a g l (.bl k)) (hb : k = true → Px X (.BoolOp .And (b :: rest) pos) g l (.bl k')) : Px X (.BoolOp .And (a :: b :: rest) pos) g l (.bl (k && k')) := fun en T σ H Q s kk => wpE_of (pe_and pe_wp pe_wp) (by
  refine ha en T σ H _ s fun v H1 s1 => ?_
  obtain ⟨F, M, q⟩ := s1
  have f := q.tm.1
  cases f
  refine ⟨k, rfl, ?_⟩
  cases k with
  | true => exact hb rfl en T σ H1 Q ⟨F, M, q.tmp q.tm.2⟩ kk
  | false => exact kk _ H1 ⟨F, M, q⟩)
theorem px_or {rest : List Expr} {k k' : Bool} (ha : Px X a g l (.bl k)) (hb : k = false → Px X (.BoolOp .Or (b :: rest) pos) g l (.bl k')) : Px X (.BoolOp .Or (a :: b :: rest) pos) g l (.bl (k || k')) := fun en T σ H Q s kk => wpE_of (pe_or pe_wp pe_wp) (by
  refine ha en T σ H _ s fun v H1 s1 => ?_
  obtain ⟨F, M, q⟩ := s1
  have f := q.tm.1
  cases f
  refine ⟨k, rfl, ?_⟩
  cases k with
  | false => exact hb rfl en T σ H1 Q ⟨F, M, q.tmp q.tm.2⟩ kk
  | true => exact kk _ H1 ⟨F, M, q⟩)
theorem px_one {op} (h : Px X a g l d) : Px X (.BoolOp op [a] pos) g l d := fun en T σ H Q s k => wpE_of (pe_one pe_wp) (h en T σ H Q s k)
theorem px_not {k : Bool} (h : Px X a g l (.bl k)) : Px X (.UnaryOp .Not a pos) g l (.bl (!k)) := fun en T σ H Q s kk => wpE_of (pe_not pe_wp) (by
  refine h en T σ H _ s fun v H1 s1 => ?_
  obtain ⟨F, M, q⟩ := s1
  have f := q.tm.1
  cases f
  exact ⟨k, rfl, kk _ H1 ⟨F, M, q.tmp ⟨.bl _, q.tm.2⟩⟩⟩)
/-- an attribute of a frozen instance -/
theorem px_fld {C : Addr} {fs : List (Str × D)} {f : Str} (ho : Px X o g l (.ins C fs)) (hc : Cls X.K C) (hn : NoAttr X.K C f) (hl : fs.lookup f = some d) (hb : attributeBase o f X.env (eval o X.env) = eval o X.env := by rfl) : Px X (.Attribute o f pos) g l d := fun en T σ H Q s k => wpE_of (pe_fld pe_wp hb) (by
  refine ho en T σ H _ s fun v H1 s1 => ?_
  obtain ⟨F, M, q⟩ := s1
  obtain ⟨hf, ht⟩ := q.tm
  cases hf with
  | ins h1 h2 =>
    obtain ⟨v, e1, e2⟩ := h2.look hl
    exact ⟨_, C, _, _, v, rfl, q.exF _ _ h1, hc, hn, e1, k v H1 ⟨F, M, q.tmp ⟨e2, ht⟩⟩⟩)
/-! ### calls of what is built in -/
theorem px_b {r : List V → Hp → VK → Prop} {ds : List D} (he : PE X e2 (tCB r (wpA X es))) (hr : OpN X.K l r ds d) (ha : Pa X es g l ds) : Px X e2 g l d := fun en T σ H Q s k => wpE_of he (by
  refine ha en T σ H _ s fun vs H1 s1 => ?_
  obtain ⟨F, M, q⟩ := s1
  exact hr F M H1 vs Q q.exF q.exM q.dj q.rs q.tm.1 fun u F' H' n f => k u H' ⟨F', M, (q.new n).tmp ⟨f, T.mono n.f q.tm.2⟩⟩)
theorem px_m {r : V → List V → Hp → VK → Prop} {Tn : String} {ds : List D} (he : PE X e2 (tBM X.K Tn r (wpE X o) (wpA X es))) (ho : Px X o g l d1) (ha : Pa X es g l ds) (hr : OpM X.K l r d1 ds d)
    (ht : ∀ F M H v, Ex F H → Ex M H → Dj F M → Rs l F M → Fd X.K F v d1 → tyV X.K Tn v H) : Px X e2 g l d := fun en T σ H Q s k => wpE_of he (by
  refine ho en T σ H _ s fun v H1 s1 => ?_
  have s1' := s1
  obtain ⟨F, M, q⟩ := s1
  refine ⟨ht F M H1 v q.exF q.exM q.dj q.rs q.tm.1, ?_⟩
  refine ha en _ σ H1 _ s1' fun vs H2 s2 => ?_
  obtain ⟨F, M, q⟩ := s2
  exact hr F M H2 v vs Q q.exF q.exM q.dj q.rs q.tm.2.1 q.tm.1 fun u F' H' n f => k u H' ⟨F', M, (q.new n).tmp ⟨f, T.mono n.f q.tm.2.2⟩⟩)
/-! ### tests -/
theorem ts_val {k : Bool} (h : Px X e g l (.bl k)) (he : ∀ whole, isTrue e X.env whole = (do let v ← whole; standAt e.pos; holding [v] (truthy v)) := by intro _; rfl) : Ts X e g l k := fun en T σ H Q s kk => wpT_of (pt_val pe_wp he) (by
  refine h en T σ H _ s fun v H1 s1 => ?_
  obtain ⟨F, M, q⟩ := s1
  have f := q.tm.1
  cases f
  exact ⟨k, rfl, kk H1 ⟨F, M, q.tmp q.tm.2⟩⟩)
theorem ts_cmp {op : CmpOp} {r : R2} {k : Bool} (ho : OpR X (compareOp op) r) (ha : Px X a g l d1) (hb : Px X b g l d2) (hr : Op2 X.K l r d1 d2 (.bl k)) (hm : behindInMarks op b = false := by first | exact nomark _ | rfl) : Ts X (.Compare a [op] [b] pos) g l k := fun en T σ H Q s kk => wpT_of (pt_cmpR ho pe_wp pe_wp hm) (by
  refine ha en T σ H _ s fun v H1 s1 => ?_
  refine hb en _ σ H1 _ s1 fun u H2 s2 => ?_
  obtain ⟨F, M, q⟩ := s2
  refine hr F M H2 v u _ q.exF q.exM q.dj q.rs q.tm.2.1 q.tm.1 fun w F' H' n f => ?_
  cases f
  exact ⟨k, rfl, kk H' ⟨F', M, (q.new n).tmp (T.mono n.f q.tm.2.2)⟩⟩)
theorem ts_chain {op op' : CmpOp} {r r' : R2} {k k' : Bool} (ho : OpR X (compareOp op) r) (ho' : OpR X (compareOp op') r') (ha : Px X a g l d1) (hb : Px X b g l d2) (hr : Op2 X.K l r d1 d2 (.bl k)) (hc : Px X c g l d3) (hr' : k = true → Op2 X.K l r' d2 d3 (.bl k'))
    (hm : lastMarks [op, op'] [b, c] = false := by with_unfolding_all rfl) : Ts X (.Compare a [op, op'] [b, c] pos) g l (k && k') := fun en T σ H Q s kk => wpT_of (pt_chain ho ho' pe_wp pe_wp pe_wp hm) (by
  refine ha en T σ H _ s fun v H1 s1 => ?_
  refine hb en _ σ H1 _ s1 fun u H2 s2 => ?_
  obtain ⟨F, M, q⟩ := s2
  refine hr F M H2 v u _ q.exF q.exM q.dj q.rs q.tm.2.1 q.tm.1 fun w F' H' n f => ?_
  cases f
  refine ⟨k, rfl, ?_⟩
  have q' := q.new n
  cases k with
  | false => exact ⟨false, rfl, kk H' ⟨F', M, q'.tmp (T.mono n.f q.tm.2.2)⟩⟩
  | true =>
    show wpE X c σ H' _
    refine hc en _ σ H' _ ⟨F', M, q'⟩ fun w H3 s3 => ?_
    obtain ⟨F3, M3, q3⟩ := s3
    refine hr' rfl F3 M3 H3 u w _ q3.exF q3.exM q3.dj q3.rs q3.tm.2.1 q3.tm.1 fun w F' H' n f => ?_
    cases f
    exact ⟨k', rfl, kk H' ⟨F', M3, (q3.new n).tmp (T.mono n.f q3.tm.2.2.2)⟩⟩)
theorem ts_not {k : Bool} (h : Ts X a g l k) : Ts X (.UnaryOp .Not a pos) g l (!k) := fun en T σ H Q s kk => wpT_of (pt_not pt_wp) (h en T σ H _ s kk)
theorem tw_and1 {k : Bool} (h : Ts X a g l k) : Tw X (.BoolOp .And [a] pos) g l k := fun en T σ H Q s kk => wpW_of (pw_and1 pt_wp) (h en T σ H _ s kk)
theorem tw_or1 {k : Bool} (h : Ts X a g l k) : Tw X (.BoolOp .Or [a] pos) g l k := fun en T σ H Q s kk => wpW_of (pw_or1 pt_wp) (h en T σ H _ s kk)
theorem tw_and {rest : List Expr} {k k' : Bool} (ha : Ts X a g l k) (hb : k = true → Tw X (.BoolOp .And (b :: rest) pos) g l k') : Tw X (.BoolOp .And (a :: b :: rest) pos) g l (k && k') := fun en T σ H Q s kk => wpW_of (pw_and pt_wp pw_wp) (by
  refine ha en T σ H _ s fun H1 s1 => ?_
  cases k with
  | true => exact hb rfl en T σ H1 _ s1 kk
  | false => exact kk H1 s1)
theorem tw_or {rest : List Expr} {k k' : Bool} (ha : Ts X a g l k) (hb : k = false → Tw X (.BoolOp .Or (b :: rest) pos) g l k') : Tw X (.BoolOp .Or (a :: b :: rest) pos) g l (k || k') := fun en T σ H Q s kk => wpW_of (pw_or pt_wp pw_wp) (by
  refine ha en T σ H _ s fun H1 s1 => ?_
  cases k with
  | false => exact hb rfl en T σ H1 _ s1 kk
  | true => exact kk H1 s1)
theorem ts_w {k : Bool} (h : Tw X e g l k) : Ts X e g l k := fun en T σ H Q s kk => wpT_of (pw_wp).pt (h en T σ H _ s kk)
theorem Ts.to {k k' : Bool} (h : Ts X e g l k) (q : k = k') : Ts X e g l k' := q ▸ h

/-! ### blocks -/
theorem Blk.imp {Ψ : Po} {sts : List Stmt} (h : Blk X W sts g l Φ) (n : ∀ g l, Φ.nx g l → Ψ.nx g l) (r : ∀ d l, Φ.rt d l → Ψ.rt d l) (b : ∀ g l, Φ.bk g l → Ψ.bk g l) (c : ∀ g l, Φ.ct g l → Ψ.ct g l) (x : ∀ c d g l, Φ.ex c d g l → Ψ.ex c d g l) : Blk X W sts g l Ψ := fun en T σ H D s m =>
  h en T σ H D s ⟨fun g l σ H p => m.nx g l σ H (n _ _ p), fun d l v H p => m.rt d l v H (r _ _ p), fun g l σ H p => m.bk g l σ H (b _ _ p), fun g l σ H p => m.ct g l σ H (c _ _ p), fun c d g l σ H p => m.ex c d g l σ H (x _ _ _ _ p)⟩
theorem Blk.weak {sts : List Stmt} (w : Wk g g') (h : Blk X W sts g' l Φ) : Blk X W sts g l Φ := fun en T σ H D s m => h en T σ H D (s.weak w) m
theorem blk_nil (h : Φ.nx g l) : Blk X W [] g l Φ := fun en T σ H D s m => wpS_of pss_nil (m.nx g l σ H h s)
variable {rest : List Stmt}
theorem blk_ret (he : Px X e g l d) (h : Φ.rt d l) : Blk X W (.Return (some e) pos :: rest) g l Φ := fun en T σ H D s m => wpS_of (pss_cons (ps_ret pe_wp) pss_wp) (he en T σ H _ s fun v H' s' => m.rt d l v H' h s'.slotless)
theorem blk_retX {Psi : D → List Res → Prop} (he : Ev X e g l Psi) (h : ∀ d l', Psi d l' → Φ.rt d l') : Blk X W (.Return (some e) pos :: rest) g l Φ := fun en T σ H D s m => wpS_of (pss_cons (ps_ret pe_wp) pss_wp) (he en T σ H _ s fun v d l' H' p s' => m.rt d l' v H' (h d l' p) s'.slotless)
theorem blk_retN (h : Φ.rt .non l) : Blk X W (.Return none pos :: rest) g l Φ := fun en T σ H D s m => wpS_of (pss_cons ps_retN pss_wp) (by
  obtain ⟨F, M, a⟩ := s
  exact m.rt .non l _ H h ⟨F, M, (a.tmp (T' := T.and X.K .non .non) ⟨.non, a.tm⟩).slots .nil⟩)
theorem blk_brk (h : Φ.bk g l) : Blk X W (.Break pos :: rest) g l Φ := fun en T σ H D s m => wpS_of (pss_cons ps_break pss_wp) (m.bk g l σ H h s)
theorem blk_cont (h : Φ.ct g l) : Blk X W (.Continue pos :: rest) g l Φ := fun en T σ H D s m => wpS_of (pss_cons ps_continue pss_wp) (m.ct g l σ H h s)
theorem blk_pass (h : Blk X W rest g l Φ) : Blk X W (.Pass pos :: rest) g l Φ := fun en T σ H D s m => wpS_of (pss_cons ps_pass pss_wp) (h en T σ H D s m)
theorem Mt.seq {K : PySem.W.Frag} {en : En} {T : Tm} {D : Ends} (m : Mt K W en T Φ D) {nx : Gm → List Res → Prop} {n : St → Hp → Prop} (h : ∀ g l σ H, nx g l → S K en g T l σ H → n σ H) : Mt K W en T { Φ with nx := nx } { D with nx := n } := ⟨h, m.rt, m.bk, m.ct, m.ex⟩
theorem blk_if {k : Bool} {A B : List Stmt} (hc : Ts X c g l k) (h1 : k = true → Blk X W A g l { Φ with nx := fun g' l' => Blk X W rest g' l' Φ }) (h2 : k = false → Blk X W B g l { Φ with nx := fun g' l' => Blk X W rest g' l' Φ }) : Blk X W (.If c A B pos :: rest) g l Φ := fun en T σ H D s m =>
  wpS_of (pss_cons (ps_if pt_wp pss_wp pss_wp) pss_wp) (by
    refine hc en T σ H _ s fun H1 s1 => ?_
    have mm : Mt X.K W en T { Φ with nx := fun g' l' => Blk X W rest g' l' Φ } { D with nx := wpS X rest D } := m.seq fun g' l' σ' H' p s' => p en T σ' H' D s' m
    cases k with
    | true => exact h1 rfl en T σ H1 _ s1 mm
    | false => exact h2 rfl en T σ H1 _ s1 mm)
/-- .. the ways meet at Mid -/
theorem blk_ifJ {k : Bool} {A B : List Stmt} (Mid : Gm → List Res → Prop) (hc : Ts X c g l k) (h1 : k = true → Blk X W A g l { Φ with nx := Mid }) (h2 : k = false → Blk X W B g l { Φ with nx := Mid }) (hm : ∀ g' l', Mid g' l' → Blk X W rest g' l' Φ) : Blk X W (.If c A B pos :: rest) g l Φ :=
  blk_if hc (fun e => (h1 e).imp (fun g' l' p => hm g' l' p) (fun _ _ p => p) (fun _ _ p => p) (fun _ _ p => p) (fun _ _ _ _ p => p)) (fun e => (h2 e).imp (fun g' l' p => hm g' l' p) (fun _ _ p => p) (fun _ _ p => p) (fun _ _ p => p) (fun _ _ _ _ p => p))
theorem blk_expr {Psi : D → List Res → Prop} (he : Ev X e g l Psi) (h : ∀ d l', Psi d l' → Blk X W rest g l' Φ) (hs : swapsWith e none pos.line X.env = pure false := by rfl) : Blk X W (.Expr e pos :: rest) g l Φ := fun en T σ H D s m => wpS_of (pss_cons (ps_expr pe_wp hs) pss_wp) (he en T σ H _ s fun v d l' H' p s' => h d l' p en T σ H' D s'.drop m)
theorem blk_set {i : Nat} {x : Str} {pos' : Pos} (hN : X.N.Nodup) (hi : X.N[i]? = some x) (hx : Loc X.env.scope x) (he : Px X e g l d) (h : Blk X W rest (g.set i (some d)) l Φ) (hs : swapsWith e (some (.Name x pos')) pos.line X.env = pure false := by rfl) (hf : X.fn x = true ∨ X.env.scope.names.lookup x = some .local := by first | exact .inl rfl | exact .inr rfl | assumption) :
    Blk X W (.Assign [.Name x pos'] e pos :: rest) g l Φ := fun en T σ H D s m => wpS_of (pss_cons (ps_set hN hi hx pe_wp hs hf) pss_wp) (he en T σ H _ s fun v H' s' => by
      obtain ⟨F, M, a⟩ := s'
      exact h en T (σ.set i (some v)) H' D ⟨F, M, (a.tmp a.tm.2).slots (a.sl.set i a.tm.1)⟩ m)
theorem blk_setX {Psi : D → List Res → Prop} {i : Nat} {x : Str} {pos' : Pos} (hN : X.N.Nodup) (hi : X.N[i]? = some x) (hx : Loc X.env.scope x) (he : Ev X e g l Psi) (h : ∀ d l', Psi d l' → Blk X W rest (g.set i (some d)) l' Φ) (hs : swapsWith e (some (.Name x pos')) pos.line X.env = pure false := by rfl) (hf : X.fn x = true ∨ X.env.scope.names.lookup x = some .local := by first | exact .inl rfl | exact .inr rfl | assumption) :
    Blk X W (.Assign [.Name x pos'] e pos :: rest) g l Φ := fun en T σ H D s m => wpS_of (pss_cons (ps_set hN hi hx pe_wp hs hf) pss_wp) (he en T σ H _ s fun v d l' H' p s' => by
      obtain ⟨F, M, a⟩ := s'
      exact h d l' p en T (σ.set i (some v)) H' D ⟨F, M, (a.tmp a.tm.2).slots (a.sl.set i a.tm.1)⟩ m)
/-- what the proof never comes to -/
theorem blk_absurd {sts : List Stmt} (h : False) : Blk X W sts g l Φ := h.elim
end

/-! ### owned lists, instances -/
def ownL (K : PySem.W.Frag) (p : Addr) (ds : List D) : Res := ⟨fun F M => ∃ vs, FdAll K F vs ds ∧ M = one p (.lst vs), fun e ⟨vs, h, m⟩ => ⟨vs, FdAll.mono e _ h, m⟩, fun ⟨_, _, m⟩ x xs e => by rw [m] at e; obtain ⟨_, e⟩ := one_some e; cases e⟩
def ownI (K : PySem.W.Frag) (p C : Addr) (fs : List (Str × D)) : Res := ⟨fun F M => ∃ vs dx, dx ≠ p ∧ FdFs K F vs fs ∧ M = join (one p (.ins C dx vs)) (one dx (.own p)), fun e ⟨vs, dx, n, h, m⟩ => ⟨vs, dx, n, FdFs.mono e _ h, m⟩, fun ⟨_, _, _, _, m⟩ x xs e => by
  rw [m] at e
  rcases join_some e with e | ⟨_, e⟩
  · obtain ⟨_, e⟩ := one_some e; cases e
  · obtain ⟨_, e⟩ := one_some e; cases e⟩
section
variable {K : PySem.W.Frag} {F H M : Hp} {l : List Res}
theorem Rs.own {k : Nat} {p : Addr} {ds : List D} (h : Rs l F M) (e : l[k]? = some (ownL K p ds)) (m : Ex M H) : ∃ vs, FdAll K F vs ds ∧ H p = some (.lst vs) := by
  obtain ⟨A, B, rfl, dj, ⟨vs, f, rfl⟩, _⟩ := Rs.at e h
  exact ⟨vs, f, m p _ (join_l one_same)⟩
theorem Rs.ins {k : Nat} {p C : Addr} {fs : List (Str × D)} (h : Rs l F M) (e : l[k]? = some (ownI K p C fs)) (m : Ex M H) : ∃ dx vs, FdFs K F vs fs ∧ H p = some (.ins C dx vs) := by
  obtain ⟨A, B, rfl, dj, ⟨vs, dx, n, f, rfl⟩, _⟩ := Rs.at e h
  exact ⟨dx, vs, f, m p _ (join_l (join_l one_same))⟩
variable {en : En} {g : Gm} {T : Tm} {σ : L2.St}
/-- an owned list is written -/
theorem At.putL {k : Nat} {p : Addr} {ds ds' : List D} {vs' : List V} (a : At K en g T l σ H F M) (e : l[k]? = some (ownL K p ds)) (f : FdAll K F vs' ds') : ∃ M', At K en g T (l.set k (ownL K p ds')) σ (upd H p (.lst vs')) F M' := by
  obtain ⟨A, B, rfl, dj, ⟨vs, f0, rfl⟩, put⟩ := Rs.at e a.rs
  have hp : H p = some (.lst vs) := a.exM p _ (join_l one_same)
  have hF : F p = none := a.dj.sym p (.lst vs) (join_l one_same)
  have dB : ∀ u, Dj (one p u) B := fun u x o h => by
    obtain ⟨rfl, _⟩ := one_some h
    exact dj x _ one_same
  have hB : B p = none := dj p _ one_same
  have pM : en.H p = none ∨ ∃ u, en.M p = some u := a.nM p _ (join_l one_same)
  refine ⟨join (one p (.lst vs')) B, a.exF.mut hF, ?_, ?_, a.eF, a.nF, ?_, ?_, a.sl, a.tm, put _ _ F .rf ⟨vs', f, rfl⟩ (dB _)⟩
  · intro x o h
    rcases join_some h with q | ⟨n, q⟩
    · obtain ⟨rfl, rfl⟩ := one_some q
      exact upd_same
    · have ne : x ≠ p := fun z => by rw [z, hB] at q; cases q
      rw [upd_ne ne]
      exact a.exM x o (by rw [join_r (one_ne ne)]; exact q)
  · intro x o h
    have ne : x ≠ p := fun z => by rw [z, hF] at h; cases h
    have := a.dj x o h
    rw [join_r (one_ne ne)] at this ⊢
    exact this
  · intro x o h
    rcases join_some h with q | ⟨n, q⟩
    · obtain ⟨rfl, rfl⟩ := one_some q
      exact pM
    · have ne : x ≠ p := fun z => by rw [z, hB] at q; cases q
      exact a.nM x o (by rw [join_r (one_ne ne)]; exact q)
  · intro x o h1 h2
    have ne : x ≠ p := fun z => by
      subst z
      rcases pM with q | ⟨u, q⟩
      · rw [h1] at q; cases q
      · rw [h2] at q; cases q
    rw [upd_ne ne]
    exact a.fr x o h1 h2
/-- an owned instance's attribute is written -/
theorem At.putI {k : Nat} {p C dx : Addr} {fs fs' : List (Str × D)} {vs vs' : List (Str × V)} (a : At K en g T l σ H F M) (e : l[k]? = some (ownI K p C fs)) (hp : H p = some (.ins C dx vs)) (f : FdFs K F vs' fs') : ∃ M', At K en g T (l.set k (ownI K p C fs')) σ (upd H p (.ins C dx vs')) F M' := by
  obtain ⟨A, B, rfl, dj, ⟨vs0, dx0, nd, f0, rfl⟩, put⟩ := Rs.at e a.rs
  have hp0 : H p = some (.ins C dx0 vs0) := a.exM p _ (join_l (join_l one_same))
  rw [hp] at hp0
  obtain ⟨rfl, rfl⟩ : dx = dx0 ∧ vs = vs0 := by injection hp0 with z; injection z with z1 z2 z3; exact ⟨z2, z3⟩
  have hF : F p = none := a.dj.sym p _ (join_l (join_l one_same))
  have dB : ∀ u, Dj (join (one p u) (one dx (.own p))) B := fun u x o h => by
    rcases join_some h with q | ⟨_, q⟩
    · obtain ⟨rfl, _⟩ := one_some q
      exact dj x _ (join_l one_same)
    · obtain ⟨rfl, _⟩ := one_some q
      exact dj x _ (by rw [join_r (one_ne nd)]; exact one_same)
  have hB : B p = none := dj p _ (join_l one_same)
  have pM : en.H p = none ∨ ∃ u, en.M p = some u := a.nM p _ (join_l (join_l one_same))
  refine ⟨join (join (one p (.ins C dx vs')) (one dx (.own p))) B, a.exF.mut hF, ?_, ?_, a.eF, a.nF, ?_, ?_, a.sl, a.tm, put _ _ F .rf ⟨vs', dx, nd, f, rfl⟩ (dB _)⟩
  · intro x o h
    rcases join_some h with q | ⟨n, q⟩
    · rcases join_some q with q | ⟨n, q⟩
      · obtain ⟨rfl, rfl⟩ := one_some q
        exact upd_same
      · obtain ⟨rfl, rfl⟩ := one_some q
        rw [upd_ne nd]
        exact a.exM x _ (join_l (by rw [join_r (one_ne nd)]; exact one_same))
    · have ne : x ≠ p := fun z => by rw [z, hB] at q; cases q
      rw [upd_ne ne]
      have nx : x ≠ dx := fun z => by
        rw [z, join_r (one_ne nd), one_same] at n; cases n
      exact a.exM x o (by rw [join_r (by rw [join_r (one_ne ne)]; exact one_ne nx)]; exact q)
  · intro x o h
    have ne : x ≠ p := fun z => by rw [z, hF] at h; cases h
    have := a.dj x o h
    obtain ⟨q1, q2⟩ := join_none this
    obtain ⟨q3, q4⟩ := join_none q1
    rw [join_r (by rw [join_r (one_ne ne)]; exact q4)]
    exact q2
  · intro x o h
    rcases join_some h with q | ⟨n, q⟩
    · rcases join_some q with q | ⟨n, q⟩
      · obtain ⟨rfl, rfl⟩ := one_some q
        exact pM
      · obtain ⟨rfl, rfl⟩ := one_some q
        exact a.nM x (.own p) (join_l (by rw [join_r (one_ne nd)]; exact one_same))
    · have ne : x ≠ p := fun z => by rw [z, hB] at q; cases q
      have nx : x ≠ dx := fun z => by
        rw [z, join_r (one_ne nd), one_same] at n; cases n
      exact a.nM x o (by rw [join_r (by rw [join_r (one_ne ne)]; exact one_ne nx)]; exact q)
  · intro x o h1 h2
    have ne : x ≠ p := fun z => by
      subst z
      rcases pM with q | ⟨u, q⟩
      · rw [h1] at q; cases q
      · rw [h2] at q; cases q
    rw [upd_ne ne]
    exact a.fr x o h1 h2
/-- something new, owned -/
theorem At.newO {r : Res} {A H' : Hp} (a : At K en g T l σ H F M) (h : Ex H H') (hA : Ex A H') (n : ∀ x o, A x = some o → H x = none) (p : r.P F A) : At K en g T (r :: l) σ H' F (join A M) := by
  have dA : Dj A M := fun x o q => by
    cases z : M x with
    | none => rfl
    | some u => have := a.exM x u z; rw [n x o q] at this; cases this
  refine ⟨a.exF.tr h, hA.join (a.exM.tr h), fun x o q => ?_, a.eF, a.nF, fun x o q => ?_, fun x o h1 h2 => h x o (a.fr x o h1 h2), a.sl, a.tm, ⟨A, M, rfl, dA, p, a.rs⟩⟩
  · cases z : join A M x with
    | none => rfl
    | some u =>
      rcases join_some z with y | ⟨_, y⟩
      · have := a.exF x o q; rw [n x u y] at this; cases this
      · rw [a.dj x o q] at y; cases y
  · rcases join_some q with y | ⟨_, y⟩
    · cases w : en.H x with
      | none => exact .inl rfl
      | some u =>
        cases z : en.M x with
        | some y => exact .inr ⟨y, rfl⟩
        | none => have := a.fr x u w z; rw [n x o y] at this; cases this
    · exact a.nM x o y
/-- what is owned at the front is frozen -/
theorem At.frz {r : Res} {P : Hp → Prop} (a : At K en g T (r :: l) σ H F M) (f : ∀ A, r.P F A → P (join F A)) : ∃ F' M', At K en g T l σ H F' M' ∧ P F' ∧ Ex F F' := by
  obtain ⟨A, B, rfl, dj, p, rs⟩ := a.rs
  have dF : Dj F A := fun x o h => (join_none (a.dj x o h)).1
  have eF : Ex F (join F A) := fun x o h => join_l h
  refine ⟨join F A, B, ⟨a.exF.join a.exM.joinL, a.exM.joinR dj, ?_, a.eF.tr eF, ?_, fun x o h => a.nM x o (by rw [join_r (dj.sym x o h)]; exact h), a.fr, a.sl.mono eF, T.mono eF a.tm, rs.mono eF⟩, f A p, eF⟩
  · intro x o h
    rcases join_some h with q | ⟨_, q⟩
    · exact (join_none (a.dj x o q)).2
    · exact dj x o q
  · intro x o h
    rcases join_some h with q | ⟨_, q⟩
    · exact a.nF x o q
    · rcases a.nM x o (join_l q) with z | z
      · exact .inr (.inl z)
      · exact .inr (.inr (.inl z))
theorem Rs.perm {F : Hp} : ∀ {l k : List Res}, l.Perm k → ∀ {M : Hp}, Rs l F M → Rs k F M := by
  intro l k h
  induction h with
  | nil => exact fun h => h
  | cons x _ ih => exact fun ⟨A, B, h1, h2, h3, h4⟩ => ⟨A, B, h1, h2, h3, ih h4⟩
  | swap x y l =>
    rintro M ⟨A, B, h1, h2, h3, ⟨A', B', g1, g2, g3, g4⟩⟩
    subst g1; subst h1
    have dAA : Dj A A' := (Dj.l h2.sym).sym
    have dAB : Dj A B' := (Dj.r g2 h2.sym).sym
    exact ⟨A', join A B', by rw [← join_assoc, ← join_assoc, dAA.comm], (Dj.joinL dAA g2.sym).sym, g3, A, B', rfl, dAB, h3, g4⟩
  | trans _ _ h1 h2 => exact fun h => h2 (h1 h)
theorem S.perm {l' : List Res} (h : l.Perm l') (s : S K en g T l σ H) : S K en g T l' σ H := let ⟨F, M, a⟩ := s; ⟨F, M, a.exF, a.exM, a.dj, a.eF, a.nF, a.nM, a.fr, a.sl, a.tm, a.rs.perm h⟩
end

section
variable {X : Cx} {W : WX} {g g' : Gm} {l l' : List Res} {Φ : Po} {e a b c o : Expr} {es : List Expr} {d d1 d2 d3 : D} {pos p : Pos} {rest : List Stmt}
theorem Blk.perm {sts : List Stmt} (h : l.Perm l') (k : Blk X W sts g l' Φ) : Blk X W sts g l Φ := fun en T σ H D s m => k en T σ H D (s.perm h) m
/-- a new list, owned -/
theorem ev_lst {ds : List D} (h : Pa X es g l ds) (hz : ds.length ≤ sizeLine := by first | decide | exact Nat.le_of_ble_eq_true rfl) : Ev X (.List es pos) g l (fun d' l' => ∃ p, d' = .adr p ∧ l' = ownL X.K p ds :: l) := fun en T σ H Q s k => wpE_of (pe_lst pa_wp) (by
  refine h en T σ H _ s fun vs H1 s1 => ?_
  obtain ⟨F, M, q⟩ := s1
  refine ⟨by rw [q.tm.1.length]; exact hz, fun p hp => ?_⟩
  have q2 := q.tmp (T' := T) q.tm.2
  have q3 := q2.newO (r := ownL X.K p ds) (A := one p (.lst vs)) (H' := upd H1 p (.lst vs)) (.new hp) (fun x o z => by obtain ⟨rfl, rfl⟩ := one_some z; exact upd_same) (fun x o z => by obtain ⟨rfl, rfl⟩ := one_some z; exact hp) ⟨vs, q.tm.1, rfl⟩
  exact k _ (.adr p) _ _ ⟨p, rfl, rfl⟩ ⟨F, _, q3.tmp ⟨.adr p, q.tm.2⟩⟩)
/-- a list just made is frozen -/
theorem Ev.frz {ds : List D} (h : Ev X e g l (fun d' l' => ∃ p, d' = .adr p ∧ l' = ownL X.K p ds :: l)) : Px X e g l (.lst ds) := fun en T σ H Q s k => h en T σ H Q s fun v d l' H' p s' => by
  obtain ⟨p, rfl, rfl⟩ := p
  obtain ⟨F, M, q⟩ := s'
  have hv := q.tm.1
  cases hv
  obtain ⟨F', M', q', f, _⟩ := q.frz (P := fun F' => Fd X.K F' (.ref p) (.lst ds)) fun A hA => by
    obtain ⟨vs, f, rfl⟩ := hA
    have hF : F p = none := by
      obtain ⟨A, B, rfl, _, ⟨_, _, rfl⟩, _⟩ := q.rs
      exact q.dj.sym p _ (join_l one_same)
    exact .lst (by rw [join_r hF]; exact one_same) (FdAll.mono (fun x o h => join_l h) _ f)
  exact k _ H' ⟨F', M', q'.tmp ⟨f, q'.tm.2⟩⟩
/-- a slot's owned list (at the front) is frozen -/
theorem Blk.frz {sts : List Stmt} {p : Addr} {ds : List D} {i : Nat} (hi : nth g i = some (.adr p)) (k : Blk X W sts (g.set i (some (.lst ds))) l Φ) : Blk X W sts g (ownL X.K p ds :: l) Φ := fun en T σ H D s m => by
  obtain ⟨F, M, q⟩ := s
  obtain ⟨v, hv, fv⟩ := q.sl.nth hi
  cases fv
  obtain ⟨F', M', q', f, _⟩ := q.frz (P := fun F' => Fd X.K F' (.ref p) (.lst ds)) fun A hA => by
    obtain ⟨vs, f, rfl⟩ := hA
    have hF : F p = none := by
      obtain ⟨A, B, rfl, _, ⟨_, _, rfl⟩, _⟩ := q.rs
      exact q.dj.sym p _ (join_l one_same)
    exact .lst (by rw [join_r hF]; exact one_same) (FdAll.mono (fun x o h => join_l h) _ f)
  refine k en T σ H D ⟨F', M', q'.slots ?_⟩ m
  have w := q'.sl.set i f
  have e : σ.set i (some (.ref p)) = σ := by
    apply List.ext_getElem?
    intro j
    by_cases z : j = i
    · subst z
      obtain ⟨h1, h2⟩ := List.getElem?_eq_some_iff.mp hv
      rw [List.getElem?_set_self h1, hv]
    · rw [List.getElem?_set_ne (Ne.symm z)]
  rw [e] at w
  exact w
/-- x.append(e), x an owned list -/
theorem blk_app {k : Nat} {p : Addr} {ds : List D} {apos cpos : Pos} (ho : Px X o g l (.adr p)) (he : Px X e g l d) (hk : l[k]? = some (ownL X.K p ds)) (hz : ds.length < sizeLine) (h : Blk X W rest g (l.set k (ownL X.K p (ds ++ [d]))) Φ)
    (hp : PS X (.Expr (.Call (.Attribute o "append" apos) [e] [] cpos) pos) (tDrop (tBM X.K "list" rAppend (wpE X o) (tCons (wpE X e) tNil)))) : Blk X W (.Expr (.Call (.Attribute o "append" apos) [e] [] cpos) pos :: rest) g l Φ := fun en T σ H D s m => wpS_of (pss_cons hp pss_wp) (by
  refine ho en T σ H _ s fun v H1 s1 => ?_
  obtain ⟨F1, M1, q1⟩ := id s1
  have fv := q1.tm.1
  cases fv
  obtain ⟨vs1, _, hp1⟩ := q1.rs.own hk q1.exM
  refine ⟨.inl ⟨rfl, _, SqL.of hp1⟩, ?_⟩
  refine he en _ σ H1 _ s1 fun u H2 s2 => ?_
  obtain ⟨F, M, q⟩ := s2
  obtain ⟨vs, fvs, hp⟩ := q.rs.own hk q.exM
  refine ⟨p, vs, u, rfl, rfl, hp, by rw [fvs.length]; exact hz, ?_⟩
  obtain ⟨M', q'⟩ := (q.tmp (T' := T) q.tm.2.2).putL hk (fvs.app (.cons q.tm.1 .nil))
  exact h en T σ _ D ⟨F, M', q'⟩ m)
end
end Sx
set_option Elab.async false
set_option linter.all false
set_option maxRecDepth 100000
set_option maxHeartbeats 2000000
/-! Operations by value, calls, loops, comprehensions. -/
namespace Sx
open PySem L2

/-! ### operations -/
section
variable {K : PySem.W.Frag} {l : List Res} {d d1 d2 d3 : D} {i j : Int}
theorem o2_I0 {g : Int → Int → V} (h : ∀ F, Fd K F (g i j) d) : Op2 K l (rI0 g) (.int i) (.int j) d := fun F M H v u Q eF eM dj rs f1 f2 k => by
  cases f1; cases f2
  exact ⟨i, j, rfl, rfl, k _ F H (.rf eF) (h F)⟩
theorem o2_I {C : Int → Int → Prop} {g : Int → Int → V} (hc : C i j) (h : ∀ F, Fd K F (g i j) d) : Op2 K l (rI C g) (.int i) (.int j) d := fun F M H v u Q eF eM dj rs f1 f2 k => by
  cases f1; cases f2
  exact ⟨i, j, rfl, rfl, hc, k _ F H (.rf eF) (h F)⟩
theorem o_add : Op2 K l (rI0 fun i j => .int (i + j)) (.int i) (.int j) (.int (i + j)) := o2_I0 fun _ => .int _
theorem o_sub : Op2 K l (rI0 fun i j => .int (i - j)) (.int i) (.int j) (.int (i - j)) := o2_I0 fun _ => .int _
theorem o_mul (hc : CMul i j) : Op2 K l (rI CMul fun i j => .int (i * j)) (.int i) (.int j) (.int (i * j)) := o2_I hc fun _ => .int _
theorem o_mulR (h1 : -(2 ^ 64) < j := by decide) (h2 : j < 2 ^ 64 := by decide) : Op2 K l (rI CMul fun i j => .int (i * j)) (.int i) (.int j) (.int (i * j)) := o_mul (.inr ⟨h1, h2⟩)
theorem o_mulL (h1 : -(2 ^ 64) < i := by decide) (h2 : i < 2 ^ 64 := by decide) : Op2 K l (rI CMul fun i j => .int (i * j)) (.int i) (.int j) (.int (i * j)) := o_mul (.inl ⟨h1, h2⟩)
theorem o_mod (hc : 0 < j := by decide) : Op2 K l (rI (fun _ j => 0 < j) fun i j => .int (i % j)) (.int i) (.int j) (.int (i % j)) := o2_I hc fun _ => .int _
theorem o_fdiv (h1 : 0 < j := by decide) (h2 : j < 1073741824 := by decide) : Op2 K l (rI CDiv fun i j => .int (i / j)) (.int i) (.int j) (.int (i / j)) := o2_I ⟨h1, h2⟩ fun _ => .int _
theorem o_pow (hc : CPow i j := by exact ⟨by decide, by decide, by decide⟩) : Op2 K l (rI CPow fun i j => .int (i ^ j.toNat)) (.int i) (.int j) (.int (i ^ j.toNat)) := o2_I hc fun _ => .int _
theorem o_lt : Op2 K l (rI0 fun i j => .bl (decide (i < j))) (.int i) (.int j) (.bl (decide (i < j))) := o2_I0 fun _ => .bl _
theorem o_le : Op2 K l (rI0 fun i j => .bl (decide (i ≤ j))) (.int i) (.int j) (.bl (decide (i ≤ j))) := o2_I0 fun _ => .bl _
theorem o_gt : Op2 K l (rI0 fun i j => .bl (decide (j < i))) (.int i) (.int j) (.bl (decide (j < i))) := o2_I0 fun _ => .bl _
theorem o_ge : Op2 K l (rI0 fun i j => .bl (decide (j ≤ i))) (.int i) (.int j) (.bl (decide (j ≤ i))) := o2_I0 fun _ => .bl _
theorem o_neg : Op1 K l (rU fun i => .int (-i)) (.int i) (.int (-i)) := fun F M H v Q eF eM dj rs f1 k => by
  cases f1
  exact ⟨i, rfl, k _ F H (.rf eF) (.int _)⟩
/-- scalars -/
def D.v : D → Option V
  | .non => some .non | .bl b => some (.bl b) | .int i => some (.int i) | .str x => some (.str x) | .ty n => some (.ty n) | _ => none
theorem D.v_eq {F : Hp} {d : D} {v w : V} (f : Fd K F v d) (h : d.v = some w) : v = w := by
  cases f <;> first | (cases h; rfl) | cases h
theorem o_eq {v1 v2 : V} (h1 : d1.v = some v1) (h2 : d2.v = some v2) (hs : scal v1 v2 = true := by rfl) : Op2 K l rEq d1 d2 (.bl (decide (v1 = v2))) := fun F M H v u Q eF eM dj rs f1 f2 k => by
  have e1 := D.v_eq f1 h1
  have e2 := D.v_eq f2 h2
  subst e1; subst e2
  exact ⟨hs, k _ F H (.rf eF) (.bl _)⟩
theorem o_ne {v1 v2 : V} (h1 : d1.v = some v1) (h2 : d2.v = some v2) (hs : scal v1 v2 = true := by rfl) : Op2 K l rNe d1 d2 (.bl (!decide (v1 = v2))) := fun F M H v u Q eF eM dj rs f1 f2 k => by
  have e1 := D.v_eq f1 h1
  have e2 := D.v_eq f2 h2
  subst e1; subst e2
  exact ⟨hs, k _ F H (.rf eF) (.bl _)⟩
theorem int_dec (i j : Int) : decide (V.int i = V.int j) = decide (i = j) := by
  by_cases e : i = j
  · subst e; simp
  · have : ¬ V.int i = V.int j := fun q => e (V.int.inj q)
    rw [decide_eq_false e, decide_eq_false this]
theorem str_dec (i j : Str) : decide (V.str i = V.str j) = decide (i = j) := by
  by_cases e : i = j
  · subst e; simp
  · have : ¬ V.str i = V.str j := fun q => e (V.str.inj q)
    rw [decide_eq_false e, decide_eq_false this]
theorem o_eqI : Op2 K l rEq (.int i) (.int j) (.bl (decide (i = j))) := by
  rw [← int_dec]; exact o_eq rfl rfl
theorem o_neI : Op2 K l rNe (.int i) (.int j) (.bl (!decide (i = j))) := by
  rw [← int_dec]; exact o_ne rfl rfl
theorem o_eqS {x y : Str} : Op2 K l rEq (.str x) (.str y) (.bl (decide (x = y))) := by
  rw [← str_dec]; exact o_eq rfl rfl
theorem o_neS {x y : Str} : Op2 K l rNe (.str x) (.str y) (.bl (!decide (x = y))) := by
  rw [← str_dec]; exact o_ne rfl rfl
/-- is None -/
def D.isNon : D → Bool
  | .non => true | _ => false
theorem D.isNon_eq {F : Hp} {d : D} {v : V} (f : Fd K F v d) : decide (v = .non) = d.isNon := by
  cases f <;> simp [D.isNon]
theorem o_isN : Op2 K l (fun x y H Q => y = .non ∧ Q (.bl (decide (x = .non))) H) d .non (.bl d.isNon) := fun F M H v u Q eF eM dj rs f1 f2 k => by
  cases f2
  refine ⟨rfl, ?_⟩
  rw [D.isNon_eq f1]
  exact k _ F H (.rf eF) (.bl _)
theorem o_notN : Op2 K l (fun x y H Q => y = .non ∧ Q (.bl (!decide (x = .non))) H) d .non (.bl (!d.isNon)) := fun F M H v u Q eF eM dj rs f1 f2 k => by
  cases f2
  refine ⟨rfl, ?_⟩
  rw [D.isNon_eq f1]
  exact k _ F H (.rf eF) (.bl _)
theorem o_addS {x y : Str} (h : x.length + y.length ≤ sizeLine) : Op2 K l (fun x y H Q => ∃ i j, x = .str i ∧ y = .str j ∧ i.length + j.length ≤ sizeLine ∧ Q (.str (i ++ j)) H) (.str x) (.str y) (.str (x ++ y)) := fun F M H v u Q eF eM dj rs f1 f2 k => by
  cases f1; cases f2
  exact ⟨x, y, rfl, rfl, h, k _ F H (.rf eF) (.str _)⟩
/-- indices -/
theorem atI_of {α : Type} {xs : List α} {i : Int} {n : Nat} (h : ixN xs.length i = some n) : atI xs i = xs[n]? := by
  unfold atI; rw [h]; rfl
theorem atI_fd {F : Hp} {vs : List V} {ds : List D} (f : FdAll K F vs ds) (h : atI ds i = some d) : ∃ v, atI vs i = some v ∧ Fd K F v d := by
  unfold atI at h ⊢
  rw [f.length]
  cases e : ixN ds.length i with
  | none => rw [e] at h; cases h
  | some n =>
    rw [e] at h
    exact f.get h
theorem o_ixT {ds : List D} (h : atI ds i = some d) : Op2 K l (rIxT K) (.tup ds) (.int i) d := fun F M H v u Q eF eM dj rs f1 f2 k => by
  cases f2
  cases f1 with
  | tup s a =>
    obtain ⟨w, h1, h2⟩ := atI_fd a h
    exact ⟨_, _, i, w, rfl, rfl, ex_t eF s, h1, k w F H (.rf eF) h2⟩
theorem o_ixL {ds : List D} (h : atI ds i = some d) : Op2 K l (rIxL K) (.lst ds) (.int i) d := fun F M H v u Q eF eM dj rs f1 f2 k => by
  cases f2
  cases f1 with
  | lst s a =>
    obtain ⟨w, h1, h2⟩ := atI_fd a h
    exact ⟨_, _, i, w, rfl, rfl, SqL.of (eF _ _ s), h1, k w F H (.rf eF) h2⟩
theorem o_ixR {ds : List D} (h : atI ds i = some d) : Op2 K l (rIxL K) (.scr ds) (.int i) d := fun F M H v u Q eF eM dj rs f1 f2 k => by
  cases f2
  cases f1 with
  | scr s a =>
    obtain ⟨w, h1, h2⟩ := atI_fd a h
    exact ⟨_, _, i, w, rfl, rfl, ex_l eF s, h1, k w F H (.rf eF) h2⟩
theorem o_ixO {k : Nat} {p : Addr} {ds : List D} (hk : l[k]? = some (ownL K p ds)) (h : atI ds i = some d) : Op2 K l (rIxL K) (.adr p) (.int i) d := fun F M H v u Q eF eM dj rs f1 f2 kk => by
  cases f2
  cases f1
  obtain ⟨vs, f, hp⟩ := rs.own hk eM
  obtain ⟨w, h1, h2⟩ := atI_fd f h
  exact ⟨_, _, i, w, rfl, rfl, SqL.of hp, h1, kk w F H (.rf eF) h2⟩
theorem o_ixS {x : Str} {c : Nat} (h : x.length ≤ sizeLine) (ha : atI x.cps.toList i = some c) : Op2 K l rIxS (.str x) (.int i) (.str ⟨#[c]⟩) := fun F M H v u Q eF eM dj rs f1 f2 k => by
  cases f1; cases f2
  exact ⟨x, i, c, rfl, rfl, h, ha, k _ F H (.rf eF) (.str _)⟩
/-- x in xs, flat things -/
def D.flat (d : D) : Bool := match d.v with | some v => flatV v | none => false
def D.vv (d : D) : V := d.v.getD .non
theorem D.vv_eq {F : Hp} {d : D} {v : V} (f : Fd K F v d) (h : d.flat = true) : v = d.vv ∧ flatV v = true := by
  cases f <;> first | exact ⟨rfl, h⟩ | cases h
theorem D.vvs {F : Hp} : ∀ {vs : List V} {ds : List D}, FdAll K F vs ds → ds.all D.flat = true → vs = ds.map D.vv ∧ vs.all flatV = true
  | _, _, .nil, _ => ⟨rfl, rfl⟩
  | _, _, .cons a b, h => by
    rw [List.all_cons, Bool.and_eq_true] at h
    obtain ⟨q1, q2⟩ := D.vv_eq a h.1
    obtain ⟨r1, r2⟩ := D.vvs b h.2
    refine ⟨by rw [List.map_cons, ← q1, ← r1], by rw [List.all_cons, q2, r2]; rfl⟩
theorem o_in {neg : Bool} {ds : List D} {d0 : D} (hd : d0 = .lst ds ∨ d0 = .tup ds) (hx : d.flat = true) (hs : ds.all D.flat = true) : Op2 K l (rIn K neg) d d0 (.bl (if neg then !inV d.vv (ds.map D.vv) else inV d.vv (ds.map D.vv))) := fun F M H v u Q eF eM dj rs f1 f2 k => by
  obtain ⟨q1, q2⟩ := D.vv_eq f1 hx
  subst q1
  have kk := k (.bl (if neg then !inV d.vv (ds.map D.vv) else inV d.vv (ds.map D.vv))) F H (.rf eF) (.bl _)
  rcases hd with rfl | rfl
  · cases f2 with
    | lst s a =>
      obtain ⟨r1, r2⟩ := D.vvs a hs
      subst r1
      exact ⟨_, _, rfl, .inl (SqL.of (eF _ _ s)), q2, r2, kk⟩
  · cases f2 with
    | tup s a =>
      obtain ⟨r1, r2⟩ := D.vvs a hs
      subst r1
      exact ⟨_, _, rfl, .inr (ex_t eF s), q2, r2, kk⟩
theorem o_inO {neg : Bool} {k : Nat} {p : Addr} {ds : List D} (hk : l[k]? = some (ownL K p ds)) (hx : d.flat = true) (hs : ds.all D.flat = true) : Op2 K l (rIn K neg) d (.adr p) (.bl (if neg then !inV d.vv (ds.map D.vv) else inV d.vv (ds.map D.vv))) := fun F M H v u Q eF eM dj rs f1 f2 kk => by
  obtain ⟨q1, q2⟩ := D.vv_eq f1 hx
  subst q1
  cases f2
  obtain ⟨vs, f, hp⟩ := rs.own hk eM
  obtain ⟨r1, r2⟩ := D.vvs f hs
  subst r1
  exact ⟨_, _, rfl, .inl (SqL.of hp), q2, r2, kk _ F H (.rf eF) (.bl _)⟩
theorem inV_str {x : Str} {xs : List Str} : inV (.str x) (xs.map V.str) = decide (x ∈ xs) := by
  induction xs with
  | nil => rfl
  | cons y r ih =>
    have e : inV (.str x) ((y :: r).map V.str) = ((y == x) || inV (.str x) (r.map V.str)) := rfl
    rw [e, ih]
    by_cases q : y = x
    · subst q; simp
    · have q' : ¬ x = y := fun z => q z.symm
      simp [q, q']
theorem inV_int {x : Int} {xs : List Int} : inV (.int x) (xs.map V.int) = decide (x ∈ xs) := by
  induction xs with
  | nil => rfl
  | cons y r ih =>
    have e : inV (.int x) ((y :: r).map V.int) = ((y == x) || inV (.int x) (r.map V.int)) := rfl
    rw [e, ih]
    by_cases q : y = x
    · subst q; simp
    · have q' : ¬ x = y := fun z => q z.symm
      simp [q, q']
theorem flat_strs {xs : List Str} : (xs.map D.str).all D.flat = true := by
  induction xs with
  | nil => rfl
  | cons y r ih => rw [List.map_cons, List.all_cons, ih]; rfl
theorem vv_strs {xs : List Str} : (xs.map D.str).map D.vv = xs.map V.str := by
  rw [List.map_map]; rfl
theorem flat_ints {xs : List Int} : (xs.map D.int).all D.flat = true := by
  induction xs with
  | nil => rfl
  | cons y r ih => rw [List.map_cons, List.all_cons, ih]; rfl
theorem vv_ints {xs : List Int} : (xs.map D.int).map D.vv = xs.map V.int := by
  rw [List.map_map]; rfl
theorem o_inS {x : Str} {xs : List Str} {d0 : D} (hd : d0 = .lst (xs.map D.str) ∨ d0 = .tup (xs.map D.str)) : Op2 K l (rIn K false) (.str x) d0 (.bl (decide (x ∈ xs))) := by
  have h := o_in (K := K) (l := l) (neg := false) hd (d := .str x) rfl flat_strs
  rw [vv_strs] at h
  have e : (if false = true then !inV (D.str x).vv (xs.map V.str) else inV (D.str x).vv (xs.map V.str)) = decide (x ∈ xs) := inV_str
  rw [e] at h; exact h
theorem o_ninS {x : Str} {xs : List Str} {d0 : D} (hd : d0 = .lst (xs.map D.str) ∨ d0 = .tup (xs.map D.str)) : Op2 K l (rIn K true) (.str x) d0 (.bl (!decide (x ∈ xs))) := by
  have h := o_in (K := K) (l := l) (neg := true) hd (d := .str x) rfl flat_strs
  rw [vv_strs] at h
  have e : (if true = true then !inV (D.str x).vv (xs.map V.str) else inV (D.str x).vv (xs.map V.str)) = !decide (x ∈ xs) := congrArg (!·) inV_str
  rw [e] at h; exact h
/- == of data -/
mutual
def D.py : D → Option PyData
  | .non => some .none | .bl b => some (.bool b) | .int i => some (.int i) | .str x => some (.str x)
  | .lst ds => (D.pys ds).map .list
  | .tup ds => (D.pys ds).map .tuple
  | .adr _ => none | .ty _ => none | .ins _ _ => none | .scr _ => none | .dK _ => none | .dT _ => none | .exc _ _ => none | .kt _ => none
def D.pys : List D → Option (List PyData)
  | [] => some []
  | d :: r => (D.py d).bind fun a => (D.pys r).map fun b => a :: b
end
mutual
theorem Fd.dp {F H : Hp} (e : Ex F H) : ∀ (d : D) {v : V} {p : PyData}, Fd K F v d → D.py d = some p → Dp K H v p
  | .non, _, _, h, q => by cases h; cases q; exact .non
  | .bl _, _, _, h, q => by cases h; cases q; exact .bl _
  | .int _, _, _, h, q => by cases h; cases q; exact .int _
  | .str _, _, _, h, q => by cases h; cases q; exact .str _
  | .lst ds, _, _, h, q => by
    unfold D.py at q
    obtain ⟨ps, h1, rfl⟩ := Option.map_eq_some_iff.mp q
    cases h with
    | lst s a => exact .lst (SqL.of (e _ _ s)) (FdAll.dp e ds a h1)
  | .tup ds, _, _, h, q => by
    unfold D.py at q
    obtain ⟨ps, h1, rfl⟩ := Option.map_eq_some_iff.mp q
    cases h with
    | tup s a => exact .tup (ex_t e s) (FdAll.dp e ds a h1)
  | .adr _, _, _, h, q => by cases q
  | .ty _, _, _, h, q => by cases q
  | .ins _ _, _, _, h, q => by cases q
  | .scr _, _, _, h, q => by cases q
  | .dK _, _, _, h, q => by cases q
  | .dT _, _, _, h, q => by cases q
  | .exc _ _, _, _, h, q => by cases q
  | .kt _, _, _, h, q => by cases q
theorem FdAll.dp {F H : Hp} (e : Ex F H) : ∀ (ds : List D) {vs : List V} {ps : List PyData}, FdAll K F vs ds → D.pys ds = some ps → DpAll K H vs ps
  | [], _, _, h, q => by cases h; cases q; exact .nil
  | d :: r, _, _, h, q => by
    unfold D.pys at q
    obtain ⟨a, h1, q⟩ := Option.bind_eq_some_iff.mp q
    obtain ⟨b, h2, rfl⟩ := Option.map_eq_some_iff.mp q
    cases h with
    | cons x y => exact .cons (Fd.dp e d x h1) (FdAll.dp e r y h2)
end
theorem o_eqD {p q : PyData} (h1 : d1.py = some p) (h2 : d2.py = some q) (s1 : SeqAt.shaped p = true) (s2 : SeqAt.shaped q = true) : Op2 K l (rEqD K) d1 d2 (.bl (PyData.eqv p q)) := fun F M H v u Q eF eM dj rs f1 f2 k =>
  ⟨p, q, Fd.dp eF _ f1 h1, Fd.dp eF _ f2 h2, s1, s2, k _ F H (.rf eF) (.bl _)⟩
theorem o_neD {p q : PyData} (h1 : d1.py = some p) (h2 : d2.py = some q) (s1 : SeqAt.shaped p = true) (s2 : SeqAt.shaped q = true) : Op2 K l (rNeD K) d1 d2 (.bl (!PyData.eqv p q)) := fun F M H v u Q eF eM dj rs f1 f2 k =>
  ⟨p, q, Fd.dp eF _ f1 h1, Fd.dp eF _ f2 h2, s1, s2, k _ F H (.rf eF) (.bl _)⟩
end

/-! ### a def's promise -/
/-- called with the data args a (owned: own a), where ok a holds, it gives back what post tells, or raises what epost tells -/
def FnX (K : PySem.W.Frag) {α : Type} (ok : α → Prop) (args : α → List D) (own : α → List Res) (post : α → D → List Res → Prop) (epost : α → Value → Option Addr → List Res → Prop) : Sp := fun vs H Q E =>
  ∃ (a : α) (F M : Hp), ok a ∧ Ex F H ∧ Ex M H ∧ Dj F M ∧ FdAll K F vs (args a) ∧ Rs (own a) F M ∧
    (∀ v d l' H', post a d l' → S K ⟨F, M, H⟩ [] (Tm.tt.and K v d) l' [] H' → Q v H') ∧ (∀ cls d l' H', epost a cls d l' → S K ⟨F, M, H⟩ [] Tm.tt l' [] H' → E cls d H')
abbrev noE {α : Type} : α → Value → Option Addr → List Res → Prop := fun _ _ _ _ => False
/-- a def that changes nothing and gives back f a -/
abbrev Pu (K : PySem.W.Frag) {α : Type} (ok : α → Prop) (args : α → List D) (f : α → D) : Sp := FnX K ok args (fun _ => []) (fun a d l' => d = f a ∧ l' = []) noE
section
variable {P : Program} {w : World} {K : PySem.W.Frag} {mg : Str → Option Value} {base : Heap}
theorem fn_ok {α : Type} {ok : α → Prop} {args : α → List D} {own : α → List Res} {post : α → D → List Res → Prop} {epost : α → Value → Option Addr → List Res → Prop} {x qual : Str} {st : Stmt} {f : Addr} {fd : FuncData} {N ps : List Str} {k : Nat}
    (F : Fun K x qual st f fd) (Sc : FnScope N ps (defScope st)) (hlen : ∀ a, (args a).length = ps.length)
    (hbody : ∀ (cdv : Value) (A : Around) (outer : List Env) (s : Shared) (H : Hp) (E : XK) (a : α), Room k (A.deeper (PyProof.Rows.envOfC qual (defScope st) s.heap.objs.size f cdv)) → ok a →
      Blk (cxOf CX0 P w K mg base N qual (defScope st) f cdv A outer s H E).nox (fun _ _ _ _ => False) (defBody st) ((args a).map some ++ List.replicate (N.length - (args a).length) none) (own a) { nx := fun _ l' => post a .non l', rt := post a }) :
    FnOk P w K mg base CX0 (k + 1) f fd ps (FnX K ok args own post epost) := by
  refine F.ok Sc (fun vs H Q E h => ?_) (fun cdv A outer s H vs Q E hr h => ⟨wpS _ (defBody st), pss_wp, ?_⟩)
  · obtain ⟨a, _, _, _, _, _, _, h, _⟩ := h
    rw [h.length, hlen]
  · obtain ⟨a, F, M, hok, eF, eM, dj, fa, rs, hq, _⟩ := h
    have e : vs.length = (args a).length := fa.length
    refine hbody cdv A outer s H E a hr hok ⟨F, M, H⟩ Tm.tt _ H _ ⟨F, M, At.entry eF eM dj ?_ trivial rs⟩ ⟨fun g l σ H' p s' => ?_, fun d l v H' p s' => hq v d l H' p s', fun _ _ _ _ h => h.elim, fun _ _ _ _ h => h.elim, fun _ _ _ _ _ _ h => h.elim⟩
    · unfold L2.start
      rw [e]
      exact Sl.args _ fa
    · obtain ⟨F', M', q⟩ := s'
      exact hq .non .non l H' p ⟨F', M', (q.tmp (T' := Tm.tt.and K .non .non) ⟨.non, trivial⟩).slots .nil⟩
theorem fn_okX {α : Type} {ok : α → Prop} {args : α → List D} {own : α → List Res} {post : α → D → List Res → Prop} {epost : α → Value → Option Addr → List Res → Prop} {x qual : Str} {st : Stmt} {f : Addr} {fd : FuncData} {N ps : List Str} {k : Nat}
    (F : Fun K x qual st f fd) (Sc : FnScope N ps (defScope st)) (hlen : ∀ a, (args a).length = ps.length)
    (hbody : ∀ (cdv : Value) (A : Around) (outer : List Env) (s : Shared) (H : Hp) (E : XK) (a : α), Room k (A.deeper (PyProof.Rows.envOfC qual (defScope st) s.heap.objs.size f cdv)) → ok a →
      Blk (cxOf (L2.CX P w) P w K mg base N qual (defScope st) f cdv A outer s H E) (fun cls d _ H => E cls d H) (defBody st) ((args a).map some ++ List.replicate (N.length - (args a).length) none) (own a) { nx := fun _ l' => post a .non l', rt := post a, ex := fun cls d _ l' => epost a cls d l' }) :
    FnOk P w K mg base (L2.CX P w) (k + 1) f fd ps (FnX K ok args own post epost) := by
  refine F.okX Sc (fun vs H Q E h => ?_) (fun cdv A outer s H vs Q E hr h => ⟨wpS _ (defBody st), pss_wp, ?_⟩)
  · obtain ⟨a, _, _, _, _, _, _, h, _⟩ := h
    rw [h.length, hlen]
  · obtain ⟨a, F, M, hok, eF, eM, dj, fa, rs, hq, he⟩ := h
    have e : vs.length = (args a).length := fa.length
    refine hbody cdv A outer s H E a hr hok ⟨F, M, H⟩ Tm.tt _ H _ ⟨F, M, At.entry eF eM dj ?_ trivial rs⟩ ⟨fun g l σ H' p s' => ?_, fun d l v H' p s' => hq v d l H' p s', fun _ _ _ _ h => h.elim, fun _ _ _ _ h => h.elim, fun cls d g l σ H' p s' => he cls d l H' p s'.slotless⟩
    · unfold L2.start
      rw [e]
      exact Sl.args _ fa
    · obtain ⟨F', M', q⟩ := s'
      exact hq .non .non l H' p ⟨F', M', (q.tmp (T' := Tm.tt.and K .non .non) ⟨.non, trivial⟩).slots .nil⟩
/-- a def of the module under its name, with its promise -/
def Glo (P : Program) (w : World) (K : PySem.W.Frag) (mg : Str → Option Value) (base : Heap) (k : Nat) (x : Str) (ps : List Str) (sp : Sp) : Prop :=
  ∃ f fd, FnOk P w K mg base CX0 k f fd ps sp ∧ mg x = some (.ref f) ∧ PySem.W.keepIn K (.ref f) = true ∧ Binds K fd ps []
/-- a class's method, with its promise -/
def GloM (P : Program) (w : World) (K : PySem.W.Frag) (mg : Str → Option Value) (base : Heap) (k : Nat) (C : Addr) (m : Str) (ps : List Str) (sp : Sp) : Prop :=
  ∃ f fd, FnOk P w K mg base CX0 k f fd ps sp ∧ Cls K C ∧ Meth K C m f ∧ Binds K fd ps []
/-- a class under its name with its __init__ -/
def GloC (P : Program) (w : World) (K : PySem.W.Frag) (mg : Str → Option Value) (base : Heap) (k : Nat) (C : Addr) (x : Str) (ps : List Str) (sp : Sp) : Prop :=
  ∃ f fd, FnOk P w K mg base CX0 k f fd ps sp ∧ Mk K C f ∧ mg x = some (.ref C) ∧ Binds K fd ps []
end

section
variable {X : Cx} {W : WX} {g g' : Gm} {l l' : List Res} {Φ : Po} {e e2 a b c o : Expr} {es : List Expr} {d d1 d2 d3 : D} {pos p p2 : Pos} {rest : List Stmt}
/-- o.m(es) is got as a method -/
abbrev MthE (X : Cx) (o : Expr) (m : Str) (apos pos : Pos) (es : List Expr) (pl : Sem Bool) : Prop := eval (.Call (.Attribute o m apos) es [] pos) X.env = (do let ov ← eval o X.env; standAt apos.atName; let (f, r) ← holding [ov] (getMethod ov m pl); callWith pos f r (backTo pos (starEach es X.env)) (backToKw pos (keywordEach [] X.env)))
/-- what a promise gives where the state is known -/
theorem FnX.use {α : Type} {ok : α → Prop} {args : α → List D} {own : α → List Res} {post : α → D → List Res → Prop} {epost : α → Value → Option Addr → List Res → Prop} {K : PySem.W.Frag} {en : En} {T : Tm} {σ : L2.St} {H : Hp} {vs : List V} {lr : List Res} {Q : VK} {E : XK}
    (a : α) (hok : ok a) (s : S K en g (T.ands K vs (args a)) (own a ++ lr) σ H) (hq : ∀ v d l' H', post a d l' → S K en g (T.and K v d) (l' ++ lr) σ H' → Q v H') (he : ∀ cls d l' H', epost a cls d l' → S K en g T (l' ++ lr) σ H' → E cls d H') :
    FnX K ok args own post epost vs H Q E := by
  obtain ⟨F, M, q⟩ := s
  obtain ⟨A, B, rfl, dj, r1, r2⟩ := q.rs.split
  refine ⟨a, F, A, hok, q.exF, q.exM.joinL, (Dj.l q.dj.sym).sym, q.tm.1, r1, fun v d l' H' hp s' => ?_, fun cls d l' H' hp s' => ?_⟩
  · obtain ⟨F2, M2, b⟩ := s'
    have z := (q.tmp (T' := T) q.tm.2).frame dj r2 b
    exact hq v d l' H' hp ⟨F2, _, z.tmp ⟨b.tm.1, z.tm⟩⟩
  · obtain ⟨F2, M2, b⟩ := s'
    have z := (q.tmp (T' := T) q.tm.2).frame dj r2 b
    exact he cls d l' H' hp ⟨F2, _, z⟩
theorem ev_call {α : Type} {ok : α → Prop} {args : α → List D} {own : α → List Res} {post : α → D → List Res → Prop} {x : Str} {ps : List Str} {k j : Nat} {lr : List Res} {Psi : D → List Res → Prop}
    (G : Glo X.prog X.w X.K X.mg X.base k x ps (FnX X.K ok args own post noE)) (hr : Room j X.A) (hj : k ≤ j) (a : α) (hok : ok a) (ha : Pa X (e :: es) g (own a ++ lr) (args a)) (hq : ∀ d l', post a d l' → Psi d (l' ++ lr))
    (hg : Gl X x := by rfl) (hdb : (x == ("__debug__" : Str)) = false := by decide) (he : starEach (e :: es) X.env = (false, eval e X.env) :: starEach es X.env := by rfl) (hpl : (backTo pos (starEach es X.env)).any (·.1) = false := by rfl) :
    Ev X (.Call (.Name x p) (e :: es) [] pos) g (own a ++ lr) Psi := fun en T σ H Q s kk => by
  obtain ⟨f, fd, F, hm, hk, hb⟩ := G
  refine wpE_of (pe_call F (hr.mono hj) hg hm hk hb .nil pass0 pa_wp hdb he hpl) ?_
  refine ha en T σ H _ s fun vs H1 s1 => ?_
  rw [List.append_nil]
  exact FnX.use a hok s1 (fun v d l' H' hp s' => kk v d _ H' (hq d l' hp) s') fun _ _ _ _ h => h.elim
theorem ev_call0 {α : Type} {ok : α → Prop} {args : α → List D} {own : α → List Res} {post : α → D → List Res → Prop} {x : Str} {ps : List Str} {k j : Nat} {lr : List Res} {Psi : D → List Res → Prop}
    (G : Glo X.prog X.w X.K X.mg X.base k x ps (FnX X.K ok args own post noE)) (hr : Room j X.A) (hj : k ≤ j) (a : α) (hok : ok a) (ha : args a = []) (hq : ∀ d l', post a d l' → Psi d (l' ++ lr))
    (hg : Gl X x := by rfl) (hdb : (x == ("__debug__" : Str)) = false := by decide) :
    Ev X (.Call (.Name x p) [] [] pos) g (own a ++ lr) Psi := fun en T σ H Q s kk => by
  obtain ⟨f, fd, F, hm, hk, hb⟩ := G
  refine wpE_of (pe_call0 F (hr.mono hj) hg hm hk hb .nil pass0 hdb) ?_
  show FnX _ _ _ _ _ _ ([] ++ []) H Q _
  have s1 : S X.K en g (T.ands X.K [] (args a)) (own a ++ lr) σ H := by
    obtain ⟨F, M, q⟩ := s
    exact ⟨F, M, q.tmp ⟨by rw [ha]; exact .nil, q.tm⟩⟩
  exact FnX.use a hok s1 (fun v d l' H' hp s' => kk v d _ H' (hq d l' hp) s') fun _ _ _ _ h => h.elim
/-- a def that changes nothing -/
theorem px_call {α : Type} {ok : α → Prop} {args : α → List D} {f : α → D} {x : Str} {ps : List Str} {k j : Nat} 
    (G : Glo X.prog X.w X.K X.mg X.base k x ps (Pu X.K ok args f)) (hr : Room j X.A) (hj : k ≤ j) (a : α) (hok : ok a) (ha : Pa X (e :: es) g l (args a))
    (hg : Gl X x := by rfl) (hdb : (x == ("__debug__" : Str)) = false := by decide) (he : starEach (e :: es) X.env = (false, eval e X.env) :: starEach es X.env := by rfl) (hpl : (backTo pos (starEach es X.env)).any (·.1) = false := by rfl) :
    Px X (.Call (.Name x p) (e :: es) [] pos) g l (f a) :=
  Ev.px (ev_call (lr := l) (own := fun _ => []) G hr hj a hok ha (fun d l' h => ⟨h.1, by rw [h.2]; rfl⟩) hg hdb he hpl)
/-- o.m(..) -/
theorem ev_meth {α : Type} {ok : α → Prop} {args : α → List D} {own : α → List Res} {post : α → D → List Res → Prop} {C : Addr} {m : Str} {ps : List Str} {k j : Nat} {lr : List Res} {Psi : D → List Res → Prop} {ds : List D} {apos : Pos} {pl : Sem Bool}
    (G : GloM X.prog X.w X.K X.mg X.base k C m ps (FnX X.K ok args own post noE)) (hr : Room j X.A) (hj : k ≤ j) (a : α) (hok : ok a) (ho : Px X o g (own a ++ lr) d1)
    (hd : ∀ F M H v, Ex F H → Ex M H → Rs (own a ++ lr) F M → Fd X.K F v d1 → ∃ q dx fs, v = .ref q ∧ H q = some (.ins C dx fs) ∧ fs.lookup m = none)
    (ha : Pa X (e :: es) g (own a ++ lr) ds) (hds : args a = d1 :: ds) (hq : ∀ d l', post a d l' → Psi d (l' ++ lr))
    (hst : starEach (e :: es) X.env = (false, eval e X.env) :: starEach es X.env := by rfl) (hpl : (backTo pos (starEach es X.env)).any (·.1) = false := by rfl)
    (ht : MthE X o m apos pos (e :: es) pl := by rfl) :
    Ev X (.Call (.Attribute o m apos) (e :: es) [] pos) g (own a ++ lr) Psi := fun en T σ H Q s kk => by
  obtain ⟨f, fd, F, hc, hm, hb⟩ := G
  refine wpE_of (pe_meth pe_wp hc hm F (hr.mono hj) hb .nil pass0 pa_wp hst hpl ht) ?_
  refine ho en T σ H _ s fun v H1 s1 => ?_
  have s1' := s1
  obtain ⟨F1, M1, q1⟩ := s1
  obtain ⟨q, dx, fs, rfl, h1, h2⟩ := hd F1 M1 H1 v q1.exF q1.exM q1.rs q1.tm.1
  refine ⟨q, dx, fs, rfl, h1, h2, ?_⟩
  refine ha en _ σ H1 _ s1' fun vs H2 s2 => ?_
  rw [List.append_nil]
  refine FnX.use a hok (T := T) (g := g) (en := en) (σ := σ) (lr := lr) ?_ (fun v d l' H' hp s' => kk v d _ H' (hq d l' hp) s') fun _ _ _ _ h => h.elim
  obtain ⟨F, M, q⟩ := s2
  exact ⟨F, M, q.tmp ⟨by rw [hds]; exact .cons q.tm.2.1 q.tm.1, q.tm.2.2⟩⟩
theorem ev_meth0 {α : Type} {ok : α → Prop} {args : α → List D} {own : α → List Res} {post : α → D → List Res → Prop} {C : Addr} {m : Str} {ps : List Str} {k j : Nat} {lr : List Res} {Psi : D → List Res → Prop} {apos : Pos} {pl : Sem Bool}
    (G : GloM X.prog X.w X.K X.mg X.base k C m ps (FnX X.K ok args own post noE)) (hr : Room j X.A) (hj : k ≤ j) (a : α) (hok : ok a) (ho : Px X o g (own a ++ lr) d1)
    (hd : ∀ F M H v, Ex F H → Ex M H → Rs (own a ++ lr) F M → Fd X.K F v d1 → ∃ q dx fs, v = .ref q ∧ H q = some (.ins C dx fs) ∧ fs.lookup m = none)
    (hds : args a = [d1]) (hq : ∀ d l', post a d l' → Psi d (l' ++ lr))
    (ht : MthE X o m apos pos [] pl := by rfl) :
    Ev X (.Call (.Attribute o m apos) [] [] pos) g (own a ++ lr) Psi := fun en T σ H Q s kk => by
  obtain ⟨f, fd, F, hc, hm, hb⟩ := G
  refine wpE_of (pe_meth0 pe_wp hc hm F (hr.mono hj) hb .nil pass0 ht) ?_
  refine ho en T σ H _ s fun v H1 s1 => ?_
  have s1' := s1
  obtain ⟨F1, M1, q1⟩ := s1
  obtain ⟨q, dx, fs, rfl, h1, h2⟩ := hd F1 M1 H1 v q1.exF q1.exM q1.rs q1.tm.1
  refine ⟨q, dx, fs, rfl, h1, h2, ?_⟩
  show FnX _ _ _ _ _ _ (V.ref q :: ([] ++ [])) H1 Q _
  refine FnX.use a hok (T := T) (g := g) (en := en) (σ := σ) (lr := lr) ?_ (fun v d l' H' hp s' => kk v d _ H' (hq d l' hp) s') fun _ _ _ _ h => h.elim
  exact ⟨F1, M1, q1.tmp ⟨by rw [hds]; exact .cons q1.tm.1 .nil, q1.tm.2⟩⟩
/-- the receiver: a frozen instance, an owned one -/
theorem rc_ins {K : PySem.W.Frag} {C : Addr} {fs : List (Str × D)} {m : Str} (h : fs.lookup m = none) : ∀ F M H v, Ex F H → Ex M H → Rs l F M → Fd K F v (.ins C fs) → ∃ q dx fs, v = .ref q ∧ H q = some (.ins C dx fs) ∧ fs.lookup m = none := fun F M H v eF eM rs f => by
  cases f with
  | ins h1 h2 => exact ⟨_, _, _, rfl, eF _ _ h1, h2.nolook h⟩
theorem rc_own {K : PySem.W.Frag} {C p : Addr} {fs : List (Str × D)} {m : Str} {k : Nat} (hk : l[k]? = some (ownI K p C fs)) (h : fs.lookup m = none) : ∀ F M H v, Ex F H → Ex M H → Rs l F M → Fd K F v (.adr p) → ∃ q dx fs, v = .ref q ∧ H q = some (.ins C dx fs) ∧ fs.lookup m = none := fun F M H v eF eM rs f => by
  cases f
  obtain ⟨dx, vs, f, hp⟩ := rs.ins hk eM
  exact ⟨p, dx, vs, rfl, hp, f.nolook h⟩
theorem px_meth {α : Type} {ok : α → Prop} {args : α → List D} {f : α → D} {C : Addr} {m : Str} {ps : List Str} {k j : Nat} {ds : List D} {apos : Pos} {pl : Sem Bool} {fs : List (Str × D)}
    (G : GloM X.prog X.w X.K X.mg X.base k C m ps (Pu X.K ok args f)) (hr : Room j X.A) (hj : k ≤ j) (a : α) (hok : ok a) (ho : Px X o g l (.ins C fs)) (hfs : fs.lookup m = none) (ha : Pa X (e :: es) g l ds) (hds : args a = .ins C fs :: ds)
    (hst : starEach (e :: es) X.env = (false, eval e X.env) :: starEach es X.env := by rfl) (hpl : (backTo pos (starEach es X.env)).any (·.1) = false := by rfl)
    (ht : MthE X o m apos pos (e :: es) pl := by rfl) : Px X (.Call (.Attribute o m apos) (e :: es) [] pos) g l (f a) :=
  Ev.px (ev_meth (lr := l) (own := fun _ => []) G hr hj a hok ho (rc_ins hfs) ha hds (fun d l' h => ⟨h.1, by rw [h.2]; rfl⟩) hst hpl ht)
theorem px_meth0 {α : Type} {ok : α → Prop} {args : α → List D} {f : α → D} {C : Addr} {m : Str} {ps : List Str} {k j : Nat} {apos : Pos} {pl : Sem Bool} {fs : List (Str × D)}
    (G : GloM X.prog X.w X.K X.mg X.base k C m ps (Pu X.K ok args f)) (hr : Room j X.A) (hj : k ≤ j) (a : α) (hok : ok a) (ho : Px X o g l (.ins C fs)) (hfs : fs.lookup m = none) (hds : args a = [.ins C fs])
    (ht : MthE X o m apos pos [] pl := by rfl) : Px X (.Call (.Attribute o m apos) [] [] pos) g l (f a) :=
  Ev.px (ev_meth0 (lr := l) (own := fun _ => []) G hr hj a hok ho (rc_ins hfs) hds (fun d l' h => ⟨h.1, by rw [h.2]; rfl⟩) ht)
/-- C(..), C with an own __init__ -/
theorem ev_make {α : Type} {ok : α → Prop} {args : α → List D} {own : α → List Res} {post : α → D → List Res → Prop} {C : Addr} {x : Str} {ps : List Str} {k j : Nat} {lr : List Res} {Psi : D → List Res → Prop} {ds : List D}
    (G : GloC X.prog X.w X.K X.mg X.base k C x ps (FnX X.K ok args own post noE)) (hr : Room j X.A) (hj : k + 1 ≤ j) (a : Addr → α) (hok : ∀ q, ok (a q)) (ha : Pa X (e :: es) g lr ds)
    (hds : ∀ q, args (a q) = .adr q :: ds) (hown : ∀ q, own (a q) = [ownI X.K q C []]) (hq : ∀ q d l', post (a q) d l' → d = .non ∧ Psi (.adr q) (l' ++ lr))
    (hg : Gl X x := by rfl) (hdb : (x == ("__debug__" : Str)) = false := by decide) (he : starEach (e :: es) X.env = (false, eval e X.env) :: starEach es X.env := by rfl) (hpl : (backTo pos (starEach es X.env)).any (·.1) = false := by rfl) :
    Ev X (.Call (.Name x p) (e :: es) [] pos) g lr Psi := fun en T σ H Q s kk => by
  obtain ⟨f, fd, F, M, hm, hb⟩ := G
  refine wpE_of (pe_make M F (hr.mono hj) hg hm hb .nil pass0 pa_wp hdb he hpl) ?_
  refine ha en T σ H _ s fun vs H1 s1 => ?_
  intro x dx nx ndx ne
  rw [List.append_nil]
  obtain ⟨F1, M1, q1⟩ := s1
  have n2 : (upd H1 dx (.own x)) x = none := by rw [upd_ne (Ne.symm ne)]; exact nx
  have q2 := q1.newO (r := ownI X.K x C []) (A := join (one x (.ins C dx [])) (one dx (.own x))) (H' := upd (upd H1 dx (.own x)) x (.ins C dx [])) ((Ex.new ndx).tr (.new n2))
    (fun y o z => by
      rcases join_some z with w | ⟨w, w'⟩
      · obtain ⟨rfl, rfl⟩ := one_some w; exact upd_same
      · obtain ⟨rfl, rfl⟩ := one_some w'
        rw [upd_ne ne, upd_same])
    (fun y o z => by
      rcases join_some z with w | ⟨w, w'⟩
      · obtain ⟨rfl, rfl⟩ := one_some w; exact nx
      · obtain ⟨rfl, rfl⟩ := one_some w'; exact ndx) ⟨[], dx, ne, .nil, rfl⟩
  have s2 : S X.K en g ((T.and X.K (.ref x) (.adr x)).ands X.K (.ref x :: vs) (args (a x))) (own (a x) ++ lr) σ (upd (upd H1 dx (.own x)) x (.ins C dx [])) := by
    rw [hown]
    exact ⟨F1, _, q2.tmp ⟨by rw [hds]; exact .cons (.adr x) q1.tm.1, .adr x, q1.tm.2⟩⟩
  refine FnX.use (a x) (hok x) s2 (fun v d l' H' hp s' => ?_) fun _ _ _ _ h => h.elim
  · obtain ⟨e1, e2⟩ := hq x d l' hp
    subst e1
    obtain ⟨F3, M3, q3⟩ := s'
    have f3 := q3.tm.1
    cases f3
    exact ⟨rfl, kk _ _ _ H' e2 ⟨F3, M3, q3.tmp q3.tm.2⟩⟩
/-- an instance just made is frozen -/
theorem Ev.frzI {C : Addr} {fs : List (Str × D)} (h : Ev X e g l (fun d' l' => ∃ p, d' = .adr p ∧ l' = ownI X.K p C fs :: l)) : Px X e g l (.ins C fs) := fun en T σ H Q s k => h en T σ H Q s fun v d l' H' p s' => by
  obtain ⟨p, rfl, rfl⟩ := p
  obtain ⟨F, M, q⟩ := s'
  have hv := q.tm.1
  cases hv
  obtain ⟨F', M', q', f, _⟩ := q.frz (P := fun F' => Fd X.K F' (.ref p) (.ins C fs)) fun A hA => by
    obtain ⟨vs, dx, n, f, rfl⟩ := hA
    have hF : F p = none := by
      obtain ⟨A, B, rfl, _, ⟨_, dx, n, _, rfl⟩, _⟩ := q.rs
      exact q.dj.sym p _ (join_l (join_l one_same))
    exact .ins (by rw [join_r hF]; exact join_l one_same) (FdFs.mono (fun x o h => join_l h) _ f)
  exact k _ H' ⟨F', M', q'.tmp ⟨f, q'.tm.2⟩⟩
/-- self.f = e, self an owned instance -/
theorem blk_fld {k : Nat} {C q : Addr} {fs : List (Str × D)} {f : Str} {pos' : Pos} (he : Px X e g l d) (ho : Px X o g l (.adr q)) (hk : l[k]? = some (ownI X.K q C fs)) (hc : Cls X.K C) (hn : NoAttr X.K C f) (hz : fs.length < 1000)
    (h : Blk X W rest g (l.set k (ownI X.K q C (putD f d fs))) Φ) (hs : swapsWith e (some (.Attribute o f pos')) pos.line X.env = pure false := by rfl) : Blk X W (.Assign [.Attribute o f pos'] e pos :: rest) g l Φ := fun en T σ H D s m => wpS_of (pss_cons (ps_fld pe_wp pe_wp hs) pss_wp) (by
  refine he en T σ H _ s fun v H1 s1 => ?_
  refine ho en _ σ H1 _ s1 fun u H2 s2 => ?_
  obtain ⟨F, M, q2⟩ := s2
  have fu := q2.tm.1
  cases fu
  obtain ⟨dx, vs, ff, hp⟩ := q2.rs.ins hk q2.exM
  refine ⟨q, C, dx, vs, rfl, hp, hc, hn, by rw [ff.length]; exact hz, ?_⟩
  obtain ⟨M', q'⟩ := (q2.tmp (T' := T) q2.tm.2.2).putI hk hp (ff.put q2.tm.2.1)
  exact h en T σ _ D ⟨F, M', q'⟩ m)
/-- an attribute of an owned instance -/
theorem px_fldO {k : Nat} {C q : Addr} {fs : List (Str × D)} {f : Str} (ho : Px X o g l (.adr q)) (hk : l[k]? = some (ownI X.K q C fs)) (hc : Cls X.K C) (hn : NoAttr X.K C f) (hl : fs.lookup f = some d) (hb : attributeBase o f X.env (eval o X.env) = eval o X.env := by rfl) : Px X (.Attribute o f pos) g l d := fun en T σ H Q s kk => wpE_of (pe_fld pe_wp hb) (by
  refine ho en T σ H _ s fun v H1 s1 => ?_
  obtain ⟨F, M, q1⟩ := s1
  obtain ⟨hf, ht⟩ := q1.tm
  cases hf
  obtain ⟨dx, vs, ff, hp⟩ := q1.rs.ins hk q1.exM
  obtain ⟨v, e1, e2⟩ := ff.look hl
  exact ⟨_, C, _, _, v, rfl, hp, hc, hn, e1, kk v H1 ⟨F, M, q1.tmp ⟨e2, ht⟩⟩⟩)

/-! ### targets -/
def setsV (σ : L2.St) : List Nat → List V → L2.St
  | i :: is, v :: vs => setsV (σ.set i (some v)) is vs
  | _, _ => σ
def sets (g : Gm) : List Nat → List D → Gm
  | i :: is, d :: ds => sets (g.set i (some d)) is ds
  | _, _ => g
theorem Sl.sets {K : PySem.W.Frag} {F : Hp} : ∀ {is : List Nat} {g : Gm} {σ : L2.St} {vs : List V} {ds : List D}, Sl K F g σ → FdAll K F vs ds → Sl K F (sets g is ds) (setsV σ is vs)
  | [], _, _, _, _, h, .nil => h
  | [], _, _, _, _, h, .cons _ _ => h
  | _ :: _, _, _, _, _, h, .nil => h
  | i :: is, _, _, _, _, h, .cons a b => Sl.sets (is := is) (h.set i a) b
/-- a target takes a datum apart into the slots is -/
def Tg (K : PySem.W.Frag) (t : TG) (is : List Nat) (d : D) (ds : List D) : Prop := ∀ F H v σ (Q : L2.St → Hp → Prop), Ex F H → Fd K F v d → (∀ vs, FdAll K F vs ds → Q (setsV σ is vs) H) → t v σ H Q
theorem tg_name {K : PySem.W.Frag} {i : Nat} : Tg K (gName i) [i] d [d] := fun F H v σ Q e f k => k [v] (.cons f .nil)
theorem tg_seq {K : PySem.W.Frag} : ∀ {is : List Nat} {ds : List D} {vs : List V} {F H : Hp} {σ : L2.St} {Q : L2.St → Hp → Prop}, is.length = ds.length → FdAll K F vs ds → Q (setsV σ is vs) H → (is.foldr (fun i t => gCons (gName i) t) gNil) vs σ H Q
  | [], [], _, _, _, _, _, _, .nil, h => ⟨rfl, h⟩
  | i :: is, d :: ds, _, _, _, σ, _, e, .cons (v := v) a b, h => ⟨_, _, rfl, tg_seq (is := is) (by simpa using e) b h⟩
  | [], _ :: _, _, _, _, _, _, e, _, _ => by cases e
  | _ :: _, [], _, _, _, _, _, e, _, _ => by cases e
theorem tg_tup {K : PySem.W.Frag} {is : List Nat} {ds : List D} {n : Nat} (h : is.length = ds.length) (hn : ds.length = n) : Tg K (gTup K n (is.foldr (fun i t => gCons (gName i) t) gNil)) is (.tup ds) ds := fun F H v σ Q e f k => by
  cases f with
  | tup s a => exact ⟨_, _, rfl, ex_t e s, by rw [a.length]; exact hn, tg_seq h a (k _ a)⟩
/-! ### walks -/
/-- the iterator J gives the data ds, one after another, while F stands -/
def JG (K : PySem.W.Frag) (lk : List Res) (F : Hp) (J : It) (ds : List D) : Prop := ∀ F' M' H, Ex F F' → Ex F' H → Ex M' H → Rs lk F' M' → (∀ i, i < ds.length → J.go i H) ∧ J.stop ds.length H ∧ ∀ i d x H', ds[i]? = some d → J.yld i H x H' → ∃ F'', New F' H F'' H' ∧ Fd K F'' x d
def ItwP (X : Cx) (tg iter : Expr) (g : Gm) (l lk : List Res) (ds : List D) : Prop := ∃ wi, PI X tg iter wi ∧ ∀ en T σ H (R : It → Hp → Prop), S X.K en g T l σ H → (∀ J H1 F M, At X.K en g T l σ H1 F M → JG X.K lk F J ds → R J H1) → wi σ H R
abbrev Itw (X : Cx) (tg iter : Expr) (g : Gm) (l : List Res) (ds : List D) : Prop := ItwP X tg iter g l [] ds
theorem jg_list {lk : List Res} {K : PySem.W.Frag} {F : Hp} {a : Addr} {vs : List V} {ds : List D} (s : SqL K F a vs) (f : FdAll K F vs ds) : JG K lk F (Itl K a) ds := fun F' M' H e1 e2 _ _ => by
  have s2 : SqL K H a vs := ex_l (e1.tr e2) s
  refine ⟨fun i hi => ?_, ⟨vs, s2, by rw [f.length]; exact Nat.le_refl _⟩, fun i d x H' hd hy => ?_⟩
  · have q : i < vs.length := by rw [f.length]; exact hi
    exact ⟨vs, vs[i], s2, List.getElem?_eq_getElem q⟩
  · obtain ⟨rfl, h⟩ := hy
    obtain ⟨v, h1, h2⟩ := f.get hd
    have e := h vs s2
    rw [h1] at e
    cases e
    exact ⟨F', .rf e2, h2.mono e1⟩
theorem jg_tup {lk : List Res} {K : PySem.W.Frag} {F : Hp} {a : Addr} {vs : List V} {ds : List D} (s : SqT K F a vs) (f : FdAll K F vs ds) : JG K lk F (Itt K a) ds := fun F' M' H e1 e2 _ _ => by
  have s2 : SqT K H a vs := ex_t (e1.tr e2) s
  refine ⟨fun i hi => ?_, ⟨vs, s2, by rw [f.length]; exact Nat.le_refl _⟩, fun i d x H' hd hy => ?_⟩
  · have q : i < vs.length := by rw [f.length]; exact hi
    exact ⟨vs, vs[i], s2, List.getElem?_eq_getElem q⟩
  · obtain ⟨rfl, h⟩ := hy
    obtain ⟨v, h1, h2⟩ := f.get hd
    have e := h vs s2
    rw [h1] at e
    cases e
    exact ⟨F', .rf e2, h2.mono e1⟩
theorem it_list {tg : Expr} {ds : List D} (h : Px X e g l (.lst ds)) : Itw X tg e g l ds := ⟨_, pi_list pe_wp, fun en T σ H R s k => h en T σ H _ s fun v H1 s1 => by
  obtain ⟨F, M, q⟩ := s1
  obtain ⟨f, t⟩ := q.tm
  cases f with
  | lst sq a => exact ⟨_, rfl, ⟨_, SqL.of (q.exF _ _ sq)⟩, k _ H1 F M (q.tmp t) (jg_list (SqL.of sq) a)⟩⟩
theorem it_scr {tg : Expr} {ds : List D} (h : Px X e g l (.scr ds)) : Itw X tg e g l ds := ⟨_, pi_list pe_wp, fun en T σ H R s k => h en T σ H _ s fun v H1 s1 => by
  obtain ⟨F, M, q⟩ := s1
  obtain ⟨f, t⟩ := q.tm
  cases f with
  | scr sq a => exact ⟨_, rfl, ⟨_, ex_l q.exF sq⟩, k _ H1 F M (q.tmp t) (jg_list sq a)⟩⟩
theorem it_tup {tg : Expr} {ds : List D} (h : Px X e g l (.tup ds)) : Itw X tg e g l ds := ⟨_, pi_tup pe_wp, fun en T σ H R s k => h en T σ H _ s fun v H1 s1 => by
  obtain ⟨F, M, q⟩ := s1
  obtain ⟨f, t⟩ := q.tm
  cases f with
  | tup sq a => exact ⟨_, rfl, ⟨_, ex_t q.exF sq⟩, k _ H1 F M (q.tmp t) (jg_tup sq a)⟩⟩
def rng (lo : Int) (n : Nat) : List D := (List.range n).map fun i : Nat => D.int (lo + (i : Int))
theorem rng_len {lo : Int} {n : Nat} : (rng lo n).length = n := by unfold rng; rw [List.length_map, List.length_range]
theorem rng_get {lo : Int} {n i : Nat} {d : D} (h : (rng lo n)[i]? = some d) : i < n ∧ d = .int (lo + (i : Int)) := by
  unfold rng at h
  rw [List.getElem?_map] at h
  cases q : (List.range n)[i]? with
  | none => rw [q] at h; cases h
  | some j =>
    rw [q] at h
    obtain ⟨h1, h2⟩ := List.getElem?_eq_some_iff.mp q
    rw [List.length_range] at h1
    rw [List.getElem_range] at h2
    subst h2
    exact ⟨h1, (Option.some.inj h).symm⟩
theorem jg_range {lk : List Res} {K : PySem.W.Frag} {F : Hp} {lo : Int} {n : Nat} : JG K lk F (L2.Itr lo n) (rng lo n) := fun F' M' H e1 e2 _ _ => by
  refine ⟨fun i hi => by rw [rng_len] at hi; exact hi, by show n ≤ _; rw [rng_len]; exact Nat.le_refl _, fun i d x H' hd hy => ?_⟩
  obtain ⟨rfl, rfl⟩ := hy
  obtain ⟨_, rfl⟩ := rng_get hd
  exact ⟨F', .rf e2, .int _⟩
theorem it_range {tg : Expr} {j : Int} {pp : Pos} (h : Px X e g l (.int j)) (h1 : -(2 ^ 62) ≤ j) (h2 : j < 2 ^ 62) (hm : X.mg "range" = none) (hg : Gl X "range" := by rfl) (hs : starEach [e] X.env = [(false, eval e X.env)] := by rfl) : Itw X tg (.Call (.Name "range" p) [e] [] pp) g l (rng 0 j.toNat) :=
  ⟨_, pi_range1 hg hm (pa_wp (es := [e])) hs, fun en T σ H R s k => pa_c h pa_n hs en T σ H _ s fun vs H1 s1 => by
  obtain ⟨F, M, q⟩ := s1
  obtain ⟨f, t⟩ := q.tm
  cases f with
  | cons a b =>
    cases a; cases b
    exact ⟨j, rfl, h1, h2, k _ H1 F M (q.tmp t) jg_range⟩⟩
theorem it_range2 {tg : Expr} {i j : Int} {pp : Pos} (h : Px X e g l (.int i)) (h' : Px X e2 g l (.int j)) (h1 : -(2 ^ 62) ≤ i ∧ i < 2 ^ 62 ∧ -(2 ^ 62) ≤ j ∧ j < 2 ^ 62) (hm : X.mg "range" = none) (hg : Gl X "range" := by rfl)
    (hs : starEach [e, e2] X.env = [(false, eval e X.env), (false, eval e2 X.env)] := by rfl) (hs2 : starEach [e2] X.env = [(false, eval e2 X.env)] := by rfl) : Itw X tg (.Call (.Name "range" p) [e, e2] [] pp) g l (rng i (j - i).toNat) :=
  ⟨_, pi_range2 hg hm (pa_wp (es := [e, e2])) hs hs2, fun en T σ H R s k => pa_c h (pa_c h' pa_n hs2) (by rw [hs, hs2]) en T σ H _ s fun vs H1 s1 => by
  obtain ⟨F, M, q⟩ := s1
  obtain ⟨f, t⟩ := q.tm
  cases f with
  | cons a b =>
    cases b with
    | cons b c =>
      cases a; cases b; cases c
      exact ⟨i, j, rfl, h1, k _ H1 F M (q.tmp t) jg_range⟩⟩
/-- pairs of a number and an item -/
def enumD (ds : List D) : List D := ds.zipIdx.map fun q => D.tup [.int (q.2 : Nat), q.1]
theorem enumD_len {ds : List D} : (enumD ds).length = ds.length := by unfold enumD; rw [List.length_map, List.length_zipIdx]
theorem enumD_get {ds : List D} {i : Nat} {d : D} (h : (enumD ds)[i]? = some d) : ∃ d', ds[i]? = some d' ∧ d = .tup [.int (i : Nat), d'] := by
  unfold enumD at h
  rw [List.getElem?_map, List.getElem?_zipIdx] at h
  cases q : ds[i]? with
  | none => rw [q] at h; cases h
  | some d' =>
    rw [q] at h
    refine ⟨d', rfl, ?_⟩
    have e := Option.some.inj h
    rw [← e]
    simp
theorem jg_enum {lk : List Res} {K : PySem.W.Frag} {F : Hp} {a : Addr} {vs : List V} {ds : List D} (s : SqL K F a vs) (f : FdAll K F vs ds) : JG K lk F (Ite K a) (enumD ds) := fun F' M' H e1 e2 _ _ => by
  have s2 : SqL K H a vs := ex_l (e1.tr e2) s
  refine ⟨fun i hi => ?_, ⟨vs, s2, by rw [enumD_len, f.length]; exact Nat.le_refl _⟩, fun i d x H' hd hy => ?_⟩
  · have q : i < vs.length := by rw [f.length]; rw [enumD_len] at hi; exact hi
    exact ⟨vs, vs[i], s2, List.getElem?_eq_getElem q⟩
  · obtain ⟨T, y, rfl, hT, rfl, h⟩ := hy
    obtain ⟨d', hd', rfl⟩ := enumD_get hd
    obtain ⟨v, h1, h2⟩ := f.get hd'
    have e := Option.some.inj (h1.symm.trans (h vs s2))
    subst e
    have n := New.upd (o := .tup [.int (i : Nat), v]) e2 hT
    exact ⟨_, n, .tup (SqT.of upd_same) (.cons (.int _) (.cons (h2.mono (e1.tr n.f)) .nil))⟩
theorem it_enum {elts : List Expr} {kk : Nat} {tpos pp : Pos} {ds : List D} (h : Px X e g l (.lst ds)) (hm : X.mg "enumerate" = none) (hg : Gl X "enumerate" := by rfl) (hs : starEach [e] X.env = [(false, eval e X.env)] := by rfl) : Itw X (.Tuple elts kk tpos) (.Call (.Name "enumerate" p) [e] [] pp) g l (enumD ds) :=
  ⟨_, pi_enum hg hm (pa_wp (es := [e])) hs, fun en T σ H R s k => pa_c h pa_n hs en T σ H _ s fun vs H1 s1 => by
  obtain ⟨F, M, q⟩ := s1
  obtain ⟨f, t⟩ := q.tm
  cases f with
  | cons a b =>
    cases b
    cases a with
    | lst sq a => exact ⟨_, _, rfl, SqL.of (q.exF _ _ sq), k _ H1 F M (q.tmp t) (jg_enum (SqL.of sq) a)⟩⟩
def zipD (ds es : List D) : List D := (ds.zip es).map fun q => D.tup [q.1, q.2]
theorem zipD_len {ds es : List D} : (zipD ds es).length = min ds.length es.length := by unfold zipD; rw [List.length_map, List.length_zip]
theorem zipD_get {ds es : List D} {i : Nat} {d : D} (h : (zipD ds es)[i]? = some d) : ∃ a b, ds[i]? = some a ∧ es[i]? = some b ∧ d = .tup [a, b] := by
  unfold zipD at h
  rw [List.getElem?_map] at h
  cases q : (ds.zip es)[i]? with
  | none => rw [q] at h; cases h
  | some r =>
    rw [q] at h
    obtain ⟨h1, h2⟩ := List.getElem?_zip_eq_some.mp q
    exact ⟨r.1, r.2, h1, h2, (Option.some.inj h).symm⟩
theorem jg_zip {lk : List Res} {K : PySem.W.Frag} {F : Hp} {a b : Addr} {vs ws : List V} {ds es : List D} (s : SqL K F a vs) (f : FdAll K F vs ds) (s' : SqL K F b ws) (f' : FdAll K F ws es) : JG K lk F (Itz K a b) (zipD ds es) := fun F' M' H e1 e2 _ _ => by
  have s2 : SqL K H a vs := ex_l (e1.tr e2) s
  have s3 : SqL K H b ws := ex_l (e1.tr e2) s'
  refine ⟨fun i hi => ?_, ⟨vs, ws, s2, s3, by rw [zipD_len, f.length, f'.length]; omega⟩, fun i d x H' hd hy => ?_⟩
  · rw [zipD_len] at hi
    have q : i < vs.length := by rw [f.length]; omega
    have q' : i < ws.length := by rw [f'.length]; omega
    exact ⟨vs, ws, vs[i], ws[i], s2, s3, List.getElem?_eq_getElem q, List.getElem?_eq_getElem q'⟩
  · obtain ⟨T, y, z, rfl, hT, rfl, h, h'⟩ := hy
    obtain ⟨a', b', ha, hb, rfl⟩ := zipD_get hd
    obtain ⟨v, h1, h2⟩ := f.get ha
    obtain ⟨v', h1', h2'⟩ := f'.get hb
    have e := Option.some.inj (h1.symm.trans (h vs s2))
    subst e
    have e := Option.some.inj (h1'.symm.trans (h' ws s3))
    subst e
    have n := New.upd (o := .tup [v, v']) e2 hT
    exact ⟨_, n, .tup (SqT.of upd_same) (.cons (h2.mono (e1.tr n.f)) (.cons (h2'.mono (e1.tr n.f)) .nil))⟩
theorem it_zip {elts : List Expr} {kk : Nat} {tpos pp : Pos} {ds es' : List D} (h : Px X e g l (.lst ds)) (h' : Px X e2 g l (.lst es')) (hm : X.mg "zip" = none) (hg : Gl X "zip" := by rfl) (hs : starEach [e, e2] X.env = (false, eval e X.env) :: starEach [e2] X.env := by rfl) (hs2 : starEach [e2] X.env = [(false, eval e2 X.env)] := by rfl)
    (hpl : (backTo pp (starEach [e2] X.env)).any (·.1) = false := by rfl) : Itw X (.Tuple elts kk tpos) (.Call (.Name "zip" p) [e, e2] [] pp) g l (zipD ds es') :=
  ⟨_, pi_zip hg hm (pa_wp (es := [e, e2])) hs hpl, fun en T σ H R s k => pa_c h (pa_c h' pa_n hs2) hs en T σ H _ s fun vs H1 s1 => by
  obtain ⟨F, M, q⟩ := s1
  obtain ⟨f, t⟩ := q.tm
  cases f with
  | cons a b =>
    cases b with
    | cons b c =>
      cases c
      cases a with
      | lst sq a =>
        cases b with
        | lst sq' b => exact ⟨_, _, _, _, rfl, SqL.of (q.exF _ _ sq), SqL.of (q.exF _ _ sq'), k _ H1 F M (q.tmp t) (jg_zip (SqL.of sq) a (SqL.of sq') b)⟩⟩
/-- text, sign by sign -/
def signs (x : Str) : List D := x.cps.toList.map fun c => D.str ⟨#[c]⟩
theorem it_str {tg : Expr} {x : Str} (h : Px X e g l (.str x)) : Itw X tg e g l (signs x) := ⟨_, pi_str pe_wp, fun en T σ H R s k => h en T σ H _ s fun v H1 s1 => by
  obtain ⟨F, M, q⟩ := s1
  obtain ⟨f, t⟩ := q.tm
  cases f
  refine ⟨x, rfl, k _ H1 F M (q.tmp t) fun F' M' H' e1 e2 _ _ => ?_⟩
  have el : (signs x).length = x.cps.size := by unfold signs; rw [List.length_map, Array.length_toList]
  refine ⟨fun i hi => by rw [el] at hi; exact hi, by show x.cps.size ≤ _; rw [el]; exact Nat.le_refl _, fun i d y H'' hd hy => ?_⟩
  obtain ⟨rfl, c, hc, rfl⟩ := hy
  unfold signs at hd
  rw [List.getElem?_map, Array.getElem?_toList, hc] at hd
  cases hd
  exact ⟨F', .rf e2, .str _⟩⟩
/-- for target in ..: body -/
theorem blk_for {tg iter : Expr} {lk : List Res} {body : List Stmt} {gt : TG} {is : List Nat} {ds : List D} (I : Nat → Gm → List Res → Prop) (hp : PassesOwn (model X.prog X.w) X.A X.env X.xe) (hc : X.calm = true) (hi : ItwP X tg iter g l lk ds) (hg : PG X tg gt) (h0 : I 0 g l)
    (hs : ∀ i d g' l', ds[i]? = some d → I i g' l' → ∃ es, Tg X.K gt is d es ∧ Blk X W body (sets g' is es) l' { nx := I (i + 1), ct := I (i + 1), bk := fun g2 l2 => Blk X W rest g2 l2 Φ, rt := Φ.rt, ex := Φ.ex })
    (hd : ∀ g' l', I ds.length g' l' → Blk X W rest g' l' Φ) (hf : ∀ x, foldedSetIterable iter X.env x = pure x := by intro _; rfl) (hk : ∀ i g' l', I i g' l' → SubR l' lk := by intro i g' l' h; exact subr0) : Blk X W (.For tg iter body [] pos :: rest) g l Φ := fun en T σ H D s m => by
  obtain ⟨wi, pi, hw⟩ := hi
  refine wpS_of (pss_cons (ps_for hp hc pi hg pss_wp hf) pss_wp) ?_
  refine hw en T σ H _ s fun J H1 F0 M0 q0 jg => ?_
  refine ⟨fun i m σ' H' => i + m = ds.length ∧ ∃ g' l', I i g' l' ∧ S X.K en g' (T.ex F0) l' σ' H', ⟨ds.length, by simp, g, l, h0, F0, M0, q0.tmp ⟨.rf, q0.tm⟩⟩, fun i n σ' H' hW => ?_⟩
  obtain ⟨em, g', l', hI, F, M, q⟩ := hW
  obtain ⟨Mk, rk, ek⟩ := Rs.sub (hk i g' l' hI) q.rs q.exM
  obtain ⟨jgo, jst, jy⟩ := jg F Mk H' q.tm.1 q.exF ek rk
  cases n with
  | zero =>
    have e : i = ds.length := by omega
    subst e
    exact .inl ⟨jst, hd g' l' hI en T σ' H' D ⟨F, M, q.tmp q.tm.2⟩ m⟩
  | succ n =>
    have hi : i < ds.length := by omega
    refine .inr ⟨jgo i hi, fun σ2 H2 => ∃ g2 l2, I (i + 1) g2 l2 ∧ S X.K en g2 (T.ex F0) l2 σ2 H2, fun σ2 H2 ⟨g2, l2, h1, h2⟩ => ⟨n, by omega, by omega, g2, l2, h1, h2⟩, fun x H2 hy => ?_⟩
    obtain ⟨es, htg, hb⟩ := hs i ds[i] g' l' (List.getElem?_eq_getElem hi) hI
    obtain ⟨F2, nw, fx⟩ := jy i ds[i] x H2 (List.getElem?_eq_getElem hi) hy
    have q2 := q.new nw
    refine htg F2 H2 x σ' _ q2.exF fx fun vs fvs => ?_
    refine hb en (T.ex F0) _ H2 _ ⟨F2, M, q2.slots (q2.sl.sets fvs)⟩ ⟨fun g2 l2 σ2 H2 h s2 => ⟨g2, l2, h, s2⟩, fun d l v H h s2 => ?_, fun g2 l2 σ2 H2 h s2 => ?_, fun g2 l2 σ2 H2 h s2 => ⟨g2, l2, h, s2⟩, fun cls d g l σ H h s2 => ?_⟩
    · obtain ⟨F, M, q⟩ := s2
      exact m.rt d l v H h ⟨F, M, q.tmp ⟨q.tm.1, q.tm.2.2⟩⟩
    · obtain ⟨F, M, q⟩ := s2
      exact h en T σ2 H2 D ⟨F, M, q.tmp q.tm.2⟩ m
    · obtain ⟨F, M, q⟩ := s2
      exact m.ex cls d g l σ H h ⟨F, M, q.tmp q.tm.2⟩
/-- while -/
theorem blk_while {c : Expr} {body : List Stmt} (I : Nat → Gm → List Res → Prop) (hp : PassesOwn (model X.prog X.w) X.A X.env X.xe) (n0 : Nat) (h0 : I n0 g l)
    (hs : ∀ n g' l', I n g' l' → ∃ b, Ts X c g' l' b ∧ (b = true → Blk X W body g' l' { nx := fun g2 l2 => ∃ m, m < n ∧ I m g2 l2, ct := fun g2 l2 => ∃ m, m < n ∧ I m g2 l2, bk := fun g2 l2 => Blk X W rest g2 l2 Φ, rt := Φ.rt, ex := Φ.ex }) ∧ (b = false → Blk X W rest g' l' Φ)) :
    Blk X W (.While c body [] pos :: rest) g l Φ := fun en T σ H D s m => by
  refine wpS_of (pss_cons (ps_while hp pt_wp pss_wp) pss_wp) ?_
  refine ⟨fun n σ' H' => ∃ g' l', I n g' l' ∧ S X.K en g' T l' σ' H', ⟨n0, g, l, h0, s⟩, fun n σ' H' hW => ?_⟩
  obtain ⟨g', l', hI, s'⟩ := hW
  obtain ⟨b, hc, h1, h2⟩ := hs n g' l' hI
  refine hc en T σ' H' _ s' fun H2 s2 => ?_
  cases b with
  | true =>
    refine ⟨fun σ2 H2 => ∃ k, k < n ∧ ∃ g2 l2, I k g2 l2 ∧ S X.K en g2 T l2 σ2 H2, fun σ2 H2 h => h, ?_⟩
    refine h1 rfl en T σ' H2 _ s2 ⟨fun g2 l2 σ2 H2 ⟨k, hk, h⟩ s2 => ⟨k, hk, g2, l2, h, s2⟩, m.rt, fun g2 l2 σ2 H2 h s2 => h en T σ2 H2 D s2 m, fun g2 l2 σ2 H2 ⟨k, hk, h⟩ s2 => ⟨k, hk, g2, l2, h, s2⟩, m.ex⟩
  | false => exact h2 rfl en T σ' H2 D s2 m
end
end Sx
set_option Elab.async false
set_option linter.all false
set_option maxRecDepth 100000
set_option maxHeartbeats 2000000
/-! List comprehensions. -/
namespace Sx
open PySem L2

theorem wipe_at {σ : L2.St} {j : Nat} : ∀ {vs : List Nat}, (wipe σ vs)[j]? = if j ∈ vs then (σ[j]?).map (fun _ => none) else σ[j]?
  | [] => by simp [wipe]
  | v :: vs => by
    unfold wipe
    by_cases e : v = j
    · subst e
      rw [if_pos List.mem_cons_self]
      by_cases h : v < σ.length
      · rw [List.getElem?_set_self (by rw [wipe_length]; exact h), List.getElem?_eq_getElem h]; rfl
      · rw [List.getElem?_eq_none (by rw [List.length_set, wipe_length]; omega), List.getElem?_eq_none (by omega)]; rfl
    · rw [List.getElem?_set_ne e, wipe_at (vs := vs)]
      have q : j ∈ v :: vs ↔ j ∈ vs := by
        rw [List.mem_cons]
        exact ⟨fun h => h.elim (fun z => absurd z.symm e) id, .inr⟩
      by_cases z : j ∈ vs
      · rw [if_pos z, if_pos (q.mpr z)]
      · rw [if_neg z, if_neg (fun y => z (q.mp y))]
theorem wipe_set {σ : L2.St} {vs : List Nat} {i : Nat} {x : Option V} (h : i ∈ vs) : wipe (σ.set i x) vs = wipe σ vs := by
  apply List.ext_getElem?
  intro j
  rw [wipe_at, wipe_at]
  by_cases z : j ∈ vs
  · rw [if_pos z, if_pos z]
    by_cases e : i = j
    · subst e
      by_cases q : i < σ.length
      · rw [List.getElem?_set_self q, List.getElem?_eq_getElem q]; rfl
      · rw [List.getElem?_eq_none (by rw [List.length_set]; omega), List.getElem?_eq_none (by omega)]
    · rw [List.getElem?_set_ne e]
  · rw [if_neg z, if_neg z]
    rw [List.getElem?_set_ne (fun e => z (by rw [← e]; exact h))]
theorem wipe_wipe {σ : L2.St} {vs : List Nat} : wipe (wipe σ vs) vs = wipe σ vs := by
  apply List.ext_getElem?
  intro j
  rw [wipe_at, wipe_at]
  by_cases z : j ∈ vs
  · rw [if_pos z, if_pos z]; cases σ[j]? <;> rfl
  · rw [if_neg z, if_neg z]
theorem wipe_sets {vs : List Nat} : ∀ {is : List Nat} {ws : List V} {σ : L2.St}, (∀ i ∈ is, i ∈ vs) → wipe (setsV σ is ws) vs = wipe σ vs
  | [], _, _, _ => by unfold setsV; rfl
  | _ :: _, [], _, _ => by unfold setsV; rfl
  | i :: is, w :: ws, σ, h => by
    unfold setsV
    rw [wipe_sets (is := is) fun j hj => h j (List.mem_cons_of_mem _ hj), wipe_set (h i List.mem_cons_self)]
def wipeG (g : Gm) : List Nat → Gm
  | [] => g
  | v :: vs => (wipeG g vs).set v none
theorem Sl.wipe {K : PySem.W.Frag} {F : Hp} {g : Gm} {σ : L2.St} (h : Sl K F g σ) : ∀ vs, Sl K F (wipeG g vs) (L2.wipe σ vs)
  | [] => h
  | v :: vs => by
    unfold wipeG L2.wipe
    exact (Sl.wipe h vs).clear v
section
variable {X : Cx} {W : WX} {g g' : Gm} {l l' : List Res} {Φ : Po} {e e2 a b c o : Expr} {es : List Expr} {d d1 d2 d3 : D} {pos p p2 : Pos} {rest : List Stmt}
/-- a part that is owned and not touched -/
theorem S.fr {K : PySem.W.Frag} {en : En} {T : Tm} {r : Res} {σ : L2.St} {H : Hp} (s : S K en g T (r :: l) σ H) : ∃ en', S K en' g T l σ H ∧ ∀ {T' : Tm} {H' : Hp} {g' : Gm} {σ' : L2.St}, S K en' g' T' l σ' H' → S K en g' T' (r :: l) σ' H' := by
  obtain ⟨F, M, q⟩ := s
  obtain ⟨A, B, rfl, dj, p, rs⟩ := q.rs
  refine ⟨⟨F, B, H⟩, ⟨F, B, At.entry q.exF (q.exM.joinR dj) (Dj.r dj q.dj.sym).sym q.sl q.tm rs⟩, fun {T'} {H'} {g'} {σ'} ⟨F2, M2, b⟩ => ?_⟩
  have e : join A B = join B A := dj.comm
  rw [e] at q
  have z := q.frame (lB := [r]) dj.sym ⟨A, emp, (join_emp A).symm, Dj.emp A, p, rfl⟩ b
  have z2 : At K en g' T' (l ++ [r]) σ' H' F2 (join M2 A) := (z.tmp b.tm).slots b.sl
  exact S.perm (List.perm_append_singleton r l) ⟨F2, _, z2⟩
theorem Px.fr {r : Res} (h : Px X e g l d) : Px X e g (r :: l) d := fun en T σ H Q s k => by
  obtain ⟨en', s', back⟩ := s.fr
  exact h en' T σ H Q s' fun v H' s2 => k v H' (back s2)
theorem Ts.fr {r : Res} {k : Bool} (h : Ts X e g l k) : Ts X e g (r :: l) k := fun en T σ H Q s kk => by
  obtain ⟨en', s', back⟩ := s.fr
  exact h en' T σ H Q s' fun H' s2 => kk H' (back s2)
/-- the slots as they stood -/
def Tm.sl (K : PySem.W.Frag) (T : Tm) (g : Gm) (σ : L2.St) : Tm := ⟨fun F => Sl K F g σ ∧ T.P F, fun e h => ⟨h.1.mono e, T.mono e h.2⟩⟩
/-- what is kept -/
def keepL (rs : List (Option D)) : List D := rs.filterMap id
theorem keepL_some {rs : List D} : keepL (rs.map some) = rs := by
  unfold keepL
  rw [List.filterMap_map]
  show List.filterMap (fun x => some x) rs = rs
  rw [List.filterMap_some]
theorem keepL_len {rs : List (Option D)} : (keepL rs).length ≤ rs.length := List.length_filterMap_le _ _
abbrev Blkc (X : Cx) (scope : Scope) (Pp : Cx → Prop) : Prop := ∀ (s : Shared) (H : Hp) (C : Addr) (cl : List (Str × Addr)) (fp : List Addr), Pp (X.blk s H scope (compEnvC scope cl C X.env) fp)
/-- the reading of a comprehension -/
theorem lc_read {lk : List Res} {own : List (Str × Nat)} {gt : TG} {is : List Nat} {ds : List D} {rs : List (Option D)} {wi : TI} {te : TE} {tt : TT}
    (hw : ∀ en T σ H (R : It → Hp → Prop), S X.K en g T l σ H → (∀ J H1 F M, At X.K en g T l σ H1 F M → JG X.K lk F J ds → R J H1) → wi σ H R) (hk : SubR l lk)
    (his : ∀ i ∈ is, i ∈ own.map (·.2)) (hlen : rs.length = ds.length) (hz : rs.length ≤ sizeLine)
    (hs : ∀ (i : Nat) (d : D), ds[i]? = some d → ∃ es k r, Tg X.K gt is d es ∧ rs[i]? = some (if k = true then some r else none) ∧
      (∀ r0 en T σ H (Q : Bool → Hp → Prop), S X.K en (sets (wipeG g (own.map (·.2))) is es) T (r0 :: l) σ H → (∀ H', S X.K en (sets (wipeG g (own.map (·.2))) is es) T (r0 :: l) σ H' → Q k H') → tt σ H Q) ∧
      (k = true → ∀ r0 en T σ H (Q : VK), S X.K en (sets (wipeG g (own.map (·.2))) is es) T (r0 :: l) σ H → (∀ v H', S X.K en (sets (wipeG g (own.map (·.2))) is es) (T.and X.K v r) (r0 :: l) σ H' → Q v H') → te σ H Q))
    {en : En} {T : Tm} {σ : L2.St} {H : Hp} {Q : VK} (s : S X.K en g T l σ H) (kk : ∀ p H', S X.K en g T (ownL X.K p (keepL rs) :: l) σ H' → Q (.ref p) H') : tLc wi gt tt te (own.map (·.2)) σ H Q := by
  refine hw en T σ H _ s fun J H1 F0 M0 q0 jg => ?_
  intro Dl hD
  refine ⟨fun i m H' => i + m = ds.length ∧ S X.K en (wipeG g (own.map (·.2))) ((T.sl X.K g σ).ex F0) (ownL X.K Dl (keepL (rs.take i)) :: l) (L2.wipe σ (own.map (·.2))) H', ⟨ds.length, by simp, ?_⟩, fun i m H' hW => ?_⟩
  · have q1 := q0.newO (r := ownL X.K Dl []) (A := one Dl (.lst [])) (H' := upd H1 Dl (.lst [])) (.new hD) (fun x o z => by obtain ⟨rfl, rfl⟩ := one_some z; exact upd_same) (fun x o z => by obtain ⟨rfl, rfl⟩ := one_some z; exact hD) ⟨[], .nil, rfl⟩
    rw [List.take_zero]
    exact ⟨F0, _, (q1.tmp (T' := (T.sl X.K g σ).ex F0) ⟨.rf, q0.sl, q0.tm⟩).slots (q0.sl.wipe _)⟩
  · obtain ⟨em, F, M, q⟩ := hW
    obtain ⟨junk0, pk0⟩ := id hk
    obtain ⟨Mk, rk, ek⟩ := Rs.sub (lk := lk) ⟨junk0 ++ [ownL X.K Dl (keepL (rs.take i))], by
      have z := (pk0.cons (ownL X.K Dl (keepL (rs.take i)))).trans (List.perm_append_comm (l₁ := [_]))
      rw [← List.append_assoc]; exact z⟩ q.rs q.exM
    obtain ⟨jgo, jst, jy⟩ := jg F Mk H' q.tm.1 q.exF ek rk
    cases m with
    | zero =>
      have e : i = ds.length := by omega
      subst e
      refine .inl ⟨jst, kk Dl H' ⟨F, M, ?_⟩⟩
      rw [List.take_of_length_le (by omega)] at q
      exact (q.tmp (T' := T) q.tm.2.2).slots q.tm.2.1
    | succ m =>
      have hi : i < ds.length := by omega
      refine .inr ⟨jgo i hi, fun H2 => S X.K en (wipeG g (own.map (·.2))) ((T.sl X.K g σ).ex F0) (ownL X.K Dl (keepL (rs.take (i + 1))) :: l) (L2.wipe σ (own.map (·.2))) H2, fun H2 h => ⟨m, by omega, by omega, h⟩, fun x H2 hy => ?_⟩
      obtain ⟨es, b, r, htg, hr, ht, he⟩ := hs i ds[i] (List.getElem?_eq_getElem hi)
      obtain ⟨F2, nw, fx⟩ := jy i ds[i] x H2 (List.getElem?_eq_getElem hi) hy
      have q2 := q.new nw
      refine htg F2 H2 x _ _ q2.exF fx fun vs fvs => ?_
      refine ⟨by rw [wipe_sets his, wipe_wipe], ?_⟩
      have et : rs.take (i + 1) = rs.take i ++ [if b = true then some r else none] := by
        rw [List.take_add_one, hr]; rfl
      refine ht _ en ((((T.sl X.K g σ).ex F0)).sl X.K (wipeG g (own.map (·.2))) (L2.wipe σ (own.map (·.2)))) _ H2 _ ⟨F2, M, (q2.tmp (T' := (((T.sl X.K g σ).ex F0)).sl X.K (wipeG g (own.map (·.2))) (L2.wipe σ (own.map (·.2)))) ⟨q2.sl, q2.tm⟩).slots (q2.sl.sets fvs)⟩ fun H3 s3 => ?_
      cases b with
      | false =>
        show S X.K en _ _ _ _ H3
        obtain ⟨F3, M3, q3⟩ := s3
        rw [et]
        have e2 : keepL (rs.take i ++ [if false = true then some r else none]) = keepL (rs.take i) := by
          unfold keepL
          rw [List.filterMap_append]
          show _ ++ [] = _
          rw [List.append_nil]
        rw [e2]
        exact ⟨F3, M3, (q3.tmp q3.tm.2).slots q3.tm.1⟩
      | true =>
        show te _ H3 _
        refine he rfl _ en _ _ H3 _ s3 fun v H4 s4 => ?_
        obtain ⟨F4, M4, q4⟩ := s4
        obtain ⟨ws, fw, hp⟩ := q4.rs.own (k := 0) rfl q4.exM
        refine ⟨ws, hp, ?_, ?_⟩
        · rw [fw.length]
          have h1 := keepL_len (rs := rs.take i)
          rw [List.length_take] at h1
          omega
        · obtain ⟨M5, q5⟩ := (q4.tmp q4.tm.2).putL (k := 0) rfl (fw.app (.cons q4.tm.1 .nil))
          rw [et]
          have e2 : keepL (rs.take i ++ [if true = true then some r else none]) = keepL (rs.take i) ++ [r] := by
            unfold keepL
            rw [List.filterMap_append]
            rfl
          rw [e2]
          exact ⟨F4, M5, (q5.tmp q5.tm.2).slots q5.tm.1⟩
def teB (X : Cx) (scope : Scope) (e : Expr) : TE := fun σ H Q => Blkc X scope fun Y => wpE Y e σ H Q
def ttB (X : Cx) (scope : Scope) (e : Expr) : TT := fun σ H Q => Blkc X scope fun Y => wpT Y e σ H Q
theorem teB_pe {scope : Scope} : ∀ (s : Shared) (H : Hp) (C : Addr) (cl : List (Str × Addr)) (fp : List Addr), PE (X.blk s H scope (compEnvC scope cl C X.env) fp) e (teB X scope e) := fun s H C cl fp => ⟨fun pins s' σ H' Q I h => h s H C cl fp pins s' I⟩
theorem ttB_pt {scope : Scope} : ∀ (s : Shared) (H : Hp) (C : Addr) (cl : List (Str × Addr)) (fp : List Addr), PT (X.blk s H scope (compEnvC scope cl C X.env) fp) e (ttB X scope e) := fun s H C cl fp => ⟨fun pins s' σ H' Q I h => h s H C cl fp pins s' I⟩
/-- [elt for tg in iter], a new list -/
theorem ev_lc {tg iter elt : Expr} {scope : Scope} {own : List (Str × Nat)} {lk : List Res} {gt : TG} {is : List Nat} {ds rs : List D} (hc : X.calm = true) (hN : X.N.Nodup) (hi : ItwP X tg iter g l lk ds) (ok : BlkOk X.N X.env.scope scope own)
    (hg : Blkc X scope fun Y => PG Y tg gt) (his : ∀ i ∈ is, i ∈ own.map (·.2)) (hlen : rs.length = ds.length) (hz : rs.length ≤ sizeLine)
    (hs : ∀ (i : Nat) (d : D), ds[i]? = some d → ∃ es r, Tg X.K gt is d es ∧ rs[i]? = some r ∧ Blkc X scope fun Y => Px Y elt (sets (wipeG g (own.map (·.2))) is es) l r) (hf : ∀ x, foldedSetIterable iter X.env x = pure x := by intro _; rfl) (hk : SubR l lk := by first | exact subr0 | exact subr1 0 rfl | exact subr1 1 rfl | exact subr1 2 rfl | exact subr1 3 rfl | exact subr1 4 rfl | exact subr1 5 rfl | exact subr2 0 0 rfl rfl | exact subr2 1 0 rfl rfl | exact subr2 0 1 rfl rfl | exact subr2 1 1 rfl rfl | exact subr2 2 0 rfl rfl | exact subr2 2 1 rfl rfl) :
    Ev X (.ListComp elt [⟨tg, iter, [], 0⟩] scope pos) g l (fun d' l' => ∃ p, d' = .adr p ∧ l' = ownL X.K p rs :: l) := fun en T σ H Q s k => by
  obtain ⟨wi, pi, hw⟩ := hi
  refine wpE_of (pe_lc hc hN pi ok hg (fun _ _ _ _ _ => pts_nil) teB_pe hf) ?_
  refine lc_read (rs := rs.map some) hw hk his (by rw [List.length_map]; exact hlen) (by rw [List.length_map]; exact hz) (fun i d hd => ?_) s fun p H' s' => ?_
  · obtain ⟨es, r, h1, h2, h3⟩ := hs i d hd
    refine ⟨es, true, r, h1, by rw [List.getElem?_map, h2]; rfl, fun r0 en T σ H Q s kk => kk H s, fun _ r0 en T σ H Q s kk => ?_⟩
    intro s0 H0 C cl fp
    exact (h3 s0 H0 C cl fp).fr en T σ H Q s kk
  · rw [keepL_some] at s'
    obtain ⟨F, M, q⟩ := s'
    exact k _ _ _ H' ⟨p, rfl, rfl⟩ ⟨F, M, q.tmp ⟨.adr p, q.tm⟩⟩
theorem px_lc {tg iter elt : Expr} {scope : Scope} {own : List (Str × Nat)} {lk : List Res} {gt : TG} {is : List Nat} {ds rs : List D} (hc : X.calm = true) (hN : X.N.Nodup) (hi : ItwP X tg iter g l lk ds) (ok : BlkOk X.N X.env.scope scope own)
    (hg : Blkc X scope fun Y => PG Y tg gt) (his : ∀ i ∈ is, i ∈ own.map (·.2)) (hlen : rs.length = ds.length) (hz : rs.length ≤ sizeLine)
    (hs : ∀ (i : Nat) (d : D), ds[i]? = some d → ∃ es r, Tg X.K gt is d es ∧ rs[i]? = some r ∧ Blkc X scope fun Y => Px Y elt (sets (wipeG g (own.map (·.2))) is es) l r) (hf : ∀ x, foldedSetIterable iter X.env x = pure x := by intro _; rfl) (hk : SubR l lk := by first | exact subr0 | exact subr1 0 rfl | exact subr1 1 rfl | exact subr1 2 rfl | exact subr1 3 rfl | exact subr1 4 rfl | exact subr1 5 rfl | exact subr2 0 0 rfl rfl | exact subr2 1 0 rfl rfl | exact subr2 0 1 rfl rfl | exact subr2 1 1 rfl rfl | exact subr2 2 0 rfl rfl | exact subr2 2 1 rfl rfl) :
    Px X (.ListComp elt [⟨tg, iter, [], 0⟩] scope pos) g l (.lst rs) := (ev_lc hc hN hi ok hg his hlen hz hs hf hk).frz
/-- [elt for tg in iter if c] -/
theorem ev_lcIf {tg iter elt : Expr} {scope : Scope} {own : List (Str × Nat)} {lk : List Res} {gt : TG} {is : List Nat} {ds : List D} {rs : List (Option D)} (hc : X.calm = true) (hN : X.N.Nodup) (hi : ItwP X tg iter g l lk ds) (ok : BlkOk X.N X.env.scope scope own)
    (hg : Blkc X scope fun Y => PG Y tg gt) (his : ∀ i ∈ is, i ∈ own.map (·.2)) (hlen : rs.length = ds.length) (hz : rs.length ≤ sizeLine)
    (hs : ∀ (i : Nat) (d : D), ds[i]? = some d → ∃ es k r, Tg X.K gt is d es ∧ rs[i]? = some (if k = true then some r else none) ∧ (Blkc X scope fun Y => Ts Y c (sets (wipeG g (own.map (·.2))) is es) l k) ∧ (k = true → Blkc X scope fun Y => Px Y elt (sets (wipeG g (own.map (·.2))) is es) l r)) (hf : ∀ x, foldedSetIterable iter X.env x = pure x := by intro _; rfl) (hk : SubR l lk := by first | exact subr0 | exact subr1 0 rfl | exact subr1 1 rfl | exact subr1 2 rfl | exact subr1 3 rfl | exact subr1 4 rfl | exact subr1 5 rfl | exact subr2 0 0 rfl rfl | exact subr2 1 0 rfl rfl | exact subr2 0 1 rfl rfl | exact subr2 1 1 rfl rfl | exact subr2 2 0 rfl rfl | exact subr2 2 1 rfl rfl) :
    Ev X (.ListComp elt [⟨tg, iter, [c], 0⟩] scope pos) g l (fun d' l' => ∃ p, d' = .adr p ∧ l' = ownL X.K p (keepL rs) :: l) := fun en T σ H Q s k => by
  obtain ⟨wi, pi, hw⟩ := hi
  refine wpE_of (pe_lc hc hN pi ok hg (fun s H C cl fp => pts_one (ttB_pt s H C cl fp)) teB_pe hf) ?_
  refine lc_read (rs := rs) hw hk his hlen hz (fun i d hd => ?_) s fun p H' s' => ?_
  · obtain ⟨es, b, r, h1, h2, h3, h4⟩ := hs i d hd
    refine ⟨es, b, r, h1, h2, fun r0 en T σ H Q s kk => ?_, fun hb r0 en T σ H Q s kk => ?_⟩
    · intro s0 H0 C cl fp
      exact (h3 s0 H0 C cl fp).fr en T σ H Q s kk
    · intro s0 H0 C cl fp
      exact (h4 hb s0 H0 C cl fp).fr en T σ H Q s kk
  · obtain ⟨F, M, q⟩ := s'
    exact k _ _ _ H' ⟨p, rfl, rfl⟩ ⟨F, M, q.tmp ⟨.adr p, q.tm⟩⟩
theorem px_lcIf {tg iter elt : Expr} {scope : Scope} {own : List (Str × Nat)} {lk : List Res} {gt : TG} {is : List Nat} {ds : List D} {rs : List (Option D)} (hc : X.calm = true) (hN : X.N.Nodup) (hi : ItwP X tg iter g l lk ds) (ok : BlkOk X.N X.env.scope scope own)
    (hg : Blkc X scope fun Y => PG Y tg gt) (his : ∀ i ∈ is, i ∈ own.map (·.2)) (hlen : rs.length = ds.length) (hz : rs.length ≤ sizeLine)
    (hs : ∀ (i : Nat) (d : D), ds[i]? = some d → ∃ es k r, Tg X.K gt is d es ∧ rs[i]? = some (if k = true then some r else none) ∧ (Blkc X scope fun Y => Ts Y c (sets (wipeG g (own.map (·.2))) is es) l k) ∧ (k = true → Blkc X scope fun Y => Px Y elt (sets (wipeG g (own.map (·.2))) is es) l r)) (hf : ∀ x, foldedSetIterable iter X.env x = pure x := by intro _; rfl) (hk : SubR l lk := by first | exact subr0 | exact subr1 0 rfl | exact subr1 1 rfl | exact subr1 2 rfl | exact subr1 3 rfl | exact subr1 4 rfl | exact subr1 5 rfl | exact subr2 0 0 rfl rfl | exact subr2 1 0 rfl rfl | exact subr2 0 1 rfl rfl | exact subr2 1 1 rfl rfl | exact subr2 2 0 rfl rfl | exact subr2 2 1 rfl rfl) :
    Px X (.ListComp elt [⟨tg, iter, [c], 0⟩] scope pos) g l (.lst (keepL rs)) := (ev_lcIf hc hN hi ok hg his hlen hz hs hf hk).frz
/-- x = [..] on one line, x a local name -/
theorem blk_setLcX {tg iter elt : Expr} {ifs : List Expr} {scope : Scope} {own : List (Str × Nat)} {i : Nat} {y : Str} {py spos : Pos} {Psi : D → List Res → Prop} {wi : TI} {gt : TG} {tt : TT} {te : TE}
    (hps : PS X (.Assign [.Name y py] (.ListComp elt [⟨tg, iter, ifs, 0⟩] scope pos) spos) (tAsg (tLc wi gt tt te (own.map (·.2))) (gName i)))
    (hr : ∀ en T σ H (Q : VK), S X.K en g T l σ H → (∀ v d l' H', Psi d l' → S X.K en g (T.and X.K v d) l' σ H' → Q v H') → tLc wi gt tt te (own.map (·.2)) σ H Q)
    (h : ∀ d l', Psi d l' → Blk X W rest (g.set i (some d)) l' Φ) : Blk X W (.Assign [.Name y py] (.ListComp elt [⟨tg, iter, ifs, 0⟩] scope pos) spos :: rest) g l Φ := fun en T σ H D s m => wpS_of (pss_cons hps pss_wp) (by
  show tLc wi gt tt te (own.map (·.2)) σ H (fun x H1 => gName i x σ H1 (wpS X rest D))
  refine hr en T σ H _ s fun v d l' H' p s' => ?_
  obtain ⟨F, M, a⟩ := s'
  exact h d l' p en T (σ.set i (some v)) H' D ⟨F, M, (a.tmp a.tm.2).slots (a.sl.set i a.tm.1)⟩ m)
theorem blk_setLcO {tg iter elt : Expr} {scope : Scope} {own : List (Str × Nat)} {lk : List Res} {gt : TG} {is : List Nat} {ds rs : List D} {i : Nat} {y : Str} {py spos : Pos} (hc : X.calm = true) (hN : X.N.Nodup) (hy : X.N[i]? = some y) (hyl : X.env.scope.names.lookup y = some .local)
    (hsw : swapsWith (.ListComp elt [⟨tg, iter, [], 0⟩] scope pos) (some (.Name y py)) spos.line X.env = pure true) (hi : ItwP X tg iter g l lk ds) (ok : BlkOk X.N X.env.scope scope own)
    (hg : Blkc X scope fun Y => PG Y tg gt) (his : ∀ i ∈ is, i ∈ own.map (·.2)) (hlen : rs.length = ds.length) (hz : rs.length ≤ sizeLine)
    (hs : ∀ (i : Nat) (d : D), ds[i]? = some d → ∃ es r, Tg X.K gt is d es ∧ rs[i]? = some r ∧ Blkc X scope fun Y => Px Y elt (sets (wipeG g (own.map (·.2))) is es) l r)
    (h : ∀ p, Blk X W rest (g.set i (some (.adr p))) (ownL X.K p rs :: l) Φ) (hf : ∀ x, foldedSetIterable iter X.env x = pure x := by intro _; rfl) (hk : SubR l lk := by first | exact subr0 | exact subr1 0 rfl | exact subr1 1 rfl | exact subr1 2 rfl | exact subr1 3 rfl | exact subr1 4 rfl | exact subr1 5 rfl | exact subr2 0 0 rfl rfl | exact subr2 1 0 rfl rfl | exact subr2 0 1 rfl rfl | exact subr2 1 1 rfl rfl | exact subr2 2 0 rfl rfl | exact subr2 2 1 rfl rfl) : Blk X W (.Assign [.Name y py] (.ListComp elt [⟨tg, iter, [], 0⟩] scope pos) spos :: rest) g l Φ := by
  obtain ⟨wi, pi, hw⟩ := hi
  refine blk_setLcX (Psi := fun d' l' => ∃ p, d' = .adr p ∧ l' = ownL X.K p rs :: l) (ps_setLc hc hN hy hyl hsw pi ok hg (fun _ _ _ _ _ => pts_nil) teB_pe hf) (fun en T σ H Q s k => ?_) fun d l' ⟨p, e1, e2⟩ => by subst e1; subst e2; exact h p
  refine lc_read (rs := rs.map some) hw hk his (by rw [List.length_map]; exact hlen) (by rw [List.length_map]; exact hz) (fun i d hd => ?_) s fun p H' s' => ?_
  · obtain ⟨es, r, h1, h2, h3⟩ := hs i d hd
    refine ⟨es, true, r, h1, by rw [List.getElem?_map, h2]; rfl, fun r0 en T σ H Q s kk => kk H s, fun _ r0 en T σ H Q s kk => ?_⟩
    intro s0 H0 C cl fp
    exact (h3 s0 H0 C cl fp).fr en T σ H Q s kk
  · rw [keepL_some] at s'
    obtain ⟨F, M, q⟩ := s'
    exact k _ _ _ H' ⟨p, rfl, rfl⟩ ⟨F, M, q.tmp ⟨.adr p, q.tm⟩⟩
theorem blk_setLcIfO {tg iter elt : Expr} {scope : Scope} {own : List (Str × Nat)} {lk : List Res} {gt : TG} {is : List Nat} {ds : List D} {rs : List (Option D)} {i : Nat} {y : Str} {py spos : Pos} (hc : X.calm = true) (hN : X.N.Nodup) (hy : X.N[i]? = some y) (hyl : X.env.scope.names.lookup y = some .local)
    (hsw : swapsWith (.ListComp elt [⟨tg, iter, [c], 0⟩] scope pos) (some (.Name y py)) spos.line X.env = pure true) (hi : ItwP X tg iter g l lk ds) (ok : BlkOk X.N X.env.scope scope own)
    (hg : Blkc X scope fun Y => PG Y tg gt) (his : ∀ i ∈ is, i ∈ own.map (·.2)) (hlen : rs.length = ds.length) (hz : rs.length ≤ sizeLine)
    (hs : ∀ (i : Nat) (d : D), ds[i]? = some d → ∃ es k r, Tg X.K gt is d es ∧ rs[i]? = some (if k = true then some r else none) ∧ (Blkc X scope fun Y => Ts Y c (sets (wipeG g (own.map (·.2))) is es) l k) ∧ (k = true → Blkc X scope fun Y => Px Y elt (sets (wipeG g (own.map (·.2))) is es) l r))
    (h : ∀ p, Blk X W rest (g.set i (some (.adr p))) (ownL X.K p (keepL rs) :: l) Φ) (hf : ∀ x, foldedSetIterable iter X.env x = pure x := by intro _; rfl) (hk : SubR l lk := by first | exact subr0 | exact subr1 0 rfl | exact subr1 1 rfl | exact subr1 2 rfl | exact subr1 3 rfl | exact subr1 4 rfl | exact subr1 5 rfl | exact subr2 0 0 rfl rfl | exact subr2 1 0 rfl rfl | exact subr2 0 1 rfl rfl | exact subr2 1 1 rfl rfl | exact subr2 2 0 rfl rfl | exact subr2 2 1 rfl rfl) : Blk X W (.Assign [.Name y py] (.ListComp elt [⟨tg, iter, [c], 0⟩] scope pos) spos :: rest) g l Φ := by
  obtain ⟨wi, pi, hw⟩ := hi
  refine blk_setLcX (Psi := fun d' l' => ∃ p, d' = .adr p ∧ l' = ownL X.K p (keepL rs) :: l) (ps_setLc hc hN hy hyl hsw pi ok hg (fun s H C cl fp => pts_one (ttB_pt s H C cl fp)) teB_pe hf) (fun en T σ H Q s k => ?_) fun d l' ⟨p, e1, e2⟩ => by subst e1; subst e2; exact h p
  refine lc_read (rs := rs) hw hk his hlen hz (fun i d hd => ?_) s fun p H' s' => ?_
  · obtain ⟨es, b, r, h1, h2, h3, h4⟩ := hs i d hd
    refine ⟨es, b, r, h1, h2, fun r0 en T σ H Q s kk => ?_, fun hb r0 en T σ H Q s kk => ?_⟩
    · intro s0 H0 C cl fp
      exact (h3 s0 H0 C cl fp).fr en T σ H Q s kk
    · intro s0 H0 C cl fp
      exact (h4 hb s0 H0 C cl fp).fr en T σ H Q s kk
  · obtain ⟨F, M, q⟩ := s'
    exact k _ _ _ H' ⟨p, rfl, rfl⟩ ⟨F, M, q.tmp ⟨.adr p, q.tm⟩⟩
end
end Sx
set_option Elab.async false
set_option linter.all false
set_option maxRecDepth 100000
set_option maxHeartbeats 2000000
/-! What a text's top has written; a law's own end. -/
namespace Sx
open PySem L2
/-- a def of the module | a method | a class | a class with its __init__ -/
def Dfn (K : PySem.W.Frag) (mg : Str → Option Value) (x : Str) (st : Stmt) : Prop := ∃ f fd, Fun K x x st f fd ∧ mg x = some (.ref f)
def Dmt (K : PySem.W.Frag) (C : Addr) (m qual : Str) (st : Stmt) : Prop := ∃ f fd, Fun K m qual st f fd ∧ Meth K C m f
def Din (K : PySem.W.Frag) (C : Addr) (qual : Str) (st : Stmt) : Prop := ∃ f fd, Fun K "__init__" qual st f fd ∧ Mk K C f
structure Dcl (K : PySem.W.Frag) (mg : Str → Option Value) (x : Str) (C : Addr) : Prop where
  mg : mg x = some (.ref C)
  cl : Cls K C
  kp : PySem.W.keepIn K (.ref C) = true
/-- an own class that isinstance may be asked about -/
structure Isi (K : PySem.W.Frag) (C : Addr) : Prop where
  (ha : PySem.W.findIn K (.ref C) "__class__" = some (some (.builtin "object.__class__"))) (hn : PySem.W.specialIn K (.builtin "object.__class__") "__get__" = some (some (.builtin "getset_descriptor.__get__")))
  (htk : PySem.W.takesIn K (.builtin "object.__class__") = some true) (hm : PySem.W.mroIn K C (.type "object") = some true)
section
variable {K : PySem.W.Frag} {h : Heap} {mg : Str → Option Value} {C f : Addr} {x m qual : Str} {st : Stmt} {oc kV doc pm cdv ct : Value} {od an : Option Addr} {osl : Array (Option Value)}
theorem dfn_mk (X : K.In h) (G : h.Ns mainGlobals mg) (a : PySem.W.nsIn K mainGlobals x = some (some (.ref f))) (l : K.lookup f = some ⟨oc, od, .func (PySem.W.fnOf x x (defArgs st) (defBody st) (defScope st) .none kV doc pm an cdv ct), osl⟩) (c : PySem.W.codeIn K cdv x = true) (k : PySem.W.keepIn K (.ref f) = true) : Dfn K mg x st :=
  ⟨f, _, fun_mk l c k, PySem.W.mg_of X G a⟩
theorem dmt_mk (a : PySem.W.findIn K (.ref C) m = some (some (.ref f))) (i : PySem.W.isFn K (.ref f) = true) (l : K.lookup f = some ⟨oc, od, .func (PySem.W.fnOf m qual (defArgs st) (defBody st) (defScope st) .none kV doc pm an cdv ct), osl⟩) (c : PySem.W.codeIn K cdv qual = true) (k : PySem.W.keepIn K (.ref f) = true) : Dmt K C m qual st :=
  ⟨f, _, fun_mk l c k, ⟨a, i, k⟩⟩
theorem din_mk (mk : PySem.W.makesIn K C = true) (kc : PySem.W.keepIn K (.ref C) = true) (a : PySem.W.findIn K (.ref C) "__init__" = some (some (.ref f))) (i : PySem.W.isFn K (.ref f) = true) (l : K.lookup f = some ⟨oc, od, .func (PySem.W.fnOf "__init__" qual (defArgs st) (defBody st) (defScope st) .none kV doc pm an cdv ct), osl⟩) (c : PySem.W.codeIn K cdv qual = true) (k : PySem.W.keepIn K (.ref f) = true) : Din K C qual st :=
  ⟨f, _, fun_mk l c k, ⟨mk, a, i, kc⟩⟩
theorem dcl_mk (X : K.In h) (G : h.Ns mainGlobals mg) (a : PySem.W.nsIn K mainGlobals x = some (some (.ref C))) (pg : PySem.W.plainGet K C Str.empty = true) (hd : PySem.W.hasDictIn K C = true) (po : PySem.W.plainOver K C = true) (sa : PySem.W.findIn K (.ref C) "__setattr__" = some (some (.builtin "object.__setattr__"))) (k : PySem.W.keepIn K (.ref C) = true) : Dcl K mg x C :=
  ⟨PySem.W.mg_of X G a, ⟨pg, hd, po, sa⟩, k⟩
end
section
variable {P : Program} {w : World} {K : PySem.W.Frag} {mg : Str → Option Value} {base : Heap} {k : Nat} {x m qual : Str} {st : Stmt} {ps : List Str} {sp : Sp} {C : Addr}
abbrev Bnd (x qual : Str) (st : Stmt) (ps : List Str) : Prop := ∀ (kV doc pm : Value) (an : Option Addr) (cdv ct : Value) (us : List Value), us.length = ps.length → bindArgs (PySem.W.fnOf x qual (defArgs st) (defBody st) (defScope st) .none kV doc pm an cdv ct) ⟨us, []⟩ = pure (ps.zip us)
theorem glo_of (d : Dfn K mg x st) (b : Bnd x x st ps) (h : ∀ f fd, Fun K x x st f fd → FnOk P w K mg base CX0 k f fd ps sp) : Glo P w K mg base k x ps sp := by
  obtain ⟨f, fd, F, hm⟩ := d
  exact ⟨f, fd, h f fd F, hm, F.kp, F.binds b⟩
theorem glom_of (d : Dmt K C m qual st) (c : Cls K C) (b : Bnd m qual st ps) (h : ∀ f fd, Fun K m qual st f fd → FnOk P w K mg base CX0 k f fd ps sp) : GloM P w K mg base k C m ps sp := by
  obtain ⟨f, fd, F, hm⟩ := d
  exact ⟨f, fd, h f fd F, c, hm, F.binds b⟩
theorem gloc_of (d : Din K C qual st) (c : Dcl K mg x C) (b : Bnd "__init__" qual st ps) (h : ∀ f fd, Fun K "__init__" qual st f fd → FnOk P w K mg base CX0 k f fd ps sp) : GloC P w K mg base k C x ps sp := by
  obtain ⟨f, fd, F, hm⟩ := d
  exact ⟨f, fd, h f fd F, hm, c.mg, F.binds b⟩
theorem Glo.mono {j : Nat} (g : Glo P w K mg base k x ps sp) (h : k ≤ j) : Glo P w K mg base j x ps sp := let ⟨f, fd, F, r⟩ := g; ⟨f, fd, F.mono h, r⟩
/-- the law: any script of at most 63 ints, True comes out -/
abbrev spL (K : PySem.W.Frag) : Sp := Pu K (fun ns : List Int => ns.length ≤ 63) (fun ns => [.scr (ns.map .int)]) (fun _ => .bl true)
def spLaw (K : PySem.W.Frag) : Sp := fun vs Hh Q _ => ∃ (q : Addr) (ns : List Int), vs = [.ref q] ∧ SqL K Hh q (ns.map V.int) ∧ ns.length ≤ 63 ∧ ∀ H2, Q (.bl true) H2
theorem law_imp {f : Addr} {fd : FuncData} (F : FnOk P w K mg base CX0 k f fd ps (spL K)) : FnOk P w K mg base CX0 k f fd ps (spLaw K) := F.imp fun vs H Q E h => by
  obtain ⟨a, ns, rfl, hS, hl, q⟩ := h
  refine ⟨ns, H, emp, hl, .rf, fun _ _ z => (by cases z), .emp _, .cons (.scr hS (FdAll.ofInts ns)) .nil, rfl, fun v d l' H' hp s => ?_, fun _ _ _ _ z => z.elim⟩
  obtain ⟨rfl, rfl⟩ := hp
  obtain ⟨F, M, a⟩ := s
  have f := a.tm.1
  cases f
  exact q H'
/-- as walk_of asks it -/
theorem law_end {pn : Str} {fa : Addr} {st : Stmt} (d : Dfn K mg "law" st) (hfa : mg "law" = some (.ref fa)) (hb : ∀ (kV doc pm : Value) (an : Option Addr) (cdv ct : Value) (s : Shared) (v : Value), BindsTo s (PySem.W.fnOf "law" "law" (defArgs st) (defBody st) (defScope st) .none kV doc pm an cdv ct) ⟨[v], []⟩ [(pn, v)])
    (h : ∀ base : Heap, K.In base → base.Ns mainGlobals mg → ∀ f fd, Fun K "law" "law" st f fd → FnOk P w K mg base CX0 k f fd [pn] (spL K)) :
    ∃ fd : FuncData, (∀ (s : Shared) (v : Value), BindsTo s fd ⟨[v], []⟩ [(pn, v)]) ∧ ∀ base : Heap, K.In base → base.Ns mainGlobals mg → FnOk P w K mg base CX0 k fa fd [pn] (spLaw K) := by
  obtain ⟨f, fd, F, hm⟩ := d
  rw [hfa] at hm
  cases hm
  obtain ⟨oc, od, kV, doc, pm, an, cdv, ct, osl, rfl, lk, hcd⟩ := id F.ex
  exact ⟨_, hb kV doc pm an cdv ct, fun base h1 h2 => law_imp (h base h1 h2 fa _ F)⟩
end
section
variable {X : Cx} {g : Gm} {l : List Res} {e c : Expr} {d : D} {p pos : Pos}
/-- isinstance(x, C) of a frozen instance of the class at D0 -/
theorem o_isi {C D0 : Addr} {fs : List (Str × D)} {b : Bool} (hc : Cls X.K D0) (hi : Isi X.K D0) (hk : PySem.W.kitOne X.K (.ref D0) (.ref C) = some b) : OpN X.K l (rIsi X.K) [.ins D0 fs, .adr C] (.bl b) := fun F M H vs Q eF eM dj rs f k => by
  cases f with
  | cons f1 f2 =>
    cases f2 with
    | cons f2 f3 =>
      cases f2; cases f3
      cases f1 with
      | ins h1 h2 =>
        exact ⟨_, _, _, _, b, rfl, .own C, .base (.ins (eF _ _ h1) hc hi.ha hi.hn hi.htk hi.hm), hk, k _ F H (.rf eF) (.bl _)⟩
/-- .. of flat things, lists and tuples, against a built-in class -/
def D.tyv : D → Option String
  | .non => some "NoneType" | .bl _ => some "bool" | .int _ => some "int" | .str _ => some "str" | .lst _ => some "list" | .tup _ => some "tuple" | .scr _ => some "list" | .dK _ => some "dict" | .dT _ => some "dict" | _ => none
theorem tyx_l {K : PySem.W.Frag} {H : Hp} {a : Addr} {xs : List V} (s : SqL K H a xs) : TyX K H (.ref a) (.type "list") := by
  rcases s with (s | ⟨o, s⟩) | ⟨o, its, n, h1, h2, _⟩
  · exact .base (.lst s)
  · exact .base (.frz s)
  · exact .kList h1 h2
theorem tyx_t {K : PySem.W.Frag} {H : Hp} {a : Addr} {xs : List V} (s : SqT K H a xs) : TyX K H (.ref a) (.type "tuple") := by
  rcases s with (s | ⟨o, s⟩) | ⟨o, its, n, h1, h2, _⟩
  · exact .base (.tup s)
  · exact .fTuple s
  · exact .kTuple h1 h2
theorem Fd.tyx {K : PySem.W.Frag} {F H : Hp} {v : V} {d : D} {t : String} (e : Ex F H) (f : Fd K F v d) (h : d.tyv = some t) : TyX K H v (.type t) := by
  cases f with
  | non => cases h; exact .base .non
  | bl b => cases h; exact .base (.bl b)
  | int i => cases h; exact .base (.int i)
  | str x => cases h; exact .base (.str x)
  | lst s a => cases h; exact tyx_l (SqL.of (e _ _ s))
  | scr s a => cases h; exact tyx_l (ex_l e s)
  | dK s a => cases h; exact .base (.dK (e _ _ s))
  | dT s a => cases h; exact .base (.dT (e _ _ s))
  | tup s a => cases h; exact tyx_t (ex_t e s)
  | adr a => cases h
  | ty n => cases h
  | ins a b => cases h
  | exc a b c => cases h
  | kt a => cases h
theorem o_isiT {t n : String} {b : Bool} (ht : d.tyv = some t) (hk : kitB t n = some b) : OpN X.K l (rIsi X.K) [d, .ty n] (.bl b) := fun F M H vs Q eF eM dj rs f k => by
  cases f with
  | cons f1 f2 =>
    cases f2 with
    | cons f2 f3 =>
      cases f2; cases f3
      exact ⟨_, _, _, _, b, rfl, .ty n, f1.tyx eF ht, kit_ty hk, k _ F H (.rf eF) (.bl _)⟩
theorem o_isiO {n : String} {b : Bool} {k : Nat} {p : Addr} {ds : List D} (hk : l[k]? = some (ownL X.K p ds)) (hb : kitB "list" n = some b) : OpN X.K l (rIsi X.K) [.adr p, .ty n] (.bl b) := fun F M H vs Q eF eM dj rs f kk => by
  cases f with
  | cons f1 f2 =>
    cases f2 with
    | cons f2 f3 =>
      cases f2; cases f3; cases f1
      obtain ⟨ws, _, hp⟩ := rs.own hk eM
      exact ⟨_, _, _, _, b, rfl, .ty n, tyx_l (SqL.of hp), kit_ty hb, kk _ F H (.rf eF) (.bl _)⟩
theorem px_bi {id : String} {x : Str} {r : List V → Hp → VK → Prop} {e1 : Expr} {e2 : List Expr} {ds : List D} (hc : CallR X (.builtin id) r) (hm : X.mg x = none) (ha : Pa X (e1 :: e2) g l ds) (hr : OpN X.K l r ds d) (hg : Gl X x := by rfl) (hv : bootBuiltins x = some (.builtin id) := by decide +kernel) (hn : x ≠ "__name__" := by decide) (hdb : (x == ("__debug__" : Str)) = false := by decide)
    (hs : starEach (e1 :: e2) X.env = (false, eval e1 X.env) :: starEach e2 X.env := by rfl) (hpl : (backTo pos (starEach e2 X.env)).any (·.1) = false := by rfl) : Px X (.Call (.Name x p) (e1 :: e2) [] pos) g l d := px_b (ds := ds) (pe_callB hc hg hm hv pa_wp hn hdb hs hpl) hr ha
theorem px_ty {T : String} {x : Str} {r : List V → Hp → VK → Prop} {e1 : Expr} {e2 : List Expr} {ds : List D} (hc : CallR X (.type T) r) (hm : X.mg x = none) (ha : Pa X (e1 :: e2) g l ds) (hr : OpN X.K l r ds d) (hg : Gl X x := by rfl) (hv : bootBuiltins x = some (.type T) := by decide +kernel) (hn : x ≠ "__name__" := by decide) (hdb : (x == ("__debug__" : Str)) = false := by decide)
    (hs : starEach (e1 :: e2) X.env = (false, eval e1 X.env) :: starEach e2 X.env := by rfl) (hpl : (backTo pos (starEach e2 X.env)).any (·.1) = false := by rfl) : Px X (.Call (.Name x p) (e1 :: e2) [] pos) g l d := px_b (ds := ds) (pe_callTy hc hg hm hv pa_wp hn hdb hs hpl) hr ha
/-- a class of the module, a built-in class, as a value -/
theorem px_cls {C : Addr} {x : Str} (h : X.mg x = some (.ref C)) (hg : Gl X x := by rfl) (hd : (x == ("__debug__" : Str)) = false := by decide) : Px X (.Name x pos) g l (.adr C) := px_c (pe_glob (v := .ref C) hg h rfl hd) fun _ => .adr C
theorem px_tyn {x : Str} {n : String} (hm : X.mg x = none) (hv : bootBuiltins x = some (.type n) := by decide +kernel) (hg : Gl X x := by rfl) (hn : x ≠ "__name__" := by decide) (hd : (x == ("__debug__" : Str)) = false := by decide) : Px X (.Name x pos) g l (.ty n) := px_c (pe_bltn (v := .ty n) hg hm hv rfl hn hd) fun _ => .ty n
theorem px_gi {x : Str} {i : Int} (h : ∃ t, X.mg x = some (.int i t)) (hg : Gl X x := by rfl) (hd : (x == ("__debug__" : Str)) = false := by decide) : Px X (.Name x pos) g l (.int i) := by
  obtain ⟨t, h⟩ := h
  exact px_c (pe_glob (v := .int i) hg h ⟨t, rfl⟩ hd) fun _ => .int i
theorem px_gs {x z : Str} (h : ∃ t, X.mg x = some (.str z t)) (hg : Gl X x := by rfl) (hd : (x == ("__debug__" : Str)) = false := by decide) : Px X (.Name x pos) g l (.str z) := by
  obtain ⟨t, h⟩ := h
  exact px_c (pe_glob (v := .str z) hg h ⟨t, rfl⟩ hd) fun _ => .str z
theorem px_isT (n t : String) (b : Bool) {x : Str} {p2 : Pos} (z : X.mg "isinstance" = none) (zx : X.mg x = none) (h : Px X e g l d) (ht : d.tyv = some t := by rfl) (hk : kitB t n = some b := by decide +kernel) (hv : bootBuiltins x = some (.type n) := by decide +kernel)
    (hg : Gl X "isinstance" := by rfl) (hgx : Gl X x := by rfl) (hn : x ≠ "__name__" := by decide) (hd : (x == ("__debug__" : Str)) = false := by decide)
    (hs : starEach [e, .Name x p2] X.env = (false, eval e X.env) :: starEach [.Name x p2] X.env := by rfl) (hs2 : starEach [.Name x p2] X.env = [(false, eval (.Name x p2) X.env)] := by rfl) (hpl : (backTo pos (starEach [.Name x p2] X.env)).any (·.1) = false := by rfl) :
    Px X (.Call (.Name "isinstance" p) [e, .Name x p2] [] pos) g l (.bl b) := px_bi call_isi z (pa_c h (pa_c (px_tyn zx hv hgx hn hd) pa_n hs2) hs) (o_isiT ht hk) hg (by decide +kernel) (by decide) (by decide) hs hpl
theorem px_isC {C D0 : Addr} {fs : List (Str × D)} {b : Bool} {x : Str} {p2 : Pos} (z : X.mg "isinstance" = none) (zx : X.mg x = some (.ref C)) (h : Px X e g l (.ins D0 fs)) (hc : Cls X.K D0) (hi : Isi X.K D0) (hk : PySem.W.kitOne X.K (.ref D0) (.ref C) = some b)
    (hg : Gl X "isinstance" := by rfl) (hgx : Gl X x := by rfl) (hd : (x == ("__debug__" : Str)) = false := by decide)
    (hs : starEach [e, .Name x p2] X.env = (false, eval e X.env) :: starEach [.Name x p2] X.env := by rfl) (hs2 : starEach [.Name x p2] X.env = [(false, eval (.Name x p2) X.env)] := by rfl) (hpl : (backTo pos (starEach [.Name x p2] X.env)).any (·.1) = false := by rfl) :
    Px X (.Call (.Name "isinstance" p) [e, .Name x p2] [] pos) g l (.bl b) := px_bi call_isi z (pa_c h (pa_c (px_cls zx hgx hd) pa_n hs2) hs) (o_isi hc hi hk) hg (by decide +kernel) (by decide) (by decide) hs hpl
end
section
variable {K : PySem.W.Frag} {l : List Res} {d : D}
/-- len, str, int, list, tuple, max, min -/
abbrev rLen1 (K : PySem.W.Frag) : List V → Hp → VK → Prop := fun xs H Q => ∃ p ys, xs = [.ref p] ∧ (SqL K H p ys ∨ SqT K H p ys) ∧ Q (.int ys.length) H
theorem o_len {ds : List D} {d0 : D} (h : d0 = .lst ds ∨ d0 = .tup ds ∨ d0 = .scr ds) : OpN K l (rLen1 K) [d0] (.int ds.length) := fun F M H vs Q eF eM dj rs f k => by
  cases f with
  | cons f1 f2 =>
    cases f2
    rcases h with rfl | rfl | rfl
    · cases f1 with
      | lst s a =>
        refine ⟨_, _, rfl, .inl (SqL.of (eF _ _ s)), ?_⟩
        rw [a.length]
        exact k _ F H (.rf eF) (.int _)
    · cases f1 with
      | tup s a =>
        refine ⟨_, _, rfl, .inr (ex_t eF s), ?_⟩
        rw [a.length]
        exact k _ F H (.rf eF) (.int _)
    · cases f1 with
      | scr s a =>
        refine ⟨_, _, rfl, .inl (ex_l eF s), ?_⟩
        rw [a.length]
        exact k _ F H (.rf eF) (.int _)
theorem o_lenL {ds : List D} : OpN K l (rLen1 K) [.lst ds] (.int ds.length) := o_len (.inl rfl)
theorem o_lenT {ds : List D} : OpN K l (rLen1 K) [.tup ds] (.int ds.length) := o_len (.inr (.inl rfl))
theorem o_lenR {ds : List D} : OpN K l (rLen1 K) [.scr ds] (.int ds.length) := o_len (.inr (.inr rfl))
theorem o_lenO {k : Nat} {p : Addr} {ds : List D} (hk : l[k]? = some (ownL K p ds)) : OpN K l (rLen1 K) [.adr p] (.int ds.length) := fun F M H vs Q eF eM dj rs f kk => by
  cases f with
  | cons f1 f2 =>
    cases f2; cases f1
    obtain ⟨ws, fw, hp⟩ := rs.own hk eM
    refine ⟨_, _, rfl, .inl (SqL.of hp), ?_⟩
    rw [fw.length]
    exact kk _ F H (.rf eF) (.int _)
theorem o_lenS {x : Str} (h : x.length ≤ sizeLine) : OpN K l (fun xs H Q => ∃ z, xs = [.str z] ∧ z.length ≤ sizeLine ∧ Q (.int z.length) H) [.str x] (.int x.length) := fun F M H vs Q eF eM dj rs f k => by
  cases f with
  | cons f1 f2 =>
    cases f2; cases f1
    exact ⟨x, rfl, h, k _ F H (.rf eF) (.int _)⟩
theorem o_str {i : Int} (h : i.natAbs.log2 < 1920) : OpN K l (fun xs H Q => ∃ i, xs = [.int i] ∧ i.natAbs.log2 < 1920 ∧ Q (.str (toString i)) H) [.int i] (.str (toString i)) := fun F M H vs Q eF eM dj rs f k => by
  cases f with
  | cons f1 f2 =>
    cases f2; cases f1
    exact ⟨i, rfl, h, k _ F H (.rf eF) (.str _)⟩
theorem o_max2 {i j : Int} : OpN K l (fun xs H Q => ∃ i j, xs = [.int i, .int j] ∧ Q (.int (if j > i then j else i)) H) [.int i, .int j] (.int (max i j)) := fun F M H vs Q eF eM dj rs f k => by
  cases f with
  | cons f1 f2 =>
    cases f2 with
    | cons f2 f3 =>
      cases f3; cases f1; cases f2
      refine ⟨i, j, rfl, ?_⟩
      have e : (if j > i then j else i) = max i j := by
        by_cases q : j > i
        · rw [if_pos q, Int.max_eq_right (by omega)]
        · rw [if_neg q, Int.max_eq_left (by omega)]
      rw [e]
      exact k _ F H (.rf eF) (.int _)
theorem o_min2 {i j : Int} : OpN K l (fun xs H Q => ∃ i j, xs = [.int i, .int j] ∧ Q (.int (if j < i then j else i)) H) [.int i, .int j] (.int (min i j)) := fun F M H vs Q eF eM dj rs f k => by
  cases f with
  | cons f1 f2 =>
    cases f2 with
    | cons f2 f3 =>
      cases f3; cases f1; cases f2
      refine ⟨i, j, rfl, ?_⟩
      have e : (if j < i then j else i) = min i j := by
        by_cases q : j < i
        · rw [if_pos q, Int.min_eq_right (by omega)]
        · rw [if_neg q, Int.min_eq_left (by omega)]
      rw [e]
      exact k _ F H (.rf eF) (.int _)
/-- an item at a place that lies in it -/
theorem atI_in {α : Type} {xs : List α} {i : Int} {x0 : α} (h0 : 0 ≤ i) (h1 : i < xs.length) : atI xs i = some (xs.getD i.toNat x0) := by
  have h2 : i.toNat < xs.length := by omega
  unfold atI ixN
  rw [if_pos h0, if_pos h1]
  show xs[i.toNat]? = _
  rw [List.getElem?_eq_getElem h2, List.getD_eq_getElem?_getD, List.getElem?_eq_getElem h2]
  rfl
theorem atI_map {α β : Type} {f : α → β} {xs : List α} {i : Int} {y : α} (h : atI xs i = some y) : atI (xs.map f) i = some (f y) := by
  unfold atI at h ⊢
  rw [List.length_map]
  cases e : ixN xs.length i with
  | none => rw [e] at h; cases h
  | some n =>
    rw [e] at h
    show (xs.map f)[n]? = some (f y)
    have h' : xs[n]? = some y := h
    rw [List.getElem?_map, h']
    rfl
end
/-- a class without an __init__ of its own -/
structure Mk0 (K : PySem.W.Frag) (C : Addr) : Prop where
  (makes : PySem.W.makesIn K C = true) (kp : PySem.W.keepIn K (.ref C) = true) (init : PySem.W.findIn K (.ref C) "__init__" = some (some (.builtin "object.__init__")))
section
open PySem.W in
theorem make_plain {prog : Program} {w : World} {A : Around} {K : PySem.W.Frag} {C : Addr} {R : Result → Shared → Prop} {s : Shared} (X : K.In s.heap) (m : Mk0 K C)
    (h : R (.ok (.ret (.ref (s.heap.objs.size + 1)))) { s with heap := (s.heap.push emptyDict).push (instObj C s.heap.objs.size) }) : codeAny (model prog w) A (.call (.ref C) ⟨[], []⟩) R s := by
  obtain ⟨hh, g, d, t, os⟩ := s
  have Y := makes_of (M := model prog w) X m.makes
  have hx : ((hh.push emptyDict).push (instObj C hh.objs.size)).get? (hh.objs.size + 1) = some (instObj C hh.objs.size) := by heap_get
  refine make_core Y (looks_findIn X m.init) (fun self => Looks.of_pure (oi_bind self)) (.inr ⟨rfl, rfl⟩) ?_
  refine codeAny_call_builtin oi_plain entry_oi (@check_slot (model prog w) _ _ _ "object.__init__" "object" "__init__" (.ref (hh.objs.size + 1)) [] [] _ oi_kind oi_split
    (((Looks.ld hx).andThen .now : Looks (model prog w) _ (typeOf (.ref (hh.objs.size + 1))) (.ref C)).andThen (Y.top.keeps fun _ _ q => Heap.get?_push_of_some _ (Heap.get?_push_of_some _ q))) (oi_args _) (by rw [oi_run]; exact wpAny_pure ⟨rfl, h⟩))
end
section
variable {X : Cx} {g : Gm} {l : List Res} {p pos : Pos} {C : Addr} {x : Str}
theorem pe_makeN (m : Mk0 X.K C) (hg : Gl X x) (hm : X.mg x = some (.ref C)) (hdb : (x == ("__debug__" : Str)) = false := by decide) :
    PE X (.Call (.Name x p) [] [] pos) (fun _ H Q => ∀ q dx, H q = none → H dx = none → dx ≠ q → Q (.ref q) (upd (upd H dx (.own q)) q (.ins C dx []))) := by
  refine ⟨fun pins st sg Hh Q iv h => wpAny_Call_Name_kw (ld_glob iv hg hm (PySem.W.callWith_K0 iv.kIn m.kp (wpAny_call (make_plain iv.kIn m ⟨V.ref (st.heap.objs.size + 1), _, Inv.made (C := C) iv, rfl, ?_⟩))) hdb)⟩
  exact h _ _ (iv.hok.fresh (Nat.le_succ _)) (iv.hok.fresh (Nat.le_refl _)) (Nat.ne_of_lt (Nat.lt_succ_self _))
/-- C(), frozen -/
theorem px_make0 (m : Mk0 X.K C) (hm : X.mg x = some (.ref C)) (hg : Gl X x := by rfl) (hdb : (x == ("__debug__" : Str)) = false := by decide) : Px X (.Call (.Name x p) [] [] pos) g l (.ins C []) := fun en T σ H Q s k => wpE_of (pe_makeN m hg hm hdb) (by
  intro q dx nx ndx ne
  obtain ⟨F, M, a⟩ := s
  have n1 := New.upd (o := .own q) a.exF ndx
  have nq : (upd H dx (.own q)) q = none := by rw [upd_ne (Ne.symm ne)]; exact nx
  have n2 := New.upd (o := .ins C dx []) n1.i nq
  have n := n1.tr n2
  exact k _ _ ⟨_, M, (a.new n).tmp ⟨.ins upd_same .nil, T.mono n.f a.tm⟩⟩)
end
end Sx
set_option Elab.async false
set_option linter.all false
set_option maxRecDepth 100000
set_option maxHeartbeats 2000000
/-! More rules: owned things read as if frozen, slices, new lists, texts. -/
namespace Sx
open PySem L2
section
variable {K : PySem.W.Frag} {l : List Res} {d d1 d2 : D} {ds es : List D}
/-- a list: frozen or owned -/
inductive Lv (K : PySem.W.Frag) (l : List Res) : D → List D → Prop
  | f {ds : List D} : Lv K l (.lst ds) ds
  | o {k : Nat} {p : Addr} {ds : List D} (h : l[k]? = some (ownL K p ds)) : Lv K l (.adr p) ds
/-- .. or the script -/
inductive Lq (K : PySem.W.Frag) (l : List Res) : D → List D → Prop
  | v {d : D} {ds : List D} (h : Lv K l d ds) : Lq K l d ds
  | s {ds : List D} : Lq K l (.scr ds) ds
/-- .. or a tuple -/
inductive Sv (K : PySem.W.Frag) (l : List Res) : D → List D → Prop
  | q {d : D} {ds : List D} (h : Lq K l d ds) : Sv K l d ds
  | t {ds : List D} : Sv K l (.tup ds) ds
abbrev Lq.f : Lq K l (.lst ds) ds := .v .f
abbrev Lq.o {k : Nat} {p : Addr} (h : l[k]? = some (ownL K p ds)) : Lq K l (.adr p) ds := .v (.o h)
abbrev Sv.f : Sv K l (.lst ds) ds := .q (.v .f)
abbrev Sv.o {k : Nat} {p : Addr} (h : l[k]? = some (ownL K p ds)) : Sv K l (.adr p) ds := .q (.v (.o h))
abbrev Sv.s : Sv K l (.scr ds) ds := .q .s
theorem Lv.get {F M H : Hp} {v : V} (h : Lv K l d ds) (eF : Ex F H) (eM : Ex M H) (rs : Rs l F M) (f : Fd K F v d) : ∃ a vs, v = .ref a ∧ H a = some (.lst vs) ∧ FdAll K F vs ds := by
  cases h with
  | f => cases f with | lst s a => exact ⟨_, _, rfl, eF _ _ s, a⟩
  | o h =>
    cases f
    obtain ⟨vs, f, hp⟩ := rs.own h eM
    exact ⟨_, vs, rfl, hp, f⟩
theorem Lq.get {F M H : Hp} {v : V} (h : Lq K l d ds) (eF : Ex F H) (eM : Ex M H) (rs : Rs l F M) (f : Fd K F v d) : ∃ a vs, v = .ref a ∧ SqL K H a vs ∧ FdAll K F vs ds := by
  cases h with
  | v h =>
    obtain ⟨a, vs, e, hp, f⟩ := h.get eF eM rs f
    exact ⟨a, vs, e, SqL.of hp, f⟩
  | s => cases f with | scr s a => exact ⟨_, _, rfl, ex_l eF s, a⟩
theorem Sv.get {F M H : Hp} {v : V} (h : Sv K l d ds) (eF : Ex F H) (eM : Ex M H) (rs : Rs l F M) (f : Fd K F v d) : ∃ a vs, v = .ref a ∧ (SqL K H a vs ∨ SqT K H a vs) ∧ FdAll K F vs ds := by
  cases h with
  | q h =>
    obtain ⟨a, vs, e, hp, f⟩ := h.get eF eM rs f
    exact ⟨a, vs, e, .inl hp, f⟩
  | t => cases f with | tup s a => exact ⟨_, _, rfl, .inr (ex_t eF s), a⟩
end
section
variable {X : Cx} {W : WX} {g g' : Gm} {l l' : List Res} {Φ : Po} {e e2 a b c o : Expr} {es : List Expr} {d d1 d2 d3 : D} {ds ds1 ds2 : List D} {pos p p2 : Pos} {rest : List Stmt}
/-! ### owned things read as if frozen -/
theorem Px.all (h : Px X e g [] d) : Px X e g l d := by
  induction l with
  | nil => exact h
  | cons r l ih => exact ih.fr
/-- what is scalar, got with an owned list taken for frozen -/
theorem px_brw {i k : Nat} {q : Addr} {v0 : V} (hi : nth g i = some (.adr q)) (hk : l[k]? = some (ownL X.K q ds)) (hd : d.v = some v0) (h : Px X e (g.set i (some (.lst ds))) [] d) : Px X e g l d := fun en T σ H Q s kk => by
  obtain ⟨F, M, a⟩ := s
  obtain ⟨A, B, hM, dj, ⟨vs, fvs, rfl⟩, _⟩ := Rs.at hk a.rs
  have hH : H q = some (.lst vs) := a.exM q _ (by rw [hM]; exact join_l one_same)
  have hF : F q = none := a.dj.sym q _ (by rw [hM]; exact join_l one_same)
  have eF : Ex F (join F (one q (.lst vs))) := fun x o h => join_l h
  have e1 : Ex (join F (one q (.lst vs))) H := a.exF.join fun x o z => by obtain ⟨rfl, rfl⟩ := one_some z; exact hH
  have hs : Sl X.K (join F (one q (.lst vs))) (g.set i (some (.lst ds))) σ := by
    obtain ⟨v, hv, fv⟩ := a.sl.nth hi
    cases fv
    have w := (a.sl.mono eF).set i (d := .lst ds) (v := .ref q) (.lst (by rw [join_r hF]; exact one_same) (fvs.mono eF))
    have e : σ.set i (some (.ref q)) = σ := by
      apply List.ext_getElem?
      intro j
      by_cases z : j = i
      · subst z
        obtain ⟨h1, h2⟩ := List.getElem?_eq_some_iff.mp hv
        rw [List.getElem?_set_self h1, hv]
      · rw [List.getElem?_set_ne (Ne.symm z)]
    rw [e] at w
    exact w
  refine h ⟨join F (one q (.lst vs)), emp, H⟩ Tm.tt σ H Q ⟨_, emp, At.entry e1 (fun _ _ z => by cases z) (.emp _) hs trivial rfl⟩ fun v H' s' => ?_
  obtain ⟨F', M', b⟩ := s'
  have hv := D.v_eq b.tm.1 hd
  subst hv
  have n : New F H F H' := New.grow a.exF fun x o z => b.fr x o z rfl
  refine kk _ H' ⟨F, M, (a.new n).tmp ⟨?_, a.tm⟩⟩
  cases d <;> first | (cases hd; constructor) | cases hd
theorem ts_brw {i k : Nat} {q : Addr} {kb : Bool} (hi : nth g i = some (.adr q)) (hk : l[k]? = some (ownL X.K q ds)) (h : Ts X e (g.set i (some (.lst ds))) [] kb) : Ts X e g l kb := fun en T σ H Q s kk => by
  obtain ⟨F, M, a⟩ := s
  obtain ⟨A, B, hM, dj, ⟨vs, fvs, rfl⟩, _⟩ := Rs.at hk a.rs
  have hH : H q = some (.lst vs) := a.exM q _ (by rw [hM]; exact join_l one_same)
  have hF : F q = none := a.dj.sym q _ (by rw [hM]; exact join_l one_same)
  have eF : Ex F (join F (one q (.lst vs))) := fun x o h => join_l h
  have e1 : Ex (join F (one q (.lst vs))) H := a.exF.join fun x o z => by obtain ⟨rfl, rfl⟩ := one_some z; exact hH
  have hs : Sl X.K (join F (one q (.lst vs))) (g.set i (some (.lst ds))) σ := by
    obtain ⟨v, hv, fv⟩ := a.sl.nth hi
    cases fv
    have w := (a.sl.mono eF).set i (d := .lst ds) (v := .ref q) (.lst (by rw [join_r hF]; exact one_same) (fvs.mono eF))
    have e : σ.set i (some (.ref q)) = σ := by
      apply List.ext_getElem?
      intro j
      by_cases z : j = i
      · subst z
        obtain ⟨h1, h2⟩ := List.getElem?_eq_some_iff.mp hv
        rw [List.getElem?_set_self h1, hv]
      · rw [List.getElem?_set_ne (Ne.symm z)]
    rw [e] at w
    exact w
  refine h ⟨join F (one q (.lst vs)), emp, H⟩ Tm.tt σ H Q ⟨_, emp, At.entry e1 (fun _ _ z => by cases z) (.emp _) hs trivial rfl⟩ fun H' s' => ?_
  obtain ⟨F', M', b⟩ := s'
  have n : New F H F H' := New.grow a.exF fun x o z => b.fr x o z rfl
  exact kk H' ⟨F, M, a.new n⟩
/-! ### new lists -/
abbrev NewL (X : Cx) (g : Gm) (l : List Res) (t : TE) (ds : List D) : Prop := ∀ en T σ H (Q : VK), S X.K en g T l σ H → (∀ p ws H1 F M, At X.K en g T l σ H1 F M → FdAll X.K F ws ds → H1 p = none → Q (.ref p) (upd H1 p (.lst ws))) → t σ H Q
abbrev EvL (X : Cx) (e : Expr) (g : Gm) (l : List Res) (ds : List D) : Prop := Ev X e g l (fun d' l' => ∃ p, d' = .adr p ∧ l' = ownL X.K p ds :: l)
theorem ev_new {t : TE} (he : PE X e t) (h : NewL X g l t ds) : EvL X e g l ds := fun en T σ H Q s k => wpE_of he (h en T σ H Q s fun p ws H1 F M q f hp => by
  have q3 := q.newO (r := ownL X.K p ds) (A := one p (.lst ws)) (H' := upd H1 p (.lst ws)) (.new hp) (fun x o z => by obtain ⟨rfl, rfl⟩ := one_some z; exact upd_same) (fun x o z => by obtain ⟨rfl, rfl⟩ := one_some z; exact hp) ⟨ws, f, rfl⟩
  exact k _ (.adr p) _ _ ⟨p, rfl, rfl⟩ ⟨F, _, q3.tmp ⟨.adr p, q.tm⟩⟩)
/-! ### slices -/
def cut {α : Type} (xs : List α) (lo hi : Option Int) : List α := (xs.drop (HT.sIx xs.length 0 lo)).take (HT.sIx xs.length xs.length hi - HT.sIx xs.length 0 lo)
theorem cut_all {α : Type} {xs : List α} : cut xs none none = xs := by
  unfold cut
  show (xs.drop 0).take (xs.length - 0) = xs
  rw [List.drop_zero, Nat.sub_zero, List.take_length]
theorem cut_take {α : Type} {xs : List α} {n : Int} (h : 0 ≤ n) : cut xs none (some n) = xs.take n.toNat := by
  unfold cut
  have e : HT.sIx xs.length xs.length (some n) = min n.toNat xs.length := by
    show (if n < 0 then _ else _) = _
    rw [if_neg (by omega)]
  rw [e]
  show (xs.drop 0).take (min n.toNat xs.length - 0) = _
  rw [List.drop_zero, Nat.sub_zero, ← List.take_take, List.take_length]
theorem cut_drop {α : Type} {xs : List α} {n : Int} (h : 0 ≤ n) : cut xs (some n) none = xs.drop n.toNat := by
  unfold cut
  have e : HT.sIx xs.length 0 (some n) = min n.toNat xs.length := by
    show (if n < 0 then _ else _) = _
    rw [if_neg (by omega)]
  rw [e]
  show (xs.drop (min n.toNat xs.length)).take (xs.length - min n.toNat xs.length) = _
  by_cases z : n.toNat ≤ xs.length
  · rw [Nat.min_eq_left z, List.take_of_length_le (by rw [List.length_drop]; exact Nat.le_refl _)]
  · rw [Nat.min_eq_right (by omega), List.drop_length, List.drop_eq_nil_of_le (by omega), List.take_nil]
theorem FdAll.cut {K : PySem.W.Frag} {F : Hp} {vs : List V} {ds : List D} (f : FdAll K F vs ds) (lo hi : Option Int) : FdAll K F (cutV vs lo hi) (cut ds lo hi) := by
  unfold cutV Sx.cut
  rw [f.length]
  exact (f.drop _).take _
/-- a slice's part -/
def Pz (X : Cx) (e : Option Expr) (g : Gm) (l : List Res) (o : Option Int) : Prop := ∃ t, PO X e t ∧ ∀ en T σ H (R : Option Int → Hp → Prop), S X.K en g T l σ H → (∀ H', S X.K en g T l σ H' → R o H') → t σ H R
theorem pz_n : Pz X none g l none := ⟨_, po_none, fun en T σ H R s k => k H s⟩
theorem pz_s {i : Int} (h : Px X e g l (.int i)) : Pz X (some e) g l (some i) := ⟨_, po_some pe_wp, fun en T σ H R s k => h en T σ H _ s fun v H' s' => by
  obtain ⟨F, M, q⟩ := s'
  have f := q.tm.1
  cases f
  exact ⟨i, rfl, k H' ⟨F, M, q.tmp q.tm.2⟩⟩⟩
theorem ev_slL {lo hi : Option Expr} {i j : Option Int} (ho : Px X o g l d) (hd : Lq X.K l d ds) (hl : Pz X lo g l i) (hu : Pz X hi g l j) : EvL X (.Subscript o (.Slice lo hi none p2) pos) g l (cut ds i j) := by
  obtain ⟨tl, pl, hl⟩ := hl
  obtain ⟨tu, pu, hu⟩ := hu
  refine ev_new (pe_slice sl_list pe_wp pl pu) fun en T σ H Q s k => ?_
  refine ho en T σ H _ s fun v H1 s1 => ?_
  refine hl en _ σ H1 _ s1 fun H2 s2 => ?_
  refine hu en _ σ H2 _ s2 fun H3 s3 => ?_
  obtain ⟨F, M, q⟩ := s3
  obtain ⟨a, vs, rfl, sq, f⟩ := hd.get q.exF q.exM q.rs q.tm.1
  exact ⟨a, vs, rfl, sq, fun p hp => k p _ H3 F M (q.tmp q.tm.2) (f.cut i j) hp⟩
theorem px_slL {lo hi : Option Expr} {i j : Option Int} (ho : Px X o g l d) (hd : Lq X.K l d ds) (hl : Pz X lo g l i) (hu : Pz X hi g l j) : Px X (.Subscript o (.Slice lo hi none p2) pos) g l (.lst (cut ds i j)) := (ev_slL ho hd hl hu).frz
theorem px_slT {lo hi : Option Expr} {i j : Option Int} (ho : Px X o g l (.tup ds)) (hl : Pz X lo g l i) (hu : Pz X hi g l j) : Px X (.Subscript o (.Slice lo hi none p2) pos) g l (.tup (cut ds i j)) := fun en T σ H Q s k => by
  obtain ⟨tl, pl, hl⟩ := hl
  obtain ⟨tu, pu, hu⟩ := hu
  refine wpE_of (pe_slice sl_tupA pe_wp pl pu) ?_
  refine ho en T σ H _ s fun v H1 s1 => ?_
  refine hl en _ σ H1 _ s1 fun H2 s2 => ?_
  refine hu en _ σ H2 _ s2 fun H3 s3 => ?_
  obtain ⟨F, M, q⟩ := s3
  obtain ⟨f, t⟩ := q.tm
  cases f with
  | tup sq f =>
    rename_i a vs
    refine ⟨a, vs, rfl, ex_t q.exF sq, fun hw => ?_, fun hw p hp => ?_⟩
    · refine k _ H3 ⟨F, M, q.tmp ⟨?_, t⟩⟩
      have e : cut ds i j = ds := by
        unfold cut
        rw [← f.length, hw.1, hw.2, List.drop_zero, Nat.sub_zero, f.length, List.take_length]
      rw [e]
      exact .tup sq f
    · have n := New.upd (o := .tup (cutV vs i j)) q.exF hp
      exact k _ _ ⟨_, M, (q.new n).tmp ⟨.tup (SqT.of upd_same) (FdAll.mono n.f _ (f.cut i j)), T.mono n.f t⟩⟩
theorem px_slS {lo hi : Option Expr} {i j : Option Int} {x : Str} (ho : Px X o g l (.str x)) (hx : x.length ≤ sizeLine) (hl : Pz X lo g l i) (hu : Pz X hi g l j) : Px X (.Subscript o (.Slice lo hi none p2) pos) g l (.str (cutS x i j)) := fun en T σ H Q s k => by
  obtain ⟨tl, pl, hl⟩ := hl
  obtain ⟨tu, pu, hu⟩ := hu
  refine wpE_of (pe_slice sl_str pe_wp pl pu) ?_
  refine ho en T σ H _ s fun v H1 s1 => ?_
  refine hl en _ σ H1 _ s1 fun H2 s2 => ?_
  refine hu en _ σ H2 _ s2 fun H3 s3 => ?_
  obtain ⟨F, M, q⟩ := s3
  obtain ⟨f, t⟩ := q.tm
  cases f
  exact ⟨x, rfl, hx, k _ H3 ⟨F, M, q.tmp ⟨.str _, t⟩⟩⟩
/-! ### + and * of lists, list(x), tuple(x) -/
theorem ev_cat (ha : Px X a g l d1) (hb : Px X b g l d2) (h1 : Lv X.K l d1 ds1) (h2 : Lv X.K l d2 ds2) (hz : ds1.length + ds2.length ≤ sizeLine) : EvL X (.BinOp a .Add b pos) g l (ds1 ++ ds2) :=
  ev_new (pe_op op_cat pe_wp pe_wp) fun en T σ H Q s k => by
  refine ha en T σ H _ s fun v H1 s1 => ?_
  refine hb en _ σ H1 _ s1 fun u H2 s2 => ?_
  obtain ⟨F, M, q⟩ := s2
  obtain ⟨x, vs, rfl, g1, f1⟩ := h1.get q.exF q.exM q.rs q.tm.2.1
  obtain ⟨y, ws, rfl, g2, f2⟩ := h2.get q.exF q.exM q.rs q.tm.1
  exact ⟨x, y, vs, ws, rfl, rfl, g1, g2, by rw [f1.length, f2.length]; exact hz, fun p hp => k p _ H2 F M (q.tmp q.tm.2.2) (f1.app f2) hp⟩
theorem px_cat (ha : Px X a g l d1) (hb : Px X b g l d2) (h1 : Lv X.K l d1 ds1) (h2 : Lv X.K l d2 ds2) (hz : ds1.length + ds2.length ≤ sizeLine) : Px X (.BinOp a .Add b pos) g l (.lst (ds1 ++ ds2)) := (ev_cat ha hb h1 h2 hz).frz
theorem FdAll.rep {K : PySem.W.Frag} {F : Hp} {vs : List V} {ds : List D} (f : FdAll K F vs ds) : ∀ n, FdAll K F (List.replicate n vs).flatten (List.replicate n ds).flatten
  | 0 => .nil
  | n + 1 => by
    rw [List.replicate_succ, List.replicate_succ, List.flatten_cons, List.flatten_cons]
    exact f.app (FdAll.rep f n)
theorem ev_rep {i : Int} (ha : Px X a g l d1) (hb : Px X b g l (.int i)) (h1 : Lv X.K l d1 ds) (hi : -(2 ^ 63) ≤ i ∧ i < 2 ^ 63) (hz : ds.length * i.toNat ≤ sizeLine) : EvL X (.BinOp a .Mult b pos) g l (List.replicate i.toNat ds).flatten :=
  ev_new (pe_op op_rep pe_wp pe_wp) fun en T σ H Q s k => by
  refine ha en T σ H _ s fun v H1 s1 => ?_
  refine hb en _ σ H1 _ s1 fun u H2 s2 => ?_
  obtain ⟨F, M, q⟩ := s2
  obtain ⟨x, vs, rfl, g1, f1⟩ := h1.get q.exF q.exM q.rs q.tm.2.1
  have f2 := q.tm.1
  cases f2
  exact ⟨x, i, vs, rfl, rfl, g1, hi.1, hi.2, by rw [f1.length]; exact hz, fun p hp => k p _ H2 F M (q.tmp q.tm.2.2) (f1.rep _) hp⟩
theorem ev_listOf {e1 : Expr} (ha : Px X e1 g l d) (hd : Sv X.K l d ds) (hm : X.mg "list" = none) (hg : Gl X "list" := by rfl) (hs : starEach [e1] X.env = (false, eval e1 X.env) :: starEach [] X.env := by rfl) : EvL X (.Call (.Name "list" p) [e1] [] pos) g l ds :=
  ev_new (pe_callTy call_list_of hg hm (by decide +kernel) (pa_wp (es := [e1])) (by decide) (by decide) hs rfl) fun en T σ H Q s k => by
  refine pa_c ha pa_n hs en T σ H _ s fun vs H1 s1 => ?_
  obtain ⟨F, M, q⟩ := s1
  obtain ⟨f, t⟩ := q.tm
  cases f with
  | cons f1 f2 =>
    cases f2
    obtain ⟨a, ws, rfl, sq, f⟩ := hd.get q.exF q.exM q.rs f1
    exact ⟨a, ws, rfl, sq, fun p hp => k p _ H1 F M (q.tmp t) f hp⟩
theorem px_listOf {e1 : Expr} (ha : Px X e1 g l d) (hd : Sv X.K l d ds) (hm : X.mg "list" = none) (hg : Gl X "list" := by rfl) (hs : starEach [e1] X.env = (false, eval e1 X.env) :: starEach [] X.env := by rfl) : Px X (.Call (.Name "list" p) [e1] [] pos) g l (.lst ds) := (ev_listOf ha hd hm hg hs).frz
theorem px_tupOf {e1 : Expr} (ha : Px X e1 g l d) (hd : Lq X.K l d ds) (hm : X.mg "tuple" = none) (hg : Gl X "tuple" := by rfl) (hs : starEach [e1] X.env = (false, eval e1 X.env) :: starEach [] X.env := by rfl) : Px X (.Call (.Name "tuple" p) [e1] [] pos) g l (.tup ds) := fun en T σ H Q s k =>
  wpE_of (pe_callTy call_tuple_of hg hm (by decide +kernel) (pa_wp (es := [e1])) (by decide) (by decide) hs rfl) (by
  refine pa_c ha pa_n hs en T σ H _ s fun vs H1 s1 => ?_
  obtain ⟨F, M, q⟩ := s1
  obtain ⟨f, t⟩ := q.tm
  cases f with
  | cons f1 f2 =>
    cases f2
    obtain ⟨a, ws, rfl, sq, f⟩ := hd.get q.exF q.exM q.rs f1
    refine ⟨a, ws, rfl, .inl ⟨sq, fun p hp => ?_⟩⟩
    have n := New.upd (o := .tup ws) q.exF hp
    exact k _ _ ⟨_, M, (q.new n).tmp ⟨.tup (SqT.of upd_same) (FdAll.mono n.f _ f), T.mono n.f t⟩⟩)
theorem px_tupOfT {e1 : Expr} (ha : Px X e1 g l (.tup ds)) (hm : X.mg "tuple" = none) (hg : Gl X "tuple" := by rfl) (hs : starEach [e1] X.env = (false, eval e1 X.env) :: starEach [] X.env := by rfl) : Px X (.Call (.Name "tuple" p) [e1] [] pos) g l (.tup ds) := fun en T σ H Q s k =>
  wpE_of (pe_callTy call_tuple_of hg hm (by decide +kernel) (pa_wp (es := [e1])) (by decide) (by decide) hs rfl) (by
  refine pa_c ha pa_n hs en T σ H _ s fun vs H1 s1 => ?_
  obtain ⟨F, M, q⟩ := s1
  obtain ⟨f, t⟩ := q.tm
  cases f with
  | cons f1 f2 =>
    cases f2
    cases f1 with
    | tup sq f => exact ⟨_, _, rfl, .inr ⟨ex_t q.exF sq, k _ H1 ⟨F, M, q.tmp ⟨.tup sq f, t⟩⟩⟩⟩)
/-! ### texts -/
theorem px_join {x : Str} {xs : List Str} {apos : Pos} (ho : Px X o g l (.str x)) (he : Px X e g l d) (hd : Sv X.K l d (xs.map .str)) (hz : (xs.map (·.length)).sum + xs.length * x.length ≤ 16777216)
    (hs : starEach [e] X.env = [(false, eval e X.env)] := by rfl) (hb : attributeBase o "join" X.env (eval o X.env) = eval o X.env := by rfl) (hline : (apos.endLine == pos.line) = true := by rfl) : Px X (.Call (.Attribute o "join" apos) [e] [] pos) g l (.str (Txt.join x xs)) := fun en T σ H Q s k =>
  wpE_of (pe_join pe_wp pe_wp hs hb hline) (by
  refine ho en T σ H _ s fun v H1 s1 => ?_
  obtain ⟨F0, M0, q0⟩ := id s1
  have fv := q0.tm.1
  cases fv
  refine ⟨⟨x, rfl⟩, ?_⟩
  refine he en _ σ H1 _ s1 fun u H2 s2 => ?_
  obtain ⟨F, M, q⟩ := s2
  obtain ⟨a, ws, rfl, sq, f⟩ := hd.get q.exF q.exM q.rs q.tm.1
  have e := f.strs
  subst e
  exact ⟨x, a, xs, rfl, rfl, sq, hz, k _ H2 ⟨F, M, q.tmp ⟨.str _, q.tm.2.2⟩⟩⟩)
theorem ev_split {x y : Str} {apos : Pos} (ho : Px X o g l (.str x)) (he : Px X e g l (.str y)) (hy : (y.length == 0) = false) (hz : x.length + 2 ≤ sizeLine)
    (hs : starEach [e] X.env = [(false, eval e X.env)] := by rfl) (hb : attributeBase o "split" X.env (eval o X.env) = eval o X.env := by rfl) (hline : (apos.endLine == pos.line) = true := by rfl) : EvL X (.Call (.Attribute o "split" apos) [e] [] pos) g l ((Txt.split x y).map .str) :=
  ev_new (pe_split pe_wp pe_wp hs hb hline) fun en T σ H Q s k => by
  refine ho en T σ H _ s fun v H1 s1 => ?_
  obtain ⟨F0, M0, q0⟩ := id s1
  have fv := q0.tm.1
  cases fv
  refine ⟨⟨x, rfl⟩, ?_⟩
  refine he en _ σ H1 _ s1 fun u H2 s2 => ?_
  obtain ⟨F, M, q⟩ := s2
  obtain ⟨f, t⟩ := q.tm
  cases f
  exact ⟨x, y, rfl, rfl, hy, hz, fun p hp => k p _ H2 F M (q.tmp t.2) (FdAll.ofStrs _) hp⟩
theorem px_split {x y : Str} {apos : Pos} (ho : Px X o g l (.str x)) (he : Px X e g l (.str y)) (hy : (y.length == 0) = false) (hz : x.length + 2 ≤ sizeLine)
    (hs : starEach [e] X.env = [(false, eval e X.env)] := by rfl) (hb : attributeBase o "split" X.env (eval o X.env) = eval o X.env := by rfl) (hline : (apos.endLine == pos.line) = true := by rfl) : Px X (.Call (.Attribute o "split" apos) [e] [] pos) g l (.lst ((Txt.split x y).map .str)) := (ev_split ho he hy hz hs hb hline).frz
theorem px_partition {x y : Str} {apos : Pos} (ho : Px X o g l (.str x)) (he : Px X e g l (.str y)) (hy : (y.length == 0) = false) (hz : x.length ≤ sizeLine)
    (hs : starEach [e] X.env = [(false, eval e X.env)] := by rfl) (hb : attributeBase o "partition" X.env (eval o X.env) = eval o X.env := by rfl) (hline : (apos.endLine == pos.line) = true := by rfl) :
    Px X (.Call (.Attribute o "partition" apos) [e] [] pos) g l (.tup [.str (Txt.partition x y).1, .str (Txt.partition x y).2.1, .str (Txt.partition x y).2.2]) := fun en T σ H Q s k =>
  wpE_of (pe_partition pe_wp pe_wp hs hb hline) (by
  refine ho en T σ H _ s fun v H1 s1 => ?_
  obtain ⟨F0, M0, q0⟩ := id s1
  have fv := q0.tm.1
  cases fv
  refine ⟨⟨x, rfl⟩, ?_⟩
  refine he en _ σ H1 _ s1 fun u H2 s2 => ?_
  obtain ⟨F, M, q⟩ := s2
  obtain ⟨f, t⟩ := q.tm
  cases f
  refine ⟨x, y, rfl, rfl, hy, hz, fun p hp => ?_⟩
  have n := New.upd (o := .tup [.str (Txt.partition x y).1, .str (Txt.partition x y).2.1, .str (Txt.partition x y).2.2]) q.exF hp
  exact k _ _ ⟨_, M, (q.new n).tmp ⟨.tup (SqT.of upd_same) (.cons (.str _) (.cons (.str _) (.cons (.str _) .nil))), T.mono n.f t.2⟩⟩)
end
section
variable {K : PySem.W.Frag} {l : List Res} {d d1 d2 : D} {ds es : List D}
theorem Op2.to {r : R2} {a b d d' : D} (h : Op2 K l r a b d) (q : d = d') : Op2 K l r a b d' := q ▸ h
theorem OpN.to {r : List V → Hp → VK → Prop} {as : List D} {d d' : D} (h : OpN K l r as d) (q : d = d') : OpN K l r as d' := q ▸ h
theorem o_intS {x : Str} {n : Int} (h : PySem.intText? x = some n) (hl : x.length ≤ 640) : OpN K l (fun xs H Q => ∃ a n, xs = [.str a] ∧ PySem.intText? a = some n ∧ a.length ≤ 640 ∧ Q (.int n) H) [.str x] (.int n) := fun F M H vs Q eF eM dj rs f k => by
  cases f with
  | cons f1 f2 =>
    cases f2; cases f1
    exact ⟨x, n, rfl, h, hl, k _ F H (.rf eF) (.int _)⟩
/-- a sign in a text -/
theorem o_inX {c : Nat} {z : Str} : Op2 K l (fun x y H Q => ∃ (c : Nat) (z : Str), x = .str ⟨#[c]⟩ ∧ y = .str z ∧ Q (.bl (decide (c ∈ z.cps.toList))) H) (.str ⟨#[c]⟩) (.str z) (.bl (decide (c ∈ z.cps.toList))) := fun F M H v u Q eF eM dj rs f1 f2 k => by
  cases f1; cases f2
  exact ⟨c, z, rfl, rfl, k _ F H (.rf eF) (.bl _)⟩
theorem o_any {bs : List Bool} (h : Lq K l d (bs.map .bl)) : OpN K l (rAny K) [d] (.bl (bs.any id)) := fun F M H vs Q eF eM dj rs f k => by
  cases f with
  | cons f1 f2 =>
    cases f2
    obtain ⟨a, ws, rfl, sq, f⟩ := h.get eF eM rs f1
    have e := f.bls
    subst e
    exact ⟨a, bs, rfl, sq, k _ F H (.rf eF) (.bl _)⟩
theorem o_all {bs : List Bool} (h : Lq K l d (bs.map .bl)) : OpN K l (rAll K) [d] (.bl (bs.all id)) := fun F M H vs Q eF eM dj rs f k => by
  cases f with
  | cons f1 f2 =>
    cases f2
    obtain ⟨a, ws, rfl, sq, f⟩ := h.get eF eM rs f1
    have e := f.bls
    subst e
    exact ⟨a, bs, rfl, sq, k _ F H (.rf eF) (.bl _)⟩
theorem o_sum {ns : List Int} (h : Lq K l d (ns.map .int)) : OpN K l (rSum K) [d] (.int ns.sum) := fun F M H vs Q eF eM dj rs f k => by
  cases f with
  | cons f1 f2 =>
    cases f2
    obtain ⟨a, ws, rfl, sq, f⟩ := h.get eF eM rs f1
    have e := f.ints
    subst e
    exact ⟨a, ns, rfl, sq, k _ F H (.rf eF) (.int _)⟩
/-- the greatest, the least of ints -/
def maxL : List Int → Int
  | [] => 0
  | [a] => a
  | a :: b :: r => max a (maxL (b :: r))
def minL : List Int → Int
  | [] => 0
  | [a] => a
  | a :: b :: r => min a (minL (b :: r))
theorem maxL_le : ∀ {ns : List Int} {y : Int}, y ∈ ns → y ≤ maxL ns
  | [a], y, h => by rw [List.mem_singleton] at h; subst h; exact Int.le_refl _
  | a :: b :: r, y, h => by
    show y ≤ max a (maxL (b :: r))
    rcases List.mem_cons.mp h with rfl | h
    · exact Int.le_max_left _ _
    · exact Int.le_trans (maxL_le h) (Int.le_max_right _ _)
theorem maxL_mem : ∀ {ns : List Int}, ns ≠ [] → maxL ns ∈ ns
  | [], h => absurd rfl h
  | [a], _ => List.mem_singleton.mpr rfl
  | a :: b :: r, _ => by
    show max a (maxL (b :: r)) ∈ _
    have ih := maxL_mem (ns := b :: r) (by simp)
    rw [Int.max_def]
    split
    · exact List.mem_cons_of_mem _ ih
    · exact List.mem_cons_self
theorem minL_le : ∀ {ns : List Int} {y : Int}, y ∈ ns → minL ns ≤ y
  | [a], y, h => by rw [List.mem_singleton] at h; subst h; exact Int.le_refl _
  | a :: b :: r, y, h => by
    show min a (minL (b :: r)) ≤ y
    rcases List.mem_cons.mp h with rfl | h
    · exact Int.min_le_left _ _
    · exact Int.le_trans (Int.min_le_right _ _) (minL_le h)
theorem minL_mem : ∀ {ns : List Int}, ns ≠ [] → minL ns ∈ ns
  | [], h => absurd rfl h
  | [a], _ => List.mem_singleton.mpr rfl
  | a :: b :: r, _ => by
    show min a (minL (b :: r)) ∈ _
    have ih := minL_mem (ns := b :: r) (by simp)
    rw [Int.min_def]
    split
    · exact List.mem_cons_self
    · exact List.mem_cons_of_mem _ ih
theorem o_maxL {ns : List Int} (h : Lq K l d (ns.map .int)) (hn : ns ≠ []) : OpN K l (rMax K) [d] (.int (maxL ns)) := fun F M H vs Q eF eM dj rs f k => by
  cases f with
  | cons f1 f2 =>
    cases f2
    obtain ⟨a, ws, rfl, sq, f⟩ := h.get eF eM rs f1
    have e := f.ints
    subst e
    refine ⟨a, ns, rfl, sq, List.length_pos_iff.mpr hn, fun m hm hy => ?_⟩
    have e : m = maxL ns := Int.le_antisymm (maxL_le hm) (hy _ (maxL_mem hn))
    subst e
    exact k _ F H (.rf eF) (.int _)
theorem o_minL {ns : List Int} (h : Lq K l d (ns.map .int)) (hn : ns ≠ []) : OpN K l (rMin K) [d] (.int (minL ns)) := fun F M H vs Q eF eM dj rs f k => by
  cases f with
  | cons f1 f2 =>
    cases f2
    obtain ⟨a, ws, rfl, sq, f⟩ := h.get eF eM rs f1
    have e := f.ints
    subst e
    refine ⟨a, ns, rfl, sq, List.length_pos_iff.mpr hn, fun m hm hy => ?_⟩
    have e : m = minL ns := Int.le_antisymm (hy _ (minL_mem hn)) (minL_le hm)
    subst e
    exact k _ F H (.rf eF) (.int _)
/-- len of any -/
theorem o_lenV (h : Sv K l d ds) : OpN K l (rLen1 K) [d] (.int ds.length) := fun F M H vs Q eF eM dj rs f k => by
  cases f with
  | cons f1 f2 =>
    cases f2
    obtain ⟨a, ws, rfl, sq, f⟩ := h.get eF eM rs f1
    refine ⟨a, ws, rfl, sq, ?_⟩
    rw [f.length]
    exact k _ F H (.rf eF) (.int _)
/-- an item of any list -/
theorem o_ixV {i : Int} (h : Lq K l d1 ds) (hi : atI ds i = some d) : Op2 K l (rIxL K) d1 (.int i) d := fun F M H v u Q eF eM dj rs f1 f2 k => by
  cases f2
  obtain ⟨a, ws, rfl, sq, f⟩ := h.get eF eM rs f1
  obtain ⟨w, h1, h2⟩ := atI_fd f hi
  exact ⟨_, _, i, w, rfl, rfl, sq, h1, k w F H (.rf eF) h2⟩
/-- == of lists, one owned -/
theorem Lv.dp {F M H : Hp} {v : V} {ps : List PyData} (h : Lv K l d ds) (eF : Ex F H) (eM : Ex M H) (rs : Rs l F M) (f : Fd K F v d) (hp : D.pys ds = some ps) : Dp K H v (.list ps) := by
  obtain ⟨a, vs, rfl, sq, f⟩ := h.get eF eM rs f
  exact .lst (SqL.of sq) (FdAll.dp eF ds f hp)
theorem o_eqV {q : PyData} {ps : List PyData} (hd : Lv K l d1 ds) (h1 : D.pys ds = some ps) (h2 : d2.py = some q) (s1 : SeqAt.shaped (.list ps) = true) (s2 : SeqAt.shaped q = true) : Op2 K l (rEqD K) d1 d2 (.bl (PyData.eqv (.list ps) q)) := fun F M H v u Q eF eM dj rs f1 f2 k =>
  ⟨.list ps, q, hd.dp eF eM rs f1 h1, Fd.dp eF _ f2 h2, s1, s2, k _ F H (.rf eF) (.bl _)⟩
theorem o_neV {q : PyData} {ps : List PyData} (hd : Lv K l d1 ds) (h1 : D.pys ds = some ps) (h2 : d2.py = some q) (s1 : SeqAt.shaped (.list ps) = true) (s2 : SeqAt.shaped q = true) : Op2 K l (rNeD K) d1 d2 (.bl (!PyData.eqv (.list ps) q)) := fun F M H v u Q eF eM dj rs f1 f2 k =>
  ⟨.list ps, q, hd.dp eF eM rs f1 h1, Fd.dp eF _ f2 h2, s1, s2, k _ F H (.rf eF) (.bl _)⟩
end
section
variable {X : Cx} {W : WX} {g g' : Gm} {l l' : List Res} {Φ : Po} {e e2 a b c o : Expr} {es : List Expr} {d d1 d2 d3 : D} {ds ds1 ds2 : List D} {pos p p2 : Pos} {rest : List Stmt}
/-- x.append(e), x an owned list -/
theorem blk_add {k : Nat} {q : Addr} {apos cpos : Pos} (ho : Px X o g l (.adr q)) (he : Px X e g l d) (hk : l[k]? = some (ownL X.K q ds)) (hz : ds.length < sizeLine) (h : Blk X W rest (g) (l.set k (ownL X.K q (ds ++ [d]))) Φ)
    (hp : PS X (.Expr (.Call (.Attribute o "append" apos) [e] [] cpos) pos) (tDrop (tBM X.K "list" rAppend (wpE X o) (tCons (wpE X e) tNil))) := by exact ps_expr (pe_bm PySem.F.plainAttrs_list PySem.F.slot_list_append PySem.F.type_list_append mt_append pe_wp (pa_cons pe_wp pa_nil))) :
    Blk X W (.Expr (.Call (.Attribute o "append" apos) [e] [] cpos) pos :: rest) g l Φ := blk_app ho he hk hz h hp
/-- x += e, ints -/
theorem blk_aug {i : Nat} {x : Str} {m n r : Int} {op : Operator} {f : Int → Int → Int} {pos' : Pos} (hN : X.N.Nodup) (hi : X.N[i]? = some x) (hx : Loc X.env.scope x) (hv : nth g i = some (.int m)) (he : Px X e g l (.int n)) (ho : PIp X op (ipI f)) (hr : f m n = r) (h : Blk X W rest (g.set i (some (.int r))) l Φ)
    (hf : X.fn x = true ∨ X.env.scope.names.lookup x = some .local := by first | exact .inl rfl | exact .inr rfl | assumption) : Blk X W (.AugAssign (.Name x pos') op e pos :: rest) g l Φ := fun en T σ H D s mm => wpS_of (pss_cons (ps_aug hN hi hx pe_wp ho hf) pss_wp) (by
  obtain ⟨F0, M0, q0⟩ := id s
  obtain ⟨v, hv', fv⟩ := q0.sl.nth hv
  cases fv
  refine ⟨.int m, hv', ?_⟩
  refine he en T σ H _ s fun u H1 s1 => ?_
  obtain ⟨F, M, q⟩ := s1
  obtain ⟨f1, t⟩ := q.tm
  cases f1
  refine ⟨m, n, rfl, rfl, ?_⟩
  rw [hr]
  exact h en T (σ.set i (some (.int r))) H1 D ⟨F, M, (q.tmp t).slots (q.sl.set i (.int r))⟩ mm)
/-- a target = e, any target -/
theorem blk_asg {tg : Expr} {gt : TG} {is : List Nat} {es : List D} (he : Px X e g l d) (hg : PG X tg gt) (ht : Tg X.K gt is d es) (h : Blk X W rest (sets g is es) l Φ) (hs : swapsWithSole [tg] e pos.line X.env = pure false := by rfl) (hw : swappedStores [tg] e X.env = pure none := by rfl) (h1 : (assignEach [tg] X.env).map (·.2) = [assign tg X.env] := by rfl) :
    Blk X W (.Assign [tg] e pos :: rest) g l Φ := fun en T σ H D s mm => wpS_of (pss_cons (ps_asg pe_wp hg hs hw h1) pss_wp) (by
  refine he en T σ H _ s fun u H1 s1 => ?_
  obtain ⟨F, M, q⟩ := s1
  obtain ⟨f1, t⟩ := q.tm
  exact ht F H1 u σ _ q.exF f1 fun vs fvs => h en T _ H1 D ⟨F, M, (q.tmp t).slots (q.sl.sets fvs)⟩ mm)
/-- for x in xs, xs an owned list that stays as it is -/
theorem blk_forO {tg iter : Expr} {body : List Stmt} {gt : TG} {is : List Nat} {q : Addr} {kk : Nat} (I : Nat → Gm → List Res → Prop) (hp : PassesOwn (model X.prog X.w) X.A X.env X.xe) (hc : X.calm = true) (hi : Px X iter g l (.adr q)) (hg : PG X tg gt) (h0 : I 0 g l)
    (hk : ∀ i g' l', I i g' l' → l'[kk]? = some (ownL X.K q ds))
    (hs : ∀ i d g' l', ds[i]? = some d → I i g' l' → ∃ es, Tg X.K gt is d es ∧ Blk X W body (sets g' is es) l' { nx := I (i + 1), ct := I (i + 1), bk := fun g2 l2 => Blk X W rest g2 l2 Φ, rt := Φ.rt, ex := Φ.ex })
    (hd : ∀ g' l', I ds.length g' l' → Blk X W rest g' l' Φ) (hf : ∀ x, foldedSetIterable iter X.env x = pure x := by intro _; rfl) : Blk X W (.For tg iter body [] pos :: rest) g l Φ := fun en T σ H D s m => by
  refine wpS_of (pss_cons (ps_for hp hc (pi_list pe_wp) hg pss_wp hf) pss_wp) ?_
  refine hi en T σ H _ s fun v H1 s1 => ?_
  obtain ⟨F0, M0, q0⟩ := s1
  have fv := q0.tm.1
  cases fv
  obtain ⟨vs0, _, hp0⟩ := q0.rs.own (hk 0 g l h0) q0.exM
  refine ⟨q, rfl, ⟨vs0, SqL.of hp0⟩, ?_⟩
  refine ⟨fun i m σ' H' => i + m = ds.length ∧ ∃ g' l', I i g' l' ∧ S X.K en g' T l' σ' H', ⟨ds.length, by simp, g, l, h0, F0, M0, q0.tmp q0.tm.2⟩, fun i n σ' H' hW => ?_⟩
  obtain ⟨em, g', l', hI, F, M, qq⟩ := hW
  obtain ⟨vs, fvs, hq⟩ := qq.rs.own (hk i g' l' hI) qq.exM
  cases n with
  | zero =>
    have e : i = ds.length := by omega
    subst e
    exact .inl ⟨⟨vs, SqL.of hq, by rw [fvs.length]; exact Nat.le_refl _⟩, hd g' l' hI en T σ' H' D ⟨F, M, qq⟩ m⟩
  | succ n =>
    have hi : i < ds.length := by omega
    have hi' : i < vs.length := by rw [fvs.length]; exact hi
    refine .inr ⟨⟨vs, vs[i], SqL.of hq, List.getElem?_eq_getElem hi'⟩, fun σ2 H2 => ∃ g2 l2, I (i + 1) g2 l2 ∧ S X.K en g2 T l2 σ2 H2, fun σ2 H2 ⟨g2, l2, h1, h2⟩ => ⟨n, by omega, by omega, g2, l2, h1, h2⟩, fun x H2 hy => ?_⟩
    obtain ⟨rfl, hx⟩ := hy
    have hx := hx vs (SqL.of hq)
    obtain ⟨w, h1, h2⟩ := fvs.get (List.getElem?_eq_getElem hi)
    rw [hx] at h1
    cases h1
    obtain ⟨es, htg, hb⟩ := hs i ds[i] g' l' (List.getElem?_eq_getElem hi) hI
    refine htg F _ x σ' _ qq.exF h2 fun vs fvs => ?_
    exact hb en T _ _ _ ⟨F, M, qq.slots (qq.sl.sets fvs)⟩ ⟨fun g2 l2 σ2 H2 h s2 => ⟨g2, l2, h, s2⟩, m.rt, fun g2 l2 σ2 H2 h s2 => h en T σ2 H2 D s2 m, fun g2 l2 σ2 H2 h s2 => ⟨g2, l2, h, s2⟩, m.ex⟩
end
end Sx
set_option Elab.async false
set_option linter.all false
set_option maxRecDepth 100000
set_option maxHeartbeats 2000000
/-! == of data that are alike. -/
namespace Sx
open PySem L2
theorem Dj.r' {A B C : Hp} (h : Dj C (join A B)) : Dj C B := fun x o e => (join_none (h x o e)).2
theorem nth_set : ∀ {g : Gm} {i : Nat} {d : D}, i < g.length → nth (g.set i (some d)) i = some d
  | [], _, _, h => absurd h (Nat.not_lt_zero _)
  | o :: _, 0, d, _ => by cases o <;> rfl
  | o :: g, i + 1, d, h => by
    have := nth_set (g := g) (i := i) (d := d) (Nat.lt_of_succ_lt_succ h)
    cases o <;> exact this
/-- a datum of plain things, at most k deep -/
def Dp' (k : Nat) (d : D) : Prop := ∃ p, d.py = some p ∧ p.canLay0 = true ∧ p.depth ≤ k
theorem Dp'.non {k : Nat} : Dp' k .non := ⟨_, rfl, rfl, Nat.zero_le _⟩
theorem Dp'.bl {k : Nat} {b : Bool} : Dp' k (.bl b) := ⟨_, rfl, rfl, Nat.zero_le _⟩
theorem Dp'.int {k : Nat} {i : Int} : Dp' k (.int i) := ⟨_, rfl, rfl, Nat.zero_le _⟩
theorem Dp'.str {k : Nat} {x : Str} (h : PySem.PyData.strOk x = true := by decide +kernel) : Dp' k (.str x) := ⟨_, rfl, h, Nat.zero_le _⟩
theorem Dp'.all {k : Nat} : ∀ {ds : List D}, (∀ d ∈ ds, Dp' k d) → ∃ ps, D.pys ds = some ps ∧ PyData.canLayAll0 ps = true ∧ PyData.depthAll ps ≤ k
  | [], _ => ⟨[], rfl, rfl, Nat.zero_le _⟩
  | d :: r, h => by
    obtain ⟨p, h1, h2, h3⟩ := h d List.mem_cons_self
    obtain ⟨ps, h4, h5, h6⟩ := Dp'.all (ds := r) fun z hz => h z (List.mem_cons_of_mem _ hz)
    refine ⟨p :: ps, ?_, ?_, ?_⟩
    · show (D.py d).bind (fun a => (D.pys r).map fun b => a :: b) = _
      rw [h1, h4]
      rfl
    · show (PyData.canLay0 p && PyData.canLayAll0 ps) = true
      rw [h2, h5]
      rfl
    · show max (PyData.depth p) (PyData.depthAll ps) ≤ k
      exact Nat.max_le.mpr ⟨h3, h6⟩
theorem Dp'.lst {k : Nat} {ds : List D} (h : ∀ d ∈ ds, Dp' k d) : Dp' (k + 1) (.lst ds) := by
  obtain ⟨ps, h1, h2, h3⟩ := Dp'.all h
  refine ⟨.list ps, ?_, h2, Nat.succ_le_succ h3⟩
  show (D.pys ds).map PyData.list = _
  rw [h1]
  rfl
theorem Dp'.tup {k : Nat} {ds : List D} (h : ∀ d ∈ ds, Dp' k d) : Dp' (k + 1) (.tup ds) := by
  obtain ⟨ps, h1, h2, h3⟩ := Dp'.all h
  refine ⟨.tuple ps, ?_, h2, Nat.succ_le_succ h3⟩
  show (D.pys ds).map PyData.tuple = _
  rw [h1]
  rfl
theorem Dp'.mono {j k : Nat} {d : D} (h : Dp' j d) (e : j ≤ k) : Dp' k d := let ⟨p, h1, h2, h3⟩ := h; ⟨p, h1, h2, Nat.le_trans h3 e⟩
theorem Dp'.ints {k : Nat} {ns : List Int} : ∀ d ∈ ns.map D.int, Dp' k d := fun d h => by
  obtain ⟨n, _, rfl⟩ := List.mem_map.mp h
  exact .int
theorem Dp'.strs {k : Nat} {ns : List Str} (h : ∀ n ∈ ns, PySem.PyData.strOk n = true) : ∀ d ∈ ns.map D.str, Dp' k d := fun d hd => by
  obtain ⟨n, hn, rfl⟩ := List.mem_map.mp hd
  exact .str (h n hn)
section
variable {K : PySem.W.Frag} {l : List Res} {d d1 d2 : D} {ds es : List D} {k : Nat}
theorem shaped_of {p : PyData} (h1 : p.canLay0 = true) (h2 : p.depth ≤ k) (h3 : k ≤ 64) : SeqAt.shaped p = true := by
  show (p.canLay0 && decide (p.depth ≤ 64)) = true
  rw [h1, decide_eq_true (Nat.le_trans h2 h3)]
  rfl
theorem o_eqR (h : Dp' k d) (hk : k ≤ 64 := by decide) : Op2 K l (rEqD K) d d (.bl true) := by
  obtain ⟨p, h1, h2, h3⟩ := h
  exact (o_eqD h1 h1 (shaped_of h2 h3 hk) (shaped_of h2 h3 hk)).to (congrArg D.bl (PySem.SeqAt.eqv_refl p h2))
theorem o_neR (h : Dp' k d) (hk : k ≤ 64 := by decide) : Op2 K l (rNeD K) d d (.bl false) := by
  obtain ⟨p, h1, h2, h3⟩ := h
  refine (o_neD h1 h1 (shaped_of h2 h3 hk) (shaped_of h2 h3 hk)).to (congrArg D.bl ?_)
  rw [PySem.SeqAt.eqv_refl p h2]
  rfl
theorem o_eqW (hd : Lv K l d1 ds) (h : Dp' k (.lst ds)) (hk : k ≤ 64 := by decide) : Op2 K l (rEqD K) d1 (.lst ds) (.bl true) := by
  obtain ⟨p, h1, h2, h3⟩ := h
  have h1' := h1
  unfold D.py at h1'
  obtain ⟨ps, h4, rfl⟩ := Option.map_eq_some_iff.mp h1'
  exact (o_eqV hd h4 h1 (shaped_of h2 h3 hk) (shaped_of h2 h3 hk)).to (congrArg D.bl (PySem.SeqAt.eqv_refl _ h2))
theorem o_neW (hd : Lv K l d1 ds) (h : Dp' k (.lst ds)) (hk : k ≤ 64 := by decide) : Op2 K l (rNeD K) d1 (.lst ds) (.bl false) := by
  obtain ⟨p, h1, h2, h3⟩ := h
  have h1' := h1
  unfold D.py at h1'
  obtain ⟨ps, h4, rfl⟩ := Option.map_eq_some_iff.mp h1'
  refine (o_neV hd h4 h1 (shaped_of h2 h3 hk) (shaped_of h2 h3 hk)).to (congrArg D.bl ?_)
  rw [PySem.SeqAt.eqv_refl _ h2]
  rfl
end
section
variable {X : Cx} {W : WX} {g : Gm} {l l' : List Res} {Φ : Po}
/-- what is owned is given up -/
theorem S.dropO {K : PySem.W.Frag} {en : En} {T : Tm} {σ : L2.St} {H : Hp} (s : S K en g T (l' ++ l) σ H) : S K en g T l σ H := by
  obtain ⟨F, M, a⟩ := s
  obtain ⟨A, B, rfl, dj, r1, r2⟩ := a.rs.split
  exact ⟨F, B, a.exF, a.exM.joinR dj, Dj.r' a.dj, a.eF, a.nF, fun x o h => a.nM x o (by rw [join_r (dj.sym x o h)]; exact h), a.fr, a.sl, a.tm, r2⟩
theorem Blk.dropO {sts : List Stmt} (h : Blk X W sts g l Φ) : Blk X W sts g (l' ++ l) Φ := fun en T σ H D s m => h en T σ H D s.dropO m
theorem blk_frzAll {sts : List Stmt} (h : Blk X W sts g [] Φ) : Blk X W sts g l Φ := fun en T σ H D s m => h en T σ H D (S.dropO (l' := l) (by rw [List.append_nil]; exact s)) m
/-- x = [..] on one line, the list not changed behind it -/
theorem Blk.frz' {sts : List Stmt} {p : Addr} {ds : List D} {i : Nat} (hi : i < g.length) (k : Blk X W sts (g.set i (some (.lst ds))) l Φ) : Blk X W sts (g.set i (some (.adr p))) (ownL X.K p ds :: l) Φ := by
  refine Blk.frz (i := i) ?_ ?_
  · exact nth_set hi
  · rw [List.set_set]
    exact k
variable {rest : List Stmt} {pos : Pos} {c : Expr}
theorem blk_setLc {tg iter elt : Expr} {scope : Scope} {own : List (Str × Nat)} {lk : List Res} {gt : TG} {is : List Nat} {ds rs : List D} {i : Nat} {y : Str} {py spos : Pos} (hN : X.N.Nodup) (hy : X.N[i]? = some y) (hyl : X.env.scope.names.lookup y = some .local) (hil : i < g.length) (hc : X.calm = true)
    (hi : ItwP X tg iter g l lk ds) (ok : BlkOk X.N X.env.scope scope own)
    (hg : Blkc X scope fun Y => PG Y tg gt) (his : ∀ i ∈ is, i ∈ own.map (·.2)) (hlen : rs.length = ds.length) (hz : rs.length ≤ sizeLine)
    (hs : ∀ (i : Nat) (d : D), ds[i]? = some d → ∃ es r, Tg X.K gt is d es ∧ rs[i]? = some r ∧ Blkc X scope fun Y => Px Y elt (sets (wipeG g (own.map (·.2))) is es) l r)
    (h : Blk X W rest (g.set i (some (.lst rs))) l Φ) (hsw : swapsWith (.ListComp elt [⟨tg, iter, [], 0⟩] scope pos) (some (.Name y py)) spos.line X.env = pure true := by rfl) (hf : ∀ x, foldedSetIterable iter X.env x = pure x := by intro _; rfl) (hk : SubR l lk := by first | exact subr0 | exact subr1 0 rfl | exact subr1 1 rfl | exact subr1 2 rfl | exact subr1 3 rfl | exact subr1 4 rfl | exact subr1 5 rfl | exact subr2 0 0 rfl rfl | exact subr2 1 0 rfl rfl | exact subr2 0 1 rfl rfl | exact subr2 1 1 rfl rfl | exact subr2 2 0 rfl rfl | exact subr2 2 1 rfl rfl) : Blk X W (.Assign [.Name y py] (.ListComp elt [⟨tg, iter, [], 0⟩] scope pos) spos :: rest) g l Φ :=
  blk_setLcO hc hN hy hyl hsw hi ok hg his hlen hz hs (fun p => Blk.frz' hil h) hf hk
theorem blk_setLcIf {tg iter elt : Expr} {scope : Scope} {own : List (Str × Nat)} {lk : List Res} {gt : TG} {is : List Nat} {ds : List D} {rs : List (Option D)} {i : Nat} {y : Str} {py spos : Pos} (hN : X.N.Nodup) (hy : X.N[i]? = some y) (hyl : X.env.scope.names.lookup y = some .local) (hil : i < g.length) (hc : X.calm = true)
    (hi : ItwP X tg iter g l lk ds) (ok : BlkOk X.N X.env.scope scope own)
    (hg : Blkc X scope fun Y => PG Y tg gt) (his : ∀ i ∈ is, i ∈ own.map (·.2)) (hlen : rs.length = ds.length) (hz : rs.length ≤ sizeLine)
    (hs : ∀ (i : Nat) (d : D), ds[i]? = some d → ∃ es k r, Tg X.K gt is d es ∧ rs[i]? = some (if k = true then some r else none) ∧ (Blkc X scope fun Y => Ts Y c (sets (wipeG g (own.map (·.2))) is es) l k) ∧ (k = true → Blkc X scope fun Y => Px Y elt (sets (wipeG g (own.map (·.2))) is es) l r))
    (h : Blk X W rest (g.set i (some (.lst (keepL rs)))) l Φ) (hsw : swapsWith (.ListComp elt [⟨tg, iter, [c], 0⟩] scope pos) (some (.Name y py)) spos.line X.env = pure true := by rfl) (hf : ∀ x, foldedSetIterable iter X.env x = pure x := by intro _; rfl) (hk : SubR l lk := by first | exact subr0 | exact subr1 0 rfl | exact subr1 1 rfl | exact subr1 2 rfl | exact subr1 3 rfl | exact subr1 4 rfl | exact subr1 5 rfl | exact subr2 0 0 rfl rfl | exact subr2 1 0 rfl rfl | exact subr2 0 1 rfl rfl | exact subr2 1 1 rfl rfl | exact subr2 2 0 rfl rfl | exact subr2 2 1 rfl rfl) : Blk X W (.Assign [.Name y py] (.ListComp elt [⟨tg, iter, [c], 0⟩] scope pos) spos :: rest) g l Φ :=
  blk_setLcIfO hc hN hy hyl hsw hi ok hg his hlen hz hs (fun p => Blk.frz' hil h) hf hk
/-- a call of a def that takes nothing owned -/
theorem ev_callV {α : Type} {ok : α → Prop} {args : α → List D} {post : α → D → List Res → Prop} {x : Str} {ps : List Str} {k j : Nat} {e : Expr} {es : List Expr} {p : Pos}
    (G : Glo X.prog X.w X.K X.mg X.base k x ps (FnX X.K ok args (fun _ => []) post noE)) (hr : Room j X.A) (hj : k ≤ j) (a : α) (hok : ok a) (ha : Pa X (e :: es) g l (args a))
    (hg : Gl X x := by rfl) (hdb : (x == ("__debug__" : Str)) = false := by decide) (he : starEach (e :: es) X.env = (false, eval e X.env) :: starEach es X.env := by rfl) (hpl : (backTo pos (starEach es X.env)).any (·.1) = false := by rfl) :
    Ev X (.Call (.Name x p) (e :: es) [] pos) g l (fun d l2 => ∃ l', post a d l' ∧ l2 = l' ++ l) :=
  ev_call (lr := l) (own := fun _ => []) G hr hj a hok ha (fun d l' h => ⟨l', h, rfl⟩) hg hdb he hpl
end
end Sx
set_option Elab.async false
set_option linter.all false
set_option maxRecDepth 100000
set_option maxHeartbeats 2000000
/-! Slices with a step; dicts. -/
namespace Sx
open PySem L2 PyProof.Rows
/-! ### slices with a step -/
def pickN {α : Type} (xs : List α) (js : List Nat) : List α := js.filterMap (xs[·]?)
theorem pickN_cons {α : Type} (xs : List α) (j : Nat) (js : List Nat) : pickN xs (j :: js) = (match xs[j]? with | some x => [x] | none => []) ++ pickN xs js := by
  unfold pickN
  rw [List.filterMap_cons]
  cases xs[j]? <;> rfl
theorem pickN_map {α β : Type} (f : α → β) (xs : List α) : ∀ js, pickN (xs.map f) js = (pickN xs js).map f
  | [] => rfl
  | j :: js => by
    rw [pickN_cons, pickN_cons, pickN_map f xs js, List.getElem?_map, List.map_append]
    cases xs[j]? <;> rfl
theorem pickN_len {α : Type} (xs : List α) (js : List Nat) : (pickN xs js).length ≤ js.length := List.length_filterMap_le _ _
theorem pickN_mem {α : Type} {xs : List α} {js : List Nat} {x : α} (h : x ∈ pickN xs js) : x ∈ xs := by
  unfold pickN at h
  obtain ⟨j, _, e⟩ := List.mem_filterMap.mp h
  exact List.mem_of_getElem? e
theorem vals_get : ∀ {vs : List V} {us : List Value} (j : Nat), Vals vs us → (vs[j]? = none ∧ us[j]? = none) ∨ ∃ v u, vs[j]? = some v ∧ us[j]? = some u ∧ RelV v u
  | _, _, _, .nil => .inl ⟨rfl, rfl⟩
  | _, _, 0, .cons r _ => .inr ⟨_, _, rfl, rfl, r⟩
  | _, _, j + 1, .cons _ t => by
    rcases vals_get j t with ⟨h1, h2⟩ | ⟨v, u, h1, h2, h3⟩
    · exact .inl ⟨by rw [List.getElem?_cons_succ]; exact h1, by rw [List.getElem?_cons_succ]; exact h2⟩
    · exact .inr ⟨v, u, by rw [List.getElem?_cons_succ]; exact h1, by rw [List.getElem?_cons_succ]; exact h2, h3⟩
theorem vals_pick {vs : List V} {us : List Value} (h : Vals vs us) : ∀ js, Vals (pickN vs js) (pickN us js)
  | [] => .nil
  | j :: js => by
    rw [pickN_cons, pickN_cons]
    have ih := vals_pick h js
    rcases vals_get j h with ⟨h1, h2⟩ | ⟨v, u, h1, h2, h3⟩
    · rw [h1, h2]; exact ih
    · rw [h1, h2]; exact .cons h3 ih
theorem FdAll.pick {K : PySem.W.Frag} {F : Hp} {vs : List V} {ds : List D} (h : FdAll K F vs ds) : ∀ js, FdAll K F (pickN vs js) (pickN ds js)
  | [] => .nil
  | j :: js => by
    rw [pickN_cons, pickN_cons]
    have ih := FdAll.pick h js
    cases e : ds[j]? with
    | none =>
      have : vs[j]? = none := by
        rw [List.getElem?_eq_none_iff] at e ⊢
        rw [h.length]; exact e
      rw [this]; exact ih
    | some d =>
      obtain ⟨v, h1, h2⟩ := h.get e
      rw [h1]; exact .cons h2 ih
/-- which places xs[lo:hi:st] takes -/
def places (n : Nat) (lo hi st : Option Int) : List Nat := let b := sliceBounds lo hi st n; sliceRange b.1 b.2.1 b.2.2
theorem stride_at {xs : List Value} {lo hi st : Option Int} : slicePick xs.toArray lo hi st = (pickN xs (places xs.length lo hi st)).toArray := by
  unfold slicePick pickN places
  rw [List.size_toArray]
  congr 2
  funext j
  rw [List.getElem?_toArray]
/-- at most so many -/
theorem places_len {n : Nat} {lo hi st : Int} (h1 : 0 ≤ lo) (h2 : lo ≤ hi) (h3 : 0 < st) : (places n (some lo) (some hi) (some st)).length ≤ ((hi - lo + st - 1) / st).toNat := by
  unfold places sliceBounds
  simp only [Option.getD_some, if_pos h3, show ¬ lo < 0 by omega, show ¬ hi < 0 by omega, if_false]
  unfold sliceRange
  rw [List.length_map, List.length_range, if_pos h3]
  split
  · have : (max 0 (min hi (n : Int)) - max 0 (min lo (n : Int)) + st - 1) / st ≤ (hi - lo + st - 1) / st := Int.ediv_le_ediv h3 (by omega)
    omega
  · show (0 : Int).toNat ≤ _
    exact Nat.zero_le _
section
variable {X : Cx} {W : WX} {g g' : Gm} {l l' : List Res} {Φ : Po} {e e2 a b c o v : Expr} {es : List Expr} {d d1 d2 d3 : D} {ds ds1 ds2 : List D} {pos p p2 : Pos} {rest : List Stmt}
def tStride (K : PySem.W.Frag) (te : TE) (tl th ts : TO) : TE := fun σ H Q => te σ H fun x H1 => tl σ H1 fun i H2 => th σ H2 fun j H3 => ts σ H3 fun k H4 => k ≠ some 0 ∧ ∃ q xs, x = .ref q ∧ SqL K H4 q xs ∧ ((pickN xs (places xs.length i j k)).length ≤ sizeLine) ∧ ∀ r, H4 r = none → Q (.ref r) (upd H4 r (.lst (pickN xs (places xs.length i j k))))
theorem pe_stride {te : TE} {tl th ts : TO} {lo hi : Option Expr} {st : Expr} (he : PE X e te) (hl : PO X lo tl) (hu : PO X hi th) (hk : PO X (some st) ts) (hx : ∀ (x y : Value), subscripted (.Slice lo hi (some st) p2) false x y = operate [x, y] (getItem x y) := by intros; with_unfolding_all rfl) :
    PE X (.Subscript e (.Slice lo hi (some st) p2) pos) (tStride X.K te tl th ts) := by
  refine ⟨fun pins t0 σ H Q I h => ?_⟩
  refine Subscript_ (thn (he.run pins t0 σ H _ I h) fun w t1 ⟨x, H1, I1, r1, q1⟩ => ?_)
  refine wpAny_Slice ?_
  refine thn (hl.run pins t1 σ H1 _ I1 q1) fun vi t2 ⟨i, H2, I2, pi, q2⟩ => ?_
  refine thn (hu.run pins t2 σ H2 _ I2 q2) fun vj t3 ⟨j, H3, I3, pj, q3⟩ => ?_
  refine thn (hk.run pins t3 σ H3 _ I3 q3) fun vk t4 ⟨k, H4, I4, pk, nz, q, xs, ex, sq, hz, q4⟩ => ?_
  subst ex
  cases r1
  have J : Inv X pins σ H4 { t4 with heap := t4.heap.push { cls := .type "slice", data := .fields #[vi, vj, vk] } } := I4.kept (t' := t4.toks) fun _ _ z => Heap.get?_push_of_some _ z
  obtain ⟨us, rv, ht, hw⟩ := J.list sq
  have hlen := rv.length
  refine tail_any (T := "list") (id := "list.__getitem__") (ops := [.ref q, .ref t4.heap.objs.size]) ht.isList.typeIs slot_list_getitem.lookup ?_ (hx _ _)
  refine wpAny_getItem_list_slice ht.isList (Heap.IsSliceOf.new ..) pi pj pk nz ?_ (by rw [List.size_toArray] <;> omega)
  rw [stride_at, ← hlen]
  refine ⟨.ref _, _, J.laid (t' := t4.toks) (o := .lst (pickN xs (places xs.length i j k))) (fun _ _ z => Heap.get?_push_of_some _ z) (Nat.le_refl _) ?_, rfl, q4 _ (J.hok.fresh (Nat.le_refl _))⟩
  exact ⟨hz, _, 0, vals_pick rv _, Heap.get?_push_size _ rfl⟩
theorem ev_stride {lo hi : Option Expr} {st : Expr} {i j k : Option Int} (ho : Px X o g l d) (hd : Lq X.K l d ds) (hl : Pz X lo g l i) (hu : Pz X hi g l j) (hs : Pz X (some st) g l k) (hn : k ≠ some 0) (hz : (pickN ds (places ds.length i j k)).length ≤ sizeLine)
    (hx : ∀ (x y : Value), subscripted (.Slice lo hi (some st) p2) false x y = operate [x, y] (getItem x y) := by intros; with_unfolding_all rfl) : EvL X (.Subscript o (.Slice lo hi (some st) p2) pos) g l (pickN ds (places ds.length i j k)) := by
  obtain ⟨tl, pl, hl⟩ := hl
  obtain ⟨tu, pu, hu⟩ := hu
  obtain ⟨ts, ps, hs⟩ := hs
  refine ev_new (pe_stride pe_wp pl pu ps hx) fun en T σ H Q s kk => ?_
  refine ho en T σ H _ s fun v H1 s1 => ?_
  refine hl en _ σ H1 _ s1 fun H2 s2 => ?_
  refine hu en _ σ H2 _ s2 fun H3 s3 => ?_
  refine hs en _ σ H3 _ s3 fun H4 s4 => ?_
  obtain ⟨F, M, q⟩ := s4
  obtain ⟨a, vs, rfl, sq, f⟩ := hd.get q.exF q.exM q.rs q.tm.1
  refine ⟨hn, a, vs, rfl, sq, ?_, fun p hp => ?_⟩
  · rw [f.length, (f.pick _).length]; exact hz
  · rw [f.length]
    exact kk p _ H4 F M (q.tmp q.tm.2) (f.pick _) hp
/-! ### dicts -/
def valD {κ : Type} [DecidableEq κ] (kvs : List (κ × D)) (k : κ) : Option D := (kvs.find? fun kv => decide (kv.1 = k)).map (·.2)
def putKD {κ : Type} [DecidableEq κ] (kvs : List (κ × D)) (k : κ) (d : D) : List (κ × D) :=
  if (kvs.any fun kv => decide (kv.1 = k)) = true then kvs.map (fun kv => if kv.1 = k then (kv.1, d) else kv) else kvs ++ [(k, d)]
section
variable {K : PySem.W.Frag} {F : Hp} {κ : Type} [DecidableEq κ]
theorem FdFs.valV {k : κ} {d : D} : ∀ {vs : List (κ × V)} {kvs : List (κ × D)}, FdFs K F vs kvs → valD kvs k = some d → ∃ v, L2.valV vs k = some v ∧ Fd K F v d
  | _, _, .nil, h => by cases h
  | (n, v) :: vs, (_, d') :: kvs, .cons a b, h => by
    unfold valD at h
    unfold L2.valV
    rw [List.find?_cons] at h ⊢
    by_cases e : n = k
    · rw [decide_eq_true e] at h ⊢
      cases h
      exact ⟨v, rfl, a⟩
    · rw [decide_eq_false e] at h ⊢
      exact FdFs.valV b h
theorem FdFs.noV {k : κ} : ∀ {vs : List (κ × V)} {kvs : List (κ × D)}, FdFs K F vs kvs → valD kvs k = none → L2.valV vs k = none
  | _, _, .nil, h => rfl
  | (n, v) :: vs, (_, d') :: kvs, .cons a b, h => by
    unfold valD at h
    unfold L2.valV
    rw [List.find?_cons] at h ⊢
    by_cases e : n = k
    · rw [decide_eq_true e] at h
      cases h
    · rw [decide_eq_false e] at h ⊢
      exact FdFs.noV b h
theorem FdFs.anyK {k : κ} : ∀ {vs : List (κ × V)} {kvs : List (κ × D)}, FdFs K F vs kvs → (vs.any fun kv => decide (kv.1 = k)) = kvs.any fun kv => decide (kv.1 = k)
  | _, _, .nil => rfl
  | (n, v) :: vs, (_, d') :: kvs, .cons a b => by
    rw [List.any_cons, List.any_cons, FdFs.anyK b]
theorem FdFs.mapK {k : κ} {v : V} {d : D} (h : Fd K F v d) : ∀ {vs : List (κ × V)} {kvs : List (κ × D)}, FdFs K F vs kvs → FdFs K F (vs.map (fun kv => if kv.1 = k then (kv.1, v) else kv)) (kvs.map fun kv => if kv.1 = k then (kv.1, d) else kv)
  | _, _, .nil => .nil
  | (n, v') :: vs, (_, d') :: kvs, .cons a b => by
    rw [List.map_cons, List.map_cons]
    by_cases e : n = k
    · show FdFs K F ((if n = k then (n, v) else (n, v')) :: _) ((if n = k then (n, d) else (n, d')) :: _)
      rw [if_pos e, if_pos e]
      exact .cons h (FdFs.mapK h b)
    · show FdFs K F ((if n = k then (n, v) else (n, v')) :: _) ((if n = k then (n, d) else (n, d')) :: _)
      rw [if_neg e, if_neg e]
      exact .cons a (FdFs.mapK h b)
theorem FdFs.app1 {k : κ} {v : V} {d : D} (h : Fd K F v d) : ∀ {vs : List (κ × V)} {kvs : List (κ × D)}, FdFs K F vs kvs → FdFs K F (vs ++ [(k, v)]) (kvs ++ [(k, d)])
  | _, _, .nil => .cons h .nil
  | _, _, .cons a b => .cons a (FdFs.app1 h b)
theorem FdFs.putK {k : κ} {v : V} {d : D} {vs : List (κ × V)} {kvs : List (κ × D)} (f : FdFs K F vs kvs) (h : Fd K F v d) : FdFs K F (L2.putK vs k v) (putKD kvs k d) := by
  unfold L2.putK putKD
  rw [f.anyK]
  split
  · exact f.mapK h
  · exact f.app1 h
end
def ownD (K : PySem.W.Frag) (p : Addr) (kvs : List (Key × D)) : Res := ⟨fun F M => ∃ vs, FdFs K F vs kvs ∧ M = one p (.dK vs), fun e ⟨vs, h, m⟩ => ⟨vs, FdFs.mono e _ h, m⟩, fun ⟨_, _, m⟩ x xs e => by rw [m] at e; obtain ⟨_, e⟩ := one_some e; cases e⟩
def ownT (K : PySem.W.Frag) (p : Addr) (kvs : List (List Key × D)) : Res := ⟨fun F M => ∃ vs, FdFs K F vs kvs ∧ M = one p (.dT vs), fun e ⟨vs, h, m⟩ => ⟨vs, FdFs.mono e _ h, m⟩, fun ⟨_, _, m⟩ x xs e => by rw [m] at e; obtain ⟨_, e⟩ := one_some e; cases e⟩
/-- .. while it is walked over -/
def ownDz (K : PySem.W.Frag) (p : Addr) (od : Obj) (vs : List (Key × V)) (kvs : List (Key × D)) : Res := ⟨fun F M => FdFs K F vs kvs ∧ M = one p (.frz od (.dK vs)), fun e ⟨h, m⟩ => ⟨FdFs.mono e _ h, m⟩, fun ⟨_, m⟩ x xs e => by rw [m] at e; obtain ⟨_, e⟩ := one_some e; cases e⟩
def ownTz (K : PySem.W.Frag) (p : Addr) (od : Obj) (vs : List (List Key × V)) (kvs : List (List Key × D)) : Res := ⟨fun F M => FdFs K F vs kvs ∧ M = one p (.frz od (.dT vs)), fun e ⟨h, m⟩ => ⟨FdFs.mono e _ h, m⟩, fun ⟨_, m⟩ x xs e => by rw [m] at e; obtain ⟨_, e⟩ := one_some e; cases e⟩
/-- a dict with single keys: frozen or owned | .. with tuples as keys -/
inductive Dv (K : PySem.W.Frag) (l : List Res) : D → List (Key × D) → Prop
  | f {kvs : List (Key × D)} : Dv K l (.dK kvs) kvs
  | o {k : Nat} {p : Addr} {kvs : List (Key × D)} (h : l[k]? = some (ownD K p kvs)) : Dv K l (.adr p) kvs
  | z {k : Nat} {p : Addr} {od : Obj} {vs : List (Key × V)} {kvs : List (Key × D)} (h : l[k]? = some (ownDz K p od vs kvs)) : Dv K l (.adr p) kvs
inductive Du (K : PySem.W.Frag) (l : List Res) : D → List (Key × D) → Prop
  | f {kvs : List (Key × D)} : Du K l (.dK kvs) kvs
  | o {k : Nat} {p : Addr} {kvs : List (Key × D)} (h : l[k]? = some (ownD K p kvs)) : Du K l (.adr p) kvs
inductive Dw (K : PySem.W.Frag) (l : List Res) : D → List (List Key × D) → Prop
  | f {kvs : List (List Key × D)} : Dw K l (.dT kvs) kvs
  | o {k : Nat} {p : Addr} {kvs : List (List Key × D)} (h : l[k]? = some (ownT K p kvs)) : Dw K l (.adr p) kvs
  | z {k : Nat} {p : Addr} {od : Obj} {vs : List (List Key × V)} {kvs : List (List Key × D)} (h : l[k]? = some (ownTz K p od vs kvs)) : Dw K l (.adr p) kvs
section
variable {K : PySem.W.Frag} {F M H : Hp} {v : V}
theorem Rs.ownD {k : Nat} {p : Addr} {kvs : List (Key × D)} (h : Rs l F M) (e : l[k]? = some (ownD K p kvs)) (m : Ex M H) : ∃ vs, FdFs K F vs kvs ∧ H p = some (.dK vs) := by
  obtain ⟨A, B, rfl, dj, ⟨vs, f, rfl⟩, _⟩ := Rs.at e h
  exact ⟨vs, f, m p _ (join_l one_same)⟩
theorem Rs.ownT {k : Nat} {p : Addr} {kvs : List (List Key × D)} (h : Rs l F M) (e : l[k]? = some (ownT K p kvs)) (m : Ex M H) : ∃ vs, FdFs K F vs kvs ∧ H p = some (.dT vs) := by
  obtain ⟨A, B, rfl, dj, ⟨vs, f, rfl⟩, _⟩ := Rs.at e h
  exact ⟨vs, f, m p _ (join_l one_same)⟩
theorem Du.get {kvs : List (Key × D)} (h : Du K l d kvs) (eF : Ex F H) (eM : Ex M H) (rs : Rs l F M) (f : Fd K F v d) : ∃ a vs, v = .ref a ∧ H a = some (.dK vs) ∧ FdFs K F vs kvs := by
  cases h with
  | f => cases f with | dK s a => exact ⟨_, _, rfl, eF _ _ s, a⟩
  | o h =>
    cases f
    obtain ⟨vs, f, hp⟩ := rs.ownD h eM
    exact ⟨_, vs, rfl, hp, f⟩
theorem Rs.ownDz {k : Nat} {p : Addr} {od : Obj} {vs : List (Key × V)} {kvs : List (Key × D)} (h : Rs l F M) (e : l[k]? = some (ownDz K p od vs kvs)) (m : Ex M H) : FdFs K F vs kvs ∧ H p = some (.frz od (.dK vs)) := by
  obtain ⟨A, B, rfl, dj, ⟨f, rfl⟩, _⟩ := Rs.at e h
  exact ⟨f, m p _ (join_l one_same)⟩
theorem Dv.get {kvs : List (Key × D)} (h : Dv K l d kvs) (eF : Ex F H) (eM : Ex M H) (rs : Rs l F M) (f : Fd K F v d) : ∃ a vs, v = .ref a ∧ Rd H a (.dK vs) ∧ FdFs K F vs kvs := by
  cases h with
  | f => cases f with | dK s a => exact ⟨_, _, rfl, .inl (eF _ _ s), a⟩
  | o h =>
    cases f
    obtain ⟨vs, f, hp⟩ := rs.ownD h eM
    exact ⟨_, vs, rfl, .inl hp, f⟩
  | z h =>
    cases f
    obtain ⟨f, hp⟩ := rs.ownDz h eM
    exact ⟨_, _, rfl, .inr ⟨_, hp⟩, f⟩
theorem Rs.ownTz {k : Nat} {p : Addr} {od : Obj} {vs : List (List Key × V)} {kvs : List (List Key × D)} (h : Rs l F M) (e : l[k]? = some (ownTz K p od vs kvs)) (m : Ex M H) : FdFs K F vs kvs ∧ H p = some (.frz od (.dT vs)) := by
  obtain ⟨A, B, rfl, dj, ⟨f, rfl⟩, _⟩ := Rs.at e h
  exact ⟨f, m p _ (join_l one_same)⟩
theorem Dw.get {kvs : List (List Key × D)} (h : Dw K l d kvs) (eF : Ex F H) (eM : Ex M H) (rs : Rs l F M) (f : Fd K F v d) : ∃ a vs, v = .ref a ∧ Rd H a (.dT vs) ∧ FdFs K F vs kvs := by
  cases h with
  | f => cases f with | dT s a => exact ⟨_, _, rfl, .inl (eF _ _ s), a⟩
  | o h =>
    cases f
    obtain ⟨vs, f, hp⟩ := rs.ownT h eM
    exact ⟨_, vs, rfl, .inl hp, f⟩
  | z h =>
    cases f
    obtain ⟨f, hp⟩ := rs.ownTz h eM
    exact ⟨_, _, rfl, .inr ⟨_, hp⟩, f⟩
end
/-- an owned cell is written -/
theorem At.putOne {K : PySem.W.Frag} {en : En} {T : Tm} {σ : L2.St} {H F M : Hp} {k : Nat} {p : Addr} {r r' : Res} {o' : HO} (a : At K en g T l σ H F M) (e : l[k]? = some r) (h : ∀ A, r.P F A → ∃ o, A = one p o) (h' : r'.P F (one p o')) : ∃ M', At K en g T (l.set k r') σ (upd H p o') F M' := by
  obtain ⟨A, B, rfl, dj, pA, put⟩ := Rs.at e a.rs
  obtain ⟨o, rfl⟩ := h A pA
  have hp : H p = some o := a.exM p _ (join_l one_same)
  have hF : F p = none := a.dj.sym p o (join_l one_same)
  have dB : ∀ u, Dj (one p u) B := fun u x w h => by
    obtain ⟨rfl, _⟩ := one_some h
    exact dj x _ one_same
  have hB : B p = none := dj p _ one_same
  have pM : en.H p = none ∨ ∃ u, en.M p = some u := a.nM p _ (join_l one_same)
  refine ⟨join (one p o') B, a.exF.mut hF, ?_, ?_, a.eF, a.nF, ?_, ?_, a.sl, a.tm, put _ _ F .rf h' (dB _)⟩
  · intro x w h
    rcases join_some h with q | ⟨n, q⟩
    · obtain ⟨rfl, rfl⟩ := one_some q
      exact upd_same
    · have ne : x ≠ p := fun z => by rw [z, hB] at q; cases q
      rw [upd_ne ne]
      exact a.exM x w (by rw [join_r (one_ne ne)]; exact q)
  · intro x w h
    have ne : x ≠ p := fun z => by rw [z, hF] at h; cases h
    have := a.dj x w h
    rw [join_r (one_ne ne)] at this ⊢
    exact this
  · intro x w h
    rcases join_some h with q | ⟨n, q⟩
    · obtain ⟨rfl, rfl⟩ := one_some q
      exact pM
    · have ne : x ≠ p := fun z => by rw [z, hB] at q; cases q
      exact a.nM x w (by rw [join_r (one_ne ne)]; exact q)
  · intro x w h1 h2
    have ne : x ≠ p := fun z => by
      subst z
      rcases pM with q | ⟨u, q⟩
      · rw [h1] at q; cases q
      · rw [h2] at q; cases q
    rw [upd_ne ne]
    exact a.fr x w h1 h2
/-- a key as a datum -/
def kD : Key → D
  | .inl i => .int i
  | .inr x => .str x
theorem Fd.key {K : PySem.W.Frag} {F : Hp} {v : V} {k : Key} (f : Fd K F v (kD k)) : v = kV k := by
  cases k with
  | inl i => cases f; rfl
  | inr x => cases f; rfl
theorem Px.units (hu : X.A.units + 64 < cLine) : X.A.units + 1 < cLine := by omega
/-- d[k], d[k] of a dict with text or int keys -/
theorem px_dget {kvs : List (Key × D)} {k : Key} (hu : X.A.units + 1 < cLine) (ho : Px X o g l d1) (hd : Dv X.K l d1 kvs) (hi : Px X e g l d2) (hk : d2 = kD k) (hv : valD kvs k = some d) (hs : NoSl e := by intro _ _; rfl) : Px X (.Subscript o e pos) g l d := fun en T σ H Q s kk => wpE_of (pe_dget hu pe_wp pe_wp hs) (by
  subst hk
  refine ho en T σ H _ s fun v H1 s1 => ?_
  refine hi en _ σ H1 _ s1 fun u H2 s2 => ?_
  obtain ⟨F, M, q⟩ := s2
  obtain ⟨a, vs, rfl, hp, f⟩ := hd.get q.exF q.exM q.rs q.tm.2.1
  obtain ⟨w, h1, h2⟩ := f.valV hv
  refine ⟨a, w, rfl, .inl ⟨vs, k, hp, q.tm.1.key, h1.symm⟩, kk w H2 ⟨F, M, q.tmp ⟨h2, q.tm.2.2⟩⟩⟩)
/-- k in d, k not in d -/
theorem px_din {kvs : List (Key × D)} {k : Key} (hu : X.A.units + 1 < cLine) (hi : Px X e g l d2) (hk : d2 = kD k) (ho : Px X o g l d1) (hd : Dv X.K l d1 kvs) (hm : behindInMarks .In o = false := by first | exact nomark _ | rfl) : Px X (.Compare e [.In] [o] pos) g l (.bl (valD kvs k).isSome) := fun en T σ H Q s kk => wpE_of (pe_cmp (pc_din hu pe_wp pe_wp) hm) (by
  subst hk
  refine hi en T σ H _ s fun u H1 s1 => ?_
  refine ho en _ σ H1 _ s1 fun v H2 s2 => ?_
  obtain ⟨F, M, q⟩ := s2
  obtain ⟨a, vs, rfl, hp, f⟩ := hd.get q.exF q.exM q.rs q.tm.1
  have e : (L2.valV vs k).isSome = (valD kvs k).isSome := by
    cases z : valD kvs k with
    | none => rw [f.noV z]; rfl
    | some d => obtain ⟨w, h1, _⟩ := f.valV z; rw [h1]; rfl
  refine ⟨a, _, rfl, .inl ⟨vs, k, hp, q.tm.2.1.key, rfl⟩, ?_⟩
  rw [e]
  exact kk _ H2 ⟨F, M, q.tmp ⟨.bl _, q.tm.2.2⟩⟩)
/-- a new dict | of one pair -/
theorem ev_newD {kvs : List (Key × D)} {t : TE} (he : PE X e t) (h : ∀ en T σ H (Q : VK), S X.K en g T l σ H → (∀ p ws H1 F M, At X.K en g T l σ H1 F M → FdFs X.K F ws kvs → H1 p = none → Q (.ref p) (upd H1 p (.dK ws))) → t σ H Q) : Ev X e g l (fun d' l' => ∃ p, d' = .adr p ∧ l' = ownD X.K p kvs :: l) := fun en T σ H Q s k => wpE_of he (h en T σ H Q s fun p ws H1 F M q f hp => by
  have q3 := q.newO (r := ownD X.K p kvs) (A := one p (.dK ws)) (H' := upd H1 p (.dK ws)) (.new hp) (fun x o z => by obtain ⟨rfl, rfl⟩ := one_some z; exact upd_same) (fun x o z => by obtain ⟨rfl, rfl⟩ := one_some z; exact hp) ⟨ws, f, rfl⟩
  exact k _ (.adr p) _ _ ⟨p, rfl, rfl⟩ ⟨F, _, q3.tmp ⟨.adr p, q.tm⟩⟩)
theorem ev_d0 : Ev X (.Dict [] [] pos) g l (fun d' l' => ∃ p, d' = .adr p ∧ l' = ownD X.K p [] :: l) := ev_newD pe_dnewK fun en T σ H Q s k p hp => by
  obtain ⟨F, M, q⟩ := s
  exact k p [] H F M q .nil hp
theorem Ev.frzD {kvs : List (Key × D)} (h : Ev X e g l (fun d' l' => ∃ p, d' = .adr p ∧ l' = ownD X.K p kvs :: l)) : Px X e g l (.dK kvs) := fun en T σ H Q s k => h en T σ H Q s fun v d l' H' p s' => by
  obtain ⟨p, rfl, rfl⟩ := p
  obtain ⟨F, M, q⟩ := s'
  have hv := q.tm.1
  cases hv
  obtain ⟨F', M', q', f, _⟩ := q.frz (P := fun F' => Fd X.K F' (.ref p) (.dK kvs)) fun A hA => by
    obtain ⟨vs, f, rfl⟩ := hA
    have hF : F p = none := by
      obtain ⟨A, B, rfl, _, ⟨_, _, rfl⟩, _⟩ := q.rs
      exact q.dj.sym p _ (join_l one_same)
    exact .dK (by rw [join_r hF]; exact one_same) (FdFs.mono (fun x o h => join_l h) _ f)
  exact k _ H' ⟨F', M', q'.tmp ⟨f, q'.tm.2⟩⟩
theorem Blk.frzD {sts : List Stmt} {p : Addr} {kvs : List (Key × D)} {i : Nat} (hi : nth g i = some (.adr p)) (k : Blk X W sts (g.set i (some (.dK kvs))) l Φ) : Blk X W sts g (ownD X.K p kvs :: l) Φ := fun en T σ H D s m => by
  obtain ⟨F, M, q⟩ := s
  obtain ⟨v, hv, fv⟩ := q.sl.nth hi
  cases fv
  obtain ⟨F', M', q', f, _⟩ := q.frz (P := fun F' => Fd X.K F' (.ref p) (.dK kvs)) fun A hA => by
    obtain ⟨vs, f, rfl⟩ := hA
    have hF : F p = none := by
      obtain ⟨A, B, rfl, _, ⟨_, _, rfl⟩, _⟩ := q.rs
      exact q.dj.sym p _ (join_l one_same)
    exact .dK (by rw [join_r hF]; exact one_same) (FdFs.mono (fun x o h => join_l h) _ f)
  refine k en T σ H D ⟨F', M', q'.slots ?_⟩ m
  have w := q'.sl.set i f
  have e : σ.set i (some (.ref p)) = σ := by
    apply List.ext_getElem?
    intro j
    by_cases z : j = i
    · subst z
      obtain ⟨h1, h2⟩ := List.getElem?_eq_some_iff.mp hv
      rw [List.getElem?_set_self h1, hv]
    · rw [List.getElem?_set_ne (Ne.symm z)]
  rw [e] at w
  exact w
/-- {k: v} -/
theorem ev_d1 {k : Key} {ke : Expr} (hk : Px X ke g l d2) (hkk : d2 = kD k) (hv : Px X v g l d) : Ev X (.Dict [some ke] [v] pos) g l (fun d' l' => ∃ p, d' = .adr p ∧ l' = ownD X.K p [(k, d)] :: l) := fun en T σ H Q s kk => wpE_of (pe_disp (pps_cons pe_wp pe_wp pps_nil) rfl rfl (by simp) (Nat.le_of_ble_eq_true rfl)) (by
  subst hkk
  intro p hp
  obtain ⟨F0, M0, q0⟩ := s
  have q1 := q0.newO (r := ownD X.K p []) (A := one p (.dK [])) (H' := upd H p (.dK [])) (.new hp) (fun x o z => by obtain ⟨rfl, rfl⟩ := one_some z; exact upd_same) (fun x o z => by obtain ⟨rfl, rfl⟩ := one_some z; exact hp) ⟨[], .nil, rfl⟩
  refine hk.fr en T σ _ _ ⟨F0, _, q1⟩ fun u H2 s2 => ?_
  refine hv.fr en _ σ _ _ s2 fun w H3 s3 => ?_
  obtain ⟨F, M, q⟩ := s3
  obtain ⟨vs, fv, hp3⟩ := q.rs.ownD (k := 0) rfl q.exM
  cases fv
  have ek : u = kV k := q.tm.2.1.key
  subst ek
  refine ⟨hp3, [(k, w)], rfl, Nat.le_of_ble_eq_true rfl, ?_⟩
  have e : mergeK [] [(k, w)] = [(k, w)] := rfl
  rw [e]
  obtain ⟨M', q'⟩ := (q.tmp (T' := T) q.tm.2.2).putOne (k := 0) (p := p) (r' := ownD X.K p [(k, d)]) (o' := .dK [(k, w)]) rfl (fun A ⟨_, _, e⟩ => ⟨_, e⟩) ⟨_, .cons q.tm.1 .nil, rfl⟩
  exact kk _ _ _ _ ⟨p, rfl, rfl⟩ ⟨F, M', q'.tmp ⟨.adr p, q.tm.2.2⟩⟩)
/-- d[k] = v, d an owned dict -/
theorem blk_dput {kvs : List (Key × D)} {n : Nat} {q : Addr} {k : Key} {pos' : Pos} (hu : X.A.units + 1 < cLine) (hv : Px X v g l d) (ho : Px X o g l (.adr q)) (hi : Px X e g l d2) (hk : d2 = kD k) (hl : l[n]? = some (ownD X.K q kvs)) (hz : kvs.length < 10000)
    (h : Blk X W rest g (l.set n (ownD X.K q (putKD kvs k d))) Φ) (hs : swapsWith v (some (.Subscript o e pos')) pos.line X.env = pure false := by rfl) : Blk X W (.Assign [.Subscript o e pos'] v pos :: rest) g l Φ := fun en T σ H D s mm => wpS_of (pss_cons (ps_dput hu pe_wp pe_wp pe_wp hs) pss_wp) (by
  subst hk
  refine hv en T σ H _ s fun w H1 s1 => ?_
  refine ho en _ σ H1 _ s1 fun u H2 s2 => ?_
  refine hi en _ σ H2 _ s2 fun y H3 s3 => ?_
  obtain ⟨F, M, a⟩ := s3
  have fu := a.tm.2.1
  cases fu
  obtain ⟨vs, fv, hp⟩ := a.rs.ownD hl a.exM
  refine ⟨q, _, rfl, .inl ⟨vs, k, hp, a.tm.1.key, ?_, rfl⟩, ?_⟩
  · rw [fv.length]; exact Nat.lt_of_lt_of_le hz (by decide)
  · obtain ⟨M', a'⟩ := (a.tmp (T' := T) a.tm.2.2.2).putOne (k := n) (p := q) (r' := ownD X.K q (putKD kvs k d)) (o' := .dK (L2.putK vs k w)) hl (fun A ⟨_, _, e⟩ => ⟨_, e⟩) ⟨_, fv.putK a.tm.2.2.1, rfl⟩
    exact h en T σ _ D ⟨F, M', a'⟩ mm)
/-- dict(d) -/
theorem ev_dictOf {kvs : List (Key × D)} {e1 : Expr} (ha : Px X e1 g l d) (hd : Dv X.K l d kvs) (hm : X.mg "dict" = none) (hg : Gl X "dict" := by rfl) (hs : starEach [e1] X.env = (false, eval e1 X.env) :: starEach [] X.env := by rfl) : Ev X (.Call (.Name "dict" p) [e1] [] pos) g l (fun d' l' => ∃ p, d' = .adr p ∧ l' = ownD X.K p kvs :: l) :=
  ev_newD (pe_callTy call_dictD hg hm (by decide +kernel) (pa_wp (es := [e1])) (by decide) (by decide) hs rfl) fun en T σ H Q s k => by
  refine pa_c ha pa_n hs en T σ H _ s fun vs H1 s1 => ?_
  obtain ⟨F, M, q⟩ := s1
  obtain ⟨f, t⟩ := q.tm
  cases f with
  | cons f1 f2 =>
    cases f2
    obtain ⟨a, ws, rfl, sq, f⟩ := hd.get q.exF q.exM q.rs f1
    exact ⟨a, ws, rfl, sq, fun p hp => k p _ H1 F M (q.tmp t) f hp⟩
theorem px_dictOf {kvs : List (Key × D)} {e1 : Expr} (ha : Px X e1 g l d) (hd : Dv X.K l d kvs) (hm : X.mg "dict" = none) (hg : Gl X "dict" := by rfl) (hs : starEach [e1] X.env = (false, eval e1 X.env) :: starEach [] X.env := by rfl) : Px X (.Call (.Name "dict" p) [e1] [] pos) g l (.dK kvs) := (ev_dictOf ha hd hm hg hs).frzD
end
section
variable {K : PySem.W.Frag} {l : List Res} {d1 d2 : D}
/-- == of dicts that are alike, flat things in them -/
theorem FdFs.flatEq {F : Hp} : ∀ {vs ws : List (Key × V)} {kvs : List (Key × D)}, FdFs K F vs kvs → FdFs K F ws kvs → (kvs.all fun kv => kv.2.v.isSome && flatB (kv.2.v.getD .non)) = true → vs = ws ∧ (∀ p ∈ vs, flatB p.2 = true)
  | _, _, _, .nil, .nil, _ => ⟨rfl, fun p h => by cases h⟩
  | _, _, _, .cons (n := n) (v := v1) (d := d) a b, .cons (v := v2) c e, h => by
    rw [List.all_cons] at h
    obtain ⟨h1, h2⟩ := Bool.and_eq_true_iff.mp h
    obtain ⟨h3, h4⟩ := Bool.and_eq_true_iff.mp h1
    obtain ⟨v0, hv⟩ := Option.isSome_iff_exists.mp h3
    have h5 : flatB (d.v.getD .non) = true := h4
    rw [hv] at h5
    have e1 := D.v_eq a hv
    have e2 := D.v_eq c hv
    subst e1; subst e2
    obtain ⟨i1, i2⟩ := FdFs.flatEq b e h2
    subst i1
    refine ⟨rfl, fun p hp => ?_⟩
    rcases List.mem_cons.mp hp with rfl | hp
    · exact h5
    · exact i2 p hp
theorem valV_mem {κ : Type} [DecidableEq κ] : ∀ {vs : List (κ × V)}, (vs.map (·.1)).Nodup → ∀ p ∈ vs, L2.valV vs p.1 = some p.2
  | q :: r, nd, p, h => by
    unfold L2.valV
    rw [List.find?_cons]
    rw [List.map_cons, List.nodup_cons] at nd
    rcases List.mem_cons.mp h with rfl | h
    · rw [decide_eq_true rfl]; rfl
    · have ne : q.1 ≠ p.1 := fun e => nd.1 (by rw [e]; exact List.mem_map_of_mem h)
      rw [decide_eq_false ne]
      exact valV_mem nd.2 p h
theorem o_neDict {kvs : List (Key × D)} (h1 : Du K l d1 kvs) (h2 : Du K l d2 kvs) (hf : (kvs.all fun kv => kv.2.v.isSome && flatB (kv.2.v.getD .non)) = true) (nd : (kvs.map (·.1)).Nodup) : Op2 K l rNeDA d1 d2 (.bl false) := fun F M H v u Q eF eM dj rs f1 f2 k => by
  obtain ⟨a, vs, rfl, ha, fa⟩ := h1.get eF eM rs f1
  obtain ⟨b, ws, rfl, hb, fb⟩ := h2.get eF eM rs f2
  obtain ⟨e, fl⟩ := fa.flatEq fb hf
  subst e
  exact ⟨a, b, vs, vs, rfl, rfl, ha, hb, rfl, fun p hp => ⟨valV_mem (by rw [fa.names]; exact nd) p hp, fl p hp⟩, k _ F H (.rf eF) (.bl _)⟩
theorem o_eqDict {kvs : List (Key × D)} (h1 : Du K l d1 kvs) (h2 : Du K l d2 kvs) (hf : (kvs.all fun kv => kv.2.v.isSome && flatB (kv.2.v.getD .non)) = true) (nd : (kvs.map (·.1)).Nodup) : Op2 K l rEqDA d1 d2 (.bl true) := fun F M H v u Q eF eM dj rs f1 f2 k => by
  obtain ⟨a, vs, rfl, ha, fa⟩ := h1.get eF eM rs f1
  obtain ⟨b, ws, rfl, hb, fb⟩ := h2.get eF eM rs f2
  obtain ⟨e, fl⟩ := fa.flatEq fb hf
  subst e
  exact ⟨a, b, vs, vs, rfl, rfl, ha, hb, rfl, fun p hp => ⟨valV_mem (by rw [fa.names]; exact nd) p hp, fl p hp⟩, k _ F H (.rf eF) (.bl _)⟩
end
/-- a def that gives back a new list -/
abbrev Fr (K : PySem.W.Frag) {α : Type} (ok : α → Prop) (args : α → List D) (f : α → List D) : Sp := FnX K ok args (fun _ => []) (fun a d l => ∃ p, d = .adr p ∧ l = [ownL K p (f a)]) noE
section
variable {X : Cx} {g : Gm} {l : List Res} {e o : Expr} {es : List Expr} {p pos apos : Pos} {α : Type} {ok : α → Prop} {args : α → List D} {f : α → List D} {x m : Str} {ps : List Str} {k j : Nat}
theorem ev_callL (G : Glo X.prog X.w X.K X.mg X.base k x ps (Fr X.K ok args f)) (hr : Room j X.A) (hj : k ≤ j) (a : α) (hok : ok a) (ha : Pa X (e :: es) g l (args a))
    (hg : Gl X x := by rfl) (hdb : (x == ("__debug__" : Str)) = false := by decide) (he : starEach (e :: es) X.env = (false, eval e X.env) :: starEach es X.env := by rfl) (hpl : (backTo pos (starEach es X.env)).any (·.1) = false := by rfl) :
    EvL X (.Call (.Name x p) (e :: es) [] pos) g l (f a) :=
  ev_call (lr := l) (own := fun _ => []) G hr hj a hok ha (fun d l' ⟨q, e1, e2⟩ => ⟨q, e1, by rw [e2]; rfl⟩) hg hdb he hpl
theorem px_callL (G : Glo X.prog X.w X.K X.mg X.base k x ps (Fr X.K ok args f)) (hr : Room j X.A) (hj : k ≤ j) (a : α) (hok : ok a) (ha : Pa X (e :: es) g l (args a))
    (hg : Gl X x := by rfl) (hdb : (x == ("__debug__" : Str)) = false := by decide) (he : starEach (e :: es) X.env = (false, eval e X.env) :: starEach es X.env := by rfl) (hpl : (backTo pos (starEach es X.env)).any (·.1) = false := by rfl) :
    Px X (.Call (.Name x p) (e :: es) [] pos) g l (.lst (f a)) := (ev_callL G hr hj a hok ha hg hdb he hpl).frz
end
end Sx
set_option Elab.async false
set_option linter.all false
set_option maxRecDepth 100000
set_option maxHeartbeats 2000000
/-! d.get(k), d.get(k, x); a new dict asked at once. -/
namespace Sx
open PySem L2 PyProof.Rows
section
variable {X : Cx} {W : WX} {g g' : Gm} {l l' : List Res} {Φ : Po} {e e2 a b c o v : Expr} {es : List Expr} {d d1 d2 d3 : D} {pos p p2 apos : Pos} {rest : List Stmt}
theorem FdFs.valO {K : PySem.W.Frag} {F : Hp} {k : Key} {vs : List (Key × V)} {kvs : List (Key × D)} (f : FdFs K F vs kvs) {z : V} {dz : D} (h : Fd K F z dz) : Fd K F ((L2.valV vs k).getD z) ((valD kvs k).getD dz) := by
  cases q : valD kvs k with
  | none => rw [f.noV q]; exact h
  | some d => obtain ⟨w, h1, h2⟩ := f.valV q; rw [h1]; exact h2
theorem px_dget1 {kvs : List (Key × D)} {k : Key} (hu : X.A.units + 1 < cLine) (ho : Px X o g l d1) (hd : Dv X.K l d1 kvs) (hi : Px X e g l d2) (hk : d2 = kD k) (hm : M1 X o "get" apos e pos := by constructor <;> rfl) : Px X (.Call (.Attribute o "get" apos) [e] [] pos) g l ((valD kvs k).getD .non) := fun en T σ H Q s kk => wpE_of (pe_dget1 hu pe_wp pe_wp hm) (by
  subst hk
  refine ho en T σ H _ s fun v H1 s1 => ?_
  obtain ⟨F1, M1, q1⟩ := id s1
  obtain ⟨a, vs, rfl, hp, f⟩ := hd.get q1.exF q1.exM q1.rs q1.tm.1
  refine ⟨a, rfl, .inl ⟨vs, hp⟩, ?_⟩
  refine hi en _ σ H1 _ s1 fun u H2 s2 => ?_
  obtain ⟨F, M, q⟩ := s2
  obtain ⟨a2, vs, e2, hp, f⟩ := hd.get q.exF q.exM q.rs q.tm.2.1
  cases e2
  exact ⟨_, .inl ⟨vs, k, hp, q.tm.1.key, rfl⟩, kk _ H2 ⟨F, M, q.tmp ⟨f.valO .non, q.tm.2.2⟩⟩⟩)
theorem px_dget2 {kvs : List (Key × D)} {k : Key} (hu : X.A.units + 1 < cLine) (ho : Px X o g l d1) (hd : Dv X.K l d1 kvs) (hi : Px X e g l d2) (hk : d2 = kD k) (hv : Px X v g l d3) (hm : M2 X o "get" apos e v pos := by constructor <;> rfl) : Px X (.Call (.Attribute o "get" apos) [e, v] [] pos) g l ((valD kvs k).getD d3) := fun en T σ H Q s kk => wpE_of (pe_dget2 hu pe_wp pe_wp pe_wp hm) (by
  subst hk
  refine ho en T σ H _ s fun v H1 s1 => ?_
  obtain ⟨F1, M1, q1⟩ := id s1
  obtain ⟨a, vs, rfl, hp, f⟩ := hd.get q1.exF q1.exM q1.rs q1.tm.1
  refine ⟨a, rfl, .inl ⟨vs, hp⟩, ?_⟩
  refine hi en _ σ H1 _ s1 fun u H2 s2 => ?_
  refine hv en _ σ H2 _ s2 fun z H3 s3 => ?_
  obtain ⟨F, M, q⟩ := s3
  obtain ⟨a2, vs, e2, hp, f⟩ := hd.get q.exF q.exM q.rs q.tm.2.2.1
  cases e2
  exact ⟨_, .inl ⟨vs, k, hp, q.tm.2.1.key, rfl⟩, kk _ H3 ⟨F, M, q.tmp ⟨f.valO q.tm.1, q.tm.2.2.2⟩⟩⟩)
theorem ts_din {kvs : List (Key × D)} {k : Key} (hu : X.A.units + 1 < cLine) (hi : Px X e g l d2) (hk : d2 = kD k) (ho : Px X o g l d1) (hd : Dv X.K l d1 kvs) (hm : behindInMarks .In o = false := by first | exact nomark _ | rfl) : Ts X (.Compare e [.In] [o] pos) g l (valD kvs k).isSome := fun en T σ H Q s kk => wpT_of (pt_cmp (pc_din hu pe_wp pe_wp) hm) (by
  subst hk
  refine hi en T σ H _ s fun u H1 s1 => ?_
  refine ho en _ σ H1 _ s1 fun v H2 s2 => ?_
  obtain ⟨F, M, q⟩ := s2
  obtain ⟨a, vs, rfl, hp, f⟩ := hd.get q.exF q.exM q.rs q.tm.1
  have e : (L2.valV vs k).isSome = (valD kvs k).isSome := by
    cases z : valD kvs k with
    | none => rw [f.noV z]; rfl
    | some d => obtain ⟨w, h1, _⟩ := f.valV z; rw [h1]; rfl
  refine ⟨a, _, rfl, .inl ⟨vs, k, hp, q.tm.2.1.key, rfl⟩, _, rfl, ?_⟩
  rw [e]
  exact kk H2 ⟨F, M, q.tmp q.tm.2.2⟩)
theorem ts_dnotin {kvs : List (Key × D)} {k : Key} (hu : X.A.units + 1 < cLine) (hi : Px X e g l d2) (hk : d2 = kD k) (ho : Px X o g l d1) (hd : Dv X.K l d1 kvs) (hm : behindInMarks .NotIn o = false := by first | exact nomark _ | rfl) : Ts X (.Compare e [.NotIn] [o] pos) g l (!(valD kvs k).isSome) := fun en T σ H Q s kk => wpT_of (pt_cmp (pc_dnotin hu pe_wp pe_wp) hm) (by
  subst hk
  refine hi en T σ H _ s fun u H1 s1 => ?_
  refine ho en _ σ H1 _ s1 fun v H2 s2 => ?_
  obtain ⟨F, M, q⟩ := s2
  obtain ⟨a, vs, rfl, hp, f⟩ := hd.get q.exF q.exM q.rs q.tm.1
  have e : (L2.valV vs k).isSome = (valD kvs k).isSome := by
    cases z : valD kvs k with
    | none => rw [f.noV z]; rfl
    | some d => obtain ⟨w, h1, _⟩ := f.valV z; rw [h1]; rfl
  refine ⟨a, _, rfl, .inl ⟨vs, k, hp, q.tm.2.1.key, rfl⟩, _, rfl, ?_⟩
  rw [e]
  exact kk H2 ⟨F, M, q.tmp q.tm.2.2⟩)
/-- e is a new dict, asked at once for a thing that is flat -/
theorem px_dget1N {R : List (Key × D) → Prop} {k : Key} {v0 : V} (hu : X.A.units + 1 < cLine) (ho : Ev X o g l (fun d l' => ∃ p kvs, R kvs ∧ d = .adr p ∧ l' = ownD X.K p kvs :: l)) (hi : Px X e g l d2) (hk : d2 = kD k) (hR : ∀ kvs, R kvs → (valD kvs k).getD .non = d) (hd : d.v = some v0) (hm : M1 X o "get" apos e pos := by constructor <;> rfl) : Px X (.Call (.Attribute o "get" apos) [e] [] pos) g l d := fun en T σ H Q s kk => wpE_of (pe_dget1 hu pe_wp pe_wp hm) (by
  subst hk
  refine ho en T σ H _ s fun v d0 l' H1 ⟨p, kvs, hr, e1, e2⟩ s1 => ?_
  subst e1; subst e2
  obtain ⟨F1, M1, q1⟩ := id s1
  obtain ⟨a, vs, rfl, hp, f⟩ := (Dv.o (k := 0) rfl : Dv X.K (ownD X.K p kvs :: l) (.adr p) kvs).get q1.exF q1.exM q1.rs q1.tm.1
  refine ⟨a, rfl, .inl ⟨vs, hp⟩, ?_⟩
  refine hi.fr en _ σ H1 _ s1 fun u H2 s2 => ?_
  obtain ⟨F, M, q⟩ := s2
  obtain ⟨a2, vs, e2, hp, f⟩ := (Dv.o (k := 0) rfl : Dv X.K (ownD X.K p kvs :: l) (.adr p) kvs).get q.exF q.exM q.rs q.tm.2.1
  cases e2
  have fz := f.valO (k := k) (z := .non) (dz := .non) .non
  rw [hR kvs hr] at fz
  refine ⟨_, .inl ⟨vs, k, hp, q.tm.1.key, rfl⟩, kk _ H2 (S.dropO (l' := [ownD X.K p kvs]) ⟨F, M, q.tmp ⟨fz, q.tm.2.2⟩⟩)⟩)
/-- a call as a statement that gives nothing of worth -/
theorem blk_do {e : Expr} (he : Px X e g l d) (h : Blk X W rest g l Φ) (hs : swapsWith e none pos.line X.env = pure false := by rfl) : Blk X W (.Expr e pos :: rest) g l Φ := blk_expr he.ev (fun d l' ⟨_, e2⟩ => by subst e2; exact h) hs
end
end Sx
set_option Elab.async false
set_option linter.all false
set_option maxRecDepth 100000
set_option maxHeartbeats 2000000
/-! Dicts with tuples as keys, the key written out at the place. -/
namespace Sx
open PySem L2 PyProof.Rows
theorem FdAll.keys {K : PySem.W.Frag} {F : Hp} : ∀ {vs : List V} {ks : List Key}, FdAll K F vs (ks.map kD) → vs = ks.map kV
  | _, [], .nil => rfl
  | _, k :: ks, .cons a b => by rw [List.map_cons, a.key, FdAll.keys b]
section
variable {X : Cx} {W : WX} {g g' : Gm} {l l' : List Res} {Φ : Po} {e e2 a b c o v : Expr} {es : List Expr} {d d1 d2 d3 : D} {pos p p2 apos kp : Pos} {rest : List Stmt} {x1 : Nat} {ds : List D}
theorem FdFs.valO' {κ : Type} [DecidableEq κ] {K : PySem.W.Frag} {F : Hp} {k : κ} {vs : List (κ × V)} {kvs : List (κ × D)} (f : FdFs K F vs kvs) {z : V} {dz : D} (h : Fd K F z dz) : Fd K F ((L2.valV vs k).getD z) ((valD kvs k).getD dz) := by
  cases q : valD kvs k with
  | none => rw [f.noV q]; exact h
  | some d => obtain ⟨w, h1, h2⟩ := f.valV q; rw [h1]; exact h2
/-- d.get((..)) -/
theorem px_tget1 {kvs : List (List Key × D)} {k : List Key} (hu : X.A.units + 1 < cLine) (ho : Px X o g l d1) (hd : Dw X.K l d1 kvs) (hi : Pa X es g l ds) (hk : ds = k.map kD) (hz : k.length ≤ sizeLine := by first | decide | exact Nat.le_of_ble_eq_true rfl) (hm : M1 X o "get" apos (.Tuple es x1 kp) pos := by constructor <;> rfl) : Px X (.Call (.Attribute o "get" apos) [.Tuple es x1 kp] [] pos) g l ((valD kvs k).getD .non) := fun en T σ H Q s kk => wpE_of (pe_dget1 hu pe_wp (pe_tup pa_wp) hm) (by
  subst hk
  refine ho en T σ H _ s fun v H1 s1 => ?_
  obtain ⟨F1, M1, q1⟩ := id s1
  obtain ⟨a, vs, rfl, hp, f⟩ := hd.get q1.exF q1.exM q1.rs q1.tm.1
  refine ⟨a, rfl, .inr ⟨vs, hp⟩, ?_⟩
  refine hi en _ σ H1 _ s1 fun us H2 s2 => ?_
  obtain ⟨F, M, q⟩ := s2
  have ek := q.tm.1.keys
  subst ek
  refine ⟨by rw [List.length_map]; exact hz, fun p hp => ?_⟩
  have n := New.upd (o := .tup (k.map kV)) q.exF hp
  have q3 := q.new n
  obtain ⟨a2, vs, e2, hp2, f⟩ := hd.get q3.exF q3.exM q3.rs q3.tm.2.1
  cases e2
  exact ⟨_, .inr ⟨vs, k, p, hp2, rfl, upd_same, rfl⟩, kk _ _ ⟨_, M, q3.tmp ⟨f.valO' .non, q3.tm.2.2⟩⟩⟩)
/-- d.get((..), x) -/
theorem px_tget2 {kvs : List (List Key × D)} {k : List Key} (hu : X.A.units + 1 < cLine) (ho : Px X o g l d1) (hd : Dw X.K l d1 kvs) (hi : Pa X es g l ds) (hk : ds = k.map kD) (hv : Px X v g l d3) (hz : k.length ≤ sizeLine := by first | decide | exact Nat.le_of_ble_eq_true rfl) (hm : M2 X o "get" apos (.Tuple es x1 kp) v pos := by constructor <;> rfl) : Px X (.Call (.Attribute o "get" apos) [.Tuple es x1 kp, v] [] pos) g l ((valD kvs k).getD d3) := fun en T σ H Q s kk => wpE_of (pe_dget2 hu pe_wp (pe_tup pa_wp) pe_wp hm) (by
  subst hk
  refine ho en T σ H _ s fun v H1 s1 => ?_
  obtain ⟨F1, M1, q1⟩ := id s1
  obtain ⟨a, vs, rfl, hp, f⟩ := hd.get q1.exF q1.exM q1.rs q1.tm.1
  refine ⟨a, rfl, .inr ⟨vs, hp⟩, ?_⟩
  refine hi en _ σ H1 _ s1 fun us H2 s2 => ?_
  obtain ⟨F, M, q⟩ := s2
  have ek := q.tm.1.keys
  subst ek
  refine ⟨by rw [List.length_map]; exact hz, fun p hp => ?_⟩
  have n := New.upd (o := .tup (k.map kV)) q.exF hp
  have q3 := q.new n
  refine hv en ((T.and X.K (.ref a) d1).ex (upd F p (.tup (k.map kV)))) σ _ _ ⟨_, M, q3.tmp ⟨.rf, q3.tm.2⟩⟩ fun z H3 s3 => ?_
  obtain ⟨F3, M3, q4⟩ := s3
  obtain ⟨a2, vs, e2, hp2, f⟩ := hd.get q4.exF q4.exM q4.rs q4.tm.2.2.1
  cases e2
  exact ⟨_, .inr ⟨vs, k, p, hp2, rfl, q4.exF _ _ (q4.tm.2.1 _ _ upd_same), rfl⟩, kk _ _ ⟨_, M3, q4.tmp ⟨f.valO' q4.tm.1, q4.tm.2.2.2⟩⟩⟩)
/-- d[..] -/
theorem px_tget {kvs : List (List Key × D)} {k : List Key} (hu : X.A.units + 1 < cLine) (ho : Px X o g l d1) (hd : Dw X.K l d1 kvs) (hi : Pa X es g l ds) (hk : ds = k.map kD) (hv : valD kvs k = some d) (hz : k.length ≤ sizeLine := by first | decide | exact Nat.le_of_ble_eq_true rfl) (hs : NoSl (.Tuple es x1 kp) := by intro _ _; rfl) : Px X (.Subscript o (.Tuple es x1 kp) pos) g l d := fun en T σ H Q s kk => wpE_of (pe_dget hu pe_wp (pe_tup pa_wp) hs) (by
  subst hk
  refine ho en T σ H _ s fun v H1 s1 => ?_
  refine hi en _ σ H1 _ s1 fun us H2 s2 => ?_
  obtain ⟨F, M, q⟩ := s2
  have ek := q.tm.1.keys
  subst ek
  refine ⟨by rw [List.length_map]; exact hz, fun p hp => ?_⟩
  have n := New.upd (o := .tup (k.map kV)) q.exF hp
  have q3 := q.new n
  obtain ⟨a, vs, rfl, hp2, f⟩ := hd.get q3.exF q3.exM q3.rs q3.tm.2.1
  obtain ⟨w, h1, h2⟩ := f.valV hv
  exact ⟨a, w, rfl, .inr ⟨vs, k, p, hp2, rfl, upd_same, h1.symm⟩, kk w _ ⟨_, M, q3.tmp ⟨h2, q3.tm.2.2⟩⟩⟩)
/-- d[..] = v -/
theorem blk_tput {kvs : List (List Key × D)} {n : Nat} {q : Addr} {k : List Key} {pos' : Pos} (hu : X.A.units + 1 < cLine) (hv : Px X v g l d) (ho : Px X o g l (.adr q)) (hi : Pa X es g l ds) (hk : ds = k.map kD) (hl : l[n]? = some (ownT X.K q kvs)) (hz : kvs.length < 10000)
    (h : Blk X W rest g (l.set n (ownT X.K q (putKD kvs k d))) Φ) (hkz : k.length ≤ sizeLine := by first | decide | exact Nat.le_of_ble_eq_true rfl) (hs : swapsWith v (some (.Subscript o (.Tuple es x1 kp) pos')) pos.line X.env = pure false := by rfl) : Blk X W (.Assign [.Subscript o (.Tuple es x1 kp) pos'] v pos :: rest) g l Φ := fun en T σ H D s mm => wpS_of (pss_cons (ps_dput hu pe_wp (pe_tup pa_wp) pe_wp hs) pss_wp) (by
  subst hk
  refine hv en T σ H _ s fun w H1 s1 => ?_
  refine ho en _ σ H1 _ s1 fun u H2 s2 => ?_
  refine hi en _ σ H2 _ s2 fun us H3 s3 => ?_
  obtain ⟨F, M, a⟩ := s3
  have ek := a.tm.1.keys
  subst ek
  have fu := a.tm.2.1
  cases fu
  refine ⟨by rw [List.length_map]; exact hkz, fun p hp => ?_⟩
  have nw := New.upd (o := .tup (k.map kV)) a.exF hp
  have a3 := a.new nw
  obtain ⟨vs, fv, hq⟩ := a3.rs.ownT hl a3.exM
  refine ⟨q, _, rfl, .inr ⟨vs, k, p, hq, rfl, upd_same, ?_, rfl⟩, ?_⟩
  · rw [fv.length]; exact Nat.lt_of_lt_of_le hz (by decide)
  · obtain ⟨M', a'⟩ := (a3.tmp (T' := T) a3.tm.2.2.2).putOne (k := n) (p := q) (r' := ownT X.K q (putKD kvs k d)) (o' := .dT (L2.putK vs k w)) hl (fun A ⟨_, _, e⟩ => ⟨_, e⟩) ⟨_, fv.putK a3.tm.2.2.1, rfl⟩
    exact h en T σ _ D ⟨_, M', a'⟩ mm)
/-- {} that will have tuples as keys -/
theorem ev_t0 : Ev X (.Dict [] [] pos) g l (fun d' l' => ∃ p, d' = .adr p ∧ l' = ownT X.K p [] :: l) := fun en T σ H Q s k => wpE_of pe_dnewT (by
  intro p hp
  obtain ⟨F, M, q⟩ := s
  have q3 := q.newO (r := ownT X.K p []) (A := one p (.dT [])) (H' := upd H p (.dT [])) (.new hp) (fun x o z => by obtain ⟨rfl, rfl⟩ := one_some z; exact upd_same) (fun x o z => by obtain ⟨rfl, rfl⟩ := one_some z; exact hp) ⟨[], .nil, rfl⟩
  exact k _ (.adr p) _ _ ⟨p, rfl, rfl⟩ ⟨F, _, q3.tmp ⟨.adr p, q.tm⟩⟩)
end
end Sx
set_option Elab.async false
set_option linter.all false
set_option maxRecDepth 100000
set_option maxHeartbeats 2000000
/-! A caught exception that is kept: the state is widened by its object. -/
namespace Sx
open PySem L2 PyProof.Rows
theorem exO_ok {P : Program} {w : World} {H : Hp} {h : Heap} {a : Addr} {cls : Value} {d : Option Addr} {oe : Obj} {vs : Array Value} (he : h.get? a = some oe) (hz : Zc cls d oe) (hd : oe.data = .fields vs) : ObjOk P w H h a (exO a cls d) :=
  ⟨⟨oe, he, hz, vs, hd⟩, ⟨oe, he⟩, fun _ _ ⟨o1, q, z, v, dd⟩ k => ⟨o1, k _ q, z, v, dd⟩⟩
theorem un_wide {fs ex : List Addr} {H H' : Hp} {h h' : Heap} {a : Addr} {o : HO} (u : Un fs ex H H' h h') (n : h.get? a = none) (hn : H' a = none) : Un fs ex H (upd H' a o) h h' where
  keep := u.keep
  slot := u.slot
  free := fun b ob q hb hx => by
    have ne : b ≠ a := fun e => by rw [e, n] at q; cases q
    rw [upd_ne ne]
    exact u.free b ob q hb hx
  there := u.there
  tups := fun b xs q => by
    have z := u.tups b xs q
    rw [upd_ne (ne_of_none z hn)]
    exact z
  frzs := fun b ob v q => by
    have z := u.frzs b ob v q
    rw [upd_ne (ne_of_none z hn)]
    exact z
  tbls := fun b ps q => by
    obtain ⟨more, z⟩ := u.tbls b ps q
    exact ⟨more, by rw [upd_ne (ne_of_none z hn)]; exact z⟩
theorem inv_wide {X : Cx} {pins : List (Addr × Obj)} {σ : L2.St} {H : Hp} {s : Shared} {a : Addr} {o : HO} (I : Inv X pins σ H s) (n : X.s_0.heap.get? a = none) (hn : H a = none) (np : ∀ p ∈ X.pn ++ pins, p.1 ≠ a) (nL : a ≠ X.env.locals)
    (nc : ∀ x c, X.env.cells.lookup x = some c → c ≠ a) (new : ObjOk X.prog X.w (upd H a o) s.heap a o) : Inv X pins σ (upd H a o) s :=
  ⟨I.ok, I.os, I.bare, un_wide I.base n hn, I.loc, I.cell, by rw [upd_ne (Ne.symm nL)]; exact I.free, fun x c e => by rw [upd_ne (nc x c e)]; exact I.freeC x c e,
    fun p hp => by
      obtain ⟨h1, h2, h3⟩ := I.pin p hp
      exact ⟨h1, by rw [upd_ne (np p hp)]; exact h2, h3⟩,
    fun b u e => by
      by_cases z : b = a
      · subst z
        rw [upd_same] at e
        cases e
        exact new
      · rw [upd_ne z] at e
        exact (I.hok b u e).stay (fun _ _ _ q => q) (fun b' q => by rw [upd_ne (ne_of_none q hn)]; exact q) fun b' xs q => by rw [upd_ne (ne_of_none q hn)]; exact q,
    I.len⟩
/-- a kept exception, owned: of the class at cls, no attributes of its own -/
def ownX (p : Addr) (cls : Value) (d : Option Addr) : Res := ⟨fun _ M => M = one p (exO p cls d), fun _ h => h, fun m x xs e => by rw [m] at e; obtain ⟨_, e⟩ := one_some e; exact nomatch e⟩
end Sx
set_option Elab.async false
set_option linter.all false
set_option maxRecDepth 100000
set_option maxHeartbeats 2000000
/-! Models: what a block computes, told beside the block. -/
namespace Sx
open PySem L2

theorem Wk.set {g1 g2 : Gm} (w : Wk g1 g2) : ∀ (i : Nat) (o : Option D), Wk (g1.set i o) (g2.set i o) := by
  induction w with
  | nil => intro i o; exact .nil
  | any w ih => intro i o; cases i with
    | zero => exact .keep w
    | succ i => exact .any (ih i o)
  | keep w ih => intro i o; cases i with
    | zero => exact .keep w
    | succ i => exact .keep (ih i o)
theorem Wk.sets {is : List Nat} : ∀ {es : List D} {g1 g2 : Gm}, Wk g1 g2 → Wk (sets g1 is es) (sets g2 is es) := by
  induction is with
  | nil => intro es g1 g2 w; cases es <;> exact w
  | cons i is ih =>
    intro es g1 g2 w
    cases es with
    | nil => exact w
    | cons e es => exact ih (w.set i _)
/-- the model's let -/
def lt {α β : Type} (x : α) (k : α → β) : β := k x
/-- what a block with ways out comes to -/
inductive Cf (Rr Ll Ss : Type) where
  | nx (s : Ss) | rt (r : Rr) | bk (s : Ll) | ct (s : Ll)
def bnd {Rr Ll Ss S2 : Type} (o : Cf Rr Ll Ss) (k : Ss → Cf Rr Ll S2) : Cf Rr Ll S2 := match o with
  | .nx s => k s | .rt r => .rt r | .bk s => .bk s | .ct s => .ct s
def bndV {Rr Ss : Type} (o : Cf Rr Empty Ss) (k : Ss → Rr) : Rr := match o with
  | .nx s => k s | .rt r => r | .bk s => nomatch s | .ct s => nomatch s
def loop {α Rr Ll Ss : Type} (step : Ss → α → Cf Rr Ss Ss) : List α → Ss → Cf Rr Ll Ss
  | [], s => .nx s
  | x :: xs, s => match step s x with
    | .nx s' => loop step xs s' | .ct s' => loop step xs s' | .bk s' => .nx s' | .rt r => .rt r
def whileF {Ss : Type} (c : Ss → Bool) (step : Ss → Ss) : Nat → Ss → Ss
  | 0, s => s
  | n + 1, s => cond (c s) (whileF c step n (step s)) s
def whileR {Rr Ll Ss : Type} (c : Ss → Bool) (step : Ss → Cf Rr Ss Ss) : Nat → Ss → Cf Rr Ll Ss
  | 0, s => .nx s
  | n + 1, s => cond (c s) (match step s with
    | .nx s' => whileR c step n s' | .ct s' => whileR c step n s' | .bk s' => .nx s' | .rt r => .rt r) (.nx s)

section
variable {X : Cx} {W : WX} {g g' : Gm} {l l' : List Res} {e c o : Expr} {d : D} {pos p : Pos} {rest A B body : List Stmt}
variable {α β Rr Ll Ss S1 : Type}
/-- what a def's giving back (and its raising) means -/
structure Re where
  rt : D → List Res → Prop
  ex : Value → Option Addr → Gm → List Res → Prop := fun _ _ _ _ => False
/-- at the state s the slots are G s, what is owned R s -/
def Nx (G : Ss → Gm) (R : Ss → List Res) (s : Ss) : Po := { nx := fun g l => g = G s ∧ l = R s, rt := fun _ _ => False }
def Rt (RT : Rr → Re) (r : Rr) : Po := { nx := fun _ _ => False, rt := (RT r).rt, ex := (RT r).ex }
/-- .. of a def that may run off its end -/
def Rv (RT : Rr → Re) (r : Rr) : Po := { nx := fun _ l => (RT r).rt .non l, rt := (RT r).rt, ex := (RT r).ex }
def Ou (RT : Rr → Re) (GL : Ll → Gm) (RL : Ll → List Res) (NX : Ss → Gm → List Res → Prop) : Cf Rr Ll Ss → Po
  | .nx s => { nx := NX s, rt := fun _ _ => False }
  | .rt r => { nx := fun _ _ => False, rt := (RT r).rt, ex := (RT r).ex }
  | .bk s => { nx := fun _ _ => False, rt := fun _ _ => False, bk := fun g l => g = GL s ∧ l = RL s }
  | .ct s => { nx := fun _ _ => False, rt := fun _ _ => False, ct := fun g l => g = GL s ∧ l = RL s }
abbrev NxP (G : Ss → Gm) (R : Ss → List Res) : Ss → Gm → List Res → Prop := fun s g l => g = G s ∧ l = R s
abbrev NoNx : Ss → Gm → List Res → Prop := fun _ _ _ => False
/-- the block sts, from g and l on, comes to what m tells by Om -/
def Bo (X : Cx) (W : WX) (sts : List Stmt) (g : Gm) (l : List Res) (Om : β → Po) (m : β) : Prop := Blk X W sts g l (Om m)
/-- what leaves by A leaves by B; A does not run through -/
structure Le0 (A B : Po) : Prop where
  nx : ∀ g l, ¬ A.nx g l
  rt : ∀ d l, A.rt d l → B.rt d l
  bk : ∀ g l, A.bk g l → B.bk g l
  ct : ∀ g l, A.ct g l → B.ct g l
  ex : ∀ c d g l, A.ex c d g l → B.ex c d g l
theorem le_rt {RT : Rr → Re} (a b : Rr) (m : Bool) : Le0 (Rt RT a) (Rt RT (cond true a b)) := ⟨fun _ _ h => h, fun _ _ h => h, fun _ _ h => h, fun _ _ h => h, fun _ _ _ _ h => h⟩
variable {Om : β → Po} {m m1 m2 : β} {k : α → β} {x0 : α} {b : Bool}
theorem Bo.weak {sts : List Stmt} (w : Wk g g') (h : Bo X W sts g' l Om m) : Bo X W sts g l Om m := Blk.weak w h
theorem Bo.perm {sts : List Stmt} (w : l.Perm l') (h : Bo X W sts g l' Om m) : Bo X W sts g l Om m := Blk.perm w h
/-- x = e -/
theorem bo_set {i : Nat} {x : Str} {pos' : Pos} (enc : α → D) (hN : X.N.Nodup) (hi : X.N[i]? = some x) (hx : Loc X.env.scope x) (he : Px X e g l (enc x0)) (h : ∀ y, y = x0 → Bo X W rest (g.set i (some (enc y))) l Om (k y))
    (hs : swapsWith e (some (.Name x pos')) pos.line X.env = pure false := by rfl) (hf : X.fn x = true ∨ X.env.scope.names.lookup x = some .local := by first | exact .inl rfl | exact .inr rfl | assumption) :
    Bo X W (.Assign [.Name x pos'] e pos :: rest) g l Om (lt x0 k) := blk_set hN hi hx he (h x0 rfl) hs hf
/-- x = e, a new list that x owns -/
theorem bo_setL {i : Nat} {x : Str} {pos' : Pos} {α : Type} {xs : List α} {k : List α → β} (enc : α → D) (hN : X.N.Nodup) (hi : X.N[i]? = some x) (hx : Loc X.env.scope x) (he : EvL X e g l (xs.map enc)) (h : ∀ p ys, ys = xs → Bo X W rest (g.set i (some (.adr p))) (ownL X.K p (ys.map enc) :: l) Om (k ys))
    (hs : swapsWith e (some (.Name x pos')) pos.line X.env = pure false := by rfl) (hf : X.fn x = true ∨ X.env.scope.names.lookup x = some .local := by first | exact .inl rfl | exact .inr rfl | assumption) :
    Bo X W (.Assign [.Name x pos'] e pos :: rest) g l Om (lt xs k) := blk_setX hN hi hx he (fun d l' ⟨p, e1, e2⟩ => by subst e1; subst e2; exact h p xs rfl) hs hf
/-- a target taken apart -/
theorem bo_asg {tg : Expr} {gt : TG} {is : List Nat} {es : List D} (he : Px X e g l d) (hg : PG X tg gt) (ht : Tg X.K gt is d es) (h : Bo X W rest (sets g is es) l Om m) (hs : swapsWithSole [tg] e pos.line X.env = pure false := by rfl) (hw : swappedStores [tg] e X.env = pure none := by rfl) (h1 : (assignEach [tg] X.env).map (·.2) = [assign tg X.env] := by rfl) :
    Bo X W (.Assign [tg] e pos :: rest) g l Om m := blk_asg he hg ht h hs hw h1
/-- x.append(e) -/
theorem bo_app {α : Type} {kk : Nat} {q : Addr} {apos cpos : Pos} {ys : List α} {v : α} {k : List α → β} (enc : α → D) (ho : Px X o g l (.adr q)) (hk : l[kk]? = some (ownL X.K q (ys.map enc))) (he : Px X e g l (enc v)) (hz : ys.length < 10000) (h : ∀ zs, zs = ys ++ [v] → Bo X W rest g (l.set kk (ownL X.K q (zs.map enc))) Om (k zs))
    (hp : PS X (.Expr (.Call (.Attribute o "append" apos) [e] [] cpos) pos) (tDrop (tBM X.K "list" rAppend (wpE X o) (tCons (wpE X e) tNil))) := by exact ps_expr (pe_bm PySem.F.plainAttrs_list PySem.F.slot_list_append PySem.F.type_list_append mt_append pe_wp (pa_cons pe_wp pa_nil))) :
    Bo X W (.Expr (.Call (.Attribute o "append" apos) [e] [] cpos) pos :: rest) g l Om (lt (ys ++ [v]) k) := by
  refine blk_add ho he hk (by rw [List.length_map]; exact Nat.lt_of_lt_of_le hz (by decide)) ?_ hp
  have := h _ rfl
  rw [List.map_append] at this
  exact this
/-- an expression that changes nothing, as a statement -/
theorem bo_do {e : Expr} (he : Px X e g l d) (h : Bo X W rest g l Om m) (hs : swapsWith e none pos.line X.env = pure false := by rfl) : Bo X W (.Expr e pos :: rest) g l Om m := blk_do he h hs
theorem bo_pass (h : Bo X W rest g l Om m) : Bo X W (.Pass pos :: rest) g l Om m := blk_pass h
/-- x += e -/
theorem bo_aug {i : Nat} {x : Str} {a n r : Int} {op : Operator} {f : Int → Int → Int} {pos' : Pos} {k : Int → β} (hN : X.N.Nodup) (hi : X.N[i]? = some x) (hx : Loc X.env.scope x) (hv : nth g i = some (.int a)) (he : Px X e g l (.int n)) (ho : PIp X op (ipI f)) (hr : f a n = r) (h : ∀ y, y = r → Bo X W rest (g.set i (some (.int y))) l Om (k y))
    (hf : X.fn x = true ∨ X.env.scope.names.lookup x = some .local := by first | exact .inl rfl | exact .inr rfl | assumption) : Bo X W (.AugAssign (.Name x pos') op e pos :: rest) g l Om (lt r k) := blk_aug hN hi hx hv he ho hr (h r rfl) hf
/-! ### ifs -/
/-- an if that is the last -/
theorem bo_if (hc : Ts X c g l b) (h1 : b = true → Bo X W A g l Om m1) (h2 : b = false → Bo X W B g l Om m2) : Bo X W [.If c A B pos] g l Om (cond b m1 m2) :=
  blk_if hc (fun e => by subst e; exact (h1 rfl).imp (fun _ _ h => blk_nil h) (fun _ _ h => h) (fun _ _ h => h) (fun _ _ h => h) (fun _ _ _ _ h => h)) (fun e => by subst e; exact (h2 rfl).imp (fun _ _ h => blk_nil h) (fun _ _ h => h) (fun _ _ h => h) (fun _ _ h => h) (fun _ _ _ _ h => h))
/-- an if whose first way does not run through -/
theorem bo_ifR {RT : Rr → Re} {r1 r2 : Rr} (hc : Ts X c g l b) (h1 : b = true → Bo X W A g l (Rt RT) r1) (h2 : b = false → Bo X W rest g l (Rt RT) r2) : Bo X W (.If c A [] pos :: rest) g l (Rt RT) (cond b r1 r2) :=
  blk_if hc (fun e => by subst e; exact (h1 rfl).imp (fun _ _ h => h.elim) (fun _ _ h => h) (fun _ _ h => h) (fun _ _ h => h) (fun _ _ _ _ h => h)) (fun e => by subst e; exact blk_nil (h2 rfl))
theorem bo_ifRv {RT : Rr → Re} {r1 r2 : Rr} (hc : Ts X c g l b) (h1 : b = true → Bo X W A g l (Rt RT) r1) (h2 : b = false → Bo X W rest g l (Rv RT) r2) : Bo X W (.If c A [] pos :: rest) g l (Rv RT) (cond b r1 r2) :=
  blk_if hc (fun e => by subst e; exact (h1 rfl).imp (fun _ _ h => h.elim) (fun _ _ h => h) (fun _ _ h => h) (fun _ _ h => h) (fun _ _ _ _ h => h)) (fun e => by subst e; exact blk_nil (h2 rfl))
theorem bo_ifO {RT : Rr → Re} {GL : Ll → Gm} {RL : Ll → List Res} {NX : Ss → Gm → List Res → Prop} {o1 o2 : Cf Rr Ll Ss} (hc : Ts X c g l b) (h1 : b = true → Bo X W A g l (Ou RT GL RL NoNx) o1) (h2 : b = false → Bo X W rest g l (Ou RT GL RL NX) o2) : Bo X W (.If c A [] pos :: rest) g l (Ou RT GL RL NX) (cond b o1 o2) :=
  blk_if hc (fun e => by
    subst e
    have h1 := h1 rfl
    unfold Bo at h1
    cases o1 with
    | nx s => exact h1.imp (fun _ _ h => h.elim) (fun _ _ h => h.elim) (fun _ _ h => h.elim) (fun _ _ h => h.elim) (fun _ _ _ _ h => h.elim)
    | rt s => exact h1.imp (fun _ _ h => h.elim) (fun _ _ h => h) (fun _ _ h => h.elim) (fun _ _ h => h.elim) (fun _ _ _ _ h => h)
    | bk s => exact h1.imp (fun _ _ h => h.elim) (fun _ _ h => h.elim) (fun _ _ h => h) (fun _ _ h => h.elim) (fun _ _ _ _ h => h.elim)
    | ct s => exact h1.imp (fun _ _ h => h.elim) (fun _ _ h => h.elim) (fun _ _ h => h.elim) (fun _ _ h => h) (fun _ _ _ _ h => h.elim)) (fun e => by subst e; exact blk_nil (h2 rfl))
/-- the ways of an if meet -/
theorem bo_ifS {S1 : Type} {s1 s2 : S1} {k : S1 → β} (G : S1 → Gm) (R : S1 → List Res) (hc : Ts X c g l b) (h1 : b = true → Bo X W A g l (Nx G R) s1) (h2 : b = false → Bo X W B g l (Nx G R) s2) (h : ∀ s, s = cond b s1 s2 → Bo X W rest (G s) (R s) Om (k s)) : Bo X W (.If c A B pos :: rest) g l Om (lt (cond b s1 s2) k) :=
  blk_if hc (fun e => by
    subst e
    exact (h1 rfl).imp (fun g' l' ⟨w, q⟩ => by subst w; subst q; exact h s1 rfl) (fun _ _ h => h.elim) (fun _ _ h => h.elim) (fun _ _ h => h.elim) (fun _ _ _ _ h => h.elim)) (fun e => by
    subst e
    exact (h2 rfl).imp (fun g' l' ⟨w, q⟩ => by subst w; subst q; exact h s2 rfl) (fun _ _ h => h.elim) (fun _ _ h => h.elim) (fun _ _ h => h.elim) (fun _ _ _ _ h => h.elim))
theorem ou_bind {RT : Rr → Re} {GL : Ll → Gm} {RL : Ll → List Res} {S1 : Type} {G : S1 → Gm} {R : S1 → List Res} {NX : Ss → Gm → List Res → Prop} {o1 : Cf Rr Ll S1} {k : S1 → Cf Rr Ll Ss} (h : Blk X W A g l (Ou RT GL RL (NxP G R) o1)) (h2 : ∀ s, o1 = .nx s → Bo X W rest (G s) (R s) (Ou RT GL RL NX) (k s)) :
    Blk X W A g l { Ou RT GL RL NX (bnd o1 k) with nx := fun g' l' => Blk X W rest g' l' (Ou RT GL RL NX (bnd o1 k)) } := by
  cases o1 with
  | nx s => exact h.imp (fun g' l' hh => by obtain ⟨w, q⟩ := hh; subst w; subst q; exact h2 _ rfl) (fun _ _ h => h.elim) (fun _ _ h => h.elim) (fun _ _ h => h.elim) (fun _ _ _ _ h => h.elim)
  | rt s => exact h.imp (fun _ _ h => h.elim) (fun _ _ h => h) (fun _ _ h => h.elim) (fun _ _ h => h.elim) (fun _ _ _ _ h => h)
  | bk s => exact h.imp (fun _ _ h => h.elim) (fun _ _ h => h.elim) (fun _ _ h => h) (fun _ _ h => h.elim) (fun _ _ _ _ h => h.elim)
  | ct s => exact h.imp (fun _ _ h => h.elim) (fun _ _ h => h.elim) (fun _ _ h => h.elim) (fun _ _ h => h) (fun _ _ _ _ h => h.elim)
theorem ov_bind {RT : Rr → Re} {GL : Empty → Gm} {RL : Empty → List Res} {S1 : Type} {G : S1 → Gm} {R : S1 → List Res} {o1 : Cf Rr Empty S1} {k : S1 → Rr} (h : Blk X W A g l (Ou RT GL RL (NxP G R) o1)) (h2 : ∀ s, o1 = .nx s → Bo X W rest (G s) (R s) (Rt RT) (k s)) :
    Blk X W A g l { Rt RT (bndV o1 k) with nx := fun g' l' => Blk X W rest g' l' (Rt RT (bndV o1 k)) } := by
  cases o1 with
  | nx s => exact h.imp (fun g' l' hh => by obtain ⟨w, q⟩ := hh; subst w; subst q; exact h2 _ rfl) (fun _ _ h => h.elim) (fun _ _ h => h.elim) (fun _ _ h => h.elim) (fun _ _ _ _ h => h.elim)
  | rt s => exact h.imp (fun _ _ h => h.elim) (fun _ _ h => h) (fun _ _ h => h.elim) (fun _ _ h => h.elim) (fun _ _ _ _ h => h)
  | bk s => exact nomatch s
  | ct s => exact nomatch s
theorem bo_ifB {RT : Rr → Re} {GL : Ll → Gm} {RL : Ll → List Res} {S1 : Type} {NX : Ss → Gm → List Res → Prop} {o1 o2 : Cf Rr Ll S1} {k : S1 → Cf Rr Ll Ss} (G : S1 → Gm) (R : S1 → List Res) (hc : Ts X c g l b) (h1 : b = true → Bo X W A g l (Ou RT GL RL (NxP G R)) o1) (h2 : b = false → Bo X W B g l (Ou RT GL RL (NxP G R)) o2)
    (h : ∀ s, cond b o1 o2 = .nx s → Bo X W rest (G s) (R s) (Ou RT GL RL NX) (k s)) : Bo X W (.If c A B pos :: rest) g l (Ou RT GL RL NX) (bnd (cond b o1 o2) k) :=
  blk_if hc (fun e => by subst e; exact ou_bind (h1 rfl) h) (fun e => by subst e; exact ou_bind (h2 rfl) h)
theorem bo_ifV {RT : Rr → Re} {GL : Empty → Gm} {RL : Empty → List Res} {S1 : Type} {o1 o2 : Cf Rr Empty S1} {k : S1 → Rr} (G : S1 → Gm) (R : S1 → List Res) (hc : Ts X c g l b) (h1 : b = true → Bo X W A g l (Ou RT GL RL (NxP G R)) o1) (h2 : b = false → Bo X W B g l (Ou RT GL RL (NxP G R)) o2)
    (h : ∀ s, cond b o1 o2 = .nx s → Bo X W rest (G s) (R s) (Rt RT) (k s)) : Bo X W (.If c A B pos :: rest) g l (Rt RT) (bndV (cond b o1 o2) k) :=
  blk_if hc (fun e => by subst e; exact ov_bind (h1 rfl) h) (fun e => by subst e; exact ov_bind (h2 rfl) h)
/-! ### leaves -/
theorem bo_nx {G : Ss → Gm} {R : Ss → List Res} {s : Ss} (w : Wk g (G s)) (h : l = R s) : Bo X W [] g l (Nx G R) s := Blk.weak w (blk_nil ⟨rfl, h⟩)
theorem bo_nxO {RT : Rr → Re} {GL : Ll → Gm} {RL : Ll → List Res} {G : Ss → Gm} {R : Ss → List Res} {s : Ss} (w : Wk g (G s)) (h : l = R s) : Bo X W [] g l (Ou RT GL RL (NxP G R)) (.nx s) := Blk.weak w (blk_nil ⟨rfl, h⟩)
theorem bo_bk {RT : Rr → Re} {GL : Ll → Gm} {RL : Ll → List Res} {NX : Ss → Gm → List Res → Prop} {s : Ll} (w : Wk g (GL s)) (h : l = RL s) : Bo X W (.Break pos :: rest) g l (Ou RT GL RL NX) (.bk s) := Blk.weak w (blk_brk ⟨rfl, h⟩)
theorem bo_ct {RT : Rr → Re} {GL : Ll → Gm} {RL : Ll → List Res} {NX : Ss → Gm → List Res → Prop} {s : Ll} (w : Wk g (GL s)) (h : l = RL s) : Bo X W (.Continue pos :: rest) g l (Ou RT GL RL NX) (.ct s) := Blk.weak w (blk_cont ⟨rfl, h⟩)
/-- what a def gives back: frozen; a new list -/
abbrev PuR (enc : Rr → D) : Rr → Re := fun r => { rt := fun d l => d = enc r ∧ l = [] }
abbrev FrR (K : PySem.W.Frag) (enc : α → D) : List α → Re := fun r => { rt := fun d l => ∃ p, d = .adr p ∧ l = [ownL K p (r.map enc)] }
theorem Px.drop (h : Px X e g l d) : Ev X e g l (fun d' l' => d' = d ∧ l' = []) := fun en T σ H Q s k => h en T σ H Q s fun v H' s' => k v d [] H' ⟨rfl, rfl⟩ (S.dropO (l' := l) (by rw [List.append_nil]; exact s'))
theorem bo_ret {enc : Rr → D} {r : Rr} (he : Px X e g l (enc r)) : Bo X W (.Return (some e) pos :: rest) g l (Rt (PuR enc)) r := blk_retX he.drop fun d l' h => h
theorem bo_retO {enc : Rr → D} {GL : Ll → Gm} {RL : Ll → List Res} {NX : Ss → Gm → List Res → Prop} {r : Rr} (he : Px X e g l (enc r)) : Bo X W (.Return (some e) pos :: rest) g l (Ou (PuR enc) GL RL NX) (.rt r) := blk_retX he.drop fun d l' h => h
theorem bo_retN {enc : Rr → D} {r : Rr} (he : enc r = .non) : Bo X W (.Return none pos :: rest) g l (Rt (PuR enc)) r := blk_frzAll (blk_retN ⟨he.symm, rfl⟩)
theorem bo_end {enc : Rr → D} {r : Rr} (he : enc r = .non) : Bo X W [] g l (Rv (PuR enc)) r := blk_frzAll (blk_nil ⟨he.symm, rfl⟩)
theorem Ev.dropL {ds : List D} (h : EvL X e g l ds) : Ev X e g l (fun d' l' => ∃ p, d' = .adr p ∧ l' = [ownL X.K p ds]) := fun en T σ H Q s k => h en T σ H Q s fun v d l' H' ⟨p, e1, e2⟩ s' => by
  subst e1; subst e2
  exact k v _ _ H' ⟨p, rfl, rfl⟩ (S.dropO (l' := l) (S.perm (List.perm_append_comm (l₁ := [ownL X.K p ds]) (l₂ := l)) s'))
theorem bo_retL {α : Type} {enc : α → D} {r : List α} (he : EvL X e g l (r.map enc)) : Bo X W (.Return (some e) pos :: rest) g l (Rt (FrR X.K enc)) r := blk_retX he.dropL fun d l' h => h
theorem bo_retLO {α : Type} {enc : α → D} {GL : Ll → Gm} {RL : Ll → List Res} {NX : Ss → Gm → List Res → Prop} {r : List α} (he : EvL X e g l (r.map enc)) : Bo X W (.Return (some e) pos :: rest) g l (Ou (FrR X.K enc) GL RL NX) (.rt r) := blk_retX he.dropL fun d l' h => h
/-- an owned list, as it stands, is given back -/
theorem ev_ownL {ds : List D} {kk : Nat} {q : Addr} (he : Px X e g l (.adr q)) (hk : l[kk]? = some (ownL X.K q ds)) : Ev X e g l (fun d' l' => ∃ p, d' = .adr p ∧ l' = [ownL X.K p ds]) := fun en T σ H Q s k => he en T σ H Q s fun v H' s' =>
  k v _ _ H' ⟨q, rfl, rfl⟩ (S.dropO (l' := l.eraseIdx kk) (S.perm ((perm_at hk).trans (List.perm_append_comm (l₁ := [ownL X.K q ds]) (l₂ := l.eraseIdx kk))) s'))
theorem bo_retW {α : Type} {enc : α → D} {r : List α} {kk : Nat} {q : Addr} (he : Px X e g l (.adr q)) (hk : l[kk]? = some (ownL X.K q (r.map enc))) : Bo X W (.Return (some e) pos :: rest) g l (Rt (FrR X.K enc)) r := blk_retX (ev_ownL he hk) fun d l' h => h
/-- an owned list is frozen -/
theorem bo_frz {sts : List Stmt} {q : Addr} {ds : List D} {i kk : Nat} (hi : nth g i = some (.adr q)) (hk : l[kk]? = some (ownL X.K q ds)) (h : Bo X W sts (g.set i (some (.lst ds))) (l.eraseIdx kk) Om m) : Bo X W sts g l Om m := Blk.perm (perm_at hk) (Blk.frz hi h)
theorem Blk.perm' {sts : List Stmt} {Φ : Po} (h : l.Perm l') (k : Blk X W sts g l' Φ) : Blk X W sts g l Φ := Blk.perm h k
theorem S.ownLd {K : PySem.W.Frag} {en : En} {T : Tm} {σ : L2.St} {H : Hp} {q : Addr} {ds : List D} {l : List Res} (s : S K en g (T.and K (.ref q) (.adr q)) (ownL K q ds :: l) σ H) : S K en g (T.and K (.ref q) (.lst ds)) l σ H := by
  obtain ⟨F, M, a⟩ := s
  obtain ⟨F', M', a', f, _⟩ := a.frz (P := fun F' => Fd K F' (.ref q) (.lst ds)) fun A hA => by
    obtain ⟨vs, f, rfl⟩ := hA
    have hF : F q = none := by
      obtain ⟨A, B, rfl, _, ⟨_, _, rfl⟩, _⟩ := a.rs
      exact a.dj.sym q _ (join_l one_same)
    exact .lst (by rw [join_r hF]; exact one_same) (FdAll.mono (fun x o h => join_l h) _ f)
  exact ⟨F', M', a'.tmp ⟨f, a'.tm.2⟩⟩
/-- an owned list is given back for good -/
theorem ev_retF {ds : List D} {kk : Nat} {q : Addr} (he : Px X e g l (.adr q)) (hk : l[kk]? = some (ownL X.K q ds)) : Ev X e g l (fun d' l' => d' = .lst ds ∧ l' = []) := fun en T σ H Q s k => he en T σ H Q s fun v H' s' => by
  obtain ⟨F, M, a⟩ := id s'
  have fv := a.tm.1
  cases fv
  have s2 := (S.perm (perm_at hk) s').ownLd
  exact k _ _ _ H' ⟨rfl, rfl⟩ (S.dropO (l' := l.eraseIdx kk) (by rw [List.append_nil]; exact s2))
theorem bo_retF {α : Type} {enc : α → D} {r : List α} {kk : Nat} {q : Addr} (he : Px X e g l (.adr q)) (hk : l[kk]? = some (ownL X.K q (r.map enc))) : Bo X W (.Return (some e) pos :: rest) g l (Rt (PuR (fun r : List α => D.lst (r.map enc)))) r := blk_retX (ev_retF he hk) fun d l' h => h
/-! ### loops -/
theorem loop_step {step : S1 → α → Cf Rr S1 S1} {xs : List α} {i : Nat} {x : α} {s : S1} (h : xs[i]? = some x) : (loop step (xs.drop i) s : Cf Rr Ll S1) = match step s x with
    | .nx s' => loop step (xs.drop (i + 1)) s' | .ct s' => loop step (xs.drop (i + 1)) s' | .bk s' => .nx s' | .rt r => .rt r := by
  obtain ⟨hl, e⟩ := List.getElem?_eq_some_iff.mp h
  rw [List.drop_eq_getElem_cons hl, e]
  rfl
theorem loop_end {step : S1 → α → Cf Rr S1 S1} {xs : List α} {s : S1} : (loop step (xs.drop xs.length) s : Cf Rr Ll S1) = .nx s := by
  rw [List.drop_length]; rfl
theorem bo_for {tg iter : Expr} {lk : List Res} {gt : TG} {is : List Nat} {xs : List α} {step : S1 → α → S1} {s0 : S1} {k : S1 → β} (enc : α → D) (G : S1 → Gm) (R : S1 → List Res) (J : Nat → S1 → Prop) (hp : PassesOwn (model X.prog X.w) X.A X.env X.xe) (hc : X.calm = true) (hi : ItwP X tg iter g l lk (xs.map enc)) (hg : PG X tg gt)
    (h0 : Wk g (G s0)) (hl : l = R s0) (j0 : J 0 s0)
    (hs : ∀ i x s, xs[i]? = some x → s = (xs.take i).foldl step s0 → J i s → J (i + 1) (step s x) ∧ ∃ es, Tg X.K gt is (enc x) es ∧ Bo X W body (sets (G s) is es) (R s) (Nx G R) (step s x))
    (h : ∀ s, s = xs.foldl step s0 → J xs.length s → Bo X W rest (G s) (R s) Om (k s)) (hf : ∀ x, foldedSetIterable iter X.env x = pure x := by intro _; rfl) (hk : ∀ s, SubR (R s) lk := by intro s; first | exact subr0 | exact subr1 0 rfl | exact subr1 1 rfl | exact subr1 2 rfl | exact subr1 3 rfl | exact subr1 4 rfl | exact subr1 5 rfl | exact subr2 0 0 rfl rfl | exact subr2 1 0 rfl rfl | exact subr2 0 1 rfl rfl | exact subr2 1 1 rfl rfl | exact subr2 2 0 rfl rfl | exact subr2 2 1 rfl rfl) : Bo X W (.For tg iter body [] pos :: rest) g l Om (lt (xs.foldl step s0) k) := by
  subst hl
  refine blk_for (is := is) (fun i g' l' => (i = 0 ∧ g' = g ∧ l' = R s0) ∨ ∃ s, s = (xs.take i).foldl step s0 ∧ J i s ∧ g' = G s ∧ l' = R s) hp hc hi hg (.inl ⟨rfl, rfl, rfl⟩) (fun i d g' l' hd hI => ?_) (fun g' l' hI => ?_) hf (fun i g' l' hI => by
      rcases hI with ⟨_, _, rfl⟩ | ⟨s, _, _, _, rfl⟩
      · exact hk _
      · exact hk _)
  · rw [List.getElem?_map] at hd
    cases q : xs[i]? with
    | none => rw [q] at hd; cases hd
    | some x =>
      rw [q] at hd
      cases hd
      obtain ⟨s, e1, e2, e3, e4⟩ : ∃ s, s = (xs.take i).foldl step s0 ∧ J i s ∧ Wk g' (G s) ∧ l' = R s := by
        rcases hI with ⟨rfl, rfl, rfl⟩ | ⟨s, h1, h2, rfl, rfl⟩
        · exact ⟨s0, rfl, j0, h0, rfl⟩
        · exact ⟨s, h1, h2, .rf, rfl⟩
      subst e4
      obtain ⟨h1, es, h2, h3⟩ := hs i x s q e1 e2
      have tk : (xs.take (i + 1)).foldl step s0 = step s x := by
        rw [List.take_add_one, q, List.foldl_append, ← e1]; rfl
      exact ⟨es, h2, Blk.weak e3.sets (h3.imp (fun g2 l2 ⟨w, q2⟩ => .inr ⟨_, tk.symm, h1, w, q2⟩) (fun _ _ h => h.elim) (fun _ _ h => h.elim) (fun _ _ h => h.elim) (fun _ _ _ _ h => h.elim))⟩
  · rw [List.length_map] at hI
    obtain ⟨s, e1, e2, e3, e4⟩ : ∃ s, s = xs.foldl step s0 ∧ J xs.length s ∧ Wk g' (G s) ∧ l' = R s := by
      rcases hI with ⟨h1, rfl, rfl⟩ | ⟨s, h1, h2, rfl, rfl⟩
      · have : xs = [] := List.eq_nil_of_length_eq_zero h1
        subst this
        exact ⟨s0, rfl, j0, h0, rfl⟩
      · rw [List.take_length] at h1
        exact ⟨s, h1, h2, .rf, rfl⟩
    subst e4
    have z := h s e1 e2
    rw [e1] at z
    refine Blk.weak (g' := G s) e3 ?_
    rw [e1]
    exact z
theorem bo_forV {RT : Rr → Re} {tg iter : Expr} {lk : List Res} {gt : TG} {is : List Nat} {xs : List α} {step : S1 → α → Cf Rr S1 S1} {s0 : S1} {k : S1 → Rr} (enc : α → D) (G : S1 → Gm) (R : S1 → List Res) (J : Nat → S1 → Prop) (Jb : S1 → Prop) (hp : PassesOwn (model X.prog X.w) X.A X.env X.xe) (hc : X.calm = true) (hi : ItwP X tg iter g l lk (xs.map enc)) (hg : PG X tg gt)
    (h0 : Wk g (G s0)) (hl : l = R s0) (j0 : J 0 s0)
    (hs : ∀ i x s, xs[i]? = some x → (loop step (xs.drop i) s : Cf Rr Empty S1) = loop step xs s0 → J i s → ((∀ s', step s x = .nx s' → J (i + 1) s') ∧ (∀ s', step s x = .ct s' → J (i + 1) s') ∧ ∀ s', step s x = .bk s' → Jb s') ∧ ∃ es, Tg X.K gt is (enc x) es ∧ Bo X W body (sets (G s) is es) (R s) (Ou RT G R (NxP G R)) (step s x))
    (jb : ∀ s, J xs.length s → Jb s) (h : ∀ s, (loop step xs s0 : Cf Rr Empty S1) = .nx s → Jb s → Bo X W rest (G s) (R s) (Rt RT) (k s)) (hf : ∀ x, foldedSetIterable iter X.env x = pure x := by intro _; rfl) (hk : ∀ s, SubR (R s) lk := by intro s; first | exact subr0 | exact subr1 0 rfl | exact subr1 1 rfl | exact subr1 2 rfl | exact subr1 3 rfl | exact subr1 4 rfl | exact subr1 5 rfl | exact subr2 0 0 rfl rfl | exact subr2 1 0 rfl rfl | exact subr2 0 1 rfl rfl | exact subr2 1 1 rfl rfl | exact subr2 2 0 rfl rfl | exact subr2 2 1 rfl rfl) : Bo X W (.For tg iter body [] pos :: rest) g l (Rt RT) (bndV (loop step xs s0) k) := by
  subst hl
  refine blk_for (is := is) (fun i g' l' => (i = 0 ∧ g' = g ∧ l' = R s0) ∨ ∃ s, (loop step (xs.drop i) s : Cf Rr Empty S1) = loop step xs s0 ∧ J i s ∧ g' = G s ∧ l' = R s) hp hc hi hg (.inl ⟨rfl, rfl, rfl⟩) (fun i d g' l' hd hI => ?_) (fun g' l' hI => ?_) hf (fun i g' l' hI => by
      rcases hI with ⟨_, _, rfl⟩ | ⟨s, _, _, _, rfl⟩
      · exact hk _
      · exact hk _)
  · rw [List.getElem?_map] at hd
    cases q : xs[i]? with
    | none => rw [q] at hd; cases hd
    | some x =>
      rw [q] at hd
      cases hd
      obtain ⟨s, e1, e2, e3, e4⟩ : ∃ s, (loop step (xs.drop i) s : Cf Rr Empty S1) = loop step xs s0 ∧ J i s ∧ Wk g' (G s) ∧ l' = R s := by
        rcases hI with ⟨rfl, rfl, rfl⟩ | ⟨s, h1, h2, rfl, rfl⟩
        · exact ⟨s0, rfl, j0, h0, rfl⟩
        · exact ⟨s, h1, h2, .rf, rfl⟩
      subst e4
      obtain ⟨⟨h1, h1', h1b⟩, es, h2, h3⟩ := hs i x s q e1 e2
      refine ⟨es, h2, ?_⟩
      rw [loop_step q] at e1
      refine Blk.weak e3.sets ?_
      unfold Bo at h3
      generalize step s x = o at e1 h1 h1' h1b h3
      cases o with
      | nx s' => exact h3.imp (fun g2 l2 h => .inr ⟨s', e1, h1 s' rfl, h.1, h.2⟩) (fun _ _ h => h.elim) (fun _ _ h => h.elim) (fun _ _ h => h.elim) (fun _ _ _ _ h => h.elim)
      | ct s' => exact h3.imp (fun g2 l2 h => h.elim) (fun _ _ h => h.elim) (fun _ _ h => h.elim) (fun _ _ h => .inr ⟨s', e1, h1' s' rfl, h.1, h.2⟩) (fun _ _ _ _ h => h.elim)
      | rt r =>
        have e1 : (.rt r : Cf Rr Empty S1) = loop step xs s0 := e1
        rw [← e1]
        exact h3.imp (fun g2 l2 h => h.elim) (fun _ _ h => h) (fun _ _ h => h.elim) (fun _ _ h => h.elim) (fun _ _ _ _ h => h)
      | bk s' =>
        have e1 : (.nx s' : Cf Rr Empty S1) = loop step xs s0 := e1
        have z := h s' e1.symm (h1b s' rfl)
        rw [← e1]
        exact h3.imp (fun g2 l2 h => h.elim) (fun _ _ h => h.elim) (fun g2 l2 hh => by obtain ⟨w, q2⟩ := hh; subst w; subst q2; exact z) (fun _ _ h => h.elim) (fun _ _ _ _ h => h.elim)
  · rw [List.length_map] at hI
    obtain ⟨s, e1, e2, e3, e4⟩ : ∃ s, (loop step (xs.drop xs.length) s : Cf Rr Empty S1) = loop step xs s0 ∧ J xs.length s ∧ Wk g' (G s) ∧ l' = R s := by
      rcases hI with ⟨h1, rfl, rfl⟩ | ⟨s, h1, h2, rfl, rfl⟩
      · have : xs = [] := List.eq_nil_of_length_eq_zero h1
        subst this
        exact ⟨s0, rfl, j0, h0, rfl⟩
      · exact ⟨s, h1, h2, .rf, rfl⟩
    rw [loop_end] at e1
    subst e4
    have z := h s e1.symm (jb s e2)
    refine Blk.weak (g' := G s) e3 ?_
    rw [← e1]
    exact z
theorem bo_forB {RT : Rr → Re} {GL : Ll → Gm} {RL : Ll → List Res} {NX : Ss → Gm → List Res → Prop} {tg iter : Expr} {lk : List Res} {gt : TG} {is : List Nat} {xs : List α} {step : S1 → α → Cf Rr S1 S1} {s0 : S1} {k : S1 → Cf Rr Ll Ss} (enc : α → D) (G : S1 → Gm) (R : S1 → List Res) (J : Nat → S1 → Prop) (Jb : S1 → Prop) (hp : PassesOwn (model X.prog X.w) X.A X.env X.xe) (hc : X.calm = true) (hi : ItwP X tg iter g l lk (xs.map enc)) (hg : PG X tg gt)
    (h0 : Wk g (G s0)) (hl : l = R s0) (j0 : J 0 s0)
    (hs : ∀ i x s, xs[i]? = some x → (loop step (xs.drop i) s : Cf Rr Ll S1) = loop step xs s0 → J i s → ((∀ s', step s x = .nx s' → J (i + 1) s') ∧ (∀ s', step s x = .ct s' → J (i + 1) s') ∧ ∀ s', step s x = .bk s' → Jb s') ∧ ∃ es, Tg X.K gt is (enc x) es ∧ Bo X W body (sets (G s) is es) (R s) (Ou RT G R (NxP G R)) (step s x))
    (jb : ∀ s, J xs.length s → Jb s) (h : ∀ s, (loop step xs s0 : Cf Rr Ll S1) = .nx s → Jb s → Bo X W rest (G s) (R s) (Ou RT GL RL NX) (k s)) (hf : ∀ x, foldedSetIterable iter X.env x = pure x := by intro _; rfl) (hk : ∀ s, SubR (R s) lk := by intro s; first | exact subr0 | exact subr1 0 rfl | exact subr1 1 rfl | exact subr1 2 rfl | exact subr1 3 rfl | exact subr1 4 rfl | exact subr1 5 rfl | exact subr2 0 0 rfl rfl | exact subr2 1 0 rfl rfl | exact subr2 0 1 rfl rfl | exact subr2 1 1 rfl rfl | exact subr2 2 0 rfl rfl | exact subr2 2 1 rfl rfl) : Bo X W (.For tg iter body [] pos :: rest) g l (Ou RT GL RL NX) (bnd (loop step xs s0) k) := by
  subst hl
  refine blk_for (is := is) (fun i g' l' => (i = 0 ∧ g' = g ∧ l' = R s0) ∨ ∃ s, (loop step (xs.drop i) s : Cf Rr Ll S1) = loop step xs s0 ∧ J i s ∧ g' = G s ∧ l' = R s) hp hc hi hg (.inl ⟨rfl, rfl, rfl⟩) (fun i d g' l' hd hI => ?_) (fun g' l' hI => ?_) hf (fun i g' l' hI => by
      rcases hI with ⟨_, _, rfl⟩ | ⟨s, _, _, _, rfl⟩
      · exact hk _
      · exact hk _)
  · rw [List.getElem?_map] at hd
    cases q : xs[i]? with
    | none => rw [q] at hd; cases hd
    | some x =>
      rw [q] at hd
      cases hd
      obtain ⟨s, e1, e2, e3, e4⟩ : ∃ s, (loop step (xs.drop i) s : Cf Rr Ll S1) = loop step xs s0 ∧ J i s ∧ Wk g' (G s) ∧ l' = R s := by
        rcases hI with ⟨rfl, rfl, rfl⟩ | ⟨s, h1, h2, rfl, rfl⟩
        · exact ⟨s0, rfl, j0, h0, rfl⟩
        · exact ⟨s, h1, h2, .rf, rfl⟩
      subst e4
      obtain ⟨⟨h1, h1', h1b⟩, es, h2, h3⟩ := hs i x s q e1 e2
      refine ⟨es, h2, ?_⟩
      rw [loop_step q] at e1
      refine Blk.weak e3.sets ?_
      unfold Bo at h3
      generalize step s x = o at e1 h1 h1' h1b h3
      cases o with
      | nx s' => exact h3.imp (fun g2 l2 h => .inr ⟨s', e1, h1 s' rfl, h.1, h.2⟩) (fun _ _ h => h.elim) (fun _ _ h => h.elim) (fun _ _ h => h.elim) (fun _ _ _ _ h => h.elim)
      | ct s' => exact h3.imp (fun g2 l2 h => h.elim) (fun _ _ h => h.elim) (fun _ _ h => h.elim) (fun _ _ h => .inr ⟨s', e1, h1' s' rfl, h.1, h.2⟩) (fun _ _ _ _ h => h.elim)
      | rt r =>
        have e1 : (.rt r : Cf Rr Ll S1) = loop step xs s0 := e1
        rw [← e1]
        exact h3.imp (fun g2 l2 h => h.elim) (fun _ _ h => h) (fun _ _ h => h.elim) (fun _ _ h => h.elim) (fun _ _ _ _ h => h)
      | bk s' =>
        have e1 : (.nx s' : Cf Rr Ll S1) = loop step xs s0 := e1
        have z := h s' e1.symm (h1b s' rfl)
        rw [← e1]
        exact h3.imp (fun g2 l2 h => h.elim) (fun _ _ h => h.elim) (fun g2 l2 hh => by obtain ⟨w, q2⟩ := hh; subst w; subst q2; exact z) (fun _ _ h => h.elim) (fun _ _ _ _ h => h.elim)
  · rw [List.length_map] at hI
    obtain ⟨s, e1, e2, e3, e4⟩ : ∃ s, (loop step (xs.drop xs.length) s : Cf Rr Ll S1) = loop step xs s0 ∧ J xs.length s ∧ Wk g' (G s) ∧ l' = R s := by
      rcases hI with ⟨h1, rfl, rfl⟩ | ⟨s, h1, h2, rfl, rfl⟩
      · have : xs = [] := List.eq_nil_of_length_eq_zero h1
        subst this
        exact ⟨s0, rfl, j0, h0, rfl⟩
      · exact ⟨s, h1, h2, .rf, rfl⟩
    rw [loop_end] at e1
    subst e4
    have z := h s e1.symm (jb s e2)
    refine Blk.weak (g' := G s) e3 ?_
    rw [← e1]
    exact z
theorem bo_while {cb : S1 → Bool} {step : S1 → S1} {n0 : Nat} {s0 : S1} {k : S1 → β} (G : S1 → Gm) (R : S1 → List Res) (J : Nat → S1 → Prop) (hp : PassesOwn (model X.prog X.w) X.A X.env X.xe)
    (h0 : Wk g (G s0)) (hl : l = R s0) (j0 : J n0 s0)
    (hs : ∀ n s, J n s → Ts X c (G s) (R s) (cb s) ∧ (cb s = true → ∃ n', n = n' + 1 ∧ J n' (step s) ∧ Bo X W body (G s) (R s) (Nx G R) (step s)))
    (h : ∀ n s, s = whileF cb step n0 s0 → J n s → cb s = false → Bo X W rest (G s) (R s) Om (k s)) : Bo X W (.While c body [] pos :: rest) g l Om (lt (whileF cb step n0 s0) k) := by
  subst hl
  refine Blk.weak h0 ?_
  refine blk_while (fun n g' l' => ∃ s, whileF cb step n s = whileF cb step n0 s0 ∧ J n s ∧ g' = G s ∧ l' = R s) hp n0 ⟨s0, rfl, j0, rfl, rfl⟩ fun n g' l' ⟨s, e1, e2, e3, e4⟩ => ?_
  subst e3; subst e4
  obtain ⟨h1, h2⟩ := hs n s e2
  refine ⟨cb s, h1, fun hb => ?_, fun hb => ?_⟩
  · obtain ⟨n', rfl, j, bo⟩ := h2 hb
    have e : whileF cb step (n' + 1) s = whileF cb step n' (step s) := by show cond (cb s) _ _ = _; rw [hb]; rfl
    rw [e] at e1
    exact bo.imp (fun g2 l2 h => ⟨n', Nat.lt_succ_self _, _, e1, j, h.1, h.2⟩) (fun _ _ h => h.elim) (fun _ _ h => h.elim) (fun _ _ h => h.elim) (fun _ _ _ _ h => h.elim)
  · have e : whileF cb step n s = s := by
      cases n with
      | zero => rfl
      | succ n => show cond (cb s) _ _ = _; rw [hb]; rfl
    rw [e] at e1
    have z := h n s e1 e2 hb
    rw [e1] at z
    rw [e1]
    exact z
theorem whileR_step {cb : S1 → Bool} {step : S1 → Cf Rr S1 S1} {n : Nat} {s : S1} (h : cb s = true) : (whileR cb step (n + 1) s : Cf Rr Ll S1) = match step s with
    | .nx s' => whileR cb step n s' | .ct s' => whileR cb step n s' | .bk s' => .nx s' | .rt r => .rt r := by
  show cond (cb s) _ _ = _
  rw [h]
  rfl
theorem whileR_end {cb : S1 → Bool} {step : S1 → Cf Rr S1 S1} {n : Nat} {s : S1} (h : cb s = false) : (whileR cb step n s : Cf Rr Ll S1) = .nx s := by
  cases n with
  | zero => rfl
  | succ n => show cond (cb s) _ _ = _; rw [h]; rfl
theorem bo_whileV {RT : Rr → Re} {cb : S1 → Bool} {step : S1 → Cf Rr S1 S1} {n0 : Nat} {s0 : S1} {k : S1 → Rr} (G : S1 → Gm) (R : S1 → List Res) (J : Nat → S1 → Prop) (Jb : S1 → Prop) (hp : PassesOwn (model X.prog X.w) X.A X.env X.xe)
    (h0 : Wk g (G s0)) (hl : l = R s0) (j0 : J n0 s0)
    (hs : ∀ n s, J n s → Ts X c (G s) (R s) (cb s) ∧ (cb s = true → ∃ n', n = n' + 1 ∧ ((∀ s', step s = .nx s' → J n' s') ∧ (∀ s', step s = .ct s' → J n' s') ∧ ∀ s', step s = .bk s' → Jb s') ∧ Bo X W body (G s) (R s) (Ou RT G R (NxP G R)) (step s)))
    (jb : ∀ n s, J n s → cb s = false → Jb s) (h : ∀ s, (whileR cb step n0 s0 : Cf Rr Empty S1) = .nx s → Jb s → Bo X W rest (G s) (R s) (Rt RT) (k s)) : Bo X W (.While c body [] pos :: rest) g l (Rt RT) (bndV (whileR cb step n0 s0) k) := by
  subst hl
  refine Blk.weak h0 ?_
  refine blk_while (fun n g' l' => ∃ s, (whileR cb step n s : Cf Rr Empty S1) = whileR cb step n0 s0 ∧ J n s ∧ g' = G s ∧ l' = R s) hp n0 ⟨s0, rfl, j0, rfl, rfl⟩ fun n g' l' ⟨s, e1, e2, e3, e4⟩ => ?_
  subst e3; subst e4
  obtain ⟨h1, h2⟩ := hs n s e2
  refine ⟨cb s, h1, fun hb => ?_, fun hb => ?_⟩
  · obtain ⟨n', rfl, ⟨j1, j2, j3⟩, bo⟩ := h2 hb
    rw [whileR_step hb] at e1
    unfold Bo at bo
    generalize step s = o at e1 j1 j2 j3 bo
    cases o with
    | nx s' => exact bo.imp (fun g2 l2 h => ⟨n', Nat.lt_succ_self _, s', e1, j1 s' rfl, h.1, h.2⟩) (fun _ _ h => h.elim) (fun _ _ h => h.elim) (fun _ _ h => h.elim) (fun _ _ _ _ h => h.elim)
    | ct s' => exact bo.imp (fun g2 l2 h => h.elim) (fun _ _ h => h.elim) (fun _ _ h => h.elim) (fun g2 l2 h => ⟨n', Nat.lt_succ_self _, s', e1, j2 s' rfl, h.1, h.2⟩) (fun _ _ _ _ h => h.elim)
    | rt r =>
      have e1 : (.rt r : Cf Rr Empty S1) = whileR cb step n0 s0 := e1
      rw [← e1]
      exact bo.imp (fun g2 l2 h => h.elim) (fun _ _ h => h) (fun _ _ h => h.elim) (fun _ _ h => h.elim) (fun _ _ _ _ h => h)
    | bk s' =>
      have e1 : (.nx s' : Cf Rr Empty S1) = whileR cb step n0 s0 := e1
      have z := h s' e1.symm (j3 s' rfl)
      rw [← e1]
      exact bo.imp (fun g2 l2 h => h.elim) (fun _ _ h => h.elim) (fun g2 l2 hh => by obtain ⟨w, q2⟩ := hh; subst w; subst q2; exact z) (fun _ _ h => h.elim) (fun _ _ _ _ h => h.elim)
  · rw [whileR_end hb] at e1
    have z := h s e1.symm (jb n s e2 hb)
    rw [← e1]
    exact z
theorem bo_whileB {RT : Rr → Re} {GL : Ll → Gm} {RL : Ll → List Res} {NX : Ss → Gm → List Res → Prop} {cb : S1 → Bool} {step : S1 → Cf Rr S1 S1} {n0 : Nat} {s0 : S1} {k : S1 → Cf Rr Ll Ss} (G : S1 → Gm) (R : S1 → List Res) (J : Nat → S1 → Prop) (Jb : S1 → Prop) (hp : PassesOwn (model X.prog X.w) X.A X.env X.xe)
    (h0 : Wk g (G s0)) (hl : l = R s0) (j0 : J n0 s0)
    (hs : ∀ n s, J n s → Ts X c (G s) (R s) (cb s) ∧ (cb s = true → ∃ n', n = n' + 1 ∧ ((∀ s', step s = .nx s' → J n' s') ∧ (∀ s', step s = .ct s' → J n' s') ∧ ∀ s', step s = .bk s' → Jb s') ∧ Bo X W body (G s) (R s) (Ou RT G R (NxP G R)) (step s)))
    (jb : ∀ n s, J n s → cb s = false → Jb s) (h : ∀ s, (whileR cb step n0 s0 : Cf Rr Ll S1) = .nx s → Jb s → Bo X W rest (G s) (R s) (Ou RT GL RL NX) (k s)) : Bo X W (.While c body [] pos :: rest) g l (Ou RT GL RL NX) (bnd (whileR cb step n0 s0) k) := by
  subst hl
  refine Blk.weak h0 ?_
  refine blk_while (fun n g' l' => ∃ s, (whileR cb step n s : Cf Rr Ll S1) = whileR cb step n0 s0 ∧ J n s ∧ g' = G s ∧ l' = R s) hp n0 ⟨s0, rfl, j0, rfl, rfl⟩ fun n g' l' ⟨s, e1, e2, e3, e4⟩ => ?_
  subst e3; subst e4
  obtain ⟨h1, h2⟩ := hs n s e2
  refine ⟨cb s, h1, fun hb => ?_, fun hb => ?_⟩
  · obtain ⟨n', rfl, ⟨j1, j2, j3⟩, bo⟩ := h2 hb
    rw [whileR_step hb] at e1
    unfold Bo at bo
    generalize step s = o at e1 j1 j2 j3 bo
    cases o with
    | nx s' => exact bo.imp (fun g2 l2 h => ⟨n', Nat.lt_succ_self _, s', e1, j1 s' rfl, h.1, h.2⟩) (fun _ _ h => h.elim) (fun _ _ h => h.elim) (fun _ _ h => h.elim) (fun _ _ _ _ h => h.elim)
    | ct s' => exact bo.imp (fun g2 l2 h => h.elim) (fun _ _ h => h.elim) (fun _ _ h => h.elim) (fun g2 l2 h => ⟨n', Nat.lt_succ_self _, s', e1, j2 s' rfl, h.1, h.2⟩) (fun _ _ _ _ h => h.elim)
    | rt r =>
      have e1 : (.rt r : Cf Rr Ll S1) = whileR cb step n0 s0 := e1
      rw [← e1]
      exact bo.imp (fun g2 l2 h => h.elim) (fun _ _ h => h) (fun _ _ h => h.elim) (fun _ _ h => h.elim) (fun _ _ _ _ h => h)
    | bk s' =>
      have e1 : (.nx s' : Cf Rr Ll S1) = whileR cb step n0 s0 := e1
      have z := h s' e1.symm (j3 s' rfl)
      rw [← e1]
      exact bo.imp (fun g2 l2 h => h.elim) (fun _ _ h => h.elim) (fun g2 l2 hh => by obtain ⟨w, q2⟩ := hh; subst w; subst q2; exact z) (fun _ _ h => h.elim) (fun _ _ _ _ h => h.elim)
  · rw [whileR_end hb] at e1
    have z := h s e1.symm (jb n s e2 hb)
    rw [← e1]
    exact z
end
end Sx
set_option Elab.async false
set_option linter.all false
set_option maxRecDepth 100000
set_option maxHeartbeats 2000000
/-! Models: what is walked, comprehensions, things got from lists. -/
namespace Sx
open PySem L2
section
variable {X : Cx} {W : WX} {g g' : Gm} {l l' : List Res} {e e2 c o : Expr} {d d1 d2 : D} {pos p p2 : Pos} {rest A B body : List Stmt}
variable {α β γ : Type}
theorem Itw.to {lk : List Res} {tg iter : Expr} {ds ds' : List D} (h : ItwP X tg iter g l lk ds) (q : ds = ds') : ItwP X tg iter g l lk ds' := q ▸ h
/-- the whole numbers from lo on -/
def rngI (lo : Int) (n : Nat) : List Int := (List.range n).map fun i : Nat => lo + (i : Int)
theorem rngI_map {lo : Int} {n : Nat} : rng lo n = (rngI lo n).map D.int := by unfold rng rngI; rw [List.map_map]; rfl
theorem rngI_len {lo : Int} {n : Nat} : (rngI lo n).length = n := by unfold rngI; rw [List.length_map, List.length_range]
theorem rngI_get {lo : Int} {n i : Nat} {x : Int} (h : (rngI lo n)[i]? = some x) : i < n ∧ x = lo + (i : Int) := by
  unfold rngI at h
  rw [List.getElem?_map] at h
  obtain ⟨j, h1, h2⟩ := Option.map_eq_some_iff.mp h
  obtain ⟨h3, h4⟩ := List.getElem?_eq_some_iff.mp h1
  rw [List.length_range] at h3
  rw [List.getElem_range] at h4
  subst h4
  exact ⟨h3, h2.symm⟩
def enumI (xs : List α) : List (Int × α) := xs.zipIdx.map fun q => ((q.2 : Int), q.1)
theorem enumI_map {xs : List α} {enc : α → D} : enumD (xs.map enc) = (enumI xs).map fun q => D.tup [.int q.1, enc q.2] := by
  unfold enumD enumI
  rw [List.map_map, List.zipIdx_map, List.map_map]
  rfl
theorem enumI_len {xs : List α} : (enumI xs).length = xs.length := by unfold enumI; rw [List.length_map, List.length_zipIdx]
theorem enumI_get {xs : List α} {i : Nat} {x : Int × α} (h : (enumI xs)[i]? = some x) : x.1 = (i : Int) ∧ xs[i]? = some x.2 := by
  unfold enumI at h
  rw [List.getElem?_map, List.getElem?_zipIdx] at h
  cases q : xs[i]? with
  | none => rw [q] at h; cases h
  | some y =>
    rw [q] at h
    cases h
    exact ⟨by simp, rfl⟩
theorem zip_map {xs : List α} {ys : List β} {e1 : α → D} {e2 : β → D} : zipD (xs.map e1) (ys.map e2) = (xs.zip ys).map fun q => D.tup [e1 q.1, e2 q.2] := by
  unfold zipD
  rw [List.zip_map, List.map_map]
  rfl
theorem zip_get {xs : List α} {ys : List β} {i : Nat} {x : α × β} (h : (xs.zip ys)[i]? = some x) : xs[i]? = some x.1 ∧ ys[i]? = some x.2 := List.getElem?_zip_eq_some.mp h
def oneC (c : Nat) : Str := ⟨#[c]⟩
theorem signs_map {x : Str} : signs x = (TL.tl x).map fun c => D.str (oneC c) := rfl
theorem cut_map {f : α → β} {xs : List α} {lo hi : Option Int} : cut (xs.map f) lo hi = (cut xs lo hi).map f := by
  unfold cut
  rw [List.length_map, List.map_take, List.map_drop]
theorem cut_len {xs : List α} {lo hi : Option Int} : (cut xs lo hi).length ≤ xs.length := by
  unfold cut
  rw [List.length_take, List.length_drop]
  omega
theorem cut_mem {xs : List α} {lo hi : Option Int} {x : α} (h : x ∈ cut xs lo hi) : x ∈ xs := by
  unfold cut at h
  exact List.mem_of_mem_drop (List.mem_of_mem_take h)
/-- what stands at a place, counted from the end where it is below nought -/
def pyAt (xs : List α) (i : Int) (x0 : α) : α := xs.getD (if i < 0 then i + (xs.length : Int) else i).toNat x0
theorem atI_py {xs : List α} {i : Int} {x0 : α} (h0 : -(xs.length : Int) ≤ i) (h1 : i < xs.length) : atI xs i = some (pyAt xs i x0) := by
  unfold pyAt
  by_cases h : i < 0
  · have hl : (i + (xs.length : Int)).toNat < xs.length := by omega
    rw [if_pos h]
    unfold atI ixN
    rw [if_neg (by omega), if_pos h0]
    show xs[(i + (xs.length : Int)).toNat]? = _
    rw [List.getElem?_eq_getElem hl, List.getD_eq_getElem?_getD, List.getElem?_eq_getElem hl]
    rfl
  · rw [if_neg h]
    exact atI_in (by omega) h1
theorem atI_pyM {xs : List α} {i : Int} {x0 : α} {enc : α → D} (h0 : -(xs.length : Int) ≤ i) (h1 : i < xs.length) : atI (xs.map enc) i = some (enc (pyAt xs i x0)) := atI_map (atI_py h0 h1)
theorem pyAt_mem {xs : List α} {i : Int} {x0 : α} (h0 : -(xs.length : Int) ≤ i) (h1 : i < xs.length) : pyAt xs i x0 ∈ xs := by
  unfold pyAt
  split
  · have hl : (i + (xs.length : Int)).toNat < xs.length := by omega
    rw [List.getD_eq_getElem?_getD, List.getElem?_eq_getElem hl]
    exact List.getElem_mem hl
  · have hl : i.toNat < xs.length := by omega
    rw [List.getD_eq_getElem?_getD, List.getElem?_eq_getElem hl]
    exact List.getElem_mem hl
theorem pyAt_nn {xs : List α} {i : Int} {x0 : α} (h : 0 ≤ i) : pyAt xs i x0 = xs.getD i.toNat x0 := by
  unfold pyAt; rw [if_neg (by omega)]
/-! ### comprehensions -/
theorem ev_lcM {tg iter elt : Expr} {scope : Scope} {own : List (Str × Nat)} {lk : List Res} {gt : TG} {is : List Nat} {xs : List α} (enc : α → D) (encR : β → D) (F : α → β) (hc : X.calm = true) (hN : X.N.Nodup) (hi : ItwP X tg iter g l lk (xs.map enc)) (ok : BlkOk X.N X.env.scope scope own)
    (hg : Blkc X scope fun Y => PG Y tg gt) (his : ∀ i ∈ is, i ∈ own.map (·.2)) (hz : xs.length ≤ 10000)
    (hs : ∀ (i : Nat) (x : α), xs[i]? = some x → ∃ es, Tg X.K gt is (enc x) es ∧ Blkc X scope fun Y => Px Y elt (sets (wipeG g (own.map (·.2))) is es) l (encR (F x))) (hf : ∀ x, foldedSetIterable iter X.env x = pure x := by intro _; rfl) (hk : SubR l lk := by first | exact subr0 | exact subr1 0 rfl | exact subr1 1 rfl | exact subr1 2 rfl | exact subr1 3 rfl | exact subr1 4 rfl | exact subr1 5 rfl | exact subr2 0 0 rfl rfl | exact subr2 1 0 rfl rfl | exact subr2 0 1 rfl rfl | exact subr2 1 1 rfl rfl | exact subr2 2 0 rfl rfl | exact subr2 2 1 rfl rfl) :
    EvL X (.ListComp elt [⟨tg, iter, [], 0⟩] scope pos) g l ((xs.map F).map encR) :=
  ev_lc (rs := (xs.map F).map encR) hc hN hi ok hg his (by simp) (by rw [List.length_map, List.length_map]; exact Nat.le_trans hz (by decide)) (fun i d hd => by
    rw [List.getElem?_map] at hd
    obtain ⟨x, hx, rfl⟩ := Option.map_eq_some_iff.mp hd
    obtain ⟨es, h1, h2⟩ := hs i x hx
    exact ⟨es, _, h1, by rw [List.getElem?_map, List.getElem?_map, hx]; rfl, h2⟩) hf hk
theorem px_lcM {tg iter elt : Expr} {scope : Scope} {own : List (Str × Nat)} {lk : List Res} {gt : TG} {is : List Nat} {xs : List α} (enc : α → D) (encR : β → D) (F : α → β) (hc : X.calm = true) (hN : X.N.Nodup) (hi : ItwP X tg iter g l lk (xs.map enc)) (ok : BlkOk X.N X.env.scope scope own)
    (hg : Blkc X scope fun Y => PG Y tg gt) (his : ∀ i ∈ is, i ∈ own.map (·.2)) (hz : xs.length ≤ 10000)
    (hs : ∀ (i : Nat) (x : α), xs[i]? = some x → ∃ es, Tg X.K gt is (enc x) es ∧ Blkc X scope fun Y => Px Y elt (sets (wipeG g (own.map (·.2))) is es) l (encR (F x))) (hf : ∀ x, foldedSetIterable iter X.env x = pure x := by intro _; rfl) (hk : SubR l lk := by first | exact subr0 | exact subr1 0 rfl | exact subr1 1 rfl | exact subr1 2 rfl | exact subr1 3 rfl | exact subr1 4 rfl | exact subr1 5 rfl | exact subr2 0 0 rfl rfl | exact subr2 1 0 rfl rfl | exact subr2 0 1 rfl rfl | exact subr2 1 1 rfl rfl | exact subr2 2 0 rfl rfl | exact subr2 2 1 rfl rfl) :
    Px X (.ListComp elt [⟨tg, iter, [], 0⟩] scope pos) g l (.lst ((xs.map F).map encR)) := (ev_lcM enc encR F hc hN hi ok hg his hz hs hf hk).frz
theorem keepL_filt {xs : List α} {F : α → β} {encR : β → D} {cb : α → Bool} : keepL (xs.map fun x => if cb x = true then some (encR (F x)) else none) = ((xs.filter cb).map F).map encR := by
  induction xs with
  | nil => rfl
  | cons x xs ih =>
    rw [List.map_cons, List.filter_cons]
    cases h : cb x with
    | true =>
      rw [if_pos rfl, if_pos rfl, List.map_cons, List.map_cons, ← ih]
      rfl
    | false =>
      rw [if_neg (by simp), if_neg (by simp), ← ih]
      rfl
theorem ev_lcF {tg iter elt c : Expr} {scope : Scope} {own : List (Str × Nat)} {lk : List Res} {gt : TG} {is : List Nat} {xs : List α} (enc : α → D) (encR : β → D) (cb : α → Bool) (F : α → β) (hc : X.calm = true) (hN : X.N.Nodup) (hi : ItwP X tg iter g l lk (xs.map enc)) (ok : BlkOk X.N X.env.scope scope own)
    (hg : Blkc X scope fun Y => PG Y tg gt) (his : ∀ i ∈ is, i ∈ own.map (·.2)) (hz : xs.length ≤ 10000)
    (hs : ∀ (i : Nat) (x : α), xs[i]? = some x → ∃ es, Tg X.K gt is (enc x) es ∧ (Blkc X scope fun Y => Ts Y c (sets (wipeG g (own.map (·.2))) is es) l (cb x)) ∧ (cb x = true → Blkc X scope fun Y => Px Y elt (sets (wipeG g (own.map (·.2))) is es) l (encR (F x)))) (hf : ∀ x, foldedSetIterable iter X.env x = pure x := by intro _; rfl) (hk : SubR l lk := by first | exact subr0 | exact subr1 0 rfl | exact subr1 1 rfl | exact subr1 2 rfl | exact subr1 3 rfl | exact subr1 4 rfl | exact subr1 5 rfl | exact subr2 0 0 rfl rfl | exact subr2 1 0 rfl rfl | exact subr2 0 1 rfl rfl | exact subr2 1 1 rfl rfl | exact subr2 2 0 rfl rfl | exact subr2 2 1 rfl rfl) :
    EvL X (.ListComp elt [⟨tg, iter, [c], 0⟩] scope pos) g l (((xs.filter cb).map F).map encR) := by
  rw [← keepL_filt]
  exact ev_lcIf (rs := xs.map fun x => if cb x = true then some (encR (F x)) else none) hc hN hi ok hg his (by simp) (by rw [List.length_map]; exact Nat.le_trans hz (by decide)) (fun i d hd => by
    rw [List.getElem?_map] at hd
    obtain ⟨x, hx, rfl⟩ := Option.map_eq_some_iff.mp hd
    obtain ⟨es, h1, h2, h3⟩ := hs i x hx
    exact ⟨es, cb x, encR (F x), h1, by rw [List.getElem?_map, hx]; rfl, h2, h3⟩) hf hk
theorem px_lcF {tg iter elt c : Expr} {scope : Scope} {own : List (Str × Nat)} {lk : List Res} {gt : TG} {is : List Nat} {xs : List α} (enc : α → D) (encR : β → D) (cb : α → Bool) (F : α → β) (hc : X.calm = true) (hN : X.N.Nodup) (hi : ItwP X tg iter g l lk (xs.map enc)) (ok : BlkOk X.N X.env.scope scope own)
    (hg : Blkc X scope fun Y => PG Y tg gt) (his : ∀ i ∈ is, i ∈ own.map (·.2)) (hz : xs.length ≤ 10000)
    (hs : ∀ (i : Nat) (x : α), xs[i]? = some x → ∃ es, Tg X.K gt is (enc x) es ∧ (Blkc X scope fun Y => Ts Y c (sets (wipeG g (own.map (·.2))) is es) l (cb x)) ∧ (cb x = true → Blkc X scope fun Y => Px Y elt (sets (wipeG g (own.map (·.2))) is es) l (encR (F x)))) (hf : ∀ x, foldedSetIterable iter X.env x = pure x := by intro _; rfl) (hk : SubR l lk := by first | exact subr0 | exact subr1 0 rfl | exact subr1 1 rfl | exact subr1 2 rfl | exact subr1 3 rfl | exact subr1 4 rfl | exact subr1 5 rfl | exact subr2 0 0 rfl rfl | exact subr2 1 0 rfl rfl | exact subr2 0 1 rfl rfl | exact subr2 1 1 rfl rfl | exact subr2 2 0 rfl rfl | exact subr2 2 1 rfl rfl) :
    Px X (.ListComp elt [⟨tg, iter, [c], 0⟩] scope pos) g l (.lst (((xs.filter cb).map F).map encR)) := (ev_lcF enc encR cb F hc hN hi ok hg his hz hs hf hk).frz
variable {S1 : Type} {Om : S1 → Po}
/-- x = [..], on one line; (f: x is not changed behind it) -/
theorem bo_lcL {tg iter elt : Expr} {scope : Scope} {own : List (Str × Nat)} {lk : List Res} {gt : TG} {is : List Nat} {xs : List α} {i : Nat} {y : Str} {py spos : Pos} {k : List β → S1} (enc : α → D) (encR : β → D) (F : α → β) (hN : X.N.Nodup) (hy : X.N[i]? = some y) (hyl : X.env.scope.names.lookup y = some .local) (hc : X.calm = true) (hi : ItwP X tg iter g l lk (xs.map enc)) (ok : BlkOk X.N X.env.scope scope own)
    (hg : Blkc X scope fun Y => PG Y tg gt) (his : ∀ i ∈ is, i ∈ own.map (·.2)) (hz : xs.length ≤ 10000)
    (hs : ∀ (i : Nat) (x : α), xs[i]? = some x → ∃ es, Tg X.K gt is (enc x) es ∧ Blkc X scope fun Y => Px Y elt (sets (wipeG g (own.map (·.2))) is es) l (encR (F x)))
    (h : ∀ p ys, ys = xs.map F → Bo X W rest (g.set i (some (.adr p))) (ownL X.K p (ys.map encR) :: l) Om (k ys))
    (hsw : swapsWith (.ListComp elt [⟨tg, iter, [], 0⟩] scope pos) (some (.Name y py)) spos.line X.env = pure true := by rfl) (hf : ∀ x, foldedSetIterable iter X.env x = pure x := by intro _; rfl) (hk : SubR l lk := by first | exact subr0 | exact subr1 0 rfl | exact subr1 1 rfl | exact subr1 2 rfl | exact subr1 3 rfl | exact subr1 4 rfl | exact subr1 5 rfl | exact subr2 0 0 rfl rfl | exact subr2 1 0 rfl rfl | exact subr2 0 1 rfl rfl | exact subr2 1 1 rfl rfl | exact subr2 2 0 rfl rfl | exact subr2 2 1 rfl rfl) : Bo X W (.Assign [.Name y py] (.ListComp elt [⟨tg, iter, [], 0⟩] scope pos) spos :: rest) g l Om (lt (xs.map F) k) :=
  blk_setLcO (rs := (xs.map F).map encR) hc hN hy hyl hsw hi ok hg his (by simp) (by rw [List.length_map, List.length_map]; exact Nat.le_trans hz (by decide)) (fun i d hd => by
    rw [List.getElem?_map] at hd
    obtain ⟨x, hx, rfl⟩ := Option.map_eq_some_iff.mp hd
    obtain ⟨es, h1, h2⟩ := hs i x hx
    exact ⟨es, _, h1, by rw [List.getElem?_map, List.getElem?_map, hx]; rfl, h2⟩) (fun p => h p _ rfl) hf hk
theorem bo_lcLF {tg iter elt c : Expr} {scope : Scope} {own : List (Str × Nat)} {lk : List Res} {gt : TG} {is : List Nat} {xs : List α} {i : Nat} {y : Str} {py spos : Pos} {k : List β → S1} (enc : α → D) (encR : β → D) (cb : α → Bool) (F : α → β) (hN : X.N.Nodup) (hy : X.N[i]? = some y) (hyl : X.env.scope.names.lookup y = some .local) (hc : X.calm = true) (hi : ItwP X tg iter g l lk (xs.map enc)) (ok : BlkOk X.N X.env.scope scope own)
    (hg : Blkc X scope fun Y => PG Y tg gt) (his : ∀ i ∈ is, i ∈ own.map (·.2)) (hz : xs.length ≤ 10000)
    (hs : ∀ (i : Nat) (x : α), xs[i]? = some x → ∃ es, Tg X.K gt is (enc x) es ∧ (Blkc X scope fun Y => Ts Y c (sets (wipeG g (own.map (·.2))) is es) l (cb x)) ∧ (cb x = true → Blkc X scope fun Y => Px Y elt (sets (wipeG g (own.map (·.2))) is es) l (encR (F x))))
    (h : ∀ p ys, ys = (xs.filter cb).map F → Bo X W rest (g.set i (some (.adr p))) (ownL X.K p (ys.map encR) :: l) Om (k ys))
    (hsw : swapsWith (.ListComp elt [⟨tg, iter, [c], 0⟩] scope pos) (some (.Name y py)) spos.line X.env = pure true := by rfl) (hf : ∀ x, foldedSetIterable iter X.env x = pure x := by intro _; rfl) (hk : SubR l lk := by first | exact subr0 | exact subr1 0 rfl | exact subr1 1 rfl | exact subr1 2 rfl | exact subr1 3 rfl | exact subr1 4 rfl | exact subr1 5 rfl | exact subr2 0 0 rfl rfl | exact subr2 1 0 rfl rfl | exact subr2 0 1 rfl rfl | exact subr2 1 1 rfl rfl | exact subr2 2 0 rfl rfl | exact subr2 2 1 rfl rfl) : Bo X W (.Assign [.Name y py] (.ListComp elt [⟨tg, iter, [c], 0⟩] scope pos) spos :: rest) g l Om (lt ((xs.filter cb).map F) k) :=
  blk_setLcIfO (rs := xs.map fun x => if cb x = true then some (encR (F x)) else none) hc hN hy hyl hsw hi ok hg his (by simp) (by rw [List.length_map]; exact Nat.le_trans hz (by decide)) (fun i d hd => by
    rw [List.getElem?_map] at hd
    obtain ⟨x, hx, rfl⟩ := Option.map_eq_some_iff.mp hd
    obtain ⟨es, h1, h2, h3⟩ := hs i x hx
    exact ⟨es, cb x, encR (F x), h1, by rw [List.getElem?_map, hx]; rfl, h2, h3⟩) (fun p => by rw [keepL_filt]; exact h p _ rfl) hf hk
theorem bo_lc {tg iter elt : Expr} {scope : Scope} {own : List (Str × Nat)} {lk : List Res} {gt : TG} {is : List Nat} {xs : List α} {i : Nat} {y : Str} {py spos : Pos} {k : List β → S1} (enc : α → D) (encR : β → D) (F : α → β) (hN : X.N.Nodup) (hy : X.N[i]? = some y) (hyl : X.env.scope.names.lookup y = some .local) (hil : i < g.length) (hc : X.calm = true) (hi : ItwP X tg iter g l lk (xs.map enc)) (ok : BlkOk X.N X.env.scope scope own)
    (hg : Blkc X scope fun Y => PG Y tg gt) (his : ∀ i ∈ is, i ∈ own.map (·.2)) (hz : xs.length ≤ 10000)
    (hs : ∀ (i : Nat) (x : α), xs[i]? = some x → ∃ es, Tg X.K gt is (enc x) es ∧ Blkc X scope fun Y => Px Y elt (sets (wipeG g (own.map (·.2))) is es) l (encR (F x)))
    (h : ∀ ys, ys = xs.map F → Bo X W rest (g.set i (some (.lst (ys.map encR)))) l Om (k ys))
    (hsw : swapsWith (.ListComp elt [⟨tg, iter, [], 0⟩] scope pos) (some (.Name y py)) spos.line X.env = pure true := by rfl) (hf : ∀ x, foldedSetIterable iter X.env x = pure x := by intro _; rfl) (hk : SubR l lk := by first | exact subr0 | exact subr1 0 rfl | exact subr1 1 rfl | exact subr1 2 rfl | exact subr1 3 rfl | exact subr1 4 rfl | exact subr1 5 rfl | exact subr2 0 0 rfl rfl | exact subr2 1 0 rfl rfl | exact subr2 0 1 rfl rfl | exact subr2 1 1 rfl rfl | exact subr2 2 0 rfl rfl | exact subr2 2 1 rfl rfl) : Bo X W (.Assign [.Name y py] (.ListComp elt [⟨tg, iter, [], 0⟩] scope pos) spos :: rest) g l Om (lt (xs.map F) k) :=
  bo_lcL enc encR F hN hy hyl hc hi ok hg his hz hs (fun p ys e => Blk.frz' hil (h ys e)) hsw hf hk
theorem bo_lcF {tg iter elt c : Expr} {scope : Scope} {own : List (Str × Nat)} {lk : List Res} {gt : TG} {is : List Nat} {xs : List α} {i : Nat} {y : Str} {py spos : Pos} {k : List β → S1} (enc : α → D) (encR : β → D) (cb : α → Bool) (F : α → β) (hN : X.N.Nodup) (hy : X.N[i]? = some y) (hyl : X.env.scope.names.lookup y = some .local) (hil : i < g.length) (hc : X.calm = true) (hi : ItwP X tg iter g l lk (xs.map enc)) (ok : BlkOk X.N X.env.scope scope own)
    (hg : Blkc X scope fun Y => PG Y tg gt) (his : ∀ i ∈ is, i ∈ own.map (·.2)) (hz : xs.length ≤ 10000)
    (hs : ∀ (i : Nat) (x : α), xs[i]? = some x → ∃ es, Tg X.K gt is (enc x) es ∧ (Blkc X scope fun Y => Ts Y c (sets (wipeG g (own.map (·.2))) is es) l (cb x)) ∧ (cb x = true → Blkc X scope fun Y => Px Y elt (sets (wipeG g (own.map (·.2))) is es) l (encR (F x))))
    (h : ∀ ys, ys = (xs.filter cb).map F → Bo X W rest (g.set i (some (.lst (ys.map encR)))) l Om (k ys))
    (hsw : swapsWith (.ListComp elt [⟨tg, iter, [c], 0⟩] scope pos) (some (.Name y py)) spos.line X.env = pure true := by rfl) (hf : ∀ x, foldedSetIterable iter X.env x = pure x := by intro _; rfl) (hk : SubR l lk := by first | exact subr0 | exact subr1 0 rfl | exact subr1 1 rfl | exact subr1 2 rfl | exact subr1 3 rfl | exact subr1 4 rfl | exact subr1 5 rfl | exact subr2 0 0 rfl rfl | exact subr2 1 0 rfl rfl | exact subr2 0 1 rfl rfl | exact subr2 1 1 rfl rfl | exact subr2 2 0 rfl rfl | exact subr2 2 1 rfl rfl) : Bo X W (.Assign [.Name y py] (.ListComp elt [⟨tg, iter, [c], 0⟩] scope pos) spos :: rest) g l Om (lt ((xs.filter cb).map F) k) :=
  bo_lcLF enc encR cb F hN hy hyl hc hi ok hg his hz hs (fun p ys e => Blk.frz' hil (h ys e)) hsw hf hk
/-! ### optional things -/
def optE (f : α → D) : Option α → D
  | none => .non
  | some x => f x
theorem optE_non {f : α → D} (hf : ∀ x, (f x).isNon = false) (o : Option α) : (optE f o).isNon = o.isNone := by cases o with | none => rfl | some x => exact hf x
end
end Sx
set_option Elab.async false
set_option linter.all false
set_option maxRecDepth 100000
set_option maxHeartbeats 2000000
/-! Operations over encoded things, as the walker (walk.py) names them. -/
namespace Sx
open PySem L2
section
variable {X : Cx} {W : WX} {g g' : Gm} {l l' : List Res} {e e2 c a b o : Expr} {d d1 d2 : D} {pos p p2 : Pos} {rest A B body : List Stmt} {es : List Expr}
variable {α β γ : Type} {xs ys : List α} {enc : α → D} {K : PySem.W.Frag}
abbrev lstE (f : α → D) (xs : List α) : D := .lst (xs.map f)
abbrev tlE (f : α → D) (xs : List α) : D := .tup (xs.map f)
theorem ev_catM (enc : α → D) (ha : Px X a g l d1) (hb : Px X b g l d2) (h1 : Lv X.K l d1 (xs.map enc)) (h2 : Lv X.K l d2 (ys.map enc)) (hz : xs.length + ys.length ≤ 10000) : EvL X (.BinOp a .Add b pos) g l ((xs ++ ys).map enc) := by
  rw [List.map_append]
  exact ev_cat ha hb h1 h2 (by rw [List.length_map, List.length_map]; exact Nat.le_trans hz (by decide))
theorem px_catM (enc : α → D) (ha : Px X a g l d1) (hb : Px X b g l d2) (h1 : Lv X.K l d1 (xs.map enc)) (h2 : Lv X.K l d2 (ys.map enc)) (hz : xs.length + ys.length ≤ 10000) : Px X (.BinOp a .Add b pos) g l (lstE enc (xs ++ ys)) := (ev_catM enc ha hb h1 h2 hz).frz
theorem ev_repM (enc : α → D) {x : α} {i : Int} (ha : Px X a g l (lstE enc [x])) (hb : Px X b g l (.int i)) (h : -10000 ≤ i) (hz : i ≤ 10000) : EvL X (.BinOp a .Mult b pos) g l ((List.replicate i.toNat x).map enc) := by
  have := ev_rep (pos := pos) ha hb .f ⟨by omega, by omega⟩ (by show 1 * i.toNat ≤ sizeLine; exact Nat.le_trans (show 1 * i.toNat ≤ 10000 by omega) (by decide))
  rw [List.map_replicate]
  have e : ∀ n, (List.replicate n ([x].map enc)).flatten = List.replicate n (enc x) := fun n => by
    induction n with
    | zero => rfl
    | succ n ih => rw [List.replicate_succ, List.flatten_cons, ih, List.replicate_succ]; rfl
  rw [e] at this
  exact this
theorem ev_slM (enc : α → D) {lo hi : Option Expr} {i j : Option Int} (ho : Px X o g l d) (hd : Lq X.K l d (xs.map enc)) (hl : Pz X lo g l i) (hu : Pz X hi g l j) : EvL X (.Subscript o (.Slice lo hi none p2) pos) g l ((cut xs i j).map enc) := by
  rw [← cut_map]; exact ev_slL ho hd hl hu
theorem px_slM (enc : α → D) {lo hi : Option Expr} {i j : Option Int} (ho : Px X o g l d) (hd : Lq X.K l d (xs.map enc)) (hl : Pz X lo g l i) (hu : Pz X hi g l j) : Px X (.Subscript o (.Slice lo hi none p2) pos) g l (lstE enc (cut xs i j)) := (ev_slM enc ho hd hl hu).frz
theorem ev_strideM (enc : α → D) {lo hi : Option Expr} {st : Expr} {i j : Option Int} {k : Int} (ho : Px X o g l d) (hd : Lq X.K l d (xs.map enc)) (hl : Pz X lo g l i) (hu : Pz X hi g l j) (hs : Pz X (some st) g l (some k)) (hn : k ≠ 0) (hz : (pickN xs (places xs.length i j (some k))).length ≤ 10000) : EvL X (.Subscript o (.Slice lo hi (some st) p2) pos) g l ((pickN xs (places xs.length i j (some k))).map enc) := by
  have := ev_stride (pos := pos) (p2 := p2) ho hd hl hu hs (fun h => hn (Option.some.inj h)) (by rw [List.length_map, pickN_map, List.length_map]; exact Nat.le_trans hz (by decide))
  rw [List.length_map, pickN_map] at this
  exact this
theorem px_strideM (enc : α → D) {lo hi : Option Expr} {st : Expr} {i j : Option Int} {k : Int} (ho : Px X o g l d) (hd : Lq X.K l d (xs.map enc)) (hl : Pz X lo g l i) (hu : Pz X hi g l j) (hs : Pz X (some st) g l (some k)) (hn : k ≠ 0) (hz : (pickN xs (places xs.length i j (some k))).length ≤ 10000) : Px X (.Subscript o (.Slice lo hi (some st) p2) pos) g l (lstE enc (pickN xs (places xs.length i j (some k)))) := (ev_strideM enc ho hd hl hu hs hn hz).frz
theorem o_ixM (enc : α → D) {x0 : α} {i : Int} (h : Lq K l d (xs.map enc)) (h0 : 0 ≤ i) (h1 : i < xs.length) : Op2 K l (rIxL K) d (.int i) (enc (xs.getD i.toNat x0)) := o_ixV h (atI_map (atI_in h0 h1))
theorem o_ixP (enc : α → D) {x0 : α} {i : Int} (h : Lq K l d (xs.map enc)) (h0 : -(xs.length : Int) ≤ i) (h1 : i < xs.length) : Op2 K l (rIxL K) d (.int i) (enc (pyAt xs i x0)) := o_ixV h (atI_pyM h0 h1)
theorem o_lenM (h : Sv K l d (xs.map enc)) : OpN K l (rLen1 K) [d] (.int (xs.length : Int)) := by
  have := o_lenV h
  rw [List.length_map] at this
  exact this
theorem px_ifM {k : Bool} {x y : α} (hc : Ts X c g l k) (enc : α → D) (ha : k = true → Px X a g l (enc x)) (hb : k = false → Px X b g l (enc y)) : Px X (.IfExp c a b pos) g l (enc (cond k x y)) := by
  have := px_if (pos := pos) hc ha hb
  cases k <;> exact this
theorem o_isNo {f : α → D} (hf : ∀ x, (f x).isNon = false) {o : Option α} : Op2 K l (fun x y H Q => y = .non ∧ Q (.bl (decide (x = .non))) H) (optE f o) .non (.bl o.isNone) := by
  rw [← optE_non hf o]; exact o_isN
theorem o_notNo {f : α → D} (hf : ∀ x, (f x).isNon = false) {o : Option α} : Op2 K l (fun x y H Q => y = .non ∧ Q (.bl (!decide (x = .non))) H) (optE f o) .non (.bl (!o.isNone)) := by
  rw [← optE_non hf o]; exact o_notN
theorem o_inI {x : Int} {ns : List Int} {d0 : D} (hd : d0 = .lst (ns.map D.int) ∨ d0 = .tup (ns.map D.int)) : Op2 K l (rIn K false) (.int x) d0 (.bl (decide (x ∈ ns))) := by
  have h := o_in (K := K) (l := l) (neg := false) hd (d := .int x) rfl flat_ints
  rw [vv_ints] at h
  have e : (if false = true then !inV (D.int x).vv (ns.map V.int) else inV (D.int x).vv (ns.map V.int)) = decide (x ∈ ns) := inV_int
  rw [e] at h; exact h
theorem o_ninI {x : Int} {ns : List Int} {d0 : D} (hd : d0 = .lst (ns.map D.int) ∨ d0 = .tup (ns.map D.int)) : Op2 K l (rIn K true) (.int x) d0 (.bl (!decide (x ∈ ns))) := by
  have h := o_in (K := K) (l := l) (neg := true) hd (d := .int x) rfl flat_ints
  rw [vv_ints] at h
  have e : (if true = true then !inV (D.int x).vv (ns.map V.int) else inV (D.int x).vv (ns.map V.int)) = !decide (x ∈ ns) := congrArg (!·) inV_int
  rw [e] at h; exact h
theorem o_intB {b : Bool} : OpN K l (fun xs H Q => (∃ i, xs = [.int i] ∧ Q (.int i) H) ∨ ∃ k, xs = [.bl k] ∧ Q (.int (if k then 1 else 0)) H) [.bl b] (.int (if b then 1 else 0)) := fun F M H vs Q eF eM dj rs f k => by
  cases f with
  | cons f1 f2 =>
    cases f2; cases f1
    exact .inr ⟨b, rfl, k _ F H (.rf eF) (.int _)⟩
/-- a method that gives a new list -/
theorem ev_methM {α : Type} {ok : α → Prop} {args : α → List D} {f : α → List D} {C : Addr} {m : Str} {ps : List Str} {k j : Nat} {ds : List D} {apos : Pos} {pl : Sem Bool} {fs : List (Str × D)}
    (G : GloM X.prog X.w X.K X.mg X.base k C m ps (Fr X.K ok args f)) (hr : Room j X.A) (hj : k ≤ j) (a : α) (hok : ok a) (ho : Px X o g l (.ins C fs)) (hfs : fs.lookup m = none) (ha : Pa X (e :: es) g l ds) (hds : args a = .ins C fs :: ds)
    (hst : starEach (e :: es) X.env = (false, eval e X.env) :: starEach es X.env := by rfl) (hpl : (backTo pos (starEach es X.env)).any (·.1) = false := by rfl)
    (ht : MthE X o m apos pos (e :: es) pl := by rfl) : EvL X (.Call (.Attribute o m apos) (e :: es) [] pos) g l (f a) :=
  ev_meth (lr := l) (own := fun _ => []) G hr hj a hok ho (rc_ins hfs) ha hds (fun d l' h => by obtain ⟨p, rfl, rfl⟩ := h; exact ⟨p, rfl, rfl⟩) hst hpl ht
theorem ev_methM0 {α : Type} {ok : α → Prop} {args : α → List D} {f : α → List D} {C : Addr} {m : Str} {ps : List Str} {k j : Nat} {apos : Pos} {pl : Sem Bool} {fs : List (Str × D)}
    (G : GloM X.prog X.w X.K X.mg X.base k C m ps (Fr X.K ok args f)) (hr : Room j X.A) (hj : k ≤ j) (a : α) (hok : ok a) (ho : Px X o g l (.ins C fs)) (hfs : fs.lookup m = none) (hds : args a = [.ins C fs])
    (ht : MthE X o m apos pos [] pl := by rfl) : EvL X (.Call (.Attribute o m apos) [] [] pos) g l (f a) :=
  ev_meth0 (lr := l) (own := fun _ => []) G hr hj a hok ho (rc_ins hfs) hds (fun d l' h => by obtain ⟨p, rfl, rfl⟩ := h; exact ⟨p, rfl, rfl⟩) ht
theorem look_hd {k : Str} {d : D} {r : List (Str × D)} : List.lookup k ((k, d) :: r) = some d := by rw [List.lookup_cons, beq_self_eq_true]
theorem look_tl {k k' : Str} {d' : D} {r : List (Str × D)} {o : Option D} (h : List.lookup k r = o) (n : (k == k') = false := by decide +kernel) : List.lookup k ((k', d') :: r) = o := by rw [List.lookup_cons, n]; exact h
theorem look_nil {k : Str} : List.lookup k ([] : List (Str × D)) = none := rfl
variable {Om : β → Po} {v : Expr}
/-- x[i] = e, x an owned list -/
theorem bo_seti {kk : Nat} {q : Addr} {ys : List α} {y : α} {i : Int} {k : List α → β} {pos' : Pos} (enc : α → D) (he : Px X e g l (enc y)) (ho : Px X o g l (.adr q)) (hi : Px X e2 g l (.int i)) (hk : l[kk]? = some (ownL X.K q (ys.map enc))) (h0 : 0 ≤ i) (h1 : i < ys.length)
    (h : ∀ zs, zs = ys.set i.toNat y → Bo X W rest g (l.set kk (ownL X.K q (zs.map enc))) Om (k zs))
    (hs : swapsWithSole [.Subscript o e2 pos'] e pos.line X.env = pure false := by rfl) (hw : swappedStores [.Subscript o e2 pos'] e X.env = pure none := by rfl) (ha1 : (assignEach [.Subscript o e2 pos'] X.env).map (·.2) = [assign (.Subscript o e2 pos') X.env] := by rfl)
    (ha : ∀ v, assign (.Subscript o e2 pos') X.env v = (do
      let ov ← holding [v] (eval o X.env)
      let iv ← holding [v, ov] (eval e2 X.env)
      standAt pos'
      holding [v, ov, iv] (setItem ov iv v)
      release [v, ov, iv] []) := by intro _; rfl) :
    Bo X W (.Assign [.Subscript o e2 pos'] e pos :: rest) g l Om (lt (ys.set i.toNat y) k) := fun en T σ H D s mm => wpS_of (pss_cons (ps_asg pe_wp (pg_sub pe_wp pe_wp set_list ha) hs hw ha1) pss_wp) (by
  refine he en T σ H _ s fun u H1 s1 => ?_
  refine ho en _ σ H1 _ s1 fun u2 H2 s2 => ?_
  refine hi en _ σ H2 _ s2 fun u3 H3 s3 => ?_
  obtain ⟨F, M, a⟩ := s3
  have f3 := a.tm.1
  cases f3
  have f2 := a.tm.2.1
  cases f2
  obtain ⟨vs, fv, hp⟩ := a.rs.own hk a.exM
  have hl : vs.length = ys.length := by rw [fv.length, List.length_map]
  refine ⟨q, vs, i, i.toNat, rfl, rfl, hp, by unfold ixN; rw [if_pos h0, if_pos (by omega)], ?_⟩
  have f4 : FdAll X.K F (vs.set i.toNat u) ((ys.set i.toNat y).map enc) := by
    rw [List.map_set]
    exact fv.set _ a.tm.2.2.1
  obtain ⟨M', a'⟩ := (a.tmp (T' := T) a.tm.2.2.2).putL hk f4
  exact h _ rfl en T σ _ D ⟨F, M', a'⟩ mm)
end
end Sx
namespace Sx
/-- what each step keeps -/
theorem foldl_keep {α S1 : Type} {P : S1 → Prop} {step : S1 → α → S1} : ∀ {xs : List α} {s0 : S1}, P s0 → (∀ s x, x ∈ xs → P s → P (step s x)) → P (xs.foldl step s0)
  | [], _, h, _ => h
  | x :: xs, s0, h, hs => foldl_keep (xs := xs) (hs s0 x List.mem_cons_self h) fun s y hy => hs s y (List.mem_cons_of_mem _ hy)
theorem cond_keep {S1 : Type} {P : S1 → Prop} {b : Bool} {x y : S1} (hx : b = true → P x) (hy : b = false → P y) : P (cond b x y) := by
  cases b
  · exact hy rfl
  · exact hx rfl
end Sx
set_option Elab.async false
set_option linter.all false
set_option maxRecDepth 100000
set_option maxHeartbeats 2000000
/-! Models of dicts: lists of pairs. -/
namespace Sx
open PySem L2
section
variable {κ κ' β γ : Type} [DecidableEq κ] [DecidableEq κ']
def aget (m : List (κ × β)) (k : κ) : Option β := (m.find? fun kv => decide (kv.1 = k)).map (·.2)
def aput (m : List (κ × β)) (k : κ) (v : β) : List (κ × β) :=
  if (m.any fun kv => decide (kv.1 = k)) = true then m.map (fun kv => if kv.1 = k then (kv.1, v) else kv) else m ++ [(k, v)]
def adel (m : List (κ × β)) (k : κ) : List (κ × β) := m.filter fun kv => decide (kv.1 ≠ k)
abbrev dE (kf : κ → κ') (enc : β → D) (m : List (κ × β)) : List (κ' × D) := m.map fun kv => (kf kv.1, enc kv.2)
variable {kf : κ → κ'} {enc : β → D} {m : List (κ × β)} {k : κ} {v : β}
theorem dec_inj (inj : ∀ a b, kf a = kf b → a = b) (a b : κ) : decide (kf a = kf b) = decide (a = b) := by
  by_cases h : a = b
  · subst h; simp
  · rw [decide_eq_false h, decide_eq_false fun z => h (inj a b z)]
theorem val_aget (inj : ∀ a b, kf a = kf b → a = b) : ∀ {m : List (κ × β)}, valD (dE kf enc m) (kf k) = (aget m k).map enc
  | [] => rfl
  | (a, b) :: m => by
    have ih := val_aget (m := m) inj
    unfold valD aget dE at ih ⊢
    rw [List.map_cons, List.find?_cons, List.find?_cons, dec_inj inj]
    cases decide (a = k) with
    | true => rfl
    | false => exact ih
theorem any_inj (inj : ∀ a b, kf a = kf b → a = b) : ((dE kf enc m).any fun kv => decide (kv.1 = kf k)) = m.any fun kv => decide (kv.1 = k) := by
  unfold dE
  rw [List.any_map]
  congr 1
  funext x
  exact dec_inj inj x.1 k
theorem put_aput (inj : ∀ a b, kf a = kf b → a = b) : putKD (dE kf enc m) (kf k) (enc v) = dE kf enc (aput m k v) := by
  unfold putKD aput
  rw [any_inj inj]
  split
  · unfold dE
    rw [List.map_map, List.map_map]
    refine List.map_congr_left fun x _ => ?_
    show (if kf x.1 = kf k then (kf x.1, enc v) else (kf x.1, enc x.2)) = _
    by_cases h : x.1 = k
    · subst h
      rw [if_pos rfl]
      show _ = (fun kv : κ × β => (kf kv.1, enc kv.2)) (if x.1 = x.1 then (x.1, v) else x)
      rw [if_pos rfl]
    · rw [if_neg fun z => h (inj _ _ z)]
      show _ = (fun kv : κ × β => (kf kv.1, enc kv.2)) (if x.1 = k then (x.1, v) else x)
      rw [if_neg h]
  · unfold dE
    rw [List.map_append]
    rfl
theorem aget_put {j : κ} : ∀ {m : List (κ × β)}, aget (aput m k v) j = if j = k then some v else aget m j := by
  intro m
  have h1 : ∀ m : List (κ × β), (m.any fun kv => decide (kv.1 = k)) = true → aget (m.map fun kv => if kv.1 = k then (kv.1, v) else kv) j = if j = k then some v else aget m j := by
    intro m
    induction m with
    | nil => intro h; cases h
    | cons a m ih =>
      intro h
      obtain ⟨x, y⟩ := a
      unfold aget at ih ⊢
      rw [List.map_cons, List.find?_cons, List.find?_cons]
      by_cases e : x = k
      · subst e
        rw [if_pos rfl]
        by_cases z : x = j
        · subst z; simp
        · have z' : ¬ j = x := fun q => z q.symm
          simp only [decide_eq_false z]
          rw [if_neg z']
          by_cases hm : (m.any fun kv => decide (kv.1 = x)) = true
          · have := ih hm
            rw [if_neg z'] at this
            exact this
          · have : m.map (fun kv => if kv.1 = x then (kv.1, v) else kv) = m := by
              have hh : ∀ kv ∈ m, (if kv.1 = x then (kv.1, v) else kv) = kv := fun kv hk => by
                by_cases q : kv.1 = x
                · exact absurd (List.any_eq_true.mpr ⟨kv, hk, decide_eq_true q⟩) hm
                · rw [if_neg q]
              rw [List.map_congr_left hh]
              simp
            rw [this]
      · rw [if_neg e]
        have hm : (m.any fun kv => decide (kv.1 = k)) = true := by
          rw [List.any_cons] at h
          have : decide ((x, y).1 = k) = false := decide_eq_false e
          rw [this] at h
          exact h
        by_cases z : x = j
        · subst z
          rw [if_neg e]
          simp
        · simp only [decide_eq_false z]
          exact ih hm
  unfold aput
  by_cases h : (m.any fun kv => decide (kv.1 = k)) = true
  · rw [if_pos h]; exact h1 m h
  · rw [if_neg h]
    unfold aget
    rw [List.find?_append]
    by_cases z : j = k
    · subst z
      have hn : (m.find? fun kv => decide (kv.1 = j)) = none := List.find?_eq_none.mpr fun x hx hd => h (List.any_eq_true.mpr ⟨x, hx, hd⟩)
      rw [hn, if_pos rfl]
      simp
    · rw [if_neg z]
      cases q : m.find? fun kv => decide (kv.1 = j) with
      | some y => rfl
      | none =>
        have z' : ¬ k = j := fun q => z q.symm
        simp [z']
theorem aput_keys : (aput m k v).map (·.1) = if k ∈ m.map (·.1) then m.map (·.1) else m.map (·.1) ++ [k] := by
  have e : (m.any fun kv => decide (kv.1 = k)) = decide (k ∈ m.map (·.1)) := by
    by_cases h : k ∈ m.map (·.1)
    · rw [decide_eq_true h]
      obtain ⟨x, hx, hk⟩ := List.mem_map.mp h
      exact List.any_eq_true.mpr ⟨x, hx, decide_eq_true hk⟩
    · rw [decide_eq_false h]
      refine List.any_eq_false.mpr fun x hx hd => h (List.mem_map.mpr ⟨x, hx, of_decide_eq_true hd⟩)
  unfold aput
  rw [e]
  by_cases h : k ∈ m.map (·.1)
  · rw [decide_eq_true h, if_pos rfl, if_pos h, List.map_map]
    refine List.map_congr_left fun x _ => ?_
    show (if x.1 = k then (x.1, v) else x).1 = x.1
    split <;> rfl
  · rw [decide_eq_false h, if_neg (by simp), if_neg h, List.map_append]
    rfl
theorem aput_nodup (h : (m.map (·.1)).Nodup) : ((aput m k v).map (·.1)).Nodup := by
  rw [aput_keys]
  split
  · exact h
  · rename_i hk
    rw [List.nodup_append]
    exact ⟨h, by simp, fun a ha b hb => by rw [List.mem_singleton] at hb; subst hb; exact fun e => hk (e ▸ ha)⟩
theorem aput_len : (aput m k v).length ≤ m.length + 1 := by
  have := congrArg List.length (aput_keys (m := m) (k := k) (v := v))
  rw [List.length_map] at this
  rw [this]
  split
  · rw [List.length_map]; omega
  · rw [List.length_append, List.length_map]; exact Nat.le_refl _
theorem aget_mem {m : List (κ × β)} (h : aget m k = some v) : (k, v) ∈ m := by
  unfold aget at h
  obtain ⟨x, hx, rfl⟩ := Option.map_eq_some_iff.mp h
  have h1 := List.mem_of_find?_eq_some hx
  have h2 := List.find?_some hx
  have : x.1 = k := of_decide_eq_true h2
  subst this
  exact h1
theorem aget_none {m : List (κ × β)} : aget m k = none ↔ k ∉ m.map (·.1) := by
  unfold aget
  rw [Option.map_eq_none_iff, List.find?_eq_none]
  constructor
  · intro h hm
    obtain ⟨x, hx, hk⟩ := List.mem_map.mp hm
    exact h x hx (decide_eq_true hk)
  · intro h x hx hd
    exact h (List.mem_map.mpr ⟨x, hx, of_decide_eq_true hd⟩)
theorem aget_of {m : List (κ × β)} (nd : (m.map (·.1)).Nodup) (h : (k, v) ∈ m) : aget m k = some v := by
  induction m with
  | nil => cases h
  | cons a m ih =>
    obtain ⟨x, y⟩ := a
    unfold aget at ih ⊢
    rw [List.find?_cons]
    rw [List.map_cons, List.nodup_cons] at nd
    rcases List.mem_cons.mp h with e | q
    · cases e
      simp
    · have ne : ¬ x = k := fun e => by
        subst e
        exact nd.1 (List.mem_map.mpr ⟨_, q, rfl⟩)
      simp only [decide_eq_false ne]
      exact ih nd.2 q
theorem aget_del {j : κ} : ∀ {m : List (κ × β)}, aget (adel m k) j = if j = k then none else aget m j
  | [] => by split <;> rfl
  | (x, y) :: m => by
    have ih := aget_del (j := j) (m := m)
    unfold aget adel at ih ⊢
    rw [List.filter_cons]
    by_cases e : x = k
    · subst e
      rw [if_neg (by simp), ih, List.find?_cons]
      by_cases z : j = x
      · rw [if_pos z, if_pos z]
      · have z' : ¬ x = j := fun q => z q.symm
        rw [if_neg z, if_neg z]
        simp [z']
    · rw [if_pos (by simp [e]), List.find?_cons, List.find?_cons]
      by_cases z : x = j
      · subst z
        rw [if_neg e]
        simp
      · simp only [decide_eq_false z]
        exact ih
end
def kS (x : Str) : Key := .inr x
def kI (i : Int) : Key := .inl i
def kII (x : Int × Int) : List Key := [.inl x.1, .inl x.2]
def kSS (x : Str × Str) : List Key := [.inr x.1, .inr x.2]
def kSI (x : Str × Int) : List Key := [.inr x.1, .inl x.2]
theorem kS_inj (a b : Str) (h : kS a = kS b) : a = b := Sum.inr.inj h
theorem kI_inj (a b : Int) (h : kI a = kI b) : a = b := Sum.inl.inj h
theorem kII_inj (a b : Int × Int) (h : kII a = kII b) : a = b := by
  obtain ⟨x, y⟩ := a; obtain ⟨z, w⟩ := b
  unfold kII at h
  injection h with h1 h2
  injection h2 with h2 _
  exact Prod.ext (Sum.inl.inj h1) (Sum.inl.inj h2)
theorem kSS_inj (a b : Str × Str) (h : kSS a = kSS b) : a = b := by
  obtain ⟨x, y⟩ := a; obtain ⟨z, w⟩ := b
  unfold kSS at h
  injection h with h1 h2
  injection h2 with h2 _
  exact Prod.ext (Sum.inr.inj h1) (Sum.inr.inj h2)
theorem kSI_inj (a b : Str × Int) (h : kSI a = kSI b) : a = b := by
  obtain ⟨x, y⟩ := a; obtain ⟨z, w⟩ := b
  unfold kSI at h
  injection h with h1 h2
  injection h2 with h2 _
  exact Prod.ext (Sum.inr.inj h1) (Sum.inl.inj h2)
abbrev dkE {κ β : Type} [DecidableEq κ] (kf : κ → Key) (enc : β → D) (m : List (κ × β)) : D := .dK (dE kf enc m)
abbrev dtE {κ β : Type} [DecidableEq κ] (kf : κ → List Key) (enc : β → D) (m : List (κ × β)) : D := .dT (dE kf enc m)
theorem optE_map {β : Type} {enc : β → D} {o : Option β} : (o.map enc).getD .non = optE enc o := by cases o <;> rfl
theorem getD_map {β : Type} {enc : β → D} {o : Option β} {v : β} : (o.map enc).getD (enc v) = enc (o.getD v) := by cases o <;> rfl
/-- an optional thing that is there -/
theorem optE_get {β : Type} {enc : β → D} {o : Option β} {x0 : β} (h : o.isNone = false) : optE enc o = enc (o.getD x0) := by
  cases o with
  | none => cases h
  | some x => rfl
section
variable {X : Cx} {W : WX} {g g' : Gm} {l l' : List Res} {e e2 c a b o v : Expr} {d d1 d2 : D} {pos p p2 apos kp : Pos} {rest : List Stmt} {es : List Expr} {x1 : Nat} {ds : List D}
variable {κ β γ : Type} [DecidableEq κ] {m : List (κ × β)} {k : κ} {enc : β → D}
section
variable {kf : κ → Key}
theorem px_dgetM (inj : ∀ a b, kf a = kf b → a = b) (enc : β → D) {x0 : β} (hu : X.A.units + 64 < cLine) (ho : Px X o g l d1) (hd : Dv X.K l d1 (dE kf enc m)) (hi : Px X e g l (kD (kf k))) (hv : (aget m k).isSome = true) (hs : NoSl e := by intro _ _; rfl) : Px X (.Subscript o e pos) g l (enc ((aget m k).getD x0)) :=
  px_dget (Px.units hu) ho hd hi rfl (by
    rw [val_aget inj]
    cases h : aget m k with
    | none => rw [h] at hv; cases hv
    | some x => rfl) hs
theorem px_get1M (inj : ∀ a b, kf a = kf b → a = b) (enc : β → D) (hu : X.A.units + 64 < cLine) (ho : Px X o g l d1) (hd : Dv X.K l d1 (dE kf enc m)) (hi : Px X e g l (kD (kf k))) (hm : M1 X o "get" apos e pos := by constructor <;> rfl) : Px X (.Call (.Attribute o "get" apos) [e] [] pos) g l (optE enc (aget m k)) := by
  have := px_dget1 (Px.units hu) ho hd hi rfl hm
  rw [val_aget inj, optE_map] at this
  exact this
theorem px_get2M (inj : ∀ a b, kf a = kf b → a = b) (enc : β → D) {x0 : β} (hu : X.A.units + 64 < cLine) (ho : Px X o g l d1) (hd : Dv X.K l d1 (dE kf enc m)) (hi : Px X e g l (kD (kf k))) (hv : Px X v g l (enc x0)) (hm : M2 X o "get" apos e v pos := by constructor <;> rfl) : Px X (.Call (.Attribute o "get" apos) [e, v] [] pos) g l (enc ((aget m k).getD x0)) := by
  have := px_dget2 (Px.units hu) ho hd hi rfl hv hm
  rw [val_aget inj, getD_map] at this
  exact this
theorem ts_dinM (inj : ∀ a b, kf a = kf b → a = b) (enc : β → D) (hu : X.A.units + 64 < cLine) (hi : Px X e g l (kD (kf k))) (ho : Px X o g l d1) (hd : Dv X.K l d1 (dE kf enc m)) (hm : behindInMarks .In o = false := by first | exact nomark _ | rfl) : Ts X (.Compare e [.In] [o] pos) g l (aget m k).isSome := by
  have := ts_din (pos := pos) (Px.units hu) hi rfl ho hd hm
  rw [val_aget inj, Option.isSome_map] at this
  exact this
theorem ts_dnotinM (inj : ∀ a b, kf a = kf b → a = b) (enc : β → D) (hu : X.A.units + 64 < cLine) (hi : Px X e g l (kD (kf k))) (ho : Px X o g l d1) (hd : Dv X.K l d1 (dE kf enc m)) (hm : behindInMarks .NotIn o = false := by first | exact nomark _ | rfl) : Ts X (.Compare e [.NotIn] [o] pos) g l (!(aget m k).isSome) := by
  have := ts_dnotin (pos := pos) (Px.units hu) hi rfl ho hd hm
  rw [val_aget inj, Option.isSome_map] at this
  exact this
end
variable {S1 : Type} {Om : S1 → Po} {kk : List (κ × β) → S1}
/-- x = {} -/
theorem bo_d0 {i : Nat} {x : Str} {pos' p2 : Pos} (kf : κ → Key) (enc : β → D) (hN : X.N.Nodup) (hi : X.N[i]? = some x) (hx : Loc X.env.scope x) (h : ∀ p m, m = [] → Bo X W rest (g.set i (some (.adr p))) (ownD X.K p (dE kf enc m) :: l) Om (kk m))
    (hs : swapsWith (.Dict [] [] p2) (some (.Name x pos')) pos.line X.env = pure false := by rfl) (hf : X.fn x = true ∨ X.env.scope.names.lookup x = some .local := by first | exact .inl rfl | exact .inr rfl | assumption) :
    Bo X W (.Assign [.Name x pos'] (.Dict [] [] p2) pos :: rest) g l Om (lt [] kk) := blk_setX hN hi hx ev_d0 (fun d l' ⟨p, e1, e2⟩ => by subst e1; subst e2; exact h p [] rfl) hs hf
theorem bo_d1 {i : Nat} {x : Str} {pos' p2 : Pos} {ke : Expr} {v0 : β} (kf : κ → Key) (enc : β → D) (hN : X.N.Nodup) (hi : X.N[i]? = some x) (hx : Loc X.env.scope x) (hk : Px X ke g l (kD (kf k))) (hv : Px X v g l (enc v0)) (h : ∀ p m, m = [(k, v0)] → Bo X W rest (g.set i (some (.adr p))) (ownD X.K p (dE kf enc m) :: l) Om (kk m))
    (hs : swapsWith (.Dict [some ke] [v] p2) (some (.Name x pos')) pos.line X.env = pure false := by rfl) (hf : X.fn x = true ∨ X.env.scope.names.lookup x = some .local := by first | exact .inl rfl | exact .inr rfl | assumption) :
    Bo X W (.Assign [.Name x pos'] (.Dict [some ke] [v] p2) pos :: rest) g l Om (lt [(k, v0)] kk) := blk_setX hN hi hx (ev_d1 hk rfl hv) (fun d l' ⟨p, e1, e2⟩ => by subst e1; subst e2; exact h p _ rfl) hs hf
theorem bo_t0 {i : Nat} {x : Str} {pos' p2 : Pos} (kf : κ → List Key) (enc : β → D) (hN : X.N.Nodup) (hi : X.N[i]? = some x) (hx : Loc X.env.scope x) (h : ∀ p m, m = [] → Bo X W rest (g.set i (some (.adr p))) (ownT X.K p (dE kf enc m) :: l) Om (kk m))
    (hs : swapsWith (.Dict [] [] p2) (some (.Name x pos')) pos.line X.env = pure false := by rfl) (hf : X.fn x = true ∨ X.env.scope.names.lookup x = some .local := by first | exact .inl rfl | exact .inr rfl | assumption) :
    Bo X W (.Assign [.Name x pos'] (.Dict [] [] p2) pos :: rest) g l Om (lt [] kk) := blk_setX hN hi hx ev_t0 (fun d l' ⟨p, e1, e2⟩ => by subst e1; subst e2; exact h p [] rfl) hs hf
/-- x[k] = v -/
theorem bo_dput {n : Nat} {q : Addr} {pos' : Pos} {v0 : β} {kf : κ → Key} (inj : ∀ a b, kf a = kf b → a = b) (enc : β → D) (hu : X.A.units + 64 < cLine) (hv : Px X v g l (enc v0)) (ho : Px X o g l (.adr q)) (hi : Px X e g l (kD (kf k))) (hl : l[n]? = some (ownD X.K q (dE kf enc m))) (hz : m.length < 10000)
    (h : ∀ m2, m2 = aput m k v0 → Bo X W rest g (l.set n (ownD X.K q (dE kf enc m2))) Om (kk m2)) (hs : swapsWith v (some (.Subscript o e pos')) pos.line X.env = pure false := by rfl) : Bo X W (.Assign [.Subscript o e pos'] v pos :: rest) g l Om (lt (aput m k v0) kk) :=
  blk_dput (Px.units hu) hv ho hi rfl hl (by rw [List.length_map]; exact hz) (by rw [put_aput inj]; exact h _ rfl) hs
section
variable {kf : κ → List Key}
theorem px_tgetM (inj : ∀ a b, kf a = kf b → a = b) (enc : β → D) {x0 : β} (hu : X.A.units + 64 < cLine) (ho : Px X o g l d1) (hd : Dw X.K l d1 (dE kf enc m)) (hi : Pa X es g l ((kf k).map kD)) (hz : (kf k).length ≤ sizeLine) (hv : (aget m k).isSome = true) (hs : NoSl (.Tuple es x1 kp) := by intro _ _; rfl) : Px X (.Subscript o (.Tuple es x1 kp) pos) g l (enc ((aget m k).getD x0)) :=
  px_tget (Px.units hu) ho hd hi rfl (by
    rw [val_aget inj]
    cases h : aget m k with
    | none => rw [h] at hv; cases hv
    | some x => rfl) hz hs
theorem px_tget1M (inj : ∀ a b, kf a = kf b → a = b) (enc : β → D) (hu : X.A.units + 64 < cLine) (ho : Px X o g l d1) (hd : Dw X.K l d1 (dE kf enc m)) (hi : Pa X es g l ((kf k).map kD)) (hz : (kf k).length ≤ sizeLine) (hm : M1 X o "get" apos (.Tuple es x1 kp) pos := by constructor <;> rfl) : Px X (.Call (.Attribute o "get" apos) [.Tuple es x1 kp] [] pos) g l (optE enc (aget m k)) := by
  have := px_tget1 (Px.units hu) ho hd hi rfl hz hm
  rw [val_aget inj, optE_map] at this
  exact this
theorem px_tget2M (inj : ∀ a b, kf a = kf b → a = b) (enc : β → D) {x0 : β} (hu : X.A.units + 64 < cLine) (ho : Px X o g l d1) (hd : Dw X.K l d1 (dE kf enc m)) (hi : Pa X es g l ((kf k).map kD)) (hv : Px X v g l (enc x0)) (hz : (kf k).length ≤ sizeLine) (hm : M2 X o "get" apos (.Tuple es x1 kp) v pos := by constructor <;> rfl) : Px X (.Call (.Attribute o "get" apos) [.Tuple es x1 kp, v] [] pos) g l (enc ((aget m k).getD x0)) := by
  have := px_tget2 (Px.units hu) ho hd hi rfl hv hz hm
  rw [val_aget inj, getD_map] at this
  exact this
theorem bo_tput {n : Nat} {q : Addr} {pos' : Pos} {v0 : β} (inj : ∀ a b, kf a = kf b → a = b) (enc : β → D) (hu : X.A.units + 64 < cLine) (hv : Px X v g l (enc v0)) (ho : Px X o g l (.adr q)) (hi : Pa X es g l ((kf k).map kD)) (hkz : (kf k).length ≤ sizeLine) (hl : l[n]? = some (ownT X.K q (dE kf enc m))) (hz : m.length < 10000)
    (h : ∀ m2, m2 = aput m k v0 → Bo X W rest g (l.set n (ownT X.K q (dE kf enc m2))) Om (kk m2)) (hs : swapsWith v (some (.Subscript o (.Tuple es x1 kp) pos')) pos.line X.env = pure false := by rfl) : Bo X W (.Assign [.Subscript o (.Tuple es x1 kp) pos'] v pos :: rest) g l Om (lt (aput m k v0) kk) :=
  blk_tput (Px.units hu) hv ho hi rfl hl (by rw [List.length_map]; exact hz) (by rw [put_aput inj]; exact h _ rfl) hkz hs
end
/-- an owned dict is frozen -/
theorem bo_frzD {Om : S1 → Po} {mm : S1} {sts : List Stmt} {q : Addr} {kvs : List (Key × D)} {i kk : Nat} (hi : nth g i = some (.adr q)) (hk : l[kk]? = some (ownD X.K q kvs)) (h : Bo X W sts (g.set i (some (.dK kvs))) (l.eraseIdx kk) Om mm) : Bo X W sts g l Om mm := Blk.perm (perm_at hk) (Blk.frzD hi h)
end
end Sx
namespace Sx
open PySem L2
section
variable {X : Cx} {g : Gm} {l : List Res} {e o : Expr} {d1 : D} {pos : Pos} {κ β : Type} [DecidableEq κ] {m : List (κ × β)} {k : κ} {kf : κ → Key}
theorem px_dinM (inj : ∀ a b, kf a = kf b → a = b) (enc : β → D) (hu : X.A.units + 64 < cLine) (hi : Px X e g l (kD (kf k))) (ho : Px X o g l d1) (hd : Dv X.K l d1 (dE kf enc m)) (hm : behindInMarks .In o = false := by first | exact nomark _ | rfl) : Px X (.Compare e [.In] [o] pos) g l (.bl (aget m k).isSome) := by
  have := px_din (pos := pos) (Px.units hu) hi rfl ho hd hm
  rw [val_aget inj, Option.isSome_map] at this
  exact this
end
end Sx
set_option Elab.async false
set_option linter.all false
set_option maxRecDepth 100000
set_option maxHeartbeats 2000000
/-! Plain: loops of the models, sums, counts. -/
namespace Sx
open PySem L2
theorem lt_eq {α β : Type} (x : α) (k : α → β) : lt x k = k x := rfl
/-- a loop whose steps all run through -/
theorem loop_all {α Rr Ll S1 : Type} {step : S1 → α → Cf Rr S1 S1} {f : S1 → α → S1} : ∀ {xs : List α} {s : S1} (J : S1 → Prop), J s → (∀ s x, x ∈ xs → J s → step s x = .nx (f s x) ∧ J (f s x)) → (loop step xs s : Cf Rr Ll S1) = .nx (xs.foldl f s) ∧ J (xs.foldl f s)
  | [], s, J, h, _ => ⟨rfl, h⟩
  | x :: xs, s, J, h, hs => by
    obtain ⟨h1, h2⟩ := hs s x List.mem_cons_self h
    unfold loop
    rw [h1]
    exact loop_all (xs := xs) J h2 fun s y hy => hs s y (List.mem_cons_of_mem _ hy)
theorem loop_unit {α Rr Ll : Type} {step : Unit → α → Cf Rr Unit Unit} {xs : List α} (h : ∀ x ∈ xs, step () x = .nx ()) : (loop step xs () : Cf Rr Ll Unit) = .nx () := by
  have := (loop_all (Ll := Ll) (step := step) (f := fun _ _ => ()) (xs := xs) (s := ()) (fun _ => True) trivial (fun s x hx _ => ⟨h x hx, trivial⟩)).1
  rw [this]
theorem foldl_inv {α S1 : Type} {P : Nat → S1 → Prop} {step : S1 → α → S1} {xs : List α} {s0 : S1} (h : P 0 s0) (hs : ∀ i s x, xs[i]? = some x → P i s → P (i + 1) (step s x)) : P xs.length (xs.foldl step s0) := by
  have : ∀ i, i ≤ xs.length → P i ((xs.take i).foldl step s0) := by
    intro i
    induction i with
    | zero => intro _; exact h
    | succ i ih =>
      intro hi
      have hl : i < xs.length := hi
      rw [List.take_add_one, List.getElem?_eq_getElem hl, List.foldl_append]
      exact hs i _ _ (List.getElem?_eq_getElem hl) (ih (by omega))
  have z := this xs.length (Nat.le_refl _)
  rw [List.take_length] at z
  exact z
theorem foldl_inv' {α S1 : Type} {P : Nat → S1 → Prop} {step : S1 → α → S1} {xs : List α} {s0 : S1} {n : Nat} (hn : xs.length = n) (h : P 0 s0) (hs : ∀ i s x, xs[i]? = some x → P i s → P (i + 1) (step s x)) : P n (xs.foldl step s0) := hn ▸ foldl_inv h hs
def sumZ {α : Type} (f : α → Int) (xs : List α) : Int := (xs.map f).sum
theorem sumZ_nil {α : Type} {f : α → Int} : sumZ f [] = 0 := rfl
theorem sumZ_cons {α : Type} {f : α → Int} {x : α} {xs : List α} : sumZ f (x :: xs) = f x + sumZ f xs := by unfold sumZ; rw [List.map_cons, List.sum_cons]
theorem sumZ_app {α : Type} {f : α → Int} : ∀ {xs ys : List α}, sumZ f (xs ++ ys) = sumZ f xs + sumZ f ys
  | [], ys => by rw [List.nil_append, sumZ_nil]; omega
  | x :: xs, ys => by rw [List.cons_append, sumZ_cons, sumZ_cons, sumZ_app]; omega
theorem sumZ_add {α : Type} {f g : α → Int} : ∀ {xs : List α}, sumZ (fun x => f x + g x) xs = sumZ f xs + sumZ g xs
  | [] => rfl
  | x :: xs => by rw [sumZ_cons, sumZ_cons, sumZ_cons, sumZ_add]; omega
theorem sumZ_le {α : Type} {f g : α → Int} : ∀ {xs : List α}, (∀ x ∈ xs, f x ≤ g x) → sumZ f xs ≤ sumZ g xs
  | [], _ => Int.le_refl _
  | x :: xs, h => by
    rw [sumZ_cons, sumZ_cons]
    have h1 := h x List.mem_cons_self
    have h2 := sumZ_le (xs := xs) fun y hy => h y (List.mem_cons_of_mem _ hy)
    omega
theorem sumZ_zero {α : Type} : ∀ {xs : List α}, sumZ (fun _ => 0) xs = 0
  | [] => rfl
  | x :: xs => by rw [sumZ_cons, sumZ_zero]; rfl
theorem countP_set {α : Type} {p : α → Bool} {y x0 : α} : ∀ {xs : List α} {n : Nat}, n < xs.length → ((xs.set n y).countP p : Int) = (xs.countP p : Int) - (if p (xs.getD n x0) = true then 1 else 0) + (if p y = true then 1 else 0)
  | [], n, h => by cases h
  | x :: xs, 0, _ => by
    rw [List.set_cons_zero, List.countP_cons, List.countP_cons, List.getD_cons_zero]
    split <;> split <;> omega
  | x :: xs, n + 1, h => by
    rw [List.set_cons_succ, List.countP_cons, List.countP_cons, List.getD_cons_succ]
    have ih := countP_set (p := p) (y := y) (x0 := x0) (xs := xs) (n := n) (by simpa using h)
    generalize (if p x = true then 1 else 0 : Nat) = r
    generalize (if p (xs.getD n x0) = true then (1 : Int) else 0) = u at ih ⊢
    generalize (if p y = true then (1 : Int) else 0) = v at ih ⊢
    omega
theorem countP_range {α : Type} {p : α → Bool} {x0 : α} : ∀ {xs : List α}, xs.countP p = (List.range xs.length).countP fun i => p (xs.getD i x0) := by
  intro xs
  induction xs with
  | nil => rfl
  | cons x xs ih =>
    rw [List.length_cons, List.range_succ_eq_map, List.countP_cons, List.countP_cons, List.countP_map, ih]
    rfl
theorem getD_get {α : Type} {xs : List α} {i : Nat} {x x0 : α} (h : xs[i]? = some x) : xs.getD i x0 = x := by rw [List.getD_eq_getElem?_getD, h]; rfl
theorem get_getD {α : Type} {xs : List α} {i : Nat} {x0 : α} (h : i < xs.length) : xs[i]? = some (xs.getD i x0) := by rw [List.getD_eq_getElem?_getD, List.getElem?_eq_getElem h]; rfl
end Sx
set_option Elab.async false
set_option linter.all false
set_option maxRecDepth 100000
set_option maxHeartbeats 2000000
/-! Exceptions: calls that may raise, raise, a caught one that is kept, what it is. -/
namespace Sx
open PySem L2 PyProof.Rows

/-! ### readings -/
section
variable {X : Cx} {CX : CXT} {k : Nat} {f C : Addr} {fd : FuncData} {ps : List Str} {sp : Sp} {E : L2.St → XK} {m : Str} {pos apos : Pos} {e o : Expr} {es : List Expr} {ta : TE} {t : TA} {pl : Sem Bool}
/-- o.m(..) where what is wished of an exception may hang on the slots -/
def tMthS (C : Addr) (m : Str) (sp : Sp) (E : L2.St → XK) (ta : TE) (t : TA) : TE := fun σ H Q => ta σ H fun x H1 => ∃ a dx fs, x = .ref a ∧ H1 a = some (.ins C dx fs) ∧ fs.lookup m = none ∧ t σ H1 fun vs H2 => sp (x :: vs) H2 Q (E σ)
theorem pe_mthS (ho : PE X o ta) (hc : Cls X.K C) (hm : Meth X.K C m f) (F : FnOk X.prog X.w X.K X.mg X.base CX k f fd ps sp) (hr : Room k X.A) (hb : Binds X.K fd ps []) (hx : ∀ σ, PassesAt CX X σ (E σ)) (ha : PA X (e :: es) t)
    (hst : starEach (e :: es) X.env = (false, eval e X.env) :: starEach es X.env := by rfl) (hpl : (backTo pos (starEach es X.env)).any (·.1) = false := by rfl) (ht : MthE X o m apos pos (e :: es) pl := by rfl) :
    PE X (.Call (.Attribute o m apos) (e :: es) [] pos) (tMthS C m sp E ta t) := by
  refine ⟨fun pins s σ H Q I h => ?_⟩
  refine PySem.W.methodCall_KW (pl := pl) (thn (ho.run pins s σ H _ I h) fun u s1 hh => ?_) ht
  obtain ⟨x, H1, I1, rx, q, dx, fs, ex, ea, lk, hq⟩ := hh
  subst ex
  have eu : u = Value.ref q := rx
  subst eu
  refine getmeth_ok I1 ea hc hm lk ?_
  refine PySem.W.callWith_K (first := [.ref q]) (h₀ := X.base) I.ok.mod.kin hm.kp (thn (ha.run pos pins s1 σ H1 _ I1 hq) fun us s2 h2 => ?_) hst hpl
  obtain ⟨vs, H2, I2, r, q2⟩ := h2
  exact ⟨I2.kIn, run_fnS (us := .ref q :: us) (vs := .ref q :: vs) F hr hb (hx σ) I2 (.cons rfl r) q2⟩
end

/-! ### judgements -/
/-- e gives a datum as Psi tells, or raises as XP tells -/
def Exv (X : Cx) (W : WX) (e : Expr) (g : Gm) (l : List Res) (Psi : D → List Res → Prop) (XP : Value → Option Addr → List Res → Prop) : Prop := ∀ en T σ H (Q : VK), S X.K en g T l σ H → (∀ v d l' H', Psi d l' → S X.K en g (T.and X.K v d) l' σ H' → Q v H') → (∀ cls dd l' H', XP cls dd l' → S X.K en g T l' σ H' → W cls dd σ H') → wpE X e σ H Q
/-- a def that may raise -/
def GloX (P : Program) (w : World) (K : PySem.W.Frag) (mg : Str → Option Value) (base : Heap) (k : Nat) (x : Str) (ps : List Str) (sp : Sp) : Prop :=
  ∃ f fd, FnOk P w K mg base (L2.CX P w) k f fd ps sp ∧ mg x = some (.ref f) ∧ PySem.W.keepIn K (.ref f) = true ∧ Binds K fd ps []
def GloMX (P : Program) (w : World) (K : PySem.W.Frag) (mg : Str → Option Value) (base : Heap) (k : Nat) (C : Addr) (m : Str) (ps : List Str) (sp : Sp) : Prop :=
  ∃ f fd, FnOk P w K mg base (L2.CX P w) k f fd ps sp ∧ Cls K C ∧ Meth K C m f ∧ Binds K fd ps []
section
variable {P : Program} {w : World} {K : PySem.W.Frag} {mg : Str → Option Value} {base : Heap} {k : Nat} {C : Addr} {x m qual : Str} {ps : List Str} {sp : Sp} {st : Stmt}
theorem glox_of (d : Dfn K mg x st) (b : Bnd x x st ps) (h : ∀ f fd, Fun K x x st f fd → FnOk P w K mg base (L2.CX P w) k f fd ps sp) : GloX P w K mg base k x ps sp := by
  obtain ⟨f, fd, F, hm⟩ := d
  have F0 := F
  obtain ⟨⟨oc, od, kV, doc, pm, an, cdv, ct, osl, e, lk, hcd⟩, kp⟩ := F
  exact ⟨f, fd, h f fd F0, hm, kp, Binds.all fun us hl => by rw [e]; exact b kV doc pm an cdv ct us hl⟩
theorem glomx_of (d : Dmt K C m qual st) (c : Cls K C) (b : Bnd m qual st ps) (h : ∀ f fd, Fun K m qual st f fd → FnOk P w K mg base (L2.CX P w) k f fd ps sp) : GloMX P w K mg base k C m ps sp := by
  obtain ⟨f, fd, F, hm⟩ := d
  have F0 := F
  obtain ⟨⟨oc, od, kV, doc, pm, an, cdv, ct, osl, e, lk, hcd⟩, kp⟩ := F
  exact ⟨f, fd, h f fd F0, c, hm, Binds.all fun us hl => by rw [e]; exact b kV doc pm an cdv ct us hl⟩
end
section
variable {X : Cx} {W : WX} {g g' : Gm} {l l' : List Res} {Φ : Po} {e e2 a b c o : Expr} {es : List Expr} {d d1 d2 : D} {pos p p2 apos : Pos} {rest : List Stmt}
theorem Ev.exv {Psi : D → List Res → Prop} {XP : Value → Option Addr → List Res → Prop} (h : Ev X e g l Psi) : Exv X W e g l Psi XP := fun en T σ H Q s k _ => h en T σ H Q s k
theorem FnX.useX {α : Type} {ok : α → Prop} {args : α → List D} {own : α → List Res} {post : α → D → List Res → Prop} {epost : α → Value → Option Addr → List Res → Prop} {K : PySem.W.Frag} {en : En} {T : Tm} {σ : L2.St} {H : Hp} {vs : List V} {lr : List Res} {Q : VK}
    (a : α) (hok : ok a) (s : S K en g (T.ands K vs (args a)) (own a ++ lr) σ H) (hq : ∀ v d l' H', post a d l' → S K en g (T.and K v d) (l' ++ lr) σ H' → Q v H') (he : ∀ cls d l' H', epost a cls d l' → S K en g T (l' ++ lr) σ H' → W cls d σ H') :
    FnX K ok args own post epost vs H Q (WE W σ) := FnX.use a hok s hq he
theorem exv_call {α : Type} {ok : α → Prop} {args : α → List D} {own : α → List Res} {post : α → D → List Res → Prop} {epost : α → Value → Option Addr → List Res → Prop} {x : Str} {ps : List Str} {k j : Nat} {lr : List Res} {Psi : D → List Res → Prop} {XP : Value → Option Addr → List Res → Prop}
    (tk : Takes X W) (G : GloX X.prog X.w X.K X.mg X.base k x ps (FnX X.K ok args own post epost)) (hr : Room j X.A) (hj : k ≤ j) (a : α) (hok : ok a) (ha : Pa X (e :: es) g (own a ++ lr) (args a)) (hq : ∀ d l', post a d l' → Psi d (l' ++ lr)) (hx : ∀ cls d l', epost a cls d l' → XP cls d (l' ++ lr))
    (hg : Gl X x := by rfl) (hdb : (x == ("__debug__" : Str)) = false := by decide) (he : starEach (e :: es) X.env = (false, eval e X.env) :: starEach es X.env := by rfl) (hpl : (backTo pos (starEach es X.env)).any (·.1) = false := by rfl) :
    Exv X W (.Call (.Name x p) (e :: es) [] pos) g (own a ++ lr) Psi XP := fun en T σ H Q s kk kx => by
  obtain ⟨f, fd, F, hm, hk, hb⟩ := G
  refine wpE_of (pe_callS F (hr.mono hj) hg hm hk hb (passAt tk) pa_wp hdb he hpl) ?_
  refine ha en T σ H _ s fun vs H1 s1 => ?_
  exact FnX.useX a hok s1 (fun v d l' H' hp s' => kk v d _ H' (hq d l' hp) s') (fun cls d l' H' hp s' => kx cls d _ H' (hx cls d l' hp) s')
theorem exv_meth {α : Type} {ok : α → Prop} {args : α → List D} {own : α → List Res} {post : α → D → List Res → Prop} {epost : α → Value → Option Addr → List Res → Prop} {C : Addr} {m : Str} {ps : List Str} {k j : Nat} {lr : List Res} {Psi : D → List Res → Prop} {XP : Value → Option Addr → List Res → Prop} {ds : List D} {pl : Sem Bool}
    (tk : Takes X W) (G : GloMX X.prog X.w X.K X.mg X.base k C m ps (FnX X.K ok args own post epost)) (hr : Room j X.A) (hj : k ≤ j) (a : α) (hok : ok a) (ho : Px X o g (own a ++ lr) d1)
    (hd : ∀ F M H v, Ex F H → Ex M H → Rs (own a ++ lr) F M → Fd X.K F v d1 → ∃ q dx fs, v = .ref q ∧ H q = some (.ins C dx fs) ∧ fs.lookup m = none)
    (ha : Pa X (e :: es) g (own a ++ lr) ds) (hds : args a = d1 :: ds) (hq : ∀ d l', post a d l' → Psi d (l' ++ lr)) (hx : ∀ cls d l', epost a cls d l' → XP cls d (l' ++ lr))
    (hst : starEach (e :: es) X.env = (false, eval e X.env) :: starEach es X.env := by rfl) (hpl : (backTo pos (starEach es X.env)).any (·.1) = false := by rfl)
    (ht : MthE X o m apos pos (e :: es) pl := by rfl) :
    Exv X W (.Call (.Attribute o m apos) (e :: es) [] pos) g (own a ++ lr) Psi XP := fun en T σ H Q s kk kx => by
  obtain ⟨f, fd, F, hc, hm, hb⟩ := G
  refine wpE_of (pe_mthS pe_wp hc hm F (hr.mono hj) hb (passAt tk) pa_wp hst hpl ht) ?_
  refine ho en T σ H _ s fun v H1 s1 => ?_
  have s1' := s1
  obtain ⟨F1, M1, q1⟩ := s1
  obtain ⟨q, dx, fs, rfl, h1, h2⟩ := hd F1 M1 H1 v q1.exF q1.exM q1.rs q1.tm.1
  refine ⟨q, dx, fs, rfl, h1, h2, ?_⟩
  refine ha en _ σ H1 _ s1' fun vs H2 s2 => ?_
  refine FnX.useX a hok (T := T) (g := g) (en := en) (σ := σ) (lr := lr) ?_ (fun v d l' H' hp s' => kk v d _ H' (hq d l' hp) s') (fun cls d l' H' hp s' => kx cls d _ H' (hx cls d l' hp) s')
  obtain ⟨F, M, q⟩ := s2
  exact ⟨F, M, q.tmp ⟨by rw [hds]; exact .cons q.tm.2.1 q.tm.1, q.tm.2.2⟩⟩
/-! ### statements -/
theorem blk_exprX {Psi : D → List Res → Prop} {XP : Value → Option Addr → List Res → Prop} (he : Exv X W e g l Psi XP) (h : ∀ d l', Psi d l' → Blk X W rest g l' Φ) (hx : ∀ cls d l', XP cls d l' → Φ.ex cls d g l') (hs : swapsWith e none pos.line X.env = pure false := by rfl) : Blk X W (.Expr e pos :: rest) g l Φ := fun en T σ H D s m => wpS_of (pss_cons (ps_expr pe_wp hs) pss_wp) (he en T σ H _ s (fun v d l' H' p s' => h d l' p en T σ H' D s'.drop m) fun cls d l' H' p s' => m.ex cls d g l' σ H' (hx cls d l' p) s')
theorem blk_setXX {Psi : D → List Res → Prop} {XP : Value → Option Addr → List Res → Prop} {i : Nat} {x : Str} {pos' : Pos} (hN : X.N.Nodup) (hi : X.N[i]? = some x) (hx : Loc X.env.scope x) (he : Exv X W e g l Psi XP) (h : ∀ d l', Psi d l' → Blk X W rest (g.set i (some d)) l' Φ) (hxx : ∀ cls d l', XP cls d l' → Φ.ex cls d g l') (hs : swapsWith e (some (.Name x pos')) pos.line X.env = pure false := by rfl) (hf : X.fn x = true ∨ X.env.scope.names.lookup x = some .local := by first | exact .inl rfl | exact .inr rfl | assumption) :
    Blk X W (.Assign [.Name x pos'] e pos :: rest) g l Φ := fun en T σ H D s m => wpS_of (pss_cons (ps_set hN hi hx pe_wp hs hf) pss_wp) (he en T σ H _ s (fun v d l' H' p s' => by
      obtain ⟨F, M, a⟩ := s'
      exact h d l' p en T (σ.set i (some v)) H' D ⟨F, M, (a.tmp a.tm.2).slots (a.sl.set i a.tm.1)⟩ m) fun cls d l' H' p s' => m.ex cls d g l' σ H' (hxx cls d l' p) s')
theorem blk_retXX {Psi : D → List Res → Prop} {XP : Value → Option Addr → List Res → Prop} (he : Exv X W e g l Psi XP) (h : ∀ d l', Psi d l' → Φ.rt d l') (hx : ∀ cls d l', XP cls d l' → Φ.ex cls d g l') : Blk X W (.Return (some e) pos :: rest) g l Φ := fun en T σ H D s m => wpS_of (pss_cons (ps_ret pe_wp) pss_wp) (he en T σ H _ s (fun v d l' H' p s' => m.rt d l' v H' (h d l' p) s'.slotless) fun cls d l' H' p s' => m.ex cls d g l' σ H' (hx cls d l' p) s')
/-- what the written part says of an exception class that keeps no values -/
structure Dxc (K : PySem.W.Frag) (mg : Str → Option Value) (x : Str) (C : Addr) : Prop where
  nm : mg x = some (.ref C)
  kp : PySem.W.keepIn K (.ref C) = true
  sub : PySem.W.subIn K (.ref C) (.type "BaseException") = some true
  ty : PySem.W.typeIn K (.ref C) = some (.type "type")
  ec : ExcC K C
abbrev vErr : List Value := [.type "ValueError", .type "Exception", .type "BaseException", .type "object"]
theorem blk_raise {x m : Str} {j : Nat} {C : Addr} {pr : Pos} (hc : X.calm = true) (tk : Takes X W) (x0 : Dxc X.K X.mg x C) (xi : PySem.W.excIn X.K C vErr "ValueError.__new__" = true) (h : Φ.ex (.ref C) none g l) (hg : Gl X x := by rfl) (hdb : (x == ("__debug__" : Str)) = false := by decide) : Blk X W (.Raise (some (.Call (.Name x p) [.Constant (.str m) j p2] [] pos)) none pr :: rest) g l Φ := fun en T σ H D s mt =>
  wpS_of (pss_cons (ps_raise hc tk (pmk_own F.excBase_ValueError xi x0.nm x0.kp (raises_own x0.sub x0.ty) hg hdb)) pss_wp) (mt.ex _ _ g l σ H h s)
end

/-! ### a caught exception that is kept -/
section
variable {X : Cx} {x n y : Str} {c : Value} {i j : Nat} {body : List Stmt} {np pos pos' py pn ap : Pos} {tb : WX → TS} {Wout : WX}
/-- what the clause 'except x as n: y = n' wishes of an exception of the body -/
def wKeep (K : PySem.W.Frag) (c : Value) (i j : Nat) (Wout : WX) (D : Ends) : WX := fun cls d σ H =>
  ∃ b, PySem.W.exmOne K cls c = some b ∧ (b = true → ∀ a, H a = none → D.nx (((σ.set i (some (.ref a))).set j (some (.ref a))).set i none) (upd H a (exO a cls d))) ∧ (b = false → Wout cls d σ H)
theorem ps_try_keep (hs : X.stack = X.env :: X.outer) (hf : X.env.frame = some X.env.locals) (hex : X.ex = []) (hN : X.N.Nodup) (hi : X.N[i]? = some n) (hln : X.env.kindOf n = some .local) (hj : X.N[j]? = some y) (hly : X.env.kindOf y = some .local) (hij : i ≠ j)
    (hil : i < X.N.length) (hvn : Vis X.env.scope n) (hdn : (n == ("__debug__" : Str)) = false) (hcn : (n == ("__classdict__" : Str)) = false) (hc : Names X x c) (tk : Takes X Wout)
    (hb : ∀ (W : WX) (pn : List (Addr × Obj)) (xe : Value → Shared → Prop), Takes (X.tr pn xe) W → PassesOwn (model X.prog X.w) X.A X.env xe → PSs (X.tr pn xe) body (tb W))
    (hsw : ∀ Y : Cx, Y.env = X.env → swapsWith (.Name n pn) (some (.Name y py)) ap.line Y.env = pure false) :
    PS X (.Try body [.ExceptHandler (some (.Name x np)) (some n) [.Assign [.Name y py] (.Name n pn) ap] pos'] [] [] pos) (fun D σ H => tb (wKeep X.K c i j Wout D) D σ H) := by
  refine ⟨fun pins s σ H D I h => ?_⟩
  have ok := I.ok
  have hfr : X.A.frames = some (X.env :: X.outer) := by rw [ok.frames, hs]
  have hloc : Loc X.env.scope n := .inl hln
  have hlocy : Loc X.env.scope y := .inl hly
  refine wpAny_Try_except ?_
  refine wpAny_mono ((hb (wKeep X.K c i j Wout D) (X.pn ++ pins) (fun e s₁ => wpAny (model X.prog X.w) X.A (noteFrame e X.env) (fun _ s₂ => wpAny (model X.prog X.w) X.A (setFlight e none) (fun _ s₃ =>
    wpAny (model X.prog X.w) X.A (handleBy e X.env [.ExceptHandler (some (.Name x np)) (some n) [.Assign [.Name y py] (.Name n pn) ap] pos']) (SP X pins D) X.xe s₃) X.xe s₂) X.xe s₁) (fun u s' xx => ?_) PassesOwn.looking).run [] s σ H D (I.toTry _) h) (fun f s1 hsp => ?_) (fun e s1 he => he)
  · obtain ⟨a, B, sI, pins', σ', H', cls, d, rfl, J', nb, up, sky, na, os, ag, b, hb1, hyes, hno⟩ := xx
    have J : Inv X pins σ' H' sI := J'.ofTry ok
    have sky' : Sky B (X.env :: X.outer) a (Zc cls d) X.env.locals s'.heap := by rw [← hs]; exact sky
    show wpAny (model X.prog X.w) X.A (noteFrame (.ref a) X.env) _ _ _
    refine Sky.land Zc.steady hfr hf sky' fun h3 fl3 up3 => ?_
    have J3 : Inv X pins σ' H' { s' with heap := h3 } := J.landed nb fl3.1 (up.trans up3) os ag
    obtain ⟨oe3, vs3, he3, hz3, hd3⟩ := fl3.there
    have nfr : a ∉ frs (X.env :: X.outer) := fun hm => by
      obtain ⟨_, o', e', hnf⟩ := fl3.2.2.1.mem hm
      rw [he3] at e'; cases e'
      exact hnf _ hd3
    have nL : a ≠ X.env.locals := fun z => nfr (List.mem_filterMap.mpr ⟨X.env, List.mem_cons_self, by rw [hf, z]⟩)
    have nF : a ∉ X.fs := fun hm => by
      obtain ⟨e, he, q⟩ := List.mem_filterMap.mp hm
      exact nfr (List.mem_filterMap.mpr ⟨e, List.mem_cons_of_mem _ he, q⟩)
    have nS : a ∉ frs X.stack := by rw [hs]; exact nfr
    -- it was not there ahead
    have nI : sI.heap.get? a = none := by
      cases q : sI.heap.get? a with
      | none => rfl
      | some o => have z := nb a o q nS; rw [fl3.2.1] at z; cases z
    have n0 : X.s_0.heap.get? a = none := by
      cases q : X.s_0.heap.get? a with
      | none => rfl
      | some o =>
        obtain ⟨o', z⟩ := J.base.there a o q (by rw [hex]; exact fun z => nomatch z)
        rw [nI] at z; cases z
    have npn : ∀ p ∈ X.pn ++ pins, p.1 ≠ a := fun p hp e => by
      have z := (J.pin p hp).1
      rw [e, nI] at z; cases z
    have nc : ∀ x c, X.env.cells.lookup x = some c → c ≠ a := fun x c e z => by
      obtain ⟨v, oc, q, _⟩ := J.cell x c e
      rw [z, nI] at q; cases q
    have S3 := J3.suite he3 hd3 na nL nF
    refine wpAny_handleBy_cons (codeAny_handlers_test ?_) (by intro q; cases q)
    have LT : PySem.W.Looks (model X.prog X.w) h3 (typeOf (.ref a)) cls := fun A Q E s k q => wpAny_typeOf_ref (k _ _ he3) (by rw [hz3.1]; exact q)
    have LM := PySem.W.exm_one (M := model X.prog X.w) (J3.kIn) LT hb1
    have test : ∀ {Q : Value → Shared → Prop} {E : Value → Shared → Prop}, Q c { s' with heap := h3 } → wpAny (model X.prog X.w) (X.A.mark (some (.ref a))) (eval (.Name x np) X.env) Q E { s' with heap := h3 } := fun {Q E} q => by
      obtain ⟨hg, hdbg, hm | ⟨hm, hv, hnn⟩⟩ := hc
      · exact ld_glob (X := X.suite a ((a, oe3) :: (X.pn ++ pins))) S3 hg hm q hdbg
      · exact ld_blt (X := X.suite a ((a, oe3) :: (X.pn ++ pins))) S3 hg hm hv q hnn hdbg
    refine test (LM.here ?_)
    cases b with
    | true =>
      refine codeAny_handlers_suite_as ?_
      refine HandSPX.lands_againZ fl3 fun h4 fl4 up4 => ?_
      have J4 : Inv X pins σ' H' { s' with heap := h4 } := J.landed nb fl4.1 ((up.trans up3).trans up4) os ag
      obtain ⟨oe4, vs4, he4, hz4, hd4⟩ := fl4.there
      have S4 := J4.suite he4 hd4 na nL nF
      refine store_ok (X := X.suite a ((a, oe4) :: (X.pn ++ pins))) (v := .ref a) S4 hN hi hloc rfl (fun s5 S5 => ?_) (.inr hln)
      have hvar : PE (X.suite a ((a, oe4) :: (X.pn ++ pins))) (.Name n pn) (tVar i) := pe_var hi hvn hdn hcn
      have hsu : PSs (X.suite a ((a, oe4) :: (X.pn ++ pins))) [.Assign [.Name y py] (.Name n pn) ap] (tAsg (tVar i) (gName j)) := pss_one (ps_set hN hj hlocy hvar (hsw _ rfl) (.inr hly))
      have hsl : i < (σ'.set i (some (.ref a))).length := by rw [List.length_set, J4.len]; exact hil
      refine wpAny_mono (hsu.run [] s5 _ H' { nx := fun σ6 H6 => σ6 = (σ'.set i (some (.ref a))).set j (some (.ref a)) ∧ H6 = H', rt := fun _ _ => False, bk := fun _ _ => False, ct := fun _ _ => False } S5 ⟨.ref a, by rw [List.getElem?_set_self (by rw [List.length_set] at hsl; exact hsl)], rfl, rfl⟩) (fun f s6 hsp => ?_) (fun _ _ z => False.elim z)
      cases f with
      | next =>
        obtain ⟨σ6, H6, S6, e6, e7⟩ := hsp
        subst e6; subst e7
        refine gone_ok (X := X.suite a ((a, oe4) :: (X.pn ++ pins))) S6 hN hi hln fun s7 I7 => ?_
        have g7 := (I7.pin (a, oe4) (by rw [List.append_nil]; exact List.mem_cons_self)).1
        exact ⟨_, _, inv_wide (I7.unsuite ok) n0 na npn nL nc (exO_ok g7 hz4 hd4), hyes rfl a na⟩
      | brk =>
        obtain ⟨_, _, _, z⟩ := hsp
        exact z.elim
      | cont =>
        obtain ⟨_, _, _, z⟩ := hsp
        exact z.elim
      | ret u =>
        obtain ⟨_, _, _, _, _, z⟩ := hsp
        exact z.elim
    | false =>
      show wpAny _ X.A (handleBy (.ref a) X.env []) _ _ _
      refine wpAny_handleBy_nil ?_
      obtain ⟨k1, k2, k3, oe, vs, T, oT, ts', he, hz, hd, h1, hr⟩ := id fl3
      unfold PySem.passOn
      refine wpAny_bind (wpAny_field he hd h1 ?_)
      rw [if_neg (show ¬ ((Value.ref T == Value.none) = true) from by simp)]
      have fin : wpAny (model X.prog X.w) X.A (setFlight (.ref a) X.env.frame) (fun _ s4 => wpAny (model X.prog X.w) X.A (throw (.ref a) : Sem Flow) (SP X pins D) X.xe s4) X.xe { s' with heap := h3 } := by
        rw [hf]
        refine HandSPX.setFlight_upZ fl3 fun h4 hh4 up4 => wpAny_throw (tk _ _ ?_)
        exact ⟨a, B, sI, pins, σ', H', cls, d, rfl, J, nb, (up.trans up3).trans up4, .inr (.inr (by rw [hs]; exact hh4)), na, os, ag, hno rfl⟩
      first
        | exact wpAny_bind (wpAny_pure (wpAny_bind fin))
        | exact wpAny_bind fin
  · cases f with
    | next =>
      obtain ⟨σ', H', J', q⟩ := hsp
      exact wpAny_execs_nil ⟨σ', H', J'.ofTry ok, q⟩
    | brk =>
      obtain ⟨σ', H', J', q⟩ := hsp
      exact ⟨σ', H', J'.ofTry ok, q⟩
    | cont =>
      obtain ⟨σ', H', J', q⟩ := hsp
      exact ⟨σ', H', J'.ofTry ok, q⟩
    | ret u =>
      obtain ⟨v, σ', H', J', r, q⟩ := hsp
      exact ⟨v, σ', H', J'.ofTry ok, r, q⟩
end
section
variable {X : Cx} {W : WX} {g g' : Gm} {l l' : List Res} {Φ : Po} {body rest : List Stmt} {x n y : Str} {C : Addr} {i j : Nat} {np pos pos' py pn ap : Pos}
/-- try: body except C as n: y = n -/
theorem blk_try_keep (EXP : Value → Option Addr → Gm → List Res → Prop) (tk : Takes X W) (hN : X.N.Nodup) (hi : X.N[i]? = some n) (hj : X.N[j]? = some y) (hc : Dxc X.K X.mg x C)
    (hb : ∀ (W' : WX) (pn : List (Addr × Obj)) (xe : Value → Shared → Prop), Takes (X.tr pn xe) W' → PassesOwn (model X.prog X.w) X.A X.env xe → Blk (X.tr pn xe) W' body g l { Φ with nx := fun g' l' => Blk X W rest g' l' Φ, ex := EXP })
    (hx : ∀ cls d g' l', EXP cls d g' l' → ∃ b, PySem.W.exmOne X.K cls (.ref C) = some b ∧ (b = true → ∀ a, Blk X W rest (((g'.set i (some (.adr a))).set j (some (.adr a))).set i none) (ownX a cls d :: l') Φ) ∧ (b = false → Φ.ex cls d g' l'))
    (hln : X.env.kindOf n = some .local := by rfl) (hly : X.env.kindOf y = some .local := by rfl) (hij : i ≠ j := by decide) (hil : i < X.N.length := by exact Nat.le_of_ble_eq_true rfl) (hvn : Vis X.env.scope n := by exact .inl rfl) (hdn : (n == ("__debug__" : Str)) = false := by decide) (hcn : (n == ("__classdict__" : Str)) = false := by decide)
    (hg : Gl X x := by rfl) (hdx : (x == ("__debug__" : Str)) = false := by decide)
    (hs : X.stack = X.env :: X.outer := by rfl) (hf : X.env.frame = some X.env.locals := by rfl) (hex : X.ex = [] := by rfl)
    (hsw : ∀ Y : Cx, Y.env = X.env → swapsWith (.Name n pn) (some (.Name y py)) ap.line Y.env = pure false := by intro Y e; rw [e]; rfl) :
    Blk X W (.Try body [.ExceptHandler (some (.Name x np)) (some n) [.Assign [.Name y py] (.Name n pn) ap] pos'] [] [] pos :: rest) g l Φ := fun en T σ H D s m =>
  wpS_of (pss_cons (ps_try_keep (c := .ref C) (tb := fun W' => fun D' σ' H' => ∀ pn xe, Takes (X.tr pn xe) W' → PassesOwn (model X.prog X.w) X.A X.env xe → wpS (X.tr pn xe) body D' σ' H') hs hf hex hN hi hln hj hly hij hil hvn hdn hcn ⟨hg, hdx, .inl hc.nm⟩ tk
    (fun W' pn xe t1 t2 => ⟨fun pins s1 σ1 H1 D1 I h => h pn xe t1 t2 pins s1 I⟩) hsw) pss_wp) (fun pn xe t1 t2 => by
      refine hb _ pn xe t1 t2 en T σ H _ s ⟨fun g' l' σ' H' p s' => p en T σ' H' D s' m, m.rt, m.bk, m.ct, fun cls d g' l' σ' H' p s' => ?_⟩
      obtain ⟨b, h1, h2, h3⟩ := hx cls d g' l' p
      refine ⟨b, h1, fun hb a ha => ?_, fun hb => m.ex _ _ _ _ _ _ (h3 hb) s'⟩
      obtain ⟨F, M, q⟩ := s'
      have q2 := q.newO (r := ownX a cls d) (A := one a (exO a cls d)) (H' := upd H' a (exO a cls d)) (.new ha) (fun z o w => by obtain ⟨rfl, rfl⟩ := one_some w; exact upd_same) (fun z o w => by obtain ⟨rfl, rfl⟩ := one_some w; exact ha) rfl
      exact h2 hb a en T _ _ D ⟨F, _, q2.slots (((q2.sl.set i (.adr a)).set j (.adr a)).clear i)⟩ m)
/-! ### what a kept one is -/
def rIsK (K : PySem.W.Frag) : List V → Hp → VK → Prop := fun xs H Q => ∃ (a D : Addr) (c : V) (cv : Value) (b : Bool), xs = [.ref a, c] ∧ H a = some (exO a (.ref D) none) ∧ ExcC K D ∧ ClsV c cv ∧ PySem.W.kitOne K (.ref D) cv = some b ∧ Q (.bl b) H
def rIsKT (K : PySem.W.Frag) : List V → Hp → VK → Prop := fun xs H Q => ∃ (a D tp : Addr) (cs : List V) (ws : List Value) (b : Bool), xs = [.ref a, .ref tp] ∧ H a = some (exO a (.ref D) none) ∧ ExcC K D ∧ SqT K H tp cs ∧ Paired ClsV cs ws ∧ PySem.W.kitAny K (.ref D) ws = some b ∧ Q (.bl b) H
theorem exO_inst {P : Program} {w : World} {H : Hp} {h : Heap} {a D : Addr} (hok : HOk P w H h) (ha : H a = some (exO a (.ref D) none)) : ∃ oe, PySem.W.InstAt h a oe D none := by
  have x : ObjOk P w H h a (exO a (.ref D) none) := hok a _ ha
  obtain ⟨⟨oe, h1, h2, vs, h3⟩, _⟩ := x
  obtain ⟨oc, od, oda, osl⟩ := oe
  obtain ⟨e1, e2⟩ := h2
  dsimp only at e1 e2 h3
  subst e1; subst e2; subst h3
  exact ⟨_, h1, rfl, rfl, trivial⟩
theorem call_isK : CallR X (.builtin "isinstance") (rIsK X.K) := by
  intro pins s σ H xs us Q I r h
  obtain ⟨a, D, c, cv, b, rfl, ha, ec, k, e, q⟩ := h
  obtain ⟨u1, u2, rfl, r1, r2⟩ := vals2 r
  cases (show u1 = Value.ref a from r1)
  have e2 := k.eq r2
  subst e2
  obtain ⟨oe, J⟩ := exO_inst I.hok ha
  exact PySem.W.kia_one (PySem.W.handS_kitx_exc ec.hg ec.hk ec.hs ec.hd ec.ha ec.hn ec.ht ec.hm) I.kIn J e (fun z => nomatch z) fun tk => ⟨.bl b, H, I.tok tk, rfl, q⟩
theorem call_isKT : CallR X (.builtin "isinstance") (rIsKT X.K) := by
  intro pins s σ H xs us Q I r h
  obtain ⟨a, D, tp, cs, ws, b, rfl, ha, ec, hT, k, e, q⟩ := h
  obtain ⟨u1, u2, rfl, r1, r2⟩ := vals2 r
  cases (show u1 = Value.ref a from r1)
  cases (show u2 = Value.ref tp from r2)
  obtain ⟨oe, J⟩ := exO_inst I.hok ha
  obtain ⟨its, rv, ⟨o, h1, h2, n, h3⟩, _⟩ := I.tuple hT
  have e3 := ClsV.all k rv
  subst e3
  obtain ⟨oc, od, dt, sl⟩ := o
  simp only at h2 h3
  subst h2 h3
  exact PySem.W.kia_tup (PySem.W.handS_kitx_exc ec.hg ec.hk ec.hs ec.hd ec.ha ec.hn ec.ht ec.hm) I.kIn J h1 e (fun z => nomatch z) fun tk => ⟨.bl b, H, I.tok tk, rfl, q⟩
theorem Rs.exc {F M H : Hp} {k : Nat} {a : Addr} {cls : Value} {d : Option Addr} (h : Rs l F M) (e : l[k]? = some (ownX a cls d)) (m : Ex M H) : H a = some (exO a cls d) := by
  obtain ⟨A, B, rfl, dj, rfl, _⟩ := Rs.at e h
  exact m a _ (join_l one_same)
theorem o_isK {K : PySem.W.Frag} {a D C : Addr} {b : Bool} {k : Nat} (hk : l[k]? = some (ownX a (.ref D) none)) (ec : ExcC K D) (h : PySem.W.kitOne K (.ref D) (.ref C) = some b) : OpN K l (rIsK K) [.adr a, .adr C] (.bl b) := fun F M H vs Q eF eM dj rs f kk => by
  cases f with
  | cons f1 f2 =>
    cases f2 with
    | cons f2 f3 =>
      cases f3; cases f1; cases f2
      exact ⟨a, D, _, _, b, rfl, rs.exc hk eM, ec, .own C, h, kk _ F H (.rf eF) (.bl _)⟩
theorem o_isKt {K : PySem.W.Frag} {a D : Addr} {t : String} {b : Bool} {k : Nat} (hk : l[k]? = some (ownX a (.ref D) none)) (ec : ExcC K D) (h : PySem.W.kitOne K (.ref D) (.type t) = some b) : OpN K l (rIsK K) [.adr a, .ty t] (.bl b) := fun F M H vs Q eF eM dj rs f kk => by
  cases f with
  | cons f1 f2 =>
    cases f2 with
    | cons f2 f3 =>
      cases f3; cases f1; cases f2
      exact ⟨a, D, _, _, b, rfl, rs.exc hk eM, ec, .ty t, h, kk _ F H (.rf eF) (.bl _)⟩
theorem adr_cls {K : PySem.W.Frag} {F : Hp} : ∀ {cs : List Addr} {vs : List V}, FdAll K F vs (cs.map D.adr) → Paired ClsV vs (cs.map Value.ref)
  | [], _, .nil => .nil
  | c :: cs, _, .cons a b => by
    cases a
    exact .cons (.own c) (adr_cls b)
theorem o_isKT {K : PySem.W.Frag} {a D0 : Addr} {cs : List Addr} {b : Bool} {k : Nat} (hk : l[k]? = some (ownX a (.ref D0) none)) (ec : ExcC K D0) (h : PySem.W.kitAny K (.ref D0) (cs.map Value.ref) = some b) : OpN K l (rIsKT K) [.adr a, .tup (cs.map D.adr)] (.bl b) := fun F M H vs Q eF eM dj rs f kk => by
  cases f with
  | cons f1 f2 =>
    cases f2 with
    | cons f2 f3 =>
      cases f3; cases f1
      cases f2 with
      | tup s fa => exact ⟨a, D0, _, _, _, b, rfl, rs.exc hk eM, ec, ex_t eF s, adr_cls fa, h, kk _ F H (.rf eF) (.bl _)⟩
theorem kit_no {K : PySem.W.Frag} {D : Addr} : ∀ {cs : List Addr}, (∀ c ∈ cs, PySem.W.kitOne K (.ref D) (.ref c) = some false) → PySem.W.kitAny K (.ref D) (cs.map Value.ref) = some false
  | [], _ => rfl
  | c :: cs, h => by
    show (match PySem.W.kitOne K (.ref D) (.ref c) with | some true => some true | some false => PySem.W.kitAny K (.ref D) (cs.map Value.ref) | none => none) = some false
    rw [h c List.mem_cons_self]
    exact kit_no fun x hx => h x (List.mem_cons_of_mem _ hx)
end
end Sx
set_option Elab.async false
set_option linter.all false
set_option maxRecDepth 100000
set_option maxHeartbeats 2000000
/-! == of encoded things. -/
namespace Sx
open PySem L2
/-- == of things encoded by enc is equality -/
structure EqS {α : Type} [DecidableEq α] (k : Nat) (ok : α → Prop) (enc : α → D) : Prop where
  ex : ∀ x, ok x → ∃ p, (enc x).py = some p ∧ p.canLay0 = true ∧ p.depth ≤ k
  eq : ∀ x y p q, (enc x).py = some p → (enc y).py = some q → PyData.eqv p q = decide (x = y)
theorem beq_dec {α : Type} [DecidableEq α] [BEq α] [LawfulBEq α] (x y : α) : (x == y) = decide (x = y) := by
  by_cases h : x = y
  · subst h; simp
  · rw [decide_eq_false h]; exact beq_false_of_ne h
theorem eqs_int : EqS 0 (fun _ => True) D.int := ⟨fun x _ => ⟨_, rfl, rfl, Nat.le_refl _⟩, fun x y p q h1 h2 => by cases h1; cases h2; exact beq_dec x y⟩
theorem eqs_bool : EqS 0 (fun _ => True) D.bl := ⟨fun x _ => ⟨_, rfl, rfl, Nat.le_refl _⟩, fun x y p q h1 h2 => by cases h1; cases h2; exact beq_dec x y⟩
theorem eqs_str : EqS 0 (fun x => PySem.PyData.strOk x = true) D.str := ⟨fun x h => ⟨_, rfl, h, Nat.le_refl _⟩, fun x y p q h1 h2 => by cases h1; cases h2; exact beq_dec x y⟩
section
variable {α β γ δ : Type} [DecidableEq α] [DecidableEq β] [DecidableEq γ] [DecidableEq δ] {k : Nat} {ok : α → Prop} {ok2 : β → Prop} {ok3 : γ → Prop} {ok4 : δ → Prop} {enc : α → D} {enc2 : β → D} {enc3 : γ → D} {enc4 : δ → D}
theorem pys_cons {d : D} {ds : List D} {ps : List PyData} (h : D.pys (d :: ds) = some ps) : ∃ a b, d.py = some a ∧ D.pys ds = some b ∧ ps = a :: b := by
  unfold D.pys at h
  obtain ⟨a, h1, h⟩ := Option.bind_eq_some_iff.mp h
  obtain ⟨b, h2, h⟩ := Option.map_eq_some_iff.mp h
  exact ⟨a, b, h1, h2, h.symm⟩
theorem pys_mk {d : D} {ds : List D} {a : PyData} {b : List PyData} (h1 : d.py = some a) (h2 : D.pys ds = some b) : D.pys (d :: ds) = some (a :: b) := by
  unfold D.pys; rw [h1, h2]; rfl
theorem EqS.all (E : EqS k ok enc) : ∀ {xs : List α}, (∀ x ∈ xs, ok x) → ∃ ps, D.pys (xs.map enc) = some ps ∧ PyData.canLayAll0 ps = true ∧ PyData.depthAll ps ≤ k := fun {xs} h =>
  Dp'.all fun d hd => by
    obtain ⟨x, hx, rfl⟩ := List.mem_map.mp hd
    exact E.ex x (h x hx)
theorem EqS.eqAll (E : EqS k ok enc) : ∀ {xs ys : List α} {ps qs : List PyData}, D.pys (xs.map enc) = some ps → D.pys (ys.map enc) = some qs → PyData.eqvAll ps qs = decide (xs = ys)
  | [], [], _, _, h1, h2 => by cases h1; cases h2; rfl
  | [], y :: ys, _, _, h1, h2 => by
    cases h1
    rw [List.map_cons] at h2
    obtain ⟨a, b, _, _, rfl⟩ := pys_cons h2
    rfl
  | x :: xs, [], _, _, h1, h2 => by
    cases h2
    rw [List.map_cons] at h1
    obtain ⟨a, b, _, _, rfl⟩ := pys_cons h1
    rfl
  | x :: xs, y :: ys, _, _, h1, h2 => by
    rw [List.map_cons] at h1 h2
    obtain ⟨a, b, e1, e2, rfl⟩ := pys_cons h1
    obtain ⟨a', b', e3, e4, rfl⟩ := pys_cons h2
    show (PyData.eqv a a' && PyData.eqvAll b b') = _
    rw [E.eq x y a a' e1 e3, EqS.eqAll E e2 e4]
    by_cases h : x = y
    · subst h
      by_cases h' : xs = ys
      · subst h'; simp
      · simp [h']
    · simp [h]
theorem eqs_lst (E : EqS k ok enc) : EqS (k + 1) (fun xs : List α => ∀ x ∈ xs, ok x) (lstE enc) := ⟨fun xs h => Dp'.lst fun d hd => by
    obtain ⟨x, hx, rfl⟩ := List.mem_map.mp hd
    exact E.ex x (h x hx), fun x y p q h1 h2 => by
    unfold D.py at h1 h2
    obtain ⟨ps, h3, rfl⟩ := Option.map_eq_some_iff.mp h1
    obtain ⟨qs, h4, rfl⟩ := Option.map_eq_some_iff.mp h2
    exact E.eqAll h3 h4⟩
theorem eqs_tl (E : EqS k ok enc) : EqS (k + 1) (fun xs : List α => ∀ x ∈ xs, ok x) (tlE enc) := ⟨fun xs h => Dp'.tup fun d hd => by
    obtain ⟨x, hx, rfl⟩ := List.mem_map.mp hd
    exact E.ex x (h x hx), fun x y p q h1 h2 => by
    unfold D.py at h1 h2
    obtain ⟨ps, h3, rfl⟩ := Option.map_eq_some_iff.mp h1
    obtain ⟨qs, h4, rfl⟩ := Option.map_eq_some_iff.mp h2
    exact E.eqAll h3 h4⟩
theorem tup_py {ds : List D} {p : PyData} (h : (D.tup ds).py = some p) : ∃ ps, D.pys ds = some ps ∧ p = .tuple ps := by
  unfold D.py at h
  obtain ⟨ps, h1, rfl⟩ := Option.map_eq_some_iff.mp h
  exact ⟨ps, h1, rfl⟩
theorem eqs_t2 {k2 : Nat} {e : α × β → D} (E : EqS k ok enc) (E2 : EqS k2 ok2 enc2) (he : ∀ x, e x = .tup [enc x.1, enc2 x.2] := by intro x; rfl) : EqS (max k k2 + 1) (fun x : α × β => ok x.1 ∧ ok2 x.2) e := ⟨fun x h => by
    rw [he]
    refine Dp'.tup fun d hd => ?_
    simp only [List.mem_cons, List.not_mem_nil, or_false] at hd
    rcases hd with rfl | rfl
    · exact Dp'.mono (E.ex _ h.1) (by omega)
    · exact Dp'.mono (E2.ex _ h.2) (by omega), fun x y p q h1 h2 => by
    rw [he] at h1 h2
    obtain ⟨ps, h3, rfl⟩ := tup_py h1
    obtain ⟨qs, h4, rfl⟩ := tup_py h2
    obtain ⟨a1, b1, u1, v1, rfl⟩ := pys_cons h3
    obtain ⟨a2, b2, u2, v2, rfl⟩ := pys_cons v1
    cases v2
    obtain ⟨c1, d1, w1, z1, rfl⟩ := pys_cons h4
    obtain ⟨c2, d2, w2, z2, rfl⟩ := pys_cons z1
    cases z2
    show (PyData.eqv a1 c1 && (PyData.eqv a2 c2 && true)) = _
    rw [E.eq _ _ _ _ u1 w1, E2.eq _ _ _ _ u2 w2]
    obtain ⟨x1, x2⟩ := x; obtain ⟨y1, y2⟩ := y
    simp [Prod.mk.injEq]⟩
theorem eqs_t3 {k2 k3 : Nat} {e : α × β × γ → D} (E : EqS k ok enc) (E2 : EqS k2 ok2 enc2) (E3 : EqS k3 ok3 enc3) (he : ∀ x, e x = .tup [enc x.1, enc2 x.2.1, enc3 x.2.2] := by intro x; rfl) : EqS (max k (max k2 k3) + 1) (fun x : α × β × γ => ok x.1 ∧ ok2 x.2.1 ∧ ok3 x.2.2) e := ⟨fun x h => by
    rw [he]
    refine Dp'.tup fun d hd => ?_
    simp only [List.mem_cons, List.not_mem_nil, or_false] at hd
    rcases hd with rfl | rfl | rfl
    · exact Dp'.mono (E.ex _ h.1) (by omega)
    · exact Dp'.mono (E2.ex _ h.2.1) (by omega)
    · exact Dp'.mono (E3.ex _ h.2.2) (by omega), fun x y p q h1 h2 => by
    rw [he] at h1 h2
    obtain ⟨ps, h3, rfl⟩ := tup_py h1
    obtain ⟨qs, h4, rfl⟩ := tup_py h2
    obtain ⟨a1, b1, u1, v1, rfl⟩ := pys_cons h3
    obtain ⟨a2, b2, u2, v2, rfl⟩ := pys_cons v1
    obtain ⟨a3, b3, u3, v3, rfl⟩ := pys_cons v2
    cases v3
    obtain ⟨c1, d1, w1, z1, rfl⟩ := pys_cons h4
    obtain ⟨c2, d2, w2, z2, rfl⟩ := pys_cons z1
    obtain ⟨c3, d3, w3, z3, rfl⟩ := pys_cons z2
    cases z3
    show (PyData.eqv a1 c1 && (PyData.eqv a2 c2 && (PyData.eqv a3 c3 && true))) = _
    rw [E.eq _ _ _ _ u1 w1, E2.eq _ _ _ _ u2 w2, E3.eq _ _ _ _ u3 w3]
    obtain ⟨x1, x2, x3⟩ := x; obtain ⟨y1, y2, y3⟩ := y
    simp [Prod.mk.injEq]⟩
theorem eqs_t4 {k2 k3 k4 : Nat} {e : α × β × γ × δ → D} (E : EqS k ok enc) (E2 : EqS k2 ok2 enc2) (E3 : EqS k3 ok3 enc3) (E4 : EqS k4 ok4 enc4) (he : ∀ x, e x = .tup [enc x.1, enc2 x.2.1, enc3 x.2.2.1, enc4 x.2.2.2] := by intro x; rfl) : EqS (max k (max k2 (max k3 k4)) + 1) (fun x : α × β × γ × δ => ok x.1 ∧ ok2 x.2.1 ∧ ok3 x.2.2.1 ∧ ok4 x.2.2.2) e := ⟨fun x h => by
    rw [he]
    refine Dp'.tup fun d hd => ?_
    simp only [List.mem_cons, List.not_mem_nil, or_false] at hd
    rcases hd with rfl | rfl | rfl | rfl
    · exact Dp'.mono (E.ex _ h.1) (by omega)
    · exact Dp'.mono (E2.ex _ h.2.1) (by omega)
    · exact Dp'.mono (E3.ex _ h.2.2.1) (by omega)
    · exact Dp'.mono (E4.ex _ h.2.2.2) (by omega), fun x y p q h1 h2 => by
    rw [he] at h1 h2
    obtain ⟨ps, h3, rfl⟩ := tup_py h1
    obtain ⟨qs, h4, rfl⟩ := tup_py h2
    obtain ⟨a1, b1, u1, v1, rfl⟩ := pys_cons h3
    obtain ⟨a2, b2, u2, v2, rfl⟩ := pys_cons v1
    obtain ⟨a3, b3, u3, v3, rfl⟩ := pys_cons v2
    obtain ⟨a4, b4, u4, v4, rfl⟩ := pys_cons v3
    cases v4
    obtain ⟨c1, d1, w1, z1, rfl⟩ := pys_cons h4
    obtain ⟨c2, d2, w2, z2, rfl⟩ := pys_cons z1
    obtain ⟨c3, d3, w3, z3, rfl⟩ := pys_cons z2
    obtain ⟨c4, d4, w4, z4, rfl⟩ := pys_cons z3
    cases z4
    show (PyData.eqv a1 c1 && (PyData.eqv a2 c2 && (PyData.eqv a3 c3 && (PyData.eqv a4 c4 && true)))) = _
    rw [E.eq _ _ _ _ u1 w1, E2.eq _ _ _ _ u2 w2, E3.eq _ _ _ _ u3 w3, E4.eq _ _ _ _ u4 w4]
    obtain ⟨x1, x2, x3, x4⟩ := x; obtain ⟨y1, y2, y3, y4⟩ := y
    simp [Prod.mk.injEq]⟩
theorem eqs_opt (E : EqS k ok enc) (hn : ∀ x p, (enc x).py = some p → PyData.eqv .none p = false ∧ PyData.eqv p .none = false := by intro x p h; cases h; exact ⟨rfl, rfl⟩) : EqS k (fun o : Option α => ∀ x, o = some x → ok x) (optE enc) := ⟨fun o h => by
    cases o with
    | none => exact ⟨_, rfl, rfl, Nat.zero_le _⟩
    | some x => exact E.ex x (h x rfl), fun o o' p q h1 h2 => by
    cases o with
    | none => cases o' with
      | none => cases h1; cases h2; rfl
      | some y => cases h1; rw [(hn y q h2).1]; rfl
    | some x => cases o' with
      | none => cases h2; rw [(hn x p h1).2]; rfl
      | some y =>
        rw [E.eq x y p q h1 h2]
        by_cases h : x = y
        · subst h; simp
        · have : ¬ some x = some y := fun e => h (Option.some.inj e)
          rw [decide_eq_false h, decide_eq_false this]⟩
theorem EqS.imp {ok' : α → Prop} (E : EqS k ok enc) (h : ∀ x, ok' x → ok x) : EqS k ok' enc := ⟨fun x hx => E.ex x (h x hx), E.eq⟩
variable {K : PySem.W.Frag} {l : List Res} {d1 d2 : D} {x y : α} {xs ys : List α}
theorem o_eqE (E : EqS k ok enc) (hx : ok x) (hy : ok y) (hk : k ≤ 64 := by decide) : Op2 K l (rEqD K) (enc x) (enc y) (.bl (decide (x = y))) := by
  obtain ⟨p, h1, h2, h3⟩ := E.ex x hx
  obtain ⟨q, g1, g2, g3⟩ := E.ex y hy
  exact (o_eqD h1 g1 (shaped_of h2 h3 hk) (shaped_of g2 g3 hk)).to (congrArg D.bl (E.eq x y p q h1 g1))
theorem o_neE (E : EqS k ok enc) (hx : ok x) (hy : ok y) (hk : k ≤ 64 := by decide) : Op2 K l (rNeD K) (enc x) (enc y) (.bl (!decide (x = y))) := by
  obtain ⟨p, h1, h2, h3⟩ := E.ex x hx
  obtain ⟨q, g1, g2, g3⟩ := E.ex y hy
  exact (o_neD h1 g1 (shaped_of h2 h3 hk) (shaped_of g2 g3 hk)).to (congrArg (fun b => D.bl (!b)) (E.eq x y p q h1 g1))
/-- .. of lists, owned or not -/
theorem o_eqLE (E : EqS k ok enc) (hd1 : Lv K l d1 (xs.map enc)) (hd2 : Lv K l d2 (ys.map enc)) (hx : ∀ x ∈ xs, ok x) (hy : ∀ x ∈ ys, ok x) (hk : k ≤ 60 := by decide) : Op2 K l (rEqD K) d1 d2 (.bl (decide (xs = ys))) := fun F M H v u Q eF eM dj rs f1 f2 kk => by
  obtain ⟨ps, h1, h2, h3⟩ := E.all hx
  obtain ⟨qs, g1, g2, g3⟩ := E.all hy
  have e := E.eqAll h1 g1
  refine ⟨.list ps, .list qs, hd1.dp eF eM rs f1 h1, hd2.dp eF eM rs f2 g1, shaped_of (k := 61) (by exact h2) (by show _ + 1 ≤ 61; omega) (by decide), shaped_of (k := 61) (by exact g2) (by show _ + 1 ≤ 61; omega) (by decide), ?_⟩
  have e2 : PyData.eqv (.list ps) (.list qs) = decide (xs = ys) := e
  rw [e2]
  exact kk _ F H (.rf eF) (.bl _)
theorem o_neLE (E : EqS k ok enc) (hd1 : Lv K l d1 (xs.map enc)) (hd2 : Lv K l d2 (ys.map enc)) (hx : ∀ x ∈ xs, ok x) (hy : ∀ x ∈ ys, ok x) (hk : k ≤ 60 := by decide) : Op2 K l (rNeD K) d1 d2 (.bl (!decide (xs = ys))) := fun F M H v u Q eF eM dj rs f1 f2 kk => by
  obtain ⟨ps, h1, h2, h3⟩ := E.all hx
  obtain ⟨qs, g1, g2, g3⟩ := E.all hy
  have e := E.eqAll h1 g1
  refine ⟨.list ps, .list qs, hd1.dp eF eM rs f1 h1, hd2.dp eF eM rs f2 g1, shaped_of (k := 61) (by exact h2) (by show _ + 1 ≤ 61; omega) (by decide), shaped_of (k := 61) (by exact g2) (by show _ + 1 ≤ 61; omega) (by decide), ?_⟩
  have e2 : PyData.eqv (.list ps) (.list qs) = decide (xs = ys) := e
  rw [e2]
  exact kk _ F H (.rf eF) (.bl _)
end
end Sx
set_option Elab.async false
set_option linter.all false
set_option maxRecDepth 100000
set_option maxHeartbeats 2000000
/-! More rules for the walker: dropping, borrowing, ways that are never gone. -/
namespace Sx
open PySem L2
section
variable {X : Cx} {W : WX} {g g' : Gm} {l l' : List Res} {e e2 c a b o : Expr} {d d1 d2 : D} {pos p p2 : Pos} {rest A B body sts : List Stmt} {es : List Expr} {β : Type} {Om : β → Po} {m : β} {bb : Bool} {ds ds2 : List D}
theorem bo_dropN (n : Nat) (h : Bo X W sts g (l.drop n) Om m) : Bo X W sts g l Om m := by
  have := Blk.dropO (l' := l.take n) h
  rw [List.take_append_drop] at this
  exact this
/-- a way that is never gone -/
theorem bo_ifD (hc : Ts X c g l bb) (hb : bb = false) (h : Bo X W rest g l Om m) : Bo X W (.If c A [] pos :: rest) g l Om m :=
  blk_if hc (fun e => by rw [hb] at e; cases e) (fun _ => blk_nil h)
theorem bo_ifE (hc : Ts X c g l bb) (hb : bb = false) (h : Bo X W B g l Om m) : Bo X W [.If c A B pos] g l Om m :=
  blk_if hc (fun e => by rw [hb] at e; cases e) (fun _ => h.imp (fun _ _ h => blk_nil h) (fun _ _ h => h) (fun _ _ h => h) (fun _ _ h => h) (fun _ _ _ _ h => h))
theorem bo_ifT (hc : Ts X c g l bb) (hb : bb = true) (h : Bo X W A g l Om m) : Bo X W [.If c A B pos] g l Om m :=
  blk_if hc (fun _ => h.imp (fun _ _ h => blk_nil h) (fun _ _ h => h) (fun _ _ h => h) (fun _ _ h => h) (fun _ _ _ _ h => h)) (fun e => by rw [hb] at e; cases e)
theorem set_same {σ : L2.St} {i : Nat} {x : V} (hv : σ[i]? = some (some x)) : σ.set i (some x) = σ := by
  apply List.ext_getElem?
  intro j
  by_cases z : j = i
  · subst z
    obtain ⟨h1, h2⟩ := List.getElem?_eq_some_iff.mp hv
    rw [List.getElem?_set_self h1, hv]
  · rw [List.getElem?_set_ne (Ne.symm z)]
/-- what is scalar, got with two owned lists taken for frozen -/
theorem px_brw2 {i j k k2 : Nat} {q q2 : Addr} {v0 : V} (hi : nth g i = some (.adr q)) (hj : nth g j = some (.adr q2)) (hij : i ≠ j) (hk : l[k]? = some (ownL X.K q ds)) (hk2 : l[k2]? = some (ownL X.K q2 ds2)) (hd : d.v = some v0)
    (h : Px X e ((g.set i (some (.lst ds))).set j (some (.lst ds2))) [] d) : Px X e g l d := fun en T σ H Q s kk => by
  obtain ⟨F, M, a⟩ := s
  obtain ⟨vs, fvs, hH⟩ := a.rs.own hk a.exM
  obtain ⟨vs2, fvs2, hH2⟩ := a.rs.own hk2 a.exM
  have hF : F q = none := by
    obtain ⟨A, B, hM, _, ⟨vs', _, rfl⟩, _⟩ := Rs.at hk a.rs
    exact a.dj.sym q _ (by rw [hM]; exact join_l one_same)
  have hF2 : F q2 = none := by
    obtain ⟨A, B, hM, _, ⟨vs', _, rfl⟩, _⟩ := Rs.at hk2 a.rs
    exact a.dj.sym q2 _ (by rw [hM]; exact join_l one_same)
  let N : Hp := fun x => if x = q then some (.lst vs) else if x = q2 then some (.lst vs2) else none
  have eF : Ex F (join F N) := fun x o h => join_l h
  have eN : Ex N H := fun x o z => by
    show H x = some o
    have z : (if x = q then some (HO.lst vs) else if x = q2 then some (.lst vs2) else none) = some o := z
    by_cases z1 : x = q
    · rw [if_pos z1] at z; cases z; rw [z1]; exact hH
    · rw [if_neg z1] at z
      by_cases z2 : x = q2
      · rw [if_pos z2] at z; cases z; rw [z2]; exact hH2
      · rw [if_neg z2] at z; cases z
  have e1 : Ex (join F N) H := a.exF.join eN
  have gq : join F N q = some (.lst vs) := by rw [join_r hF]; show (if q = q then _ else _) = _; rw [if_pos rfl]
  have gq2 : join F N q2 = some (.lst vs2) := by
    rw [join_r hF2]
    have : H q2 = some (.lst vs2) := hH2
    show (if q2 = q then some (HO.lst vs) else if q2 = q2 then some (.lst vs2) else none) = _
    by_cases z : q2 = q
    · rw [if_pos z]; rw [z, hH] at this; exact this
    · rw [if_neg z, if_pos rfl]
  have hs : Sl X.K (join F N) ((g.set i (some (.lst ds))).set j (some (.lst ds2))) σ := by
    obtain ⟨v, hv, fv⟩ := a.sl.nth hi
    cases fv
    obtain ⟨v2, hv2, fv2⟩ := a.sl.nth hj
    cases fv2
    have w := ((a.sl.mono eF).set i (d := .lst ds) (v := .ref q) (.lst gq (fvs.mono eF))).set j (d := .lst ds2) (v := .ref q2) (.lst gq2 (fvs2.mono eF))
    rw [set_same hv, set_same hv2] at w
    exact w
  refine h ⟨join F N, emp, H⟩ Tm.tt σ H Q ⟨_, emp, At.entry e1 (fun _ _ z => by cases z) (.emp _) hs trivial rfl⟩ fun v H' s' => ?_
  obtain ⟨F', M', b⟩ := s'
  have hv := D.v_eq b.tm.1 hd
  subst hv
  have n : New F H F H' := New.grow a.exF fun x o z => b.fr x o z rfl
  refine kk _ H' ⟨F, M, (a.new n).tmp ⟨?_, a.tm⟩⟩
  cases d <;> first | (cases hd; constructor) | cases hd
theorem px_isO (n : String) (bv : Bool) {x : Str} {k : Nat} {q : Addr} (z : X.mg "isinstance" = none) (zx : X.mg x = none) (h : Px X e g l (.adr q)) (hk : l[k]? = some (ownL X.K q ds)) (hb : kitB "list" n = some bv := by decide +kernel) (hv : bootBuiltins x = some (.type n) := by decide +kernel)
    (hg : Gl X "isinstance" := by rfl) (hgx : Gl X x := by rfl) (hn : x ≠ "__name__" := by decide) (hd : (x == ("__debug__" : Str)) = false := by decide)
    (hs : starEach [e, .Name x p2] X.env = (false, eval e X.env) :: starEach [.Name x p2] X.env := by rfl) (hs2 : starEach [.Name x p2] X.env = [(false, eval (.Name x p2) X.env)] := by rfl) (hpl : (backTo pos (starEach [.Name x p2] X.env)).any (·.1) = false := by rfl) :
    Px X (.Call (.Name "isinstance" p) [e, .Name x p2] [] pos) g l (.bl bv) := px_bi call_isi z (pa_c h (pa_c (px_tyn zx hv hgx hn hd) pa_n hs2) hs) (o_isiO hk hb) hg (by decide +kernel) (by decide) (by decide) hs hpl
/-- a raising def's own wish is taken -/
theorem takes_cx {P : Program} {w : World} {K : PySem.W.Frag} {mg : Str → Option Value} {base : Heap} {N : List Str} {qual : Str} {scope : Scope} {f : Addr} {cd : Value} {A : Around} {outer : List Env} {s : Shared} {H : Hp} {E : XK} :
    Takes (cxOf (L2.CX P w) P w K mg base N qual scope f cd A outer s H E) (fun cls d _ H => E cls d H) := takes_of rfl rfl rfl rfl
theorem takes_no {X : Cx} : Takes X (fun _ _ _ _ => False) := fun u s' ⟨_, _, _, _, _, _, _, _, _, _, _, _, _, _, _, _, z⟩ => z.elim
end
theorem cut_lenC {α : Type} {xs : List α} {a b : Int} (h0 : 0 ≤ a) (h1 : a ≤ b) : (cut xs (some a) (some b)).length ≤ (b - a).toNat := by
  unfold cut
  rw [List.length_take, List.length_drop]
  have e1 : HT.sIx xs.length 0 (some a) = min a.toNat xs.length := by
    show (if a < 0 then _ else _) = _
    rw [if_neg (by omega)]
  have e2 : HT.sIx xs.length xs.length (some b) = min b.toNat xs.length := by
    show (if b < 0 then _ else _) = _
    rw [if_neg (by omega)]
  rw [e1, e2]
  omega
end Sx
set_option Elab.async false
set_option linter.all false
set_option maxRecDepth 100000
set_option maxHeartbeats 2000000
/-! Exceptions that keep values: their __init__, their raise; a clause without a name. -/
namespace Sx
open PySem L2 PyProof.Rows
/-- an exception that is being made, at a | its dict | an exception's dict -/
def ownEo (a C : Addr) (d : Option Addr) : Res := ⟨fun _ M => M = one a (exo a C d), fun _ h => h, fun m x xs e => by rw [m] at e; obtain ⟨_, e⟩ := one_some e; exact exo_tup e.symm⟩
def ownEd (K : PySem.W.Frag) (dx : Addr) (fs : List (Str × D)) : Res := ⟨fun F M => ∃ vs, FdFs K F vs fs ∧ M = one dx (exd dx vs), fun e ⟨vs, h, m⟩ => ⟨vs, FdFs.mono e _ h, m⟩, fun ⟨_, _, m⟩ x xs e => by rw [m] at e; obtain ⟨_, e⟩ := one_some e; exact exd_tup e.symm⟩
def ownXd (K : PySem.W.Frag) (dx : Addr) (fs : List (Str × D)) : Res := ⟨fun F M => ∃ vs, FdFs K F vs fs ∧ M = one dx (.xd vs), fun e ⟨vs, h, m⟩ => ⟨vs, FdFs.mono e _ h, m⟩, fun ⟨_, _, m⟩ x xs e => by rw [m] at e; obtain ⟨_, e⟩ := one_some e; cases e⟩
/-- what the class R (no own __init__, above it ValueError) must say, so that R.__init__(self, ..) is got -/
structure Rin (K : PySem.W.Frag) (R : Addr) : Prop where
  rd : PySem.W.readsIn K R (.type "type") = true
  fc : PySem.W.findCls K (.ref R) (.type "type") "__init__" = some (.val (.builtin "ValueError.__init__"))
  sp : PySem.W.specialIn K (.ref R) "__getattribute__" = some (some (.builtin "type.__getattribute__"))
section
variable {X : Cx} {o e : Expr} {es : List Expr} {to te : TE} {ta : TA} {f : Str} {p p' p1 p2 pos : Pos} {x : Str} {R : Addr}
theorem pe_reinit {pl : Sem Bool} (hg : Gl X x) (hm : X.mg x = some (.ref R)) (r : Rin X.K R) (ha : PA X (e :: es) ta) (hdb : (x == ("__debug__" : Str)) = false := by decide)
    (ht : MthE X (.Name x p1) "__init__" p2 pos (e :: es) pl := by rfl)
    (he : starEach (e :: es) X.env = (false, eval e X.env) :: starEach es X.env := by rfl) (hpl : (backTo pos (starEach es X.env)).any (·.1) = false := by rfl) :
    PE X (.Call (.Attribute (.Name x p1) "__init__" p2) (e :: es) [] pos) (tVeI X.K ta) := by
  refine ⟨fun pins s σ H Q I h => ?_⟩
  refine PySem.W.methodCall_KW (pl := pl) (ld_glob I hg hm ?_ hdb) ht
  refine PySem.W.method_cls I.kIn r.sp (PySem.W.cls_value I.kIn r.rd r.fc (by decide +kernel) ?_)
  show wpAny _ _ (callWith pos (Value.builtin "ValueError.__init__") [] (backTo pos (starEach (e :: es) X.env)) []) _ _ _
  refine callWith_method1 (thn (ha.run pos pins _ σ H _ (I.tok _) h) fun us s1 hh => ?_) he hpl
  obtain ⟨vs, H1, I1, r1, a, C, ws, ev, hl, T, ea, q⟩ := hh
  subst ev
  cases r1 with
  | @cons _ u0 _ ur ra rw' =>
    cases (show u0 = Value.ref a from ra)
    have hlen : ur.length ≤ sizeLine := by
      rw [← Paired.length rw', sizeLine_eq]
      omega
    exact oinit_ok T I1 ea hlen fun s2 J => ⟨.non, H1, J, rfl, q⟩
end
section
variable {K : PySem.W.Frag} {F H M : Hp} {l : List Res}
theorem Rs.eo {k : Nat} {a C : Addr} {d : Option Addr} (h : Rs l F M) (e : l[k]? = some (ownEo a C d)) (m : Ex M H) : H a = some (exo a C d) := by
  obtain ⟨A, B, rfl, dj, rfl, _⟩ := Rs.at e h
  exact m a _ (join_l one_same)
theorem Rs.ed {k : Nat} {dx : Addr} {fs : List (Str × D)} (h : Rs l F M) (e : l[k]? = some (ownEd K dx fs)) (m : Ex M H) : ∃ vs, FdFs K F vs fs ∧ H dx = some (exd dx vs) := by
  obtain ⟨A, B, rfl, dj, ⟨vs, f, rfl⟩, _⟩ := Rs.at e h
  exact ⟨vs, f, m dx _ (join_l one_same)⟩
end
section
variable {X : Cx} {W : WX} {g g' : Gm} {l l' : List Res} {Φ : Po} {e e2 o : Expr} {es : List Expr} {d : D} {ds : List D} {pos p p1 p2 pos' : Pos} {rest : List Stmt} {x f : Str} {R a C : Addr}
/-- R.__init__(self, ..) -/
theorem blk_reinit {k : Nat} {pl : Sem Bool} (hm : X.mg x = some (.ref R)) (r : Rin X.K R) (T : OexC X.K C) (ha : Pa X (e :: es) g l (.adr a :: ds)) (hk : l[k]? = some (ownEo a C none)) (hz : ds.length ≤ 1000) (h : Blk X W rest g l Φ)
    (hg : Gl X x := by rfl) (hdb : (x == ("__debug__" : Str)) = false := by decide) (ht : MthE X (.Name x p1) "__init__" p2 pos (e :: es) pl := by rfl)
    (he : starEach (e :: es) X.env = (false, eval e X.env) :: starEach es X.env := by rfl) (hpl : (backTo pos (starEach es X.env)).any (·.1) = false := by rfl)
    (hs : swapsWith (.Call (.Attribute (.Name x p1) "__init__" p2) (e :: es) [] pos) none pos'.line X.env = pure false := by rfl) :
    Blk X W (.Expr (.Call (.Attribute (.Name x p1) "__init__" p2) (e :: es) [] pos) pos' :: rest) g l Φ := fun en T' σ H D s m =>
  wpS_of (pss_cons (ps_expr (pe_reinit hg hm r pa_wp hdb ht he hpl) hs) pss_wp) (by
    refine ha en T' σ H _ s fun vs H1 s1 => ?_
    obtain ⟨F, M, q⟩ := id s1
    have fv := q.tm.1
    cases fv with
    | @cons v vs' _ _ f1 f2 =>
      cases f1
      exact ⟨a, C, vs', rfl, by rw [f2.length]; exact hz, T, q.rs.eo hk q.exM, h en T' σ H1 D ⟨F, M, q.tmp q.tm.2⟩ m⟩)
/-- self.f = e, the first -/
theorem blk_ost0 {k : Nat} (T : OexC X.K C) (hno : PySem.W.findIn X.K (.ref C) f = some none) (he : Px X e g l d) (ho : Px X o g l (.adr a)) (hk : l[k]? = some (ownEo a C none)) (h : ∀ dx, Blk X W rest g (ownEd X.K dx [(f, d)] :: l.set k (ownEo a C (some dx))) Φ)
    (hs : swapsWith e (some (.Attribute o f pos')) pos.line X.env = pure false := by rfl) : Blk X W (.Assign [.Attribute o f pos'] e pos :: rest) g l Φ := fun en T' σ H D s m =>
  wpS_of (pss_cons (ps_ost pe_wp pe_wp hs) pss_wp) (by
    refine he en T' σ H _ s fun v H1 s1 => ?_
    refine ho en _ σ H1 _ s1 fun u H2 s2 => ?_
    obtain ⟨F, M, q⟩ := s2
    have fu := q.tm.1
    cases fu
    refine ⟨a, C, rfl, T, hno, .inl ⟨q.rs.eo hk q.exM, fun dx n ne => ?_⟩⟩
    have q2 := (q.tmp (T' := T') q.tm.2.2).newO (r := ownEd X.K dx [(f, d)]) (A := one dx (exd dx [(f, v)])) (H' := upd H2 dx (exd dx [(f, v)])) (.new n) (fun z o w => by obtain ⟨rfl, rfl⟩ := one_some w; exact upd_same) (fun z o w => by obtain ⟨rfl, rfl⟩ := one_some w; exact n) ⟨[(f, v)], .cons q.tm.2.1 .nil, rfl⟩
    obtain ⟨M', q3⟩ := q2.putOne (k := k + 1) (p := a) (r' := ownEo a C (some dx)) (o' := exo a C (some dx)) (by simpa using hk) (fun A e => ⟨_, e⟩) rfl
    exact h dx en T' σ _ D ⟨F, M', q3⟩ m)
/-- .. a further one -/
theorem blk_ost1 {k j : Nat} {dx : Addr} {fs : List (Str × D)} (T : OexC X.K C) (hno : PySem.W.findIn X.K (.ref C) f = some none) (he : Px X e g l d) (ho : Px X o g l (.adr a)) (hk : l[k]? = some (ownEo a C (some dx))) (hj : l[j]? = some (ownEd X.K dx fs)) (hz : fs.length ≤ 900) (h : Blk X W rest g (l.set j (ownEd X.K dx ((f, d) :: fs))) Φ)
    (hs : swapsWith e (some (.Attribute o f pos')) pos.line X.env = pure false := by rfl) : Blk X W (.Assign [.Attribute o f pos'] e pos :: rest) g l Φ := fun en T' σ H D s m =>
  wpS_of (pss_cons (ps_ost pe_wp pe_wp hs) pss_wp) (by
    refine he en T' σ H _ s fun v H1 s1 => ?_
    refine ho en _ σ H1 _ s1 fun u H2 s2 => ?_
    obtain ⟨F, M, q⟩ := s2
    have fu := q.tm.1
    cases fu
    obtain ⟨vs, fv, hd⟩ := q.rs.ed hj q.exM
    refine ⟨a, C, rfl, T, hno, .inr ⟨dx, vs, q.rs.eo hk q.exM, hd, by rw [fv.length]; exact hz, ?_⟩⟩
    obtain ⟨M', q3⟩ := (q.tmp (T' := T') q.tm.2.2).putOne (k := j) (p := dx) (r' := ownEd X.K dx ((f, d) :: fs)) (o' := exd dx ((f, v) :: vs)) hj (fun A ⟨_, _, e⟩ => ⟨_, e⟩) ⟨_, .cons q.tm.2.1 fv, rfl⟩
    exact h en T' σ _ D ⟨F, M', q3⟩ m)
end
/-- what the __init__ of an exception class keeps: the fields fl tells -/
abbrev XiSp (K : PySem.W.Frag) (C : Addr) {α : Type} (ok : α → Prop) (args : α → List D) (fl : α → List (Str × D)) : Sp := FnX K (fun a : Addr × α => ok a.2) (fun a => .adr a.1 :: args a.2) (fun a => [ownEo a.1 C none]) (fun a d l => d = .non ∧ ∃ dx, l = [ownEd K dx (fl a.2), ownEo a.1 C (some dx)]) noE
/-- what the written part says of an exception class with an own __init__ -/
structure Dxi (K : PySem.W.Frag) (mg : Str → Option Value) (x : Str) (C fI : Addr) : Prop where
  nm : mg x = some (.ref C)
  T : OexC K C
  iC : PySem.W.findIn K (.ref C) "__init__" = some (some (.ref fI))
  tI : PySem.W.typeIn K (.ref fI) = some (.type "function")
section
variable {X : Cx} {W : WX} {g g' : Gm} {l l' : List Res} {Φ : Po} {e : Expr} {es : List Expr} {pos p pr : Pos} {rest : List Stmt} {x : Str} {C fI : Addr} {fd : FuncData} {ps : List Str} {kk j : Nat}
/-- raise C(..), C with an own __init__ -/
theorem blk_raiseI {α : Type} {ok : α → Prop} {args : α → List D} {fl : α → List (Str × D)} (hc : X.calm = true) (tk : Takes X W) (x0 : Dxi X.K X.mg x C fI) (F1 : FnOk X.prog X.w X.K X.mg X.base CX0 kk fI fd ps (XiSp X.K C ok args fl)) (hb : Binds X.K fd ps []) (hr : Room j X.A) (hj : kk + 1 ≤ j)
    (a : α) (hok : ok a) (ha : Pa X (e :: es) g l (args a)) (hz : (args a).length ≤ 1000) (h : ∀ dx, Φ.ex (.ref C) (some dx) g (ownXd X.K dx (fl a) :: l))
    (hg : Gl X x := by rfl) (hdb : (x == ("__debug__" : Str)) = false := by decide) (he : starEach (e :: es) X.env = (false, eval e X.env) :: starEach es X.env := by rfl) (hpl : (backTo pos (starEach es X.env)).any (·.1) = false := by rfl) :
    Blk X W (.Raise (some (.Call (.Name x p) (e :: es) [] pos)) none pr :: rest) g l Φ := fun en T σ H D s m =>
  wpS_of (pss_cons (ps_raise hc tk (pmk_oex x0.T x0.iC x0.tI F1 (hr.mono hj) hb .nil pass0 hg x0.nm pa_wp hdb he hpl)) pss_wp) (by
    refine ha en T σ H _ s fun vs H1 s1 => ?_
    obtain ⟨F, M, q⟩ := s1
    refine ⟨by rw [q.tm.1.length]; exact hz, fun b hb1 => ?_⟩
    rw [List.append_nil]
    have nF : F b = none := q.exF.free hb1
    have nM : M b = none := q.exM.free hb1
    have q2 := (q.tmp (T' := T) q.tm.2).newO (r := ownEo b C none) (A := one b (exo b C none)) (H' := upd H1 b (exo b C none)) (.new hb1) (fun z o w => by obtain ⟨rfl, rfl⟩ := one_some w; exact upd_same) (fun z o w => by obtain ⟨rfl, rfl⟩ := one_some w; exact hb1) rfl
    have dAM : Dj (one b (exo b C none)) M := fun z o w => by obtain ⟨rfl, rfl⟩ := one_some w; exact nM
    refine ⟨(b, a), F, one b (exo b C none), hok, q2.exF, q2.exM.joinL, (Dj.l q2.dj.sym).sym, .cons (.adr b) q.tm.1, ⟨_, emp, (join_emp _).symm, Dj.emp _, rfl, rfl⟩, fun v d l2 H2 hp s2 => ?_, fun _ _ _ _ h => h.elim⟩
    obtain ⟨rfl, dx, rfl⟩ := hp
    obtain ⟨F2, M2, b2⟩ := s2
    have fv := b2.tm.1
    cases fv
    -- the parts
    obtain ⟨A1, B1, rfl, dj1, ⟨ws, fws, rfl⟩, r1⟩ := b2.rs
    obtain ⟨A2, B2, rfl, dj2, rfl, r2⟩ := r1
    have r2 : B2 = emp := r2
    subst r2
    rw [join_emp] at dj1
    have ndx : dx ≠ b := fun z => by
      have := dj1 dx _ one_same
      rw [z, one_same] at this; cases this
    have hdx : H2 dx = some (exd dx ws) := b2.exM dx _ (join_l one_same)
    have hbx : H2 b = some (exo b C (some dx)) := b2.exM b _ (by rw [join_r (one_ne (Ne.symm ndx)), join_emp]; exact one_same)
    have n1 : H1 dx = none := by
      rcases b2.nM dx _ (join_l one_same) with z | ⟨w, z⟩
      · have z : upd H1 b (exo b C none) dx = none := z
        rw [upd_ne ndx] at z; exact z
      · have z : one b (exo b C none) dx = some w := z
        rw [one_ne ndx] at z; cases z
    refine ⟨rfl, dx, ws, hbx, hdx, n1, ?_⟩
    refine m.ex _ _ g _ σ _ (h dx) ?_
    have z := q2.frame dAM (lB := l) q.rs b2
    -- the exception goes, its dict stays
    have hF2b : F2 b = none := b2.dj.sym b _ (by rw [join_r (one_ne (Ne.symm ndx)), join_emp]; exact one_same)
    have hF2d : F2 dx = none := b2.dj.sym dx _ (join_l one_same)
    have nMdx : M dx = none := q.exM.free n1
    refine ⟨F2, join (one dx (.xd ws)) M, ?_, ?_, ?_, z.eF, z.nF, ?_, ?_, z.sl, z.tm, ⟨_, M, rfl, ?_, ⟨ws, fws, rfl⟩, q.rs.mono b2.eF⟩⟩
    · intro y o w
      have n1 : y ≠ b := fun e => by rw [e, hF2b] at w; cases w
      have n2 : y ≠ dx := fun e => by rw [e, hF2d] at w; cases w
      rw [upd_ne n2, del_ne n1]
      exact z.exF y o w
    · intro y o w
      rcases join_some w with w | ⟨w1, w⟩
      · obtain ⟨rfl, rfl⟩ := one_some w; exact upd_same
      · have n1 : y ≠ b := fun e => by rw [e, nM] at w; cases w
        have n2 : y ≠ dx := fun e => by rw [e, nMdx] at w; cases w
        rw [upd_ne n2, del_ne n1]
        refine z.exM y o ?_
        rw [join_r (by rw [join_r (one_ne n2), join_emp]; exact one_ne n1)]
        exact w
    · intro y o w
      have n2 : y ≠ dx := fun e => by rw [e, hF2d] at w; cases w
      rw [join_r (one_ne n2)]
      exact (join_none (z.dj y o w)).2
    · intro y o w
      rcases join_some w with w | ⟨w1, w⟩
      · obtain ⟨rfl, _⟩ := one_some w
        exact z.nM y (exd y ws) (join_l (join_l one_same))
      · exact q.nM y o w
    · intro y o h1 h2
      have n1' : y ≠ b := fun e => by
        have := q.fr y o h1 h2
        rw [e, hb1] at this; cases this
      have n2 : y ≠ dx := fun e => by
        have := q.fr y o h1 h2
        rw [e, n1] at this; cases this
      rw [upd_ne n2, del_ne n1']
      exact z.fr y o h1 h2
    · intro y o w
      obtain ⟨rfl, _⟩ := one_some w
      exact nMdx)
end
section
variable {X : Cx} {W : WX} {g g' : Gm} {l l' : List Res} {Φ : Po} {body rest : List Stmt} {x : Str} {C : Addr} {np pos pos' p1 : Pos} {e : Expr}
/-- try: body except C: return e (e a constant) -/
theorem blk_try_ret {v0 : V} (EXP : Value → Option Addr → Gm → List Res → Prop) (tk : Takes X W) (hc : Dxc X.K X.mg x C)
    (hb : ∀ (W' : WX) (pn : List (Addr × Obj)) (xe : Value → Shared → Prop), Takes (X.tr pn xe) W' → PassesOwn (model X.prog X.w) X.A X.env xe → Blk (X.tr pn xe) W' body g l { Φ with nx := fun g' l' => Blk X W rest g' l' Φ, ex := EXP })
    (he : ∀ Y : Cx, PE Y e (tC v0)) (hd : ∀ F, Fd X.K F v0 (D.bl false))
    (hx : ∀ cls d g' l', EXP cls d g' l' → ∃ b, PySem.W.exmOne X.K cls (.ref C) = some b ∧ (b = true → Φ.rt (.bl false) l') ∧ (b = false → Φ.ex cls d g' l'))
    (hg : Gl X x := by rfl) (hdx : (x == ("__debug__" : Str)) = false := by decide) (hs : X.stack = X.env :: X.outer := by rfl) (hf : X.env.frame = some X.env.locals := by rfl) :
    Blk X W (.Try body [.ExceptHandler (some (.Name x np)) none [.Return (some e) p1] pos'] [] [] pos :: rest) g l Φ := fun en T σ H D s m =>
  wpS_of (pss_cons (ps_try_only (c := .ref C) (tb := fun W' => fun D' σ' H' => ∀ pn xe, Takes (X.tr pn xe) W' → PassesOwn (model X.prog X.w) X.A X.env xe → wpS (X.tr pn xe) body D' σ' H') (ts := fun _ _ _ => fun D' σ' H' => D'.rt v0 H') hs hf ⟨hg, hdx, .inl hc.nm⟩ tk
    (fun W' pn xe t1 t2 => ⟨fun pins s1 σ1 H1 D1 I h => h pn xe t1 t2 pins s1 I⟩) (fun a oe cls d pn hz hd' => ⟨fun pins s1 σ1 H1 D1 I h => (pss_one (ps_ret (he _))).run pins s1 σ1 H1 D1 I h⟩)) pss_wp) (fun pn xe t1 t2 => by
      refine hb _ pn xe t1 t2 en T σ H _ s ⟨fun g' l' σ' H' p s' => p en T σ' H' D s' m, m.rt, m.bk, m.ct, fun cls d g' l' σ' H' p s' => ?_⟩
      obtain ⟨b, h1, h2, h3⟩ := hx cls d g' l' p
      refine ⟨b, h1, fun hb a ha => ?_, fun hb => m.ex _ _ _ _ _ _ (h3 hb) s'⟩
      obtain ⟨F, M, q⟩ := s'
      exact m.rt _ l' v0 H' (h2 hb) ⟨F, M, (q.tmp (T' := T.and X.K v0 (.bl false)) ⟨hd F, q.tm⟩).slots .nil⟩)
end
end Sx
set_option Elab.async false
set_option linter.all false
set_option maxRecDepth 100000
set_option maxHeartbeats 2000000
/-! Owned lists handed in; a list of owned lists; a reversed list. -/
namespace Sx
open PySem L2
section
variable {X : Cx} {W : WX} {g g' : Gm} {l l' : List Res} {Φ : Po} {e e2 a b c o : Expr} {es : List Expr} {d d1 d2 d3 : D} {ds ds1 ds2 : List D} {pos p p2 : Pos} {rest : List Stmt}
/-- C(..), C with an own __init__ that is handed owned things -/
theorem ev_makeO {α : Type} {ok : α → Prop} {args : α → List D} {own : α → List Res} {post : α → D → List Res → Prop} {C : Addr} {x : Str} {ps : List Str} {k j : Nat} {lo lr : List Res} {Psi : D → List Res → Prop} {ds : List D}
    (G : GloC X.prog X.w X.K X.mg X.base k C x ps (FnX X.K ok args own post noE)) (hr : Room j X.A) (hj : k + 1 ≤ j) (a : Addr → α) (hok : ∀ q, ok (a q)) (ha : Pa X (e :: es) g (lo ++ lr) ds)
    (hds : ∀ q, args (a q) = .adr q :: ds) (hown : ∀ q, own (a q) = ownI X.K q C [] :: lo) (hq : ∀ q d l', post (a q) d l' → d = .non ∧ Psi (.adr q) (l' ++ lr))
    (hg : Gl X x := by rfl) (hdb : (x == ("__debug__" : Str)) = false := by decide) (he : starEach (e :: es) X.env = (false, eval e X.env) :: starEach es X.env := by rfl) (hpl : (backTo pos (starEach es X.env)).any (·.1) = false := by rfl) :
    Ev X (.Call (.Name x p) (e :: es) [] pos) g (lo ++ lr) Psi := fun en T σ H Q s kk => by
  obtain ⟨f, fd, F, M, hm, hb⟩ := G
  refine wpE_of (pe_make M F (hr.mono hj) hg hm hb .nil pass0 pa_wp hdb he hpl) ?_
  refine ha en T σ H _ s fun vs H1 s1 => ?_
  intro x dx nx ndx ne
  rw [List.append_nil]
  obtain ⟨F1, M1, q1⟩ := s1
  have n2 : (upd H1 dx (.own x)) x = none := by rw [upd_ne (Ne.symm ne)]; exact nx
  have q2 := q1.newO (r := ownI X.K x C []) (A := join (one x (.ins C dx [])) (one dx (.own x))) (H' := upd (upd H1 dx (.own x)) x (.ins C dx [])) ((Ex.new ndx).tr (.new n2))
    (fun y o z => by
      rcases join_some z with w | ⟨w, w'⟩
      · obtain ⟨rfl, rfl⟩ := one_some w; exact upd_same
      · obtain ⟨rfl, rfl⟩ := one_some w'
        rw [upd_ne ne, upd_same])
    (fun y o z => by
      rcases join_some z with w | ⟨w, w'⟩
      · obtain ⟨rfl, rfl⟩ := one_some w; exact nx
      · obtain ⟨rfl, rfl⟩ := one_some w'; exact ndx) ⟨[], dx, ne, .nil, rfl⟩
  have s2 : S X.K en g ((T.and X.K (.ref x) (.adr x)).ands X.K (.ref x :: vs) (args (a x))) (own (a x) ++ lr) σ (upd (upd H1 dx (.own x)) x (.ins C dx [])) := by
    rw [hown]
    exact ⟨F1, _, q2.tmp ⟨by rw [hds]; exact .cons (.adr x) q1.tm.1, .adr x, q1.tm.2⟩⟩
  refine FnX.use (a x) (hok x) s2 (fun v d l' H' hp s' => ?_) fun _ _ _ _ h => h.elim
  · obtain ⟨e1, e2⟩ := hq x d l' hp
    subst e1
    obtain ⟨F3, M3, q3⟩ := s'
    have f3 := q3.tm.1
    cases f3
    exact ⟨rfl, kk _ _ _ H' e2 ⟨F3, M3, q3.tmp q3.tm.2⟩⟩
/-- [a, b], two new lists -/
theorem ev_lst2 (h1 : EvL X a g l ds1) (h2 : ∀ p, EvL X b g (ownL X.K p ds1 :: l) ds2) (hs1 : starEach [a, b] X.env = (false, eval a X.env) :: starEach [b] X.env := by rfl) (hs2 : starEach [b] X.env = [(false, eval b X.env)] := by rfl) :
    Ev X (.List [a, b] pos) g l (fun d l' => ∃ p q, d = .lst [.adr p, .adr q] ∧ l' = ownL X.K q ds2 :: ownL X.K p ds1 :: l) := fun en T σ H Q s k => wpE_of (pe_lst pa_wp) (by
  refine wpA_of (pa_cons pe_wp pa_wp hs1) ?_
  refine h1 en T σ H _ s fun v d l1 H1 hp s1 => ?_
  obtain ⟨p, rfl, rfl⟩ := hp
  refine wpA_of (pa_cons pe_wp pa_wp hs2) ?_
  refine h2 p en _ σ H1 _ s1 fun u d2 l2 H2 hp2 s2 => ?_
  obtain ⟨q, rfl, rfl⟩ := hp2
  refine wpA_of pa_nil ?_
  obtain ⟨F, M, a⟩ := s2
  refine ⟨by show 2 ≤ sizeLine; decide, fun r hr => ?_⟩
  have n := New.upd (o := .lst [v, u]) a.exF hr
  exact k _ _ _ _ ⟨p, q, rfl, rfl⟩ ⟨_, M, (a.new n).tmp ⟨.lst upd_same (FdAll.mono n.f _ (.cons a.tm.2.1 (.cons a.tm.1 .nil))), T.mono n.f a.tm.2.2⟩⟩)
end
/-- [p, q] != [.., ..], p and q owned lists of just these -/
theorem o_neO2 {K : PySem.W.Frag} {l : List Res} {p q : Addr} {ds1 ds2 : List D} {i j k : Nat} (hi : l[i]? = some (ownL K p ds1)) (hj : l[j]? = some (ownL K q ds2)) (h1 : Dp' k (.lst ds1)) (h2 : Dp' k (.lst ds2)) (hk : k ≤ 60 := by decide) :
    Op2 K l (rNeD K) (.lst [.adr p, .adr q]) (.lst [.lst ds1, .lst ds2]) (.bl false) := fun F M H v u Q eF eM dj rs f1 f2 kk => by
  have h3 : Dp' (k + 1) (.lst [.lst ds1, .lst ds2]) := .lst fun d hd => by
    simp only [List.mem_cons, List.not_mem_nil, or_false] at hd
    rcases hd with rfl | rfl
    · exact h1
    · exact h2
  obtain ⟨r, e3, c3, t3⟩ := h3
  obtain ⟨r1, e1, _, _⟩ := h1
  obtain ⟨r2, e2, _, _⟩ := h2
  have er : r = .list [r1, r2] := by
    have : (D.lst [.lst ds1, .lst ds2]).py = some (.list [r1, r2]) := by
      show (D.pys [D.lst ds1, D.lst ds2]).map _ = _
      rw [pys_mk e1 (pys_mk e2 rfl)]
      rfl
    rw [this] at e3
    exact (Option.some.inj e3).symm
  subst er
  have e1' := e1
  have e2' := e2
  unfold D.py at e1' e2'
  obtain ⟨ps, p1, rfl⟩ := Option.map_eq_some_iff.mp e1'
  obtain ⟨qs, p2, rfl⟩ := Option.map_eq_some_iff.mp e2'
  refine ⟨.list [.list ps, .list qs], .list [.list ps, .list qs], ?_, Fd.dp eF _ f2 e3, shaped_of c3 t3 (by omega), shaped_of c3 t3 (by omega), ?_⟩
  · cases f1 with
    | lst s fa =>
      cases fa with
      | cons a1 fa => cases fa with
        | cons a2 fa => cases fa with
          | nil =>
            exact .lst (SqL.of (eF _ _ s)) (.cons (Lv.dp (.o hi) eF eM rs a1 p1) (.cons (Lv.dp (.o hj) eF eM rs a2 p2) .nil))
  · rw [PySem.SeqAt.eqv_refl _ c3]
    exact kk _ F H (.rf eF) (.bl _)
theorem fm_all {α β : Type} {f : α → Option β} {g : α → β} : ∀ {ks : List α}, (∀ k ∈ ks, f k = some (g k)) → ks.filterMap f = ks.map g
  | [], _ => rfl
  | k :: ks, h => by
    rw [List.filterMap_cons, h k (List.mem_cons_self ..), List.map_cons, fm_all fun j hj => h j (List.mem_cons_of_mem _ hj)]
theorem pickN_rev {α : Type} (xs : List α) : pickN xs (places xs.length none none (some (-1))) = xs.reverse := by
  have e : places xs.length none none (some (-1)) = (List.range xs.length).map fun k => xs.length - 1 - k := by
    unfold places sliceBounds sliceRange
    simp only [Option.getD_some]
    have h1 : ¬ ((-1 : Int) > 0) := by decide
    rw [if_neg h1, if_neg h1, if_neg h1]
    have h2 : (if (xs.length : Int) - 1 > -1 then ((xs.length : Int) - 1 - -1 - -1 - 1) / (- -1) else 0).toNat = xs.length := by
      have e1 : (- -1 : Int) = 1 := rfl
      rw [e1, Int.ediv_one]
      split <;> omega
    rw [h2]
    exact List.map_congr_left fun k hk => by have := List.mem_range.mp hk; omega
  rw [e]
  cases xs with
  | nil => rfl
  | cons x0 r =>
    generalize hxs : x0 :: r = xs
    unfold pickN
    rw [fm_all (g := fun k => xs.getD k x0) (fun k hk => by
      obtain ⟨j, hj, rfl⟩ := List.mem_map.mp hk
      have := List.mem_range.mp hj
      rw [List.getD_eq_getElem?_getD, List.getElem?_eq_getElem (by omega)]
      rfl), List.map_map]
    apply List.ext_getElem
    · simp
    · intro i h1 h2
      rw [List.length_reverse] at h2
      rw [List.getElem_map, List.getElem_range, List.getElem_reverse]
      show xs.getD (xs.length - 1 - i) x0 = _
      rw [List.getD_eq_getElem?_getD, List.getElem?_eq_getElem (by omega)]
      rfl
end Sx
set_option Elab.async false
set_option linter.all false
set_option maxRecDepth 100000
set_option maxHeartbeats 4000000
/-! Defs that may raise: what they raise is a datum of the model; caught ones are frozen data. -/
namespace Sx
open PySem L2 PyProof.Rows
structure Xd where
  C : Addr
  fs : List (Str × D)
/-- an exception as it flies -/
def XE (K : PySem.W.Frag) (x : Xd) (cls : Value) (dd : Option Addr) (l : List Res) : Prop := cls = .ref x.C ∧ (x.fs = [] ∧ dd = none ∧ l = [] ∨ ∃ dx, dd = some dx ∧ l = [ownXd K dx x.fs])
abbrev Xd.d (x : Xd) : D := .exc x.C x.fs
def Exr (X : Cx) (W : WX) (e : Expr) (g : Gm) (l : List Res) (x : Xd) : Prop := Exv X W e g l (fun _ _ => False) (fun cls dd l' => ∃ lx, XE X.K x cls dd lx ∧ l' = lx ++ l)
/-- what giving back or raising means; raised, what was owned stands as before -/
def XR {β ε : Type} (K : PySem.W.Frag) (own : List Res) (RT : β → Re) (xc : ε → Xd) : Except ε β → Re
  | .ok v => RT v
  | .error e => { rt := fun _ _ => False, ex := fun cls dd _ l => ∃ lx, XE K (xc e) cls dd lx ∧ l = lx ++ own }
abbrev SpX (K : PySem.W.Frag) {α β ε : Type} (ok : α → Prop) (args : α → List D) (own : α → List Res) (RT : α → β → Re) (m : α → Except ε β) (xc : ε → Xd) : Sp :=
  FnX K ok args own (fun a d l => (XR K (own a) (RT a) xc (m a)).rt d l) (fun a cls dd l => (XR K (own a) (RT a) xc (m a)).ex cls dd [] l)
abbrev SpN (K : PySem.W.Frag) {α β : Type} (ok : α → Prop) (args : α → List D) (own : α → List Res) (RT : α → β → Re) (m : α → β) : Sp := FnX K ok args own (fun a d l => (RT a (m a)).rt d l) noE
/-- an exception x from g, l on is what Φ takes -/
def ExTo (K : PySem.W.Frag) (x : Xd) (Φ : Po) (g : Gm) (l : List Res) : Prop := ∀ cls dd lx, XE K x cls dd lx → ∃ l2 junk, (lx ++ l).Perm (l2 ++ junk) ∧ Φ.ex cls dd g l2
def xb {ε α β : Type} (o : Except ε α) (k : α → β) (er : ε → β) : β := match o with | .ok v => k v | .error e => er e
section
variable {X : Cx} {W : WX} {g g' : Gm} {l l' own junk : List Res} {Φ : Po} {x : Xd} {e a b c o : Expr} {es : List Expr} {d d1 d2 : D} {pos p p2 apos : Pos} {rest sts : List Stmt}
theorem S.perm2 {K : PySem.W.Frag} {en : En} {T : Tm} {σ : L2.St} {H : Hp} {l l2 junk : List Res} (p : l.Perm (l2 ++ junk)) (s : S K en g T l σ H) : S K en g T l2 σ H := S.dropO (l' := junk) (S.perm (p.trans List.perm_append_comm) s)
/-- a block whose exceptions are told plainly -/
theorem Blk.exD (h : Blk X W sts g l { Φ with ex := fun cls dd g' l' => ∃ lx, XE X.K x cls dd lx ∧ g' = g ∧ l' = lx ++ l }) (hx : ExTo X.K x Φ g l) : Blk X W sts g l Φ := fun en T σ H D s m =>
  h en T σ H D s ⟨m.nx, m.rt, m.bk, m.ct, fun cls dd g' l' σ' H' q s' => by
    obtain ⟨lx, h1, rfl, rfl⟩ := q
    obtain ⟨l2, junk, p, h2⟩ := hx cls dd lx h1
    exact m.ex cls dd g' l2 σ' H' h2 (s'.perm2 p)⟩
theorem exto_of (p : l.Perm (own ++ junk)) (h : ∀ cls dd lx, XE X.K x cls dd lx → Φ.ex cls dd g (lx ++ own)) : ExTo X.K x Φ g l := fun cls dd lx q => ⟨lx ++ own, junk, by rw [List.append_assoc]; exact p.append_left lx, h cls dd lx q⟩
section
variable {β ε Ll Ss : Type} {RT : β → Re} {xc : ε → Xd} {e0 : ε} {GL : Ll → Gm} {RL : Ll → List Res} {NX : Ss → Gm → List Res → Prop}
theorem exto_rt (p : l.Perm (own ++ junk)) : ExTo X.K (xc e0) (Rt (XR X.K own RT xc) (.error e0)) g l := exto_of (X := X) p fun _ _ lx h => ⟨lx, h, rfl⟩
theorem exto_rv (p : l.Perm (own ++ junk)) : ExTo X.K (xc e0) (Rv (XR X.K own RT xc) (.error e0)) g l := exto_of (X := X) p fun _ _ lx h => ⟨lx, h, rfl⟩
theorem exto_ou (p : l.Perm (own ++ junk)) : ExTo X.K (xc e0) (Ou (XR X.K own RT xc) GL RL NX (.rt (.error e0))) g l := exto_of (X := X) p fun _ _ lx h => ⟨lx, h, rfl⟩
theorem exto_rt0 : ExTo X.K (xc e0) (Rt (XR X.K [] RT xc) (.error e0)) g l := exto_rt (own := []) (junk := l) (.refl _)
theorem exto_rv0 : ExTo X.K (xc e0) (Rv (XR X.K [] RT xc) (.error e0)) g l := exto_rv (own := []) (junk := l) (.refl _)
theorem exto_ou0 : ExTo X.K (xc e0) (Ou (XR X.K [] RT xc) GL RL NX (.rt (.error e0))) g l := exto_ou (own := []) (junk := l) (.refl _)
end
theorem bo_xb {ε α β : Type} {Om : β → Po} {o : Except ε α} {k : α → β} {er : ε → β} (h1 : ∀ v, o = .ok v → Bo X W sts g l Om (k v)) (h2 : ∀ e, o = .error e → Bo X W sts g l Om (er e)) : Bo X W sts g l Om (xb o k er) := by
  unfold xb
  cases o with
  | ok v => exact h1 v rfl
  | error e => exact h2 e rfl
/-! ### calls -/
theorem Exv.mono {Psi Psi' : D → List Res → Prop} {XP XP' : Value → Option Addr → List Res → Prop} (h : Exv X W e g l Psi XP) (h1 : ∀ d l, Psi d l → Psi' d l) (h2 : ∀ cls d l, XP cls d l → XP' cls d l) : Exv X W e g l Psi' XP' := fun en T σ H Q s k kx => h en T σ H Q s (fun v d l' H' p s' => k v d l' H' (h1 d l' p) s') fun cls d l' H' p s' => kx cls d l' H' (h2 cls d l' p) s'
theorem Exv.ev {Psi : D → List Res → Prop} (h : Exv X (fun _ _ _ _ => False) e g l Psi (fun _ _ _ => False)) : Ev X e g l Psi := fun en T σ H Q s k => h en T σ H Q s k fun _ _ _ _ p _ => p.elim
theorem Ev.pxR (h : Ev X e g l (fun d' l' => d' = d ∧ l' = l)) : Px X e g l d := fun en T σ H Q s k => h en T σ H Q s fun v d l' H' p s' => by
  obtain ⟨rfl, rfl⟩ := p
  exact k v H' s'
section
variable {α β ε : Type} {ok : α → Prop} {args : α → List D} {enc : β → D} {m : α → Except ε β} {xc : ε → Xd} {y : Str} {ps : List Str} {k j : Nat} {C : Addr} {mm : Str} {ds : List D} {pl : Sem Bool} {v : β} {e0 : ε}
theorem px_callOk (G : GloX X.prog X.w X.K X.mg X.base k y ps (SpX X.K ok args (fun _ => []) (fun _ => PuR enc) m xc)) (hr : Room j X.A) (hj : k ≤ j) (a : α) (hok : ok a) (hv : m a = .ok v) (ha : Pa X (e :: es) g l (args a))
    (hg : Gl X y := by rfl) (hdb : (y == ("__debug__" : Str)) = false := by decide) (he : starEach (e :: es) X.env = (false, eval e X.env) :: starEach es X.env := by rfl) (hpl : (backTo pos (starEach es X.env)).any (·.1) = false := by rfl) :
    Px X (.Call (.Name y p) (e :: es) [] pos) g l (enc v) :=
  Ev.pxR (Exv.ev (exv_call (lr := l) (own := fun _ => []) takes_no G hr hj a hok ha (fun d l' h => by rw [hv] at h; exact ⟨h.1, by rw [h.2]; rfl⟩) (fun cls d l' h => by rw [hv] at h; exact h) hg hdb he hpl))
theorem exr_call (tk : Takes X W) {RT : α → β → Re} (G : GloX X.prog X.w X.K X.mg X.base k y ps (SpX X.K ok args (fun _ => []) RT m xc)) (hr : Room j X.A) (hj : k ≤ j) (a : α) (hok : ok a) (hv : m a = .error e0) (ha : Pa X (e :: es) g l (args a))
    (hg : Gl X y := by rfl) (hdb : (y == ("__debug__" : Str)) = false := by decide) (he : starEach (e :: es) X.env = (false, eval e X.env) :: starEach es X.env := by rfl) (hpl : (backTo pos (starEach es X.env)).any (·.1) = false := by rfl) :
    Exr X W (.Call (.Name y p) (e :: es) [] pos) g l (xc e0) :=
  exv_call (lr := l) (own := fun _ => []) tk G hr hj a hok ha (fun d l' h => by rw [hv] at h; exact h) (fun cls d l' h => by
    rw [hv] at h
    obtain ⟨lx, h1, rfl⟩ := h
    exact ⟨lx, h1, by rw [List.append_nil]⟩) hg hdb he hpl
theorem px_methOk (G : GloMX X.prog X.w X.K X.mg X.base k C mm ps (SpX X.K ok args (fun _ => []) (fun _ => PuR enc) m xc)) (hr : Room j X.A) (hj : k ≤ j) (a : α) (hok : ok a) (hv : m a = .ok v) {fs : List (Str × D)} (ho : Px X o g l (.ins C fs)) (hl : fs.lookup mm = none) (ha : Pa X (e :: es) g l ds) (hds : args a = .ins C fs :: ds)
    (hst : starEach (e :: es) X.env = (false, eval e X.env) :: starEach es X.env := by rfl) (hpl : (backTo pos (starEach es X.env)).any (·.1) = false := by rfl) (ht : MthE X o mm apos pos (e :: es) pl := by rfl) :
    Px X (.Call (.Attribute o mm apos) (e :: es) [] pos) g l (enc v) :=
  Ev.pxR (Exv.ev (exv_meth (lr := l) (own := fun _ => []) takes_no G hr hj a hok ho (rc_ins hl) ha hds (fun d l' h => by rw [hv] at h; exact ⟨h.1, by rw [h.2]; rfl⟩) (fun cls d l' h => by rw [hv] at h; exact h) hst hpl ht))
theorem exr_meth (tk : Takes X W) {RT : α → β → Re} (G : GloMX X.prog X.w X.K X.mg X.base k C mm ps (SpX X.K ok args (fun _ => []) RT m xc)) (hr : Room j X.A) (hj : k ≤ j) (a : α) (hok : ok a) (hv : m a = .error e0) {fs : List (Str × D)} (ho : Px X o g l (.ins C fs)) (hl : fs.lookup mm = none) (ha : Pa X (e :: es) g l ds) (hds : args a = .ins C fs :: ds)
    (hst : starEach (e :: es) X.env = (false, eval e X.env) :: starEach es X.env := by rfl) (hpl : (backTo pos (starEach es X.env)).any (·.1) = false := by rfl) (ht : MthE X o mm apos pos (e :: es) pl := by rfl) :
    Exr X W (.Call (.Attribute o mm apos) (e :: es) [] pos) g l (xc e0) :=
  exv_meth (lr := l) (own := fun _ => []) tk G hr hj a hok ho (rc_ins hl) ha hds (fun d l' h => by rw [hv] at h; exact h) (fun cls d l' h => by
    rw [hv] at h
    obtain ⟨lx, h1, rfl⟩ := h
    exact ⟨lx, h1, by rw [List.append_nil]⟩) hst hpl ht
end
section
variable {α β ε : Type} {ok : α → Prop} {args : α → List D} {enc : β → D} {m : α → Except ε (List β)} {xc : ε → Xd} {y : Str} {ps : List Str} {k j : Nat} {C : Addr} {mm : Str} {ds : List D} {pl : Sem Bool} {v : List β}
theorem ev_callOkL (G : GloX X.prog X.w X.K X.mg X.base k y ps (SpX X.K ok args (fun _ => []) (fun _ => FrR X.K enc) m xc)) (hr : Room j X.A) (hj : k ≤ j) (a : α) (hok : ok a) (hv : m a = .ok v) (ha : Pa X (e :: es) g l (args a))
    (hg : Gl X y := by rfl) (hdb : (y == ("__debug__" : Str)) = false := by decide) (he : starEach (e :: es) X.env = (false, eval e X.env) :: starEach es X.env := by rfl) (hpl : (backTo pos (starEach es X.env)).any (·.1) = false := by rfl) :
    EvL X (.Call (.Name y p) (e :: es) [] pos) g l (v.map enc) :=
  Exv.ev (exv_call (lr := l) (own := fun _ => []) takes_no G hr hj a hok ha (fun d l' h => by
    rw [hv] at h
    obtain ⟨q, h1, rfl⟩ := h
    exact ⟨q, h1, rfl⟩) (fun cls d l' h => by rw [hv] at h; exact h) hg hdb he hpl)
theorem ev_methOkL (G : GloMX X.prog X.w X.K X.mg X.base k C mm ps (SpX X.K ok args (fun _ => []) (fun _ => FrR X.K enc) m xc)) (hr : Room j X.A) (hj : k ≤ j) (a : α) (hok : ok a) (hv : m a = .ok v) {fs : List (Str × D)} (ho : Px X o g l (.ins C fs)) (hl : fs.lookup mm = none) (ha : Pa X (e :: es) g l ds) (hds : args a = .ins C fs :: ds)
    (hst : starEach (e :: es) X.env = (false, eval e X.env) :: starEach es X.env := by rfl) (hpl : (backTo pos (starEach es X.env)).any (·.1) = false := by rfl) (ht : MthE X o mm apos pos (e :: es) pl := by rfl) :
    EvL X (.Call (.Attribute o mm apos) (e :: es) [] pos) g l (v.map enc) :=
  Exv.ev (exv_meth (lr := l) (own := fun _ => []) takes_no G hr hj a hok ho (rc_ins hl) ha hds (fun d l' h => by
    rw [hv] at h
    obtain ⟨q, h1, rfl⟩ := h
    exact ⟨q, h1, rfl⟩) (fun cls d l' h => by rw [hv] at h; exact h) hst hpl ht)
end
/-! ### statements that raise -/
section
variable {β : Type} {Om : β → Po} {mo : β}
theorem bo_xexpr (he : Exr X W e g l x) (hx : ExTo X.K x (Om mo) g l) (hs : swapsWith e none pos.line X.env = pure false := by rfl) : Bo X W (.Expr e pos :: rest) g l Om mo := Blk.exD (x := x) (blk_exprX he (fun _ _ h => h.elim) (fun cls d l' ⟨lx, h, q⟩ => ⟨lx, h, rfl, q⟩) hs) hx
theorem bo_xset {i : Nat} {y : Str} {pos' : Pos} (hN : X.N.Nodup) (hi : X.N[i]? = some y) (hl : Loc X.env.scope y) (he : Exr X W e g l x) (hx : ExTo X.K x (Om mo) g l) (hs : swapsWith e (some (.Name y pos')) pos.line X.env = pure false := by rfl) (hf : X.fn y = true ∨ X.env.scope.names.lookup y = some .local := by first | exact .inl rfl | exact .inr rfl | assumption) :
    Bo X W (.Assign [.Name y pos'] e pos :: rest) g l Om mo := Blk.exD (x := x) (blk_setXX hN hi hl he (fun _ _ h => h.elim) (fun cls d l' ⟨lx, h, q⟩ => ⟨lx, h, rfl, q⟩) hs hf) hx
theorem bo_xret (he : Exr X W e g l x) (hx : ExTo X.K x (Om mo) g l) : Bo X W (.Return (some e) pos :: rest) g l Om mo := Blk.exD (x := x) (blk_retXX he (fun _ _ h => h.elim) (fun cls d l' ⟨lx, h, q⟩ => ⟨lx, h, rfl, q⟩)) hx
theorem bo_raise {y m : Str} {j : Nat} {C : Addr} {pr : Pos} (hc : X.calm = true) (tk : Takes X W) (x0 : Dxc X.K X.mg y C) (xi : PySem.W.excIn X.K C vErr "ValueError.__new__" = true) (hx : ExTo X.K ⟨C, []⟩ (Om mo) g l) (hg : Gl X y := by rfl) (hdb : (y == ("__debug__" : Str)) = false := by decide) :
    Bo X W (.Raise (some (.Call (.Name y p) [.Constant (.str m) j p2] [] pos)) none pr :: rest) g l Om mo := Blk.exD (x := ⟨C, []⟩) (blk_raise hc tk x0 xi ⟨[], ⟨rfl, .inl ⟨rfl, rfl, rfl⟩⟩, rfl, rfl⟩ hg hdb) hx
theorem bo_raiseI {α : Type} {ok : α → Prop} {args : α → List D} {fl : α → List (Str × D)} {y : Str} {C fI : Addr} {fd : FuncData} {ps : List Str} {kk j : Nat} {pr : Pos} (hc : X.calm = true) (tk : Takes X W) (x0 : Dxi X.K X.mg y C fI) (F1 : FnOk X.prog X.w X.K X.mg X.base CX0 kk fI fd ps (XiSp X.K C ok args fl)) (hb : Binds X.K fd ps []) (hr : Room j X.A) (hj : kk + 1 ≤ j)
    (a : α) (hok : ok a) (ha : Pa X (e :: es) g l (args a)) (hz : (args a).length ≤ 1000) (hx : ExTo X.K ⟨C, fl a⟩ (Om mo) g l)
    (hg : Gl X y := by rfl) (hdb : (y == ("__debug__" : Str)) = false := by decide) (he : starEach (e :: es) X.env = (false, eval e X.env) :: starEach es X.env := by rfl) (hpl : (backTo pos (starEach es X.env)).any (·.1) = false := by rfl) :
    Bo X W (.Raise (some (.Call (.Name y p) (e :: es) [] pos)) none pr :: rest) g l Om mo := Blk.exD (x := ⟨C, fl a⟩) (blk_raiseI hc tk x0 F1 hb hr hj a hok ha hz (fun dx => ⟨_, ⟨rfl, .inr ⟨dx, rfl, rfl⟩⟩, rfl, rfl⟩) hg hdb he hpl) hx
end
end
/-! ### try with several clauses that keep what they caught -/
/-- clauses 'except x as n: y = n': the class at c, the slots of n and y -/
inductive Hks (X : Cx) : List ExceptHandler → List (Value × Nat × Nat) → Prop
  | nil : Hks X [] []
  | cons {hs : List ExceptHandler} {ks : List (Value × Nat × Nat)} {x n y : Str} {c : Value} {i j : Nat} {np pos' py pn ap : Pos} (hi : X.N[i]? = some n) (hln : X.env.kindOf n = some .local) (hj : X.N[j]? = some y) (hly : X.env.kindOf y = some .local) (hij : i ≠ j)
    (hil : i < X.N.length) (hvn : Vis X.env.scope n) (hdn : (n == ("__debug__" : Str)) = false) (hcn : (n == ("__classdict__" : Str)) = false) (hc : Names X x c) (hsw : ∀ Y : Cx, Y.env = X.env → swapsWith (.Name n pn) (some (.Name y py)) ap.line Y.env = pure false) (h : Hks X hs ks) :
    Hks X (.ExceptHandler (some (.Name x np)) (some n) [.Assign [.Name y py] (.Name n pn) ap] pos' :: hs) ((c, i, j) :: ks)
def wKeeps (K : PySem.W.Frag) (Wout : WX) (D : Ends) : List (Value × Nat × Nat) → WX
  | [] => Wout
  | (c, i, j) :: ks => fun cls d σ H => ∃ b, PySem.W.exmOne K cls c = some b ∧ (b = true → ∀ a, H a = none → D.nx (((σ.set i (some (.ref a))).set j (some (.ref a))).set i none) (upd H a (exO a cls d))) ∧ (b = false → wKeeps K Wout D ks cls d σ H)
section
variable {X : Cx} {body : List Stmt} {pos : Pos} {tb : WX → TS} {Wout : WX}
theorem ps_try_keeps {hks : List ExceptHandler} {ks : List (Value × Nat × Nat)} (hr : Hks X hks ks) (hne : hks ≠ []) (hs : X.stack = X.env :: X.outer) (hf : X.env.frame = some X.env.locals) (hex : X.ex = []) (hN : X.N.Nodup) (tk : Takes X Wout)
    (hb : ∀ (W : WX) (pn : List (Addr × Obj)) (xe : Value → Shared → Prop), Takes (X.tr pn xe) W → PassesOwn (model X.prog X.w) X.A X.env xe → PSs (X.tr pn xe) body (tb W)) :
    PS X (.Try body hks [] [] pos) (fun D σ H => tb (wKeeps X.K Wout D ks) D σ H) := by
  refine ⟨fun pins s σ H D I h => ?_⟩
  have ok := I.ok
  have hfr : X.A.frames = some (X.env :: X.outer) := by rw [ok.frames, hs]
  obtain ⟨h0, hk0, rfl⟩ := List.exists_cons_of_ne_nil hne
  refine wpAny_Try_except ?_
  refine wpAny_mono ((hb (wKeeps X.K Wout D ks) (X.pn ++ pins) (fun e s₁ => wpAny (model X.prog X.w) X.A (noteFrame e X.env) (fun _ s₂ => wpAny (model X.prog X.w) X.A (setFlight e none) (fun _ s₃ =>
    wpAny (model X.prog X.w) X.A (handleBy e X.env (h0 :: hk0)) (SP X pins D) X.xe s₃) X.xe s₂) X.xe s₁) (fun u s' xx => ?_) PassesOwn.looking).run [] s σ H D (I.toTry _) h) (fun f s1 hsp => ?_) (fun e s1 he => he)
  · obtain ⟨a, B, sI, pins', σ', H', cls, d, rfl, J', nb, up, sky, na, os, ag, hww⟩ := xx
    have J : Inv X pins σ' H' sI := J'.ofTry ok
    have sky' : Sky B (X.env :: X.outer) a (Zc cls d) X.env.locals s'.heap := by rw [← hs]; exact sky
    show wpAny (model X.prog X.w) X.A (noteFrame (.ref a) X.env) _ _ _
    refine Sky.land Zc.steady hfr hf sky' fun h3 fl3 up3 => ?_
    have J3 : Inv X pins σ' H' { s' with heap := h3 } := J.landed nb fl3.1 (up.trans up3) os ag
    obtain ⟨oe3, vs3, he3, hz3, hd3⟩ := fl3.there
    have nfr : a ∉ frs (X.env :: X.outer) := fun hm => by
      obtain ⟨_, o', e', hnf⟩ := fl3.2.2.1.mem hm
      rw [he3] at e'; cases e'
      exact hnf _ hd3
    have nL : a ≠ X.env.locals := fun z => nfr (List.mem_filterMap.mpr ⟨X.env, List.mem_cons_self, by rw [hf, z]⟩)
    have nF : a ∉ X.fs := fun hm => by
      obtain ⟨e, he, q⟩ := List.mem_filterMap.mp hm
      exact nfr (List.mem_filterMap.mpr ⟨e, List.mem_cons_of_mem _ he, q⟩)
    have nS : a ∉ frs X.stack := by rw [hs]; exact nfr
    -- it was not there ahead
    have nI : sI.heap.get? a = none := by
      cases q : sI.heap.get? a with
      | none => rfl
      | some o => have z := nb a o q nS; rw [fl3.2.1] at z; cases z
    have n0 : X.s_0.heap.get? a = none := by
      cases q : X.s_0.heap.get? a with
      | none => rfl
      | some o =>
        obtain ⟨o', z⟩ := J.base.there a o q (by rw [hex]; exact fun z => nomatch z)
        rw [nI] at z; cases z
    have npn : ∀ p ∈ X.pn ++ pins, p.1 ≠ a := fun p hp e => by
      have z := (J.pin p hp).1
      rw [e, nI] at z; cases z
    have nc : ∀ x c, X.env.cells.lookup x = some c → c ≠ a := fun x c e z => by
      obtain ⟨v, oc, q, _⟩ := J.cell x c e
      rw [z, nI] at q; cases q
    have S3 := J3.suite he3 hd3 na nL nF
    have key : ∀ {hks : List ExceptHandler} {ks : List (Value × Nat × Nat)}, Hks X hks ks → wKeeps X.K Wout D ks cls d σ' H' → wpAny (model X.prog X.w) X.A (handleBy (.ref a) X.env hks) (SP X pins D) X.xe { s' with heap := h3 } := by
      intro hks ks rel
      induction rel with
      | nil =>
        intro hno
        refine wpAny_handleBy_nil ?_
        obtain ⟨k1, k2, k3, oe, vs, T, oT, ts', he, hz, hd, h1, hr⟩ := id fl3
        unfold PySem.passOn
        refine wpAny_bind (wpAny_field he hd h1 ?_)
        rw [if_neg (show ¬ ((Value.ref T == Value.none) = true) from by simp)]
        have fin : wpAny (model X.prog X.w) X.A (setFlight (.ref a) X.env.frame) (fun _ s4 => wpAny (model X.prog X.w) X.A (throw (.ref a) : Sem Flow) (SP X pins D) X.xe s4) X.xe { s' with heap := h3 } := by
          rw [hf]
          refine HandSPX.setFlight_upZ fl3 fun h4 hh4 up4 => wpAny_throw (tk _ _ ?_)
          exact ⟨a, B, sI, pins, σ', H', cls, d, rfl, J, nb, (up.trans up3).trans up4, .inr (.inr (by rw [hs]; exact hh4)), na, os, ag, hno⟩
        first
          | exact wpAny_bind (wpAny_pure (wpAny_bind fin))
          | exact wpAny_bind fin
      | @cons hs0 ks0 x n y c i j np pos' py pn ap hi hln hj hly hij hil hvn hdn hcn hc hsw rel ih =>
        intro hww
        obtain ⟨b, hb1, hyes, hno⟩ := hww
        have hloc : Loc X.env.scope n := .inl hln
        have hlocy : Loc X.env.scope y := .inl hly
        refine wpAny_handleBy_cons (codeAny_handlers_test ?_) (by intro q; cases q)
        have LT : PySem.W.Looks (model X.prog X.w) h3 (typeOf (.ref a)) cls := fun A Q E s k q => wpAny_typeOf_ref (k _ _ he3) (by rw [hz3.1]; exact q)
        have LM := PySem.W.exm_one (M := model X.prog X.w) (J3.kIn) LT hb1
        have test : ∀ {Q : Value → Shared → Prop} {E : Value → Shared → Prop}, Q c { s' with heap := h3 } → wpAny (model X.prog X.w) (X.A.mark (some (.ref a))) (eval (.Name x np) X.env) Q E { s' with heap := h3 } := fun {Q E} q => by
          obtain ⟨hg, hdbg, hm | ⟨hm, hv, hnn⟩⟩ := hc
          · exact ld_glob (X := X.suite a ((a, oe3) :: (X.pn ++ pins))) S3 hg hm q hdbg
          · exact ld_blt (X := X.suite a ((a, oe3) :: (X.pn ++ pins))) S3 hg hm hv q hnn hdbg
        refine test (LM.here ?_)
        cases b with
        | true =>
          refine codeAny_handlers_suite_as ?_
          refine HandSPX.lands_againZ fl3 fun h4 fl4 up4 => ?_
          have J4 : Inv X pins σ' H' { s' with heap := h4 } := J.landed nb fl4.1 ((up.trans up3).trans up4) os ag
          obtain ⟨oe4, vs4, he4, hz4, hd4⟩ := fl4.there
          have S4 := J4.suite he4 hd4 na nL nF
          refine store_ok (X := X.suite a ((a, oe4) :: (X.pn ++ pins))) (v := .ref a) S4 hN hi hloc rfl (fun s5 S5 => ?_) (.inr hln)
          have hvar : PE (X.suite a ((a, oe4) :: (X.pn ++ pins))) (.Name n pn) (tVar i) := pe_var hi hvn hdn hcn
          have hsu : PSs (X.suite a ((a, oe4) :: (X.pn ++ pins))) [.Assign [.Name y py] (.Name n pn) ap] (tAsg (tVar i) (gName j)) := pss_one (ps_set hN hj hlocy hvar (hsw _ rfl) (.inr hly))
          have hsl : i < (σ'.set i (some (.ref a))).length := by rw [List.length_set, J4.len]; exact hil
          refine wpAny_mono (hsu.run [] s5 _ H' { nx := fun σ6 H6 => σ6 = (σ'.set i (some (.ref a))).set j (some (.ref a)) ∧ H6 = H', rt := fun _ _ => False, bk := fun _ _ => False, ct := fun _ _ => False } S5 ⟨.ref a, by rw [List.getElem?_set_self (by rw [List.length_set] at hsl; exact hsl)], rfl, rfl⟩) (fun f s6 hsp => ?_) (fun _ _ z => False.elim z)
          cases f with
          | next =>
            obtain ⟨σ6, H6, S6, e6, e7⟩ := hsp
            subst e6; subst e7
            refine gone_ok (X := X.suite a ((a, oe4) :: (X.pn ++ pins))) S6 hN hi hln fun s7 I7 => ?_
            have g7 := (I7.pin (a, oe4) (by rw [List.append_nil]; exact List.mem_cons_self)).1
            exact ⟨_, _, inv_wide (I7.unsuite ok) n0 na npn nL nc (exO_ok g7 hz4 hd4), hyes rfl a na⟩
          | brk =>
            obtain ⟨_, _, _, z⟩ := hsp
            exact z.elim
          | cont =>
            obtain ⟨_, _, _, z⟩ := hsp
            exact z.elim
          | ret u =>
            obtain ⟨_, _, _, _, _, z⟩ := hsp
            exact z.elim
        | false =>
          exact ih (hno rfl)
    exact key hr hww
  · cases f with
    | next =>
      obtain ⟨σ', H', J', q⟩ := hsp
      exact wpAny_execs_nil ⟨σ', H', J'.ofTry ok, q⟩
    | brk =>
      obtain ⟨σ', H', J', q⟩ := hsp
      exact ⟨σ', H', J'.ofTry ok, q⟩
    | cont =>
      obtain ⟨σ', H', J', q⟩ := hsp
      exact ⟨σ', H', J'.ofTry ok, q⟩
    | ret u =>
      obtain ⟨v, σ', H', J', r, q⟩ := hsp
      exact ⟨v, σ', H', J'.ofTry ok, r, q⟩
end
section
variable {X : Cx} {W : WX} {g g' : Gm} {l l' : List Res} {Φ : Po} {x : Xd} {body rest : List Stmt} {pos : Pos}
/-- caught: frozen -/
theorem S.caught {K : PySem.W.Frag} {en : En} {T : Tm} {σ : L2.St} {H : Hp} {lx : List Res} {cls : Value} {dd : Option Addr} {a : Addr} (s : S K en g T (lx ++ l) σ H) (hx : XE K x cls dd lx) (ha : H a = none) (i j : Nat) :
    S K en (((g.set i none).set j (some x.d)).set i none) T l (((σ.set i (some (.ref a))).set j (some (.ref a))).set i none) (upd H a (exO a cls dd)) := by
  obtain ⟨rfl, h⟩ := hx
  obtain ⟨F, M, q⟩ := s
  have q1 := q.newO (r := ownX a (.ref x.C) dd) (A := one a (exO a (.ref x.C) dd)) (H' := upd H a (exO a (.ref x.C) dd)) (.new ha) (fun z o w => by obtain ⟨rfl, rfl⟩ := one_some w; exact upd_same) (fun z o w => by obtain ⟨rfl, rfl⟩ := one_some w; exact ha) rfl
  obtain ⟨F1, M1, q2, h1, e1⟩ := q1.frz (P := fun F' => F' a = some (exO a (.ref x.C) dd)) fun A hA => by
    have hA : A = one a (exO a (.ref x.C) dd) := hA
    subst hA
    have hF : F a = none := q.exF.free ha
    rw [join_r hF]; exact one_same
  rcases h with ⟨f0, rfl, rfl⟩ | ⟨dx, rfl, rfl⟩
  · have fd : Fd K F1 (.ref a) x.d := .exc h1 (.inl ⟨rfl, rfl⟩) (by rw [f0]; exact .nil)
    exact ⟨F1, M1, q2.slots ((((q2.sl.clear i).set j fd)).clear i)⟩
  · obtain ⟨F2, M2, q3, ⟨vs, h2, h3⟩, e2⟩ := q2.frz (P := fun F' => ∃ vs, F' dx = some (.xd vs) ∧ FdFs K F' vs x.fs) fun A hA => by
      obtain ⟨vs, f, rfl⟩ := hA
      have hF : F1 dx = none := by
        obtain ⟨A, B, hM, _, ⟨_, _, rfl⟩, _⟩ := q2.rs
        exact q2.dj.sym dx _ (by rw [hM]; exact join_l one_same)
      exact ⟨vs, by rw [join_r hF]; exact one_same, FdFs.mono (fun x o h => join_l h) _ f⟩
    have fd : Fd K F2 (.ref a) x.d := .exc (e2 _ _ h1) (.inr ⟨dx, rfl, h2⟩) h3
    exact ⟨F2, M2, q3.slots ((((q3.sl.clear i).set j fd)).clear i)⟩
def Catch (X : Cx) (W : WX) (rest : List Stmt) (g : Gm) (l : List Res) (Φ : Po) (x : Xd) : List (Addr × Nat × Nat) → Prop
  | [] => ExTo X.K x Φ g l
  | (C, i, j) :: ks => ∃ b, PySem.W.exmOne X.K (.ref x.C) (.ref C) = some b ∧ (b = true → Blk X W rest (((g.set i none).set j (some x.d)).set i none) l Φ) ∧ (b = false → Catch X W rest g l Φ x ks)
theorem catch_keeps {en : En} {T : Tm} {σ : L2.St} {H : Hp} {D : Ends} {cls : Value} {dd : Option Addr} {lx : List Res} (m : Mt X.K W en T Φ D) (hx : XE X.K x cls dd lx) (s : S X.K en g T (lx ++ l) σ H) : ∀ {ks : List (Addr × Nat × Nat)}, Catch X W rest g l Φ x ks → wKeeps X.K W { D with nx := wpS X rest D } (ks.map fun q => (.ref q.1, q.2.1, q.2.2)) cls dd σ H
  | [], h => by
    obtain ⟨l2, junk, p, h2⟩ := h cls dd lx hx
    exact m.ex cls dd g l2 σ H h2 (s.perm2 p)
  | (C, i, j) :: ks, h => by
    obtain ⟨b, h1, h2, h3⟩ := h
    have ec := hx.1
    subst ec
    exact ⟨b, h1, fun hb a ha => h2 hb en T _ _ D (s.caught hx ha i j) m, fun hb => catch_keeps m hx s (h3 hb)⟩
theorem blk_tryF {hks : List ExceptHandler} {ks : List (Addr × Nat × Nat)} (EX : Xd → Prop) (tk : Takes X W) (hN : X.N.Nodup) (hr : Hks X hks (ks.map fun q => (.ref q.1, q.2.1, q.2.2))) (hne : hks ≠ [])
    (hb : ∀ (W' : WX) (pn : List (Addr × Obj)) (xe : Value → Shared → Prop), Takes (X.tr pn xe) W' → PassesOwn (model X.prog X.w) X.A X.env xe → Blk (X.tr pn xe) W' body g l { Φ with nx := fun g' l' => Blk X W rest g' l' Φ, ex := fun cls dd g' l' => ∃ x lx, EX x ∧ XE X.K x cls dd lx ∧ g' = g ∧ l' = lx ++ l })
    (hx : ∀ x, EX x → Catch X W rest g l Φ x ks) (hs : X.stack = X.env :: X.outer := by rfl) (hf : X.env.frame = some X.env.locals := by rfl) (hex : X.ex = [] := by rfl) :
    Blk X W (.Try body hks [] [] pos :: rest) g l Φ := fun en T σ H D s m =>
  wpS_of (pss_cons (ps_try_keeps (tb := fun W' => fun D' σ' H' => ∀ pn xe, Takes (X.tr pn xe) W' → PassesOwn (model X.prog X.w) X.A X.env xe → wpS (X.tr pn xe) body D' σ' H') hr hne hs hf hex hN tk
    (fun W' pn xe t1 t2 => ⟨fun pins s1 σ1 H1 D1 I h => h pn xe t1 t2 pins s1 I⟩)) pss_wp) (fun pn xe t1 t2 => by
      refine hb _ pn xe t1 t2 en T σ H _ s ⟨fun g' l' σ' H' p s' => p en T σ' H' D s' m, m.rt, m.bk, m.ct, fun cls d g' l' σ' H' p s' => ?_⟩
      obtain ⟨x, lx, h1, h2, rfl, rfl⟩ := p
      exact catch_keeps m h2 s' (hx x h1))
end
/-! ### try, its model -/
/-- a try's body: raised, what was known and owned stands as ahead -/
def XT {β ε : Type} (K : PySem.W.Frag) (g0 : Gm) (l0 : List Res) (RT : β → Re) (xc : ε → Xd) : Except ε β → Re
  | .ok v => RT v
  | .error e => { rt := fun _ _ => False, ex := fun cls dd g l => ∃ lx, XE K (xc e) cls dd lx ∧ g = g0 ∧ l = lx ++ l0 }
def tryN {Rr ε Ll Ss : Type} (tb : Cf (Except ε Rr) Ll Ss) (h : ε → Ss) : Cf Rr Ll Ss := match tb with
  | .nx s => .nx s | .rt (.ok r) => .rt r | .rt (.error e) => .nx (h e) | .bk s => .bk s | .ct s => .ct s
def tryK {Rr ε Ll Ss : Type} (tb : Cf (Except ε Rr) Ll Ss) (c : ε → Bool) (h : ε → Ss) : Cf (Except ε Rr) Ll Ss := match tb with
  | .rt (.error e) => cond (c e) (.nx (h e)) (.rt (.error e)) | o => o
section
variable {X : Cx} {W : WX} {g g' : Gm} {l l' : List Res} {body rest : List Stmt} {pos : Pos} {Rr ε Ll Ss S1 : Type} {RT : Rr → Re} {xc : ε → Xd} {GL : Ll → Gm} {RL : Ll → List Res} {NX : Ss → Gm → List Res → Prop} {e0 : ε}
theorem exto_xt : ExTo X.K (xc e0) (Ou (XT X.K g l RT xc) GL RL NX (.rt (.error e0))) g l := fun cls dd lx h => ⟨lx ++ l, [], by rw [List.append_nil], lx, h, rfl, rfl⟩
theorem try_core {hks : List ExceptHandler} {ks : List (Addr × Nat × Nat)} {tb : Cf (Except ε Rr) Ll S1} {Φ : Po} (G : S1 → Gm) (R : S1 → List Res) (tk : Takes X W) (hN : X.N.Nodup) (hr : Hks X hks (ks.map fun q => (.ref q.1, q.2.1, q.2.2))) (hne : hks ≠ [])
    (hb : ∀ (W' : WX) (pn : List (Addr × Obj)) (xe : Value → Shared → Prop), Takes (X.tr pn xe) W' → PassesOwn (model X.prog X.w) X.A X.env xe → Bo (X.tr pn xe) W' body g l (Ou (XT X.K g l RT xc) GL RL (NxP G R)) tb)
    (hnx : ∀ s, tb = .nx s → Blk X W rest (G s) (R s) Φ) (hrt : ∀ r, tb = .rt (.ok r) → (∀ d l, (RT r).rt d l → Φ.rt d l) ∧ ∀ c d g l, (RT r).ex c d g l → False) (hbk : ∀ s, tb = .bk s → ∀ g l, g = GL s ∧ l = RL s → Φ.bk g l) (hct : ∀ s, tb = .ct s → ∀ g l, g = GL s ∧ l = RL s → Φ.ct g l)
    (hx : ∀ e, tb = .rt (.error e) → Catch X W rest g l Φ (xc e) ks) (hs : X.stack = X.env :: X.outer) (hf : X.env.frame = some X.env.locals) (hex : X.ex = []) :
    Blk X W (.Try body hks [] [] pos :: rest) g l Φ := by
  refine blk_tryF (fun x => ∃ e, tb = .rt (.error e) ∧ x = xc e) tk hN hr hne (fun W' pn xe t1 t2 => ?_) (fun x ⟨e, h1, h2⟩ => by subst h2; exact hx e h1) hs hf hex
  have z := hb W' pn xe t1 t2
  unfold Bo at z
  cases tb with
  | nx s => exact z.imp (fun g' l' hh => by obtain ⟨w, q⟩ := hh; subst w; subst q; exact hnx s rfl) (fun _ _ h => h.elim) (fun _ _ h => h.elim) (fun _ _ h => h.elim) (fun _ _ _ _ h => h.elim)
  | bk s => exact z.imp (fun _ _ h => h.elim) (fun _ _ h => h.elim) (fun g l h => hbk s rfl g l h) (fun _ _ h => h.elim) (fun _ _ _ _ h => h.elim)
  | ct s => exact z.imp (fun _ _ h => h.elim) (fun _ _ h => h.elim) (fun _ _ h => h.elim) (fun g l h => hct s rfl g l h) (fun _ _ _ _ h => h.elim)
  | rt r => cases r with
    | ok r => exact z.imp (fun _ _ h => h.elim) (fun d l h => (hrt r rfl).1 d l h) (fun _ _ h => h.elim) (fun _ _ h => h.elim) (fun c d g l h => ((hrt r rfl).2 c d g l h).elim)
    | error e => exact z.imp (fun _ _ h => h.elim) (fun _ _ h => h.elim) (fun _ _ h => h.elim) (fun _ _ h => h.elim) (fun c d g l h => by
        obtain ⟨lx, h1, h2, h3⟩ := h
        exact ⟨_, lx, ⟨e, rfl, rfl⟩, h1, h2, h3⟩)
/-- the state behind a clause -/
abbrev after (g : Gm) (i j : Nat) (x : Xd) : Gm := ((g.set i none).set j (some x.d)).set i none
/-- in a def that does not raise: all is caught -/
theorem bo_tryNV {hks : List ExceptHandler} {ks : List (Addr × Nat × Nat)} {GL : Empty → Gm} {RL : Empty → List Res} {tb : Cf (Except ε Rr) Empty S1} {h' : ε → S1} {k : S1 → Rr} (G : S1 → Gm) (R : S1 → List Res) (i j : Nat) (tk : Takes X W) (hN : X.N.Nodup) (hr : Hks X hks (ks.map fun q => (.ref q.1, q.2.1, q.2.2))) (hne : hks ≠ [])
    (hb : ∀ (W' : WX) (pn : List (Addr × Obj)) (xe : Value → Shared → Prop), Takes (X.tr pn xe) W' → PassesOwn (model X.prog X.w) X.A X.env xe → Bo (X.tr pn xe) W' body g l (Ou (XT X.K g l RT xc) GL RL (NxP G R)) tb)
    (hnr : ∀ r c d g l, (RT r).ex c d g l → False) (hc : ∀ e Q, tb = .rt (.error e) → Blk X W rest (after g i j (xc e)) l Q → Catch X W rest g l Q (xc e) ks) (hg : ∀ e, tb = .rt (.error e) → Wk (after g i j (xc e)) (G (h' e)) ∧ l = R (h' e))
    (h : ∀ s, tryN tb h' = .nx s → Bo X W rest (G s) (R s) (Rt RT) (k s)) (hs : X.stack = X.env :: X.outer := by rfl) (hf : X.env.frame = some X.env.locals := by rfl) (hex : X.ex = [] := by rfl) : Bo X W (.Try body hks [] [] pos :: rest) g l (Rt RT) (bndV (tryN tb h') k) := by
  refine try_core G R tk hN hr hne hb (fun s e => ?_) (fun r e => ⟨fun d l z => ?_, fun c d g l z => hnr r c d g l z⟩) (fun s _ => nomatch s) (fun s _ => nomatch s) (fun e he => ?_) hs hf hex
  · subst e; exact h s rfl
  · subst e; exact z
  · have hg0 := hg e he
    clear hg
    refine hc e _ he ?_
    subst he
    have z := h (h' e) rfl
    rw [← hg0.2] at z
    exact Blk.weak hg0.1 z
theorem bo_tryNB {hks : List ExceptHandler} {ks : List (Addr × Nat × Nat)} {tb : Cf (Except ε Rr) Ll S1} {h' : ε → S1} {k : S1 → Cf Rr Ll Ss} (G : S1 → Gm) (R : S1 → List Res) (i j : Nat) (tk : Takes X W) (hN : X.N.Nodup) (hr : Hks X hks (ks.map fun q => (.ref q.1, q.2.1, q.2.2))) (hne : hks ≠ [])
    (hb : ∀ (W' : WX) (pn : List (Addr × Obj)) (xe : Value → Shared → Prop), Takes (X.tr pn xe) W' → PassesOwn (model X.prog X.w) X.A X.env xe → Bo (X.tr pn xe) W' body g l (Ou (XT X.K g l RT xc) GL RL (NxP G R)) tb)
    (hnr : ∀ r c d g l, (RT r).ex c d g l → False) (hc : ∀ e Q, tb = .rt (.error e) → Blk X W rest (after g i j (xc e)) l Q → Catch X W rest g l Q (xc e) ks) (hg : ∀ e, tb = .rt (.error e) → Wk (after g i j (xc e)) (G (h' e)) ∧ l = R (h' e))
    (h : ∀ s, tryN tb h' = .nx s → Bo X W rest (G s) (R s) (Ou RT GL RL NX) (k s)) (hs : X.stack = X.env :: X.outer := by rfl) (hf : X.env.frame = some X.env.locals := by rfl) (hex : X.ex = [] := by rfl) : Bo X W (.Try body hks [] [] pos :: rest) g l (Ou RT GL RL NX) (bnd (tryN tb h') k) := by
  refine try_core G R tk hN hr hne hb (fun s e => ?_) (fun r e => ⟨fun d l z => ?_, fun c d g l z => hnr r c d g l z⟩) (fun s e g l z => ?_) (fun s e g l z => ?_) (fun e he => ?_) hs hf hex
  · subst e; exact h s rfl
  · subst e; exact z
  · subst e; exact z
  · subst e; exact z
  · have hg0 := hg e he
    clear hg
    refine hc e _ he ?_
    subst he
    have z := h (h' e) rfl
    rw [← hg0.2] at z
    exact Blk.weak hg0.1 z
/-- one clause, two clauses that take all -/
theorem catch1 {C : Addr} {i j : Nat} {x : Xd} {Q : Po} (h1 : PySem.W.exmOne X.K (.ref x.C) (.ref C) = some true) (z : Blk X W rest (after g i j x) l Q) : Catch X W rest g l Q x [(C, i, j)] := ⟨true, h1, fun _ => z, fun h => by cases h⟩
theorem catch2 {C C2 : Addr} {i j : Nat} {x : Xd} {Q : Po} {b : Bool} (h1 : PySem.W.exmOne X.K (.ref x.C) (.ref C) = some b) (h2 : b = false → PySem.W.exmOne X.K (.ref x.C) (.ref C2) = some true) (z : Blk X W rest (after g i j x) l Q) : Catch X W rest g l Q x [(C, i, j), (C2, i, j)] := ⟨b, h1, fun _ => z, fun h => ⟨true, h2 h, fun _ => z, fun h => by cases h⟩⟩
end
/-! ### what a caught one is -/
/-- the type of what stands at v -/
def TyE (K : PySem.W.Frag) (H : Hp) (v : V) (t : Value) : Prop := TyX K H v t ∨ ∃ (a D : Addr) (d : Option Addr) (vs : List (Str × V)), v = .ref a ∧ t = .ref D ∧ H a = some (exO a (.ref D) d) ∧ (d = none ∧ vs = [] ∨ ∃ dx, d = some dx ∧ H dx = some (.xd vs)) ∧ ExcC K D
theorem exO_instD {P : Program} {w : World} {H : Hp} {h : Heap} {a D : Addr} {d : Option Addr} {vs : List (Str × V)} (hok : HOk P w H h) (ha : H a = some (exO a (.ref D) d)) (hd : d = none ∧ vs = [] ∨ ∃ dx, d = some dx ∧ H dx = some (.xd vs)) :
    ∃ oe od, PySem.W.InstAt h a oe D od ∧ (∀ f v, vs.lookup f = some v → ∃ o u, od = some o ∧ PySem.W.lookIn f o = some (some u) ∧ RelV v u) := by
  have x : ObjOk P w H h a (exO a (.ref D) d) := hok a _ ha
  obtain ⟨⟨oe, h1, h2, ws, h3⟩, _⟩ := x
  have nc : PySem.W.notCls oe = true := by unfold PySem.W.notCls; rw [h3] <;> rfl
  rcases hd with ⟨rfl, rfl⟩ | ⟨dx, rfl, hdx⟩
  · exact ⟨oe, none, ⟨h1, h2.1, nc, by rw [h2.2]; trivial⟩, fun f v e => by cases e⟩
  · have hx : ObjOk P w H h dx (.xd vs) := hok dx _ hdx
    obtain ⟨mA, hns, hr⟩ := hx
    obtain ⟨od, ho, hl⟩ := lookIn_ns hns
    refine ⟨oe, some od, ⟨h1, h2.1, nc, by rw [h2.2]; exact ho⟩, fun f v e => ?_⟩
    obtain ⟨u, hu, ru⟩ := RelO.some_of (v := v) (o := mA f) (by rw [← e]; exact hr f)
    exact ⟨od, u, rfl, by rw [hl, hu], ru⟩
section
variable {X : Cx} {W : WX} {g g' : Gm} {l l' : List Res} {e o : Expr} {d d1 d2 : D} {pos p p2 : Pos}
theorem kit_ofE {pins : List (Addr × Obj)} {σ : L2.St} {H : Hp} {s : Shared} {x : V} {u t : Value} (I : Inv X pins σ H s) (rx : RelV x u) (ty : TyE X.K H x t) : ∃ P : Heap → Prop, PySem.W.KitX X.K u t P ∧ P s.heap ∧ u ≠ .builtin "__main__.__loader__#opaque" := by
  rcases ty with ty | ⟨a, D, d, vs, rfl, rfl, ha, hd, ec⟩
  · exact kit_of I rx ty
  · cases (show u = Value.ref a from rx)
    obtain ⟨oe, od, J, _⟩ := exO_instD I.hok ha hd
    have hcl : (PySem.W.clsIn X.K D).isSome = true := by
      obtain ⟨cd, hc, _⟩ := PySem.W.any_some ec.hd
      rw [hc]; rfl
    exact ⟨_, PySem.W.kitx_exc hcl ec.hg ec.hk ec.hs ec.ha ec.hn ec.ht ec.hm, J, fun z => nomatch z⟩
def rIsE (K : PySem.W.Frag) : List V → Hp → VK → Prop := fun xs H Q => ∃ (x c : V) (t cv : Value) (b : Bool), xs = [x, c] ∧ ClsV c cv ∧ TyE K H x t ∧ PySem.W.kitOne K t cv = some b ∧ Q (.bl b) H
def rIsET (K : PySem.W.Frag) : List V → Hp → VK → Prop := fun xs H Q => ∃ (x : V) (t : Value) (tp : Addr) (cs : List V) (ws : List Value) (b : Bool), xs = [x, .ref tp] ∧ TyE K H x t ∧ SqT K H tp cs ∧ Paired ClsV cs ws ∧ PySem.W.kitAny K t ws = some b ∧ Q (.bl b) H
theorem call_isE : CallR X (.builtin "isinstance") (rIsE X.K) := by
  intro pins s σ H xs us Q I r h
  obtain ⟨x, c, t, cv, b, rfl, k, ty, e, q⟩ := h
  obtain ⟨u1, u2, rfl, r1, r2⟩ := vals2 r
  have e2 := k.eq r2
  subst e2
  obtain ⟨P, Z, p, hx⟩ := kit_ofE I r1 ty
  exact PySem.W.kia_one Z I.kIn p e hx fun tk => ⟨.bl b, H, I.tok tk, rfl, q⟩
theorem call_isET : CallR X (.builtin "isinstance") (rIsET X.K) := by
  intro pins s σ H xs us Q I r h
  obtain ⟨x, t, tp, cs, ws, b, rfl, ty, hT, k, e, q⟩ := h
  obtain ⟨u1, u2, rfl, r1, r2⟩ := vals2 r
  cases (show u2 = Value.ref tp from r2)
  obtain ⟨P, Z, p, hx⟩ := kit_ofE I r1 ty
  obtain ⟨its, rv, ⟨o, h1, h2, n, h3⟩, _⟩ := I.tuple hT
  have e3 := ClsV.all k rv
  subst e3
  obtain ⟨oc, od, dt, sl⟩ := o
  simp only at h2 h3
  subst h2 h3
  exact PySem.W.kia_tup Z I.kIn p h1 e hx fun tk => ⟨.bl b, H, I.tok tk, rfl, q⟩
theorem Fd.tyE {K : PySem.W.Frag} {F H : Hp} {v : V} {C : Addr} {fs : List (Str × D)} (e : Ex F H) (f : Fd K F v (.exc C fs)) (ec : ExcC K C) : TyE K H v (.ref C) := by
  cases f with
  | @exc a _ vs _ d h1 h2 h3 => exact .inr ⟨a, C, d, vs, rfl, rfl, e _ _ h1, h2.imp id fun ⟨dx, q1, q2⟩ => ⟨dx, q1, e _ _ q2⟩, ec⟩
/-- a class as a value -/
inductive ClsD : D → Value → Prop
  | own (C : Addr) : ClsD (.adr C) (.ref C)
  | ty (n : String) : ClsD (.ty n) (.type n)
theorem ClsD.v {K : PySem.W.Frag} {F : Hp} {c : D} {cv : Value} {v : V} (k : ClsD c cv) (f : Fd K F v c) : ClsV v cv := by
  cases k with
  | own C => cases f; exact .own C
  | ty n => cases f; exact .ty n
theorem o_isE {C : Addr} {fs : List (Str × D)} {c : D} {cv : Value} {b : Bool} (ec : ExcC X.K C) (k : ClsD c cv) (h : PySem.W.kitOne X.K (.ref C) cv = some b) : OpN X.K l (rIsE X.K) [.exc C fs, c] (.bl b) := fun F M H vs Q eF eM dj rs f kk => by
  cases f with
  | cons f1 f2 => cases f2 with
    | cons f2 f3 =>
      cases f3
      exact ⟨_, _, _, cv, b, rfl, k.v f2, f1.tyE eF ec, h, kk _ F H (.rf eF) (.bl _)⟩
theorem o_isEn {c : D} {cv : Value} {b : Bool} (k : ClsD c cv) (h : PySem.W.kitOne X.K (.type "NoneType") cv = some b) : OpN X.K l (rIsE X.K) [.non, c] (.bl b) := fun F M H vs Q eF eM dj rs f kk => by
  cases f with
  | cons f1 f2 => cases f2 with
    | cons f2 f3 =>
      cases f3
      exact ⟨_, _, _, cv, b, rfl, k.v f2, .inl (f1.tyx eF rfl), h, kk _ F H (.rf eF) (.bl _)⟩
theorem o_isET {C : Addr} {fs : List (Str × D)} {cs : List Addr} {b : Bool} (ec : ExcC X.K C) (h : PySem.W.kitAny X.K (.ref C) (cs.map Value.ref) = some b) : OpN X.K l (rIsET X.K) [.exc C fs, .tup (cs.map D.adr)] (.bl b) := fun F M H vs Q eF eM dj rs f kk => by
  cases f with
  | cons f1 f2 => cases f2 with
    | cons f2 f3 =>
      cases f3
      cases f2 with
      | tup s fa => exact ⟨_, _, _, _, _, b, rfl, f1.tyE eF ec, ex_t eF s, adr_cls fa, h, kk _ F H (.rf eF) (.bl _)⟩
theorem o_isETn {cs : List Addr} {b : Bool} (h : PySem.W.kitAny X.K (.type "NoneType") (cs.map Value.ref) = some b) : OpN X.K l (rIsET X.K) [.non, .tup (cs.map D.adr)] (.bl b) := fun F M H vs Q eF eM dj rs f kk => by
  cases f with
  | cons f1 f2 => cases f2 with
    | cons f2 f3 =>
      cases f3
      cases f2 with
      | tup s fa => exact ⟨_, _, _, _, _, b, rfl, .inl (f1.tyx eF rfl), ex_t eF s, adr_cls fa, h, kk _ F H (.rf eF) (.bl _)⟩
/-- isinstance(kept, C), kept an exception or None -/
theorem px_isX {ε : Type} {xc : ε → Xd} {o : Option ε} {ce : Expr} {c : D} {cv : Value} {q : ε → Bool} (z : X.mg "isinstance" = none) (h : Px X e g l (optE (fun x => (xc x).d) o)) (hcl : Px X ce g l c) (k : ClsD c cv) (ec : ∀ x, ExcC X.K (xc x).C) (hk : ∀ x, PySem.W.kitOne X.K (.ref (xc x).C) cv = some (q x)) (hn : PySem.W.kitOne X.K (.type "NoneType") cv = some false)
    (hg : Gl X "isinstance" := by rfl) (hs : starEach [e, ce] X.env = (false, eval e X.env) :: starEach [ce] X.env := by rfl) (hs2 : starEach [ce] X.env = [(false, eval ce X.env)] := by rfl) (hpl : (backTo pos (starEach [ce] X.env)).any (·.1) = false := by rfl) :
    Px X (.Call (.Name "isinstance" p) [e, ce] [] pos) g l (.bl (o.any q)) := by
  cases o with
  | none => exact px_bi call_isE z (pa_c h (pa_c hcl pa_n hs2) hs) (o_isEn k hn) hg (by decide +kernel) (by decide) (by decide) hs hpl
  | some x => exact px_bi call_isE z (pa_c h (pa_c hcl pa_n hs2) hs) (o_isE (ec x) k (hk x)) hg (by decide +kernel) (by decide) (by decide) hs hpl
theorem px_isXT {ε : Type} {xc : ε → Xd} {o : Option ε} {ce : Expr} {cs : List Addr} {q : ε → Bool} (z : X.mg "isinstance" = none) (h : Px X e g l (optE (fun x => (xc x).d) o)) (hcl : Px X ce g l (.tup (cs.map D.adr))) (ec : ∀ x, ExcC X.K (xc x).C) (hk : ∀ x, PySem.W.kitAny X.K (.ref (xc x).C) (cs.map Value.ref) = some (q x)) (hn : PySem.W.kitAny X.K (.type "NoneType") (cs.map Value.ref) = some false)
    (hg : Gl X "isinstance" := by rfl) (hs : starEach [e, ce] X.env = (false, eval e X.env) :: starEach [ce] X.env := by rfl) (hs2 : starEach [ce] X.env = [(false, eval ce X.env)] := by rfl) (hpl : (backTo pos (starEach [ce] X.env)).any (·.1) = false := by rfl) :
    Px X (.Call (.Name "isinstance" p) [e, ce] [] pos) g l (.bl (o.any q)) := by
  cases o with
  | none => exact px_bi call_isET z (pa_c h (pa_c hcl pa_n hs2) hs) (o_isETn hn) hg (by decide +kernel) (by decide) (by decide) hs hpl
  | some x => exact px_bi call_isET z (pa_c h (pa_c hcl pa_n hs2) hs) (o_isET (ec x) (hk x)) hg (by decide +kernel) (by decide) (by decide) hs hpl
/-- kept.f -/
def tXg (K : PySem.W.Frag) (f : Str) (te : TE) : TE := fun σ H Q => te σ H fun x H1 => ∃ (a C : Addr) (d : Option Addr) (vs : List (Str × V)) (v : V), x = .ref a ∧ H1 a = some (exO a (.ref C) d) ∧ (d = none ∧ vs = [] ∨ ∃ dx, d = some dx ∧ H1 dx = some (.xd vs)) ∧ ExcC K C ∧ PySem.W.findIn K (.ref C) f = some none ∧ vs.lookup f = some v ∧ Q v H1
theorem pe_xg {te : TE} {n : Str} (he : PE X e te) (hb : attributeBase e n X.env (eval e X.env) = eval e X.env := by rfl) : PE X (.Attribute e n pos) (tXg X.K n te) := by
  refine ⟨fun pins s σ H Q I h => ?_⟩
  refine attr_of hb (thn (he.run pins s σ H _ I h) fun u s1 hh => ?_)
  obtain ⟨x, H1, I1, rx, a, C, d, vs, v, ex, ha, hd, ec, hno, l, q⟩ := hh
  subst ex
  obtain rfl : u = Value.ref a := rx
  obtain ⟨oe, od, J, hl⟩ := exO_instD I1.hok ha hd
  obtain ⟨o, u, rfl, h1, ru⟩ := hl n v l
  exact HandSPX.exc_get I1.kIn J ec.hg ec.hk ec.hs (PySem.W.findObj_own ec.hd hno rfl h1) (handed_of ru) ⟨v, H1, I1.tok _, ru, q⟩
theorem px_xf {C : Addr} {fs : List (Str × D)} {f : Str} (ho : Px X o g l (.exc C fs)) (ec : ExcC X.K C) (hn : PySem.W.findIn X.K (.ref C) f = some none) (hl : fs.lookup f = some d) (hb : attributeBase o f X.env (eval o X.env) = eval o X.env := by rfl) : Px X (.Attribute o f pos) g l d := fun en T σ H Q s k => wpE_of (pe_xg pe_wp hb) (by
  refine ho en T σ H _ s fun v H1 s1 => ?_
  obtain ⟨F, M, q⟩ := s1
  obtain ⟨hf, ht⟩ := q.tm
  cases hf with
  | @exc a _ vs _ d0 h1 h2 h3 =>
    obtain ⟨v, e1, e2⟩ := h3.look hl
    exact ⟨a, C, d0, vs, v, rfl, q.exF _ _ h1, h2.imp id fun ⟨dx, q1, q2⟩ => ⟨dx, q1, q.exF _ _ q2⟩, ec, hn, e1, k v H1 ⟨F, M, q.tmp ⟨e2, ht⟩⟩⟩)
end
/-! ### for the walker -/
section
variable {X : Cx} {W : WX} {g g' : Gm} {l l' own junk : List Res} {sts : List Stmt} {Rr ε Ll Ss : Type} {RT : Rr → Re} {xc : ε → Xd} {GL : Ll → Gm} {RL : Ll → List Res} {NX : Ss → Gm → List Res → Prop} {v : Rr}
theorem bo_ok (h : Bo X W sts g l (Rt RT) v) : Bo X W sts g l (Rt (XR X.K own RT xc)) (.ok v) := h
theorem bo_okv (h : Bo X W sts g l (Rv RT) v) : Bo X W sts g l (Rv (XR X.K own RT xc)) (.ok v) := h
theorem bo_okO (h : Bo X W sts g l (Ou RT GL RL NX) (.rt v)) : Bo X W sts g l (Ou (XR X.K own RT xc) GL RL NX) (.rt (.ok v)) := h
theorem bo_okT {g0 : Gm} {l0 : List Res} (h : Bo X W sts g l (Ou RT GL RL NX) (.rt v)) : Bo X W sts g l (Ou (XT X.K g0 l0 RT xc) GL RL NX) (.rt (.ok v)) := h
end
/-- an exception class under its name with its own __init__ -/
def GloXi (P : Program) (w : World) (K : PySem.W.Frag) (mg : Str → Option Value) (base : Heap) (k : Nat) (C : Addr) (x : Str) (ps : List Str) (sp : Sp) : Prop := ∃ f fd, FnOk P w K mg base CX0 k f fd ps sp ∧ Dxi K mg x C f ∧ Binds K fd ps []
theorem bo_raiseG {X : Cx} {W : WX} {g : Gm} {l : List Res} {e : Expr} {es : List Expr} {pos p : Pos} {rest : List Stmt} {β : Type} {Om : β → Po} {mo : β} {α : Type} {ok : α → Prop} {args : α → List D} {fl : α → List (Str × D)} {y : Str} {C : Addr} {ps : List Str} {kk j : Nat} {pr : Pos} (hc : X.calm = true) (tk : Takes X W) (G : GloXi X.prog X.w X.K X.mg X.base kk C y ps (XiSp X.K C ok args fl)) (hr : Room j X.A) (hj : kk + 1 ≤ j)
    (a : α) (hok : ok a) (ha : Pa X (e :: es) g l (args a)) (hz : (args a).length ≤ 1000) (hx : ExTo X.K ⟨C, fl a⟩ (Om mo) g l)
    (hg : Gl X y := by rfl) (hdb : (y == ("__debug__" : Str)) = false := by decide) (he : starEach (e :: es) X.env = (false, eval e X.env) :: starEach es X.env := by rfl) (hpl : (backTo pos (starEach es X.env)).any (·.1) = false := by rfl) :
    Bo X W (.Raise (some (.Call (.Name y p) (e :: es) [] pos)) none pr :: rest) g l Om mo := by
  obtain ⟨f, fd, F, x0, hb⟩ := G
  exact bo_raiseI hc tk x0 F hb hr hj a hok ha hz hx hg hdb he hpl
def okv {ε α : Type} (o : Except ε α) (d : α) : α := match o with | .ok v => v | .error _ => d
theorem okv_eq {ε α : Type} {o : Except ε α} {d v : α} (h : o = .ok v) : o = .ok (okv o d) := by subst h; rfl
theorem okv_of {ε α : Type} {o : Except ε α} {d v : α} (h : o = .ok v) : okv o d = v := by subst h; rfl
end Sx
set_option Elab.async false
set_option linter.all false
set_option maxRecDepth 100000
set_option maxHeartbeats 4000000
/-! Owned instances: what they own stands beside them; defs that are handed owned things. -/
namespace Sx
open PySem L2 PyProof.Rows
/-- what a def gives back with what is owned then: for some addresses i -/
abbrev OwnR {ι Rr : Type} (dd : ι → Rr → D) (ll : ι → Rr → List Res) : Rr → Re := fun r => { rt := fun d l => ∃ i, d = dd i r ∧ l = ll i r }
theorem putD_hd {f : Str} {d x : D} {r : List (Str × D)} : putD f d ((f, x) :: r) = (f, d) :: r := by unfold putD; rw [if_pos rfl]
theorem putD_tl {f g : Str} {d x : D} {r r' : List (Str × D)} (h : putD f d r = r') (n : g ≠ f := by decide +kernel) : putD f d ((g, x) :: r) = (g, x) :: r' := by
  show (if g = f then _ else _) = _
  rw [if_neg n, h]
theorem putD_nil {f : Str} {d : D} : putD f d [] = [(f, d)] := rfl
section
variable {X : Cx} {W : WX} {g g' : Gm} {l l' l2 lr : List Res} {Φ : Po} {e a b c o : Expr} {es : List Expr} {d d1 d2 : D} {pos p p2 apos : Pos} {rest sts : List Stmt}
theorem Px.perm (q : l.Perm l2) (h : Px X e g l2 d) : Px X e g l d := fun en T σ H Q s k => h en T σ H Q (s.perm q) fun v H' s' => k v H' (s'.perm q.symm)
theorem Ev.perm {Psi : D → List Res → Prop} (q : l.Perm l2) (h : Ev X e g l2 Psi) : Ev X e g l Psi := fun en T σ H Q s k => h en T σ H Q (s.perm q) k
theorem Exv.perm {Psi : D → List Res → Prop} {XP : Value → Option Addr → List Res → Prop} (q : l.Perm l2) (h : Exv X W e g l2 Psi (fun cls dd l' => ∃ lx, XP cls dd lx ∧ l' = lx ++ l2)) : Exv X W e g l Psi (fun cls dd l' => ∃ lx, XP cls dd lx ∧ l' = lx ++ l) := fun en T σ H Q s k kx => h en T σ H Q (s.perm q) k fun cls dd l' H' z s' => by
  obtain ⟨lx, h1, rfl⟩ := z
  exact kx cls dd _ H' ⟨lx, h1, rfl⟩ (s'.perm (q.symm.append_left lx))
/-! ### calls -/
section
variable {α β ι ε : Type} {ok : α → Prop} {args : α → List D} {own : α → List Res} {dd : α → ι → β → D} {ll : α → ι → β → List Res} {y mm : Str} {ps : List Str} {k j : Nat} {C : Addr} {ds : List D} {pl : Sem Bool}
theorem ev_callO {m : α → β} (G : Glo X.prog X.w X.K X.mg X.base k y ps (SpN X.K ok args own (fun a => OwnR (dd a) (ll a)) m)) (hr : Room j X.A) (hj : k ≤ j) (a : α) (hok : ok a) (q : l.Perm (own a ++ lr)) (ha : Pa X (e :: es) g (own a ++ lr) (args a))
    (hg : Gl X y := by rfl) (hdb : (y == ("__debug__" : Str)) = false := by decide) (he : starEach (e :: es) X.env = (false, eval e X.env) :: starEach es X.env := by rfl) (hpl : (backTo pos (starEach es X.env)).any (·.1) = false := by rfl) :
    Ev X (.Call (.Name y p) (e :: es) [] pos) g l (fun d l' => ∃ i, d = dd a i (m a) ∧ l' = ll a i (m a) ++ lr) :=
  Ev.perm q (ev_call G hr hj a hok ha (fun d l' ⟨i, h1, h2⟩ => ⟨i, h1, by rw [h2]⟩) hg hdb he hpl)
theorem ev_methO {m : α → β} {k0 : Nat} {q0 : Addr} {fs : List (Str × D)} (G : GloM X.prog X.w X.K X.mg X.base k C mm ps (SpN X.K ok args own (fun a => OwnR (dd a) (ll a)) m)) (hr : Room j X.A) (hj : k ≤ j) (a : α) (hok : ok a) (q : l.Perm (own a ++ lr)) (ho : Px X o g (own a ++ lr) (.adr q0)) (hk : (own a ++ lr)[k0]? = some (ownI X.K q0 C fs)) (hl : fs.lookup mm = none) (ha : Pa X (e :: es) g (own a ++ lr) ds) (hds : args a = .adr q0 :: ds)
    (hst : starEach (e :: es) X.env = (false, eval e X.env) :: starEach es X.env := by rfl) (hpl : (backTo pos (starEach es X.env)).any (·.1) = false := by rfl) (ht : MthE X o mm apos pos (e :: es) pl := by rfl) :
    Ev X (.Call (.Attribute o mm apos) (e :: es) [] pos) g l (fun d l' => ∃ i, d = dd a i (m a) ∧ l' = ll a i (m a) ++ lr) :=
  Ev.perm q (ev_meth G hr hj a hok ho (rc_own hk hl) ha hds (fun d l' ⟨i, h1, h2⟩ => ⟨i, h1, by rw [h2]⟩) hst hpl ht)
theorem ev_methO0 {m : α → β} {k0 : Nat} {q0 : Addr} {fs : List (Str × D)} (G : GloM X.prog X.w X.K X.mg X.base k C mm ps (SpN X.K ok args own (fun a => OwnR (dd a) (ll a)) m)) (hr : Room j X.A) (hj : k ≤ j) (a : α) (hok : ok a) (q : l.Perm (own a ++ lr)) (ho : Px X o g (own a ++ lr) (.adr q0)) (hk : (own a ++ lr)[k0]? = some (ownI X.K q0 C fs)) (hl : fs.lookup mm = none) (hds : args a = [.adr q0])
    (ht : MthE X o mm apos pos [] pl := by rfl) : Ev X (.Call (.Attribute o mm apos) [] [] pos) g l (fun d l' => ∃ i, d = dd a i (m a) ∧ l' = ll a i (m a) ++ lr) :=
  Ev.perm q (ev_meth0 G hr hj a hok ho (rc_own hk hl) hds (fun d l' ⟨i, h1, h2⟩ => ⟨i, h1, by rw [h2]⟩) ht)
/-- .. that may raise -/
theorem exv_callO {m : α → Except ε β} {xc : ε → Xd} (tk : Takes X W) (G : GloX X.prog X.w X.K X.mg X.base k y ps (SpX X.K ok args own (fun a => OwnR (dd a) (ll a)) m xc)) (hr : Room j X.A) (hj : k ≤ j) (a : α) (hok : ok a) (q : l.Perm (own a ++ lr)) (ha : Pa X (e :: es) g (own a ++ lr) (args a))
    (hg : Gl X y := by rfl) (hdb : (y == ("__debug__" : Str)) = false := by decide) (he : starEach (e :: es) X.env = (false, eval e X.env) :: starEach es X.env := by rfl) (hpl : (backTo pos (starEach es X.env)).any (·.1) = false := by rfl) :
    Exv X W (.Call (.Name y p) (e :: es) [] pos) g l (fun d l' => ∃ v, m a = .ok v ∧ ∃ i, d = dd a i v ∧ l' = ll a i v ++ lr) (fun cls d0 l' => ∃ lx, (∃ e0, m a = .error e0 ∧ XE X.K (xc e0) cls d0 lx) ∧ l' = lx ++ l) :=
  Exv.perm q (exv_call tk G hr hj a hok ha (fun d l' h => by
    generalize m a = r at h
    cases r with
    | ok v => obtain ⟨i, h1, h2⟩ := h; exact ⟨v, rfl, i, h1, by rw [h2]⟩
    | error e => exact h.elim) (fun cls d0 l' h => by
    generalize m a = r at h
    cases r with
    | ok v => exact h.elim
    | error e => obtain ⟨lx, h1, h2⟩ := h; exact ⟨lx, ⟨e, rfl, h1⟩, by rw [h2, List.append_assoc]⟩) hg hdb he hpl)
theorem exv_methO {m : α → Except ε β} {xc : ε → Xd} {k0 : Nat} {q0 : Addr} {fs : List (Str × D)} (tk : Takes X W) (G : GloMX X.prog X.w X.K X.mg X.base k C mm ps (SpX X.K ok args own (fun a => OwnR (dd a) (ll a)) m xc)) (hr : Room j X.A) (hj : k ≤ j) (a : α) (hok : ok a) (q : l.Perm (own a ++ lr)) (ho : Px X o g (own a ++ lr) (.adr q0)) (hk : (own a ++ lr)[k0]? = some (ownI X.K q0 C fs)) (hl : fs.lookup mm = none) (ha : Pa X (e :: es) g (own a ++ lr) ds) (hds : args a = .adr q0 :: ds)
    (hst : starEach (e :: es) X.env = (false, eval e X.env) :: starEach es X.env := by rfl) (hpl : (backTo pos (starEach es X.env)).any (·.1) = false := by rfl) (ht : MthE X o mm apos pos (e :: es) pl := by rfl) :
    Exv X W (.Call (.Attribute o mm apos) (e :: es) [] pos) g l (fun d l' => ∃ v, m a = .ok v ∧ ∃ i, d = dd a i v ∧ l' = ll a i v ++ lr) (fun cls d0 l' => ∃ lx, (∃ e0, m a = .error e0 ∧ XE X.K (xc e0) cls d0 lx) ∧ l' = lx ++ l) :=
  Exv.perm q (exv_meth tk G hr hj a hok ho (rc_own hk hl) ha hds (fun d l' h => by
    generalize m a = r at h
    cases r with
    | ok v => obtain ⟨i, h1, h2⟩ := h; exact ⟨v, rfl, i, h1, by rw [h2]⟩
    | error e => exact h.elim) (fun cls d0 l' h => by
    generalize m a = r at h
    cases r with
    | ok v => exact h.elim
    | error e => obtain ⟨lx, h1, h2⟩ := h; exact ⟨lx, ⟨e, rfl, h1⟩, by rw [h2, List.append_assoc]⟩) hst hpl ht)
/-- it gives something back -/
theorem exv_ok {o0 : Except ε β} {v : β} {Psi : β → D → List Res → Prop} {XP : ε → Value → Option Addr → List Res → Prop} (h : Exv X (fun _ _ _ _ => False) e g l (fun d l' => ∃ v, o0 = .ok v ∧ Psi v d l') (fun cls d0 l' => ∃ lx, (∃ e0, o0 = .error e0 ∧ XP e0 cls d0 lx) ∧ l' = lx ++ l)) (hv : o0 = .ok v) : Ev X e g l (Psi v) :=
  Exv.ev (Exv.mono h (fun d l' ⟨v', h1, h2⟩ => by rw [hv] at h1; cases h1; exact h2) (fun cls d0 l' ⟨lx, ⟨e0, h1, _⟩, _⟩ => by rw [hv] at h1; cases h1))
/-- it raises -/
theorem exv_er {o0 : Except ε β} {e0 : ε} {xc : ε → Xd} {Psi : β → D → List Res → Prop} (h : Exv X W e g l (fun d l' => ∃ v, o0 = .ok v ∧ Psi v d l') (fun cls d0 l' => ∃ lx, (∃ e0, o0 = .error e0 ∧ XE X.K (xc e0) cls d0 lx) ∧ l' = lx ++ l)) (hv : o0 = .error e0) : Exr X W e g l (xc e0) :=
  Exv.mono h (fun d l' ⟨v', h1, h2⟩ => by rw [hv] at h1; cases h1) (fun cls d0 l' ⟨lx, ⟨e1, h1, h2⟩, h3⟩ => by rw [hv] at h1; cases h1; exact ⟨lx, h2, h3⟩)
/-- nothing owned is changed: an expression like any other -/
theorem Ev.still {β ι : Type} {dd : ι → β → D} {r : β} {own0 : List Res} {i0 : ι} (h : Ev X e g l (fun d l' => ∃ i, d = dd i r ∧ l' = own0 ++ lr)) (hi : ∀ i, dd i r = dd i0 r) (q : l.Perm (own0 ++ lr)) : Px X e g l (dd i0 r) := fun en T σ H Q s k => h en T σ H Q s fun v d l' H' ⟨i, h1, h2⟩ s' => by
  subst h1; subst h2
  rw [hi] at s'
  exact k v H' (s'.perm q.symm)
end
/-! ### statements -/
section
variable {α β ι : Type} {Om : β → Po} {mo : β} {k : α → β} {s0 : α}
/-- x = e, e gives something owned -/
theorem bo_setO {i : Nat} {y : Str} {pos' : Pos} {dd : ι → α → D} {ll : ι → α → List Res} (hN : X.N.Nodup) (hi : X.N[i]? = some y) (hx : Loc X.env.scope y) (he : Ev X e g l (fun d l' => ∃ j, d = dd j s0 ∧ l' = ll j s0)) (h : ∀ j s, s = s0 → Bo X W rest (g.set i (some (dd j s))) (ll j s) Om (k s))
    (hs : swapsWith e (some (.Name y pos')) pos.line X.env = pure false := by rfl) (hf : X.fn y = true ∨ X.env.scope.names.lookup y = some .local := by first | exact .inl rfl | exact .inr rfl | assumption) :
    Bo X W (.Assign [.Name y pos'] e pos :: rest) g l Om (lt s0 k) := blk_setX hN hi hx he (fun d l' ⟨j, e1, e2⟩ => by subst e1; subst e2; exact h j s0 rfl) hs hf
/-- a statement that changes what is owned -/
theorem bo_doO {dd : ι → α → D} {ll : ι → α → List Res} (he : Ev X e g l (fun d l' => ∃ j, d = dd j s0 ∧ l' = ll j s0)) (h : ∀ j s, s = s0 → Bo X W rest g (ll j s) Om (k s)) (hs : swapsWith e none pos.line X.env = pure false := by rfl) : Bo X W (.Expr e pos :: rest) g l Om (lt s0 k) := blk_expr he (fun d l' ⟨j, _, e2⟩ => by subst e2; exact h j s0 rfl) hs
theorem bo_mov {sts : List Stmt} (q : l.Perm l2) (h : Bo X W sts g l2 Om mo) : Bo X W sts g l Om mo := Blk.perm q h
/-- the same, other words -/
theorem bo_eq {sts : List Stmt} {g2 : Gm} (h1 : g = g2) (h2 : l = l2) (h : Bo X W sts g2 l2 Om mo) : Bo X W sts g l Om mo := by subst h1; subst h2; exact h
/-- a target taken apart, the right side giving something owned -/
theorem blk_fldX {C q : Addr} {f : Str} {pos' : Pos} {Psi : D → List Res → Prop} (he : Ev X e g l Psi) (hc : Cls X.K C) (hn : NoAttr X.K C f) (h : ∀ d l', Psi d l' → Px X o g l' (.adr q) ∧ ∃ n fs, l'[n]? = some (ownI X.K q C fs) ∧ fs.length < 1000 ∧ Blk X W rest g (l'.set n (ownI X.K q C (putD f d fs))) Φ)
    (hs : swapsWith e (some (.Attribute o f pos')) pos.line X.env = pure false := by rfl) : Blk X W (.Assign [.Attribute o f pos'] e pos :: rest) g l Φ := fun en T σ H D s m => wpS_of (pss_cons (ps_fld pe_wp pe_wp hs) pss_wp) (by
  refine he en T σ H _ s fun v d l' H1 hp s1 => ?_
  obtain ⟨ho, n, fs, hk, hz, h⟩ := h d l' hp
  refine ho en _ σ H1 _ s1 fun u H2 s2 => ?_
  obtain ⟨F, M, q2⟩ := s2
  have fu := q2.tm.1
  cases fu
  obtain ⟨dx, vs, ff, hp⟩ := q2.rs.ins hk q2.exM
  refine ⟨q, C, dx, vs, rfl, hp, hc, hn, by rw [ff.length]; exact hz, ?_⟩
  obtain ⟨M', q'⟩ := (q2.tmp (T' := T) q2.tm.2.2).putI hk hp (ff.put q2.tm.2.1)
  exact h en T σ _ D ⟨F, M', q'⟩ m)
/-- self.f = e, frozen -/
theorem bo_fldF {n : Nat} {C q : Addr} {fs : List (Str × D)} {fs' : α → List (Str × D)} {f : Str} {pos' : Pos} (enc : α → D) (he : Px X e g l (enc s0)) (ho : Px X o g l (.adr q)) (hk : l[n]? = some (ownI X.K q C fs)) (hc : Cls X.K C) (hn : NoAttr X.K C f) (hp : ∀ y, putD f (enc y) fs = fs' y) (h : ∀ y, y = s0 → Bo X W rest g (l.set n (ownI X.K q C (fs' y))) Om (k y))
    (hz : fs.length < 1000 := by exact Nat.le_of_ble_eq_true rfl) (hs : swapsWith e (some (.Attribute o f pos')) pos.line X.env = pure false := by rfl) : Bo X W (.Assign [.Attribute o f pos'] e pos :: rest) g l Om (lt s0 k) := blk_fld he ho hk hc hn hz (by
  have := h s0 rfl
  rw [← hp] at this
  exact this) hs
/-- self.f = e, e gives something owned -/
theorem bo_fldO {n : ι → Nat} {C q : Addr} {fs : List (Str × D)} {fs' : ι → α → List (Str × D)} {f : Str} {pos' : Pos} {dd : ι → α → D} {ll : ι → α → List Res} (he : Ev X e g l (fun d l' => ∃ j, d = dd j s0 ∧ l' = ll j s0)) (ho : ∀ j, Px X o g (ll j s0) (.adr q)) (hk : ∀ j, (ll j s0)[n j]? = some (ownI X.K q C fs)) (hc : Cls X.K C) (hn : NoAttr X.K C f) (hp : ∀ j y, putD f (dd j y) fs = fs' j y) (h : ∀ j y, y = s0 → Bo X W rest g ((ll j y).set (n j) (ownI X.K q C (fs' j y))) Om (k y))
    (hz : fs.length < 1000 := by exact Nat.le_of_ble_eq_true rfl) (hs : swapsWith e (some (.Attribute o f pos')) pos.line X.env = pure false := by rfl) : Bo X W (.Assign [.Attribute o f pos'] e pos :: rest) g l Om (lt s0 k) :=
  blk_fldX (Psi := fun d l' => ∃ j, d = dd j s0 ∧ l' = ll j s0) he hc hn (fun d l' ⟨j, e1, e2⟩ => by
    subst e1; subst e2
    refine ⟨ho j, n j, fs, hk j, hz, ?_⟩
    have := h j s0 rfl
    rw [← hp] at this
    exact this) hs
/-- self.f += e -/
theorem bo_retG {Rr : Type} {dd : ι → Rr → D} {ll : ι → Rr → List Res} {r : Rr} {junk : List Res} (i : ι) (he : Px X e g l (dd i r)) (q : l.Perm (ll i r ++ junk)) : Bo X W (.Return (some e) pos :: rest) g l (Rt (OwnR dd ll)) r :=
  blk_retX (Psi := fun d l' => d = dd i r ∧ l' = ll i r) (fun en T σ H Q s k => he en T σ H Q s fun v H' s' => k v _ _ H' ⟨rfl, rfl⟩ (s'.perm2 q)) fun d l' h => ⟨i, h.1, h.2⟩
theorem bo_retGO {Rr Ll Ss : Type} {GL : Ll → Gm} {RL : Ll → List Res} {NX : Ss → Gm → List Res → Prop} {dd : ι → Rr → D} {ll : ι → Rr → List Res} {r : Rr} {junk : List Res} (i : ι) (he : Px X e g l (dd i r)) (q : l.Perm (ll i r ++ junk)) : Bo X W (.Return (some e) pos :: rest) g l (Ou (OwnR dd ll) GL RL NX) (.rt r) := bo_retG (ι := ι) i he q
/-- .. of a new list -/
theorem bo_retH {Rr ι' : Type} {dd : ι → Rr → D} {ll : ι → Rr → List Res} {r : Rr} {junk : ι' → List Res} {d0 : ι' → D} {l0 : ι' → List Res} (he : Ev X e g l (fun d l' => ∃ j, d = d0 j ∧ l' = l0 j)) (q : ∀ j, ∃ i, d0 j = dd i r ∧ (l0 j).Perm (ll i r ++ junk j)) : Bo X W (.Return (some e) pos :: rest) g l (Rt (OwnR dd ll)) r :=
  blk_retX (Psi := fun d l' => ∃ i, d = dd i r ∧ l' = ll i r) (fun en T σ H Q s k => he en T σ H Q s fun v d l' H' ⟨j, h1, h2⟩ s' => by
    obtain ⟨i, h3, h4⟩ := q j
    subst h1; subst h2
    exact k v _ _ H' ⟨i, h3, rfl⟩ (s'.perm2 h4)) fun d l' h => h
theorem bo_retHO {Rr ι' Ll Ss : Type} {GL : Ll → Gm} {RL : Ll → List Res} {NX : Ss → Gm → List Res → Prop} {dd : ι → Rr → D} {ll : ι → Rr → List Res} {r : Rr} {junk : ι' → List Res} {d0 : ι' → D} {l0 : ι' → List Res} (he : Ev X e g l (fun d l' => ∃ j, d = d0 j ∧ l' = l0 j)) (q : ∀ j, ∃ i, d0 j = dd i r ∧ (l0 j).Perm (ll i r ++ junk j)) : Bo X W (.Return (some e) pos :: rest) g l (Ou (OwnR dd ll) GL RL NX) (.rt r) := bo_retH he q
theorem bo_endG {Rr : Type} {dd : ι → Rr → D} {ll : ι → Rr → List Res} {r : Rr} {junk : List Res} (i : ι) (he : dd i r = .non) (q : l.Perm (ll i r ++ junk)) : Bo X W [] g l (Rv (OwnR dd ll)) r := Blk.perm (q.trans List.perm_append_comm) (Blk.dropO (blk_nil ⟨i, he.symm, rfl⟩))
theorem bo_retNG {Rr : Type} {dd : ι → Rr → D} {ll : ι → Rr → List Res} {r : Rr} {junk : List Res} (i : ι) (he : dd i r = .non) (q : l.Perm (ll i r ++ junk)) : Bo X W (.Return none pos :: rest) g l (Rt (OwnR dd ll)) r := Blk.perm (q.trans List.perm_append_comm) (Blk.dropO (blk_retN ⟨i, he.symm, rfl⟩))
/-- EvL as something owned -/
theorem evl_o {ds : List D} (h : EvL X e g l ds) : Ev X e g l (fun d l' => ∃ j : Addr, d = .adr j ∧ l' = ownL X.K j ds :: l) := h
end
end
/-! ### freezing -/
section
variable {X : Cx} {W : WX} {g g' : Gm} {l l' : List Res} {Φ : Po} {rest sts : List Stmt}
theorem putF_same {f : Str} {v : V} : ∀ {vs : List (Str × V)}, vs.lookup f = some v → putF f v vs = vs
  | [], h => by cases h
  | (n, x) :: r, h => by
    unfold putF
    rw [List.lookup_cons] at h
    by_cases e : n = f
    · rw [if_pos e]
      have : (f == n) = true := by rw [e]; exact beq_self_eq_true f
      rw [this] at h
      cases h
      rfl
    · rw [if_neg e]
      have : (f == n) = false := beq_eq_false_iff_ne.mpr (Ne.symm e)
      rw [this] at h
      rw [putF_same h]
theorem FdFs.put' {K : PySem.W.Frag} {F : Hp} {f : Str} {v : V} {d : D} {vs : List (Str × V)} {ds : List (Str × D)} (h : FdFs K F vs ds) (hv : vs.lookup f = some v) (k : Fd K F v d) : FdFs K F vs (putD f d ds) := by
  have := FdFs.put (f := f) k h
  rw [putF_same hv] at this
  exact this
/-- what an owned instance owns is frozen (both at the front) -/
theorem Blk.frzSub {C p q : Addr} {fs : List (Str × D)} {f : Str} {r : Res} {dn : D} (h1 : ∀ F A, r.P F A → ∃ o, A q = some o) (h2 : ∀ F A, r.P F A → F q = none → Fd X.K (join F A) (.ref q) dn) (hl : fs.lookup f = some (.adr q)) (k : Blk X W sts g (ownI X.K p C (putD f dn fs) :: l) Φ) : Blk X W sts g (r :: ownI X.K p C fs :: l) Φ := fun en T σ H D s m => by
  obtain ⟨F, M, a⟩ := s
  obtain ⟨F', M', a', f1, _⟩ := a.frz (P := fun F' => Fd X.K F' (.ref q) dn) fun A hA => by
    obtain ⟨A0, B0, hM, dj, hA0, _⟩ := id a.rs
    obtain ⟨o, ho⟩ := h1 F A0 hA0
    exact h2 F A hA (a.dj.sym q o (by rw [hM]; exact join_l ho))
  obtain ⟨A, B, hM, dj, ⟨vs, dx, n, ff, hA⟩, hB⟩ := id a'.rs
  obtain ⟨v, e1, e2⟩ := ff.look hl
  cases e2
  exact k en T σ H D ⟨F', M', a'.exF, a'.exM, a'.dj, a'.eF, a'.nF, a'.nM, a'.fr, a'.sl, a'.tm, A, B, hM, dj, ⟨vs, dx, n, ff.put' e1 f1, hA⟩, hB⟩ m
theorem frz_L {K : PySem.W.Frag} {q : Addr} {ds : List D} : (∀ F A, (ownL K q ds).P F A → ∃ o, A q = some o) ∧ ∀ F A, (ownL K q ds).P F A → F q = none → Fd K (join F A) (.ref q) (.lst ds) := ⟨fun F A ⟨vs, _, h⟩ => by subst h; exact ⟨_, one_same⟩, fun F A ⟨vs, f, h⟩ n => by subst h; exact .lst (by rw [join_r n]; exact one_same) (f.mono fun x o h => join_l h)⟩
theorem frz_D {K : PySem.W.Frag} {q : Addr} {kvs : List (Key × D)} : (∀ F A, (ownD K q kvs).P F A → ∃ o, A q = some o) ∧ ∀ F A, (ownD K q kvs).P F A → F q = none → Fd K (join F A) (.ref q) (.dK kvs) := ⟨fun F A ⟨vs, _, h⟩ => by subst h; exact ⟨_, one_same⟩, fun F A ⟨vs, f, h⟩ n => by subst h; exact .dK (by rw [join_r n]; exact one_same) (f.mono fun x o h => join_l h)⟩
theorem frz_T {K : PySem.W.Frag} {q : Addr} {kvs : List (List Key × D)} : (∀ F A, (ownT K q kvs).P F A → ∃ o, A q = some o) ∧ ∀ F A, (ownT K q kvs).P F A → F q = none → Fd K (join F A) (.ref q) (.dT kvs) := ⟨fun F A ⟨vs, _, h⟩ => by subst h; exact ⟨_, one_same⟩, fun F A ⟨vs, f, h⟩ n => by subst h; exact .dT (by rw [join_r n]; exact one_same) (f.mono fun x o h => join_l h)⟩
theorem frz_I {K : PySem.W.Frag} {q C : Addr} {fs : List (Str × D)} : (∀ F A, (ownI K q C fs).P F A → ∃ o, A q = some o) ∧ ∀ F A, (ownI K q C fs).P F A → F q = none → Fd K (join F A) (.ref q) (.ins C fs) := ⟨fun F A ⟨vs, dx, _, _, h⟩ => by subst h; exact ⟨_, join_l one_same⟩, fun F A ⟨vs, dx, _, f, h⟩ n => by subst h; exact .ins (by rw [join_r n]; exact join_l one_same) (f.mono fun x o h => join_l h)⟩
/-- what a slot owns is frozen -/
theorem Blk.frzR {q : Addr} {r : Res} {dn : D} {i : Nat} (hi : nth g i = some (.adr q)) (h1 : ∀ F A, r.P F A → ∃ o, A q = some o) (h2 : ∀ F A, r.P F A → F q = none → Fd X.K (join F A) (.ref q) dn) (k : Blk X W sts (g.set i (some dn)) l Φ) : Blk X W sts g (r :: l) Φ := fun en T σ H D s m => by
  obtain ⟨F, M, a⟩ := s
  obtain ⟨v, hv, fv⟩ := a.sl.nth hi
  cases fv
  obtain ⟨F', M', a', f1, _⟩ := a.frz (P := fun F' => Fd X.K F' (.ref q) dn) fun A hA => by
    obtain ⟨A0, B0, hM, dj, hA0, _⟩ := id a.rs
    obtain ⟨o, ho⟩ := h1 F A0 hA0
    exact h2 F A hA (a.dj.sym q o (by rw [hM]; exact join_l ho))
  refine k en T σ H D ⟨F', M', a'.slots ?_⟩ m
  have w := a'.sl.set i f1
  rw [set_same hv] at w
  exact w
section
variable {β : Type} {Om : β → Po} {mo : β}
theorem bo_frzSub {C p q : Addr} {fs fs' : List (Str × D)} {f : Str} {r : Res} {dn : D} {kr ki : Nat} (hf : (∀ F A, r.P F A → ∃ o, A q = some o) ∧ ∀ F A, r.P F A → F q = none → Fd X.K (join F A) (.ref q) dn) (hr : l[kr]? = some r) (hI : (l.eraseIdx kr)[ki]? = some (ownI X.K p C fs)) (hl : fs.lookup f = some (.adr q)) (hp : putD f dn fs = fs') (k : Bo X W sts g (ownI X.K p C fs' :: (l.eraseIdx kr).eraseIdx ki) Om mo) : Bo X W sts g l Om mo :=
  Blk.perm ((perm_at hr).trans ((perm_at hI).cons r)) (Blk.frzSub hf.1 hf.2 hl (by rw [hp]; exact k))
theorem bo_frzR {q : Addr} {r : Res} {dn : D} {i kr : Nat} (hi : nth g i = some (.adr q)) (hf : (∀ F A, r.P F A → ∃ o, A q = some o) ∧ ∀ F A, r.P F A → F q = none → Fd X.K (join F A) (.ref q) dn) (hr : l[kr]? = some r) (k : Bo X W sts (g.set i (some dn)) (l.eraseIdx kr) Om mo) : Bo X W sts g l Om mo :=
  Blk.perm (perm_at hr) (Blk.frzR hi hf.1 hf.2 k)
end
end
end Sx
set_option Elab.async false
set_option linter.all false
set_option maxRecDepth 100000
set_option maxHeartbeats 4000000
/-! Walks over owned lists and dicts; sorting; pop. -/
namespace Sx
open PySem L2 PyProof.Rows
section
variable {X : Cx} {W : WX} {g g' : Gm} {l l' lk : List Res} {Φ : Po} {e e2 a b c o : Expr} {es : List Expr} {d d1 d2 : D} {pos p p2 apos : Pos} {rest sts : List Stmt}
/-! ### owned lists -/
theorem jg_own {K : PySem.W.Frag} {F : Hp} {q : Addr} {ds : List D} : JG K [ownL K q ds] F (Itl K q) ds := fun F' M' H e1 e2 eM rs => by
  obtain ⟨vs, f, hq⟩ := rs.own (k := 0) rfl eM
  have s2 : SqL K H q vs := SqL.of hq
  refine ⟨fun i hi => ?_, ⟨vs, s2, by rw [f.length]; exact Nat.le_refl _⟩, fun i d x H' hd hy => ?_⟩
  · have z : i < vs.length := by rw [f.length]; exact hi
    exact ⟨vs, vs[i], s2, List.getElem?_eq_getElem z⟩
  · obtain ⟨rfl, h⟩ := hy
    obtain ⟨v, h1, h2⟩ := f.get hd
    have e := h vs s2
    rw [h1] at e
    cases e
    exact ⟨F', .rf e2, h2⟩
theorem it_own {tg : Expr} {ds : List D} {q : Addr} {k : Nat} (h : Px X e g l (.adr q)) (hk : l[k]? = some (ownL X.K q ds)) : ItwP X tg e g l [ownL X.K q ds] ds := ⟨_, pi_list pe_wp, fun en T σ H R s kk => h en T σ H _ s fun v H1 s1 => by
  obtain ⟨F, M, a⟩ := s1
  obtain ⟨f, t⟩ := a.tm
  cases f
  obtain ⟨vs, f, hq⟩ := a.rs.own hk a.exM
  exact ⟨_, rfl, ⟨_, SqL.of hq⟩, kk _ H1 F M (a.tmp t) jg_own⟩⟩
/-- enumerate, zip of lists, owned or not -/
inductive Lz (K : PySem.W.Frag) : List Res → D → List D → Prop
  | f {ds : List D} : Lz K [] (.lst ds) ds
  | o {q : Addr} {ds : List D} : Lz K [ownL K q ds] (.adr q) ds
theorem Lz.get {K : PySem.W.Frag} {F M H : Hp} {lk : List Res} {d : D} {ds : List D} {v : V} (z : Lz K lk d ds) (f : Fd K F v d) (eF : Ex F H) (eM : Ex M H) (rs : Rs lk F M) : ∃ a vs, v = .ref a ∧ SqL K H a vs ∧ FdAll K F vs ds := by
  cases z with
  | f => cases f with | lst s a => exact ⟨_, _, rfl, SqL.of (eF _ _ s), a⟩
  | o =>
    cases f
    obtain ⟨vs, f, hq⟩ := rs.own (k := 0) rfl eM
    exact ⟨_, vs, rfl, SqL.of hq, f⟩
theorem Lz.ref {K : PySem.W.Frag} {F : Hp} {lk : List Res} {d : D} {ds : List D} {v : V} (z : Lz K lk d ds) (f : Fd K F v d) : ∃ a, v = .ref a := by
  cases z with
  | f => cases f; exact ⟨_, rfl⟩
  | o => cases f; exact ⟨_, rfl⟩
theorem it_enumZ {lk : List Res} {elts : List Expr} {kk : Nat} {tpos pp : Pos} {ds : List D} (h : Px X e g l d1) (z : Lz X.K lk d1 ds) (hk : SubR l lk) (hm : X.mg "enumerate" = none) (hg : Gl X "enumerate" := by rfl) (hs : starEach [e] X.env = [(false, eval e X.env)] := by rfl) : True := trivial
theorem it_zipZ {lk1 lk2 : List Res} {elts : List Expr} {kk : Nat} {tpos pp : Pos} {ds es' : List D} (h : Px X e g l d1) (h' : Px X e2 g l d2) (z1 : Lz X.K lk1 d1 ds) (z2 : Lz X.K lk2 d2 es') (hk : SubR l (lk1 ++ lk2)) (hm : X.mg "zip" = none) (hg : Gl X "zip" := by rfl) (hs : starEach [e, e2] X.env = (false, eval e X.env) :: starEach [e2] X.env := by rfl) (hs2 : starEach [e2] X.env = [(false, eval e2 X.env)] := by rfl)
    (hpl : (backTo pp (starEach [e2] X.env)).any (·.1) = false := by rfl) : ItwP X (.Tuple elts kk tpos) (.Call (.Name "zip" p) [e, e2] [] pp) g l (lk1 ++ lk2) (zipD ds es') :=
  ⟨_, pi_zip hg hm (pa_wp (es := [e, e2])) hs hpl, fun en T σ H R s k => pa_c h (pa_c h' pa_n hs2) hs en T σ H _ s fun vs H1 s1 => by
  obtain ⟨F, M, q⟩ := s1
  obtain ⟨f, t⟩ := q.tm
  cases f with
  | @cons v _ _ _ a f =>
    cases f with
    | @cons w _ _ _ b f =>
      cases f
      obtain ⟨M0, r0, e0⟩ := Rs.sub hk q.rs q.exM
      obtain ⟨A, B, rfl, dj, rA, rB⟩ := Rs.split r0
      obtain ⟨x, xs, rfl, sx, fx⟩ := z1.get a q.exF e0.joinL rA
      obtain ⟨y, ys, rfl, sy, fy⟩ := z2.get b q.exF (e0.joinR dj) rB
      refine ⟨_, _, _, _, rfl, sx, sy, k _ H1 F M (q.tmp t) fun F' M' H e1 e2 eM' rM' => ?_⟩
      obtain ⟨A', B', rfl, dj', rA', rB'⟩ := Rs.split rM'
      obtain ⟨x', vs, ex, s2, fv⟩ := z1.get (a.mono e1) e2 eM'.joinL rA'
      cases ex
      obtain ⟨y', ws, ey, s3, fw⟩ := z2.get (b.mono e1) e2 (eM'.joinR dj') rB'
      cases ey
      refine ⟨fun i hi => ?_, ⟨vs, ws, s2, s3, by rw [zipD_len, fv.length, fw.length]; omega⟩, fun i d x H' hd hy => ?_⟩
      · rw [zipD_len] at hi
        have q : i < vs.length := by rw [fv.length]; omega
        have q' : i < ws.length := by rw [fw.length]; omega
        exact ⟨vs, ws, vs[i], ws[i], s2, s3, List.getElem?_eq_getElem q, List.getElem?_eq_getElem q'⟩
      · obtain ⟨T, y, z, rfl, hT, rfl, h, h'⟩ := hy
        obtain ⟨a', b', ha, hb, rfl⟩ := zipD_get hd
        obtain ⟨v, h1, h2⟩ := fv.get ha
        obtain ⟨v', h1', h2'⟩ := fw.get hb
        have e := Option.some.inj (h1.symm.trans (h vs s2))
        subst e
        have e := Option.some.inj (h1'.symm.trans (h' ws s3))
        subst e
        have n := New.upd (o := .tup [v, v']) e2 hT
        exact ⟨_, n, .tup (SqT.of upd_same) (.cons (h2.mono n.f) (.cons (h2'.mono n.f) .nil))⟩⟩
/-! ### dicts, locked -/
theorem New.tup {F H : Hp} {q : Addr} {xs : List V} (e : Ex F H) (h : H q = some (.tup xs)) : New F H (L2.upd F q (.tup xs)) H := ⟨fun x u z => by
    by_cases k : x = q
    · subst k
      have := e _ _ z
      rw [h] at this; cases this
      exact upd_same
    · rw [upd_ne k]; exact z, .rf, fun x u z => by
    by_cases k : x = q
    · subst k; rw [upd_same] at z; cases z; exact h
    · rw [upd_ne k] at z; exact e _ _ z, fun x u z => by
    by_cases k : x = q
    · subst k; rw [upd_same] at z; cases z; exact .inr (.inr ⟨_, rfl⟩)
    · rw [upd_ne k] at z; exact .inl z⟩
theorem FdFs.get {κ : Type} {K : PySem.W.Frag} {F : Hp} : ∀ {vs : List (κ × V)} {ds : List (κ × D)} {i : Nat} {k : κ} {v : V}, FdFs K F vs ds → vs[i]? = some (k, v) → ∃ d, ds[i]? = some (k, d) ∧ Fd K F v d
  | _, _, i, _, _, .nil, e => by simp at e
  | _, _, 0, _, _, .cons h _, e => by simp at e; obtain ⟨rfl, rfl⟩ := e; exact ⟨_, rfl, h⟩
  | _, _, i + 1, _, _, .cons _ t, e => by
    obtain ⟨d, h1, h2⟩ := FdFs.get (i := i) t (by simpa using e)
    exact ⟨d, by simpa using h1, h2⟩
theorem keysD {K : PySem.W.Frag} {F : Hp} : ∀ k : List Key, FdAll K F (k.map kV) (k.map kD)
  | [] => .nil
  | .inl i :: r => .cons (.int i) (keysD r)
  | .inr x :: r => .cons (.str x) (keysD r)
theorem jg_keysT {K : PySem.W.Frag} {F : Hp} {q : Addr} {od : Obj} {vs : List (List Key × V)} {kvs : List (List Key × D)} : JG K [ownTz K q od vs kvs] F (Itkt q od vs) (kvs.map fun kv => .tup (kv.1.map kD)) := fun F' M' H e1 e2 eM rs => by
  obtain ⟨f, hq⟩ := rs.ownTz (k := 0) rfl eM
  have hl : vs.length = kvs.length := f.length
  refine ⟨fun i hi => ⟨hq, by rw [List.length_map] at hi; rw [hl]; exact hi⟩, ⟨hq, by rw [List.length_map, hl]; exact Nat.le_refl _⟩, fun i d x H' hd hy => ?_⟩
  obtain ⟨rfl, k, v, q', h1, rfl, h3⟩ := hy
  obtain ⟨d0, h4, _⟩ := f.get h1
  rw [List.getElem?_map, h4] at hd
  cases hd
  exact ⟨_, New.tup e2 h3, .tup (SqT.of upd_same) (keysD k)⟩
theorem jg_keysD {K : PySem.W.Frag} {F : Hp} {q : Addr} {od : Obj} {vs : List (Key × V)} {kvs : List (Key × D)} : JG K [ownDz K q od vs kvs] F (Itk q od vs) (kvs.map fun kv => kD kv.1) := fun F' M' H e1 e2 eM rs => by
  obtain ⟨f, hq⟩ := rs.ownDz (k := 0) rfl eM
  have hl : vs.length = kvs.length := f.length
  refine ⟨fun i hi => ⟨hq, by rw [List.length_map] at hi; rw [hl]; exact hi⟩, ⟨hq, by rw [List.length_map, hl]; exact Nat.le_refl _⟩, fun i d x H' hd hy => ?_⟩
  obtain ⟨rfl, k, v, h1, rfl⟩ := hy
  obtain ⟨d0, h4, _⟩ := f.get h1
  rw [List.getElem?_map, h4] at hd
  cases hd
  refine ⟨F', .rf e2, ?_⟩
  cases k with
  | inl i => exact .int i
  | inr x => exact .str x
theorem it_keysT {tg : Expr} {q : Addr} {od : Obj} {vs : List (List Key × V)} {kvs : List (List Key × D)} {k : Nat} (h : Px X e g l (.adr q)) (hk : l[k]? = some (ownTz X.K q od vs kvs)) : ItwP X tg e g l [ownTz X.K q od vs kvs] (kvs.map fun kv => .tup (kv.1.map kD)) := ⟨_, pi_keys pe_wp, fun en T σ H R s kk => h en T σ H _ s fun v H1 s1 => by
  obtain ⟨F, M, a⟩ := s1
  obtain ⟨f, t⟩ := a.tm
  cases f
  obtain ⟨f, hq⟩ := a.rs.ownTz hk a.exM
  exact ⟨_, _, rfl, .inr ⟨vs, hq, kk _ H1 F M (a.tmp t) jg_keysT⟩⟩⟩
theorem it_keysD {tg : Expr} {q : Addr} {od : Obj} {vs : List (Key × V)} {kvs : List (Key × D)} {k : Nat} (h : Px X e g l (.adr q)) (hk : l[k]? = some (ownDz X.K q od vs kvs)) : ItwP X tg e g l [ownDz X.K q od vs kvs] (kvs.map fun kv => kD kv.1) := ⟨_, pi_keys pe_wp, fun en T σ H R s kk => h en T σ H _ s fun v H1 s1 => by
  obtain ⟨F, M, a⟩ := s1
  obtain ⟨f, t⟩ := a.tm
  cases f
  obtain ⟨f, hq⟩ := a.rs.ownDz hk a.exM
  exact ⟨_, _, rfl, .inl ⟨vs, hq, kk _ H1 F M (a.tmp t) jg_keysD⟩⟩⟩
theorem S.lockT {K : PySem.W.Frag} {en : En} {T : Tm} {σ : L2.St} {H : Hp} {n : Nat} {q : Addr} {kvs : List (List Key × D)} (s : S K en g T l σ H) (hk : l[n]? = some (ownT K q kvs)) : ∃ vs, H q = some (.dT vs) ∧ ∀ od, S K en g T (l.set n (ownTz K q od vs kvs)) σ (upd H q (.frz od (.dT vs))) := by
  obtain ⟨F, M, a⟩ := s
  obtain ⟨vs, f, hq⟩ := a.rs.ownT hk a.exM
  refine ⟨vs, hq, fun od => ?_⟩
  obtain ⟨M', b⟩ := a.putOne (r' := ownTz K q od vs kvs) (o' := .frz od (.dT vs)) hk (fun A ⟨_, _, e⟩ => ⟨_, e⟩) ⟨f, rfl⟩
  exact ⟨F, M', b⟩
theorem S.unlockT {K : PySem.W.Frag} {en : En} {T : Tm} {σ : L2.St} {H : Hp} {n : Nat} {q : Addr} {od : Obj} {vs : List (List Key × V)} {kvs : List (List Key × D)} (s : S K en g T l σ H) (hk : l[n]? = some (ownTz K q od vs kvs)) : H q = some (.frz od (.dT vs)) ∧ S K en g T (l.set n (ownT K q kvs)) σ (upd H q (.dT vs)) := by
  obtain ⟨F, M, a⟩ := s
  obtain ⟨f, hq⟩ := a.rs.ownTz hk a.exM
  refine ⟨hq, ?_⟩
  obtain ⟨M', b⟩ := a.putOne (r' := ownT K q kvs) (o' := .dT vs) hk (fun A ⟨_, e⟩ => ⟨_, e⟩) ⟨vs, f, rfl⟩
  exact ⟨F, M', b⟩
theorem S.lockD {K : PySem.W.Frag} {en : En} {T : Tm} {σ : L2.St} {H : Hp} {n : Nat} {q : Addr} {kvs : List (Key × D)} (s : S K en g T l σ H) (hk : l[n]? = some (ownD K q kvs)) : ∃ vs, H q = some (.dK vs) ∧ ∀ od, S K en g T (l.set n (ownDz K q od vs kvs)) σ (upd H q (.frz od (.dK vs))) := by
  obtain ⟨F, M, a⟩ := s
  obtain ⟨vs, f, hq⟩ := a.rs.ownD hk a.exM
  refine ⟨vs, hq, fun od => ?_⟩
  obtain ⟨M', b⟩ := a.putOne (r' := ownDz K q od vs kvs) (o' := .frz od (.dK vs)) hk (fun A ⟨_, _, e⟩ => ⟨_, e⟩) ⟨f, rfl⟩
  exact ⟨F, M', b⟩
theorem S.unlockD {K : PySem.W.Frag} {en : En} {T : Tm} {σ : L2.St} {H : Hp} {n : Nat} {q : Addr} {od : Obj} {vs : List (Key × V)} {kvs : List (Key × D)} (s : S K en g T l σ H) (hk : l[n]? = some (ownDz K q od vs kvs)) : H q = some (.frz od (.dK vs)) ∧ S K en g T (l.set n (ownD K q kvs)) σ (upd H q (.dK vs)) := by
  obtain ⟨F, M, a⟩ := s
  obtain ⟨f, hq⟩ := a.rs.ownDz hk a.exM
  refine ⟨hq, ?_⟩
  obtain ⟨M', b⟩ := a.putOne (r' := ownD K q kvs) (o' := .dK vs) hk (fun A ⟨_, e⟩ => ⟨_, e⟩) ⟨vs, f, rfl⟩
  exact ⟨F, M', b⟩
theorem set_back {l : List Res} {n : Nat} {r r' : Res} (h : l[n]? = some r) : (l.set n r').set n r = l := by
  rw [List.set_set]
  apply List.ext_getElem?
  intro i
  by_cases z : i = n
  · subst z
    obtain ⟨h1, h2⟩ := List.getElem?_eq_some_iff.mp h
    rw [List.getElem?_set_self h1, h]
  · rw [List.getElem?_set_ne (Ne.symm z)]
theorem set_at {l : List Res} {n : Nat} {r : Res} (h : l[n]? = some r) : l.set n r = l := by
  apply List.ext_getElem?
  intro i
  by_cases z : i = n
  · subst z
    obtain ⟨h1, h2⟩ := List.getElem?_eq_some_iff.mp h
    rw [List.getElem?_set_self h1, h]
  · rw [List.getElem?_set_ne (Ne.symm z)]
/-- an expression that gives a new list while a dict is walked over -/
theorem evl_lockT {n : Nat} {q : Addr} {kvs : List (List Key × D)} {ds : List D} (hk : l[n]? = some (ownT X.K q kvs)) (h : ∀ od vs, EvL X e g (l.set n (ownTz X.K q od vs kvs)) ds) : EvL X e g l ds := fun en T σ H Q s k => wpE_of (pe_lock pe_wp) (by
  obtain ⟨vs, hq, hl⟩ := s.lockT hk
  refine ⟨q, _, hq, trivial, fun od => ?_⟩
  refine h od vs en T σ _ _ (hl od) fun v d l' H' hp s' => ?_
  obtain ⟨p, rfl, rfl⟩ := hp
  have hlt : n < l.length := (List.getElem?_eq_some_iff.mp hk).1
  obtain ⟨h1, h2⟩ := s'.unlockT (n := n + 1) (q := q) (od := od) (vs := vs) (kvs := kvs) (by rw [List.getElem?_cons_succ, List.getElem?_set_self hlt])
  refine ⟨h1, k _ _ _ _ ⟨p, rfl, rfl⟩ ?_⟩
  rw [List.set_cons_succ, set_back hk] at h2
  exact h2)
theorem evl_lockD {n : Nat} {q : Addr} {kvs : List (Key × D)} {ds : List D} (hk : l[n]? = some (ownD X.K q kvs)) (h : ∀ od vs, EvL X e g (l.set n (ownDz X.K q od vs kvs)) ds) : EvL X e g l ds := fun en T σ H Q s k => wpE_of (pe_lock pe_wp) (by
  obtain ⟨vs, hq, hl⟩ := s.lockD hk
  refine ⟨q, _, hq, trivial, fun od => ?_⟩
  refine h od vs en T σ _ _ (hl od) fun v d l' H' hp s' => ?_
  obtain ⟨p, rfl, rfl⟩ := hp
  have hlt : n < l.length := (List.getElem?_eq_some_iff.mp hk).1
  obtain ⟨h1, h2⟩ := s'.unlockD (n := n + 1) (q := q) (od := od) (vs := vs) (kvs := kvs) (by rw [List.getElem?_cons_succ, List.getElem?_set_self hlt])
  refine ⟨h1, k _ _ _ _ ⟨p, rfl, rfl⟩ ?_⟩
  rw [List.set_cons_succ, set_back hk] at h2
  exact h2)
/-! ### sorting -/
/-- insertion sort -/
def ins {α : Type} (le : α → α → Bool) (x : α) : List α → List α
  | [] => [x]
  | y :: r => cond (le x y) (x :: y :: r) (y :: ins le x r)
def isort {α : Type} (le : α → α → Bool) : List α → List α
  | [] => []
  | x :: r => ins le x (isort le r)
section
variable {α : Type} {le : α → α → Bool}
theorem ins_perm (x : α) : ∀ r : List α, (ins le x r).Perm (x :: r)
  | [] => .refl _
  | y :: r => by
    show (cond (le x y) (x :: y :: r) (y :: ins le x r)).Perm _
    cases le x y with
    | true => exact .refl _
    | false => exact ((ins_perm x r).cons y).trans (.swap x y r)
theorem isort_perm : ∀ r : List α, (isort le r).Perm r
  | [] => .refl _
  | x :: r => (ins_perm x _).trans ((isort_perm r).cons x)
theorem ins_srt (tot : ∀ x y, le x y = false → le y x = true) (tr : ∀ x y z, le x y = true → le y z = true → le x z = true) (x : α) : ∀ r : List α, r.Pairwise (fun a b => le a b = true) → (ins le x r).Pairwise (fun a b => le a b = true)
  | [], _ => List.pairwise_singleton _ _
  | y :: r, h => by
    obtain ⟨h1, h2⟩ := List.pairwise_cons.mp h
    show (cond (le x y) (x :: y :: r) (y :: ins le x r)).Pairwise _
    cases q : le x y with
    | true => exact List.pairwise_cons.mpr ⟨fun z hz => by
        rcases List.mem_cons.mp hz with rfl | hz
        · exact q
        · exact tr _ _ _ q (h1 z hz), h⟩
    | false => exact List.pairwise_cons.mpr ⟨fun z hz => by
        rcases List.mem_cons.mp ((ins_perm x r).mem_iff.mp hz) with rfl | hz
        · exact tot _ _ q
        · exact h1 z hz, ins_srt tot tr x r h2⟩
theorem isort_srt (tot : ∀ x y, le x y = false → le y x = true) (tr : ∀ x y z, le x y = true → le y z = true → le x z = true) : ∀ r : List α, (isort le r).Pairwise (fun a b => le a b = true)
  | [] => .nil
  | x :: r => ins_srt tot tr x _ (isort_srt tot tr r)
theorem srt_uniq (anti : ∀ x y, le x y = true → le y x = true → x = y) : ∀ {l m : List α}, l.Perm m → l.Pairwise (fun a b => le a b = true) → m.Pairwise (fun a b => le a b = true) → l = m
  | [], m, p, _, _ => by rw [List.nil_perm.mp p]
  | x :: l, [], p, _, _ => by cases (List.perm_nil.mp p)
  | x :: l, y :: m, p, h1, h2 => by
    obtain ⟨a1, a2⟩ := List.pairwise_cons.mp h1
    obtain ⟨b1, b2⟩ := List.pairwise_cons.mp h2
    have e : x = y := by
      rcases List.mem_cons.mp (p.mem_iff.mp List.mem_cons_self) with z | z
      · exact z
      · rcases List.mem_cons.mp (p.mem_iff.mpr List.mem_cons_self) with w | w
        · exact w.symm
        · exact anti _ _ (a1 _ w) (b1 _ z)
    subst e
    rw [srt_uniq anti (List.Perm.cons_inv p) a2 b2]
theorem isort_uniq (tot : ∀ x y, le x y = false → le y x = true) (tr : ∀ x y z, le x y = true → le y z = true → le x z = true) (anti : ∀ x y, le x y = true → le y x = true → x = y) {l m : List α} (p : l.Perm m) (h : l.Pairwise (fun a b => le a b = true)) : l = isort le m := srt_uniq anti (p.trans (isort_perm m).symm) h (isort_srt tot tr m)
theorem ins_len (x : α) (r : List α) : (ins le x r).length = r.length + 1 := (ins_perm x r).length_eq
theorem isort_len (r : List α) : (isort le r).length = r.length := (isort_perm r).length_eq
theorem isort_mem {x : α} {r : List α} : x ∈ isort le r ↔ x ∈ r := (isort_perm r).mem_iff
end
abbrev sortI (ns : List Int) : List Int := isort (fun a b => decide (a ≤ b)) ns
theorem sortI_uniq {l m : List Int} (p : l.Perm m) (h : l.Pairwise (· ≤ ·)) : l = sortI m := isort_uniq (le := fun a b : Int => decide (a ≤ b)) (fun x y q => by have := of_decide_eq_false q; exact decide_eq_true (by omega)) (fun x y z h1 h2 => decide_eq_true (Int.le_trans (of_decide_eq_true h1) (of_decide_eq_true h2))) (fun x y h1 h2 => Int.le_antisymm (of_decide_eq_true h1) (of_decide_eq_true h2)) p (h.imp fun h => decide_eq_true h)
theorem sortI_srt (m : List Int) : (sortI m).Pairwise (· ≤ ·) := (isort_srt (le := fun a b : Int => decide (a ≤ b)) (fun x y q => by have := of_decide_eq_false q; exact decide_eq_true (by omega)) (fun x y z h1 h2 => decide_eq_true (Int.le_trans (of_decide_eq_true h1) (of_decide_eq_true h2))) m).imp fun h => of_decide_eq_true h
/-- keys of tuples of ints and texts -/
def kN : Key → Int ⊕ List Nat
  | .inl i => .inl i
  | .inr x => .inr x.cps.toList
abbrev Oi : KeyOrd := listOrd itemOrd
def bltK (a b : List Key) : Bool := Oi.blt (a.map kN) (b.map kN)
def leK {α : Type} (key : α → List Key) (x y : α) : Bool := !bltK (key y) (key x)
abbrev sortK {α : Type} (key : α → List Key) (xs : List α) : List α := isort (leK key) xs
theorem kN_inj : ∀ a b : Key, kN a = kN b → a = b
  | .inl i, .inl j, h => by cases h; rfl
  | .inl i, .inr y, h => by cases h
  | .inr x, .inl j, h => by cases h
  | .inr x, .inr y, h => by
    have : x.cps.toList = y.cps.toList := Sum.inr.inj h
    have e : x.cps = y.cps := Array.toList_inj.mp this
    cases x; cases y; cases e; rfl
theorem bltK_total {a b : List Key} (h1 : bltK a b = false) (h2 : bltK b a = false) : a = b := by
  have := Oi.total _ _ h1 h2
  exact (List.map_inj_right kN_inj).mp this
section
variable {α : Type} {key : α → List Key}
theorem leK_tot : ∀ x y : α, leK key x y = false → leK key y x = true := fun x y h => by
  have h : bltK (key y) (key x) = true := by unfold leK at h; simpa using h
  unfold leK
  cases q : bltK (key x) (key y) with
  | false => rfl
  | true =>
    have := Oi.trans _ _ _ h q
    rw [Oi.irrefl] at this; cases this
theorem leK_tr : ∀ x y z : α, leK key x y = true → leK key y z = true → leK key x z = true := fun x y z h1 h2 => by
  unfold leK at *
  have h1 : bltK (key y) (key x) = false := by simpa using h1
  have h2 : bltK (key z) (key y) = false := by simpa using h2
  cases q : bltK (key z) (key x) with
  | false => rfl
  | true =>
    rcases Oi.negTrans _ ((key y).map kN) _ q with w | w
    · have w : bltK (key z) (key y) = true := w
      rw [h2] at w; cases w
    · have w : bltK (key y) (key x) = true := w
      rw [h1] at w; cases w
theorem leK_anti (inj : ∀ x y, key x = key y → x = y) : ∀ x y : α, leK key x y = true → leK key y x = true → x = y := fun x y h1 h2 => by
  unfold leK at *
  exact inj _ _ (bltK_total (by simpa using h2) (by simpa using h1))
theorem sortK_srt (xs : List α) : (sortK key xs).Pairwise (fun a b => leK key a b = true) := isort_srt leK_tot leK_tr xs
theorem sortK_uniq (inj : ∀ x y, key x = key y → x = y) {l m : List α} (p : l.Perm m) (h : l.Pairwise (fun a b => leK key a b = true)) : l = sortK key m := isort_uniq leK_tot leK_tr (leK_anti inj) p h
end
/-- the kinds of a tuple's places -/
def shOk (sh : Nat → Bool) : Nat → List Key → Bool
  | _, [] => true
  | i, .inl _ :: r => !sh i && shOk sh (i + 1) r
  | i, .inr _ :: r => sh i && shOk sh (i + 1) r
theorem items_of {sh : Nat → Bool} : ∀ {i : Nat} {k : List Key} {us : List Value}, shOk sh i k = true → Vals (k.map kV) us → tupItems sh i us = some (k.map kN)
  | _, [], _, _, .nil => rfl
  | i, .inl n :: r, _, h, .cons q t => by
    obtain ⟨h1, h2⟩ := Bool.and_eq_true_iff.mp h
    obtain ⟨tk, rfl⟩ := q
    have h1 : sh i = false := by simpa using h1
    unfold tupItems
    rw [h1, items_of h2 t]
    rfl
  | i, .inr x :: r, _, h, .cons q t => by
    obtain ⟨h1, h2⟩ := Bool.and_eq_true_iff.mp h
    obtain ⟨tk, rfl⟩ := q
    unfold tupItems
    rw [h1, items_of h2 t]
    rfl
def rSortK (K : PySem.W.Frag) (sh : Nat → Bool) : List V → Hp → VK → Prop := fun vs H Q => ∃ (a : Addr) (zs : List (V × List Key)), vs = [V.ref a] ∧ SqL K H a (zs.map (·.1)) ∧ (∀ z ∈ zs, ∃ t, z.1 = V.ref t ∧ SqT K H t (z.2.map kV) ∧ shOk sh 0 z.2 = true ∧ z.2 ≠ []) ∧
  ∀ (zs' : List (V × List Key)) (p : Addr), zs'.Perm zs → zs'.Pairwise (fun x y => bltK y.2 x.2 = false) → H p = none → Q (.ref p) (upd H p (.lst (zs'.map (·.1))))
theorem perm_lift {α β : Type} {f : α → β} : ∀ {ys m : List β}, ys.Perm m → ∀ {zs : List α}, zs.map f = m → ∃ zs' : List α, zs'.Perm zs ∧ zs'.map f = ys := by
  intro ys m h
  induction h with
  | nil => intro zs e; exact ⟨[], by rw [List.map_eq_nil_iff.mp e], rfl⟩
  | cons x _ ih =>
    intro zs e
    cases zs with
    | nil => cases e
    | cons z zs =>
      rw [List.map_cons] at e
      obtain ⟨e1, e2⟩ := List.cons.inj e
      obtain ⟨zs', h1, h2⟩ := ih e2
      exact ⟨z :: zs', h1.cons z, by rw [List.map_cons, h2, e1]⟩
  | swap x y l =>
    intro zs e
    match zs, e with
    | z1 :: z2 :: zs, e =>
      rw [List.map_cons, List.map_cons] at e
      obtain ⟨e1, e⟩ := List.cons.inj e
      obtain ⟨e2, e3⟩ := List.cons.inj e
      exact ⟨z2 :: z1 :: zs, .swap _ _ _, by rw [List.map_cons, List.map_cons, e1, e2, e3]⟩
  | trans _ _ ih1 ih2 =>
    intro zs e
    obtain ⟨z2, h1, h2⟩ := ih2 e
    obtain ⟨z1, h3, h4⟩ := ih1 h2
    exact ⟨z1, h3.trans h1, h4⟩
section
variable {X : Cx}
theorem cr_sortK {sh : Nat → Bool} : CallR X (.builtin "sorted") (rSortK X.K sh) := by
  intro pins s σ H vs us Q I r h
  obtain ⟨a, zs, rfl, hs, hx, q⟩ := h
  obtain ⟨its, rv, hl, hz⟩ := I.list hs
  obtain ⟨u, rfl, ru⟩ := vals1 r
  obtain rfl : u = Value.ref a := ru
  obtain ⟨e1, e2⟩ := refs_back rv fun x m => by
    obtain ⟨z, hz, rfl⟩ := List.mem_map.mp m
    obtain ⟨t, e, _⟩ := hx z hz
    exact ⟨t, e⟩
  have keyz : ∀ z ∈ zs, ∃ t, z.1 = V.ref t ∧ G.tupKeyC s.heap sh (.ref t) = some (z.2.map kN) ∧ ∃ f, TupOf s.heap sh (.ref t) f := fun z hz => by
    obtain ⟨t, e, ht, hsh, hne⟩ := hx z hz
    obtain ⟨its2, r2, ⟨o, ho, hc, n, hd⟩, _⟩ := I.tuple ht
    refine ⟨t, e, G.tupKeyC_of ho hc hd (items_of hsh r2), ?_⟩
    obtain ⟨k0, kr, hk⟩ := List.exists_cons_of_ne_nil hne
    rw [hk] at r2 hsh
    cases r2 with
    | @cons _ u _ us qq tt =>
      refine ⟨u, t, o, _, n, rfl, ho, hc, hd, rfl, fun h0 => ?_, fun h0 => ?_⟩
      · cases k0 with
        | inl i => obtain ⟨tk, rfl⟩ := qq; exact ⟨i, tk, rfl⟩
        | inr x => have := (Bool.and_eq_true_iff.mp hsh).1; rw [h0] at this; cases this
      · cases k0 with
        | inl i => have := (Bool.and_eq_true_iff.mp hsh).1; rw [h0] at this; cases this
        | inr x => obtain ⟨tk, rfl⟩ := qq; exact ⟨x, tk, rfl⟩
  have key : ∀ v ∈ its, (∃ l, G.tupKeyC s.heap sh v = some l) ∧ ∃ f, TupOf s.heap sh v f := fun v hv => by
    obtain ⟨t, rfl⟩ := e2 v hv
    have hm : V.ref t ∈ zs.map (·.1) := by rw [e1]; exact List.mem_map.mpr ⟨_, hv, rfl⟩
    obtain ⟨z, hz, ez⟩ := List.mem_map.mp hm
    obtain ⟨t', e, h1, h2⟩ := keyz z hz
    rw [e] at ez
    cases ez
    exact ⟨⟨_, h1⟩, h2⟩
  obtain ⟨fs, hfs⟩ : ∃ fs, TupsOf s.heap sh its fs := by
    have : ∀ l : List Value, (∀ v ∈ l, ∃ f, TupOf s.heap sh v f) → ∃ fs, TupsOf s.heap sh l fs := by
      intro l
      induction l with
      | nil => exact fun _ => ⟨[], .nil⟩
      | cons v l ih =>
        intro h
        obtain ⟨f, hf⟩ := h v List.mem_cons_self
        obtain ⟨fs, hfs⟩ := ih fun x hx => h x (List.mem_cons_of_mem _ hx)
        exact ⟨f :: fs, .cons hf hfs⟩
    exact this its fun v hv => (key v hv).2
  refine G.sorted_tups hl.isList hfs (fun v hv => (key v hv).1) (by rw [← rv.length]; exact hz) fun st' h1 h2 _ => ?_
  have hp : (arrOf st').toList.Perm (its.zip its) := by
    have z := Array.perm_iff_toList_perm.mp h1
    rw [pairsOf_toList] at z
    exact z
  have hpm : ((arrOf st').map (·.2)).toList.Perm its := by
    rw [Array.toList_map]
    have z := hp.map (·.2)
    have e : (its.zip its).map (·.2) = its := by rw [List.map_snd_zip]; exact Nat.le_refl _
    rw [e] at z
    exact z
  have h3 : ∀ u ∈ ((arrOf st').map (·.2)).toList, ∃ a, u = Value.ref a := fun u hu => e2 u (hpm.mem_iff.mp hu)
  obtain ⟨n, hn⟩ := sortedAll_at s.heap its ((arrOf st').map (·.2))
  have hpx : (((arrOf st').map (·.2)).toList.map backV).Perm (zs.map (·.1)) := by rw [e1]; exact hpm.map backV
  obtain ⟨zs', hz1, hz2⟩ := perm_lift hpx rfl
  refine ⟨.ref _, upd H (s.heap.objs.size + 1) (.lst (((arrOf st').map (·.2)).toList.map backV)), I.laid (t' := s.toks) (fun _ _ => sortedAll_old) (Nat.le_succ _) ⟨?_, ((arrOf st').map (·.2)).toList, n, vals_back h3, hn⟩, rfl, ?_⟩
  · rw [hpx.length_eq]; exact hz
  · rw [← hz2]
    refine q _ _ hz1 ?_ (I.hok.fresh (Nat.le_succ _))
    rw [List.pairwise_iff_getElem]
    intro i j hi hj hij
    have hsz : (arrOf st').toList.length = (pairsOf its).size := by rw [pairsOf_size, hp.length_eq, List.length_zip]; omega
    have hlz : zs'.length = (arrOf st').toList.length := by
      have := congrArg List.length hz2
      rw [List.length_map, List.length_map, Array.toList_map, List.length_map] at this
      exact this
    have z := h2 i j (Nat.le_of_lt hij) (by rw [← hsz, ← hlz]; exact hj)
    have fst : ∀ (i : Nat) (hi : i < (arrOf st').toList.length), (arrOf st').toList[i].1 = (arrOf st').toList[i].2 ∧ (arrOf st').toList[i].1 ∈ its := fun i hi => mem_zip_self (hp.mem_iff.mp (List.getElem_mem hi))
    have kk_at : ∀ (i : Nat) (hi : i < zs'.length), KK (G.tupKindC s.heap sh) (arrOf st') i = zs'[i].2.map kN := fun i hi => by
      have hi' : i < (arrOf st').toList.length := by rw [← hlz]; exact hi
      unfold KK
      rw [← Array.getElem?_toList, List.getElem?_eq_getElem hi']
      show (G.tupKeyC s.heap sh (arrOf st').toList[i].1).getD _ = _
      obtain ⟨t, e, h4, _⟩ := keyz zs'[i] (hz1.mem_iff.mp (List.getElem_mem hi))
      have e5 : zs'[i].1 = backV (arrOf st').toList[i].2 := by
        have h5 := congrArg (fun l => l[i]?) hz2
        rw [List.getElem?_map, List.getElem?_map, List.getElem?_eq_getElem hi, Array.toList_map, List.getElem?_map, List.getElem?_eq_getElem hi'] at h5
        exact Option.some.inj h5
      obtain ⟨t2, e6⟩ := e2 _ (fst i hi').2
      rw [(fst i hi').1] at e6
      rw [e6, e] at e5
      cases e5
      rw [(fst i hi').1, e6, h4]
      rfl
    rw [kk_at i hi, kk_at j hj] at z
    exact z
end
/-! sorted(..) of tuples of ints and texts, of ints: a new list -/
theorem fd_tupK {K : PySem.W.Frag} {F : Hp} {v : V} {k : List Key} (f : Fd K F v (.tup (k.map kD))) : ∃ t, v = .ref t ∧ SqT K F t (k.map kV) := by
  cases f with
  | tup s a => rw [a.keys] at s; exact ⟨_, rfl, s⟩
theorem zip_fd {K : PySem.W.Frag} {F : Hp} {α : Type} {enc : α → D} {key : α → List Key} (he : ∀ x, enc x = .tup ((key x).map kD)) : ∀ {vs : List V} {xs : List α}, FdAll K F vs (xs.map enc) → ∃ zs : List (V × α), zs.map (·.1) = vs ∧ zs.map (·.2) = xs ∧ ∀ z ∈ zs, Fd K F z.1 (enc z.2)
  | _, [], .nil => ⟨[], rfl, rfl, fun z h => nomatch h⟩
  | _, x :: xs, .cons (v := v) a b => by
    obtain ⟨zs, h1, h2, h3⟩ := zip_fd he b
    refine ⟨(v, x) :: zs, by rw [List.map_cons, h1], by rw [List.map_cons, h2], fun z hz => ?_⟩
    rcases List.mem_cons.mp hz with rfl | hz
    · exact a
    · exact h3 z hz
theorem fd_zip {K : PySem.W.Frag} {F : Hp} {α : Type} {enc : α → D} : ∀ {zs : List (V × α)}, (∀ z ∈ zs, Fd K F z.1 (enc z.2)) → FdAll K F (zs.map (·.1)) ((zs.map (·.2)).map enc)
  | [], _ => .nil
  | z :: zs, h => .cons (h z List.mem_cons_self) (fd_zip fun y hy => h y (List.mem_cons_of_mem _ hy))
theorem ev_sortT {α : Type} {enc : α → D} {key : α → List Key} {xs : List α} (sh : Nat → Bool) (he : ∀ x, enc x = .tup ((key x).map kD)) (inj : ∀ x y, key x = key y → x = y) (hsh : ∀ x, shOk sh 0 (key x) = true) (hne : ∀ x, key x ≠ []) {e1 : Expr} (ha : Px X e1 g l d) (hd : Lq X.K l d (xs.map enc)) (hm : X.mg "sorted" = none)
    (hg : Gl X "sorted" := by rfl) (hs : starEach [e1] X.env = (false, eval e1 X.env) :: starEach [] X.env := by rfl) : EvL X (.Call (.Name "sorted" p) [e1] [] pos) g l ((sortK key xs).map enc) :=
  ev_new (pe_callB (cr_sortK (sh := sh)) hg hm (by decide +kernel) (pa_wp (es := [e1])) (by decide) (by decide) hs rfl) fun en T σ H Q s k => by
  refine pa_c ha pa_n hs en T σ H _ s fun vs H1 s1 => ?_
  obtain ⟨F, M, q⟩ := s1
  obtain ⟨f, t⟩ := q.tm
  cases f with
  | cons f1 f2 =>
    cases f2
    obtain ⟨a, ws, rfl, sq, f⟩ := hd.get q.exF q.exM q.rs f1
    obtain ⟨zs, h1, h2, h3⟩ := zip_fd he f
    refine ⟨a, zs.map fun z => (z.1, key z.2), rfl, ?_, fun z hz => ?_, fun zs' p hp hs' hn => ?_⟩
    · rw [List.map_map]
      have e : (zs.map ((fun z : V × List Key => z.1) ∘ fun z : V × α => (z.1, key z.2))) = ws := h1
      rw [e]; exact sq
    · obtain ⟨y, hy, rfl⟩ := List.mem_map.mp hz
      have fy := h3 y hy
      rw [he] at fy
      obtain ⟨t, e, sq⟩ := fd_tupK fy
      exact ⟨t, e, ex_t q.exF sq, hsh _, hne _⟩
    · obtain ⟨ys, hy1, hy2⟩ := perm_lift hp rfl
      subst hy2
      have e1 : (ys.map (·.2)) = sortK key xs := by
        refine sortK_uniq inj (by rw [← h2]; exact hy1.map _) ?_
        rw [List.pairwise_map] at hs' ⊢
        exact hs'.imp fun h => by unfold leK; rw [h]; rfl
      have e2 : (List.map (fun x : V × List Key => x.1) (ys.map fun z : V × α => (z.1, key z.2))) = ys.map (·.1) := by rw [List.map_map]; rfl
      have z := k p (ys.map (·.1)) H1 F M (q.tmp t) (by rw [← e1]; exact fd_zip fun z hz => h3 z (hy1.mem_iff.mp hz)) hn
      rw [e2]; exact z
theorem px_sortT {α : Type} {enc : α → D} {key : α → List Key} {xs : List α} (sh : Nat → Bool) (he : ∀ x, enc x = .tup ((key x).map kD)) (inj : ∀ x y, key x = key y → x = y) (hsh : ∀ x, shOk sh 0 (key x) = true) (hne : ∀ x, key x ≠ []) {e1 : Expr} (ha : Px X e1 g l d) (hd : Lq X.K l d (xs.map enc)) (hm : X.mg "sorted" = none)
    (hg : Gl X "sorted" := by rfl) (hs : starEach [e1] X.env = (false, eval e1 X.env) :: starEach [] X.env := by rfl) : Px X (.Call (.Name "sorted" p) [e1] [] pos) g l (.lst ((sortK key xs).map enc)) := (ev_sortT sh he inj hsh hne ha hd hm hg hs).frz
theorem ev_sortI {ns : List Int} {e1 : Expr} (ha : Px X e1 g l d) (hd : Lq X.K l d (ns.map D.int)) (hm : X.mg "sorted" = none)
    (hg : Gl X "sorted" := by rfl) (hs : starEach [e1] X.env = (false, eval e1 X.env) :: starEach [] X.env := by rfl) : EvL X (.Call (.Name "sorted" p) [e1] [] pos) g l ((sortI ns).map D.int) :=
  ev_new (pe_callB cr_sortedI hg hm (by decide +kernel) (pa_wp (es := [e1])) (by decide) (by decide) hs rfl) fun en T σ H Q s k => by
  refine pa_c ha pa_n hs en T σ H _ s fun vs H1 s1 => ?_
  obtain ⟨F, M, q⟩ := s1
  obtain ⟨f, t⟩ := q.tm
  cases f with
  | cons f1 f2 =>
    cases f2
    obtain ⟨a, ws, rfl, sq, f⟩ := hd.get q.exF q.exM q.rs f1
    have ew := f.ints
    subst ew
    refine ⟨a, ns, rfl, sq, fun ns' p hp hs' hn => ?_⟩
    rw [sortI_uniq hp hs']
    exact k p _ H1 F M (q.tmp t) (FdAll.ofInts _) hn
theorem px_sortI {ns : List Int} {e1 : Expr} (ha : Px X e1 g l d) (hd : Lq X.K l d (ns.map D.int)) (hm : X.mg "sorted" = none)
    (hg : Gl X "sorted" := by rfl) (hs : starEach [e1] X.env = (false, eval e1 X.env) :: starEach [] X.env := by rfl) : Px X (.Call (.Name "sorted" p) [e1] [] pos) g l (.lst ((sortI ns).map D.int)) := (ev_sortI ha hd hm hg hs).frz
/-! ### pop -/
theorem FdFs.delK {κ : Type} [DecidableEq κ] {K : PySem.W.Frag} {F : Hp} {k : κ} : ∀ {vs : List (κ × V)} {ds : List (κ × D)}, FdFs K F vs ds → FdFs K F (L2.dropK vs k) (ds.filter fun kv => decide (kv.1 ≠ k))
  | _, _, .nil => .nil
  | _, _, .cons (n := n) (vs := vs) (ds := ds) a b => by
    unfold L2.dropK
    rw [List.filter_cons, List.filter_cons]
    by_cases e : n = k
    · rw [if_neg (by simp [e]), if_neg (by simp [e])]; exact FdFs.delK b
    · rw [if_pos (by simp [e]), if_pos (by simp [e])]; exact .cons a (FdFs.delK b)
theorem FdFs.noval {κ : Type} [DecidableEq κ] {K : PySem.W.Frag} {F : Hp} {k : κ} : ∀ {vs : List (κ × V)} {ds : List (κ × D)}, FdFs K F vs ds → L2.valV vs k = none → (ds.filter fun kv => decide (kv.1 ≠ k)) = ds
  | _, _, .nil, _ => rfl
  | _, _, .cons (n := n) (vs := vs) (ds := ds) a b, h => by
    by_cases e : n = k
    · rw [valV_pos e] at h; cases h
    · rw [valV_neg e] at h
      rw [List.filter_cons, if_pos (by simp [e]), FdFs.noval b h]
/-- d.pop((..), None), d owned -/
theorem bo_tpop {κ β S1 : Type} [DecidableEq κ] {Om : S1 → Po} {kk : List (κ × β) → S1} {kf : κ → List Key} {m : List (κ × β)} {k : κ} {n : Nat} {q : Addr} {cpos tp : Pos} {x1 : Nat} {e3 : Expr} (inj : ∀ a b, kf a = kf b → a = b) (enc : β → D) (hu : X.A.units + 64 < cLine) (ho : Px X o g l (.adr q)) (hi : Pa X es g l ((kf k).map kD)) (hkz : (kf k).length ≤ sizeLine) (he : Px X e3 g l .non) (hl : l[n]? = some (ownT X.K q (dE kf enc m)))
    (h : ∀ m2, m2 = adel m k → Bo X W rest g (l.set n (ownT X.K q (dE kf enc m2))) Om (kk m2)) (hp : PS X (.Expr (.Call (.Attribute o "pop" apos) [.Tuple es x1 tp, e3] [] cpos) pos) (tDrop (tBM X.K "dict" L2.DX.rPopT (wpE X o) (tCons (tTup (wpA X es)) (tCons (wpE X e3) tNil)))) := by exact ps_expr (pe_bm PySem.F.plainAttrs_dict PySem.F.slot_dict_pop PySem.F.type_dict_pop (L2.DX.mt_popT (Px.units (by assumption))) pe_wp (pa_cons (pe_tup pa_wp) (pa_cons pe_wp pa_nil)))) :
    Bo X W (.Expr (.Call (.Attribute o "pop" apos) [.Tuple es x1 tp, e3] [] cpos) pos :: rest) g l Om (lt (adel m k) kk) := fun en T σ H D s mt => wpS_of (pss_cons hp pss_wp) (by
  refine ho en T σ H _ s fun v H1 s1 => ?_
  obtain ⟨F1, M1, q1⟩ := id s1
  have fv := q1.tm.1
  cases fv
  obtain ⟨vs1, _, hp1⟩ := q1.rs.ownT hl q1.exM
  refine ⟨.inr (.inr (.inl ⟨rfl, .inr ⟨_, hp1⟩⟩)), ?_⟩
  refine hi en _ σ H1 _ s1 fun us H2 s2 => ?_
  obtain ⟨F, M, q2⟩ := s2
  have ek := q2.tm.1.keys
  subst ek
  refine ⟨by rw [List.length_map]; exact hkz, fun p hpn => ?_⟩
  have nw := New.upd (o := .tup ((kf k).map kV)) q2.exF hpn
  have q3 := q2.new nw
  refine he en ((T.and X.K (.ref q) (.adr q)).ex (L2.upd F p (.tup ((kf k).map kV)))) σ _ _ ⟨_, M, q3.tmp ⟨.rf, T.mono nw.f q2.tm.2.2 |> fun z => ⟨.adr q, z⟩⟩⟩ fun z H3 s3 => ?_
  obtain ⟨F3, M3, q4⟩ := s3
  have fz := q4.tm.1
  cases fz
  obtain ⟨vs, fv, hq⟩ := q4.rs.ownT hl q4.exM
  have hkt : H3 p = some (.tup ((kf k).map kV)) := q4.exF _ _ (q4.tm.2.1 _ _ upd_same)
  have ed : (dE kf enc m).filter (fun kv => decide (kv.1 ≠ kf k)) = dE kf enc (adel m k) := by
    show (m.map _).filter _ = (m.filter _).map _
    rw [List.filter_map]
    congr 1
    apply List.filter_congr
    intro kv _
    show decide (kf kv.1 ≠ kf k) = decide (kv.1 ≠ k)
    by_cases e : kv.1 = k
    · rw [e]; simp
    · have : kf kv.1 ≠ kf k := fun z => e (inj _ _ z)
      simp [e, this]
  have q5 := q4.tmp (T' := T) q4.tm.2.2.2
  unfold L2.DX.rPopT
  refine ⟨q, vs, kf k, p, .non, rfl, rfl, hq, hkt, fun v hv => ?_, fun hv => ?_⟩
  · obtain ⟨M', q6⟩ := q5.putOne (r' := ownT X.K q (dE kf enc (adel m k))) (o' := .dT (L2.dropK vs (kf k))) hl (fun A ⟨_, _, e⟩ => ⟨_, e⟩) ⟨_, by rw [← ed]; exact fv.delK, rfl⟩
    exact h _ rfl en T σ _ D ⟨F3, M', q6⟩ mt
  · have z := h _ rfl en T σ H3 D ?_ mt
    · exact z
    · rw [← ed, fv.noval hv, set_at hl]
      exact ⟨F3, M3, q5⟩)
end
end Sx
set_option Elab.async false
set_option linter.all false
set_option maxRecDepth 100000
set_option maxHeartbeats 4000000
/-! More rules for the walker. -/
namespace Sx
open PySem L2 PyProof.Rows
section
variable {K : PySem.W.Frag} {l : List Res} {k : Nat} {p : Addr}
theorem flat_str {xs : List Str} : (xs.map D.str).all D.flat = true := by rw [List.all_map]; exact List.all_eq_true.mpr fun _ _ => rfl
theorem flat_int {xs : List Int} : (xs.map D.int).all D.flat = true := by rw [List.all_map]; exact List.all_eq_true.mpr fun _ _ => rfl
theorem o_inSO {x : Str} {xs : List Str} (hk : l[k]? = some (ownL K p (xs.map D.str))) : Op2 K l (rIn K false) (.str x) (.adr p) (.bl (decide (x ∈ xs))) := by
  have h := o_inO (neg := false) (d := .str x) hk rfl flat_str
  have e : (if false = true then !inV (D.str x).vv ((xs.map D.str).map D.vv) else inV (D.str x).vv ((xs.map D.str).map D.vv)) = decide (x ∈ xs) := by
    rw [List.map_map]; exact inV_str
  rw [e] at h; exact h
theorem o_ninSO {x : Str} {xs : List Str} (hk : l[k]? = some (ownL K p (xs.map D.str))) : Op2 K l (rIn K true) (.str x) (.adr p) (.bl (!decide (x ∈ xs))) := by
  have h := o_inO (neg := true) (d := .str x) hk rfl flat_str
  have e : (if true = true then !inV (D.str x).vv ((xs.map D.str).map D.vv) else inV (D.str x).vv ((xs.map D.str).map D.vv)) = !decide (x ∈ xs) := by
    rw [List.map_map]; exact congrArg (!·) inV_str
  rw [e] at h; exact h
end
/-! tuple keys asked: (..) in d -/
section
variable {X : Cx} {W : WX} {g : Gm} {l : List Res} {e o : Expr} {d1 : D} {pos : Pos} {κ β : Type} [DecidableEq κ] {kf : κ → Key}
/-- a walk's list, while a dict is locked -/
theorem itP_to {lk : List Res} {tg iter : Expr} {ds ds' : List D} (h : ItwP X tg iter g l lk ds) (q : ds = ds') : ItwP X tg iter g l lk ds' := q ▸ h
theorem keysT_map {κ β α : Type} {kf : κ → List Key} {enc : β → D} {e : κ → D} {m : List (κ × β)} (he : ∀ k, e k = .tup ((kf k).map kD)) : ((dE kf enc m).map fun kv => D.tup (kv.1.map kD)) = (m.map (·.1)).map e := by
  rw [List.map_map, List.map_map]
  exact List.map_congr_left fun kv _ => (he kv.1).symm
theorem keysD_map {κ β : Type} {kf : κ → Key} {enc : β → D} {e : κ → D} {m : List (κ × β)} (he : ∀ k, e k = kD (kf k)) : ((dE kf enc m).map fun kv => kD kv.1) = (m.map (·.1)).map e := by
  rw [List.map_map, List.map_map]
  exact List.map_congr_left fun kv _ => (he kv.1).symm
end
section
variable {X : Cx} {g : Gm} {l : List Res} {e : Expr} {pos p : Pos}
theorem px_isOpt {α : Type} {enc : α → D} {o : Option α} (n t : String) (b : Bool) {x : Str} {p2 : Pos} (z : X.mg "isinstance" = none) (zx : X.mg x = none) (h : Px X e g l (optE enc o)) (ht : ∀ x, (enc x).tyv = some t := by intro _; rfl) (hk : kitB t n = some b := by decide +kernel) (hn0 : kitB "NoneType" n = some false := by decide +kernel) (hv : bootBuiltins x = some (.type n) := by decide +kernel)
    (hg : Gl X "isinstance" := by rfl) (hgx : Gl X x := by rfl) (hn : x ≠ "__name__" := by decide) (hd : (x == ("__debug__" : Str)) = false := by decide)
    (hs : starEach [e, .Name x p2] X.env = (false, eval e X.env) :: starEach [.Name x p2] X.env := by rfl) (hs2 : starEach [.Name x p2] X.env = [(false, eval (.Name x p2) X.env)] := by rfl) (hpl : (backTo pos (starEach [.Name x p2] X.env)).any (·.1) = false := by rfl) :
    Px X (.Call (.Name "isinstance" p) [e, .Name x p2] [] pos) g l (.bl (o.isSome && b)) := by
  cases o with
  | none => exact px_isT n "NoneType" false z zx h rfl hn0 hv hg hgx hn hd hs hs2 hpl
  | some y => exact px_isT n t b z zx h (ht y) hk hv hg hgx hn hd hs hs2 hpl
end
theorem xr_ex {β ε : Type} {K : PySem.W.Frag} {own : List Res} {RT : β → Re} {xc : ε → Xd} {r : Except ε β} {cls : Value} {dd : Option Addr} {g g' : Gm} {l : List Res} (hR : ∀ v c d g l, (RT v).ex c d g l → False) (h : (XR K own RT xc r).ex cls dd g l) : (XR K own RT xc r).ex cls dd g' l := by
  cases r with
  | ok v => exact (hR v _ _ _ _ h).elim
  | error e => exact h
/-- nothing owned is changed: an expression like any other -/
theorem ev_still {X : Cx} {g : Gm} {l own0 : List Res} {e : Expr} {d : D} {Psi : D → List Res → Prop} (h : Ev X e g l Psi) (hp : ∀ d' l', Psi d' l' → d' = d ∧ l' = own0) (q : l.Perm own0) : Px X e g l d := fun en T σ H Q s k => h en T σ H Q s fun v d' l' H' z s' => by
  obtain ⟨h1, h2⟩ := hp d' l' z
  subst h1; subst h2
  exact k v H' (s'.perm q.symm)
/-- what holds all along a while holds at its end -/
theorem whileF_inv {Ss : Type} {c : Ss → Bool} {step : Ss → Ss} (J : Nat → Ss → Prop) (hs : ∀ n s, J n s → c s = true → ∃ n', n = n' + 1 ∧ J n' (step s)) : ∀ n s, J n s → ∃ m, J m (whileF c step n s) ∧ c (whileF c step n s) = false := by
  intro n
  induction n with
  | zero =>
    intro s h
    cases q : c s with
    | true => obtain ⟨n', e, _⟩ := hs 0 s h q; cases e
    | false => exact ⟨0, h, q⟩
  | succ n ih =>
    intro s h
    show ∃ m, J m (cond (c s) (whileF c step n (step s)) s) ∧ c (cond (c s) (whileF c step n (step s)) s) = false
    cases q : c s with
    | true =>
      obtain ⟨n', e, h2⟩ := hs _ s h q
      cases e
      exact ih _ h2
    | false => exact ⟨n + 1, h, q⟩
end Sx
set_option Elab.async false
set_option linter.all false
set_option maxRecDepth 100000
set_option maxHeartbeats 2000000
/-! Owned dicts of owned lists. -/
namespace Sx
open PySem L2
/-- a dict and its lists, written out -/
abbrev dlRs (K : PySem.W.Frag) (p : Addr) (ts : List (Key × Addr × List D)) : List Res := ownD K p (ts.map fun t => (t.1, D.adr t.2.1)) :: ts.map fun t => ownL K t.2.1 t.2.2
abbrev dlK (ts : List (Key × Addr × List D)) : List (Key × List D) := ts.map fun t => (t.1, t.2.2)
def ownDL (K : PySem.W.Frag) (p : Addr) (kvs : List (Key × List D)) : Res := ⟨fun F M => ∃ ts, dlK ts = kvs ∧ Rs (dlRs K p ts) F M, fun e ⟨ts, h, r⟩ => ⟨ts, h, Rs.mono e r⟩, fun ⟨_, _, r⟩ => Rs.nt r⟩
section
variable {X : Cx} {W : WX} {g : Gm} {l : List Res} {Φ : Po} {sts rest : List Stmt} {p q : Addr} {o e x : Expr} {d : D} {pos p2 : Pos}
theorem Blk.unDL {kvs : List (Key × List D)} (h : ∀ ts, dlK ts = kvs → Blk X W sts g (dlRs X.K p ts ++ l) Φ) : Blk X W sts g (ownDL X.K p kvs :: l) Φ := fun en T σ H D s m => by
  obtain ⟨F, M, a⟩ := s
  obtain ⟨A, B, e, dj, ⟨ts, h1, r⟩, r2⟩ := a.rs
  exact h ts h1 en T σ H D ⟨F, M, a.exF, a.exM, a.dj, a.eF, a.nF, a.nM, a.fr, a.sl, a.tm, by rw [e]; exact Rs.app r r2 dj⟩ m
theorem Blk.toDL {ts : List (Key × Addr × List D)} (h : Blk X W sts g (ownDL X.K p (dlK ts) :: l) Φ) : Blk X W sts g (dlRs X.K p ts ++ l) Φ := fun en T σ H D s m => by
  obtain ⟨F, M, a⟩ := s
  obtain ⟨A, B, e, dj, r, r2⟩ := a.rs.split
  exact h en T σ H D ⟨F, M, a.exF, a.exM, a.dj, a.eF, a.nF, a.nM, a.fr, a.sl, a.tm, ⟨A, B, e, dj, ⟨ts, rfl, r⟩, r2⟩⟩ m
/-- o.setdefault(e, []).append(x) -/
theorem blk_setd {n : Nat} {kvs : List (Key × D)} {k : Key} {apos cpos spos dpos : Pos} (ho : Px X o g l (.adr q)) (he : Px X e g l (kD k)) (hn : l[n]? = some (ownD X.K q kvs)) (hz : kvs.length < 10000) (hx : ∀ l', Px X x g l' d)
    (hit : ∀ v, valD kvs k = some v → ∃ q' m ds, v = .adr q' ∧ l[m]? = some (ownL X.K q' ds) ∧ ds.length < sizeLine ∧ Blk X W rest g (l.set m (ownL X.K q' (ds ++ [d]))) Φ)
    (miss : valD kvs k = none → ∀ q', Blk X W rest g (ownL X.K q' [d] :: l.set n (ownD X.K q (putKD kvs k (.adr q')))) Φ)
    (hp0 : PS X (.Expr (.Call (.Attribute (.Call (.Attribute o "setdefault" spos) [e, .List [] p2] [] dpos) "append" apos) [x] [] cpos) pos) (tDrop (tBM X.K "list" rAppend (tDSetd (wpE X o) (wpE X e) (wpE X (.List [] p2))) (tCons (wpE X x) tNil))) := by exact ps_expr (pe_bm PySem.F.plainAttrs_list PySem.F.slot_list_append PySem.F.type_list_append mt_append (pe_dsetd pe_wp pe_wp pe_wp (by constructor <;> rfl)) (pa_cons pe_wp pa_nil))) :
    Blk X W (.Expr (.Call (.Attribute (.Call (.Attribute o "setdefault" spos) [e, .List [] p2] [] dpos) "append" apos) [x] [] cpos) pos :: rest) g l Φ := fun en T σ H D s mm => wpS_of (pss_cons hp0 pss_wp) (by
  refine ho en T σ H _ s fun v H1 s1 => ?_
  obtain ⟨F1, M1, q1⟩ := id s1
  have fv := q1.tm.1
  cases fv
  obtain ⟨vs1, f1, hp1⟩ := q1.rs.ownD hn q1.exM
  refine ⟨q, rfl, .inl ⟨_, .of hp1⟩, ?_⟩
  refine he en _ σ H1 _ s1 fun u H2 s2 => ?_
  refine (ev_lst (pos := p2) pa_n) en _ σ H2 _ s2 fun z dz l' H3 h3 s3 => ?_
  obtain ⟨q0, e1, e2⟩ := h3
  subst e1; subst e2
  obtain ⟨F, M, a⟩ := id s3
  obtain ⟨vs, fvs, hp⟩ := a.rs.ownD (k := n + 1) hn a.exM
  have fz := a.tm.1
  cases fz
  refine ⟨vs, k, hp, a.tm.2.1.key, by rw [fvs.length]; exact Nat.lt_of_lt_of_le hz (by decide), fun w hw => ?_, fun hw => ?_⟩
  · cases qd : valD kvs k with
    | none => exact absurd (fvs.noV qd) (by rw [hw]; simp)
    | some d' =>
      obtain ⟨q', m, ds, rfl, hm', hds, hb⟩ := hit d' qd
      obtain ⟨w', h1, h2⟩ := fvs.valV qd
      rw [hw] at h1
      cases h1
      cases h2
      have s4 : S X.K en g T l σ H3 := S.dropO (l' := [ownL X.K q0 []]) ⟨F, M, a.tmp a.tm.2.2.2⟩
      obtain ⟨F4, M4, a4⟩ := id s4
      obtain ⟨ws, _, hp4⟩ := a4.rs.own hm' a4.exM
      refine ⟨.inl ⟨rfl, _, SqL.of hp4⟩, ?_⟩
      refine hx l en _ σ H3 _ s4 fun u' H5 s5 => ?_
      obtain ⟨F5, M5, a5⟩ := s5
      obtain ⟨xs, fxs, hp5⟩ := a5.rs.own hm' a5.exM
      refine ⟨q', xs, u', rfl, rfl, hp5, by rw [fxs.length]; exact hds, ?_⟩
      obtain ⟨M6, a6⟩ := (a5.tmp (T' := T) a5.tm.2).putL hm' (fxs.app (.cons a5.tm.1 .nil))
      exact hb en T σ _ D ⟨F5, M6, a6⟩ mm
  · have qd : valD kvs k = none := by
      cases qd : valD kvs k with
      | none => rfl
      | some d' =>
        obtain ⟨w', h1, h2⟩ := fvs.valV qd
        rw [hw] at h1; cases h1
    obtain ⟨M', a'⟩ := (a.tmp (T' := T) a.tm.2.2.2).putOne (k := n + 1) (p := q) (r' := ownD X.K q (putKD kvs k (.adr q0))) (o' := .dK (L2.putK vs k (.ref q0))) hn (fun A ⟨_, _, e⟩ => ⟨_, e⟩) ⟨_, fvs.putK (.adr q0), rfl⟩
    have s4 : S X.K en g T (ownL X.K q0 [] :: l.set n (ownD X.K q (putKD kvs k (.adr q0)))) σ _ := ⟨F, M', a'⟩
    obtain ⟨ws, _, hp4⟩ := a'.rs.own (k := 0) rfl a'.exM
    refine ⟨.inl ⟨rfl, _, SqL.of hp4⟩, ?_⟩
    refine hx _ en _ σ _ _ s4 fun u' H5 s5 => ?_
    obtain ⟨F5, M5, a5⟩ := s5
    obtain ⟨xs, fxs, hp5⟩ := a5.rs.own (k := 0) rfl a5.exM
    refine ⟨q0, xs, u', rfl, rfl, hp5, by rw [fxs.length]; exact (by decide), ?_⟩
    obtain ⟨M6, a6⟩ := (a5.tmp (T' := T) a5.tm.2).putL (k := 0) rfl (fxs.app (.cons a5.tm.1 .nil))
    exact miss qd q0 en T σ _ D ⟨F5, M6, a6⟩ mm)
end
/-! told by the model: a list more at its key -/
def alapp {κ α : Type} [DecidableEq κ] : List (κ × List α) → κ → α → List (κ × List α)
  | [], k, v => [(k, [v])]
  | (k', ds) :: m, k, v => if k' = k then (k', ds ++ [v]) :: m else (k', ds) :: alapp m k v
theorem alapp_le {κ α : Type} [DecidableEq κ] {k : κ} {v : α} {i : Nat} : ∀ {m : List (κ × List α)}, (∀ kv ∈ m, kv.2.length ≤ i) → ∀ kv ∈ alapp m k v, kv.2.length ≤ i + 1
  | [], _, kv, h => by rw [List.mem_singleton.mp h]; exact Nat.succ_le_succ (Nat.zero_le _)
  | (k', ds) :: m, hm, kv, h => by
    have h0 := hm _ List.mem_cons_self
    unfold alapp at h
    split at h
    · rcases List.mem_cons.mp h with q | q
      · rw [q]; show (ds ++ [v]).length ≤ _; rw [List.length_append]; exact Nat.succ_le_succ h0
      · exact Nat.le_succ_of_le (hm kv (List.mem_cons_of_mem _ q))
    · rcases List.mem_cons.mp h with q | q
      · rw [q]; exact Nat.le_succ_of_le h0
      · exact alapp_le (fun kv z => hm kv (List.mem_cons_of_mem _ z)) kv q
theorem alapp_len {κ α : Type} [DecidableEq κ] {k : κ} {v : α} : ∀ {m : List (κ × List α)}, (alapp m k v).length ≤ m.length + 1
  | [] => Nat.le_refl _
  | (k', ds) :: m => by
    unfold alapp
    split
    · exact Nat.le_succ _
    · exact Nat.succ_le_succ alapp_len
abbrev dlE {κ α : Type} (kf : κ → Key) (enc : α → D) (m : List (κ × List α)) : List (Key × List D) := m.map fun kv => (kf kv.1, kv.2.map enc)
theorem alapp_enc {κ α : Type} [DecidableEq κ] {kf : κ → Key} (inj : ∀ a b, kf a = kf b → a = b) {enc : α → D} {k : κ} {v : α} : ∀ m : List (κ × List α), alapp (dlE kf enc m) (kf k) (enc v) = dlE kf enc (alapp m k v)
  | [] => rfl
  | (k', ds) :: m => by
    show (if kf k' = kf k then _ else _) = dlE kf enc (if k' = k then _ else _)
    by_cases e : k' = k
    · rw [if_pos e, if_pos (congrArg kf e)]
      show (kf k', ds.map enc ++ [enc v]) :: dlE kf enc m = (kf k', (ds ++ [v]).map enc) :: dlE kf enc m
      rw [List.map_append]
      rfl
    · rw [if_neg e, if_neg fun z => e (inj _ _ z)]
      show (kf k', ds.map enc) :: alapp (dlE kf enc m) (kf k) (enc v) = (kf k', ds.map enc) :: dlE kf enc (alapp m k v)
      rw [alapp_enc inj m]
abbrev dlA (ts : List (Key × Addr × List D)) : List (Key × D) := ts.map fun t => (t.1, D.adr t.2.1)
theorem dl_hit {k : Key} {d : D} : ∀ {ts : List (Key × Addr × List D)} {v : D}, valD (dlA ts) k = some v → ∃ (i : Nat) (t : Key × Addr × List D), ts[i]? = some t ∧ t.1 = k ∧ v = .adr t.2.1 ∧ dlK (ts.set i (t.1, t.2.1, t.2.2 ++ [d])) = alapp (dlK ts) k d
  | [], _, h => by cases h
  | t :: ts, v, h => by
    unfold valD dlA at h
    rw [List.map_cons, List.find?_cons] at h
    by_cases e : t.1 = k
    · rw [decide_eq_true e] at h
      cases h
      refine ⟨0, t, rfl, e, rfl, ?_⟩
      show (t.1, t.2.2 ++ [d]) :: dlK ts = (if t.1 = k then _ else _)
      rw [if_pos e]
    · rw [decide_eq_false e] at h
      obtain ⟨i, t', h1, h2, h3, h4⟩ := dl_hit (d := d) (ts := ts) h
      refine ⟨i + 1, t', h1, h2, h3, ?_⟩
      show (t.1, t.2.2) :: dlK (ts.set i _) = (if t.1 = k then _ else _)
      rw [if_neg e, h4]
theorem dl_miss {k : Key} {d : D} {q' : Addr} : ∀ {ts : List (Key × Addr × List D)}, valD (dlA ts) k = none → alapp (dlK ts) k d = dlK (ts ++ [(k, q', [d])]) ∧ (dlA ts).any (fun kv => decide (kv.1 = k)) = false
  | [], _ => ⟨rfl, rfl⟩
  | t :: ts, h => by
    unfold valD dlA at h
    rw [List.map_cons, List.find?_cons] at h
    by_cases e : t.1 = k
    · rw [decide_eq_true e] at h; cases h
    · rw [decide_eq_false e] at h
      obtain ⟨h1, h2⟩ := dl_miss (d := d) (q' := q') (ts := ts) h
      constructor
      · show (if t.1 = k then _ else _) = (t.1, t.2.2) :: dlK (ts ++ [_])
        rw [if_neg e, ← h1]
      · show (decide (t.1 = k) || (dlA ts).any _) = false
        rw [decide_eq_false e, h2]
        rfl
section
variable {X : Cx} {W : WX} {g : Gm} {l : List Res} {rest : List Stmt} {q : Addr} {o e x : Expr} {pos p2 : Pos} {S1 : Type} {Om : S1 → Po}
theorem bo_setd {κ α : Type} [DecidableEq κ] {kf : κ → Key} {m : List (κ × List α)} {k : κ} {v0 : α} {n : Nat} {kk : List (κ × List α) → S1} {apos cpos spos dpos : Pos} (inj : ∀ a b, kf a = kf b → a = b) (enc : α → D) (ho : ∀ l', Px X o g l' (.adr q)) (he : ∀ l', Px X e g l' (kD (kf k))) (hx : ∀ l', Px X x g l' (enc v0))
    (hl : l[n]? = some (ownDL X.K q (dlE kf enc m))) (hz : m.length < 10000) (hs : ∀ kv ∈ m, kv.2.length < 10000)
    (h : ∀ m2, m2 = alapp m k v0 → Bo X W rest g (l.set n (ownDL X.K q (dlE kf enc m2))) Om (kk m2))
    (hp0 : PS X (.Expr (.Call (.Attribute (.Call (.Attribute o "setdefault" spos) [e, .List [] p2] [] dpos) "append" apos) [x] [] cpos) pos) (tDrop (tBM X.K "list" rAppend (tDSetd (wpE X o) (wpE X e) (wpE X (.List [] p2))) (tCons (wpE X x) tNil))) := by exact ps_expr (pe_bm PySem.F.plainAttrs_list PySem.F.slot_list_append PySem.F.type_list_append mt_append (pe_dsetd pe_wp pe_wp pe_wp (by constructor <;> rfl)) (pa_cons pe_wp pa_nil))) :
    Bo X W (.Expr (.Call (.Attribute (.Call (.Attribute o "setdefault" spos) [e, .List [] p2] [] dpos) "append" apos) [x] [] cpos) pos :: rest) g l Om (lt (alapp m k v0) kk) := by
  have hb := h _ rfl
  have pb : (ownDL X.K q (dlE kf enc (alapp m k v0)) :: l.eraseIdx n).Perm (l.set n (ownDL X.K q (dlE kf enc (alapp m k v0)))) := by
    have hlt : n < l.length := (List.getElem?_eq_some_iff.mp hl).1
    have := perm_at (r := ownDL X.K q (dlE kf enc (alapp m k v0))) (l := l.set n (ownDL X.K q (dlE kf enc (alapp m k v0)))) (k := n) (by rw [List.getElem?_set_self hlt])
    rw [List.eraseIdx_set_eq] at this
    exact this.symm
  refine Blk.perm (perm_at hl) (Blk.unDL fun ts hts => ?_)
  have hlen : ts.length = m.length := by have := congrArg List.length hts; rwa [List.length_map, List.length_map] at this
  have back : ∀ ts', dlK ts' = dlE kf enc (alapp m k v0) → Blk X W rest g (dlRs X.K q ts' ++ l.eraseIdx n) (Om (kk (alapp m k v0))) := fun ts' e => Blk.toDL (by rw [e]; exact Blk.perm pb hb)
  refine blk_setd (n := 0) (kvs := dlA ts) (k := kf k) (d := enc v0) (ho _) (he _) rfl (by rw [List.length_map, hlen]; exact hz) hx (fun v hv => ?_) (fun hv q' => ?_) hp0
  · obtain ⟨i, t, h1, h2, h3, h4⟩ := dl_hit (d := enc v0) hv
    have hi : i < ts.length := (List.getElem?_eq_some_iff.mp h1).1
    refine ⟨t.2.1, i + 1, t.2.2, h3, ?_, ?_, ?_⟩
    · show ((ts.map fun t => ownL X.K t.2.1 t.2.2) ++ l.eraseIdx n)[i]? = _
      rw [List.getElem?_append_left (by rw [List.length_map]; exact hi), List.getElem?_map, h1]
      rfl
    · have : (t.1, t.2.2) ∈ dlE kf enc m := by rw [← hts]; exact List.mem_map.mpr ⟨t, List.mem_of_getElem? h1, rfl⟩
      obtain ⟨kv, h5, h6⟩ := List.mem_map.mp this
      have h7 : kv.2.map enc = t.2.2 := congrArg (·.2) h6
      rw [← h7, List.length_map]
      exact Nat.lt_of_lt_of_le (hs kv h5) (by decide)
    · have e1 : (dlRs X.K q ts ++ l.eraseIdx n).set (i + 1) (ownL X.K t.2.1 (t.2.2 ++ [enc v0])) = dlRs X.K q (ts.set i (t.1, t.2.1, t.2.2 ++ [enc v0])) ++ l.eraseIdx n := by
        show ownD X.K q (dlA ts) :: (((ts.map fun t => ownL X.K t.2.1 t.2.2) ++ l.eraseIdx n).set i _) = ownD X.K q (dlA (ts.set i _)) :: (((ts.set i _).map fun t => ownL X.K t.2.1 t.2.2) ++ l.eraseIdx n)
        have e2 : dlA (ts.set i (t.1, t.2.1, t.2.2 ++ [enc v0])) = dlA ts := by
          unfold dlA
          rw [List.map_set]
          refine List.ext_getElem? fun j => ?_
          rw [List.getElem?_set]
          by_cases e : i = j
          · subst e
            rw [if_pos rfl, List.getElem?_map, h1, if_pos (by rw [List.length_map]; exact hi)]
            rfl
          · rw [if_neg e]
        rw [e2, List.set_append_left _ _ (by rw [List.length_map]; exact hi), List.map_set]
      rw [e1]
      exact back _ (by rw [h4, hts]; exact alapp_enc inj m)
  · obtain ⟨h1, h2⟩ := dl_miss (d := enc v0) (q' := q') hv
    have e1 : putKD (dlA ts) (kf k) (.adr q') = dlA (ts ++ [(kf k, q', [enc v0])]) := by
      unfold putKD
      rw [if_neg (by rw [h2]; simp)]
      unfold dlA
      rw [List.map_append]
      rfl
    refine Blk.perm ?_ (back (ts ++ [(kf k, q', [enc v0])]) (by rw [← h1, hts]; exact alapp_enc inj m))
    show (ownL X.K q' [enc v0] :: ownD X.K q (putKD (dlA ts) (kf k) (.adr q')) :: ((ts.map fun t => ownL X.K t.2.1 t.2.2) ++ l.eraseIdx n)).Perm (ownD X.K q (dlA (ts ++ [(kf k, q', [enc v0])])) :: (((ts ++ [(kf k, q', [enc v0])]).map fun t => ownL X.K t.2.1 t.2.2) ++ l.eraseIdx n))
    rw [e1, List.map_append, List.append_assoc]
    refine (List.Perm.swap _ _ _).trans (.cons _ ?_)
    exact (List.perm_middle (l₁ := ts.map fun t => ownL X.K t.2.1 t.2.2) (l₂ := l.eraseIdx n) (a := ownL X.K q' [enc v0])).symm
end
/-! a dict of lists is frozen; an empty one -/
theorem fs_lists {K : PySem.W.Frag} {F F' : Hp} (ex : Ex F F') : ∀ {ts : List (Key × Addr × List D)} {B : Hp}, Rs (ts.map fun t => ownL K t.2.1 t.2.2) F B → Ex B F' → ∀ {vs : List (Key × V)}, FdFs K F vs (dlA ts) → FdFs K F' vs (ts.map fun t => (t.1, D.lst t.2.2))
  | [], _, _, _, _, .nil => .nil
  | t :: ts, B, ⟨A', B', e, dj, ⟨xs, f, eA⟩, r⟩, eB, (_, v) :: vs, .cons a b => by
    subst e
    subst eA
    cases a
    refine .cons (.lst (eB _ _ (join_l one_same)) (FdAll.mono ex _ f)) (fs_lists ex r (fun x o h => eB x o ?_) b)
    exact (join_r (dj.sym x o h)).trans h
theorem At.frzJ {K : PySem.W.Frag} {en : En} {g : Gm} {T : Tm} {l : List Res} {σ : L2.St} {H F M : Hp} {r : Res} {P : Hp → Prop} (a : At K en g T (r :: l) σ H F M) (f : ∀ A, Dj F A → r.P F A → P (join F A)) : ∃ F' M', At K en g T l σ H F' M' ∧ P F' ∧ Ex F F' := by
  obtain ⟨A, B, rfl, dj, p, rs⟩ := a.rs
  have dF : Dj F A := fun x o h => (join_none (a.dj x o h)).1
  have eF : Ex F (join F A) := fun x o h => join_l h
  refine ⟨join F A, B, ⟨a.exF.join a.exM.joinL, a.exM.joinR dj, ?_, a.eF.tr eF, ?_, fun x o h => a.nM x o (by rw [join_r (dj.sym x o h)]; exact h), a.fr, a.sl.mono eF, T.mono eF a.tm, rs.mono eF⟩, f A dF p, eF⟩
  · intro x o h
    rcases join_some h with q | ⟨_, q⟩
    · exact (join_none (a.dj x o q)).2
    · exact dj x o q
  · intro x o h
    rcases join_some h with q | ⟨_, q⟩
    · exact a.nF x o q
    · rcases a.nM x o (join_l q) with z | z
      · exact .inr (.inl z)
      · exact .inr (.inr (.inl z))
section
variable {X : Cx} {W : WX} {g : Gm} {l : List Res} {Φ : Po} {sts rest : List Stmt} {p q : Addr} {pos : Pos} {S1 : Type} {Om : S1 → Po}
theorem Blk.frzDL {kvs : List (Key × List D)} {i : Nat} (hi : nth g i = some (.adr p)) (k : Blk X W sts (g.set i (some (.dK (kvs.map fun kv => (kv.1, D.lst kv.2))))) l Φ) : Blk X W sts g (ownDL X.K p kvs :: l) Φ := fun en T σ H Z s m => by
  obtain ⟨F, M, q⟩ := s
  obtain ⟨v, hv, fv⟩ := q.sl.nth hi
  cases fv
  obtain ⟨F', M', q', f, _⟩ := q.frzJ (P := fun F' => Fd X.K F' (.ref p) (.dK (kvs.map fun kv => (kv.1, D.lst kv.2)))) fun A dA hA => by
    have hd : ∀ x o, A x = some o → F x = none := fun x o h => dA.sym x o h
    obtain ⟨ts, hts, A1, B1, e, dj, ⟨vs, f, eA⟩, r⟩ := hA
    subst e
    subst eA
    have e2 : (kvs.map fun kv => (kv.1, D.lst kv.2)) = ts.map fun t => (t.1, D.lst t.2.2) := by rw [← hts, List.map_map]; rfl
    rw [e2]
    refine .dK ?_ (fs_lists (fun x o h => join_l h) r (fun x o h => ?_) f)
    · rw [join_r (hd p _ (join_l one_same))]; exact join_l one_same
    · have h' : join (one p (.dK vs)) B1 x = some o := (join_r (dj.sym x o h)).trans h
      exact (join_r (hd x o h')).trans h'
  refine k en T σ H Z ⟨F', M', q'.slots ?_⟩ m
  have w := q'.sl.set i f
  have e : σ.set i (some (.ref p)) = σ := by
    apply List.ext_getElem?
    intro j
    by_cases z : j = i
    · subst z
      obtain ⟨h1, h2⟩ := List.getElem?_eq_some_iff.mp hv
      rw [List.getElem?_set_self h1, hv]
    · rw [List.getElem?_set_ne (Ne.symm z)]
  rw [e] at w
  exact w
theorem bo_frzDL {κ α : Type} [DecidableEq κ] {mm : S1} {kf : κ → Key} {enc : α → D} {m : List (κ × List α)} {i kk : Nat} (hi : nth g i = some (.adr q)) (hk : l[kk]? = some (ownDL X.K q (dlE kf enc m))) (h : Bo X W sts (g.set i (some (dkE kf (lstE enc) m))) (l.eraseIdx kk) Om mm) : Bo X W sts g l Om mm :=
  Blk.perm (perm_at hk) (Blk.frzDL hi (by
    have e : D.dK ((dlE kf enc m).map fun kv => (kv.1, D.lst kv.2)) = dkE kf (lstE enc) m := by
      show D.dK ((m.map _).map _) = _
      rw [List.map_map]
      rfl
    rw [e]
    exact h))
theorem bo_l0 {κ α : Type} {i : Nat} {x : Str} {pos' p2 : Pos} {kk : List (κ × List α) → S1} (kf : κ → Key) (enc : α → D) (hN : X.N.Nodup) (hi : X.N[i]? = some x) (hx : Loc X.env.scope x) (h : ∀ p m, m = [] → Bo X W rest (g.set i (some (.adr p))) (ownDL X.K p (dlE kf enc m) :: l) Om (kk m))
    (hs : swapsWith (.Dict [] [] p2) (some (.Name x pos')) pos.line X.env = pure false := by rfl) (hf : X.fn x = true ∨ X.env.scope.names.lookup x = some .local := by first | exact .inl rfl | exact .inr rfl | assumption) :
    Bo X W (.Assign [.Name x pos'] (.Dict [] [] p2) pos :: rest) g l Om (lt [] kk) := blk_setX hN hi hx ev_d0 (fun d l' ⟨p, e1, e2⟩ => by
      subst e1; subst e2
      exact Blk.toDL (ts := []) (h p [] rfl)) hs hf
end
/-! sorted(d), whole numbers as keys -/
section
variable {X : Cx} {g : Gm} {l : List Res} {d : D} {p pos : Pos}
theorem FdFs.fsts {κ : Type} {K : PySem.W.Frag} {F : Hp} : ∀ {vs : List (κ × V)} {kvs : List (κ × D)}, FdFs K F vs kvs → vs.map (·.1) = kvs.map (·.1)
  | _, _, .nil => rfl
  | (n, v) :: vs, (_, d') :: kvs, .cons a b => by
    show n :: vs.map (·.1) = n :: kvs.map (·.1)
    rw [FdFs.fsts b]
theorem ev_sortDI {β : Type} {enc : β → D} {m : List (Int × β)} {e1 : Expr} (ha : Px X e1 g l d) (hd : Dv X.K l d (dE kI enc m)) (hm : X.mg "sorted" = none) (hz : m.length < 64) (hc : X.calm = true := by rfl)
    (hg : Gl X "sorted" := by rfl) (hs : starEach [e1] X.env = (false, eval e1 X.env) :: starEach [] X.env := by rfl) : EvL X (.Call (.Name "sorted" p) [e1] [] pos) g l ((sortI (m.map (·.1))).map D.int) :=
  ev_new (pe_callB (call_sortedDI hc) hg hm (by decide +kernel) (pa_wp (es := [e1])) (by decide) (by decide) hs rfl) fun en T σ H Q s k => by
  refine pa_c ha pa_n hs en T σ H _ s fun vs H1 s1 => ?_
  obtain ⟨F, M, q⟩ := s1
  obtain ⟨f, t⟩ := q.tm
  cases f with
  | cons f1 f2 =>
    cases f2
    obtain ⟨a, ws, rfl, sq, f⟩ := hd.get q.exF q.exM q.rs f1
    refine ⟨a, ws, m.map (·.1), rfl, sq, ?_, by rw [List.length_map]; exact hz, fun ns' p hp hs' hn => ?_⟩
    · rw [f.fsts, List.map_map, List.map_map]; rfl
    rw [sortI_uniq hp hs']
    exact k p _ H1 F M (q.tmp t) (FdAll.ofInts _) hn
end
theorem key_of {κ β : Type} [DecidableEq κ] {m : List (κ × β)} {k : κ} (h : k ∈ m.map (·.1)) : (aget m k).isSome = true := by
  cases q : aget m k with
  | none => exact absurd h (aget_none.mp q)
  | some v => rfl
theorem mem_sortI {l : List Int} {x : Int} : x ∈ sortI l ↔ x ∈ l := (isort_perm l).mem_iff
theorem sortI_len {l : List Int} : (sortI l).length = l.length := (isort_perm l).length_eq
theorem sortK_len {α : Type} {key : α → List Key} {l : List α} : (sortK key l).length = l.length := (isort_perm l).length_eq
/-! what is scalar, got with an owned dict of lists taken for frozen -/
section
variable {X : Cx} {g : Gm} {l : List Res} {e : Expr} {d : D} {q : Addr}
theorem px_brwDL {κ α : Type} [DecidableEq κ] {kf : κ → Key} {enc : α → D} {m : List (κ × List α)} {i k : Nat} {v0 : V} (hi : nth g i = some (.adr q)) (hk : l[k]? = some (ownDL X.K q (dlE kf enc m))) (hd : d.v = some v0) (h : Px X e (g.set i (some (dkE kf (lstE enc) m))) [] d) : Px X e g l d := fun en T σ H Q s kk => by
  obtain ⟨F, M, a⟩ := s
  obtain ⟨A, B, hM, dj, hA, _⟩ := Rs.at hk a.rs
  have hd0 : ∀ x o, A x = some o → F x = none := fun x o h => a.dj.sym x o (by rw [hM]; exact join_l h)
  have eF : Ex F (join F A) := fun x o h => join_l h
  have e1 : Ex (join F A) H := a.exF.join fun x o z => a.exM x o (by rw [hM]; exact join_l z)
  have fd : Fd X.K (join F A) (.ref q) (dkE kf (lstE enc) m) := by
    obtain ⟨ts, hts, A1, B1, e, dj2, ⟨vs, f, eA⟩, r⟩ := hA
    subst e
    subst eA
    have e2 : dkE kf (lstE enc) m = .dK (ts.map fun t => (t.1, D.lst t.2.2)) := by
      show D.dK (m.map _) = _
      have e3 := congrArg (fun z : List (Key × List D) => D.dK (z.map fun kv => (kv.1, D.lst kv.2))) hts
      simp only [List.map_map] at e3
      exact e3.symm
    rw [e2]
    refine .dK ?_ (fs_lists (fun x o h => join_l h) r (fun x o h => ?_) f)
    · rw [join_r (hd0 q _ (join_l one_same))]; exact join_l one_same
    · have h' : join (one q (.dK vs)) B1 x = some o := (join_r (dj2.sym x o h)).trans h
      exact (join_r (hd0 x o h')).trans h'
  have hs : Sl X.K (join F A) (g.set i (some (dkE kf (lstE enc) m))) σ := by
    obtain ⟨v, hv, fv⟩ := a.sl.nth hi
    cases fv
    have w := (a.sl.mono eF).set i (d := dkE kf (lstE enc) m) (v := .ref q) fd
    rw [set_same hv] at w
    exact w
  refine h ⟨join F A, emp, H⟩ Tm.tt σ H Q ⟨_, emp, At.entry e1 (fun _ _ z => by cases z) (.emp _) hs trivial rfl⟩ fun v H' s' => ?_
  obtain ⟨F', M', b⟩ := s'
  have hv := D.v_eq b.tm.1 hd
  subst hv
  have n : New F H F H' := New.grow a.exF fun x o z => b.fr x o z rfl
  refine kk _ H' ⟨F, M, (a.new n).tmp ⟨?_, a.tm⟩⟩
  cases d <;> first | (cases hd; constructor) | cases hd
end
/-! try: .. except C: return a bool -/
section
variable {X : Cx} {W : WX} {g : Gm} {l : List Res} {Φ : Po} {body rest : List Stmt} {x : Str} {C : Addr} {vb : Bool} {jk : Nat} {p0 p1 p2 p3 pos : Pos}
theorem blk_tryR (EX : Xd → Prop) (tk : Takes X W) (hc : Names X x (.ref C))
    (hb : ∀ (W' : WX) (pn : List (Addr × Obj)) (xe : Value → Shared → Prop), Takes (X.tr pn xe) W' → PassesOwn (model X.prog X.w) X.A X.env xe → Blk (X.tr pn xe) W' body g l { Φ with nx := fun g' l' => Blk X W rest g' l' Φ, ex := fun cls dd g' l' => ∃ x lx, EX x ∧ XE X.K x cls dd lx ∧ g' = g ∧ l' = lx ++ l })
    (hx : ∀ x, EX x → PySem.W.exmOne X.K (.ref x.C) (.ref C) = some true) (hr : ∀ x, EX x → Φ.rt (.bl vb) l) (hs : X.stack = X.env :: X.outer := by rfl) (hf : X.env.frame = some X.env.locals := by rfl) :
    Blk X W (.Try body [.ExceptHandler (some (.Name x p0)) none [.Return (some (.Constant (.bool vb) jk p2)) p3] p1] [] [] pos :: rest) g l Φ := fun en T σ H Z s m =>
  wpS_of (pss_cons (ps_try_only (tb := fun W' => fun D' σ' H' => ∀ pn xe, Takes (X.tr pn xe) W' → PassesOwn (model X.prog X.w) X.A X.env xe → wpS (X.tr pn xe) body D' σ' H') (ts := fun _ _ _ => tRet (fun _ H Q => Q (.bl vb) H)) hs hf hc tk
    (fun W' pn xe t1 t2 => ⟨fun pins s1 σ1 H1 D1 I h => h pn xe t1 t2 pins s1 I⟩) (fun a oe cls d pn _ _ => pss_one (ps_ret pe_bl))) pss_wp) (fun pn xe t1 t2 => by
      refine hb _ pn xe t1 t2 en T σ H _ s ⟨fun g' l' σ' H' p s' => p en T σ' H' Z s' m, m.rt, m.bk, m.ct, fun cls d g' l' σ' H' p s' => ?_⟩
      obtain ⟨x, lx, h1, h2, rfl, rfl⟩ := p
      have ec := h2.1
      subst ec
      refine ⟨true, hx x h1, fun _ a ha => ?_, fun h => (by cases h)⟩
      obtain ⟨F, M, q⟩ := s'.dropO
      exact m.rt (.bl vb) _ _ _ (hr x h1) ⟨F, M, (q.tmp (T' := T.and X.K (.bl vb) (.bl vb)) ⟨.bl _, q.tm⟩).slots .nil⟩)
end
def tryR {Rr ε Ll Ss : Type} (tb : Cf (Except ε Rr) Ll Ss) (r : Rr) : Cf Rr Ll Ss := match tb with
  | .nx s => .nx s | .rt (.ok v) => .rt v | .rt (.error _) => .rt r | .bk s => .bk s | .ct s => .ct s
section
variable {X : Cx} {W : WX} {g : Gm} {l : List Res} {body rest : List Stmt} {x : Str} {C : Addr} {vb : Bool} {jk : Nat} {p0 p1 p2 p3 pos : Pos} {Rr ε S1 : Type} {RT : Rr → Re} {xc : ε → Xd}
theorem bo_tryRV {GL : Empty → Gm} {RL : Empty → List Res} {tb : Cf (Except ε Rr) Empty S1} {r : Rr} {k : S1 → Rr} (G : S1 → Gm) (R : S1 → List Res) (tk : Takes X W) (hc : Names X x (.ref C))
    (hb : ∀ (W' : WX) (pn : List (Addr × Obj)) (xe : Value → Shared → Prop), Takes (X.tr pn xe) W' → PassesOwn (model X.prog X.w) X.A X.env xe → Bo (X.tr pn xe) W' body g l (Ou (XT X.K g l RT xc) GL RL (NxP G R)) tb)
    (hnr : ∀ r c d g l, (RT r).ex c d g l → False) (hx : ∀ e, tb = .rt (.error e) → PySem.W.exmOne X.K (.ref (xc e).C) (.ref C) = some true) (hr : (RT r).rt (.bl vb) l)
    (h : ∀ s, tryR tb r = .nx s → Bo X W rest (G s) (R s) (Rt RT) (k s)) (hs : X.stack = X.env :: X.outer := by rfl) (hf : X.env.frame = some X.env.locals := by rfl) :
    Bo X W (.Try body [.ExceptHandler (some (.Name x p0)) none [.Return (some (.Constant (.bool vb) jk p2)) p3] p1] [] [] pos :: rest) g l (Rt RT) (bndV (tryR tb r) k) := by
  refine blk_tryR (fun x => ∃ e, tb = .rt (.error e) ∧ x = xc e) tk hc (fun W' pn xe t1 t2 => ?_) (fun x ⟨e, h1, h2⟩ => by subst h2; exact hx e h1) (fun x ⟨e, h1, h2⟩ => by subst h1; exact hr) hs hf
  have z := hb W' pn xe t1 t2
  unfold Bo at z
  cases tb with
  | nx s => exact z.imp (fun g' l' hh => by obtain ⟨w, q⟩ := hh; subst w; subst q; exact h s rfl) (fun _ _ h => h.elim) (fun _ _ h => h.elim) (fun _ _ h => h.elim) (fun _ _ _ _ h => h.elim)
  | bk s => exact nomatch s
  | ct s => exact nomatch s
  | rt r' => cases r' with
    | ok v => exact z.imp (fun _ _ h => h.elim) (fun d l h => h) (fun _ _ h => h.elim) (fun _ _ h => h.elim) (fun c d g l h => (hnr v c d g l h).elim)
    | error e => exact z.imp (fun _ _ h => h.elim) (fun _ _ h => h.elim) (fun _ _ h => h.elim) (fun _ _ h => h.elim) (fun c d g l h => by
        obtain ⟨lx, h1, h2, h3⟩ := h
        exact ⟨_, lx, ⟨e, rfl, rfl⟩, h1, h2, h3⟩)
end
/-! x.extend(e), e frozen -/
section
variable {X : Cx} {W : WX} {g : Gm} {l : List Res} {Φ : Po} {rest : List Stmt} {p : Addr} {o e : Expr} {pos : Pos} {S1 : Type} {Om : S1 → Po}
theorem blk_ext {k : Nat} {ds es : List D} {apos cpos : Pos} (ho : Px X o g l (.adr p)) (he : Px X e g l (.lst es)) (hk : l[k]? = some (ownL X.K p ds)) (hz : ds.length + es.length ≤ 10000) (h : Blk X W rest g (l.set k (ownL X.K p (ds ++ es))) Φ)
    (hp : PS X (.Expr (.Call (.Attribute o "extend" apos) [e] [] cpos) pos) (tDrop (tBM X.K "list" rExtend (wpE X o) (tCons (wpE X e) tNil))) := by exact ps_expr (pe_bm PySem.F.plainAttrs_list PySem.F.slot_list_extend PySem.F.type_list_extend mt_extend pe_wp (pa_cons pe_wp pa_nil))) : Blk X W (.Expr (.Call (.Attribute o "extend" apos) [e] [] cpos) pos :: rest) g l Φ := fun en T σ H Z s m => wpS_of (pss_cons hp pss_wp) (by
  refine ho en T σ H _ s fun v H1 s1 => ?_
  obtain ⟨F1, M1, q1⟩ := id s1
  have fv := q1.tm.1
  cases fv
  obtain ⟨vs1, _, hp1⟩ := q1.rs.own hk q1.exM
  refine ⟨.inl ⟨rfl, _, SqL.of hp1⟩, ?_⟩
  refine he en _ σ H1 _ s1 fun u H2 s2 => ?_
  obtain ⟨F, M, q⟩ := s2
  obtain ⟨vs, fvs, hp⟩ := q.rs.own hk q.exM
  have fu := q.tm.1
  cases fu with
  | lst hb fb =>
    refine ⟨p, _, vs, _, rfl, rfl, hp, q.exF _ _ hb, by rw [fvs.length, fb.length]; exact Nat.le_trans hz (by decide), ?_⟩
    obtain ⟨M', q'⟩ := (q.tmp (T' := T) q.tm.2.2).putL hk (fvs.app fb)
    exact h en T σ _ Z ⟨F, M', q'⟩ m)
theorem bo_ext {α : Type} {kk : Nat} {apos cpos : Pos} {ys zs : List α} {k : List α → S1} (enc : α → D) (ho : Px X o g l (.adr p)) (hk : l[kk]? = some (ownL X.K p (ys.map enc))) (he : Px X e g l (lstE enc zs)) (hz : ys.length + zs.length ≤ 10000) (h : ∀ r, r = ys ++ zs → Bo X W rest g (l.set kk (ownL X.K p (r.map enc))) Om (k r))
    (hp : PS X (.Expr (.Call (.Attribute o "extend" apos) [e] [] cpos) pos) (tDrop (tBM X.K "list" rExtend (wpE X o) (tCons (wpE X e) tNil))) := by exact ps_expr (pe_bm PySem.F.plainAttrs_list PySem.F.slot_list_extend PySem.F.type_list_extend mt_extend pe_wp (pa_cons pe_wp pa_nil))) :
    Bo X W (.Expr (.Call (.Attribute o "extend" apos) [e] [] cpos) pos :: rest) g l Om (lt (ys ++ zs) k) := by
  refine blk_ext ho he hk (by rw [List.length_map, List.length_map]; exact hz) ?_ hp
  have := h _ rfl
  rw [List.map_append] at this
  exact this
end
end Sx
set_option Elab.async false
set_option linter.all false
set_option maxRecDepth 100000
set_option maxHeartbeats 2000000
/-! min(xs, default=d), whole numbers. -/
namespace Sx
open PySem L2
def minDf (ns : List Int) (d : Int) : Int := match ns with | [] => d | n :: r => r.foldl min n
theorem depth_ints : ∀ ns : List Int, PyData.depthAll (ns.map .int) = 0
  | [] => rfl
  | n :: ns => by show max (PyData.depth (.int n)) (PyData.depthAll (ns.map .int)) = 0; rw [depth_ints ns]; rfl
theorem reads_ints {h : Heap} : ∀ {its : List Value} {ns : List Int}, PyProof.Rows.IntsAre its ns → ∃ as, ReadsAll h its (ns.map .int) as
  | _, _, .nil => ⟨[], .nil⟩
  | _, _, .cons _ _ hi => by
    obtain ⟨as, r⟩ := reads_ints (h := h) hi
    exact ⟨_, .cons (.int _ _) r⟩
theorem alike_intsA (ns : List Int) : PySem.W.AlikeAll (ns.map .int) := ⟨fun x hx y hy => by
  obtain ⟨a, _, rfl⟩ := List.mem_map.mp hx
  obtain ⟨b, _, rfl⟩ := List.mem_map.mp hy
  rfl, fun x hx => by
  obtain ⟨a, _, rfl⟩ := List.mem_map.mp hx
  intro e; cases e⟩
section
variable {X : Cx} {g : Gm} {l : List Res} {d : D} {p pos : Pos}
def rMinDf (K : PySem.W.Frag) : List V → List V → Hp → VK → Prop := fun vs zs H Q => ∃ (a : Addr) (ns : List Int) (d : Int), vs = [V.ref a] ∧ zs = [.int d] ∧ SqL K H a (ns.map V.int) ∧ Q (.int (minDf ns d)) H
theorem cr_minD (hc : X.calm = true) (hu : X.A.units + 64 < cLine) : CallRK X (.builtin "min") [Str.ofString "default"] (rMinDf X.K) := by
  intro pins s σ H vs zs us ws Q I r rz h
  obtain ⟨a, ns, d, rfl, rfl, hs, q⟩ := h
  obtain ⟨its, rv, hl, hz⟩ := I.list hs
  obtain rfl := Vals.ref1 r
  obtain ⟨w1, rfl, e1⟩ := vals1 rz
  obtain ⟨t, rfl⟩ : ∃ t, w1 = Value.int d t := e1
  have hi := rv.ints
  obtain ⟨as, ra⟩ := reads_ints (h := s.heap) hi
  refine PySem.W.min_list_default (xs := ns.map .int) (I.ok.hd hc) hl.isList (by simpa using ra) (alike_intsA ns) (by rw [depth_ints]; omega) (fun e h' tk hk => ?_) (fun y ys i v h' tk bs e hv rd hk => ?_)
  · have e : ns = [] := List.map_eq_nil_iff.mp e
    subst e
    exact ⟨.int d, H, I.kept hk, ⟨_, rfl⟩, q⟩
  · cases ns with
    | nil => cases e
    | cons n ns =>
      have e1 : PyData.int n = y := by injection e
      have e2 : ns.map PyData.int = ys := by injection e
      subst e1; subst e2
      rw [PySem.W.minD_ints] at rd
      cases rd with
      | int _ t' => exact ⟨.int _, H, I.kept hk, ⟨_, rfl⟩, q⟩
theorem px_minD {ns : List Int} {d0 : Int} {e1 ed : Expr} {kp : Pos} (hm : X.mg "min" = none) (ha : Px X e1 g l d) (hd : Lq X.K l d (ns.map D.int)) (hdf : Px X ed g l (.int d0)) (hu : X.A.units + 64 < cLine) (hc : X.calm = true := by rfl) (hg : Gl X "min" := by rfl)
    (hs : starEach [e1] X.env = (false, eval e1 X.env) :: starEach [] X.env := by rfl) (he : backTo pos (starEach [e1] X.env) = (false, eval e1 X.env) :: backTo pos (starEach [] X.env) := by rfl) (hpl : (backTo pos (starEach [e1] X.env)).any (·.1) = false := by rfl)
    (hall : (backToKw pos (keywordEach [⟨some (Str.ofString "default"), ed, kp⟩] X.env)).all (·.1.isSome) = true := by rfl) (hnone : (backToKw pos (keywordEach [⟨some (Str.ofString "default"), ed, kp⟩] X.env)).any (·.1.isNone) = false := by rfl) (hks : (backToKw pos (keywordEach [⟨some (Str.ofString "default"), ed, kp⟩] X.env)).filterMap (·.1) = [Str.ofString "default"] := by rfl) :
    Px X (.Call (.Name "min" p) [e1] [⟨some (Str.ofString "default"), ed, kp⟩] pos) g l (.int (minDf ns d0)) := fun en T σ H Q s k =>
  wpE_of (pe_callBK (cr_minD hc hu) hg hm (by decide +kernel) (pa_wp (es := [e1])) (pk_cons pe_wp pk_nil) (by decide) (by decide) he hpl hall hnone hks) (by
  refine pa_c ha pa_n hs en T σ H _ s fun vs H1 s1 => ?_
  refine hdf en _ σ H1 _ s1 fun w H2 s2 => ?_
  obtain ⟨F, M, q⟩ := s2
  obtain ⟨fw, f, t⟩ := q.tm
  cases fw
  cases f with
  | cons f1 f2 =>
    cases f2
    obtain ⟨a, ws, rfl, sq, f⟩ := hd.get q.exF q.exM q.rs f1
    have ew := f.ints
    subst ew
    exact ⟨a, ns, d0, rfl, rfl, sq, k _ H2 ⟨F, M, q.tmp ⟨.int _, t⟩⟩⟩)
end
end Sx
set_option Elab.async false
set_option linter.all false
set_option maxRecDepth 100000
set_option maxHeartbeats 2000000
/-! Owned lists of owned lists; orders of pairs; keys that are tuples. -/
namespace Sx
open PySem L2
/-! ### pairs of whole numbers in order -/
def leII (a b : Int × Int) : Bool := decide (a.1 < b.1) || (decide (a.1 = b.1) && decide (a.2 ≤ b.2))
theorem leII_iff {a b : Int × Int} : leII a b = true ↔ a.1 < b.1 ∨ a.1 = b.1 ∧ a.2 ≤ b.2 := by
  unfold leII
  rw [Bool.or_eq_true, Bool.and_eq_true, decide_eq_true_iff, decide_eq_true_iff, decide_eq_true_iff]
def rGeT (K : PySem.W.Frag) : R2 := fun x y H Q => ∃ (a b : Addr) (ns ms : List Int), x = .ref a ∧ y = .ref b ∧ SqT K H a (ns.map V.int) ∧ SqT K H b (ms.map V.int) ∧
  Q (.bl (Ob.lexAt (fun j => decide (ns.getD j 0 = ms.getD j 0)) (fun j => decide (ms.getD j 0 ≤ ns.getD j 0)) (decide (ns.length ≥ ms.length)) 0 (min ns.length ms.length))) H
section
variable {X : Cx}
open PyProof.Rows in
theorem op_geT (hu : X.A.units < cLine) : OpR X (compareOp .GtE) (rGeT X.K) := by
  intro pins s σ H x y v u Q I rx ry h
  obtain ⟨a, b, ns, ms, rfl, rfl, ha, hb, q⟩ := h
  cases rx
  cases ry
  obtain ⟨its, r1, p1, _⟩ := I.tuple ha
  obtain ⟨its2, r2, p2, _⟩ := I.tuple hb
  have i1 : IntsAre its ns := Vals.ints r1
  have i2 : IntsAre its2 ms := Vals.ints r2
  have e1 : its.toArray.size = ns.length := by rw [List.size_toArray]; exact i1.length
  have e2 : its2.toArray.size = ms.length := by rw [List.size_toArray]; exact i2.length
  have at1 : ∀ j (h1 : j < its.toArray.size), ∃ t, its.toArray[j] = .int (ns.getD j 0) t := fun j h1 => PyProof.Rows.IntsAre.int_at i1 _ _ (by simp at h1; simp [h1])
  have at2 : ∀ j (h1 : j < its2.toArray.size), ∃ t, its2.toArray[j] = .int (ms.getD j 0) t := fun j h1 => PyProof.Rows.IntsAre.int_at i2 _ _ (by simp at h1; simp [h1])
  have R := Ob.RcOp.tuples_ge (A := X.A) (s := s) (e := fun j => decide (ns.getD j 0 = ms.getD j 0)) (r := fun j => decide (ms.getD j 0 ≤ ns.getD j 0)) p1 p2 hu (fun j h1 h2 => by
    obtain ⟨t, et⟩ := at1 j h1
    obtain ⟨t', et'⟩ := at2 j h2
    rw [et, et']
    have z : (ns.getD j 0 == ms.getD j 0) = decide (ns.getD j 0 = ms.getD j 0) := by
      by_cases q : ns.getD j 0 = ms.getD j 0
      · rw [decide_eq_true q]; exact beq_iff_eq.mpr q
      · rw [decide_eq_false q]; exact beq_eq_false_iff_ne.mpr q
    rw [← z]
    exact SeqAt.EqAt.int_int _ _ _ _) (fun j h1 h2 _ => by
    obtain ⟨t, et⟩ := at1 j h1
    obtain ⟨t', et'⟩ := at2 j h2
    rw [et, et']
    exact Ob.RcOp.ge_int _ _ _ _)
  rw [e1, e2] at R
  have z : wpAny (model X.prog X.w) X.A (compareOp .GtE (.ref a) (.ref b)) (EP X pins σ Q) X.xe s := R X.prog X.w X.xe (EP X pins σ Q) ⟨.bl _, H, I, rfl, q⟩
  exact z
end
section
variable {K : PySem.W.Frag} {l : List Res}
theorem tup_ints {F : Hp} {a : Addr} {ns : List Int} (h : Fd K F (.ref a) (.tup (ns.map D.int))) : SqT K F a (ns.map V.int) := by
  cases h with
  | tup s f => rw [FdAll.ints f] at s; exact s
theorem o_leII {a b : Int × Int} : Op2 K l (rLeT K) (.tup [.int a.1, .int a.2]) (.tup [.int b.1, .int b.2]) (.bl (leII a b)) := fun F M H v u Q eF eM dj rs f1 f2 k => by
  obtain ⟨p, rfl⟩ : ∃ p, v = .ref p := by cases f1; exact ⟨_, rfl⟩
  obtain ⟨q, rfl⟩ : ∃ p, u = .ref p := by cases f2; exact ⟨_, rfl⟩
  refine ⟨p, q, [a.1, a.2], [b.1, b.2], rfl, rfl, ex_t eF (tup_ints f1), ex_t eF (tup_ints f2), ?_⟩
  have e : Ob.lexAt (fun j => decide ([a.1, a.2].getD j 0 = [b.1, b.2].getD j 0)) (fun j => decide ([a.1, a.2].getD j 0 ≤ [b.1, b.2].getD j 0)) (decide ([a.1, a.2].length ≤ [b.1, b.2].length)) 0 (min [a.1, a.2].length [b.1, b.2].length) = leII a b := by
    show (if decide (a.1 = b.1) = true then (if decide (a.2 = b.2) = true then true else decide (a.2 ≤ b.2)) else decide (a.1 ≤ b.1)) = leII a b
    unfold leII
    by_cases h1 : a.1 = b.1
    · by_cases h2 : a.2 = b.2
      · simp [h1, h2]
      · simp [h1, h2]
    · have e1 : decide (a.1 ≤ b.1) = decide (a.1 < b.1) := decide_eq_decide.mpr (by omega)
      simp [h1, e1]
  rw [e]
  exact k _ F H (New.rf eF) (.bl _)
theorem o_geII {a b : Int × Int} : Op2 K l (rGeT K) (.tup [.int a.1, .int a.2]) (.tup [.int b.1, .int b.2]) (.bl (leII b a)) := fun F M H v u Q eF eM dj rs f1 f2 k => by
  obtain ⟨p, rfl⟩ : ∃ p, v = .ref p := by cases f1; exact ⟨_, rfl⟩
  obtain ⟨q, rfl⟩ : ∃ p, u = .ref p := by cases f2; exact ⟨_, rfl⟩
  refine ⟨p, q, [a.1, a.2], [b.1, b.2], rfl, rfl, ex_t eF (tup_ints f1), ex_t eF (tup_ints f2), ?_⟩
  have e : Ob.lexAt (fun j => decide ([a.1, a.2].getD j 0 = [b.1, b.2].getD j 0)) (fun j => decide ([b.1, b.2].getD j 0 ≤ [a.1, a.2].getD j 0)) (decide ([a.1, a.2].length ≥ [b.1, b.2].length)) 0 (min [a.1, a.2].length [b.1, b.2].length) = leII b a := by
    show (if decide (a.1 = b.1) = true then (if decide (a.2 = b.2) = true then true else decide (b.2 ≤ a.2)) else decide (b.1 ≤ a.1)) = leII b a
    unfold leII
    by_cases h1 : a.1 = b.1
    · by_cases h2 : a.2 = b.2
      · simp [h1, h2]
      · simp [h1, h2]
    · have e1 : decide (b.1 ≤ a.1) = decide (b.1 < a.1) := decide_eq_decide.mpr (by omega)
      have h2 : ¬ b.1 = a.1 := fun z => h1 z.symm
      simp [h1, h2, e1]
  rw [e]
  exact k _ F H (New.rf eF) (.bl _)
end
/-! ### (a, b) in d -/
section
variable {X : Cx} {g : Gm} {l : List Res} {o : Expr} {es : List Expr} {d1 : D} {ds : List D} {pos kp : Pos} {x1 : Nat}
def Tm.at (T : Tm) (p : Addr) (o : HO) : Tm := ⟨fun F => F p = some o ∧ T.P F, fun e h => ⟨e _ _ h.1, T.mono e h.2⟩⟩
theorem px_tdin0 {kvs : List (List Key × D)} {k : List Key} (hu : X.A.units + 1 < cLine) (hi : Pa X es g l ds) (hk : ds = k.map kD) (ho : Px X o g l d1) (hd : Dw X.K l d1 kvs) (hz : k.length ≤ sizeLine := by first | decide | exact Nat.le_of_ble_eq_true rfl) (hm : behindInMarks .In o = false := by first | exact nomark _ | rfl) :
    Px X (.Compare (.Tuple es x1 kp) [.In] [o] pos) g l (.bl (valD kvs k).isSome) := fun en T σ H Q s kk => wpE_of (pe_cmp (pc_din hu (pe_tup pa_wp) pe_wp) hm) (by
  subst hk
  refine hi en T σ H _ s fun us H1 s1 => ?_
  obtain ⟨F, M, q⟩ := s1
  have ek := q.tm.1.keys
  subst ek
  refine ⟨by rw [List.length_map]; exact hz, fun p hp => ?_⟩
  have n := New.upd (o := .tup (k.map kV)) q.exF hp
  have q3 := q.new n
  refine ho en (T.at p (.tup (k.map kV))) σ _ _ ⟨_, M, q3.tmp (T' := T.at p (.tup (k.map kV))) ⟨upd_same, T.mono n.f q.tm.2⟩⟩ fun v H4 s4 => ?_
  obtain ⟨F4, M4, q4⟩ := s4
  obtain ⟨a, vs, rfl, hp2, f⟩ := hd.get q4.exF q4.exM q4.rs q4.tm.1
  have e : (L2.valV vs k).isSome = (valD kvs k).isSome := by
    cases z : valD kvs k with
    | none => rw [f.noV z]; rfl
    | some d => obtain ⟨w, h1, _⟩ := f.valV z; rw [h1]; rfl
  refine ⟨a, _, rfl, .inr ⟨vs, k, p, hp2, rfl, q4.exF _ _ q4.tm.2.1, rfl⟩, ?_⟩
  rw [e]
  exact kk _ H4 ⟨F4, M4, q4.tmp ⟨.bl _, q4.tm.2.2⟩⟩)
theorem px_tdnotin0 {kvs : List (List Key × D)} {k : List Key} (hu : X.A.units + 1 < cLine) (hi : Pa X es g l ds) (hk : ds = k.map kD) (ho : Px X o g l d1) (hd : Dw X.K l d1 kvs) (hz : k.length ≤ sizeLine := by first | decide | exact Nat.le_of_ble_eq_true rfl) (hm : behindInMarks .NotIn o = false := by first | exact nomark _ | rfl) :
    Px X (.Compare (.Tuple es x1 kp) [.NotIn] [o] pos) g l (.bl (!(valD kvs k).isSome)) := fun en T σ H Q s kk => wpE_of (pe_cmp (pc_dnotin hu (pe_tup pa_wp) pe_wp) hm) (by
  subst hk
  refine hi en T σ H _ s fun us H1 s1 => ?_
  obtain ⟨F, M, q⟩ := s1
  have ek := q.tm.1.keys
  subst ek
  refine ⟨by rw [List.length_map]; exact hz, fun p hp => ?_⟩
  have n := New.upd (o := .tup (k.map kV)) q.exF hp
  have q3 := q.new n
  refine ho en (T.at p (.tup (k.map kV))) σ _ _ ⟨_, M, q3.tmp (T' := T.at p (.tup (k.map kV))) ⟨upd_same, T.mono n.f q.tm.2⟩⟩ fun v H4 s4 => ?_
  obtain ⟨F4, M4, q4⟩ := s4
  obtain ⟨a, vs, rfl, hp2, f⟩ := hd.get q4.exF q4.exM q4.rs q4.tm.1
  have e : (L2.valV vs k).isSome = (valD kvs k).isSome := by
    cases z : valD kvs k with
    | none => rw [f.noV z]; rfl
    | some d => obtain ⟨w, h1, _⟩ := f.valV z; rw [h1]; rfl
  refine ⟨a, _, rfl, .inr ⟨vs, k, p, hp2, rfl, q4.exF _ _ q4.tm.2.1, rfl⟩, ?_⟩
  rw [e]
  exact kk _ H4 ⟨F4, M4, q4.tmp ⟨.bl _, q4.tm.2.2⟩⟩)
theorem Px.units1 (hu : X.A.units + 64 < cLine) : X.A.units < cLine := by omega
theorem ts_tdin0 {kvs : List (List Key × D)} {k : List Key} (hu : X.A.units + 1 < cLine) (hi : Pa X es g l ds) (hk : ds = k.map kD) (ho : Px X o g l d1) (hd : Dw X.K l d1 kvs) (hz : k.length ≤ sizeLine := by first | decide | exact Nat.le_of_ble_eq_true rfl) (hm : behindInMarks .In o = false := by first | exact nomark _ | rfl) :
    Ts X (.Compare (.Tuple es x1 kp) [.In] [o] pos) g l (valD kvs k).isSome := fun en T σ H Q s kk => wpT_of (pt_cmp (pc_din hu (pe_tup pa_wp) pe_wp) hm) (by
  subst hk
  refine hi en T σ H _ s fun us H1 s1 => ?_
  obtain ⟨F, M, q⟩ := s1
  have ek := q.tm.1.keys
  subst ek
  refine ⟨by rw [List.length_map]; exact hz, fun p hp => ?_⟩
  have n := New.upd (o := .tup (k.map kV)) q.exF hp
  have q3 := q.new n
  refine ho en (T.at p (.tup (k.map kV))) σ _ _ ⟨_, M, q3.tmp (T' := T.at p (.tup (k.map kV))) ⟨upd_same, T.mono n.f q.tm.2⟩⟩ fun v H4 s4 => ?_
  obtain ⟨F4, M4, q4⟩ := s4
  obtain ⟨a, vs, rfl, hp2, f⟩ := hd.get q4.exF q4.exM q4.rs q4.tm.1
  have e : (L2.valV vs k).isSome = (valD kvs k).isSome := by
    cases z : valD kvs k with
    | none => rw [f.noV z]; rfl
    | some d => obtain ⟨w, h1, _⟩ := f.valV z; rw [h1]; rfl
  refine ⟨a, _, rfl, .inr ⟨vs, k, p, hp2, rfl, q4.exF _ _ q4.tm.2.1, rfl⟩, _, rfl, ?_⟩
  rw [e]
  exact kk H4 ⟨F4, M4, q4.tmp q4.tm.2.2⟩)
theorem ts_tdnotin0 {kvs : List (List Key × D)} {k : List Key} (hu : X.A.units + 1 < cLine) (hi : Pa X es g l ds) (hk : ds = k.map kD) (ho : Px X o g l d1) (hd : Dw X.K l d1 kvs) (hz : k.length ≤ sizeLine := by first | decide | exact Nat.le_of_ble_eq_true rfl) (hm : behindInMarks .NotIn o = false := by first | exact nomark _ | rfl) :
    Ts X (.Compare (.Tuple es x1 kp) [.NotIn] [o] pos) g l (!(valD kvs k).isSome) := fun en T σ H Q s kk => wpT_of (pt_cmp (pc_dnotin hu (pe_tup pa_wp) pe_wp) hm) (by
  subst hk
  refine hi en T σ H _ s fun us H1 s1 => ?_
  obtain ⟨F, M, q⟩ := s1
  have ek := q.tm.1.keys
  subst ek
  refine ⟨by rw [List.length_map]; exact hz, fun p hp => ?_⟩
  have n := New.upd (o := .tup (k.map kV)) q.exF hp
  have q3 := q.new n
  refine ho en (T.at p (.tup (k.map kV))) σ _ _ ⟨_, M, q3.tmp (T' := T.at p (.tup (k.map kV))) ⟨upd_same, T.mono n.f q.tm.2⟩⟩ fun v H4 s4 => ?_
  obtain ⟨F4, M4, q4⟩ := s4
  obtain ⟨a, vs, rfl, hp2, f⟩ := hd.get q4.exF q4.exM q4.rs q4.tm.1
  have e : (L2.valV vs k).isSome = (valD kvs k).isSome := by
    cases z : valD kvs k with
    | none => rw [f.noV z]; rfl
    | some d => obtain ⟨w, h1, _⟩ := f.valV z; rw [h1]; rfl
  refine ⟨a, _, rfl, .inr ⟨vs, k, p, hp2, rfl, q4.exF _ _ q4.tm.2.1, rfl⟩, _, rfl, ?_⟩
  rw [e]
  exact kk H4 ⟨F4, M4, q4.tmp q4.tm.2.2⟩)

end
section
variable {X : Cx} {g : Gm} {l : List Res} {o : Expr} {es : List Expr} {d1 : D} {ds : List D} {pos kp : Pos} {x1 : Nat} {κ β : Type} [DecidableEq κ] {kf : κ → List Key} {m : List (κ × β)} {k : κ}
theorem px_tdinM (inj : ∀ a b, kf a = kf b → a = b) (enc : β → D) (hu : X.A.units + 64 < cLine) (hi : Pa X es g l ((kf k).map kD)) (ho : Px X o g l d1) (hd : Dw X.K l d1 (dE kf enc m)) (hz : (kf k).length ≤ sizeLine) (hm : behindInMarks .In o = false := by first | exact nomark _ | rfl) : Px X (.Compare (.Tuple es x1 kp) [.In] [o] pos) g l (.bl (aget m k).isSome) := by
  have := px_tdin0 (pos := pos) (kp := kp) (x1 := x1) (Px.units hu) hi rfl ho hd hz hm
  rw [val_aget inj] at this
  have e : ((aget m k).map enc).isSome = (aget m k).isSome := by cases aget m k <;> rfl
  rw [e] at this
  exact this
theorem px_tdnotinM (inj : ∀ a b, kf a = kf b → a = b) (enc : β → D) (hu : X.A.units + 64 < cLine) (hi : Pa X es g l ((kf k).map kD)) (ho : Px X o g l d1) (hd : Dw X.K l d1 (dE kf enc m)) (hz : (kf k).length ≤ sizeLine) (hm : behindInMarks .NotIn o = false := by first | exact nomark _ | rfl) : Px X (.Compare (.Tuple es x1 kp) [.NotIn] [o] pos) g l (.bl (!(aget m k).isSome)) := by
  have := px_tdnotin0 (pos := pos) (kp := kp) (x1 := x1) (Px.units hu) hi rfl ho hd hz hm
  rw [val_aget inj] at this
  have e : ((aget m k).map enc).isSome = (aget m k).isSome := by cases aget m k <;> rfl
  rw [e] at this
  exact this
theorem ts_tdinM (inj : ∀ a b, kf a = kf b → a = b) (enc : β → D) (hu : X.A.units + 64 < cLine) (hi : Pa X es g l ((kf k).map kD)) (ho : Px X o g l d1) (hd : Dw X.K l d1 (dE kf enc m)) (hz : (kf k).length ≤ sizeLine) (hm : behindInMarks .In o = false := by first | exact nomark _ | rfl) : Ts X (.Compare (.Tuple es x1 kp) [.In] [o] pos) g l (aget m k).isSome := by
  have := ts_tdin0 (pos := pos) (kp := kp) (x1 := x1) (Px.units hu) hi rfl ho hd hz hm
  rw [val_aget inj] at this
  have e : ((aget m k).map enc).isSome = (aget m k).isSome := by cases aget m k <;> rfl
  rw [e] at this
  exact this
theorem ts_tdnotinM (inj : ∀ a b, kf a = kf b → a = b) (enc : β → D) (hu : X.A.units + 64 < cLine) (hi : Pa X es g l ((kf k).map kD)) (ho : Px X o g l d1) (hd : Dw X.K l d1 (dE kf enc m)) (hz : (kf k).length ≤ sizeLine) (hm : behindInMarks .NotIn o = false := by first | exact nomark _ | rfl) : Ts X (.Compare (.Tuple es x1 kp) [.NotIn] [o] pos) g l (!(aget m k).isSome) := by
  have := ts_tdnotin0 (pos := pos) (kp := kp) (x1 := x1) (Px.units hu) hi rfl ho hd hz hm
  rw [val_aget inj] at this
  have e : ((aget m k).map enc).isSome = (aget m k).isSome := by cases aget m k <;> rfl
  rw [e] at this
  exact this
end
/-! ### lists of lists -/
abbrev llRs (K : PySem.W.Frag) (p : Addr) (ts : List (Addr × List D)) : List Res := ownL K p (ts.map fun t => D.adr t.1) :: ts.map fun t => ownL K t.1 t.2
def ownLL (K : PySem.W.Frag) (p : Addr) (dss : List (List D)) : Res := ⟨fun F M => ∃ ts : List (Addr × List D), ts.map (·.2) = dss ∧ Rs (llRs K p ts) F M, fun e ⟨ts, h, r⟩ => ⟨ts, h, Rs.mono e r⟩, fun ⟨_, _, r⟩ => Rs.nt r⟩
section
variable {X : Cx} {W : WX} {g : Gm} {l : List Res} {Φ : Po} {sts rest : List Stmt} {p q : Addr} {o e x : Expr} {d : D} {pos p2 : Pos}
theorem Blk.unLL {dss : List (List D)} (h : ∀ ts : List (Addr × List D), ts.map (·.2) = dss → Blk X W sts g (llRs X.K p ts ++ l) Φ) : Blk X W sts g (ownLL X.K p dss :: l) Φ := fun en T σ H D s m => by
  obtain ⟨F, M, a⟩ := s
  obtain ⟨A, B, e, dj, ⟨ts, h1, r⟩, r2⟩ := a.rs
  exact h ts h1 en T σ H D ⟨F, M, a.exF, a.exM, a.dj, a.eF, a.nF, a.nM, a.fr, a.sl, a.tm, by rw [e]; exact Rs.app r r2 dj⟩ m
theorem S.toLL {K : PySem.W.Frag} {en : En} {T : Tm} {σ : L2.St} {H : Hp} {ts : List (Addr × List D)} (s : S K en g T (llRs K p ts ++ l) σ H) : S K en g T (ownLL K p (ts.map (·.2)) :: l) σ H := by
  obtain ⟨F, M, a⟩ := s
  obtain ⟨A, B, e, dj, r, r2⟩ := a.rs.split
  exact ⟨F, M, a.exF, a.exM, a.dj, a.eF, a.nF, a.nM, a.fr, a.sl, a.tm, ⟨A, B, e, dj, ⟨ts, rfl, r⟩, r2⟩⟩
theorem Blk.toLL {ts : List (Addr × List D)} (h : Blk X W sts g (ownLL X.K p (ts.map (·.2)) :: l) Φ) : Blk X W sts g (llRs X.K p ts ++ l) Φ := fun en T σ H D s m => h en T σ H D s.toLL m
theorem Px.frs {k : List Res} (h : Px X e g l d) : Px X e g (k ++ l) d := by
  induction k with
  | nil => exact h
  | cons r k ih => exact ih.fr
/-- o[e].append(x) -/
theorem blk_appLL {dss : List (List D)} {n i : Nat} {ds : List D} {j : Int} {apos cpos spos : Pos} (hn : l[n]? = some (ownLL X.K q dss)) (ho : Px X o g (l.eraseIdx n) (.adr q)) (he : Px X e g (l.eraseIdx n) (.int j)) (hx : Px X x g (l.eraseIdx n) d) (hj : j = (i : Int)) (hi : dss[i]? = some ds) (hz : ds.length < sizeLine)
    (h : Blk X W rest g (l.set n (ownLL X.K q (dss.set i (ds ++ [d])))) Φ) (hs : PlainIx e := by intro _ _; rfl)
    (hp : PS X (.Expr (.Call (.Attribute (.Subscript o e spos) "append" apos) [x] [] cpos) pos) (tDrop (tBM X.K "list" rAppend (wpE X (.Subscript o e spos)) (tCons (wpE X x) tNil))) := by exact ps_expr (pe_bm PySem.F.plainAttrs_list PySem.F.slot_list_append PySem.F.type_list_append mt_append pe_wp (pa_cons pe_wp pa_nil))) :
    Blk X W (.Expr (.Call (.Attribute (.Subscript o e spos) "append" apos) [x] [] cpos) pos :: rest) g l Φ := by
  subst hj
  refine Blk.perm (perm_at hn) (Blk.unLL fun ts hts => ?_)
  have hi' : (ts.map (·.2))[i]? = some ds := by rw [hts]; exact hi
  rw [List.getElem?_map] at hi'
  obtain ⟨t, ht, et⟩ := Option.map_eq_some_iff.mp hi'
  have hil : i < ts.length := (List.getElem?_eq_some_iff.mp ht).1
  have hsub : Px X (.Subscript o e spos) g (llRs X.K q ts ++ l.eraseIdx n) (.adr t.1) := px_2 (pe_ix ix_list pe_wp pe_wp hs) (fun F M H v u Q eF eM dj rs f1 f2 k => by
      cases f1
      cases f2
      obtain ⟨vs, fv, hp⟩ := rs.own (k := 0) rfl eM
      have h1 : (ts.map fun t => D.adr t.1)[i]? = some (.adr t.1) := by rw [List.getElem?_map, ht]; rfl
      obtain ⟨v, h2, h3⟩ := fv.get h1
      have hin : atI vs (i : Int) = some v := by
        have hlt : i < vs.length := by rw [fv.length, List.length_map]; exact hil
        have e1 : ixN vs.length (i : Int) = some i := by
          unfold ixN
          rw [if_pos (by omega), if_pos (by omega)]
          rfl
        rw [atI_of e1, h2]
      exact ⟨q, vs, i, v, rfl, rfl, SqL.of hp, hin, k v F H (New.rf eF) h3⟩) ho.frs he.frs
  refine blk_add (k := i + 1) (ds := t.2) hsub hx.frs ?_ (by rw [et]; exact hz) ?_ hp
  · show ((ts.map fun t => ownL X.K t.1 t.2) ++ l.eraseIdx n)[i]? = some (ownL X.K t.1 t.2)
    rw [List.getElem?_append_left (by rw [List.length_map]; exact hil), List.getElem?_map, ht]
    rfl
  · have e1 : (llRs X.K q ts ++ l.eraseIdx n).set (i + 1) (ownL X.K t.1 (t.2 ++ [d])) = llRs X.K q (ts.set i (t.1, t.2 ++ [d])) ++ l.eraseIdx n := by
      show ownL X.K q _ :: (((ts.map fun t => ownL X.K t.1 t.2) ++ l.eraseIdx n).set i _) = ownL X.K q _ :: (((ts.set i (t.1, t.2 ++ [d])).map fun t => ownL X.K t.1 t.2) ++ l.eraseIdx n)
      have e2 : (ts.set i (t.1, t.2 ++ [d])).map (fun t => D.adr t.1) = ts.map fun t => D.adr t.1 := by
        rw [List.map_set]
        refine List.ext_getElem? fun j => ?_
        rw [List.getElem?_set]
        by_cases e : i = j
        · subst e
          rw [if_pos rfl, List.getElem?_map, ht, if_pos (by rw [List.length_map]; exact hil)]
          rfl
        · rw [if_neg e]
      rw [e2, List.set_append_left _ _ (by rw [List.length_map]; exact hil), List.map_set]
    rw [e1]
    refine Blk.toLL (Blk.perm ?_ h)
    have e3 : (ts.set i (t.1, t.2 ++ [d])).map (·.2) = dss.set i (ds ++ [d]) := by rw [List.map_set, hts, et]
    rw [e3]
    have hlt : n < l.length := (List.getElem?_eq_some_iff.mp hn).1
    have := perm_at (r := ownLL X.K q (dss.set i (ds ++ [d]))) (l := l.set n (ownLL X.K q (dss.set i (ds ++ [d])))) (k := n) (by rw [List.getElem?_set_self hlt])
    rw [List.eraseIdx_set_eq] at this
    exact this.symm
theorem fa_lists {K : PySem.W.Frag} {F F' : Hp} (ex : Ex F F') : ∀ {ts : List (Addr × List D)} {B : Hp}, Rs (ts.map fun t => ownL K t.1 t.2) F B → Ex B F' → ∀ {vs : List V}, FdAll K F vs (ts.map fun t => D.adr t.1) → FdAll K F' vs (ts.map fun t => D.lst t.2)
  | [], _, _, _, _, .nil => .nil
  | t :: ts, B, ⟨A', B', e, dj, ⟨xs, f, eA⟩, r⟩, eB, v :: vs, .cons a b => by
    subst e
    subst eA
    cases a
    refine .cons (.lst (eB _ _ (join_l one_same)) (FdAll.mono ex _ f)) (fa_lists ex r (fun x o h => eB x o ?_) b)
    exact (join_r (dj.sym x o h)).trans h
theorem Blk.frzLL {dss : List (List D)} {i : Nat} (hi : nth g i = some (.adr p)) (k : Blk X W sts (g.set i (some (.lst (dss.map D.lst)))) l Φ) : Blk X W sts g (ownLL X.K p dss :: l) Φ := fun en T σ H Z s m => by
  obtain ⟨F, M, q⟩ := s
  obtain ⟨v, hv, fv⟩ := q.sl.nth hi
  cases fv
  obtain ⟨F', M', q', f, _⟩ := q.frzJ (P := fun F' => Fd X.K F' (.ref p) (.lst (dss.map D.lst))) fun A dA hA => by
    have hd : ∀ x o, A x = some o → F x = none := fun x o h => dA.sym x o h
    obtain ⟨ts, hts, A1, B1, e, dj2, ⟨vs, f, eA⟩, r⟩ := hA
    subst e
    subst eA
    have e2 : dss.map D.lst = ts.map fun t => D.lst t.2 := by rw [← hts, List.map_map]; rfl
    rw [e2]
    refine .lst ?_ (fa_lists (fun x o h => join_l h) r (fun x o h => ?_) f)
    · rw [join_r (hd p _ (join_l one_same))]; exact join_l one_same
    · have h' : join (one p (.lst vs)) B1 x = some o := (join_r (dj2.sym x o h)).trans h
      exact (join_r (hd x o h')).trans h'
  refine k en T σ H Z ⟨F', M', q'.slots ?_⟩ m
  have w := q'.sl.set i f
  rw [set_same hv] at w
  exact w
end
section
variable {X : Cx} {W : WX} {g : Gm} {l : List Res} {rest sts : List Stmt} {q : Addr} {o e x : Expr} {pos p2 : Pos} {S1 : Type} {Om : S1 → Po} {α : Type} {enc : α → D} {m : List (List α)}
abbrev llE (enc : α → D) (m : List (List α)) : List (List D) := m.map fun xs => xs.map enc
theorem bo_frzLL {mm : S1} {i kk : Nat} (hi : nth g i = some (.adr q)) (hk : l[kk]? = some (ownLL X.K q (llE enc m))) (h : Bo X W sts (g.set i (some (lstE (lstE enc) m))) (l.eraseIdx kk) Om mm) : Bo X W sts g l Om mm :=
  Blk.perm (perm_at hk) (Blk.frzLL hi (by
    have e : D.lst ((llE enc m).map D.lst) = lstE (lstE enc) m := by
      show D.lst ((m.map _).map _) = _
      rw [List.map_map]
      rfl
    rw [e]
    exact h))
theorem bo_appLL {v0 : α} {n : Nat} {j : Int} {kk : List (List α) → S1} {apos cpos spos : Pos} (enc : α → D) (hn : l[n]? = some (ownLL X.K q (llE enc m))) (ho : Px X o g (l.eraseIdx n) (.adr q)) (he : Px X e g (l.eraseIdx n) (.int j)) (hx : Px X x g (l.eraseIdx n) (enc v0)) (h0 : 0 ≤ j) (h1 : j < (m.length : Int)) (hz : (m.getD j.toNat []).length < 10000)
    (h : ∀ m2, m2 = m.set j.toNat (m.getD j.toNat [] ++ [v0]) → Bo X W rest g (l.set n (ownLL X.K q (llE enc m2))) Om (kk m2)) (hs : PlainIx e := by intro _ _; rfl)
    (hp : PS X (.Expr (.Call (.Attribute (.Subscript o e spos) "append" apos) [x] [] cpos) pos) (tDrop (tBM X.K "list" rAppend (wpE X (.Subscript o e spos)) (tCons (wpE X x) tNil))) := by exact ps_expr (pe_bm PySem.F.plainAttrs_list PySem.F.slot_list_append PySem.F.type_list_append mt_append pe_wp (pa_cons pe_wp pa_nil))) :
    Bo X W (.Expr (.Call (.Attribute (.Subscript o e spos) "append" apos) [x] [] cpos) pos :: rest) g l Om (lt (m.set j.toNat (m.getD j.toNat [] ++ [v0])) kk) := by
  have hl : j.toNat < m.length := by omega
  have ha : m[j.toNat]? = some (m.getD j.toNat []) := by rw [List.getD_eq_getElem?_getD, List.getElem?_eq_getElem hl]; rfl
  refine blk_appLL (i := j.toNat) (ds := (m.getD j.toNat []).map enc) hn ho he hx (by omega) (by rw [List.getElem?_map, ha]; rfl) (by rw [List.length_map]; exact Nat.lt_of_lt_of_le hz (by decide)) ?_ hs hp
  have := h _ rfl
  rw [show llE enc (m.set j.toNat (m.getD j.toNat [] ++ [v0])) = (llE enc m).set j.toNat ((m.getD j.toNat []).map enc ++ [enc v0]) by show List.map _ _ = List.set (List.map _ _) _ _; rw [List.map_set, List.map_append]; rfl] at this
  exact this
end
/-! [[] for x in xs] -/
section
variable {X : Cx} {W : WX} {g g' : Gm} {l l' : List Res} {pos p2 : Pos} {rest : List Stmt}
theorem lc_readLL {lk : List Res} {own : List (Str × Nat)} {gt : TG} {is : List Nat} {ds : List D} {wi : TI} {te : TE} {tt : TT}
    (hw : ∀ en T σ H (R : It → Hp → Prop), S X.K en g T l σ H → (∀ J H1 F M, At X.K en g T l σ H1 F M → JG X.K lk F J ds → R J H1) → wi σ H R) (hk : SubR l lk)
    (his : ∀ i ∈ is, i ∈ own.map (·.2)) (hz : ds.length ≤ sizeLine)
    (hs : ∀ (i : Nat) (d : D), ds[i]? = some d → ∃ es, Tg X.K gt is d es) (htt : ∀ σ H (Q : Bool → Hp → Prop), Q true H → tt σ H Q)
    (hte : ∀ g0 l0 en T σ H (Q : VK), S X.K en g0 T l0 σ H → (∀ q H', S X.K en g0 T (ownL X.K q [] :: l0) σ H' → Q (.ref q) H') → te σ H Q)
    {en : En} {T : Tm} {σ : L2.St} {H : Hp} {Q : VK} (s : S X.K en g T l σ H) (kk : ∀ p H', S X.K en g T (ownLL X.K p (List.replicate ds.length []) :: l) σ H' → Q (.ref p) H') : tLc wi gt tt te (own.map (·.2)) σ H Q := by
  refine hw en T σ H _ s fun J H1 F0 M0 q0 jg => ?_
  intro Dl hD
  refine ⟨fun i m H' => i + m = ds.length ∧ ∃ adrs : List Addr, adrs.length = i ∧ S X.K en (wipeG g (own.map (·.2))) ((T.sl X.K g σ).ex F0) (ownL X.K Dl (adrs.map D.adr) :: ((adrs.map fun a => ownL X.K a []) ++ l)) (L2.wipe σ (own.map (·.2))) H', ⟨ds.length, by simp, [], rfl, ?_⟩, fun i m H' hW => ?_⟩
  · have q1 := q0.newO (r := ownL X.K Dl []) (A := one Dl (.lst [])) (H' := upd H1 Dl (.lst [])) (.new hD) (fun x o z => by obtain ⟨rfl, rfl⟩ := one_some z; exact upd_same) (fun x o z => by obtain ⟨rfl, rfl⟩ := one_some z; exact hD) ⟨[], .nil, rfl⟩
    exact ⟨F0, _, (q1.tmp (T' := (T.sl X.K g σ).ex F0) ⟨.rf, q0.sl, q0.tm⟩).slots (q0.sl.wipe _)⟩
  · obtain ⟨em, adrs, hal, F, M, q⟩ := hW
    obtain ⟨junk0, pk0⟩ := id hk
    obtain ⟨Mk, rk, ek⟩ := Rs.sub (lk := lk) ⟨junk0 ++ (ownL X.K Dl (adrs.map D.adr) :: (adrs.map fun a => ownL X.K a [])), by
      have z : (ownL X.K Dl (adrs.map D.adr) :: ((adrs.map fun a => ownL X.K a []) ++ l)).Perm (l ++ (ownL X.K Dl (adrs.map D.adr) :: (adrs.map fun a => ownL X.K a []))) := List.perm_append_comm (l₁ := ownL X.K Dl (adrs.map D.adr) :: (adrs.map fun a => ownL X.K a []))
      have z2 := z.trans (pk0.append_right _)
      rw [← List.append_assoc]; exact z2⟩ q.rs q.exM
    obtain ⟨jgo, jst, jy⟩ := jg F Mk H' q.tm.1 q.exF ek rk
    cases m with
    | zero =>
      have e : i = ds.length := by omega
      subst e
      refine .inl ⟨jst, kk Dl H' ?_⟩
      have s1 : S X.K en g T (llRs X.K Dl (adrs.map fun a => (a, [])) ++ l) σ H' := by
        have e1 : llRs X.K Dl (adrs.map fun a => (a, ([] : List D))) ++ l = ownL X.K Dl (adrs.map D.adr) :: ((adrs.map fun a => ownL X.K a []) ++ l) := by
          show ownL X.K Dl _ :: (_ ++ l) = _
          rw [List.map_map, List.map_map]
          rfl
        rw [e1]
        exact ⟨F, M, (q.tmp (T' := T) q.tm.2.2).slots q.tm.2.1⟩
      have s2 := s1.toLL
      have e2 : (adrs.map fun a => (a, ([] : List D))).map (·.2) = List.replicate ds.length [] := by
        rw [List.map_map, ← hal]
        exact List.map_const' ..
      rw [e2] at s2
      exact s2
    | succ m =>
      have hi : i < ds.length := by omega
      refine .inr ⟨jgo i hi, fun H2 => ∃ adrs : List Addr, adrs.length = i + 1 ∧ S X.K en (wipeG g (own.map (·.2))) ((T.sl X.K g σ).ex F0) (ownL X.K Dl (adrs.map D.adr) :: ((adrs.map fun a => ownL X.K a []) ++ l)) (L2.wipe σ (own.map (·.2))) H2, fun H2 h => ⟨m, by omega, by omega, h⟩, fun x H2 hy => ?_⟩
      obtain ⟨es, htg⟩ := hs i ds[i] (List.getElem?_eq_getElem hi)
      obtain ⟨F2, nw, fx⟩ := jy i ds[i] x H2 (List.getElem?_eq_getElem hi) hy
      have q2 := q.new nw
      refine htg F2 H2 x _ _ q2.exF fx fun vs fvs => ?_
      refine ⟨by rw [wipe_sets his, wipe_wipe], ?_⟩
      refine htt _ _ _ ?_
      show te _ H2 _
      refine hte _ _ en ((((T.sl X.K g σ).ex F0)).sl X.K (wipeG g (own.map (·.2))) (L2.wipe σ (own.map (·.2)))) _ H2 _ ⟨F2, M, (q2.tmp (T' := (((T.sl X.K g σ).ex F0)).sl X.K (wipeG g (own.map (·.2))) (L2.wipe σ (own.map (·.2)))) ⟨q2.sl, q2.tm⟩).slots (q2.sl.sets fvs)⟩ fun w H4 s4 => ?_
      obtain ⟨F4, M4, q4⟩ := s4
      obtain ⟨ws, fw, hp⟩ := q4.rs.own (k := 1) rfl q4.exM
      refine ⟨ws, hp, ?_, ?_⟩
      · rw [fw.length, List.length_map]
        omega
      · obtain ⟨M5, q5⟩ := q4.putL (k := 1) rfl (fw.app (.cons (.adr w) .nil))
        refine ⟨adrs ++ [w], by rw [List.length_append, hal]; rfl, ?_⟩
        have s5 : S X.K en _ _ _ _ _ := ⟨F4, M5, (q5.tmp (T' := (T.sl X.K g σ).ex F0) q5.tm.2).slots q5.tm.1⟩
        refine S.perm ?_ s5
        show (ownL X.K w [] :: ownL X.K Dl (adrs.map D.adr ++ [.adr w]) :: ((adrs.map fun a => ownL X.K a []) ++ l)).Perm (ownL X.K Dl ((adrs ++ [w]).map D.adr) :: (((adrs ++ [w]).map fun a => ownL X.K a []) ++ l))
        rw [List.map_append, List.map_append, List.append_assoc]
        refine (List.Perm.swap _ _ _).trans (.cons _ ?_)
        exact (List.perm_middle (l₁ := adrs.map fun a => ownL X.K a []) (l₂ := l) (a := ownL X.K w [])).symm
theorem ev_lcLL {tg iter : Expr} {scope : Scope} {own : List (Str × Nat)} {lk : List Res} {gt : TG} {is : List Nat} {ds : List D} (hc : X.calm = true) (hN : X.N.Nodup) (hi : ItwP X tg iter g l lk ds) (ok : BlkOk X.N X.env.scope scope own)
    (hg : Blkc X scope fun Y => PG Y tg gt) (his : ∀ i ∈ is, i ∈ own.map (·.2)) (hz : ds.length ≤ sizeLine)
    (hs : ∀ (i : Nat) (d : D), ds[i]? = some d → ∃ es, Tg X.K gt is d es) (hf : ∀ x, foldedSetIterable iter X.env x = pure x := by intro _; rfl) (hk : SubR l lk := by first | exact subr0 | exact subr1 0 rfl | exact subr1 1 rfl | exact subr1 2 rfl | exact subr1 3 rfl) :
    Ev X (.ListComp (.List [] p2) [⟨tg, iter, [], 0⟩] scope pos) g l (fun d' l' => ∃ p, d' = .adr p ∧ l' = ownLL X.K p (List.replicate ds.length []) :: l) := fun en T σ H Q s k => by
  obtain ⟨wi, pi, hw⟩ := hi
  refine wpE_of (pe_lc hc hN pi ok hg (fun _ _ _ _ _ => pts_nil) teB_pe hf) ?_
  refine lc_readLL hw hk his hz hs (fun σ H Q h => h) (fun g0 l0 en T σ H Q s kk => ?_) s fun p H' s' => ?_
  · intro s0 H0 C cl fp
    refine (ev_lst (X := X.blk s0 H0 scope (compEnvC scope cl C X.env) fp) (pos := p2) pa_n) en T σ H Q s fun v d l' H' h s' => ?_
    obtain ⟨q, e1, e2⟩ := h
    subst e1; subst e2
    obtain ⟨F, M, a⟩ := s'
    have fv := a.tm.1
    cases fv
    exact kk q H' ⟨F, M, a.tmp a.tm.2⟩
  · obtain ⟨F, M, q⟩ := s'
    exact k _ _ _ H' ⟨p, rfl, rfl⟩ ⟨F, M, q.tmp ⟨.adr p, q.tm⟩⟩
variable {S1 : Type} {Om : S1 → Po} {α β : Type}
theorem bo_setLL {tg iter : Expr} {scope : Scope} {own : List (Str × Nat)} {lk : List Res} {gt : TG} {is : List Nat} {xs : List β} {i : Nat} {y : Str} {pos' spos : Pos} {kk : List (List α) → S1} (encX : β → D) (enc : α → D) (hN : X.N.Nodup) (hy : X.N[i]? = some y) (hx : Loc X.env.scope y) (hc : X.calm = true) (hi : ItwP X tg iter g l lk (xs.map encX)) (ok : BlkOk X.N X.env.scope scope own)
    (hg : Blkc X scope fun Y => PG Y tg gt) (his : ∀ i ∈ is, i ∈ own.map (·.2)) (hz : xs.length ≤ 10000)
    (hs : ∀ (i : Nat) (x : β), xs[i]? = some x → ∃ es, Tg X.K gt is (encX x) es)
    (h : ∀ p m, m = List.replicate xs.length [] → Bo X W rest (g.set i (some (.adr p))) (ownLL X.K p (llE enc m) :: l) Om (kk m)) (hf : ∀ x, foldedSetIterable iter X.env x = pure x := by intro _; rfl) (hk : SubR l lk := by first | exact subr0 | exact subr1 0 rfl | exact subr1 1 rfl | exact subr1 2 rfl | exact subr1 3 rfl)
    (hsw : swapsWith (.ListComp (.List [] p2) [⟨tg, iter, [], 0⟩] scope pos) (some (.Name y pos')) spos.line X.env = pure false := by rfl) (hfn : X.fn y = true ∨ X.env.scope.names.lookup y = some .local := by first | exact .inl rfl | exact .inr rfl | assumption) :
    Bo X W (.Assign [.Name y pos'] (.ListComp (.List [] p2) [⟨tg, iter, [], 0⟩] scope pos) spos :: rest) g l Om (lt (List.replicate xs.length []) kk) :=
  blk_setX hN hy hx (ev_lcLL hc hN hi ok hg his (by rw [List.length_map]; exact Nat.le_trans hz (by decide)) (fun i d hd => by
    rw [List.getElem?_map] at hd
    obtain ⟨x, hx, rfl⟩ := Option.map_eq_some_iff.mp hd
    exact hs i x hx) hf hk) (fun d l' ⟨p, e1, e2⟩ => by
      subst e1; subst e2
      have := h p _ rfl
      have e3 : llE enc (List.replicate xs.length []) = List.replicate (xs.map encX).length [] := by
        show List.map _ _ = _
        rw [List.map_replicate, List.length_map]
        rfl
      rw [e3] at this
      exact this) hsw hfn
theorem bo_setLL1 {tg iter : Expr} {scope : Scope} {own : List (Str × Nat)} {lk : List Res} {gt : TG} {is : List Nat} {xs : List β} {i : Nat} {y : Str} {pos' spos : Pos} {kk : List (List α) → S1} (encX : β → D) (enc : α → D) (hN : X.N.Nodup) (hy : X.N[i]? = some y) (hyl : X.env.scope.names.lookup y = some .local) (hc : X.calm = true) (hi : ItwP X tg iter g l lk (xs.map encX)) (ok : BlkOk X.N X.env.scope scope own)
    (hg : Blkc X scope fun Y => PG Y tg gt) (his : ∀ i ∈ is, i ∈ own.map (·.2)) (hz : xs.length ≤ 10000)
    (hs : ∀ (i : Nat) (x : β), xs[i]? = some x → ∃ es, Tg X.K gt is (encX x) es)
    (hsw : swapsWith (.ListComp (.List [] p2) [⟨tg, iter, [], 0⟩] scope pos) (some (.Name y pos')) spos.line X.env = pure true)
    (h : ∀ p m, m = List.replicate xs.length [] → Bo X W rest (g.set i (some (.adr p))) (ownLL X.K p (llE enc m) :: l) Om (kk m)) (hf : ∀ x, foldedSetIterable iter X.env x = pure x := by intro _; rfl) (hk : SubR l lk := by first | exact subr0 | exact subr1 0 rfl | exact subr1 1 rfl | exact subr1 2 rfl | exact subr1 3 rfl) :
    Bo X W (.Assign [.Name y pos'] (.ListComp (.List [] p2) [⟨tg, iter, [], 0⟩] scope pos) spos :: rest) g l Om (lt (List.replicate xs.length []) kk) := by
  obtain ⟨wi, pi, hw⟩ := hi
  refine blk_setLcX (Psi := fun d' l' => ∃ p, d' = .adr p ∧ l' = ownLL X.K p (List.replicate xs.length []) :: l) (ps_setLc hc hN hy hyl hsw pi ok hg (fun _ _ _ _ _ => pts_nil) teB_pe hf) (fun en T σ H Q s k => ?_) fun d l' ⟨p, e1, e2⟩ => by
    subst e1; subst e2
    have := h p _ rfl
    have e3 : llE enc (List.replicate xs.length []) = List.replicate xs.length [] := by
      show List.map _ _ = _
      rw [List.map_replicate]
      rfl
    rw [e3] at this
    exact this
  refine lc_readLL (ds := xs.map encX) hw hk his (by rw [List.length_map]; exact Nat.le_trans hz (by decide)) (fun i d hd => by
    rw [List.getElem?_map] at hd
    obtain ⟨x, hx, rfl⟩ := Option.map_eq_some_iff.mp hd
    exact hs i x hx) (fun σ H Q h => h) (fun g0 l0 en T σ H Q s kk => ?_) s fun p H' s' => ?_
  · intro s0 H0 C cl fp
    refine (ev_lst (X := X.blk s0 H0 scope (compEnvC scope cl C X.env) fp) (pos := p2) pa_n) en T σ H Q s fun v d l' H' h s' => ?_
    obtain ⟨q, e1, e2⟩ := h
    subst e1; subst e2
    obtain ⟨F, M, a⟩ := s'
    have fv := a.tm.1
    cases fv
    exact kk q H' ⟨F, M, a.tmp a.tm.2⟩
  · obtain ⟨F, M, q⟩ := s'
    rw [List.length_map] at q
    exact k _ _ _ H' ⟨p, rfl, rfl⟩ ⟨F, M, q.tmp ⟨.adr p, q.tm⟩⟩
end
/-! a dict with tuples as keys is frozen -/
section
variable {X : Cx} {W : WX} {g : Gm} {l : List Res} {Φ : Po} {S1 : Type}
theorem Blk.frzT {sts : List Stmt} {p : Addr} {kvs : List (List Key × D)} {i : Nat} (hi : nth g i = some (.adr p)) (k : Blk X W sts (g.set i (some (.dT kvs))) l Φ) : Blk X W sts g (ownT X.K p kvs :: l) Φ := fun en T σ H D s m => by
  obtain ⟨F, M, q⟩ := s
  obtain ⟨v, hv, fv⟩ := q.sl.nth hi
  cases fv
  obtain ⟨F', M', q', f, _⟩ := q.frz (P := fun F' => Fd X.K F' (.ref p) (.dT kvs)) fun A hA => by
    obtain ⟨vs, f, rfl⟩ := hA
    have hF : F p = none := by
      obtain ⟨A, B, rfl, _, ⟨_, _, rfl⟩, _⟩ := q.rs
      exact q.dj.sym p _ (join_l one_same)
    exact .dT (by rw [join_r hF]; exact one_same) (FdFs.mono (fun x o h => join_l h) _ f)
  refine k en T σ H D ⟨F', M', q'.slots ?_⟩ m
  have w := q'.sl.set i f
  have e : σ.set i (some (.ref p)) = σ := by
    apply List.ext_getElem?
    intro j
    by_cases z : j = i
    · subst z
      obtain ⟨h1, h2⟩ := List.getElem?_eq_some_iff.mp hv
      rw [List.getElem?_set_self h1, hv]
    · rw [List.getElem?_set_ne (Ne.symm z)]
  rw [e] at w
  exact w
theorem bo_frzT {Om : S1 → Po} {mm : S1} {sts : List Stmt} {q : Addr} {kvs : List (List Key × D)} {i kk : Nat} (hi : nth g i = some (.adr q)) (hk : l[kk]? = some (ownT X.K q kvs)) (h : Bo X W sts (g.set i (some (.dT kvs))) (l.eraseIdx kk) Om mm) : Bo X W sts g l Om mm := Blk.perm (perm_at hk) (Blk.frzT hi h)
end
/-! a target that takes a list apart -/
theorem tg_lst {K : PySem.W.Frag} {is : List Nat} {ds : List D} {n : Nat} (h : is.length = ds.length) (hn : ds.length = n) : Tg K (gLst K n (is.foldr (fun i t => gCons (gName i) t) gNil)) is (.lst ds) ds := fun F H v σ Q e f k => by
  cases f with
  | lst s a => exact ⟨_, _, rfl, SqL.of (e _ _ s), by rw [a.length]; exact hn, tg_seq h a (k _ a)⟩
end Sx
set_option Elab.async false
set_option linter.all false
set_option maxRecDepth 100000
set_option maxHeartbeats 2000000
/-! max(xs, default=d), whole numbers; xs.index(v). -/
namespace Sx
open PySem L2
def maxDf (ns : List Int) (d : Int) : Int := match ns with | [] => d | n :: r => r.foldl max n
section
variable {X : Cx} {g : Gm} {l : List Res} {d : D} {p pos : Pos}
def rMaxDf (K : PySem.W.Frag) : List V → List V → Hp → VK → Prop := fun vs zs H Q => ∃ (a : Addr) (ns : List Int) (d : Int), vs = [V.ref a] ∧ zs = [.int d] ∧ SqL K H a (ns.map V.int) ∧ Q (.int (maxDf ns d)) H
theorem cr_maxD (hc : X.calm = true) (hu : X.A.units + 64 < cLine) : CallRK X (.builtin "max") [Str.ofString "default"] (rMaxDf X.K) := by
  intro pins s σ H vs zs us ws Q I r rz h
  obtain ⟨a, ns, d, rfl, rfl, hs, q⟩ := h
  obtain ⟨its, rv, hl, hz⟩ := I.list hs
  obtain rfl := Vals.ref1 r
  obtain ⟨w1, rfl, e1⟩ := vals1 rz
  obtain ⟨t, rfl⟩ : ∃ t, w1 = Value.int d t := e1
  have hi := rv.ints
  obtain ⟨as, ra⟩ := reads_ints (h := s.heap) hi
  refine PySem.W.max_list_default (xs := ns.map .int) (I.ok.hd hc) hl.isList (by simpa using ra) (alike_intsA ns) (by rw [depth_ints]; omega) (fun e h' tk hk => ?_) (fun y ys i v h' tk bs e hv rd hk => ?_)
  · have e : ns = [] := List.map_eq_nil_iff.mp e
    subst e
    exact ⟨.int d, H, I.kept hk, ⟨_, rfl⟩, q⟩
  · cases ns with
    | nil => cases e
    | cons n ns =>
      have e1 : PyData.int n = y := by injection e
      have e2 : ns.map PyData.int = ys := by injection e
      subst e1; subst e2
      rw [PySem.W.maxD_ints] at rd
      cases rd with
      | int _ t' => exact ⟨.int _, H, I.kept hk, ⟨_, rfl⟩, q⟩
theorem px_maxD {ns : List Int} {d0 : Int} {e1 ed : Expr} {kp : Pos} (hm : X.mg "max" = none) (ha : Px X e1 g l d) (hd : Lq X.K l d (ns.map D.int)) (hdf : Px X ed g l (.int d0)) (hu : X.A.units + 64 < cLine) (hc : X.calm = true := by rfl) (hg : Gl X "max" := by rfl)
    (hs : starEach [e1] X.env = (false, eval e1 X.env) :: starEach [] X.env := by rfl) (he : backTo pos (starEach [e1] X.env) = (false, eval e1 X.env) :: backTo pos (starEach [] X.env) := by rfl) (hpl : (backTo pos (starEach [e1] X.env)).any (·.1) = false := by rfl)
    (hall : (backToKw pos (keywordEach [⟨some (Str.ofString "default"), ed, kp⟩] X.env)).all (·.1.isSome) = true := by rfl) (hnone : (backToKw pos (keywordEach [⟨some (Str.ofString "default"), ed, kp⟩] X.env)).any (·.1.isNone) = false := by rfl) (hks : (backToKw pos (keywordEach [⟨some (Str.ofString "default"), ed, kp⟩] X.env)).filterMap (·.1) = [Str.ofString "default"] := by rfl) :
    Px X (.Call (.Name "max" p) [e1] [⟨some (Str.ofString "default"), ed, kp⟩] pos) g l (.int (maxDf ns d0)) := fun en T σ H Q s k =>
  wpE_of (pe_callBK (cr_maxD hc hu) hg hm (by decide +kernel) (pa_wp (es := [e1])) (pk_cons pe_wp pk_nil) (by decide) (by decide) he hpl hall hnone hks) (by
  refine pa_c ha pa_n hs en T σ H _ s fun vs H1 s1 => ?_
  refine hdf en _ σ H1 _ s1 fun w H2 s2 => ?_
  obtain ⟨F, M, q⟩ := s2
  obtain ⟨fw, f, t⟩ := q.tm
  cases fw
  cases f with
  | cons f1 f2 =>
    cases f2
    obtain ⟨a, ws, rfl, sq, f⟩ := hd.get q.exF q.exM q.rs f1
    have ew := f.ints
    subst ew
    exact ⟨a, ns, d0, rfl, rfl, sq, k _ H2 ⟨F, M, q.tmp ⟨.int _, t⟩⟩⟩)
end
theorem max_ge {ns : List Int} {d x : Int} (h : x ∈ ns) : x ≤ maxDf ns d ∧ maxDf ns d ∈ ns := by
  cases ns with
  | nil => cases h
  | cons n ns =>
    show x ≤ ns.foldl max n ∧ ns.foldl max n ∈ n :: ns
    have key : ∀ (ns : List Int) (n : Int), (∀ x ∈ n :: ns, x ≤ ns.foldl max n) ∧ ns.foldl max n ∈ n :: ns := by
      intro ns
      induction ns with
      | nil => intro n; exact ⟨fun x hx => by rw [List.mem_singleton.mp hx]; exact Int.le_refl _, List.mem_singleton.mpr rfl⟩
      | cons m ns ih =>
        intro n
        obtain ⟨h1, h2⟩ := ih (max n m)
        refine ⟨fun x hx => ?_, ?_⟩
        · show x ≤ ns.foldl max (max n m)
          have h0 := h1 _ List.mem_cons_self
          rcases List.mem_cons.mp hx with e | hx
          · rw [e]; exact Int.le_trans (Int.le_max_left _ _) h0
          · rcases List.mem_cons.mp hx with e | hx
            · rw [e]; exact Int.le_trans (Int.le_max_right _ _) h0
            · exact h1 x (List.mem_cons_of_mem _ hx)
        · show ns.foldl max (max n m) ∈ _
          rcases List.mem_cons.mp h2 with e | hx
          · rw [e]
            rcases Int.le_total n m with l | l
            · rw [Int.max_eq_right l]; exact List.mem_cons_of_mem _ List.mem_cons_self
            · rw [Int.max_eq_left l]; exact List.mem_cons_self
          · exact List.mem_cons_of_mem _ (List.mem_cons_of_mem _ hx)
    exact ⟨(key ns n).1 x h, (key ns n).2⟩
/-! xs.index(v) -/
def idxI (v : Int) : List Int → Nat
  | [] => 0
  | x :: xs => if x = v then 0 else idxI v xs + 1
theorem idxI_ok {v : Int} : ∀ {ns : List Int}, v ∈ ns → ns[idxI v ns]? = some v ∧ ∀ (m : Nat) (z : Int), m < idxI v ns → ns[m]? = some z → z ≠ v
  | [], h => by cases h
  | x :: xs, h => by
    unfold idxI
    by_cases e : x = v
    · rw [if_pos e]
      exact ⟨by rw [e]; rfl, fun m z hm => by omega⟩
    · rw [if_neg e]
      obtain ⟨h1, h2⟩ := idxI_ok ((List.mem_cons.mp h).resolve_left fun z => e z.symm)
      refine ⟨h1, fun m z hm hz => ?_⟩
      cases m with
      | zero => cases hz; exact e
      | succ m => exact h2 m z (by omega) hz
section
variable {X : Cx} {g : Gm} {l : List Res} {d : D} {o e : Expr} {apos pos : Pos}
theorem o_idx {ns : List Int} {v : Int} (hd : Lq X.K l d (ns.map D.int)) (hv : v ∈ ns) : OpM X.K l (rIndex X.K) d [.int v] (.int (idxI v ns : Int)) := fun F M H u vs Q eF eM dj rs f1 f2 k => by
  obtain ⟨a, ws, rfl, sq, f⟩ := hd.get eF eM rs f1
  have ew := f.ints
  subst ew
  cases f2 with
  | cons g1 g2 =>
    cases g2
    cases g1
    obtain ⟨h1, h2⟩ := idxI_ok hv
    refine ⟨a, ns.map V.int, .int v, idxI v ns, .int v, rfl, rfl, sq, rfl, ?_, by rw [List.getElem?_map, h1]; rfl, beq_iff_eq.mpr rfl, fun m z hm hz => ?_, k _ F H (New.rf eF) (.int _)⟩
    · rw [List.all_map]
      exact List.all_eq_true.mpr fun _ _ => rfl
    · rw [List.getElem?_map] at hz
      cases q : ns[m]? with
      | none => rw [q] at hz; cases hz
      | some y =>
        rw [q] at hz
        cases hz
        exact beq_eq_false_iff_ne.mpr (h2 m y hm q)
theorem px_index {ns : List Int} {v : Int} (ho : Px X o g l d) (hd : Lq X.K l d (ns.map D.int)) (hi : Px X e g l (.int v)) (hv : v ∈ ns) (hs : starEach [e] X.env = (false, eval e X.env) :: starEach [] X.env := by rfl)
    (hp : PE X (.Call (.Attribute o "index" apos) [e] [] pos) (tBM X.K "list" (rIndex X.K) (wpE X o) (wpA X [e])) := by exact pe_bm PySem.F.plainAttrs_list PySem.F.slot_list_index PySem.F.type_list_index mt_index pe_wp pa_wp) :
    Px X (.Call (.Attribute o "index" apos) [e] [] pos) g l (.int (idxI v ns : Int)) := px_m hp ho (pa_c hi pa_n hs) (o_idx hd hv) fun F M H u eF eM dj rs f => by
  obtain ⟨a, ws, rfl, sq, _⟩ := hd.get eF eM rs f
  exact .inl ⟨rfl, _, sq⟩
end
/-! k not in d, as a value -/
section
variable {X : Cx} {g : Gm} {l : List Res} {e o : Expr} {d1 d2 : D} {pos : Pos}
theorem px_dnotin {kvs : List (Key × D)} {k : Key} (hu : X.A.units + 1 < cLine) (hi : Px X e g l d2) (hk : d2 = kD k) (ho : Px X o g l d1) (hd : Dv X.K l d1 kvs) (hm : behindInMarks .NotIn o = false := by first | exact nomark _ | rfl) : Px X (.Compare e [.NotIn] [o] pos) g l (.bl (!(valD kvs k).isSome)) := fun en T σ H Q s kk => wpE_of (pe_cmp (pc_dnotin hu pe_wp pe_wp) hm) (by
  subst hk
  refine hi en T σ H _ s fun u H1 s1 => ?_
  refine ho en _ σ H1 _ s1 fun v H2 s2 => ?_
  obtain ⟨F, M, q⟩ := s2
  obtain ⟨a, vs, rfl, hp, f⟩ := hd.get q.exF q.exM q.rs q.tm.1
  have e : (L2.valV vs k).isSome = (valD kvs k).isSome := by
    cases z : valD kvs k with
    | none => rw [f.noV z]; rfl
    | some d => obtain ⟨w, h1, _⟩ := f.valV z; rw [h1]; rfl
  refine ⟨a, _, rfl, .inl ⟨vs, k, hp, q.tm.2.1.key, rfl⟩, ?_⟩
  rw [e]
  exact kk _ H2 ⟨F, M, q.tmp ⟨.bl _, q.tm.2.2⟩⟩)
variable {κ β : Type} [DecidableEq κ] {m : List (κ × β)} {k : κ} {kf : κ → Key}
theorem px_dnotinM (inj : ∀ a b, kf a = kf b → a = b) (enc : β → D) (hu : X.A.units + 64 < cLine) (hi : Px X e g l (kD (kf k))) (ho : Px X o g l d1) (hd : Dv X.K l d1 (dE kf enc m)) (hm : behindInMarks .NotIn o = false := by first | exact nomark _ | rfl) : Px X (.Compare e [.NotIn] [o] pos) g l (.bl (!(aget m k).isSome)) := by
  have := px_dnotin (pos := pos) (Px.units hu) hi rfl ho hd hm
  rw [val_aget inj, Option.isSome_map] at this
  exact this
end
/-! ### a call one of whose arguments makes something owned -/
def PaX (X : Cx) (es : List Expr) (g : Gm) (l : List Res) (Psi : List D → List Res → Prop) : Prop := ∀ en T σ H (Q : List V → Hp → Prop), S X.K en g T l σ H → (∀ vs ds l' H', Psi ds l' → S X.K en g (T.ands X.K vs ds) l' σ H' → Q vs H') → wpA X es σ H Q
section
variable {X : Cx} {g : Gm} {l : List Res} {e : Expr} {es : List Expr} {d : D} {ds : List D} {pos p : Pos} {Psi : D → List Res → Prop} {Chi Chi2 : List D → List Res → Prop}
theorem PaX.imp (h : PaX X es g l Chi) (i : ∀ ds l', Chi ds l' → Chi2 ds l') : PaX X es g l Chi2 := fun en T σ H Q s k => h en T σ H Q s fun vs ds l' H' p s' => k vs ds l' H' (i _ _ p) s'
theorem pax_l (he : Ev X e g l Psi) (hs : starEach [e] X.env = (false, eval e X.env) :: starEach [] X.env := by rfl) : PaX X [e] g l (fun ds l' => ∃ d, ds = [d] ∧ Psi d l') := fun en T σ H Q s k => wpA_of (pa_cons pe_wp pa_nil hs) (by
  refine he en T σ H _ s fun v d l' H1 hp s1 => ?_
  obtain ⟨F, M, a⟩ := s1
  exact k _ _ _ H1 ⟨d, rfl, hp⟩ ⟨F, M, a.tmp ⟨.cons a.tm.1 .nil, a.tm.2⟩⟩)
theorem pax_c (he : Px X e g l d) (h : PaX X es g l Chi) (hs : starEach (e :: es) X.env = (false, eval e X.env) :: starEach es X.env := by rfl) : PaX X (e :: es) g l (fun ds l' => ∃ ds', ds = d :: ds' ∧ Chi ds' l') := fun en T σ H Q s k => wpA_of (pa_cons pe_wp pa_wp hs) (by
  refine he en T σ H _ s fun v H1 s1 => ?_
  refine h en _ σ H1 _ s1 fun vs ds' l' H2 hp s2 => ?_
  obtain ⟨F, M, a⟩ := s2
  exact k _ _ _ H2 ⟨ds', rfl, hp⟩ ⟨F, M, a.tmp ⟨.cons a.tm.2.1 a.tm.1, a.tm.2.2⟩⟩)
variable {α β ι ι' : Type} {ok : α → Prop} {args : α → List D} {own : α → List Res} {dd : α → ι → β → D} {ll : α → ι → β → List Res} {y : Str} {ps : List Str} {k j : Nat}
theorem ev_callOX {m : α → β} (G : Glo X.prog X.w X.K X.mg X.base k y ps (SpN X.K ok args own (fun a => OwnR (dd a) (ll a)) m)) (hr : Room j X.A) (hj : k ≤ j) (a : ι' → α) (hok : ∀ i, ok (a i)) (ha : PaX X (e :: es) g l (fun ds l' => ∃ i, ds = args (a i) ∧ l' = own (a i) ++ l))
    (hg : Gl X y := by rfl) (hdb : (y == ("__debug__" : Str)) = false := by decide) (he : starEach (e :: es) X.env = (false, eval e X.env) :: starEach es X.env := by rfl) (hpl : (backTo pos (starEach es X.env)).any (·.1) = false := by rfl) :
    Ev X (.Call (.Name y p) (e :: es) [] pos) g l (fun d l' => ∃ i i2, d = dd (a i) i2 (m (a i)) ∧ l' = ll (a i) i2 (m (a i)) ++ l) := fun en T σ H Q s kk => by
  obtain ⟨f, fd, F, hm, hk, hb⟩ := G
  refine wpE_of (pe_call F (hr.mono hj) hg hm hk hb .nil pass0 pa_wp hdb he hpl) ?_
  refine ha en T σ H _ s fun vs ds l' H1 hp s1 => ?_
  obtain ⟨i, e1, e2⟩ := hp
  subst e1; subst e2
  rw [List.append_nil]
  exact FnX.use (a i) (hok i) s1 (fun v d l' H' ⟨i2, h1, h2⟩ s' => kk v d _ H' ⟨i, i2, h1, by rw [h2]⟩ s') fun _ _ _ _ h => h.elim
/-- what else is owned then is forgotten -/
theorem evl_junk (h : Ev X e g l (fun d l' => ∃ (p : Addr) (junk : List Res), d = .adr p ∧ l' = ownL X.K p ds :: (junk ++ l))) : EvL X e g l ds := fun en T σ H Q s k => h en T σ H Q s fun v d l' H' ⟨p, junk, e1, e2⟩ s' => by
  subst e1; subst e2
  exact k v _ _ H' ⟨p, rfl, rfl⟩ (S.dropO (l' := junk) (s'.perm (List.perm_middle (l₁ := junk) (l₂ := l) (a := ownL X.K p ds)).symm))
end
end Sx
set_option Elab.async false
set_option linter.all false
set_option maxRecDepth 100000
set_option maxHeartbeats 2000000
/-! sorted(set(..)) of whole numbers; tests that change what is owned; or by truth; + of tuples. -/
namespace Sx
open PySem L2
/-! ### sorted(set(xs)) -/
def ddI : List Int → List Int
  | [] => []
  | x :: r => if x ∈ ddI r then ddI r else x :: ddI r
theorem mem_ddI {x : Int} : ∀ {l : List Int}, x ∈ ddI l ↔ x ∈ l
  | [] => Iff.rfl
  | y :: r => by
    have ih := mem_ddI (x := x) (l := r)
    unfold ddI
    split
    · next h => rw [ih, List.mem_cons]; exact ⟨.inr, fun q => q.elim (fun e => by subst e; exact mem_ddI.mp h) id⟩
    · rw [List.mem_cons, List.mem_cons, ih]
theorem nodup_ddI : ∀ l : List Int, (ddI l).Nodup
  | [] => List.nodup_nil
  | y :: r => by
    unfold ddI
    split
    · exact nodup_ddI r
    · next h => exact List.nodup_cons.mpr ⟨h, nodup_ddI r⟩
def setI (l : List Int) : List Int := sortI (ddI l)
theorem setI_uniq {l m : List Int} (h : l.Pairwise (· < ·)) (hm : ∀ k, k ∈ l ↔ k ∈ m) : l = setI m := by
  refine sortI_uniq ((List.perm_ext_iff_of_nodup (h.imp fun h => Int.ne_of_lt h) (nodup_ddI m)).mpr fun k => by rw [hm, mem_ddI]) (h.imp fun h => Int.le_of_lt h)
theorem setI_self {l : List Int} (h : l.Pairwise (· < ·)) : setI l = l := (setI_uniq h fun _ => Iff.rfl).symm
section
variable {X : Cx}
open PyProof.Rows in
def rSetI (K : PySem.W.Frag) (w : World) : List V → Hp → VK → Prop := fun xs H Q => ∃ (p : Addr) (ns : List Int), xs = [.ref p] ∧ SqT K H p (ns.map V.int) ∧ ns.length ≤ 1000 ∧ ∀ a c, H a = none → c ≤ ns.length → Q (.ref a) (L2.upd H a (SetO w a (fun j => decide (j ∈ ns)) c))
open PyProof.Rows in
theorem cr_setI (hc : X.calm = true) : CallR X (.type "set") (rSetI X.K X.w) := by
  intro pins s σ H xs us Q I r h
  obtain ⟨p0, ns, rfl, hq, hl, q⟩ := h
  rw [Vals.ref1 r]
  obtain ⟨its, rv, pt, hz⟩ := I.tuple hq
  have hi : IntsAre its.toArray.toList ns := ints_of_vals rv
  refine call_set_tupI ns (I.ok.hd hc) (show s.heap.IsTuple p0 its.toArray from pt) hi (by unfold scanBound; omega) fun h' tk c R1 hcn k => ?_
  exact ⟨.ref _, L2.upd H s.heap.objs.size (SetO X.w s.heap.objs.size (fun j => decide (j ∈ ns)) c), I.laid (t' := tk) k (Nat.le_refl _) (setO_new R1), rfl, q _ c (I.hok.fresh (Nat.le_refl _)) hcn⟩
variable {g : Gm} {l : List Res} {d : D} {p pos p2 pos2 : Pos}
theorem ev_sortSet {ns : List Int} {e1 : Expr} (ha : Px X e1 g l (.tup (ns.map D.int))) (hm : X.mg "sorted" = none) (hm2 : X.mg "set" = none) (hz : ns.length < 64) (hc : X.calm = true := by rfl)
    (hg : Gl X "sorted" := by rfl) (hg2 : Gl X "set" := by rfl) (hs : starEach [e1] X.env = (false, eval e1 X.env) :: starEach [] X.env := by rfl)
    (hs2 : starEach [.Call (.Name "set" p2) [e1] [] pos2] X.env = (false, eval (.Call (.Name "set" p2) [e1] [] pos2) X.env) :: starEach [] X.env := by rfl) : EvL X (.Call (.Name "sorted" p) [.Call (.Name "set" p2) [e1] [] pos2] [] pos) g l ((setI ns).map D.int) :=
  ev_new (pe_callB (cr_sortedSet hc) hg hm (by decide +kernel) (pa_cons (pe_callTy (cr_setI hc) hg2 hm2 (by decide +kernel) (pa_wp (es := [e1])) (by decide) (by decide) hs rfl) pa_nil hs2) (by decide) (by decide) hs2 rfl) fun en T σ H Q s k => by
  refine pa_c ha pa_n hs en T σ H _ s fun vs H1 s1 => ?_
  obtain ⟨F, M, q⟩ := s1
  obtain ⟨f, t⟩ := q.tm
  cases f with
  | cons f1 f2 =>
    cases f2
    cases f1 with
    | @tup a ws _ hq fa =>
    have ew := fa.ints
    subst ew
    refine ⟨a, ns, rfl, ex_t q.exF hq, by omega, fun b c hb hcn => ?_⟩
    refine ⟨b, _, c, rfl, upd_same, by omega, fun ns' r hs' hm' hl' hn => ?_⟩
    have e : ns' = setI ns := setI_uniq hs' fun k => by rw [hm']; simp
    subst e
    have n : New F H1 F (L2.upd H1 b (SetO X.w b (fun j => decide (j ∈ ns)) c)) := New.grow q.exF (Ex.new hb)
    exact k r _ _ F M ((q.tmp t).new n) (FdAll.ofInts _) hn
theorem px_sortSet {ns : List Int} {e1 : Expr} (ha : Px X e1 g l (.tup (ns.map D.int))) (hm : X.mg "sorted" = none) (hm2 : X.mg "set" = none) (hz : ns.length < 64) (hc : X.calm = true := by rfl)
    (hg : Gl X "sorted" := by rfl) (hg2 : Gl X "set" := by rfl) (hs : starEach [e1] X.env = (false, eval e1 X.env) :: starEach [] X.env := by rfl)
    (hs2 : starEach [.Call (.Name "set" p2) [e1] [] pos2] X.env = (false, eval (.Call (.Name "set" p2) [e1] [] pos2) X.env) :: starEach [] X.env := by rfl) : Px X (.Call (.Name "sorted" p) [.Call (.Name "set" p2) [e1] [] pos2] [] pos) g l (.lst ((setI ns).map D.int)) :=
  (ev_sortSet ha hm hm2 hz hc hg hg2 hs hs2).frz
/-! ### + of tuples -/
theorem o_catT {ds es : List D} (hz : ds.length + es.length ≤ sizeLine) : Op2 X.K l (rCatA X.K) (.tup ds) (.tup es) (.tup (ds ++ es)) := fun F M H v u Q eF eM dj rs f1 f2 k => by
  cases f1 with
  | @tup a vs _ ha fa =>
  cases f2 with
  | @tup b ws _ hb fb =>
  refine ⟨a, b, vs, ws, rfl, rfl, ex_t eF ha, ex_t eF hb, by rw [fa.length, fb.length]; exact hz, fun e => ?_, fun _ e => ?_, fun _ _ p hp => ?_⟩
  · subst e; cases fa; exact k _ F H (.rf eF) (.tup hb fb)
  · subst e; cases fb; rw [List.append_nil] at k; exact k _ F H (.rf eF) (.tup ha fa)
  · have n := New.upd (o := .tup (vs ++ ws)) eF hp
    exact k _ _ _ n (.tup (SqT.of upd_same) ((FdAll.mono n.f _ fa).app (FdAll.mono n.f _ fb)))
theorem px_catT {α : Type} (enc : α → D) {xs ys : List α} {a b : Expr} {pos : Pos} (ha : Px X a g l (.tup (xs.map enc))) (hb : Px X b g l (.tup (ys.map enc))) (hz : xs.length + ys.length ≤ 10000) : Px X (.BinOp a .Add b pos) g l (.tup ((xs ++ ys).map enc)) :=
  Px.to (px_op op_catA ha hb (o_catT (by rw [List.length_map, List.length_map]; exact Nat.le_trans hz (by decide)))) (by rw [List.map_append])
/-! ### x or y by truth -/
/-- how a datum is by truth -/
def TrD (K : PySem.W.Frag) (d : D) (k : Bool) : Prop := ∀ F H v, Ex F H → Fd K F v d → TruV K v H k
theorem tr_non {K : PySem.W.Frag} : TrD K .non false := fun F H v e f => by cases f; rfl
theorem tr_lst {K : PySem.W.Frag} {ds : List D} : TrD K (.lst ds) (!ds.isEmpty) := fun F H v e f => by
  cases f with
  | @lst a vs _ h fa => exact .inl ⟨vs, SqL.of (e _ _ h), by cases fa <;> rfl⟩
theorem px_orV {a b : Expr} {rest : List Expr} {pos : Pos} {d1 : D} {k : Bool} (ha : Px X a g l d1) (ht : TrD X.K d1 k) (h1 : k = true → d1 = d) (hb : k = false → Px X (.BoolOp .Or (b :: rest) pos) g l d) : Px X (.BoolOp .Or (a :: b :: rest) pos) g l d := fun en T σ H Q s kk => wpE_of (pe_orT pe_wp pe_wp) (by
  refine ha en T σ H _ s fun v H1 s1 => ?_
  obtain ⟨F, M, q⟩ := s1
  have f := q.tm.1
  refine ⟨k, ht F H1 v q.exF f, ?_⟩
  cases k with
  | true => rw [if_pos rfl]; rw [h1 rfl] at q; exact kk v H1 ⟨F, M, q⟩
  | false => rw [if_neg (by decide)]; exact hb rfl en T σ H1 Q ⟨F, M, q.tmp q.tm.2⟩ kk)
/-- x or []: x a list or None -/
theorem px_orL {α : Type} (enc : α → D) {a b : Expr} {pos : Pos} {x : Option (List α)} (ha : Px X a g l (optE (lstE enc) x)) (hb : Px X b g l (.lst [])) : Px X (.BoolOp .Or [a, b] pos) g l (lstE enc (x.getD [])) := by
  cases x with
  | none => exact px_orV ha tr_non (fun h => by cases h) fun _ => px_one hb
  | some xs =>
    refine px_orV ha (tr_lst (ds := xs.map enc)) (fun _ => rfl) fun h => px_one ?_
    cases xs with
    | nil => exact hb
    | cons x r => cases h
theorem nn_lst {α : Type} {f : α → D} {x : List α} {p : PyData} (h : (lstE f x).py = some p) : PyData.eqv .none p = false ∧ PyData.eqv p .none = false := by
  unfold D.py at h
  obtain ⟨ps, _, rfl⟩ := Option.map_eq_some_iff.mp h
  exact ⟨rfl, rfl⟩
/-! ### enumerate of an owned list -/
theorem it_enumO {e : Expr} {elts : List Expr} {kk : Nat} {tpos pp : Pos} {ds : List D} {q : Addr} {k : Nat} (h : Px X e g l (.adr q)) (hk : l[k]? = some (ownL X.K q ds)) (hm : X.mg "enumerate" = none) (hg : Gl X "enumerate" := by rfl) (hs : starEach [e] X.env = [(false, eval e X.env)] := by rfl) : ItwP X (.Tuple elts kk tpos) (.Call (.Name "enumerate" p) [e] [] pp) g l [ownL X.K q ds] (enumD ds) :=
  ⟨_, pi_enum hg hm (pa_wp (es := [e])) hs, fun en T σ H R s kx => pa_c h pa_n hs en T σ H _ s fun vs H1 s1 => by
  obtain ⟨F, M, a⟩ := s1
  obtain ⟨f, t⟩ := a.tm
  cases f with
  | cons f1 f2 =>
    cases f2
    cases f1
    obtain ⟨vs, f, hq⟩ := a.rs.own hk a.exM
    refine ⟨_, _, rfl, SqL.of hq, kx _ H1 F M (a.tmp t) fun F' M' H e1 e2 eM rs => ?_⟩
    obtain ⟨vs, f, hq⟩ := rs.own (k := 0) rfl eM
    refine ⟨fun i hi => ?_, ⟨vs, SqL.of hq, by rw [enumD_len, f.length]; exact Nat.le_refl _⟩, fun i d x H' hd hy => ?_⟩
    · have z : i < vs.length := by rw [f.length, ← enumD_len (ds := ds)]; exact hi
      exact ⟨vs, vs[i], SqL.of hq, List.getElem?_eq_getElem z⟩
    · obtain ⟨T, y, rfl, hT, rfl, h⟩ := hy
      obtain ⟨d', hd', rfl⟩ := enumD_get hd
      obtain ⟨v, h1, h2⟩ := f.get hd'
      have e := Option.some.inj (h1.symm.trans (h vs (SqL.of hq)))
      subst e
      have n := New.upd (o := .tup [.int (i : Nat), v]) e2 hT
      exact ⟨_, n, .tup (SqT.of upd_same) (.cons (.int _) (.cons (h2.mono n.f) .nil))⟩⟩
/-! ### len of a dict with tuple keys -/
theorem o_lenDT {kvs : List (List Key × D)} : OpN X.K l rLenT [.dT kvs] (.int (kvs.length : Int)) := fun F M H vs Q eF eM dj rs f kk => by
  cases f with
  | cons f1 f2 =>
    cases f2
    cases f1 with
    | @dT a ws _ h fs => exact ⟨a, ws, rfl, eF _ _ h, by rw [fs.length]; exact kk _ F H (.rf eF) (.int _)⟩
theorem px_lenDT {κ β : Type} {kf : κ → List Key} {enc : β → D} {m : List (κ × β)} {e : Expr} (ha : Px X e g l (.dT (dE kf enc m))) (hm : X.mg "len" = none) (hg : Gl X "len" := by rfl) (hs : starEach [e] X.env = (false, eval e X.env) :: starEach [] X.env := by rfl) : Px X (.Call (.Name "len" p) [e] [] pos) g l (.int (m.length : Int)) := by
  have h := px_bi (pos := pos) (p := p) (x := "len") call_len_dT hm (pa_c ha pa_n hs) (o_lenDT (kvs := dE kf enc m)) hg (by decide +kernel) (by decide) (by decide) hs rfl
  have e : (dE kf enc m).length = m.length := List.length_map ..
  rw [e] at h
  exact h
/-! ### tests that change what is owned -/
variable {W : L2.WX} {α ι β Rr Ll Ss : Type}
/-- the test c tells b, what is owned is ll j then -/
def TsE (X : Cx) (e : Expr) (g : Gm) (l : List Res) (b : Bool) (ll : ι → List Res) : Prop := ∀ en T σ H (Q : Bool → Hp → Prop), S X.K en g T l σ H → (∀ j H', S X.K en g T (ll j) σ H' → Q b H') → wpT X e σ H Q
theorem tse_ev {e : Expr} {s0 : α} {dd : ι → α → D} {ll : ι → α → List Res} {bv : α → Bool} (h : Ev X e g l (fun d l' => ∃ j, d = dd j s0 ∧ l' = ll j s0)) (hd : ∀ j, dd j s0 = .bl (bv s0)) (he : ∀ whole, isTrue e X.env whole = (do let v ← whole; standAt e.pos; holding [v] (truthy v)) := by intro _; rfl) : TsE X e g l (bv s0) (fun j => ll j s0) := fun en T σ H Q s kk => wpT_of (pt_val pe_wp he) (by
  refine h en T σ H _ s fun v d l' H1 ⟨j, e1, e2⟩ s1 => ?_
  subst e2
  rw [e1, hd j] at s1
  obtain ⟨F, M, q⟩ := s1
  have f := q.tm.1
  cases f
  exact ⟨_, rfl, kk j H1 ⟨F, M, q.tmp q.tm.2⟩⟩)
theorem tse_not {a : Expr} {pos : Pos} {b : Bool} {ll : ι → List Res} (h : TsE X a g l b ll) : TsE X (.UnaryOp .Not a pos) g l (!b) ll := fun en T σ H Q s kk => wpT_of (pt_not pt_wp) (h en T σ H _ s kk)
theorem blk_ifX {c : Expr} {A B rest : List Stmt} {pos : Pos} {Φ : Po} {b : Bool} {ll : ι → List Res} (hc : TsE X c g l b ll) (h1 : ∀ j, b = true → Blk X W A g (ll j) { Φ with nx := fun g' l' => Blk X W rest g' l' Φ }) (h2 : ∀ j, b = false → Blk X W B g (ll j) { Φ with nx := fun g' l' => Blk X W rest g' l' Φ }) : Blk X W (.If c A B pos :: rest) g l Φ := fun en T σ H D s m =>
  wpS_of (pss_cons (ps_if pt_wp pss_wp pss_wp) pss_wp) (by
    refine hc en T σ H _ s fun j H1 s1 => ?_
    have mm : Mt X.K W en T { Φ with nx := fun g' l' => Blk X W rest g' l' Φ } { D with nx := wpS X rest D } := m.seq fun g' l' σ' H' p s' => p en T σ' H' D s' m
    cases b with
    | true => exact h1 j rfl en T σ H1 _ s1 mm
    | false => exact h2 j rfl en T σ H1 _ s1 mm)
theorem bo_ifRX {c : Expr} {A rest : List Stmt} {pos : Pos} {RT : Rr → Re} {bv : α → Bool} {s0 : α} {r1 r2 : α → Rr} {ll : ι → α → List Res} (hc : TsE X c g l (bv s0) (fun j => ll j s0)) (h1 : ∀ j s, s = s0 → bv s = true → Bo X W A g (ll j s) (Rt RT) (r1 s)) (h2 : ∀ j s, s = s0 → bv s = false → Bo X W rest g (ll j s) (Rt RT) (r2 s)) : Bo X W (.If c A [] pos :: rest) g l (Rt RT) (lt s0 fun s => cond (bv s) (r1 s) (r2 s)) := by
  show Bo X W _ g l (Rt RT) (cond (bv s0) (r1 s0) (r2 s0))
  refine blk_ifX hc (fun j e => ?_) fun j e => ?_
  · rw [e]; exact (h1 j _ rfl e).imp (fun _ _ h => h.elim) (fun _ _ h => h) (fun _ _ h => h) (fun _ _ h => h) (fun _ _ _ _ h => h)
  · rw [e]; exact blk_nil (h2 j _ rfl e)
theorem bo_ifOX {c : Expr} {A rest : List Stmt} {pos : Pos} {RT : Rr → Re} {GL : Ll → Gm} {RL : Ll → List Res} {NX : Ss → Gm → List Res → Prop} {bv : α → Bool} {s0 : α} {o1 o2 : α → Cf Rr Ll Ss} {ll : ι → α → List Res} (hc : TsE X c g l (bv s0) (fun j => ll j s0)) (h1 : ∀ j s, s = s0 → bv s = true → Bo X W A g (ll j s) (Ou RT GL RL NoNx) (o1 s)) (h2 : ∀ j s, s = s0 → bv s = false → Bo X W rest g (ll j s) (Ou RT GL RL NX) (o2 s)) : Bo X W (.If c A [] pos :: rest) g l (Ou RT GL RL NX) (lt s0 fun s => cond (bv s) (o1 s) (o2 s)) := by
  show Bo X W _ g l (Ou RT GL RL NX) (cond (bv s0) (o1 s0) (o2 s0))
  refine blk_ifX hc (fun j e => ?_) fun j e => ?_
  · rw [e]
    have h1 := h1 j _ rfl e
    unfold Bo at h1
    show Blk X W A g (ll j s0) { Ou RT GL RL NX (o1 s0) with nx := _ }
    revert h1
    cases o1 s0 with
    | nx s => exact fun h1 => h1.imp (fun _ _ h => h.elim) (fun _ _ h => h.elim) (fun _ _ h => h.elim) (fun _ _ h => h.elim) (fun _ _ _ _ h => h.elim)
    | rt s => exact fun h1 => h1.imp (fun _ _ h => h.elim) (fun _ _ h => h) (fun _ _ h => h.elim) (fun _ _ h => h.elim) (fun _ _ _ _ h => h)
    | bk s => exact fun h1 => h1.imp (fun _ _ h => h.elim) (fun _ _ h => h.elim) (fun _ _ h => h) (fun _ _ h => h.elim) (fun _ _ _ _ h => h.elim)
    | ct s => exact fun h1 => h1.imp (fun _ _ h => h.elim) (fun _ _ h => h.elim) (fun _ _ h => h.elim) (fun _ _ h => h) (fun _ _ _ _ h => h.elim)
  · rw [e]
    have := h2 j _ rfl e
    exact blk_nil this
/-- xs.append(..), the list not read behind it -/
theorem bo_appJ {o e : Expr} {rest : List Stmt} {kk : Nat} {q : Addr} {apos cpos pos : Pos} {ds : List D} {d : D} {Om : β → Po} {m : β} (ho : Px X o g l (.adr q)) (hk : l[kk]? = some (ownL X.K q ds)) (he : Px X e g l d) (hz : ds.length < 10000) (h : Bo X W rest g (l.eraseIdx kk) Om m)
    (hp : PS X (.Expr (.Call (.Attribute o "append" apos) [e] [] cpos) pos) (tDrop (tBM X.K "list" rAppend (wpE X o) (tCons (wpE X e) tNil))) := by exact ps_expr (pe_bm PySem.F.plainAttrs_list PySem.F.slot_list_append PySem.F.type_list_append mt_append pe_wp (pa_cons pe_wp pa_nil))) :
    Bo X W (.Expr (.Call (.Attribute o "append" apos) [e] [] cpos) pos :: rest) g l Om m := by
  refine blk_app ho he hk (Nat.lt_of_lt_of_le hz (by decide)) ?_ hp
  have hlt := (List.getElem?_eq_some_iff.mp hk).1
  refine Blk.perm (l' := [ownL X.K q (ds ++ [d])] ++ l.eraseIdx kk) ?_ (Blk.dropO h)
  have := perm_at (l := l.set kk (ownL X.K q (ds ++ [d]))) (k := kk) (r := ownL X.K q (ds ++ [d])) (by rw [List.getElem?_set_self hlt])
  rw [List.eraseIdx_set_eq] at this
  exact this
end
end Sx
set_option Elab.async false
set_option linter.all false
set_option maxRecDepth 100000
set_option maxHeartbeats 2000000
/-! Owned dicts, keys tuples, of owned lists. -/
namespace Sx
open PySem L2
section
variable {X : Cx}
/-- d.setdefault(t, x), t a tuple -/
def rSetdT : V → List V → Hp → VK → Prop := fun x xs H Q => ∃ (a : Addr) (kvs : List (List Key × V)) (k : List Key) (b : Addr) (d : V), x = .ref a ∧ xs = [.ref b, d] ∧ H a = some (.dT kvs) ∧ H b = some (.tup (k.map kV)) ∧ kvs.length < sizeLine ∧
  (∀ v, valV kvs k = some v → Q v H) ∧ (valV kvs k = none → Q d (L2.upd H a (.dT (L2.putK kvs k d))))
theorem mt_setdT (hu : X.A.units + 1 < cLine) : MtR X "dict.setdefault" rSetdT := by
  intro pins s σ H x xs v us Q I rx rxs h
  obtain ⟨a, kvs, k, b, d, rfl, rfl, ha, hb, hl, q1, q2⟩ := h
  cases rx
  obtain ⟨u1, u2, rfl, r1, r2⟩ := vals2 rxs
  cases r1
  obtain ⟨z, hd, xs', rel, dd⟩ := dt_of I.hok ha
  have hz : xs'.length ≤ sizeLine := by rw [← Paired.length rel]; exact z
  have e := (rel.val k)
  refine call_setdefault_heap (knd := tupleKind (mixKind X.prog X.w)) (k := k) (tupleKind_room_in1 hu) (L2.key_of I.hok hb) hd dd (fun p hp => ?_) (fun hn h' dd' hs => ?_) hz
  · rw [hp] at e
    cases ev : valV kvs k with
    | none => rw [ev] at e; exact (show False from e).elim
    | some v0 =>
      rw [ev] at e
      exact ⟨v0, H, I.tok _, e, q1 v0 ev⟩
  · rw [hn] at e
    cases ev : valV kvs k with
    | some v0 => rw [ev] at e; exact (show False from e).elim
    | none =>
      obtain ⟨q, es, ep, hq, h2, h3, h4, _, h5⟩ := dd'
      have hl2 : (L2.putK kvs k d).length ≤ sizeLine := by have := length_putK kvs k d; omega
      refine ⟨d, L2.upd H a (.dT (L2.putK kvs k d)), d_write I (by rw [ha]; exact True.intro) hs ⟨q, hq⟩ ⟨hl2, hd, _, (rel.put k hb r2).keeps fun c ys ec => ?_, q, es, ep, hq, h2, h3, h4, h5⟩, r2, q2 ev⟩
      rw [upd_ne (ne_of ec ha (fun z => nomatch z))]
      exact ec
end
/-- a dict and its lists, written out -/
abbrev tlRs (K : PySem.W.Frag) (p : Addr) (ts : List (List Key × Addr × List D)) : List Res := ownT K p (ts.map fun t => (t.1, D.adr t.2.1)) :: ts.map fun t => ownL K t.2.1 t.2.2
abbrev tlK (ts : List (List Key × Addr × List D)) : List (List Key × List D) := ts.map fun t => (t.1, t.2.2)
def ownTL (K : PySem.W.Frag) (p : Addr) (kvs : List (List Key × List D)) : Res := ⟨fun F M => ∃ ts, tlK ts = kvs ∧ Rs (tlRs K p ts) F M, fun e ⟨ts, h, r⟩ => ⟨ts, h, Rs.mono e r⟩, fun ⟨_, _, r⟩ => Rs.nt r⟩
section
variable {X : Cx} {W : WX} {g : Gm} {l : List Res} {Φ : Po} {sts rest : List Stmt} {p q : Addr} {o e x : Expr} {d : D} {pos p2 : Pos}
theorem Blk.unTL {kvs : List (List Key × List D)} (h : ∀ ts, tlK ts = kvs → Blk X W sts g (tlRs X.K p ts ++ l) Φ) : Blk X W sts g (ownTL X.K p kvs :: l) Φ := fun en T σ H D s m => by
  obtain ⟨F, M, a⟩ := s
  obtain ⟨A, B, e, dj, ⟨ts, h1, r⟩, r2⟩ := a.rs
  exact h ts h1 en T σ H D ⟨F, M, a.exF, a.exM, a.dj, a.eF, a.nF, a.nM, a.fr, a.sl, a.tm, by rw [e]; exact Rs.app r r2 dj⟩ m
theorem Blk.toTL {ts : List (List Key × Addr × List D)} (h : Blk X W sts g (ownTL X.K p (tlK ts) :: l) Φ) : Blk X W sts g (tlRs X.K p ts ++ l) Φ := fun en T σ H D s m => by
  obtain ⟨F, M, a⟩ := s
  obtain ⟨A, B, e, dj, r, r2⟩ := a.rs.split
  exact h en T σ H D ⟨F, M, a.exF, a.exM, a.dj, a.eF, a.nF, a.nM, a.fr, a.sl, a.tm, ⟨A, B, e, dj, ⟨ts, rfl, r⟩, r2⟩⟩ m
theorem blk_setdT {n : Nat} {kvs : List (List Key × D)} {k : List Key} {es : List Expr} {x1 : Nat} {tp : Pos} {apos cpos spos dpos : Pos} (hu : X.A.units + 64 < cLine) (ho : Px X o g l (.adr q)) (he : Pa X es g l (k.map kD)) (hkz : k.length ≤ sizeLine) (hn : l[n]? = some (ownT X.K q kvs)) (hz : kvs.length < 10000) (hx : ∀ l', Px X x g l' d)
    (hit : ∀ v, valD kvs k = some v → ∃ q' m ds, v = .adr q' ∧ l[m]? = some (ownL X.K q' ds) ∧ ds.length < sizeLine ∧ Blk X W rest g (l.set m (ownL X.K q' (ds ++ [d]))) Φ)
    (miss : valD kvs k = none → ∀ q', Blk X W rest g (ownL X.K q' [d] :: l.set n (ownT X.K q (putKD kvs k (.adr q')))) Φ)
    (hp0 : PS X (.Expr (.Call (.Attribute (.Call (.Attribute o "setdefault" spos) [.Tuple es x1 tp, .List [] p2] [] dpos) "append" apos) [x] [] cpos) pos) (tDrop (tBM X.K "list" rAppend (tBM X.K "dict" rSetdT (wpE X o) (tCons (tTup (wpA X es)) (tCons (wpE X (.List [] p2)) tNil))) (tCons (wpE X x) tNil))) := by exact ps_expr (pe_bm PySem.F.plainAttrs_list PySem.F.slot_list_append PySem.F.type_list_append mt_append (pe_bm PySem.F.plainAttrs_dict PySem.F.slot_dict_setdefault PySem.F.type_dict_setdefault (mt_setdT (Px.units (by assumption))) pe_wp (pa_cons (pe_tup pa_wp) (pa_cons pe_wp pa_nil))) (pa_cons pe_wp pa_nil))) :
    Blk X W (.Expr (.Call (.Attribute (.Call (.Attribute o "setdefault" spos) [.Tuple es x1 tp, .List [] p2] [] dpos) "append" apos) [x] [] cpos) pos :: rest) g l Φ := fun en T σ H D s mm => wpS_of (pss_cons hp0 pss_wp) (by
  refine ho en T σ H _ s fun v H1 s1 => ?_
  obtain ⟨F1, M1, q1⟩ := id s1
  have fv := q1.tm.1
  cases fv
  obtain ⟨vs1, f1, hp1⟩ := q1.rs.ownT hn q1.exM
  refine ⟨.inr (.inr (.inl ⟨rfl, .inr ⟨_, hp1⟩⟩)), ?_⟩
  refine he en _ σ H1 _ s1 fun us H2 s2 => ?_
  obtain ⟨F, M, q2⟩ := s2
  have ek := q2.tm.1.keys
  subst ek
  refine ⟨by rw [List.length_map]; exact hkz, fun p hpn => ?_⟩
  have nw := New.upd (o := .tup (k.map kV)) q2.exF hpn
  have q3 := q2.new nw
  refine (ev_lst (pos := p2) pa_n) en ((T.and X.K (.ref q) (.adr q)).ex (L2.upd F p (.tup (k.map kV)))) σ _ _ ⟨_, M, q3.tmp ⟨.rf, T.mono nw.f q2.tm.2.2 |> fun z => ⟨.adr q, z⟩⟩⟩ fun z dz l' H3 h3 s3 => ?_
  obtain ⟨q0, e1, e2⟩ := h3
  subst e1; subst e2
  obtain ⟨F3, M3, a⟩ := id s3
  obtain ⟨vs, fvs, hp⟩ := a.rs.ownT (k := n + 1) hn a.exM
  have fz := a.tm.1
  cases fz
  have hkt : H3 p = some (.tup (k.map kV)) := a.exF _ _ (a.tm.2.1 _ _ upd_same)
  have a0 := a.tmp (T' := T) a.tm.2.2.2
  unfold rSetdT
  refine ⟨q, vs, k, p, .ref q0, rfl, rfl, hp, hkt, by rw [fvs.length]; exact Nat.lt_of_lt_of_le hz (by decide), fun w hw => ?_, fun hw => ?_⟩
  · cases qd : valD kvs k with
    | none => exact absurd (fvs.noV qd) (by rw [hw]; simp)
    | some d' =>
      obtain ⟨q', m, ds, rfl, hm', hds, hb⟩ := hit d' qd
      obtain ⟨w', h1, h2⟩ := fvs.valV qd
      rw [hw] at h1
      cases h1
      cases h2
      have s4 : S X.K en g T l σ H3 := S.dropO (l' := [ownL X.K q0 []]) ⟨F3, M3, a0⟩
      obtain ⟨F4, M4, a4⟩ := id s4
      obtain ⟨ws, _, hp4⟩ := a4.rs.own hm' a4.exM
      refine ⟨.inl ⟨rfl, _, SqL.of hp4⟩, ?_⟩
      refine hx l en _ σ H3 _ s4 fun u' H5 s5 => ?_
      obtain ⟨F5, M5, a5⟩ := s5
      obtain ⟨xs, fxs, hp5⟩ := a5.rs.own hm' a5.exM
      refine ⟨q', xs, u', rfl, rfl, hp5, by rw [fxs.length]; exact hds, ?_⟩
      obtain ⟨M6, a6⟩ := (a5.tmp (T' := T) a5.tm.2).putL hm' (fxs.app (.cons a5.tm.1 .nil))
      exact hb en T σ _ D ⟨F5, M6, a6⟩ mm
  · have qd : valD kvs k = none := by
      cases qd : valD kvs k with
      | none => rfl
      | some d' =>
        obtain ⟨w', h1, h2⟩ := fvs.valV qd
        rw [hw] at h1; cases h1
    obtain ⟨M', a'⟩ := a0.putOne (k := n + 1) (p := q) (r' := ownT X.K q (putKD kvs k (.adr q0))) (o' := .dT (L2.putK vs k (.ref q0))) hn (fun A ⟨_, _, e⟩ => ⟨_, e⟩) ⟨_, fvs.putK (.adr q0), rfl⟩
    have s4 : S X.K en g T (ownL X.K q0 [] :: l.set n (ownT X.K q (putKD kvs k (.adr q0)))) σ _ := ⟨F3, M', a'⟩
    obtain ⟨ws, _, hp4⟩ := a'.rs.own (k := 0) rfl a'.exM
    refine ⟨.inl ⟨rfl, _, SqL.of hp4⟩, ?_⟩
    refine hx _ en _ σ _ _ s4 fun u' H5 s5 => ?_
    obtain ⟨F5, M5, a5⟩ := s5
    obtain ⟨xs, fxs, hp5⟩ := a5.rs.own (k := 0) rfl a5.exM
    refine ⟨q0, xs, u', rfl, rfl, hp5, by rw [fxs.length]; exact (by decide), ?_⟩
    obtain ⟨M6, a6⟩ := (a5.tmp (T' := T) a5.tm.2).putL (k := 0) rfl (fxs.app (.cons a5.tm.1 .nil))
    exact miss qd q0 en T σ _ D ⟨F5, M6, a6⟩ mm)
end
abbrev tlE' {κ α : Type} (kf : κ → List Key) (enc : α → D) (m : List (κ × List α)) : List (List Key × List D) := m.map fun kv => (kf kv.1, kv.2.map enc)
theorem alapp_encT {κ α : Type} [DecidableEq κ] {kf : κ → List Key} (inj : ∀ a b, kf a = kf b → a = b) {enc : α → D} {k : κ} {v : α} : ∀ m : List (κ × List α), alapp (tlE' kf enc m) (kf k) (enc v) = tlE' kf enc (alapp m k v)
  | [] => rfl
  | (k', ds) :: m => by
    show (if kf k' = kf k then _ else _) = tlE' kf enc (if k' = k then _ else _)
    by_cases e : k' = k
    · rw [if_pos e, if_pos (congrArg kf e)]
      show (kf k', ds.map enc ++ [enc v]) :: tlE' kf enc m = (kf k', (ds ++ [v]).map enc) :: tlE' kf enc m
      rw [List.map_append]
      rfl
    · rw [if_neg e, if_neg fun z => e (inj _ _ z)]
      show (kf k', ds.map enc) :: alapp (tlE' kf enc m) (kf k) (enc v) = (kf k', ds.map enc) :: tlE' kf enc (alapp m k v)
      rw [alapp_encT inj m]
abbrev tlA (ts : List (List Key × Addr × List D)) : List (List Key × D) := ts.map fun t => (t.1, D.adr t.2.1)
theorem tl_hit {k : List Key} {d : D} : ∀ {ts : List (List Key × Addr × List D)} {v : D}, valD (tlA ts) k = some v → ∃ (i : Nat) (t : List Key × Addr × List D), ts[i]? = some t ∧ t.1 = k ∧ v = .adr t.2.1 ∧ tlK (ts.set i (t.1, t.2.1, t.2.2 ++ [d])) = alapp (tlK ts) k d
  | [], _, h => by cases h
  | t :: ts, v, h => by
    unfold valD tlA at h
    rw [List.map_cons, List.find?_cons] at h
    by_cases e : t.1 = k
    · rw [decide_eq_true e] at h
      cases h
      refine ⟨0, t, rfl, e, rfl, ?_⟩
      show (t.1, t.2.2 ++ [d]) :: tlK ts = (if t.1 = k then _ else _)
      rw [if_pos e]
    · rw [decide_eq_false e] at h
      obtain ⟨i, t', h1, h2, h3, h4⟩ := tl_hit (d := d) (ts := ts) h
      refine ⟨i + 1, t', h1, h2, h3, ?_⟩
      show (t.1, t.2.2) :: tlK (ts.set i _) = (if t.1 = k then _ else _)
      rw [if_neg e, h4]
theorem tl_miss {k : List Key} {d : D} {q' : Addr} : ∀ {ts : List (List Key × Addr × List D)}, valD (tlA ts) k = none → alapp (tlK ts) k d = tlK (ts ++ [(k, q', [d])]) ∧ (tlA ts).any (fun kv => decide (kv.1 = k)) = false
  | [], _ => ⟨rfl, rfl⟩
  | t :: ts, h => by
    unfold valD tlA at h
    rw [List.map_cons, List.find?_cons] at h
    by_cases e : t.1 = k
    · rw [decide_eq_true e] at h; cases h
    · rw [decide_eq_false e] at h
      obtain ⟨h1, h2⟩ := tl_miss (d := d) (q' := q') (ts := ts) h
      constructor
      · show (if t.1 = k then _ else _) = (t.1, t.2.2) :: tlK (ts ++ [_])
        rw [if_neg e, ← h1]
      · show (decide (t.1 = k) || (tlA ts).any _) = false
        rw [decide_eq_false e, h2]
        rfl
section
variable {X : Cx} {W : WX} {g : Gm} {l : List Res} {rest : List Stmt} {q : Addr} {o e x : Expr} {pos p2 : Pos} {S1 : Type} {Om : S1 → Po}
theorem bo_setdT {κ α : Type} [DecidableEq κ] {kf : κ → List Key} {m : List (κ × List α)} {k : κ} {v0 : α} {n : Nat} {kk : List (κ × List α) → S1} {es : List Expr} {x1 : Nat} {tp : Pos} {apos cpos spos dpos : Pos} (inj : ∀ a b, kf a = kf b → a = b) (enc : α → D) (ho : ∀ l', Px X o g l' (.adr q)) (hu : X.A.units + 64 < cLine) (he : ∀ l', Pa X es g l' ((kf k).map kD)) (hkz : (kf k).length ≤ sizeLine) (hx : ∀ l', Px X x g l' (enc v0))
    (hl : l[n]? = some (ownTL X.K q (tlE' kf enc m))) (hz : m.length < 10000) (hs : ∀ kv ∈ m, kv.2.length < 10000)
    (h : ∀ m2, m2 = alapp m k v0 → Bo X W rest g (l.set n (ownTL X.K q (tlE' kf enc m2))) Om (kk m2))
    (hp0 : PS X (.Expr (.Call (.Attribute (.Call (.Attribute o "setdefault" spos) [.Tuple es x1 tp, .List [] p2] [] dpos) "append" apos) [x] [] cpos) pos) (tDrop (tBM X.K "list" rAppend (tBM X.K "dict" rSetdT (wpE X o) (tCons (tTup (wpA X es)) (tCons (wpE X (.List [] p2)) tNil))) (tCons (wpE X x) tNil))) := by exact ps_expr (pe_bm PySem.F.plainAttrs_list PySem.F.slot_list_append PySem.F.type_list_append mt_append (pe_bm PySem.F.plainAttrs_dict PySem.F.slot_dict_setdefault PySem.F.type_dict_setdefault (mt_setdT (Px.units (by assumption))) pe_wp (pa_cons (pe_tup pa_wp) (pa_cons pe_wp pa_nil))) (pa_cons pe_wp pa_nil))) :
    Bo X W (.Expr (.Call (.Attribute (.Call (.Attribute o "setdefault" spos) [.Tuple es x1 tp, .List [] p2] [] dpos) "append" apos) [x] [] cpos) pos :: rest) g l Om (lt (alapp m k v0) kk) := by
  have hb := h _ rfl
  have pb : (ownTL X.K q (tlE' kf enc (alapp m k v0)) :: l.eraseIdx n).Perm (l.set n (ownTL X.K q (tlE' kf enc (alapp m k v0)))) := by
    have hlt : n < l.length := (List.getElem?_eq_some_iff.mp hl).1
    have := perm_at (r := ownTL X.K q (tlE' kf enc (alapp m k v0))) (l := l.set n (ownTL X.K q (tlE' kf enc (alapp m k v0)))) (k := n) (by rw [List.getElem?_set_self hlt])
    rw [List.eraseIdx_set_eq] at this
    exact this.symm
  refine Blk.perm (perm_at hl) (Blk.unTL fun ts hts => ?_)
  have hlen : ts.length = m.length := by have := congrArg List.length hts; rwa [List.length_map, List.length_map] at this
  have back : ∀ ts', tlK ts' = tlE' kf enc (alapp m k v0) → Blk X W rest g (tlRs X.K q ts' ++ l.eraseIdx n) (Om (kk (alapp m k v0))) := fun ts' e => Blk.toTL (by rw [e]; exact Blk.perm pb hb)
  refine blk_setdT (n := 0) (kvs := tlA ts) (k := kf k) (d := enc v0) hu (ho _) (he _) hkz rfl (by rw [List.length_map, hlen]; exact hz) hx (fun v hv => ?_) (fun hv q' => ?_) hp0
  · obtain ⟨i, t, h1, h2, h3, h4⟩ := tl_hit (d := enc v0) hv
    have hi : i < ts.length := (List.getElem?_eq_some_iff.mp h1).1
    refine ⟨t.2.1, i + 1, t.2.2, h3, ?_, ?_, ?_⟩
    · show ((ts.map fun t => ownL X.K t.2.1 t.2.2) ++ l.eraseIdx n)[i]? = _
      rw [List.getElem?_append_left (by rw [List.length_map]; exact hi), List.getElem?_map, h1]
      rfl
    · have : (t.1, t.2.2) ∈ tlE' kf enc m := by rw [← hts]; exact List.mem_map.mpr ⟨t, List.mem_of_getElem? h1, rfl⟩
      obtain ⟨kv, h5, h6⟩ := List.mem_map.mp this
      have h7 : kv.2.map enc = t.2.2 := congrArg (·.2) h6
      rw [← h7, List.length_map]
      exact Nat.lt_of_lt_of_le (hs kv h5) (by decide)
    · have e1 : (tlRs X.K q ts ++ l.eraseIdx n).set (i + 1) (ownL X.K t.2.1 (t.2.2 ++ [enc v0])) = tlRs X.K q (ts.set i (t.1, t.2.1, t.2.2 ++ [enc v0])) ++ l.eraseIdx n := by
        show ownT X.K q (tlA ts) :: (((ts.map fun t => ownL X.K t.2.1 t.2.2) ++ l.eraseIdx n).set i _) = ownT X.K q (tlA (ts.set i _)) :: (((ts.set i _).map fun t => ownL X.K t.2.1 t.2.2) ++ l.eraseIdx n)
        have e2 : tlA (ts.set i (t.1, t.2.1, t.2.2 ++ [enc v0])) = tlA ts := by
          unfold tlA
          rw [List.map_set]
          refine List.ext_getElem? fun j => ?_
          rw [List.getElem?_set]
          by_cases e : i = j
          · subst e
            rw [if_pos rfl, List.getElem?_map, h1, if_pos (by rw [List.length_map]; exact hi)]
            rfl
          · rw [if_neg e]
        rw [e2, List.set_append_left _ _ (by rw [List.length_map]; exact hi), List.map_set]
      rw [e1]
      exact back _ (by rw [h4, hts]; exact alapp_encT inj m)
  · obtain ⟨h1, h2⟩ := tl_miss (d := enc v0) (q' := q') hv
    have e1 : putKD (tlA ts) (kf k) (.adr q') = tlA (ts ++ [(kf k, q', [enc v0])]) := by
      unfold putKD
      rw [if_neg (by rw [h2]; simp)]
      unfold tlA
      rw [List.map_append]
      rfl
    refine Blk.perm ?_ (back (ts ++ [(kf k, q', [enc v0])]) (by rw [← h1, hts]; exact alapp_encT inj m))
    show (ownL X.K q' [enc v0] :: ownT X.K q (putKD (tlA ts) (kf k) (.adr q')) :: ((ts.map fun t => ownL X.K t.2.1 t.2.2) ++ l.eraseIdx n)).Perm (ownT X.K q (tlA (ts ++ [(kf k, q', [enc v0])])) :: (((ts ++ [(kf k, q', [enc v0])]).map fun t => ownL X.K t.2.1 t.2.2) ++ l.eraseIdx n))
    rw [e1, List.map_append, List.append_assoc]
    refine (List.Perm.swap _ _ _).trans (.cons _ ?_)
    exact (List.perm_middle (l₁ := ts.map fun t => ownL X.K t.2.1 t.2.2) (l₂ := l.eraseIdx n) (a := ownL X.K q' [enc v0])).symm
end
/-! a dict of lists is frozen; an empty one -/
theorem fs_listsT {K : PySem.W.Frag} {F F' : Hp} (ex : Ex F F') : ∀ {ts : List (List Key × Addr × List D)} {B : Hp}, Rs (ts.map fun t => ownL K t.2.1 t.2.2) F B → Ex B F' → ∀ {vs : List (List Key × V)}, FdFs K F vs (tlA ts) → FdFs K F' vs (ts.map fun t => (t.1, D.lst t.2.2))
  | [], _, _, _, _, .nil => .nil
  | t :: ts, B, ⟨A', B', e, dj, ⟨xs, f, eA⟩, r⟩, eB, (_, v) :: vs, .cons a b => by
    subst e
    subst eA
    cases a
    refine .cons (.lst (eB _ _ (join_l one_same)) (FdAll.mono ex _ f)) (fs_listsT ex r (fun x o h => eB x o ?_) b)
    exact (join_r (dj.sym x o h)).trans h
section
variable {X : Cx} {W : WX} {g : Gm} {l : List Res} {Φ : Po} {sts rest : List Stmt} {p q : Addr} {pos : Pos} {S1 : Type} {Om : S1 → Po}
theorem Blk.frzTL {kvs : List (List Key × List D)} {i : Nat} (hi : nth g i = some (.adr p)) (k : Blk X W sts (g.set i (some (.dT (kvs.map fun kv => (kv.1, D.lst kv.2))))) l Φ) : Blk X W sts g (ownTL X.K p kvs :: l) Φ := fun en T σ H Z s m => by
  obtain ⟨F, M, q⟩ := s
  obtain ⟨v, hv, fv⟩ := q.sl.nth hi
  cases fv
  obtain ⟨F', M', q', f, _⟩ := q.frzJ (P := fun F' => Fd X.K F' (.ref p) (.dT (kvs.map fun kv => (kv.1, D.lst kv.2)))) fun A dA hA => by
    have hd : ∀ x o, A x = some o → F x = none := fun x o h => dA.sym x o h
    obtain ⟨ts, hts, A1, B1, e, dj, ⟨vs, f, eA⟩, r⟩ := hA
    subst e
    subst eA
    have e2 : (kvs.map fun kv => (kv.1, D.lst kv.2)) = ts.map fun t => (t.1, D.lst t.2.2) := by rw [← hts, List.map_map]; rfl
    rw [e2]
    refine .dT ?_ (fs_listsT (fun x o h => join_l h) r (fun x o h => ?_) f)
    · rw [join_r (hd p _ (join_l one_same))]; exact join_l one_same
    · have h' : join (one p (.dT vs)) B1 x = some o := (join_r (dj.sym x o h)).trans h
      exact (join_r (hd x o h')).trans h'
  refine k en T σ H Z ⟨F', M', q'.slots ?_⟩ m
  have w := q'.sl.set i f
  have e : σ.set i (some (.ref p)) = σ := by
    apply List.ext_getElem?
    intro j
    by_cases z : j = i
    · subst z
      obtain ⟨h1, h2⟩ := List.getElem?_eq_some_iff.mp hv
      rw [List.getElem?_set_self h1, hv]
    · rw [List.getElem?_set_ne (Ne.symm z)]
  rw [e] at w
  exact w
theorem bo_frzTL {κ α : Type} [DecidableEq κ] {mm : S1} {kf : κ → List Key} {enc : α → D} {m : List (κ × List α)} {i kk : Nat} (hi : nth g i = some (.adr q)) (hk : l[kk]? = some (ownTL X.K q (tlE' kf enc m))) (h : Bo X W sts (g.set i (some (dtE kf (lstE enc) m))) (l.eraseIdx kk) Om mm) : Bo X W sts g l Om mm :=
  Blk.perm (perm_at hk) (Blk.frzTL hi (by
    have e : D.dT ((tlE' kf enc m).map fun kv => (kv.1, D.lst kv.2)) = dtE kf (lstE enc) m := by
      show D.dT ((m.map _).map _) = _
      rw [List.map_map]
      rfl
    rw [e]
    exact h))
theorem bo_l0T {κ α : Type} {i : Nat} {x : Str} {pos' p2 : Pos} {kk : List (κ × List α) → S1} (kf : κ → List Key) (enc : α → D) (hN : X.N.Nodup) (hi : X.N[i]? = some x) (hx : Loc X.env.scope x) (h : ∀ p m, m = [] → Bo X W rest (g.set i (some (.adr p))) (ownTL X.K p (tlE' kf enc m) :: l) Om (kk m))
    (hs : swapsWith (.Dict [] [] p2) (some (.Name x pos')) pos.line X.env = pure false := by rfl) (hf : X.fn x = true ∨ X.env.scope.names.lookup x = some .local := by first | exact .inl rfl | exact .inr rfl | assumption) :
    Bo X W (.Assign [.Name x pos'] (.Dict [] [] p2) pos :: rest) g l Om (lt [] kk) := blk_setX hN hi hx ev_t0 (fun d l' ⟨p, e1, e2⟩ => by
      subst e1; subst e2
      exact Blk.toTL (ts := []) (h p [] rfl)) hs hf
end
/-! ### sorted(d) of a dict with tuple keys -/
def rSortDT (sh : Nat → Bool) : List V → Hp → VK → Prop := fun vs H Q => ∃ (d : Addr) (kvs : List (List Key × V)), vs = [V.ref d] ∧ Rd H d (.dT kvs) ∧ (∀ kv ∈ kvs, shOk sh 0 kv.1 = true ∧ kv.1 ≠ []) ∧
  ∀ (zs' : List (Addr × List Key)) (p : Addr), (zs'.map (·.2)).Perm (kvs.map (·.1)) → (∀ z ∈ zs', H z.1 = some (.tup (z.2.map kV))) → zs'.Pairwise (fun x y => bltK y.2 x.2 = false) → H p = none → Q (.ref p) (L2.upd H p (.lst (zs'.map fun z => V.ref z.1)))
theorem isKeys_zip {H : Hp} : ∀ {kvs : List (List Key × V)} {bs : List Addr}, IsKeys H kvs bs → ∃ zs : List (Addr × List Key), zs.map (·.1) = bs ∧ zs.map (·.2) = kvs.map (·.1) ∧ ∀ z ∈ zs, H z.1 = some (.tup (z.2.map kV))
  | _, _, .nil => ⟨[], rfl, rfl, fun z h => nomatch h⟩
  | _, _, .cons (a := x) (b := y) h t => by
    obtain ⟨zs, h1, h2, h3⟩ := isKeys_zip t
    refine ⟨(y, x.1) :: zs, by rw [List.map_cons, h1], by rw [List.map_cons, h2]; rfl, fun z hz => ?_⟩
    rcases List.mem_cons.mp hz with rfl | hz
    · exact h
    · exact h3 z hz
section
variable {X : Cx}
open PyProof.Rows in
theorem cr_sortDT {sh : Nat → Bool} (hc : X.calm = true) : CallR X (.builtin "sorted") (rSortDT sh) := by
  intro pins s σ H vs us Q I r h
  obtain ⟨d, kvs, rfl, hd, hsh, q⟩ := h
  obtain ⟨u, rfl, ru⟩ := vals1 r
  obtain rfl : u = Value.ref d := ru
  have okd : ObjOk X.prog X.w H s.heap d (.dT kvs) := hd.ok I.hok
  obtain ⟨hz, hs, ks, pr, ob, es, ep, ho, hx, hdt, he, hn⟩ := okd
  have l1 : es.size = ks.length := size_of_entries he
  have l2 : kvs.length = ks.length := Paired.length pr
  obtain ⟨zs, z1, z2, z3⟩ := isKeys_zip (isKeys_of pr)
  have zl : zs.length = ks.length := by have e := congrArg List.length z1; rw [List.length_map, List.length_map] at e; exact e
  refine Calls.call_function_entry kind_sorted plain_sorted entry_sorted (args_sorted1 _) ?_
  unfold Builtin.«sorted»
  refine wpAny_bind (m := checkCount "sorted" 1 1 _) (wpAny_pure ?_)
  refine wpAny_bind (W.kdu_collect (A := X.A.in1) (kdl_raw hs hx hdt) (I.ok.hd hc) ho (by omega) fun h1 tk acc kp ha => ?_)
  have ea : acc.toList = zs.map fun z => Value.ref z.1 := by
    have e0 : (zs.map fun z => Value.ref z.1) = (ks.map fun x => x.2.1).map Value.ref := by rw [← z1, List.map_map]; rfl
    rw [e0, List.map_map]
    have sz : acc.toList.length = ks.length := by rw [Array.length_toList, ha.1, l1]
    refine List.ext_getElem? fun j => ?_
    rw [List.getElem?_map]
    cases qa : acc.toList[j]? with
    | none =>
      have := List.getElem?_eq_none_iff.mp qa
      rw [List.getElem?_eq_none (l := ks) (by omega)]; rfl
    | some v =>
      obtain ⟨en, e1, e2⟩ := ha.2 j v (by rw [← Array.getElem?_toList, qa])
      have e3 := entry_at he j
      rw [e1] at e3
      cases qb : ks[j]? with
      | none => rw [qb] at e3; cases (show some en = none from e3)
      | some b =>
        rw [qb] at e3
        have e4 : en = entryOfKey (tupleKind (mixKind X.prog X.w)) b := Option.some.inj e3
        rw [e2, e4]; rfl
  have I1 : Inv X pins σ H { s with heap := h1, toks := tk } := I.kept kp
  have hsz : acc.toList.length ≤ sizeLine := by rw [ea, List.length_map, zl, ← l2]; exact hz
  refine wpAny_bind (wpAny_newList ?_ hsz)
  have hoL : (h1.push (seqObj "list" acc.toList.toArray 0)).get? h1.objs.size = some (seqObj "list" acc.toList.toArray 0) := Heap.get?_push_size _ rfl
  have I2 : Inv X pins σ H { s with heap := h1.push (seqObj "list" acc.toList.toArray 0), toks := tk } := I1.kept fun b o e => Heap.get?_push_of_some _ e
  have kz : ∀ z ∈ zs, G.tupKeyC (h1.push (seqObj "list" acc.toList.toArray 0)) sh (.ref z.1) = some (z.2.map kN) ∧ ∃ f, TupOf (h1.push (seqObj "list" acc.toList.toArray 0)) sh (.ref z.1) f := fun z hz0 => by
    obtain ⟨its2, r2, ⟨o2, ho2, hc2, n2, hd2⟩, _⟩ := I2.tuple (SqT.of (z3 z hz0))
    have mk : z.2 ∈ kvs.map (·.1) := by rw [← z2]; exact List.mem_map.mpr ⟨z, hz0, rfl⟩
    obtain ⟨kv, mkv, ekv⟩ := List.mem_map.mp mk
    obtain ⟨s1, s2⟩ := hsh kv mkv
    rw [show kv.1 = z.2 from ekv] at s1 s2
    refine ⟨G.tupKeyC_of ho2 hc2 hd2 (items_of s1 r2), ?_⟩
    obtain ⟨k0, kr, hk⟩ := List.exists_cons_of_ne_nil s2
    rw [hk] at r2 s1
    cases r2 with
    | @cons _ u _ us qq tt =>
      refine ⟨u, z.1, o2, _, n2, rfl, ho2, hc2, hd2, rfl, fun h0 => ?_, fun h0 => ?_⟩
      · cases k0 with
        | inl i => obtain ⟨tk, rfl⟩ := qq; exact ⟨i, tk, rfl⟩
        | inr x => have := (Bool.and_eq_true_iff.mp s1).1; rw [h0] at this; cases this
      · cases k0 with
        | inl i => have := (Bool.and_eq_true_iff.mp s1).1; rw [h0] at this; cases this
        | inr x => obtain ⟨tk, rfl⟩ := qq; exact ⟨x, tk, rfl⟩
  have ka : ∀ v ∈ acc.toList, (∃ l, G.tupKeyC (h1.push (seqObj "list" acc.toList.toArray 0)) sh v = some l) ∧ ∃ f, TupOf (h1.push (seqObj "list" acc.toList.toArray 0)) sh v f := fun v hv => by
    rw [ea] at hv
    obtain ⟨z, hz0, rfl⟩ := List.mem_map.mp hv
    exact ⟨⟨_, (kz z hz0).1⟩, (kz z hz0).2⟩
  obtain ⟨fs, hfs⟩ : ∃ fs, TupsOf (h1.push (seqObj "list" acc.toList.toArray 0)) sh acc.toList fs := by
    have all : ∀ l : List Value, (∀ v ∈ l, ∃ f, TupOf (h1.push (seqObj "list" acc.toList.toArray 0)) sh v f) → ∃ fs, TupsOf (h1.push (seqObj "list" acc.toList.toArray 0)) sh l fs := fun l => by
      induction l with
      | nil => exact fun _ => ⟨[], .nil⟩
      | cons v l ih =>
        intro hh
        obtain ⟨f, hf⟩ := hh v List.mem_cons_self
        obtain ⟨fs, hfs⟩ := ih fun x hx => hh x (List.mem_cons_of_mem _ hx)
        exact ⟨f :: fs, .cons hf hfs⟩
    exact all _ fun v hv => (ka v hv).2
  show wpAny _ _ _ _ _ { s with heap := h1.push (seqObj "list" acc.toList.toArray 0), toks := tk }
  refine wpAny_bind (wpAny_holding (wpAny_call_entry slot_list_sort ⟨_, hoL, rfl⟩ entry_list_sort
    (G.list_sort_tups (s := { s with heap := h1.push (seqObj "list" acc.toList.toArray 0), toks := tk }) hoL hfs (fun v hv => (ka v hv).1) hsz fun st' g1 g2 _ => ⟨_, rfl, ?_⟩) (args_list_sort _)))
  have hp : (arrOf st').toList.Perm (acc.toList.zip acc.toList) := by
    have w := Array.perm_iff_toList_perm.mp g1
    rw [pairsOf_toList] at w
    exact w
  have hpm : ((arrOf st').map (·.2)).toList.Perm acc.toList := by
    have w := hp.map (·.2)
    rw [List.map_snd_zip (Nat.le_refl _)] at w
    rw [Array.toList_map]
    exact w
  obtain ⟨zs', p1, p2⟩ := perm_lift hpm ea.symm
  obtain ⟨c2, hc2⟩ := sortedHeap_at (vs := acc.toList) (out := (arrOf st').map (·.2)) hoL
  have hlz : zs'.length = (arrOf st').toList.length := by
    have e := congrArg List.length p2
    rw [List.length_map, Array.toList_map, List.length_map] at e
    exact e
  have vv : Vals (zs'.map fun z => V.ref z.1) ((arrOf st').map (·.2)).toList := by
    rw [← p2]
    have w := vals_refs (zs'.map (·.1))
    rw [List.map_map, List.map_map] at w
    exact w
  have hlen : (zs'.map fun z => V.ref z.1).length ≤ sizeLine := by rw [List.length_map, p1.length_eq, zl, ← l2]; exact hz
  have pw : zs'.Pairwise (fun x y => bltK y.2 x.2 = false) := by
    rw [List.pairwise_iff_getElem]
    intro i j hi hj hij
    have hps : (arrOf st').toList.length = (pairsOf acc.toList).size := by rw [pairsOf_size, hp.length_eq, List.length_zip]; omega
    have w := g2 i j (Nat.le_of_lt hij) (by rw [← hps, ← hlz]; exact hj)
    have kk : ∀ (m : Nat) (hm : m < zs'.length), KK (G.tupKindC (h1.push (seqObj "list" acc.toList.toArray 0)) sh) (arrOf st') m = zs'[m].2.map kN := fun m hm => by
      have hm' : m < (arrOf st').toList.length := by rw [← hlz]; exact hm
      have f1 := mem_zip_self (hp.mem_iff.mp (List.getElem_mem hm'))
      have e5 : Value.ref zs'[m].1 = (arrOf st').toList[m].2 := by
        have h5 := congrArg (fun l => l[m]?) p2
        rw [List.getElem?_map, List.getElem?_eq_getElem hm, Array.toList_map, List.getElem?_map, List.getElem?_eq_getElem hm'] at h5
        exact Option.some.inj h5
      unfold KK
      rw [← Array.getElem?_toList, List.getElem?_eq_getElem hm']
      show (G.tupKeyC _ sh (arrOf st').toList[m].1).getD _ = _
      rw [f1.1, ← e5, (kz zs'[m] (p1.mem_iff.mp (List.getElem_mem hm))).1]
      rfl
    rw [kk i hi, kk j hj] at w
    exact w
  refine wpAny_pure ⟨_, rfl, .ref h1.objs.size, L2.upd H h1.objs.size (.lst (zs'.map fun z => V.ref z.1)), I1.laid (t' := tk) (fun b u e => ?_) (Nat.le_refl _)
    (show ObjOk X.prog X.w _ _ _ (.lst (zs'.map fun z => V.ref z.1)) from ⟨hlen, ((arrOf st').map (·.2)).toList, c2, vv, by rw [Array.toArray_toList]; exact hc2⟩), rfl, q zs' _ (by rw [← z2]; exact p1.map _) (fun z hz0 => z3 z (p1.mem_iff.mp hz0)) pw (I1.hok.fresh (Nat.le_refl _))⟩
  have hb : b < h1.objs.size := Heap.lt_size e
  rw [sortedHeap_old (Nat.ne_of_lt hb) (by rw [size_push']; exact Nat.lt_succ_of_lt hb)]
  exact Heap.get?_push_of_some _ e
end
/-! told with what is frozen -/
theorem takeKeys {K : PySem.W.Frag} {H : Hp} : ∀ (zs : List (Addr × List Key)) (F : Hp), Ex F H → (∀ z ∈ zs, H z.1 = some (.tup (z.2.map kV))) → ∃ F', New F H F' H ∧ FdAll K F' (zs.map fun z => V.ref z.1) (zs.map fun z => D.tup (z.2.map kD))
  | [], F, e, _ => ⟨F, .rf e, .nil⟩
  | z :: zs, F, e, h => by
    have h0 := h z List.mem_cons_self
    have n1 := New.tup e h0
    obtain ⟨F', n2, f⟩ := takeKeys zs (L2.upd F z.1 (.tup (z.2.map kV))) n1.i fun x hx => h x (List.mem_cons_of_mem _ hx)
    exact ⟨F', n1.tr n2, .cons (.tup (SqT.of (n2.f _ _ upd_same)) (keysD z.2)) f⟩
section
variable {X : Cx} {g : Gm} {l : List Res} {d : D} {p pos : Pos}
theorem ev_sortDT {κ β : Type} {kf : κ → List Key} {enc : β → D} {m : List (κ × β)} (sh : Nat → Bool) (inj : ∀ a b, kf a = kf b → a = b) (hsh : ∀ x, shOk sh 0 (kf x) = true) (hne : ∀ x, kf x ≠ []) {e1 : Expr} (ha : Px X e1 g l d) (hd : Dw X.K l d (dE kf enc m)) (hm : X.mg "sorted" = none) (hc : X.calm = true := by rfl)
    (hg : Gl X "sorted" := by rfl) (hs : starEach [e1] X.env = (false, eval e1 X.env) :: starEach [] X.env := by rfl) : EvL X (.Call (.Name "sorted" p) [e1] [] pos) g l ((sortK kf (m.map (·.1))).map fun x => D.tup ((kf x).map kD)) :=
  ev_new (pe_callB (cr_sortDT (sh := sh) hc) hg hm (by decide +kernel) (pa_wp (es := [e1])) (by decide) (by decide) hs rfl) fun en T σ H Q s k => by
  refine pa_c ha pa_n hs en T σ H _ s fun vs H1 s1 => ?_
  obtain ⟨F, M, q⟩ := s1
  obtain ⟨f, t⟩ := q.tm
  cases f with
  | cons f1 f2 =>
    cases f2
    obtain ⟨a, ws, rfl, sq, fs⟩ := hd.get q.exF q.exM q.rs f1
    have ek : ws.map (·.1) = (m.map (·.1)).map kf := by rw [fs.fsts, List.map_map, List.map_map]; rfl
    refine ⟨a, ws, rfl, sq, fun kv hkv => ?_, fun zs' p hp hz hpw hn => ?_⟩
    · have : kv.1 ∈ (m.map (·.1)).map kf := by rw [← ek]; exact List.mem_map.mpr ⟨kv, hkv, rfl⟩
      obtain ⟨x, _, e⟩ := List.mem_map.mp this
      rw [← e]
      exact ⟨hsh x, hne x⟩
    · rw [ek] at hp
      obtain ⟨ks, k1, k2⟩ := perm_lift hp rfl
      have es : ks = sortK kf (m.map (·.1)) := sortK_uniq inj k1 (by
        rw [List.pairwise_iff_getElem]
        intro i j hi hj hij
        have l2 : zs'.length = ks.length := by have := congrArg List.length k2; rw [List.length_map, List.length_map] at this; omega
        have w := List.pairwise_iff_getElem.mp hpw i j (by omega) (by omega) hij
        have at' : ∀ (n : Nat) (h1 : n < ks.length) (h2 : n < zs'.length), zs'[n].2 = kf ks[n] := fun n h1 h2 => by
          have e := congrArg (fun l => l[n]?) k2
          rw [List.getElem?_map, List.getElem?_map, List.getElem?_eq_getElem h1, List.getElem?_eq_getElem h2] at e
          exact (Option.some.inj e).symm
        rw [at' i hi (by omega), at' j hj (by omega)] at w
        unfold leK
        rw [w]
        rfl)
      obtain ⟨F', n, fa⟩ := takeKeys (K := X.K) zs' F q.exF hz
      have ed : (zs'.map fun z => D.tup (z.2.map kD)) = (sortK kf (m.map (·.1))).map fun x => D.tup ((kf x).map kD) := by
        have : (zs'.map fun z => D.tup (z.2.map kD)) = (zs'.map (·.2)).map fun k => D.tup (k.map kD) := by rw [List.map_map]; rfl
        rw [this, ← k2, List.map_map, es]
        rfl
      rw [ed] at fa
      exact k p _ H1 F' M (((q.tmp t).new n)) fa hn
theorem px_sortDT {κ β : Type} {kf : κ → List Key} {enc : β → D} {m : List (κ × β)} (sh : Nat → Bool) (inj : ∀ a b, kf a = kf b → a = b) (hsh : ∀ x, shOk sh 0 (kf x) = true) (hne : ∀ x, kf x ≠ []) {e1 : Expr} (ha : Px X e1 g l d) (hd : Dw X.K l d (dE kf enc m)) (hm : X.mg "sorted" = none) (hc : X.calm = true := by rfl)
    (hg : Gl X "sorted" := by rfl) (hs : starEach [e1] X.env = (false, eval e1 X.env) :: starEach [] X.env := by rfl) : Px X (.Call (.Name "sorted" p) [e1] [] pos) g l (.lst ((sortK kf (m.map (·.1))).map fun x => D.tup ((kf x).map kD))) := (ev_sortDT sh inj hsh hne ha hd hm hc hg hs).frz
end
/-! ### d[k], k a tuple by name -/
def rIxDT (K : PySem.W.Frag) : R2 := fun x y H Q => ∃ (a b : Addr) (kvs : List (List Key × V)) (k : List Key) (v : V), x = .ref a ∧ y = .ref b ∧ Rd H a (.dT kvs) ∧ SqT K H b (k.map kV) ∧ valV kvs k = some v ∧ Q v H
section
variable {X : Cx}
open PyProof.Rows in
theorem ix_dT (hu : X.A.units + 1 < cLine) : IxR X (rIxDT X.K) := by
  intro value slice pins s σ H x y v u Q I rx ry h hs
  obtain ⟨a, b, kvs, k, z, rfl, rfl, hd, hq, hv, q⟩ := h
  obtain rfl : v = Value.ref a := rx
  obtain rfl : u = Value.ref b := ry
  obtain ⟨_, hsy, xs, rel, dd⟩ := dt_rd I.hok hd
  obtain ⟨its, r, ⟨o, h1, h2, n, h3⟩, _⟩ := I.tuple hq
  have hk : (tupleKind (mixKind X.prog X.w)).is s.heap k b := ⟨o, its.toArray, n, h1, h2, h3, by simpa using items_are r⟩
  obtain ⟨w', hw, rw'⟩ := RelO.some_of (v := z) (o := (atKey xs k).map (·.2)) (by rw [← hv]; exact rel.val k)
  obtain ⟨p, hp, hp2⟩ := Option.map_eq_some_iff.mp hw
  refine tail_any dd.typeIs slot_dict_getitem.lookup (wpAny_getItem_heap (tupleKind_room_in1 hu) hk dd hp ?_) hs
  rw [hp2]
  exact ⟨z, H, I.tok _, rw', q⟩
variable {g : Gm} {l : List Res} {d1 d2 : D} {o e : Expr} {pos : Pos}
theorem o_ixDT {kvs : List (List Key × D)} {k : List Key} {d : D} (hd : Dw X.K l d1 kvs) (hv : valD kvs k = some d) : Op2 X.K l (rIxDT X.K) d1 (.tup (k.map kD)) d := fun F M H v u Q eF eM dj rs f1 f2 kk => by
  obtain ⟨a, vs, rfl, rd, fs⟩ := hd.get eF eM rs f1
  obtain ⟨t, rfl, st⟩ := fd_tupK f2
  obtain ⟨w, h1, h2⟩ := fs.valV hv
  exact ⟨a, t, vs, k, w, rfl, rfl, rd, ex_t eF st, h1, kk w F H (.rf eF) h2⟩
theorem px_tgetV {κ β : Type} [DecidableEq κ] {kf : κ → List Key} {m : List (κ × β)} {k : κ} (inj : ∀ a b, kf a = kf b → a = b) (enc : β → D) {x0 : β} (hu : X.A.units + 64 < cLine) (ho : Px X o g l d1) (hd : Dw X.K l d1 (dE kf enc m)) (hi : Px X e g l (.tup ((kf k).map kD))) (hv : (aget m k).isSome = true) (hs : PlainIx e := by intro _ _; rfl) : Px X (.Subscript o e pos) g l (enc ((aget m k).getD x0)) :=
  px_ix (ix_dT (Px.units hu)) ho hi (o_ixDT hd (by
    rw [val_aget inj]
    cases h : aget m k with
    | none => rw [h] at hv; cases hv
    | some v => rfl)) hs
end
/-! == of lists of two unlike things -/
theorem lst_py {ds : List D} {p : PyData} (h : (D.lst ds).py = some p) : ∃ ps, D.pys ds = some ps ∧ p = .list ps := by
  unfold D.py at h
  obtain ⟨ps, h1, rfl⟩ := Option.map_eq_some_iff.mp h
  exact ⟨ps, h1, rfl⟩
section
variable {α β : Type} [DecidableEq α] [DecidableEq β] {k : Nat} {ok : α → Prop} {ok2 : β → Prop} {enc : α → D} {enc2 : β → D}
theorem eqs_h2 {k2 : Nat} {e : α × β → D} (E : EqS k ok enc) (E2 : EqS k2 ok2 enc2) (he : ∀ x, e x = .lst [enc x.1, enc2 x.2] := by intro x; rfl) : EqS (max k k2 + 1) (fun x : α × β => ok x.1 ∧ ok2 x.2) e := ⟨fun x h => by
    rw [he]
    refine Dp'.lst fun d hd => ?_
    simp only [List.mem_cons, List.not_mem_nil, or_false] at hd
    rcases hd with rfl | rfl
    · exact Dp'.mono (E.ex _ h.1) (by omega)
    · exact Dp'.mono (E2.ex _ h.2) (by omega), fun x y p q h1 h2 => by
    rw [he] at h1 h2
    obtain ⟨ps, h3, rfl⟩ := lst_py h1
    obtain ⟨qs, h4, rfl⟩ := lst_py h2
    obtain ⟨a1, b1, u1, v1, rfl⟩ := pys_cons h3
    obtain ⟨a2, b2, u2, v2, rfl⟩ := pys_cons v1
    cases v2
    obtain ⟨c1, d1, w1, z1, rfl⟩ := pys_cons h4
    obtain ⟨c2, d2, w2, z2, rfl⟩ := pys_cons z1
    cases z2
    show (PyData.eqv a1 c1 && (PyData.eqv a2 c2 && true)) = _
    rw [E.eq _ _ _ _ u1 w1, E2.eq _ _ _ _ u2 w2]
    obtain ⟨x1, x2⟩ := x; obtain ⟨y1, y2⟩ := y
    simp [Prod.mk.injEq]⟩
end
end Sx
set_option Elab.async false
set_option linter.all false
set_option maxRecDepth 100000
set_option maxHeartbeats 2000000
/-! Things of any kind: the datum itself is the model's value. -/
namespace Sx
open PySem L2
/-- the built-in classes that isinstance asks for -/
inductive AK where
  | int | bool | str | list | tuple
def AK.name : AK → String
  | .int => "int" | .bool => "bool" | .str => "str" | .list => "list" | .tuple => "tuple"
def D.is : D → AK → Bool
  | .int _, .int => true | .bl _, .int => true | .bl _, .bool => true | .str _, .str => true | .lst _, .list => true | .tup _, .tuple => true | _, _ => false
/-- == of Python -/
def D.eq (a b : D) : Bool := match a.py, b.py with
  | some p, some q => PyData.eqv p q
  | _, _ => false
def D.inn (x : D) (ds : List D) : Bool := ds.any fun z => D.eq z x
def D.els : D → List D
  | .lst ds => ds | .tup ds => ds | _ => []
def D.seq : D → Bool
  | .lst _ => true | .tup _ => true | _ => false
def D.ix (d : D) (i : Nat) : D := d.els.getD i .non
def D.toI : D → Int
  | .int i => i | _ => 0
def D.toS : D → Str
  | .str x => x | _ => ""
def D.toB : D → Bool
  | .bl b => b | _ => false
def D.isI : D → Bool
  | .int _ => true | _ => false
def D.isS : D → Bool
  | .str _ => true | _ => false
theorem D.isI_eta {d : D} (h : d.isI = true) : d = .int d.toI := by cases d <;> first | rfl | cases h
theorem D.isS_eta {d : D} (h : d.isS = true) : d = .str d.toS := by cases d <;> first | rfl | cases h
theorem D.isI_of {d : D} (h : (d.is .int && !d.is .bool) = true) : d.isI = true := by cases d <;> first | rfl | cases h
theorem D.isI_of2 {d : D} (h1 : d.is .int = true) (h2 : (!d.is .bool) = true) : d.isI = true := by cases d <;> first | rfl | (cases h1; done) | (cases h2; done)
theorem D.seq_tup {d : D} (h : (!d.is .tuple) = false) : d.seq = true := by cases d <;> first | rfl | cases h
theorem D.seq_tup' {d : D} (h : d.is .tuple = true) : d.seq = true := by cases d <;> first | rfl | cases h
/-- plain, at most twenty deep -/
abbrev Any (d : D) : Prop := Dp' 20 d
theorem Dp'.els {k : Nat} {d : D} (h : Dp' k d) : ∀ x ∈ d.els, Dp' k x := fun x hx => by
  have key : ∀ (ds : List D) (ps : List PyData), D.pys ds = some ps → PyData.canLayAll0 ps = true → PyData.depthAll ps ≤ k → x ∈ ds → Dp' k x := by
    intro ds
    induction ds with
    | nil => intro ps _ _ _ h; cases h
    | cons d ds ih =>
      intro ps h1 h2 h3 h4
      obtain ⟨a, b, e1, e2, rfl⟩ := pys_cons h1
      have h2 : (PyData.canLay0 a && PyData.canLayAll0 b) = true := h2
      have h3 : max (PyData.depth a) (PyData.depthAll b) ≤ k := h3
      obtain ⟨h5, h6⟩ := Bool.and_eq_true_iff.mp h2
      rcases List.mem_cons.mp h4 with z | z
      · subst z; exact ⟨a, e1, h5, Nat.le_trans (Nat.le_max_left _ _) h3⟩
      · exact ih b e2 h6 (Nat.le_trans (Nat.le_max_right _ _) h3) z
  obtain ⟨p, h1, h2, h3⟩ := h
  cases d with
  | lst ds =>
    obtain ⟨ps, h4, rfl⟩ := lst_py h1
    exact key ds ps h4 h2 (Nat.le_trans (Nat.le_succ _) h3) hx
  | tup ds =>
    unfold D.py at h1
    obtain ⟨ps, h4, rfl⟩ := Option.map_eq_some_iff.mp h1
    exact key ds ps h4 h2 (Nat.le_trans (Nat.le_succ _) h3) hx
  | _ => cases hx
theorem any_ix {d : D} {i : Nat} (h : Any d) (hi : i < d.els.length) : Any (d.ix i) := by
  refine Dp'.els h _ ?_
  unfold D.ix
  rw [List.getD_eq_getElem?_getD, List.getElem?_eq_getElem hi]
  exact List.getElem_mem hi
theorem Any.py {d : D} (h : Any d) : ∃ p, d.py = some p ∧ SeqAt.shaped p = true := by
  obtain ⟨p, h1, h2, h3⟩ := h
  exact ⟨p, h1, shaped_of h2 h3 (by decide)⟩
theorem kit_non : ∀ k : AK, kitB "NoneType" k.name = some (D.is .non k) := fun k => by cases k <;> decide +kernel
theorem kit_bl : ∀ k : AK, kitB "bool" k.name = some (D.is (.bl true) k) := fun k => by cases k <;> decide +kernel
theorem kit_int : ∀ k : AK, kitB "int" k.name = some (D.is (.int 0) k) := fun k => by cases k <;> decide +kernel
theorem kit_str : ∀ k : AK, kitB "str" k.name = some (D.is (.str "") k) := fun k => by cases k <;> decide +kernel
theorem kit_lst : ∀ k : AK, kitB "list" k.name = some (D.is (.lst []) k) := fun k => by cases k <;> decide +kernel
theorem kit_tup : ∀ k : AK, kitB "tuple" k.name = some (D.is (.tup []) k) := fun k => by cases k <;> decide +kernel
theorem Any.tyv {d : D} (h : Any d) (k : AK) : ∃ t, d.tyv = some t ∧ kitB t k.name = some (d.is k) := by
  obtain ⟨p, h1, _⟩ := h
  cases d with
  | non => exact ⟨_, rfl, by cases k <;> exact kit_non _⟩
  | bl b => exact ⟨_, rfl, by cases k <;> exact kit_bl _⟩
  | int i => exact ⟨_, rfl, by cases k <;> exact kit_int _⟩
  | str x => exact ⟨_, rfl, by cases k <;> exact kit_str _⟩
  | lst ds => exact ⟨_, rfl, by cases k <;> exact kit_lst _⟩
  | tup ds => exact ⟨_, rfl, by cases k <;> exact kit_tup _⟩
  | adr a => cases h1
  | ty n => cases h1
  | ins C fs => cases h1
  | scr ds => cases h1
  | dK kvs => cases h1
  | dT kvs => cases h1
  | exc C fs => cases h1
  | kt k => cases h1
theorem D.eq_refl {d : D} (h : Any d) : D.eq d d = true := by
  obtain ⟨p, h1, h2, h3⟩ := h
  unfold D.eq
  rw [h1]
  exact PySem.SeqAt.eqv_refl p h2
theorem D.eq_py {a b : D} {p q : PyData} (h1 : a.py = some p) (h2 : b.py = some q) : D.eq a b = PyData.eqv p q := by unfold D.eq; rw [h1, h2]
theorem EqS.D {α : Type} [DecidableEq α] {k : Nat} {ok : α → Prop} {enc : α → Sx.D} (E : EqS k ok enc) {x y : α} (hx : ok x) (hy : ok y) : D.eq (enc x) (enc y) = decide (x = y) := by
  obtain ⟨p, h1, _⟩ := E.ex x hx
  obtain ⟨q, h2, _⟩ := E.ex y hy
  rw [D.eq_py h1 h2, E.eq x y p q h1 h2]
theorem EqS.any {α : Type} [DecidableEq α] {k : Nat} {ok : α → Prop} {enc : α → Sx.D} (E : EqS k ok enc) {x : α} (hx : ok x) (hk : k ≤ 20 := by decide) : Any (enc x) := Dp'.mono (E.ex x hx) hk
theorem lst_any {ds : List D} (k : Nat) (hk : k ≤ 19) (h : ∀ d ∈ ds, Dp' k d) : Any (.lst ds) := Dp'.mono (Dp'.lst h) (by omega)
theorem map_any {ds : List D} : ds.map (fun x : D => x) = ds := List.map_id' ds
theorem lst_coe {α : Type} {enc : α → D} {xs : List α} : D.lst (xs.map enc) = D.lst ((xs.map enc).map (fun x : D => x)) := by rw [map_any]
theorem units65 {k : Nat} {A : Around} (r : Room k A) : A.units + 65 < cLine := by have := r.un; omega
section
variable {K : PySem.W.Frag} {l : List Res} {d d1 d2 : D} {ds xs ys : List D}
theorem o_eqAny (h1 : Any d1) (h2 : Any d2) : Op2 K l (rEqD K) d1 d2 (.bl (D.eq d1 d2)) := by
  obtain ⟨p, h3, h4⟩ := h1.py
  obtain ⟨q, h5, h6⟩ := h2.py
  rw [D.eq_py h3 h5]
  exact o_eqD h3 h5 h4 h6
theorem o_neAny (h1 : Any d1) (h2 : Any d2) : Op2 K l (rNeD K) d1 d2 (.bl (!D.eq d1 d2)) := by
  obtain ⟨p, h3, h4⟩ := h1.py
  obtain ⟨q, h5, h6⟩ := h2.py
  rw [D.eq_py h3 h5]
  exact o_neD h3 h5 h4 h6
theorem lv_pys (hx : Any (.lst xs)) : ∃ ps, D.pys xs = some ps ∧ SeqAt.shaped (.list ps) = true := by
  obtain ⟨p, h1, h2⟩ := hx.py
  obtain ⟨ps, h3, rfl⟩ := lst_py h1
  exact ⟨ps, h3, h2⟩
theorem lst_pyE {ps : List PyData} (h : D.pys xs = some ps) : (D.lst xs).py = some (.list ps) := by
  show (D.pys xs).map PyData.list = _
  rw [h]; rfl
theorem o_eqAnyL (hd1 : Lv K l d1 xs) (hd2 : Lv K l d2 ys) (hx : Any (.lst xs)) (hy : Any (.lst ys)) : Op2 K l (rEqD K) d1 d2 (.bl (D.eq (.lst xs) (.lst ys))) := fun F M H v u Q eF eM dj rs f1 f2 kk => by
  obtain ⟨ps, h1, h2⟩ := lv_pys hx
  obtain ⟨qs, g1, g2⟩ := lv_pys hy
  refine ⟨.list ps, .list qs, hd1.dp eF eM rs f1 h1, hd2.dp eF eM rs f2 g1, h2, g2, ?_⟩
  rw [D.eq_py (lst_pyE h1) (lst_pyE g1)] at kk
  exact kk _ F H (.rf eF) (.bl _)
theorem o_neAnyL (hd1 : Lv K l d1 xs) (hd2 : Lv K l d2 ys) (hx : Any (.lst xs)) (hy : Any (.lst ys)) : Op2 K l (rNeD K) d1 d2 (.bl (!D.eq (.lst xs) (.lst ys))) := fun F M H v u Q eF eM dj rs f1 f2 kk => by
  obtain ⟨ps, h1, h2⟩ := lv_pys hx
  obtain ⟨qs, g1, g2⟩ := lv_pys hy
  refine ⟨.list ps, .list qs, hd1.dp eF eM rs f1 h1, hd2.dp eF eM rs f2 g1, h2, g2, ?_⟩
  rw [D.eq_py (lst_pyE h1) (lst_pyE g1)] at kk
  exact kk _ F H (.rf eF) (.bl _)
theorem any_pys {x : D} {p : PyData} (hp : x.py = some p) : ∀ {ds : List D} {ps : List PyData}, D.pys ds = some ps → (ps.any fun z => PyData.eqv z p) = D.inn x ds
  | [], _, h => by cases h; rfl
  | d :: r, _, h => by
    obtain ⟨a, b, h1, h2, rfl⟩ := pys_cons h
    show (PyData.eqv a p || b.any _) = (D.eq d x || r.any _)
    rw [D.eq_py h1 hp, any_pys hp h2]
    rfl
theorem o_inAny {x : D} (hd : Lv K l d ds) (hx : Any x) (hy : Any (.lst ds)) : Op2 K l (rInD K) x d (.bl (D.inn x ds)) := fun F M H v u Q eF eM dj rs f1 f2 kk => by
  obtain ⟨p, h1, h2⟩ := hx.py
  obtain ⟨qs, g1, g2⟩ := lv_pys hy
  refine ⟨p, qs, Fd.dp eF _ f1 h1, hd.dp eF eM rs f2 g1, h2, g2, ?_⟩
  rw [← any_pys h1 g1] at kk
  exact kk _ F H (.rf eF) (.bl _)
theorem o_ninAny {x : D} (hd : Lv K l d ds) (hx : Any x) (hy : Any (.lst ds)) : Op2 K l (rNotInD K) x d (.bl (!D.inn x ds)) := fun F M H v u Q eF eM dj rs f1 f2 kk => by
  obtain ⟨p, h1, h2⟩ := hx.py
  obtain ⟨qs, g1, g2⟩ := lv_pys hy
  refine ⟨p, qs, Fd.dp eF _ f1 h1, hd.dp eF eM rs f2 g1, h2, g2, ?_⟩
  rw [← any_pys h1 g1] at kk
  exact kk _ F H (.rf eF) (.bl _)
end
section
variable {X : Cx} {W : WX} {g g' : Gm} {l l' : List Res} {e e2 c a b o : Expr} {d d1 d2 : D} {pos p p2 : Pos} {ds : List D} {x : Str}
theorem px_isAny (k : AK) (z : X.mg "isinstance" = none) (zx : X.mg x = none) (h : Px X e g l d) (hd : Any d) (hv : bootBuiltins x = some (.type k.name) := by decide +kernel)
    (hg : Gl X "isinstance" := by rfl) (hgx : Gl X x := by rfl) (hn : x ≠ "__name__" := by decide) (hdb : (x == ("__debug__" : Str)) = false := by decide)
    (hs : starEach [e, .Name x p2] X.env = (false, eval e X.env) :: starEach [.Name x p2] X.env := by rfl) (hs2 : starEach [.Name x p2] X.env = [(false, eval (.Name x p2) X.env)] := by rfl) (hpl : (backTo pos (starEach [.Name x p2] X.env)).any (·.1) = false := by rfl) :
    Px X (.Call (.Name "isinstance" p) [e, .Name x p2] [] pos) g l (.bl (d.is k)) := by
  obtain ⟨t, ht, hk⟩ := hd.tyv k
  exact px_isT k.name t (d.is k) z zx h ht hk hv hg hgx hn hdb hs hs2 hpl
theorem px_ixAny {i : Nat} (h : Px X a g l d) (hb : Px X b g l (.int (i : Int))) (hi : i < d.els.length) (hs : PlainIx b := by intro _ _; rfl) : Px X (.Subscript a b pos) g l (d.ix i) := by
  cases d with
  | lst ds => exact px_ix ix_list h hb (o_ixL (atI_in (x0 := D.non) (Int.natCast_nonneg i) (Int.ofNat_lt.mpr hi))) hs
  | tup ds => exact px_ix ix_tup h hb (o_ixT (atI_in (x0 := D.non) (Int.natCast_nonneg i) (Int.ofNat_lt.mpr hi))) hs
  | _ => exact absurd hi (Nat.not_lt_zero _)
theorem px_lenAny {e1 : Expr} (z : X.mg "len" = none) (h : Px X e1 g l d) (hq : d.seq = true) (hg : Gl X "len" := by rfl)
    (hs : starEach (e1 :: []) X.env = (false, eval e1 X.env) :: starEach [] X.env := by rfl) (hpl : (backTo pos (starEach [] X.env)).any (·.1) = false := by rfl) : Px X (.Call (.Name "len" p) [e1] [] pos) g l (.int (d.els.length : Int)) := by
  cases d with
  | lst ds => exact px_bi call_len_seq z (pa_c h pa_n hs) o_lenL hg (by decide +kernel) (by decide) (by decide) hs hpl
  | tup ds => exact px_bi call_len_seq z (pa_c h pa_n hs) o_lenT hg (by decide +kernel) (by decide) (by decide) hs hpl
  | _ => cases hq
theorem it_any {tg : Expr} (h : Px X e g l d) (hq : d.seq = true) : Itw X tg e g l (d.els.map (fun x : D => x)) := by
  rw [map_any]
  cases d with
  | lst ds => exact it_list h
  | tup ds => exact it_tup h
  | _ => cases hq
theorem px_coeI (h : Px X e g l d) (hi : d.isI = true) : Px X e g l (.int d.toI) := by rw [← D.isI_eta hi]; exact h
theorem px_coeS (h : Px X e g l d) (hi : d.isS = true) : Px X e g l (.str d.toS) := by rw [← D.isS_eta hi]; exact h
theorem evl_coe (h : EvL X e g l ds) : EvL X e g l (ds.map fun x : D => x) := by rw [map_any]; exact h
/-- a slice of a list of any kind -/
theorem px_slAny {lo hi : Option Expr} {i j : Option Int} (ho : Px X o g l d) (hq : d.is .list = true) (hl : Pz X lo g l i) (hu : Pz X hi g l j) : Px X (.Subscript o (.Slice lo hi none p2) pos) g l (.lst (cut d.els i j)) := by
  cases d with
  | lst ds =>
    have e : D.lst ds = D.lst (ds.map (fun x : D => x)) := by rw [map_any]
    have := px_slM (pos := pos) (p2 := p2) (fun x : D => x) (xs := ds) (ho.to e) (.v .f) hl hu
    exact this.to (by show D.lst ((cut ds i j).map (fun x : D => x)) = _; rw [map_any]; rfl)
  | _ => cases hq
/-! xs.count(v) -/
theorem o_cnt {ns : List Int} {v : Int} (hd : Lq X.K l d (ns.map D.int)) : OpM X.K l (rCntI X.K) d [.int v] (.int ((ns.count v : Nat) : Int)) := fun F M H u vs Q eF eM dj rs f1 f2 k => by
  obtain ⟨a, ws, rfl, sq, f⟩ := hd.get eF eM rs f1
  have ew := f.ints
  subst ew
  cases f2 with
  | cons g1 g2 =>
    cases g2
    cases g1
    exact ⟨a, ns, v, rfl, rfl, sq, k _ F H (New.rf eF) (.int _)⟩
theorem px_count {apos : Pos} {ns : List Int} {v : Int} (ho : Px X o g l d) (hd : Lq X.K l d (ns.map D.int)) (hi : Px X e g l (.int v)) (hs : starEach [e] X.env = (false, eval e X.env) :: starEach [] X.env := by rfl)
    (hp : PE X (.Call (.Attribute o "count" apos) [e] [] pos) (tBM X.K "list" (rCntI X.K) (wpE X o) (wpA X [e])) := by exact pe_bm PySem.F.plainAttrs_list PySem.F.slot_list_count PySem.F.type_list_count mt_lcount pe_wp pa_wp) :
    Px X (.Call (.Attribute o "count" apos) [e] [] pos) g l (.int ((ns.count v : Nat) : Int)) := px_m hp ho (pa_c hi pa_n hs) (o_cnt hd) fun F M H u eF eM dj rs f => by
  obtain ⟨a, ws, rfl, sq, _⟩ := hd.get eF eM rs f
  exact .inl ⟨rfl, _, sq⟩
end
end Sx
set_option Elab.async false
set_option linter.all false
set_option maxRecDepth 100000
set_option maxHeartbeats 2000000
/-! Tuples that are keys, by name: a datum of their own (the tuple is a new object, not one of the module's). -/
namespace Sx
open PySem L2 PyProof.Rows
theorem Fd.keyT {K : PySem.W.Frag} {F : Hp} {v : V} {k : List Key} (f : Fd K F v (.kt k)) : Fd K F v (.tup (k.map kD)) := by
  cases f with
  | kt h => exact .tup (SqT.of h) (keysD k)
theorem Fd.keyA {K : PySem.W.Frag} {F : Hp} {v : V} {k : List Key} (f : Fd K F v (.kt k)) : ∃ p, v = .ref p ∧ F p = some (.tup (k.map kV)) := by
  cases f with
  | kt h => exact ⟨_, rfl, h⟩
section
variable {X : Cx} {W : WX} {g g' : Gm} {l l' : List Res} {Φ : Po} {e e2 a b c o v x : Expr} {es : List Expr} {d d1 d2 d3 : D} {pos p p2 apos kp : Pos} {rest : List Stmt} {x1 : Nat} {ds : List D} {k : List Key} {kvs : List (List Key × D)}
theorem Px.keyT (h : Px X e g l (.kt k)) : Px X e g l (.tup (k.map kD)) := fun en T σ H Q s kk => h en T σ H Q s fun v H1 s1 => by
  obtain ⟨F, M, q⟩ := s1
  exact kk v H1 ⟨F, M, q.tmp ⟨q.tm.1.keyT, q.tm.2⟩⟩
theorem px_key (h : Pa X es g l (k.map kD)) (hz : k.length ≤ sizeLine := by first | decide | exact Nat.le_of_ble_eq_true rfl) : Px X (.Tuple es x1 pos) g l (.kt k) := fun en T σ H Q s kk => wpE_of (pe_tup pa_wp) (by
  refine h en T σ H _ s fun vs H1 s1 => ?_
  obtain ⟨F, M, q⟩ := s1
  have ek := q.tm.1.keys
  subst ek
  refine ⟨by rw [List.length_map]; exact hz, fun p hp => ?_⟩
  have n := New.upd (o := .tup (k.map kV)) q.exF hp
  exact kk _ _ ⟨_, M, (q.new n).tmp ⟨.kt upd_same, T.mono n.f q.tm.2⟩⟩)
theorem px_kget2 (hu : X.A.units + 1 < cLine) (ho : Px X o g l d1) (hd : Dw X.K l d1 kvs) (hi : Px X e g l (.kt k)) (hv : Px X v g l d3) (hm : M2 X o "get" apos e v pos := by constructor <;> rfl) : Px X (.Call (.Attribute o "get" apos) [e, v] [] pos) g l ((valD kvs k).getD d3) := fun en T σ H Q s kk => wpE_of (pe_dget2 hu pe_wp pe_wp pe_wp hm) (by
  refine ho en T σ H _ s fun v H1 s1 => ?_
  obtain ⟨F1, M1, q1⟩ := id s1
  obtain ⟨a, vs, rfl, hp, f⟩ := hd.get q1.exF q1.exM q1.rs q1.tm.1
  refine ⟨a, rfl, .inr ⟨vs, hp⟩, ?_⟩
  refine hi en _ σ H1 _ s1 fun y H2 s2 => ?_
  refine hv en _ σ H2 _ s2 fun z H3 s3 => ?_
  obtain ⟨F3, M3, q4⟩ := s3
  obtain ⟨p, rfl, hy⟩ := q4.tm.2.1.keyA
  obtain ⟨a2, vs, e2, hp2, f⟩ := hd.get q4.exF q4.exM q4.rs q4.tm.2.2.1
  cases e2
  exact ⟨_, .inr ⟨vs, k, p, hp2, rfl, q4.exF _ _ hy, rfl⟩, kk _ _ ⟨_, M3, q4.tmp ⟨f.valO' q4.tm.1, q4.tm.2.2.2⟩⟩⟩)
theorem valV_some {K : PySem.W.Frag} {F : Hp} {vs : List (List Key × V)} (f : FdFs K F vs kvs) : (L2.valV vs k).isSome = (valD kvs k).isSome := by
  cases z : valD kvs k with
  | none => rw [f.noV z]; rfl
  | some d => obtain ⟨w, h1, _⟩ := f.valV z; rw [h1]; rfl
theorem px_kin (hu : X.A.units + 1 < cLine) (hi : Px X e g l (.kt k)) (ho : Px X o g l d1) (hd : Dw X.K l d1 kvs) (hm : behindInMarks .In o = false := by first | exact nomark _ | rfl) :
    Px X (.Compare e [.In] [o] pos) g l (.bl (valD kvs k).isSome) := fun en T σ H Q s kk => wpE_of (pe_cmp (pc_din hu pe_wp pe_wp) hm) (by
  refine hi en T σ H _ s fun y H1 s1 => ?_
  refine ho en _ σ H1 _ s1 fun v H4 s4 => ?_
  obtain ⟨F4, M4, q4⟩ := s4
  obtain ⟨a, vs, rfl, hp2, f⟩ := hd.get q4.exF q4.exM q4.rs q4.tm.1
  obtain ⟨p, rfl, hy⟩ := q4.tm.2.1.keyA
  refine ⟨a, _, rfl, .inr ⟨vs, k, p, hp2, rfl, q4.exF _ _ hy, rfl⟩, ?_⟩
  rw [valV_some f]
  exact kk _ H4 ⟨F4, M4, q4.tmp ⟨.bl _, q4.tm.2.2⟩⟩)
theorem ts_kin (hu : X.A.units + 1 < cLine) (hi : Px X e g l (.kt k)) (ho : Px X o g l d1) (hd : Dw X.K l d1 kvs) (hm : behindInMarks .In o = false := by first | exact nomark _ | rfl) :
    Ts X (.Compare e [.In] [o] pos) g l (valD kvs k).isSome := fun en T σ H Q s kk => wpT_of (pt_cmp (pc_din hu pe_wp pe_wp) hm) (by
  refine hi en T σ H _ s fun y H1 s1 => ?_
  refine ho en _ σ H1 _ s1 fun v H4 s4 => ?_
  obtain ⟨F4, M4, q4⟩ := s4
  obtain ⟨a, vs, rfl, hp2, f⟩ := hd.get q4.exF q4.exM q4.rs q4.tm.1
  obtain ⟨p, rfl, hy⟩ := q4.tm.2.1.keyA
  refine ⟨a, _, rfl, .inr ⟨vs, k, p, hp2, rfl, q4.exF _ _ hy, rfl⟩, _, rfl, ?_⟩
  rw [valV_some f]
  exact kk H4 ⟨F4, M4, q4.tmp q4.tm.2.2⟩)
theorem ts_knotin (hu : X.A.units + 1 < cLine) (hi : Px X e g l (.kt k)) (ho : Px X o g l d1) (hd : Dw X.K l d1 kvs) (hm : behindInMarks .NotIn o = false := by first | exact nomark _ | rfl) :
    Ts X (.Compare e [.NotIn] [o] pos) g l (!(valD kvs k).isSome) := fun en T σ H Q s kk => wpT_of (pt_cmp (pc_dnotin hu pe_wp pe_wp) hm) (by
  refine hi en T σ H _ s fun y H1 s1 => ?_
  refine ho en _ σ H1 _ s1 fun v H4 s4 => ?_
  obtain ⟨F4, M4, q4⟩ := s4
  obtain ⟨a, vs, rfl, hp2, f⟩ := hd.get q4.exF q4.exM q4.rs q4.tm.1
  obtain ⟨p, rfl, hy⟩ := q4.tm.2.1.keyA
  refine ⟨a, _, rfl, .inr ⟨vs, k, p, hp2, rfl, q4.exF _ _ hy, rfl⟩, _, rfl, ?_⟩
  rw [valV_some f]
  exact kk H4 ⟨F4, M4, q4.tmp q4.tm.2.2⟩)
/-- d[k] = v -/
theorem blk_kput {n : Nat} {q : Addr} {pos' : Pos} (hu : X.A.units + 1 < cLine) (hv : Px X v g l d) (ho : Px X o g l (.adr q)) (hi : Px X e g l (.kt k)) (hl : l[n]? = some (ownT X.K q kvs)) (hz : kvs.length < 10000)
    (h : Blk X W rest g (l.set n (ownT X.K q (putKD kvs k d))) Φ) (hs : swapsWith v (some (.Subscript o e pos')) pos.line X.env = pure false := by rfl) : Blk X W (.Assign [.Subscript o e pos'] v pos :: rest) g l Φ := fun en T σ H D s mm => wpS_of (pss_cons (ps_dput hu pe_wp pe_wp pe_wp hs) pss_wp) (by
  refine hv en T σ H _ s fun w H1 s1 => ?_
  refine ho en _ σ H1 _ s1 fun u H2 s2 => ?_
  refine hi en _ σ H2 _ s2 fun y H3 s3 => ?_
  obtain ⟨F, M, a⟩ := s3
  obtain ⟨p, rfl, hy⟩ := a.tm.1.keyA
  have fu := a.tm.2.1
  cases fu
  obtain ⟨vs, fv, hq⟩ := a.rs.ownT hl a.exM
  refine ⟨q, _, rfl, .inr ⟨vs, k, p, hq, rfl, a.exF _ _ hy, ?_, rfl⟩, ?_⟩
  · rw [fv.length]; exact Nat.lt_of_lt_of_le hz (by decide)
  · obtain ⟨M', a'⟩ := (a.tmp (T' := T) a.tm.2.2.2).putOne (k := n) (p := q) (r' := ownT X.K q (putKD kvs k d)) (o' := .dT (L2.putK vs k w)) hl (fun A ⟨_, _, e⟩ => ⟨_, e⟩) ⟨_, fv.putK a.tm.2.2.1, rfl⟩
    exact h en T σ _ D ⟨_, M', a'⟩ mm)
/-- d.setdefault((..), x), what it gives dropped -/
theorem blk_setdV {n : Nat} {q : Addr} {tp cpos spos : Pos} (hu : X.A.units + 64 < cLine) (ho : Px X o g l (.adr q)) (he : Pa X es g l (k.map kD)) (hkz : k.length ≤ sizeLine) (hn : l[n]? = some (ownT X.K q kvs)) (hz : kvs.length < 10000) (hx : Px X x g l d)
    (hit : ∀ v, valD kvs k = some v → Blk X W rest g l Φ) (miss : valD kvs k = none → Blk X W rest g (l.set n (ownT X.K q (putKD kvs k d))) Φ)
    (hp0 : PS X (.Expr (.Call (.Attribute o "setdefault" spos) [.Tuple es x1 tp, x] [] cpos) pos) (tDrop (tBM X.K "dict" rSetdT (wpE X o) (tCons (tTup (wpA X es)) (tCons (wpE X x) tNil)))) := by exact ps_expr (pe_bm PySem.F.plainAttrs_dict PySem.F.slot_dict_setdefault PySem.F.type_dict_setdefault (mt_setdT (Px.units hu)) pe_wp (pa_cons (pe_tup pa_wp) (pa_cons pe_wp pa_nil)))) :
    Blk X W (.Expr (.Call (.Attribute o "setdefault" spos) [.Tuple es x1 tp, x] [] cpos) pos :: rest) g l Φ := fun en T σ H D s mm => wpS_of (pss_cons hp0 pss_wp) (by
  refine ho en T σ H _ s fun v H1 s1 => ?_
  obtain ⟨F1, M1, q1⟩ := id s1
  have fv := q1.tm.1
  cases fv
  obtain ⟨vs1, f1, hp1⟩ := q1.rs.ownT hn q1.exM
  refine ⟨.inr (.inr (.inl ⟨rfl, .inr ⟨_, hp1⟩⟩)), ?_⟩
  refine he en _ σ H1 _ s1 fun us H2 s2 => ?_
  obtain ⟨F, M, q2⟩ := s2
  have ek := q2.tm.1.keys
  subst ek
  refine ⟨by rw [List.length_map]; exact hkz, fun p hpn => ?_⟩
  have nw := New.upd (o := .tup (k.map kV)) q2.exF hpn
  have q3 := q2.new nw
  refine hx en ((T.and X.K (.ref q) (.adr q)).ex (L2.upd F p (.tup (k.map kV)))) σ _ _ ⟨_, M, q3.tmp ⟨.rf, T.mono nw.f q2.tm.2.2 |> fun z => ⟨.adr q, z⟩⟩⟩ fun z H3 s3 => ?_
  obtain ⟨F3, M3, a⟩ := id s3
  obtain ⟨vs, fvs, hp⟩ := a.rs.ownT (k := n) hn a.exM
  have hkt : H3 p = some (.tup (k.map kV)) := a.exF _ _ (a.tm.2.1 _ _ upd_same)
  have fz := a.tm.1
  have a0 := a.tmp (T' := T) a.tm.2.2.2
  unfold rSetdT
  refine ⟨q, vs, k, p, z, rfl, rfl, hp, hkt, by rw [fvs.length]; exact Nat.lt_of_lt_of_le hz (by decide), fun w hw => ?_, fun hw => ?_⟩
  · cases qd : valD kvs k with
    | none => exact absurd (fvs.noV qd) (by rw [hw]; simp)
    | some d' => exact hit d' qd en T σ _ D ⟨F3, M3, a0⟩ mm
  · have qd : valD kvs k = none := by
      cases qd : valD kvs k with
      | none => rfl
      | some d' =>
        obtain ⟨w', h1, h2⟩ := fvs.valV qd
        rw [hw] at h1; cases h1
    obtain ⟨M', a'⟩ := a0.putOne (k := n) (p := q) (r' := ownT X.K q (putKD kvs k d)) (o' := .dT (L2.putK vs k z)) hn (fun A ⟨_, _, e⟩ => ⟨_, e⟩) ⟨_, fvs.putK fz, rfl⟩
    exact miss qd en T σ _ D ⟨F3, M', a'⟩ mm)
end
section
variable {S1 : Type} {Om : S1 → Po} {X : Cx} {W : WX} {g : Gm} {l : List Res} {e o v x : Expr} {es : List Expr} {d1 : D} {pos p2 apos kp : Pos} {x1 : Nat} {rest : List Stmt} {κ β : Type} [DecidableEq κ] {kf : κ → List Key} {m : List (κ × β)} {k : κ} {kk : List (κ × β) → S1}
theorem px_kget2M (inj : ∀ a b, kf a = kf b → a = b) (enc : β → D) {x0 : β} (hu : X.A.units + 64 < cLine) (ho : Px X o g l d1) (hd : Dw X.K l d1 (dE kf enc m)) (hi : Px X e g l (.kt (kf k))) (hv : Px X v g l (enc x0)) (hm : M2 X o "get" apos e v pos := by constructor <;> rfl) : Px X (.Call (.Attribute o "get" apos) [e, v] [] pos) g l (enc ((aget m k).getD x0)) := by
  have := px_kget2 (Px.units hu) ho hd hi hv hm
  rw [val_aget inj, getD_map] at this
  exact this
theorem some_aget {κ β : Type} [DecidableEq κ] {kf : κ → List Key} {m : List (κ × β)} {k : κ} (inj : ∀ a b, kf a = kf b → a = b) {enc : β → D} : (valD (dE kf enc m) (kf k)).isSome = (aget m k).isSome := by
  rw [val_aget inj]
  cases aget m k <;> rfl
theorem px_kinM (inj : ∀ a b, kf a = kf b → a = b) (enc : β → D) (hu : X.A.units + 64 < cLine) (hi : Px X e g l (.kt (kf k))) (ho : Px X o g l d1) (hd : Dw X.K l d1 (dE kf enc m)) (hm : behindInMarks .In o = false := by first | exact nomark _ | rfl) : Px X (.Compare e [.In] [o] pos) g l (.bl (aget m k).isSome) := by
  have := px_kin (pos := pos) (Px.units hu) hi ho hd hm
  rw [some_aget inj] at this
  exact this
theorem ts_kinM (inj : ∀ a b, kf a = kf b → a = b) (enc : β → D) (hu : X.A.units + 64 < cLine) (hi : Px X e g l (.kt (kf k))) (ho : Px X o g l d1) (hd : Dw X.K l d1 (dE kf enc m)) (hm : behindInMarks .In o = false := by first | exact nomark _ | rfl) : Ts X (.Compare e [.In] [o] pos) g l (aget m k).isSome := by
  have := ts_kin (pos := pos) (Px.units hu) hi ho hd hm
  rw [some_aget inj] at this
  exact this
theorem ts_knotinM (inj : ∀ a b, kf a = kf b → a = b) (enc : β → D) (hu : X.A.units + 64 < cLine) (hi : Px X e g l (.kt (kf k))) (ho : Px X o g l d1) (hd : Dw X.K l d1 (dE kf enc m)) (hm : behindInMarks .NotIn o = false := by first | exact nomark _ | rfl) : Ts X (.Compare e [.NotIn] [o] pos) g l (!(aget m k).isSome) := by
  have := ts_knotin (pos := pos) (Px.units hu) hi ho hd hm
  rw [some_aget inj] at this
  exact this
theorem bo_kput {n : Nat} {q : Addr} {pos' : Pos} {v0 : β} (inj : ∀ a b, kf a = kf b → a = b) (enc : β → D) (hu : X.A.units + 64 < cLine) (hv : Px X v g l (enc v0)) (ho : Px X o g l (.adr q)) (hi : Px X e g l (.kt (kf k))) (hl : l[n]? = some (ownT X.K q (dE kf enc m))) (hz : m.length < 10000)
    (h : ∀ m2, m2 = aput m k v0 → Bo X W rest g (l.set n (ownT X.K q (dE kf enc m2))) Om (kk m2)) (hs : swapsWith v (some (.Subscript o e pos')) pos.line X.env = pure false := by rfl) : Bo X W (.Assign [.Subscript o e pos'] v pos :: rest) g l Om (lt (aput m k v0) kk) :=
  blk_kput (Px.units hu) hv ho hi hl (by rw [List.length_map]; exact hz) (by rw [put_aput inj]; exact h _ rfl) hs
/-- set where it is not there -/
def asetd {κ β : Type} [DecidableEq κ] (m : List (κ × β)) (k : κ) (v : β) : List (κ × β) := cond (aget m k).isSome m (aput m k v)
theorem asetd_len {κ β : Type} [DecidableEq κ] {m : List (κ × β)} {k : κ} {v : β} : (asetd m k v).length ≤ m.length + 1 := by
  unfold asetd
  cases (aget m k).isSome with
  | true => exact Nat.le_succ _
  | false => exact aput_len
theorem bo_setdV {n : Nat} {q : Addr} {tp cpos spos : Pos} {v0 : β} (inj : ∀ a b, kf a = kf b → a = b) (enc : β → D) (hu : X.A.units + 64 < cLine) (ho : Px X o g l (.adr q)) (he : Pa X es g l ((kf k).map kD)) (hkz : (kf k).length ≤ sizeLine) (hn : l[n]? = some (ownT X.K q (dE kf enc m))) (hz : m.length < 10000) (hx : Px X x g l (enc v0))
    (h : ∀ m2, m2 = asetd m k v0 → Bo X W rest g (l.set n (ownT X.K q (dE kf enc m2))) Om (kk m2))
    (hp0 : PS X (.Expr (.Call (.Attribute o "setdefault" spos) [.Tuple es x1 tp, x] [] cpos) pos) (tDrop (tBM X.K "dict" rSetdT (wpE X o) (tCons (tTup (wpA X es)) (tCons (wpE X x) tNil)))) := by exact ps_expr (pe_bm PySem.F.plainAttrs_dict PySem.F.slot_dict_setdefault PySem.F.type_dict_setdefault (mt_setdT (Px.units hu)) pe_wp (pa_cons (pe_tup pa_wp) (pa_cons pe_wp pa_nil)))) :
    Bo X W (.Expr (.Call (.Attribute o "setdefault" spos) [.Tuple es x1 tp, x] [] cpos) pos :: rest) g l Om (lt (asetd m k v0) kk) :=
  blk_setdV hu ho he hkz hn (by rw [List.length_map]; exact hz) hx (fun v hv => by
    have e : (aget m k).isSome = true := by rw [← some_aget inj (enc := enc), hv]; rfl
    have := h m (by unfold asetd; rw [e]; rfl)
    rw [set_at hn] at this
    have e2 : asetd m k v0 = m := by unfold asetd; rw [e]; rfl
    show Bo X W rest g l Om (kk (asetd m k v0))
    rw [e2]
    exact this) (fun hv => by
    have e : (aget m k).isSome = false := by rw [← some_aget inj (enc := enc), hv]; rfl
    have e2 : asetd m k v0 = aput m k v0 := by unfold asetd; rw [e]; rfl
    rw [put_aput inj]
    show Bo X W rest g _ Om (kk (asetd m k v0))
    rw [e2]
    exact h _ e2.symm) hp0
end
theorem takeKeysK {K : PySem.W.Frag} {H : Hp} : ∀ (zs : List (Addr × List Key)) (F : Hp), Ex F H → (∀ z ∈ zs, H z.1 = some (.tup (z.2.map kV))) → ∃ F', New F H F' H ∧ FdAll K F' (zs.map fun z => V.ref z.1) (zs.map fun z => D.kt z.2)
  | [], F, e, _ => ⟨F, .rf e, .nil⟩
  | z :: zs, F, e, h => by
    have h0 := h z List.mem_cons_self
    have n1 := New.tup e h0
    obtain ⟨F', n2, f⟩ := takeKeysK zs (L2.upd F z.1 (.tup (z.2.map kV))) n1.i fun x hx => h x (List.mem_cons_of_mem _ hx)
    exact ⟨F', n1.tr n2, .cons (.kt (n2.f _ _ upd_same)) f⟩
/-- list(d), d's keys tuples -/
theorem ev_listDT {X : Cx} {g : Gm} {l : List Res} {d : D} {p pos : Pos} {κ β : Type} {kf : κ → List Key} {enc : β → D} {m : List (κ × β)} {e1 : Expr} (ha : Px X e1 g l d) (hd : Dw X.K l d (dE kf enc m)) (hm : X.mg "list" = none) (hc : X.calm = true := by rfl)
    (hg : Gl X "list" := by rfl) (hs : starEach [e1] X.env = (false, eval e1 X.env) :: starEach [] X.env := by rfl) : EvL X (.Call (.Name "list" p) [e1] [] pos) g l ((m.map (·.1)).map fun x => D.kt (kf x)) :=
  ev_new (pe_callTy (call_list_dT hc) hg hm (by decide +kernel) (pa_wp (es := [e1])) (by decide) (by decide) hs rfl) fun en T σ H Q s k => by
  refine pa_c ha pa_n hs en T σ H _ s fun vs H1 s1 => ?_
  obtain ⟨F, M, q⟩ := s1
  obtain ⟨f, t⟩ := q.tm
  cases f with
  | cons f1 f2 =>
    cases f2
    obtain ⟨a, ws, rfl, sq, fs⟩ := hd.get q.exF q.exM q.rs f1
    have ek : ws.map (·.1) = (m.map (·.1)).map kf := by rw [fs.fsts, List.map_map, List.map_map]; rfl
    refine ⟨a, ws, rfl, sq, fun p bs hn hk => ?_⟩
    obtain ⟨zs, h1, h2, h3⟩ := isKeys_zip hk
    obtain ⟨F', n, fa⟩ := takeKeysK (K := X.K) zs F q.exF h3
    have e1 : bs.map V.ref = zs.map fun z => V.ref z.1 := by rw [← h1, List.map_map]; rfl
    have ed : (zs.map fun z => D.kt z.2) = (m.map (·.1)).map fun x => D.kt (kf x) := by
      have : (zs.map fun z => D.kt z.2) = (zs.map (·.2)).map D.kt := by rw [List.map_map]; rfl
      rw [this, h2, ek, List.map_map]
      rfl
    rw [ed] at fa
    rw [e1]
    exact k p _ H1 F' M (((q.tmp t).new n)) fa hn
section
variable {X : Cx} {e : Expr} {g : Gm} {l : List Res} {pos : Pos}
theorem Ev.frzT {kvs : List (List Key × D)} (h : Ev X e g l (fun d' l' => ∃ p, d' = .adr p ∧ l' = ownT X.K p kvs :: l)) : Px X e g l (.dT kvs) := fun en T σ H Q s k => h en T σ H Q s fun v d l' H' p s' => by
  obtain ⟨p, rfl, rfl⟩ := p
  obtain ⟨F, M, q⟩ := s'
  have hv := q.tm.1
  cases hv
  obtain ⟨F', M', q', f, _⟩ := q.frz (P := fun F' => Fd X.K F' (.ref p) (.dT kvs)) fun A hA => by
    obtain ⟨vs, f, rfl⟩ := hA
    have hF : F p = none := by
      obtain ⟨A, B, rfl, _, ⟨_, _, rfl⟩, _⟩ := q.rs
      exact q.dj.sym p _ (join_l one_same)
    exact .dT (by rw [join_r hF]; exact one_same) (FdFs.mono (fun x o h => join_l h) _ f)
  exact k _ H' ⟨F', M', q'.tmp ⟨f, q'.tm.2⟩⟩
theorem px_t0 : Px X (.Dict [] [] pos) g l (.dT []) := Ev.frzT ev_t0
theorem px_d0 : Px X (.Dict [] [] pos) g l (.dK []) := Ev.frzD ev_d0
end
end Sx
set_option Elab.async false
set_option linter.all false
set_option maxRecDepth 100000
set_option maxHeartbeats 4000000
set_option pp.maxSteps 400
/-! zip of three lists. -/
namespace Sx
open PySem PySem.Spec PyProof.Rows L2
open Sem (wp)
abbrev Tri (h : Heap) (T : Addr) (a b c : Value) : Prop := h.get? T = some { cls := .type "tuple", data := .seq #[a, b, c] }
/-- five that are written, each apart from the others; four that are read, apart from these -/
structure Ap3 (z TO i j k TI a b c : Addr) : Prop where
  z1 : z ≠ TO
  z2 : z ≠ i
  z3 : z ≠ j
  z4 : z ≠ k
  o1 : TO ≠ i
  o2 : TO ≠ j
  o3 : TO ≠ k
  i1 : i ≠ j
  i2 : i ≠ k
  j1 : j ≠ k
  r : ∀ x, x = TI ∨ x = a ∨ x = b ∨ x = c → x ≠ z ∧ x ≠ TO ∧ x ≠ i ∧ x ≠ j ∧ x ≠ k
/-- what a zip of three has, item n next -/
structure Zs (h : Heap) (z TO i j k TI a b c : Addr) (f : Value) (m n p : Nat) (u v w : Value) (xs ys zs : Array Value) : Prop where
  z : IsZip h z TI TO f
  t : Tri h TO u v w
  i : h.IsListIter i a m
  j : h.IsListIter j b n
  k : h.IsListIter k c p
  a : h.IsList a xs
  b : h.IsList b ys
  c : h.IsList c zs
section
variable {prog : Program} {w : World} {A : Around} {E : Value → Shared → Prop} {s : Shared} {z TO i j k TI a b c : Addr} {m n p : Nat} {f u v y : Value} {xs ys zs : Array Value}
theorem tri_set {T : Addr} {n : Nat} {x : Value} {Q : Unit → Shared → Prop} (hT : Tri s.heap T u v y)
    (h : ∀ h', h'.get? T = some { cls := .type "tuple", data := .seq ((#[u, v, y] : Array Value).setIfInBounds n x) } → Heap.SameBut T s.heap h' → Q () { s with heap := h' }) : wpAny (model prog w) A (updateSeq T (·.setIfInBounds n x)) Q E s := by
  refine wpAny_updateSeq hT rfl (h _ ?_ (Heap.SameBut.update ..))
  rw [Heap.get?_update_self _ hT rfl]
  simp [Obj.mapSeq]
section
variable {h h' : Heap} (D : Ap3 z TO i j k TI a b c)
include D
theorem Zs.atZ {f' : Value} (q : Zs h z TO i j k TI a b c f m n p u v y xs ys zs) (hz : IsZip h' z TI TO f') (e : Heap.ExtBut z h h') : Zs h' z TO i j k TI a b c f' m n p u v y xs ys zs :=
  ⟨hz, e _ _ D.z1.symm q.t, q.i.extBut e D.z2.symm, q.j.extBut e D.z3.symm, q.k.extBut e D.z4.symm, q.a.extBut e (D.r a (.inr (.inl rfl))).1, q.b.extBut e (D.r b (.inr (.inr (.inl rfl)))).1, q.c.extBut e (D.r c (.inr (.inr (.inr rfl)))).1⟩
theorem Zs.atT {u' v' y' : Value} (q : Zs h z TO i j k TI a b c f m n p u v y xs ys zs) (ht : Tri h' TO u' v' y') (e : Heap.ExtBut TO h h') : Zs h' z TO i j k TI a b c f m n p u' v' y' xs ys zs :=
  ⟨e _ _ D.z1 q.z, ht, q.i.extBut e D.o1.symm, q.j.extBut e D.o2.symm, q.k.extBut e D.o3.symm, q.a.extBut e (D.r a (.inr (.inl rfl))).2.1, q.b.extBut e (D.r b (.inr (.inr (.inl rfl)))).2.1, q.c.extBut e (D.r c (.inr (.inr (.inr rfl)))).2.1⟩
theorem Zs.at1 {m' : Nat} (q : Zs h z TO i j k TI a b c f m n p u v y xs ys zs) (hi : h'.IsListIter i a m') (e : Heap.ExtBut i h h') : Zs h' z TO i j k TI a b c f m' n p u v y xs ys zs :=
  ⟨e _ _ D.z2 q.z, e _ _ D.o1 q.t, hi, q.j.extBut e D.i1.symm, q.k.extBut e D.i2.symm, q.a.extBut e (D.r a (.inr (.inl rfl))).2.2.1, q.b.extBut e (D.r b (.inr (.inr (.inl rfl)))).2.2.1, q.c.extBut e (D.r c (.inr (.inr (.inr rfl)))).2.2.1⟩
theorem Zs.at2 {n' : Nat} (q : Zs h z TO i j k TI a b c f m n p u v y xs ys zs) (hi : h'.IsListIter j b n') (e : Heap.ExtBut j h h') : Zs h' z TO i j k TI a b c f m n' p u v y xs ys zs :=
  ⟨e _ _ D.z3 q.z, e _ _ D.o2 q.t, q.i.extBut e D.i1, hi, q.k.extBut e D.j1.symm, q.a.extBut e (D.r a (.inr (.inl rfl))).2.2.2.1, q.b.extBut e (D.r b (.inr (.inr (.inl rfl)))).2.2.2.1, q.c.extBut e (D.r c (.inr (.inr (.inr rfl)))).2.2.2.1⟩
theorem Zs.at3 {p' : Nat} (q : Zs h z TO i j k TI a b c f m n p u v y xs ys zs) (hi : h'.IsListIter k c p') (e : Heap.ExtBut k h h') : Zs h' z TO i j k TI a b c f m n p' u v y xs ys zs :=
  ⟨e _ _ D.z4 q.z, e _ _ D.o3 q.t, q.i.extBut e D.i2, q.j.extBut e D.j1, hi, q.a.extBut e (D.r a (.inr (.inl rfl))).2.2.2.2, q.b.extBut e (D.r b (.inr (.inr (.inl rfl)))).2.2.2.2, q.c.extBut e (D.r c (.inr (.inr (.inr rfl)))).2.2.2.2⟩
end
theorem Zs.keep {h h' : Heap} (q : Zs h z TO i j k TI a b c f m n p u v y xs ys zs) (e : ∀ x o, h.get? x = some o → h'.get? x = some o) : Zs h' z TO i j k TI a b c f m n p u v y xs ys zs :=
  ⟨e _ _ q.z, e _ _ q.t, q.i.at fun o => e _ o, q.j.at fun o => e _ o, q.k.at fun o => e _ o, q.a.at fun o => e _ o, q.b.at fun o => e _ o, q.c.at fun o => e _ o⟩
/-- all but the five stays -/
def Kp5 (z TO i j k : Addr) (h h' : Heap) : Prop := ∀ x o, x ≠ z → x ≠ TO → x ≠ i → x ≠ j → x ≠ k → h.get? x = some o → h'.get? x = some o
set_option maxHeartbeats 16000000 in
theorem zip3_item {x1 x2 x3 : Value} {Q : Value → Shared → Prop} (D : Ap3 z TO i j k TI a b c) (q : Zs s.heap z TO i j k TI a b c .none m n p u v y xs ys zs) (hTI : Tri s.heap TI (.ref i) (.ref j) (.ref k))
    (e1 : xs[m]? = some x1) (e2 : ys[n]? = some x2) (e3 : zs[p]? = some x3)
    (hQ : ∀ h', Zs h' z TO i j k TI a b c (rawInt s.heap.objs.size) (m + 1) (n + 1) (p + 1) x1 x2 x3 xs ys zs → Tri h' s.heap.objs.size x1 x2 x3 → h'.objs.size = s.heap.objs.size + 1 → Kp5 z TO i j k s.heap h' → Q (.ref s.heap.objs.size) { s with heap := h' }) :
    wpAny (model prog w) A (Builtin.«zip.__next__» ⟨[.ref z], []⟩) (fun fin s' => ∃ v, fin = .done (.ret v) ∧ Q v s') E s := by
  have qz := q.z
  show wpAny _ _ (field (.ref z) 2 >>= _) _ _ _
  refine wpAny_bind (wpAny_field qz rfl (x := .bool false) rfl ?_)
  show wpAny _ _ (field (.ref z) 3 >>= _) _ _ _
  refine wpAny_bind (wpAny_field qz rfl (x := .ref TI) rfl (wpAny_bind (wpAny_seqItems hTI rfl ?_)))
  show wpAny _ _ (Builtin.SmallTypes.ownedTupleIsFree (.ref z) >>= _) _ _ _
  unfold Builtin.SmallTypes.ownedTupleIsFree
  refine wpAny_bind (wpAny_bind (wpAny_field qz rfl (x := .none) rfl (wpAny_pure ?_)))
  rw [if_pos (by rfl)]
  refine wpAny_bind (wpAny_rule (wpAny_bind (wpAny_field qz rfl (x := .ref TO) rfl ?_)))
  refine wpAny_bind (wpAny_setField_rec qz (by simp) fun g1 gz1 gs1 => ?_)
  have q1 : Zs g1 z TO i j k TI a b c .ellipsis m n p u v y xs ys zs := q.atZ D gz1 gs1.extBut
  have k1 : Kp5 z TO i j k s.heap g1 := fun x o c1 c2 c3 c4 c5 e => gs1.extBut _ _ c1 e
  refine wpAny_bind ?_
  simp only [List.zipIdx_cons, List.zipIdx_nil, List.forIn_cons, List.forIn_nil]
  -- the first
  refine wpAny_bind (wpAny_bind (wpAny_onRaise ?_))
  show wpAny _ _ (Builtin.SmallTypes.nextOf (.ref i) >>= _) _ _ _
  refine wpAny_bind (wpAny_nextOf_list_item q1.i q1.a e1 fun g2 gi2 gs2 => wpAny_pure ?_)
  have q2 := q1.at1 D gi2 gs2.extBut
  refine wpAny_bind (wpAny_seqItems q2.t rfl (wpAny_bind (tri_set q2.t fun g3 gt3 gs3 => ?_)))
  have q3 : Zs g3 z TO i j k TI a b c .ellipsis (m + 1) n p x1 v y xs ys zs := q2.atT D gt3 gs3.extBut
  have k3 : Kp5 z TO i j k s.heap g3 := fun x o c1 c2 c3 c4 c5 e => gs3.extBut _ _ c2 (gs2.extBut _ _ c3 (k1 x o c1 c2 c3 c4 c5 e))
  refine wpAny_bind (wpAny_letGo (wpAny_pure ?_))
  -- the second
  refine wpAny_bind (wpAny_bind (wpAny_onRaise ?_))
  show wpAny _ _ (Builtin.SmallTypes.nextOf (.ref j) >>= _) _ _ _
  refine wpAny_bind (wpAny_nextOf_list_item q3.j q3.b e2 fun g4 gi4 gs4 => wpAny_pure ?_)
  have q4 := q3.at2 D gi4 gs4.extBut
  refine wpAny_bind (wpAny_seqItems q4.t rfl (wpAny_bind (tri_set q4.t fun g5 gt5 gs5 => ?_)))
  have q5 : Zs g5 z TO i j k TI a b c .ellipsis (m + 1) (n + 1) p x1 x2 y xs ys zs := q4.atT D gt5 gs5.extBut
  have k5 : Kp5 z TO i j k s.heap g5 := fun x o c1 c2 c3 c4 c5 e => gs5.extBut _ _ c2 (gs4.extBut _ _ c4 (k3 x o c1 c2 c3 c4 c5 e))
  refine wpAny_bind (wpAny_letGo (wpAny_pure ?_))
  -- the third
  refine wpAny_bind (wpAny_bind (wpAny_onRaise ?_))
  show wpAny _ _ (Builtin.SmallTypes.nextOf (.ref k) >>= _) _ _ _
  refine wpAny_bind (wpAny_nextOf_list_item q5.k q5.c e3 fun g6 gi6 gs6 => wpAny_pure ?_)
  have q6 := q5.at3 D gi6 gs6.extBut
  refine wpAny_bind (wpAny_seqItems q6.t rfl (wpAny_bind (tri_set q6.t fun g7 gt7 gs7 => ?_)))
  have q7 : Zs g7 z TO i j k TI a b c .ellipsis (m + 1) (n + 1) (p + 1) x1 x2 x3 xs ys zs := q6.atT D gt7 gs7.extBut
  have k7 : Kp5 z TO i j k s.heap g7 := fun x o c1 c2 c3 c4 c5 e => gs7.extBut _ _ c2 (gs6.extBut _ _ c5 (k5 x o c1 c2 c3 c4 c5 e))
  refine wpAny_bind (wpAny_letGo (wpAny_pure (wpAny_pure ?_)))
  -- the tuple that is handed out
  refine wpAny_bind (wpAny_seqItems q7.t rfl (wpAny_bind (wpAny_newTuple ?_)))
  have hsz : g7.objs.size = s.heap.objs.size := by rw [gs7.1, gs6.1, gs5.1, gs4.1, gs3.1, gs2.1, gs1.1]
  have hzl : z < g7.objs.size := Heap.lt_size q7.z
  show wpAny _ _ (Builtin.SmallTypes.ownedTupleHandOut (.ref z) (.ref g7.objs.size) >>= _) _ _ _
  unfold Builtin.SmallTypes.ownedTupleHandOut
  have q8 : Zs (g7.push { cls := .type "tuple", data := .seq #[x1, x2, x3] }) z TO i j k TI a b c .ellipsis (m + 1) (n + 1) (p + 1) x1 x2 x3 xs ys zs := q7.keep fun x o e => Heap.get?_push_of_some _ e
  have t8 : Tri (g7.push { cls := .type "tuple", data := .seq #[x1, x2, x3] }) g7.objs.size x1 x2 x3 := Heap.get?_push_size _ rfl
  refine wpAny_bind (wpAny_bind (wpAny_setField_rec q8.z (by simp) fun g9 gz9 gs9 => ?_))
  replace gz9 : IsZip g9 z TI TO (rawInt g7.objs.size) := gz9
  refine wpAny_setField_rec gz9 (by simp) fun g10 gz10 gs10 => ?_
  have q10 : Zs g10 z TO i j k TI a b c (rawInt g7.objs.size) (m + 1) (n + 1) (p + 1) x1 x2 x3 xs ys zs := (q8.atZ D gz9 gs9.extBut).atZ D gz10 gs10.extBut
  have t10 : Tri g10 g7.objs.size x1 x2 x3 := gs10.extBut _ _ (Nat.ne_of_gt hzl) (gs9.extBut _ _ (Nat.ne_of_gt hzl) t8)
  have s10 : g10.objs.size = g7.objs.size + 1 := by rw [gs10.1, gs9.1, Heap.size_push]
  rw [hsz] at q10 t10 s10
  refine wpAny_pure ⟨_, rfl, ?_⟩
  show Q (.ref g7.objs.size) _
  rw [hsz]
  exact hQ g10 q10 t10 s10 fun x o c1 c2 c3 c4 c5 e => gs10.extBut _ _ c1 (gs9.extBut _ _ c1 (Heap.get?_push_of_some _ (k7 x o c1 c2 c3 c4 c5 e)))
set_option maxHeartbeats 16000000 in
theorem zip3_end {Q : Fin → Shared → Prop} (hh : A.handled = none) (D : Ap3 z TO i j k TI a b c) (q : Zs s.heap z TO i j k TI a b c .none m n p u v y xs ys zs) (hTI : Tri s.heap TI (.ref i) (.ref j) (.ref k))
    (he : xs[m]? = none ∨ ys[n]? = none ∨ zs[p]? = none) (hE : ∀ h' e, Kp5 z TO i j k s.heap h' → (∃ o, h'.get? e = some o ∧ o.cls = .type "StopIteration") → E (.ref e) { s with heap := h' }) :
    wpAny (model prog w) A (Builtin.«zip.__next__» ⟨[.ref z], []⟩) Q E s := by
  have qz := q.z
  show wpAny _ _ (field (.ref z) 2 >>= _) _ _ _
  refine wpAny_bind (wpAny_field qz rfl (x := .bool false) rfl ?_)
  show wpAny _ _ (field (.ref z) 3 >>= _) _ _ _
  refine wpAny_bind (wpAny_field qz rfl (x := .ref TI) rfl (wpAny_bind (wpAny_seqItems hTI rfl ?_)))
  show wpAny _ _ (Builtin.SmallTypes.ownedTupleIsFree (.ref z) >>= _) _ _ _
  unfold Builtin.SmallTypes.ownedTupleIsFree
  refine wpAny_bind (wpAny_bind (wpAny_field qz rfl (x := .none) rfl (wpAny_pure ?_)))
  rw [if_pos (by rfl)]
  refine wpAny_bind (wpAny_rule (wpAny_bind (wpAny_field qz rfl (x := .ref TO) rfl ?_)))
  refine wpAny_bind (wpAny_setField_rec qz (by simp) fun g1 gz1 gs1 => ?_)
  have q1 : Zs g1 z TO i j k TI a b c .ellipsis m n p u v y xs ys zs := q.atZ D gz1 gs1.extBut
  have k1 : Kp5 z TO i j k s.heap g1 := fun x o c1 c2 c3 c4 c5 e => gs1.extBut _ _ c1 e
  have fin : ∀ (g : Heap) (it e : Addr) (g' : Heap), Kp5 z TO i j k s.heap g → IsZip g z TI TO .ellipsis → it ≠ z → Heap.ExtBut it g g' → (it = i ∨ it = j ∨ it = k) → (∃ o, g'.get? e = some o ∧ o.cls = .type "StopIteration") →
      wpAny (model prog w) A (setField (.ref z) 0 .none) (fun _ s' => E (.ref e) s') E { s with heap := g' } := fun g it e g' kk gz ne ex hit ⟨oe, h1, h2⟩ => by
    have gz' : IsZip g' z TI TO .ellipsis := ex _ _ ne.symm gz
    have hez : e ≠ z := fun x => by subst x; rw [gz'] at h1; cases h1; simp at h2
    refine wpAny_setField_rec gz' (by simp) fun g3 _ gs3 => hE g3 e (fun x o c1 c2 c3 c4 c5 r => gs3.extBut _ _ c1 (ex _ _ ?_ (kk x o c1 c2 c3 c4 c5 r))) ⟨oe, gs3.extBut _ _ hez h1, h2⟩
    rcases hit with rfl | rfl | rfl
    · exact c3
    · exact c4
    · exact c5
  refine wpAny_bind ?_
  simp only [List.zipIdx_cons, List.zipIdx_nil, List.forIn_cons, List.forIn_nil]
  refine wpAny_bind (wpAny_bind (wpAny_onRaise ?_))
  show wpAny _ _ (Builtin.SmallTypes.nextOf (.ref i) >>= _) _ _ _
  cases h1 : xs[m]? with
  | none => exact wpAny_bind (wpAny_nextOf_list_end hh q1.i q1.a h1 fun g2 e gs2 ge => fin g1 i e g2 k1 q1.z D.z2.symm gs2 (.inl rfl) ge)
  | some x1 =>
    refine wpAny_bind (wpAny_nextOf_list_item q1.i q1.a h1 fun g2 gi2 gs2 => wpAny_pure ?_)
    have q2 := q1.at1 D gi2 gs2.extBut
    refine wpAny_bind (wpAny_seqItems q2.t rfl (wpAny_bind (tri_set q2.t fun g3 gt3 gs3 => ?_)))
    have q3 : Zs g3 z TO i j k TI a b c .ellipsis (m + 1) n p x1 v y xs ys zs := q2.atT D gt3 gs3.extBut
    have k3 : Kp5 z TO i j k s.heap g3 := fun x o c1 c2 c3 c4 c5 e => gs3.extBut _ _ c2 (gs2.extBut _ _ c3 (k1 x o c1 c2 c3 c4 c5 e))
    refine wpAny_bind (wpAny_letGo (wpAny_pure ?_))
    refine wpAny_bind (wpAny_bind (wpAny_onRaise ?_))
    show wpAny _ _ (Builtin.SmallTypes.nextOf (.ref j) >>= _) _ _ _
    cases h2 : ys[n]? with
    | none => exact wpAny_bind (wpAny_nextOf_list_end hh q3.j q3.b h2 fun g4 e gs4 ge => fin g3 j e g4 k3 q3.z D.z3.symm gs4 (.inr (.inl rfl)) ge)
    | some x2 =>
      refine wpAny_bind (wpAny_nextOf_list_item q3.j q3.b h2 fun g4 gi4 gs4 => wpAny_pure ?_)
      have q4 := q3.at2 D gi4 gs4.extBut
      refine wpAny_bind (wpAny_seqItems q4.t rfl (wpAny_bind (tri_set q4.t fun g5 gt5 gs5 => ?_)))
      have q5 : Zs g5 z TO i j k TI a b c .ellipsis (m + 1) (n + 1) p x1 x2 y xs ys zs := q4.atT D gt5 gs5.extBut
      have k5 : Kp5 z TO i j k s.heap g5 := fun x o c1 c2 c3 c4 c5 e => gs5.extBut _ _ c2 (gs4.extBut _ _ c4 (k3 x o c1 c2 c3 c4 c5 e))
      refine wpAny_bind (wpAny_letGo (wpAny_pure ?_))
      refine wpAny_bind (wpAny_bind (wpAny_onRaise ?_))
      show wpAny _ _ (Builtin.SmallTypes.nextOf (.ref k) >>= _) _ _ _
      have h3 : zs[p]? = none := by
        rcases he with h | h | h
        · rw [h1] at h; cases h
        · rw [h2] at h; cases h
        · exact h
      exact wpAny_bind (wpAny_nextOf_list_end hh q5.k q5.c h3 fun g6 e gs6 ge => fin g5 k e g6 k5 q5.z D.z4.symm gs6 (.inr (.inr rfl)) ge)
theorem next3_item {x1 x2 x3 : Value} {Q : Option Value → Shared → Prop} (D : Ap3 z TO i j k TI a b c) (q : Zs s.heap z TO i j k TI a b c .none m n p u v y xs ys zs) (hTI : Tri s.heap TI (.ref i) (.ref j) (.ref k))
    (e1 : xs[m]? = some x1) (e2 : ys[n]? = some x2) (e3 : zs[p]? = some x3)
    (hQ : ∀ h', Zs h' z TO i j k TI a b c (rawInt s.heap.objs.size) (m + 1) (n + 1) (p + 1) x1 x2 x3 xs ys zs → Tri h' s.heap.objs.size x1 x2 x3 → h'.objs.size = s.heap.objs.size + 1 → Kp5 z TO i j k s.heap h' → Q (some (.ref s.heap.objs.size)) { s with heap := h' }) :
    wpAny (model prog w) A (pyNext (.ref z)) Q E s := by
  have ty : s.TypeIs (.ref z) "zip" := ⟨_, q.z, rfl⟩
  unfold pyNext
  refine wpAny_bind (wpAny_attempt (wpAny_callSpecial?_slot (name := Str.ofString "__next__") ty PySem.F.slot_zip_next (wpAny_call_entry PySem.F.slot_zip_next ty PySem.F.entry_zip_next ?_ (PySem.F.args_zip_next_1 _))))
  exact zip3_item D q hTI e1 e2 e3 fun h' r1 r2 r3 r4 => wpAny_pure (hQ h' r1 r2 r3 r4)
theorem next3_end {Q : Option Value → Shared → Prop} (hh : A.handled = none) (D : Ap3 z TO i j k TI a b c) (q : Zs s.heap z TO i j k TI a b c .none m n p u v y xs ys zs) (hTI : Tri s.heap TI (.ref i) (.ref j) (.ref k))
    (he : xs[m]? = none ∨ ys[n]? = none ∨ zs[p]? = none) (hQ : ∀ h', Kp5 z TO i j k s.heap h' → Q none { s with heap := h' }) : wpAny (model prog w) A (pyNext (.ref z)) Q E s := by
  have ty : s.TypeIs (.ref z) "zip" := ⟨_, q.z, rfl⟩
  unfold pyNext
  refine wpAny_bind (wpAny_attempt (wpAny_callSpecial?_slot (name := Str.ofString "__next__") ty PySem.F.slot_zip_next (wpAny_call_entry PySem.F.slot_zip_next ty PySem.F.entry_zip_next ?_ (PySem.F.args_zip_next_1 _))))
  refine zip3_end hh D q hTI he fun h' e kk ⟨o, ho, hc⟩ => ?_
  exact wpAny_bind (wpAny_isInstance (T := "StopIteration") (b := true) ⟨o, ho, hc⟩ isSubtype_stop (wpAny_pure (hQ _ kk)))
/-! zip(..) of three -/
theorem typeCall_zip3 (a b c : Value) : checkTypeCall "zip" ⟨[a, b, c], []⟩ = pure () := by kernel_rfl
theorem newCall_zip3 (a b c : Value) : checkBuiltinCall "zip.__new__" ⟨[.type "zip", a, b, c], []⟩ = pure () := by kernel_rfl
theorem init_args4 (a b c d : Value) : argsOk "object.__init__" ⟨[a, b, c, d], []⟩ := by
  unfold argsOk
  rw [signature?_of (id := "object.__init__") (n := ['_', '_', 't', 'i', 'n', 'i', '_', '_']) (o := ['t', 'c', 'e', 'j', 'b', 'o']) (by kernel_rfl) PySem.F.owner_object]
  kernel_rfl
abbrev itO (a : Addr) : Obj := { cls := .type "list_iterator", data := .fields #[.ref a, .int 0 0] }
abbrev zh1 (h : Heap) (a : Addr) : Heap := h.push (itO a)
abbrev zh2 (h : Heap) (a b : Addr) : Heap := (zh1 h a).push (itO b)
abbrev zh3 (h : Heap) (a b c : Addr) : Heap := (zh2 h a b).push (itO c)
abbrev zh4 (h : Heap) (a b c : Addr) : Heap := (zh3 h a b c).push { cls := .type "tuple", data := .seq #[.ref h.objs.size, .ref (zh1 h a).objs.size, .ref (zh2 h a b).objs.size] }
abbrev zh5 (h : Heap) (a b c : Addr) : Heap := (zh4 h a b c).push { cls := .type "tuple", data := .seq #[.none, .none, .none] }
abbrev zh6 (h : Heap) (a b c : Addr) : Heap := (zh5 h a b c).push { cls := .type "zip", data := .fields #[.none, .bool false, .bool false, .ref (zh3 h a b c).objs.size, .ref (zh4 h a b c).objs.size] }
theorem meets_zip3 (a b c : Addr) (xs ys zs : Array Value) :
    Meets (Builtin.«zip.__new__» ⟨[.type "zip", .ref a, .ref b, .ref c], []⟩) (fun _ R s => s.heap.IsList a xs ∧ s.heap.IsList b ys ∧ s.heap.IsList c zs ∧ R (.ok (.ret (.ref (zh5 s.heap a b c).objs.size))) { s with heap := zh6 s.heap a b c }) :=
  .of_wp fun prog w A R s h => by
    obtain ⟨hp, g, d, tk, os⟩ := s
    obtain ⟨la, lb, lc, h⟩ := h
    have hsub := sub_zip
    have q1 : Heap.IsList (Shared.heap ⟨hp, g, d, tk, os⟩) a xs := la
    have q2 : Heap.IsList (Shared.heap ⟨hp.push (itO a), g, d, tk, os⟩) b ys := Heap.IsList.push lb _
    have q3 : Heap.IsList (Shared.heap ⟨(hp.push (itO a)).push (itO b), g, d, tk, os⟩) c zs := Heap.IsList.push (Heap.IsList.push lc _) _
    wp_walk using wpAny_pyIter_list q1, wpAny_pyIter_list q2, wpAny_pyIter_list q3
    exact ⟨_, rfl, h⟩
theorem call_zip3 {Q : Value → Shared → Prop} (la : s.heap.IsList a xs) (lb : s.heap.IsList b ys) (lc : s.heap.IsList c zs)
    (h : ∀ h', IsZip h' (s.heap.objs.size + 5) (s.heap.objs.size + 3) (s.heap.objs.size + 4) .none → Tri h' (s.heap.objs.size + 3) (.ref s.heap.objs.size) (.ref (s.heap.objs.size + 1)) (.ref (s.heap.objs.size + 2)) →
      Tri h' (s.heap.objs.size + 4) .none .none .none → h'.IsListIter s.heap.objs.size a 0 → h'.IsListIter (s.heap.objs.size + 1) b 0 → h'.IsListIter (s.heap.objs.size + 2) c 0 →
      (∀ x o, s.heap.get? x = some o → h'.get? x = some o) → Q (.ref (s.heap.objs.size + 5)) { s with heap := h' }) : wpAny (model prog w) A (call (.type "zip") [.ref a, .ref b, .ref c]) Q E s := by
  refine callType_new PySem.F.called_zip (by decide) (typeCall_zip3 _ _ _) (newCall_zip3 _ _ _) (fun obj => init_args4 obj _ _ _) PySem.F.entry_zip_new (meets_zip3 a b c xs ys zs) ⟨la, lb, lc, ?_⟩
  have n1 : (zh1 s.heap a).objs.size = s.heap.objs.size + 1 := Heap.size_push ..
  have n2 : (zh2 s.heap a b).objs.size = s.heap.objs.size + 2 := by rw [Heap.size_push, n1]
  have n3 : (zh3 s.heap a b c).objs.size = s.heap.objs.size + 3 := by rw [Heap.size_push, n2]
  have n4 : (zh4 s.heap a b c).objs.size = s.heap.objs.size + 4 := by rw [Heap.size_push, n3]
  have n5 : (zh5 s.heap a b c).objs.size = s.heap.objs.size + 5 := by rw [Heap.size_push, n4]
  have up : ∀ {g : Heap} {x : Addr} {o o' : Obj}, g.get? x = some o → (g.push o').get? x = some o := fun e => Heap.get?_push_of_some _ e
  have m6 : (zh6 s.heap a b c).get? (zh5 s.heap a b c).objs.size = some _ := Heap.get?_push_size _ rfl
  have m5 : (zh6 s.heap a b c).get? (zh4 s.heap a b c).objs.size = some _ := up (Heap.get?_push_size _ rfl)
  have m4 : (zh6 s.heap a b c).get? (zh3 s.heap a b c).objs.size = some _ := up (up (Heap.get?_push_size _ rfl))
  have m3 : (zh6 s.heap a b c).get? (zh2 s.heap a b).objs.size = some (itO c) := up (up (up (Heap.get?_push_size _ rfl)))
  have m2 : (zh6 s.heap a b c).get? (zh1 s.heap a).objs.size = some (itO b) := up (up (up (up (Heap.get?_push_size _ rfl))))
  have m1 : (zh6 s.heap a b c).get? s.heap.objs.size = some (itO a) := up (up (up (up (up (Heap.get?_push_size _ rfl)))))
  show _ ∧ _
  rw [n3, n4, n5] at m6
  rw [n4] at m5
  rw [n1, n2, n3] at m4
  rw [n2] at m3
  rw [n1] at m2
  rw [n5]
  exact ⟨⟨_, m6, rfl⟩, h _ m6 m4 m5 ⟨_, m1, rfl, rfl⟩ ⟨_, m2, rfl, rfl⟩ ⟨_, m3, rfl, rfl⟩ fun x o e => up (up (up (up (up (up e)))))⟩
end
/-! the turn -/
def It3 (K : PySem.W.Frag) (a b c : Addr) : It :=
  ⟨fun i H => ∃ (xs ys zs : List V) (x y z : V), (SqL K H a xs ∧ SqL K H b ys ∧ SqL K H c zs) ∧ xs[i]? = some x ∧ ys[i]? = some y ∧ zs[i]? = some z,
    fun i H v H' => ∃ T x y z, v = .ref T ∧ H T = none ∧ H' = upd H T (.tup [x, y, z]) ∧ (∀ xs, SqL K H a xs → xs[i]? = some x) ∧ (∀ ys, SqL K H b ys → ys[i]? = some y) ∧ ∀ zs, SqL K H c zs → zs[i]? = some z,
    fun i H => ∃ xs ys zs : List V, (SqL K H a xs ∧ SqL K H b ys ∧ SqL K H c zs) ∧ (xs.length ≤ i ∨ ys.length ≤ i ∨ zs.length ≤ i)⟩
theorem turn_zip3 {P : Program} {w : World} {K : PySem.W.Frag} {elts : List Expr} {kk : Nat} {tpos : Pos} {a b c z TI TO i1 i2 i3 : Addr} (D : Ap3 z TO i1 i2 i3 TI a b c) :
    Turn P w K (.Tuple elts kk tpos) (It3 K a b c) [z, TI, TO, i1, i2, i3] z (fun i h => IsZip h z TI TO .none ∧ Tri h TI (.ref i1) (.ref i2) (.ref i3) ∧ (∃ x y v, Tri h TO x y v) ∧ h.IsListIter i1 a i ∧ h.IsListIter i2 b i ∧ h.IsListIter i3 c i) where
  mem := List.mem_cons_self
  obj := fun i h st x hx => by
    obtain ⟨hz, hTI, ⟨_, _, _, hTO⟩, ⟨o1, f1, _, d1⟩, ⟨o2, f2, _, d2⟩, ⟨o3, f3, _, d3⟩⟩ := st
    simp only [List.mem_cons, List.not_mem_nil, or_false] at hx
    rcases hx with q | q | q | q | q | q <;> rw [q]
    · exact ⟨_, hz, fun v q => nomatch q⟩
    · exact ⟨_, hTI, fun v q => nomatch q⟩
    · exact ⟨_, hTO, fun v q => nomatch q⟩
    · exact ⟨o1, f1, fun v q => by rw [d1] at q; cases q⟩
    · exact ⟨o2, f2, fun v q => by rw [d2] at q; cases q⟩
    · exact ⟨o3, f3, fun v q => by rw [d3] at q; cases q⟩
  keep := fun i h h' st k => by
    obtain ⟨hz, hTI, ⟨x, y, v, hTO⟩, l1, l2, l3⟩ := st
    exact ⟨k z (by simp) _ hz, k TI (by simp) _ hTI, ⟨x, y, v, k TO (by simp) _ hTO⟩, l1.at fun o q => k i1 (by simp) o q, l2.at fun o q => k i2 (by simp) o q, l3.at fun o q => k i3 (by simp) o q⟩
  item := by
    intro X hP hw hK hc i pins s σ H E I hf st hg
    subst hP hw hK
    obtain ⟨hz, hTI, ⟨_, _, _, hTO⟩, l1, l2, l3⟩ := st
    obtain ⟨xs, ys, zs, x, y, v, ⟨qa, qb, qc⟩, hx, hy, hv⟩ := hg
    obtain ⟨us1, r1, p1, _⟩ := I.list qa
    obtain ⟨us2, r2, p2, _⟩ := I.list qb
    obtain ⟨us3, r3, p3, _⟩ := I.list qc
    obtain ⟨u1, g1, w1⟩ := r1.get hx
    obtain ⟨u2, g2, w2⟩ := r2.get hy
    obtain ⟨u3, g3, w3⟩ := r3.get hv
    have hzl : z < s.heap.objs.size := Heap.lt_size hz
    refine next3_item D (xs := us1.toArray) (ys := us2.toArray) (zs := us3.toArray) ⟨hz, hTO, l1, l2, l3, p1.isList, p2.isList, p3.isList⟩ hTI (x1 := u1) (x2 := u2) (x3 := u3) (by simpa using g1) (by simpa using g2) (by simpa using g3) fun h' st2 hT hsz hk => ?_
    refine ⟨_, rfl, wpAny_letOwnedTupleGo_zip (s := { s with heap := h' }) st2.z fun h'' z'' sb => ?_⟩
    have st3 := st2.atZ D z'' sb.extBut
    have hT2 : h''.get? s.heap.objs.size = some { cls := .type "tuple", data := .seq #[u1, u2, u3] } := sb.extBut _ _ (Nat.ne_of_gt hzl) hT
    have new : ObjOk X.prog X.w (upd H s.heap.objs.size (.tup [x, y, v])) h'' s.heap.objs.size (.tup [x, y, v]) :=
      ⟨by show 3 ≤ sizeLine; decide, [u1, u2, u3], .cons w1 (.cons w2 (.cons w3 .nil)), ⟨_, hT2, rfl, _, rfl⟩⟩
    have sub5 : ∀ x o, x ∉ [z, TI, TO, i1, i2, i3] → s.heap.get? x = some o → h''.get? x = some o := fun x o hx e => by
      simp only [List.mem_cons, List.not_mem_nil, or_false, not_or] at hx
      exact sb.extBut _ _ hx.1 (hk x o hx.1 hx.2.2.1 hx.2.2.2.1 hx.2.2.2.2.1 hx.2.2.2.2.2 e)
    have I1 : Inv X pins σ (upd H s.heap.objs.size (.tup [x, y, v])) { s with heap := h'' } := I.turnedNew (t' := s.toks) (ch := [z, TI, TO, i1, i2, i3]) (fun x o hb q => sub5 x o hb q) hf (Nat.le_refl _) new
    have tIn := D.r TI (.inl rfl)
    refine ⟨.ref s.heap.objs.size, _, I1, rfl, ⟨_, x, y, v, rfl, I.hok.fresh (Nat.le_refl _), rfl, fun l hl => by rw [I.list_inj hl qa]; exact hx, fun l hl => by rw [I.list_inj hl qb]; exact hy, fun l hl => by rw [I.list_inj hl qc]; exact hv⟩, ⟨z'', ?_, ⟨u1, u2, u3, st3.t⟩, st3.i, st3.j, st3.k⟩, fun d hd => ?_⟩
    · exact sb.extBut _ _ tIn.1 (hk _ _ tIn.1 tIn.2.1 tIn.2.2.1 tIn.2.2.2.1 tIn.2.2.2.2 hTI)
    · have hlt : d < s.heap.objs.size := by
        simp only [List.mem_cons, List.not_mem_nil, or_false] at hd
        rcases hd with q | q | q | q | q | q <;> rw [q]
        · exact hzl
        · exact Heap.lt_size hTI
        · exact Heap.lt_size hTO
        · obtain ⟨_, e, _⟩ := l1; exact Heap.lt_size e
        · obtain ⟨_, e, _⟩ := l2; exact Heap.lt_size e
        · obtain ⟨_, e, _⟩ := l3; exact Heap.lt_size e
      rw [upd_ne (Nat.ne_of_lt hlt)]
      exact (hf d hd).1
  done := by
    intro X hP hw hK hc i pins s σ H E I hf st hg
    subst hP hw hK
    obtain ⟨hz, hTI, ⟨_, _, _, hTO⟩, l1, l2, l3⟩ := st
    obtain ⟨xs, ys, zs, ⟨qa, qb, qc⟩, hend⟩ := hg
    obtain ⟨us1, r1, p1, _⟩ := I.list qa
    obtain ⟨us2, r2, p2, _⟩ := I.list qb
    obtain ⟨us3, r3, p3, _⟩ := I.list qc
    have n1 := r1.length
    have n2 := r2.length
    have n3 := r3.length
    refine next3_end (I.ok.hd hc) D (xs := us1.toArray) (ys := us2.toArray) (zs := us3.toArray) ⟨hz, hTO, l1, l2, l3, p1.isList, p2.isList, p3.isList⟩ hTI ?_ fun h' hk => ⟨rfl, I.turnedL (t' := s.toks) (ch := [z, TI, TO, i1, i2, i3]) (fun x o hb q => ?_) hf⟩
    · rcases hend with q | q | q
      · exact .inl (by simp; omega)
      · exact .inr (.inl (by simp; omega))
      · exact .inr (.inr (by simp; omega))
    · simp only [List.mem_cons, List.not_mem_nil, or_false, not_or] at hb
      exact hk x o hb.1 hb.2.2.1 hb.2.2.2.1 hb.2.2.2.2.1 hb.2.2.2.2.2 q
  self := fun A i s Q E st h => wpAny_pyIter_zip st.1 h
theorem ap3_new (I a b c : Nat) (h1 : a < I) (h2 : b < I) (h3 : c < I) : Ap3 (I + 5) (I + 4) I (I + 1) (I + 2) (I + 3) a b c :=
  ⟨(fun h => by have h : (I + 5 : Nat) = I + 4 := h; omega), (fun h => by have h : (I + 5 : Nat) = I := h; omega), (fun h => by have h : (I + 5 : Nat) = I + 1 := h; omega), (fun h => by have h : (I + 5 : Nat) = I + 2 := h; omega), (fun h => by have h : (I + 4 : Nat) = I := h; omega), (fun h => by have h : (I + 4 : Nat) = I + 1 := h; omega), (fun h => by have h : (I + 4 : Nat) = I + 2 := h; omega), (fun h => by have h : (I : Nat) = I + 1 := h; omega), (fun h => by have h : (I : Nat) = I + 2 := h; omega), (fun h => by have h : (I + 1 : Nat) = I + 2 := h; omega), fun x hx => by
    obtain ⟨x', ex⟩ : ∃ x' : Nat, x' = x := ⟨x, rfl⟩
    have hx : x' = I + 3 ∨ x' < I := by
      rw [ex]
      rcases hx with q | q | q | q <;> rw [q]
      · exact .inl rfl
      · exact .inr h1
      · exact .inr h2
      · exact .inr h3
    exact ⟨(fun h => by have h : x' = I + 5 := ex.trans h; omega), (fun h => by have h : x' = I + 4 := ex.trans h; omega), (fun h => by have h : x' = I := ex.trans h; omega), (fun h => by have h : x' = I + 1 := ex.trans h; omega), (fun h => by have h : x' = I + 2 := ex.trans h; omega)⟩⟩
def iZip3 (K : PySem.W.Frag) (ta : TA) : TI := fun σ H R => ta σ H fun vs H1 => ∃ a b c xs ys zs, vs = [.ref a, .ref b, .ref c] ∧ SqL K H1 a xs ∧ SqL K H1 b ys ∧ SqL K H1 c zs ∧ R (It3 K a b c) H1
theorem pi_zip3 {X : Cx} {e e2 e3 : Expr} {ta : TA} {p pos tpos : Pos} {elts : List Expr} {kk : Nat} (hg : Gl X "zip") (hm : X.mg "zip" = none) (ha : PA X [e, e2, e3] ta)
    (hs : starEach [e, e2, e3] X.env = (false, eval e X.env) :: starEach [e2, e3] X.env := by rfl) (hpl : (backTo pos (starEach [e2, e3] X.env)).any (·.1) = false := by rfl) :
    PI X (.Tuple elts kk tpos) (.Call (.Name "zip" p) [e, e2, e3] [] pos) (iZip3 X.K ta) := by
  refine ⟨fun pins s σ H R I h => ?_⟩
  refine Call_ (ld_blt I hg hm PyProof.Rows.boot_zip (PyProof.Rows.callWith_type1 (thn (ha.run pos pins s σ H _ I h) fun us s1 ⟨vs, H1, I1, r1, q1⟩ => ?_) hs hpl))
  obtain ⟨a, b, c, xs, ys, zs, ex, qa, qb, qc, q⟩ := q1
  subst ex
  cases r1 with
  | cons ra rr =>
    cases rr with
    | cons rb rr =>
      cases rr with
      | cons rc rr =>
        cases rr
        cases ra
        cases rb
        cases rc
        obtain ⟨_, _, p1, _⟩ := I1.list qa
        obtain ⟨_, _, p2, _⟩ := I1.list qb
        obtain ⟨_, _, p3, _⟩ := I1.list qc
        refine call_zip3 p1.isList p2.isList p3.isList fun h' hz hTI hTO l1 l2 l3 hk => wpAny_pyIter_zip hz ?_
        have I2 : Inv X pins σ H1 { s1 with heap := h' } := I1.kept (t' := s1.toks) hk
        refine ⟨s1.heap.objs.size + 5, [s1.heap.objs.size + 5, s1.heap.objs.size + 3, s1.heap.objs.size + 4, s1.heap.objs.size, s1.heap.objs.size + 1, s1.heap.objs.size + 2], _, _, H1, rfl, I2, turn_zip3 (ap3_new s1.heap.objs.size a b c p1.lt p2.lt p3.lt), ⟨hz, hTI, ⟨_, _, _, hTO⟩, l1, l2, l3⟩, fun x hx => ?_, q⟩
        have hle : s1.heap.objs.size ≤ x := by
          simp only [List.mem_cons, List.not_mem_nil, or_false] at hx
          rcases hx with q | q | q | q | q | q <;> (rw [q]; first | exact Nat.le_add_right _ _ | exact Nat.le_refl _)
        exact I1.fpOk hle (I1.hok.fresh hle)
/-! as a list of triples -/
section
variable {X : Cx} {g : Gm} {l : List Res} {e e2 e3 : Expr} {p : Pos}
def zipD3 (ds es fs : List D) : List D := (ds.zip (es.zip fs)).map fun q => D.tup [q.1, q.2.1, q.2.2]
theorem zipD3_len {ds es fs : List D} : (zipD3 ds es fs).length = min ds.length (min es.length fs.length) := by unfold zipD3; rw [List.length_map, List.length_zip, List.length_zip]
theorem zipD3_get {ds es fs : List D} {i : Nat} {d : D} (h : (zipD3 ds es fs)[i]? = some d) : ∃ a b c, ds[i]? = some a ∧ es[i]? = some b ∧ fs[i]? = some c ∧ d = .tup [a, b, c] := by
  unfold zipD3 at h
  rw [List.getElem?_map] at h
  cases q : (ds.zip (es.zip fs))[i]? with
  | none => rw [q] at h; cases h
  | some r =>
    rw [q] at h
    obtain ⟨h1, h2⟩ := List.getElem?_zip_eq_some.mp q
    obtain ⟨h3, h4⟩ := List.getElem?_zip_eq_some.mp h2
    exact ⟨r.1, r.2.1, r.2.2, h1, h3, h4, (Option.some.inj h).symm⟩
theorem jg_zip3 {lk : List Res} {K : PySem.W.Frag} {F : Hp} {a b c : Addr} {vs ws us : List V} {ds es fs : List D} (s1 : SqL K F a vs) (f1 : FdAll K F vs ds) (s2 : SqL K F b ws) (f2 : FdAll K F ws es) (s3 : SqL K F c us) (f3 : FdAll K F us fs) : JG K lk F (It3 K a b c) (zipD3 ds es fs) := fun F' M' H e1 e2 _ _ => by
  have t1 : SqL K H a vs := ex_l (e1.tr e2) s1
  have t2 : SqL K H b ws := ex_l (e1.tr e2) s2
  have t3 : SqL K H c us := ex_l (e1.tr e2) s3
  have n1 := f1.length
  have n2 := f2.length
  have n3 := f3.length
  refine ⟨fun i hi => ?_, ⟨vs, ws, us, ⟨t1, t2, t3⟩, by rw [zipD3_len]; omega⟩, fun i d x H' hd hy => ?_⟩
  · rw [zipD3_len] at hi
    have q1 : i < vs.length := by omega
    have q2 : i < ws.length := by omega
    have q3 : i < us.length := by omega
    exact ⟨vs, ws, us, vs[i], ws[i], us[i], ⟨t1, t2, t3⟩, List.getElem?_eq_getElem q1, List.getElem?_eq_getElem q2, List.getElem?_eq_getElem q3⟩
  · obtain ⟨T, x, y, z, rfl, hT, rfl, h1, h2, h3⟩ := hy
    obtain ⟨a', b', c', g1, g2, g3, rfl⟩ := zipD3_get hd
    obtain ⟨v1, k1, r1⟩ := f1.get g1
    obtain ⟨v2, k2, r2⟩ := f2.get g2
    obtain ⟨v3, k3, r3⟩ := f3.get g3
    cases Option.some.inj (k1.symm.trans (h1 vs t1))
    cases Option.some.inj (k2.symm.trans (h2 ws t2))
    cases Option.some.inj (k3.symm.trans (h3 us t3))
    have n := New.upd (o := .tup [x, y, z]) e2 hT
    exact ⟨_, n, .tup (SqT.of upd_same) (.cons (r1.mono (e1.tr n.f)) (.cons (r2.mono (e1.tr n.f)) (.cons (r3.mono (e1.tr n.f)) .nil)))⟩
theorem it_zip3 {elts : List Expr} {kk : Nat} {tpos pp : Pos} {ds es' fs : List D} (h : Px X e g l (.lst ds)) (h' : Px X e2 g l (.lst es')) (h'' : Px X e3 g l (.lst fs)) (hm : X.mg "zip" = none) (hg : Gl X "zip" := by rfl)
    (hs : starEach [e, e2, e3] X.env = (false, eval e X.env) :: starEach [e2, e3] X.env := by rfl) (hs2 : starEach [e2, e3] X.env = (false, eval e2 X.env) :: starEach [e3] X.env := by rfl) (hs3 : starEach [e3] X.env = [(false, eval e3 X.env)] := by rfl)
    (hpl : (backTo pp (starEach [e2, e3] X.env)).any (·.1) = false := by rfl) : Itw X (.Tuple elts kk tpos) (.Call (.Name "zip" p) [e, e2, e3] [] pp) g l (zipD3 ds es' fs) :=
  ⟨_, pi_zip3 hg hm (pa_wp (es := [e, e2, e3])) hs hpl, fun en T σ H R s k => pa_c h (pa_c h' (pa_c h'' pa_n hs3) hs2) hs en T σ H _ s fun vs H1 s1 => by
  obtain ⟨F, M, q⟩ := s1
  obtain ⟨f, t⟩ := q.tm
  cases f with
  | cons a f =>
    cases f with
    | cons b f =>
      cases f with
      | cons c f =>
        cases f
        cases a with
        | lst sa a =>
          cases b with
          | lst sb b =>
            cases c with
            | lst sc c => exact ⟨_, _, _, _, _, _, rfl, SqL.of (q.exF _ _ sa), SqL.of (q.exF _ _ sb), SqL.of (q.exF _ _ sc), k _ H1 F M (q.tmp t) (jg_zip3 (SqL.of sa) a (SqL.of sb) b (SqL.of sc) c)⟩⟩
theorem zip3_map {α β γ : Type} {f : α → D} {f2 : β → D} {f3 : γ → D} {xs : List α} {ys : List β} {zs : List γ} : zipD3 (xs.map f) (ys.map f2) (zs.map f3) = (xs.zip (ys.zip zs)).map fun q => D.tup [f q.1, f2 q.2.1, f3 q.2.2] := by
  unfold zipD3
  rw [List.zip_map, List.zip_map, List.map_map]
  rfl
theorem zip3_get {α β γ : Type} {xs : List α} {ys : List β} {zs : List γ} {i : Nat} {x : α × β × γ} (h : (xs.zip (ys.zip zs))[i]? = some x) : xs[i]? = some x.1 ∧ ys[i]? = some x.2.1 ∧ zs[i]? = some x.2.2 := by
  obtain ⟨h1, h2⟩ := List.getElem?_zip_eq_some.mp h
  obtain ⟨h3, h4⟩ := List.getElem?_zip_eq_some.mp h2
  exact ⟨h1, h3, h4⟩
end
end Sx
set_option Elab.async false
set_option linter.all false
set_option maxRecDepth 100000
set_option maxHeartbeats 4000000
set_option pp.maxSteps 400
/-! sorted(set(xs)), xs a list of texts. -/
namespace Sx
open PySem PySem.Spec PyProof.Rows L2
/-- a set of texts: its members, each once -/
def StrSet (w : World) (h : Heap) (a : Addr) (ks : List Str) : Prop :=
  ∃ o es ep t, h.get? a = some o ∧ o.ExactSet ∧ o.data = .set es ep t ∧ (∀ e ∈ es.toList, ∃ k tk, e = (hashStr w k, Value.str k tk)) ∧ (es.toList.map fun e => strOf e.2).Perm ks ∧ ks.Nodup ∧
    es.size < scanBound ∧ t.fits es.size = true ∧ Ris t.place.toList ∧ (w.params.followText "set-order" = true ∨ t.led = true)
theorem StrSet.at {w : World} {h h' : Heap} {a : Addr} {ks : List Str} (R : StrSet w h a ks) (k : ∀ o, h.get? a = some o → h'.get? a = some o) : StrSet w h' a ks := by
  obtain ⟨o, es, ep, t, g, r⟩ := R
  exact ⟨o, es, ep, t, k o g, r⟩
section
variable {P : Program} {w : World} {A : Around} {E : Value → Shared → Prop} {s : Shared} {a : Addr} {ks : List Str}
theorem ss_tail {gv : Bool → Sem Unit} (hgv : ∀ (b : Bool) (s₁ : Shared) (Q' : Unit → Shared → Prop), Q' () s₁ → wpAny (model P w) A (gv b) Q' E s₁)
    {o : Obj} {es fs : Array (Int × Value)} {ep : Nat} {t u : SetTable} (g : s.heap.get? a = some o) (ex : o.ExactSet) (hd : o.data = .set es ep t)
    (good : ∀ e ∈ fs.toList, ∃ k tk, e = (hashStr w k, Value.str k tk)) (pm : (fs.toList.map fun e => strOf e.2).Perm ks) (nd : ks.Nodup) (hb : fs.size < scanBound) (hf : u.fits fs.size = true) (ris : Ris u.place.toList) (led : w.params.followText "set-order" = true ∨ u.led = true)
    {dm : Bool} {R : Option Bool → Shared → Prop} (hR : ∀ h', Heap.SameBut a s.heap h' → StrSet w h' a ks → R (some true) { s with heap := h' }) :
    wpAny (model P w) A (do
        storeSet a fs u
        if (!dm && u.tooFull) = true then do
            gv (relayAll u fs (SetTable.grown fs.size)).2.2
            storeSet a (relayAll u fs (SetTable.grown fs.size)).1 (relayAll u fs (SetTable.grown fs.size)).2.1
            pure (some true)
          else pure (some true)) R E s := by
  refine wpAny_bind (wpAny_storeSet_of g hd ?_ (fits_of_scanBound hb))
  have g1 := store_at (es' := fs) (t' := u) g hd
  have b1 := Heap.SameBut.update s.heap a (Obj.putSet fs u)
  split
  · have q1 := relayAll_perm u fs (SetTable.grown fs.size)
    have q2 := relayAll_fits u fs (SetTable.grown fs.size)
    have q3 := relayAll_ris u fs (SetTable.grown fs.size)
    have q4 := relayAll_led u fs (SetTable.grown fs.size)
    generalize relayAll u fs (SetTable.grown fs.size) = Z at q1 q2 q3 q4 ⊢
    obtain ⟨ms, v, gave⟩ := Z
    dsimp only at q1 q2 q3 q4 ⊢
    have sz : ms.size = fs.size := by rw [← Array.length_toList, q1.length_eq, Array.length_toList]
    have hb2 : ms.size < scanBound := by rw [sz]; exact hb
    refine wpAny_bind (hgv _ _ _ (wpAny_bind (wpAny_storeSet_of g1 rfl ?_ (fits_of_scanBound hb2))))
    have g2 := store_at (es' := ms) (t' := v) g1 rfl
    exact wpAny_pure (hR _ (b1.trans (Heap.SameBut.update _ a _)) ⟨_, ms, _, v, g2, ex, rfl, fun e he => good e (q1.mem_iff.mp he), (q1.map _).trans pm, nd, hb2, q2, q3, led.imp id fun z => by rw [q4]; exact z⟩)
  · exact wpAny_pure (hR _ b1 ⟨_, fs, _, u, g1, ex, rfl, good, pm, nd, hb, hf, ris, led⟩)
theorem gave_way (b : Bool) {s₁ : Shared} {Q' : Unit → Shared → Prop} (q : Q' () s₁) : wpAny (model P w) A (match b with | true => rule "set.scan.the-table-gave-way" | false => pure ()) Q' E s₁ := by
  cases b
  · exact wpAny_pure q
  · exact wpAny_rule q
theorem ss_add {k : Str} {tk : Tok} {Q : Bool → Shared → Prop} (R : StrSet w s.heap a ks) (room : ks.length + 1 < scanBound)
    (hQ : ∀ b h', Heap.SameBut a s.heap h' → StrSet w h' a (if k ∈ ks then ks else k :: ks) → Q b { s with heap := h' }) : wpAny (model P w) A (setAddHashed a (.str k tk) ((PySem.strKind P w).hash k)) Q E s := by
  obtain ⟨o, es, ep, t, g, ex, hd, good, pm, nd, hb, hf, ris, led⟩ := R
  have el : ElemsOf (PySem.strKind P w) es.toList := fun e he => by
    obtain ⟨x, y, rfl⟩ := good e he
    exact ⟨⟨x, strKind_is P w x y, rfl⟩, rfl⟩
  have mem : ∀ x, x ∈ ks ↔ ∃ e ∈ es.toList, (PySem.strKind P w).is x e.2 = true := fun x => by
    rw [← pm.mem_iff, List.mem_map]
    constructor
    · rintro ⟨e, he, rfl⟩
      obtain ⟨x, y, rfl⟩ := good e he
      exact ⟨_, he, strKind_is P w x y⟩
    · rintro ⟨e, he, q⟩
      obtain ⟨z, y, rfl⟩ := good e he
      obtain ⟨_, e2⟩ := Value.isStrOf_shape (x := x) (v := Value.str z y) q
      injection e2 with e3
      exact ⟨_, he, e3⟩
  have sz : es.size = ks.length := by rw [← pm.length_eq, List.length_map, Array.length_toList]
  unfold setAddHashed setAddHashedIn
  refine wpAny_holding (wpAny_bind (wpAny_setState_of g hd hf ?_))
  dsimp only
  rw [byScan_of (x := Value.str k tk) rfl hb el]
  simp only [↓reduceIte]
  unfold setAddByScan
  refine wpAny_bind (wpAny_bind (wpAny_rule (wpAny_bind (wpAny_setScan_of (strKind_is P w k tk) g hd hf el ?_))))
  cases fi : List.findIdx? (fun e => (PySem.strKind P w).is k e.2) es.toList with
  | some j =>
    dsimp only
    obtain ⟨hj, pj, _⟩ := List.findIdx?_eq_some_iff_getElem.mp fi
    have hk : k ∈ ks := (mem k).mpr ⟨es.toList[j], List.getElem_mem hj, pj⟩
    refine wpAny_pure (wpAny_pure (hQ _ s.heap (Heap.SameBut.refl a s.heap) ?_))
    rw [if_pos hk]
    exact ⟨o, es, ep, t, g, ex, hd, good, pm, nd, hb, hf, ris, led⟩
  | none =>
    dsimp only
    have hk : k ∉ ks := fun z => by
      obtain ⟨e, he, q⟩ := (mem k).mp z
      have := List.findIdx?_eq_none_iff.mp fi e he
      rw [q] at this
      cases this
    have p1 := layNew_perm t es ((PySem.strKind P w).hash k) (.str k tk)
    have p2 := layNew_fits t es ((PySem.strKind P w).hash k) (.str k tk)
    have p3 := layNew_ris t es ((PySem.strKind P w).hash k) (.str k tk) ris
    have p4 := layNew_led t es ((PySem.strKind P w).hash k) (.str k tk)
    generalize layNew t es ((PySem.strKind P w).hash k) (.str k tk) = Z at p1 p2 p3 p4 ⊢
    obtain ⟨fs, u, dm, gave⟩ := Z
    dsimp only at p1 p2 p3 p4 ⊢
    rw [Array.toList_push] at p1
    have pc : fs.toList.Perm ((hashStr w k, Value.str k tk) :: es.toList) := p1.trans (List.perm_append_singleton _ _)
    have good' : ∀ e ∈ fs.toList, ∃ k tk, e = (hashStr w k, Value.str k tk) := fun e he => by
      rcases List.mem_cons.mp (pc.mem_iff.mp he) with z | z
      · exact ⟨k, tk, z⟩
      · exact good e z
    have pm' : (fs.toList.map fun e => strOf e.2).Perm (k :: ks) := (pc.map _).trans (List.Perm.cons _ pm)
    have nd' : (k :: ks).Nodup := List.nodup_cons.mpr ⟨hk, nd⟩
    have sz' : fs.size = ks.length + 1 := by rw [← Array.length_toList, pc.length_eq, List.length_cons, Array.length_toList, sz]
    have hb' : fs.size < scanBound := by rw [sz']; exact room
    have led' : w.params.followText "set-order" = true ∨ u.led = true := led.imp id fun z => by rw [p4]; exact z
    have fin : ∀ b h', Heap.SameBut a s.heap h' → StrSet w h' a (k :: ks) → Q b { s with heap := h' } := fun b h' sb r => hQ b h' sb (by rw [if_neg hk]; exact r)
    refine wpAny_bind (gave_way _ ?_)
    split
    · refine wpAny_bind ?_
      rw [hashByValue_scannable 8 (x := Value.str k tk) rfl]
      refine wpAny_pure (ss_tail (fun b s₁ Q' q => gave_way b q) g ex hd good' pm' nd' hb' ?_ ?_ ?_ fun h' sb r => ?_)
      · first | (split <;> first | exact p2 | exact SetTable.fits_plain_off p2) | exact p2
      · first | (split <;> exact p3) | exact p3
      · first | (split <;> exact led') | exact led'
      · dsimp only; exact wpAny_pure (fin _ h' sb r)
    · refine wpAny_bind (wpAny_pure ?_)
      simp only [↓reduceIte]
      exact ss_tail (fun b s₁ Q' q => gave_way b q) g ex hd good' pm' nd' hb' p2 p3 led' fun h' sb r => (by dsimp only; exact wpAny_pure (fin _ h' sb r))
/-- the members that come one by one -/
def gather (ks : List Str) (xs : List Str) : List Str := xs.foldl (fun ks x => if x ∈ ks then ks else x :: ks) ks
theorem gather_mem {k : Str} : ∀ (xs ks : List Str), k ∈ gather ks xs ↔ k ∈ ks ∨ k ∈ xs
  | [], ks => by show k ∈ ks ↔ _; simp
  | x :: xs, ks => by
    show k ∈ gather (if x ∈ ks then ks else x :: ks) xs ↔ _
    rw [gather_mem xs]
    by_cases q : x ∈ ks
    · rw [if_pos q, List.mem_cons]
      constructor
      · rintro (h | h)
        · exact .inl h
        · exact .inr (.inr h)
      · rintro (h | h | h)
        · exact .inl h
        · rw [h]; exact .inl q
        · exact .inr h
    · rw [if_neg q, List.mem_cons, List.mem_cons]
      constructor
      · rintro ((h | h) | h)
        · exact .inr (.inl h)
        · exact .inl h
        · exact .inr (.inr h)
      · rintro (h | h | h)
        · exact .inl (.inr h)
        · exact .inl (.inl h)
        · exact .inr h
theorem gather_len : ∀ (xs ks : List Str), (gather ks xs).length ≤ ks.length + xs.length
  | [], ks => Nat.le_refl _
  | x :: xs, ks => by
    show (gather (if x ∈ ks then ks else x :: ks) xs).length ≤ _
    have := gather_len xs (if x ∈ ks then ks else x :: ks)
    rw [List.length_cons]
    by_cases q : x ∈ ks
    · rw [if_pos q] at this ⊢; omega
    · rw [if_neg q] at this ⊢; rw [List.length_cons] at this; omega
theorem ss_update {I : Addr} {fp wr : List Addr} {G : Array GenState → Array GenState → Prop} {n : Nat} {Pv : Nat → Value → Prop} {St : Nat → Shared → Prop} {R : Result → Shared → Prop}
    (W : WalksS P w A.in1 I fp wr G n Pv St) (S : Addr) (hSf : S ∉ fp) (xs : List Str) (hn : n = xs.length) (hb : xs.length + 1 < scanBound) (hval : ∀ i v, Pv i v → ∃ k t, xs[i]? = some k ∧ v = .str k t) :
    ∀ (m i : Nat) (s : Shared), n - i = m → i ≤ n → St i s → StrSet w s.heap S (gather [] (xs.take i)) →
      (∀ s', Moved (S :: wr) G s s' → StrSet w s'.heap S (gather [] xs) → R (.ok (.ret .none)) s') → codeAny (model P w) A (.builtin "set.update.loop" ⟨[.ref S, .ref I], []⟩) R s := by
  have hSw : S ∉ wr := fun z => hSf (W.sub _ z)
  have sub : ∀ b ∈ wr, b ∈ S :: wr := fun b z => List.mem_cons_of_mem _ z
  intro m
  induction m with
  | zero =>
    intro i s em hi st hS hR
    obtain rfl : i = n := by omega
    refine codeAny_builtin PyProof.Rows.F.entry_set_update_loop ?_
    rw [Around.under_plainId PyProof.Rows.F.plain_set_update_loop _]
    show wpAny _ A.in1 (pyNext (.ref I) >>= _) _ _ s
    refine wpAny_bind (W.done s _ _ st fun s' mv => ?_)
    show wpAny _ A.in1 (ret Value.none) _ _ s'
    rw [List.take_of_length_le (by omega)] at hS
    exact wpAny_pure (hR s' (mv.mono sub) (hS.at fun o e => mv.heap S o hSw e))
  | succ m ih =>
    intro i s em hi st hS hR
    have lt : i < n := by omega
    refine codeAny_builtin PyProof.Rows.F.entry_set_update_loop ?_
    rw [Around.under_plainId PyProof.Rows.F.plain_set_update_loop _]
    show wpAny _ A.in1 (pyNext (.ref I) >>= _) _ _ s
    refine wpAny_bind (W.item i s _ _ lt st fun v s' hP st' mv => ?_)
    obtain ⟨k, t, hk, rfl⟩ := hval i v hP
    have hS' : StrSet w s'.heap S (gather [] (xs.take i)) := hS.at fun o e => mv.heap S o hSw e
    show wpAny _ A.in1 (holding [Value.str k t] (setAdd S (.str k t)) >>= _) _ _ s'
    refine wpAny_bind (wpAny_holding ?_)
    unfold setAdd
    refine wpAny_holding (wpAny_bind ((PySem.strKind P w).pyHash (k := k) (strKind_is P w k t) ?_))
    have hlen := gather_len (xs.take i) []
    rw [List.length_take, List.length_nil] at hlen
    refine ss_add (s := { s' with toks := s'.toks + 1 }) hS' (by omega) fun b h' sb hS2 => ?_
    have hS3 : StrSet w h' S (gather [] (xs.take (i + 1))) := by
      rw [List.take_add_one, hk, Option.toList_some]
      unfold gather
      rw [List.foldl_append]
      exact hS2
    refine wpAny_pure ⟨plainId_quiet PyProof.Rows.F.plain_set_update_loop _, ih (i + 1) _ (by omega) lt (W.frame _ s' _ _ st' (Nat.le_succ _) fun b hb o e => ?_) hS3 fun s'' mv'' hS'' => ?_⟩
    · rw [sb.2 b (fun z : b = S => hSf (by rw [← z]; exact hb))]; exact e
    · refine hR s'' (Moved.trans W.gtrans ((mv.mono sub).then_heap (Nat.le_succ _) fun b o hb e => ?_) mv'') hS''
      rw [sb.2 b (fun z : b = S => hb (by rw [z]; exact List.mem_cons_self))]; exact e
abbrev newSet (w : World) : Obj := { cls := .type "set", dict := none, data := .set #[] 0 (.fresh 0 0 (!w.params.followText "set-order")) }
theorem ss_new {w : World} {h : Heap} {a : Addr} (g : h.get? a = some (newSet w)) : StrSet w h a [] :=
  ⟨_, #[], 0, _, g, ⟨rfl, rfl, rfl⟩, rfl, (fun e he => by simp at he), List.Perm.refl _, List.nodup_nil, by decide, by rfl, List.Pairwise.nil, by
    show _ ∨ (!w.params.followText "set-order") = true
    cases w.params.followText "set-order"
    · exact .inr rfl
    · exact .inl rfl⟩
set_option maxRecDepth 100000 in
set_option maxHeartbeats 8000000 in
theorem call_set_strs {l : Addr} {items : Array Value} (xs : List Str) {Q : Value → Shared → Prop} (hh : A.handled = none) (hl : s.heap.IsList l items) (hit : StrsAre items.toList xs) (hb : xs.length + 1 < scanBound)
    (h : ∀ (h' : Heap) (tk : Nat), StrSet w h' s.heap.objs.size (gather [] xs) → (∀ b o, s.heap.get? b = some o → h'.get? b = some o) → Q (.ref s.heap.objs.size) { s with heap := h', toks := tk }) :
    wpAny (model P w) A (call (.type "set") [.ref l]) Q E s := by
  have isz : items.size = xs.length := by
    have q := congrArg List.length hit.strs
    rw [List.length_map, Array.length_toList] at q
    exact q
  obtain ⟨c, tl, hmro⟩ := PySem.F.called_set.mro
  have hmade := PySem.F.called_set.made
  have hsub := PySem.F.called_set.sub
  refine wpAny_call (codeAny_of_tree ?_)
  show wpAny _ _ (callAny (.type "set") _) _ _ _
  refine wpAny_pure ⟨Code.quiet_builtin _ (by decide +kernel), codeAny_builtin PySem.F.entry_type_call ?_⟩
  rw [Around.under_plain (weight_type_call_type "set" [.ref l] []) rfl]
  have h1 := PySem.F.called_set.notType
  have h2 := PySem.F.called_set.canCreate
  have hct := PySem.F.typeCall_set_1 (.ref l)
  repeat (any_goals (first | assumption | wp_step))
  refine codeAny_mono (code_set_led1 (.ref l) (E := E) (Q₁ := fun obj s₁ => obj = .ref s.heap.objs.size ∧ s₁ = { s with heap := s.heap.push (newSet w) }) ⟨rfl, rfl⟩) fun r s₁ hr => ?_
  cases r with
  | error e => exact hr
  | ok fl =>
    cases fl with
    | ret obj =>
      obtain ⟨rfl, rfl⟩ := hr
      have hS : (s.heap.push (newSet w)).get? s.heap.objs.size = some (newSet w) := Heap.get?_push_size _ rfl
      have hT : Shared.TypeIs { s with heap := s.heap.push (newSet w) } (.ref s.heap.objs.size) "set" := ⟨_, hS, rfl⟩
      have hli := PySem.F.called_set.init.lookup
      have hbi := PySem.F.called_set.init.bind (.ref s.heap.objs.size)
      repeat (any_goals (first | assumption | wp_step))
      refine codeAny_mono (codeAny_call_builtin (R := wants (fun r s₂ => r = .none ∧ ∃ h' tk, s₂ = { s with heap := h', toks := tk } ∧ StrSet w h' s.heap.objs.size (gather [] xs) ∧ (∀ b o, s.heap.get? b = some o → h'.get? b = some o)) E) PySem.F.called_set.init.plain PySem.F.entry_set_init (check_set_init_1 hT ?_)) fun r₂ s₂ hr₂ => ?_
      · obtain ⟨⟨lc, ld, lo, ls⟩, gl, hc, nl, hd⟩ := hl
        simp only at hc hd
        subst hc; subst hd
        have gl' : (s.heap.push (newSet w)).get? l = some { cls := .type "list", dict := ld, data := .seq items nl, slots := ls } := Heap.get?_push_of_some _ gl
        have hsls := PySem.F.sub_list_set
        have hslf := PySem.F.sub_list_frozenset
        have hne : (Value.type "list" == Value.type "dict") = false := by decide
        have il : (s.heap.push (newSet w)).IsList l items := ⟨_, gl', rfl, nl, rfl⟩
        unfold Builtin.«set.__init__» noKeywords Builtin.Frozenset.updateFrom
        generalize hPI : pyIter = PI
        wp_walk
        subst hPI
        refine wpAny_pyIter_list il (wpAny_bind (wpAny_runValue ?_))
        have lS : l < s.heap.objs.size := Heap.lt_size gl
        have hh3 : A.in1.in1.in1.handled = none := by simp [hh]
        have neI : l ≠ (s.heap.push (newSet w)).objs.size := by rw [Heap.size_push]; exact Nat.ne_of_lt (Nat.lt_succ_of_lt lS)
        have nS : s.heap.objs.size ∉ [(s.heap.push (newSet w)).objs.size, l] := by
          rw [Heap.size_push]
          simp only [List.mem_cons, List.not_mem_nil, or_false, not_or]
          exact ⟨Nat.ne_of_lt (Nat.lt_succ_self _), Nat.ne_of_gt lS⟩
        have hval : ∀ (i : Nat) (v : Value), items[i]? = some v → ∃ k t, xs[i]? = some k ∧ v = .str k t := fun i v hv => by
          have hi := (Array.getElem?_eq_some_iff.mp hv).1
          have hv' : items.toList[i]? = some v := by rw [Array.getElem?_toList]; exact hv
          obtain ⟨x, t, rfl⟩ := hit.all v (List.mem_of_getElem? hv')
          refine ⟨x, t, ?_, rfl⟩
          rw [← hit.strs, List.getElem?_map, hv']
          rfl
        refine ss_update ((Walks.list hh3 _ l neI items).toS) s.heap.objs.size nS xs isz hb hval (items.size - 0) 0 _ (by omega) (Nat.zero_le _) ⟨⟨_, Heap.get?_push_size _ rfl, rfl, rfl⟩, (il.push _)⟩ ?s0 ?hr
        case s0 => exact ss_new (Heap.get?_push_of_some _ hS)
        case hr =>
          intro s' mv hS'
          obtain ⟨h', g2, d', tk', os'⟩ := s'
          obtain rfl : g2 = s.gens := mv.gens
          obtain rfl : d' = s.drawn := mv.drawn
          obtain rfl : os' = s.os := mv.os
          show wpAny _ _ _ _ _ _
          refine wpAny_pure ?_
          show wpAny _ _ (ret Value.none) _ _ _
          refine wpAny_pure ⟨rfl, h', tk', rfl, hS', fun b o e => ?_⟩
          have n0 : b < s.heap.objs.size := Heap.lt_size e
          have n1 : b ≠ (s.heap.push (newSet w)).objs.size := by rw [Heap.size_push]; exact Nat.ne_of_lt (Nat.lt_succ_of_lt n0)
          exact mv.heap b o (by simp only [List.mem_cons, List.not_mem_nil, or_false, not_or]; exact ⟨Nat.ne_of_lt n0, n1⟩) (Heap.get?_push_of_some _ (Heap.get?_push_of_some _ e))
      · cases r₂ with
        | error e => exact hr₂
        | ok fl₂ =>
          cases fl₂ with
          | ret r =>
            obtain ⟨rfl, h', tk, rfl, hS', hk'⟩ := hr₂
            repeat (any_goals (first | assumption | wp_step))
            exact h _ _ hS' hk'
          | _ => exact hr₂.elim
    | _ => exact hr.elim
theorem sorted_ss {Q : Value → Shared → Prop} (R : StrSet w s.heap a ks) (hh : A.handled = none) (h64 : ks.length < 64)
    (hQ : ∀ s' p (out : Array Value) (c : Nat) (ys : List Str), (∀ b o, s.heap.get? b = some o → s'.heap.get? b = some o) → s'.gens = s.gens → s'.os = s.os → s.heap.objs.size ≤ p →
      s'.heap.get? p = some (seqObj "list" out c) → StrsAre out.toList ys → ys.Perm ks → sortedS ys = true → Q (.ref p) s') : wpAny (model P w) A (call (.builtin "sorted") [.ref a]) Q E s := by
  obtain ⟨o, es, ep, t, g, ex, hd, good, pm, nd, hb, hf, ris, led⟩ := R
  refine Calls.call_function_entry kind_sorted plain_sorted entry_sorted (args_sorted1 _) ?_
  unfold Builtin.«sorted»
  refine wpAny_bind (m := checkCount "sorted" 1 1 _) (wpAny_pure ?_)
  refine wpAny_bind (collect_set (A := A.in1) hh ⟨o, g, ex.1, hd⟩ hf hb ris led fun s1 vs k1 hz g1 o1 p1 => ?_)
  have hS : StrsAre vs (vs.map strOf) := strsAre_map vs fun v hv => by
    obtain ⟨e, he, q⟩ := List.mem_map.mp (p1.mem_iff.mp hv)
    obtain ⟨x, y, rfl⟩ := good e he
    exact ⟨x, y, q.symm⟩
  have pk : (vs.map strOf).Perm ks := by
    have q := p1.map strOf
    rw [List.map_map] at q
    exact q.trans pm
  have vl : vs.length = ks.length := by rw [← pk.length_eq, List.length_map]
  refine wpAny_bind (wpAny_newList ?_ (by rw [vl, sizeLine_eq]; omega))
  have gL : (s1.heap.push (seqObj "list" vs.toArray 0)).get? s1.heap.objs.size = some (seqObj "list" vs.toArray 0) := Heap.get?_push_size _ rfl
  refine wpAny_bind (wpAny_holding (wpAny_call_entry slot_list_sort ⟨_, gL, rfl⟩ entry_list_sort (list_sort_treeK strKind_oneLt gL hS.keysOf (fun v₁ v₂ rest e => keyKind_strs (by rw [← e]; exact hS)) (by rw [vl]; exact h64) fun st' hp hs => ⟨_, rfl, ?_⟩) (args_list_sort _)))
  obtain ⟨ys, h1, h2, h3⟩ := sorted_out_str hS hp hs
  obtain ⟨c, hc⟩ := sortedHeap_at (vs := vs) (out := (arrOf st').map (·.2)) gL
  refine wpAny_pure ⟨_, rfl, hQ _ s1.heap.objs.size _ c ys (fun b u e => ?_) g1 o1 hz hc h1 (h2.trans pk) h3⟩
  have q := k1 b u e
  have lt := Heap.lt_size q
  show (sortedHeap (s1.heap.push (seqObj "list" vs.toArray 0)) s1.heap.objs.size vs _).get? b = some u
  rw [sortedHeap_old (Nat.ne_of_lt lt) (by rw [size_push']; exact Nat.lt_succ_of_lt lt)]
  exact Heap.get?_push_of_some _ q
end
/-! order of texts -/
def leS (x y : Str) : Bool := !decide (y.cps.toList < x.cps.toList)
theorem leS_tot (x y : Str) (h : leS x y = false) : leS y x = true := by
  unfold leS at *
  have h : y.cps.toList < x.cps.toList := by simpa using h
  rw [decide_eq_false (List.lt_asymm h)]
  rfl
theorem leS_tr (x y z : Str) (h1 : leS x y = true) (h2 : leS y z = true) : leS x z = true := by
  unfold leS at *
  have h1 : ¬ y.cps.toList < x.cps.toList := by simpa using h1
  have h2 : ¬ z.cps.toList < y.cps.toList := by simpa using h2
  have h3 : ¬ z.cps.toList < x.cps.toList := fun h => by
    have := List.lt_of_le_of_lt (List.not_lt.mp h2) h
    exact h1 this
  rw [decide_eq_false h3]
  rfl
theorem leS_anti (x y : Str) (h1 : leS x y = true) (h2 : leS y x = true) : x = y := by
  unfold leS at *
  have h1 : ¬ y.cps.toList < x.cps.toList := by simpa using h1
  have h2 : ¬ x.cps.toList < y.cps.toList := by simpa using h2
  have e : x.cps = y.cps := Array.toList_inj.mp (List.le_antisymm (List.not_lt.mp h1) (List.not_lt.mp h2))
  cases x; cases y; cases e; rfl
abbrev sortS (xs : List Str) : List Str := isort leS xs
theorem rising_pw : ∀ (l : List Str) (p : Str), risingS p l = true → (p :: l).Pairwise (fun a b => leS a b = true)
  | [], p, _ => List.pairwise_singleton _ _
  | x :: r, p, h => by
    have h : (!ltCps x.cps.toList p.cps.toList && risingS x r) = true := h
    obtain ⟨h1, h2⟩ := Bool.and_eq_true_iff.mp h
    have ih := rising_pw r x h2
    have hpx : leS p x = true := by unfold leS; rw [← ltCps_eq]; exact h1
    refine List.pairwise_cons.mpr ⟨fun y hy => ?_, ih⟩
    rcases List.mem_cons.mp hy with rfl | hy
    · exact hpx
    · exact leS_tr _ _ _ hpx ((List.pairwise_cons.mp ih).1 y hy)
theorem sortedS_pw {ys : List Str} (h : sortedS ys = true) : ys.Pairwise (fun a b => leS a b = true) := by
  cases ys with
  | nil => exact .nil
  | cons x r => exact rising_pw r x h
theorem sortS_uniq {l m : List Str} (p : l.Perm m) (h : sortedS l = true) : l = sortS m := isort_uniq leS_tot leS_tr leS_anti p (sortedS_pw h)
/-- the texts, each once, in order -/
def setS (xs : List Str) : List Str := sortS (gather [] xs)
theorem mem_setS {xs : List Str} {x : Str} : x ∈ setS xs ↔ x ∈ xs := by
  unfold setS
  rw [(isort_perm _).mem_iff, gather_mem]
  simp
theorem gather_nd : ∀ (xs ks : List Str), ks.Nodup → (gather ks xs).Nodup
  | [], ks, h => h
  | x :: xs, ks, h => gather_nd xs _ (by
    show (if x ∈ ks then ks else x :: ks).Nodup
    by_cases q : x ∈ ks
    · rw [if_pos q]; exact h
    · rw [if_neg q]; exact List.nodup_cons.mpr ⟨q, h⟩)
theorem setS_nd {xs : List Str} : (setS xs).Nodup := (isort_perm _).nodup_iff.mpr (gather_nd xs [] List.nodup_nil)
section
variable {X : Cx}
def SetSO (w : World) (a : Addr) (ks : List Str) : HO := .ext fun h => StrSet w h a ks
theorem setSO_new {w : World} {P : Program} {H : Hp} {h : Heap} {a : Addr} {ks : List Str} (R : StrSet w h a ks) : ObjOk P w H h a (SetSO w a ks) := by
  have ⟨o, _, _, _, g, _⟩ := R
  exact ⟨R, ⟨o, g⟩, fun h1 h2 p k => StrSet.at p k⟩
def rSetSt (K : PySem.W.Frag) (w : World) : List V → Hp → VK → Prop := fun xs H Q => ∃ (p : Addr) (ss : List Str), xs = [.ref p] ∧ SqL K H p (ss.map V.str) ∧ ss.length ≤ 1000 ∧ ∀ a, H a = none → Q (.ref a) (L2.upd H a (SetSO w a (gather [] ss)))
theorem cr_setSt (hc : X.calm = true) : CallR X (.type "set") (rSetSt X.K X.w) := by
  intro pins s σ H xs us Q I r h
  obtain ⟨p0, ss, rfl, hq, hl, q⟩ := h
  rw [Vals.ref1 r]
  obtain ⟨its, rv, pl, _⟩ := I.list hq
  refine call_set_strs ss (I.ok.hd hc) pl.isList (by simpa using strsAre_of rv) (by unfold scanBound; omega) fun h' tk R k => ?_
  exact ⟨.ref _, L2.upd H s.heap.objs.size (SetSO X.w s.heap.objs.size (gather [] ss)), I.laid (t' := tk) k (Nat.le_refl _) (setSO_new R), rfl, q _ (I.hok.fresh (Nat.le_refl _))⟩
theorem vals_of_strs : ∀ {us : List Value} {ss : List Str}, StrsAre us ss → Vals (ss.map V.str) us
  | _, _, .nil => .nil
  | _, _, .cons x t h => .cons ⟨t, rfl⟩ (vals_of_strs h)
def rSortSt (w : World) : List V → Hp → VK → Prop := fun vs H Q => ∃ (a : Addr) (ks : List Str), vs = [V.ref a] ∧ H a = some (SetSO w a ks) ∧ ks.length < 64 ∧
  ∀ (ys : List Str) (p : Addr), ys.Perm ks → sortedS ys = true → H p = none → Q (.ref p) (L2.upd H p (.lst (ys.map V.str)))
theorem cr_sortSt (hc : X.calm = true) : CallR X (.builtin "sorted") (rSortSt X.w) := by
  intro pins s σ H vs us Q I r h
  obtain ⟨a, ks, rfl, ha, h64, q⟩ := h
  rw [Vals.ref1 r]
  refine sorted_ss (I.hok a _ ha).1 (I.ok.hd hc) h64 fun s' p out c ys k g o hp hg hi pm hs => ?_
  have hlen : (ys.map V.str).length ≤ sizeLine := by rw [List.length_map, pm.length_eq, sizeLine_eq]; omega
  have hn : H p = none := I.hok.fresh hp
  have J : Inv X pins σ (L2.upd H p (.lst (ys.map V.str))) { s with heap := s'.heap, gens := s'.gens, drawn := s'.drawn, toks := s'.toks } :=
    I.call (ch := []) (Un.laid k hp hn) (I.hok.laid k hp ⟨hlen, out.toList, c, vals_of_strs hi, hg⟩) (by rw [g]; exact I.bare) (fun _ z => nomatch z)
  have e : s' = { s with heap := s'.heap, gens := s'.gens, drawn := s'.drawn, toks := s'.toks } := by
    cases s'; cases s; cases o; rfl
  rw [e]
  exact ⟨.ref p, _, J, rfl, q ys p pm hs hn⟩
variable {g : Gm} {l : List Res} {d : D} {p pos p2 pos2 : Pos}
theorem ev_sortSetS {xs : List Str} {e1 : Expr} (ha : Px X e1 g l (.lst (xs.map D.str))) (hm : X.mg "sorted" = none) (hm2 : X.mg "set" = none) (hz : xs.length < 64) (hc : X.calm = true := by rfl)
    (hg : Gl X "sorted" := by rfl) (hg2 : Gl X "set" := by rfl) (hs : starEach [e1] X.env = (false, eval e1 X.env) :: starEach [] X.env := by rfl)
    (hs2 : starEach [.Call (.Name "set" p2) [e1] [] pos2] X.env = (false, eval (.Call (.Name "set" p2) [e1] [] pos2) X.env) :: starEach [] X.env := by rfl) : EvL X (.Call (.Name "sorted" p) [.Call (.Name "set" p2) [e1] [] pos2] [] pos) g l ((setS xs).map D.str) :=
  ev_new (pe_callB (cr_sortSt hc) hg hm (by decide +kernel) (pa_cons (pe_callTy (cr_setSt hc) hg2 hm2 (by decide +kernel) (pa_wp (es := [e1])) (by decide) (by decide) hs rfl) pa_nil hs2) (by decide) (by decide) hs2 rfl) fun en T σ H Q s k => by
  refine pa_c ha pa_n hs en T σ H _ s fun vs H1 s1 => ?_
  obtain ⟨F, M, q⟩ := s1
  obtain ⟨f, t⟩ := q.tm
  cases f with
  | cons f1 f2 =>
    cases f2
    cases f1 with
    | @lst a ws _ hq fa =>
    have ew := fa.strs
    subst ew
    refine ⟨a, xs, rfl, SqL.of (q.exF _ _ hq), by omega, fun b hb => ?_⟩
    have hl := gather_len xs []
    rw [List.length_nil] at hl
    refine ⟨b, _, rfl, upd_same, by omega, fun ys r pm hs' hn => ?_⟩
    have e : ys = setS xs := sortS_uniq pm hs'
    subst e
    have n : New F H1 F (L2.upd H1 b (SetSO X.w b (gather [] xs))) := New.grow q.exF (Ex.new hb)
    exact k r _ _ F M ((q.tmp t).new n) (FdAll.ofStrs _) hn
end
/-! xs.count(b), xs a list of truths -/
def eqb (k : Bool) : Value → Bool
  | .bool n => n == k
  | _ => false
theorem bools_at {us : List Value} {bs : List Bool} (r : Vals (bs.map V.bl) us) : us = bs.map Value.bool := by
  induction bs generalizing us with
  | nil => cases r; rfl
  | cons b bs ih =>
    cases r with
    | cons h t =>
      cases h
      rw [ih t]
      rfl
def rCntB (K : PySem.W.Frag) : V → List V → Hp → VK → Prop := fun x xs H Q => ∃ (p : Addr) (bs : List Bool) (k : Bool), x = .ref p ∧ xs = [.bl k] ∧ SqL K H p (bs.map V.bl) ∧ Q (.int (bs.count k : Nat)) H
section
variable {X : Cx}
theorem mt_bcount : MtR X "list.count" (rCntB X.K) := by
  intro pins s σ H x xs v us Q I rx rxs h
  obtain ⟨p, bs, k, rfl, rfl, hs, q⟩ := h
  cases rx
  obtain ⟨u, rfl, ru⟩ := rxs.one
  cases ru
  obtain ⟨its, rv, ⟨⟨cls, dd, data, sl⟩, n, ho, hc, hdn, hd⟩, hlen⟩ := I.list hs
  simp only at hc hd
  subst hc hd
  have ei := bools_at rv
  refine call_meets PySem.F.slot_list_count ⟨_, ho, rfl⟩ PySem.F.entry_list_count (PySem.F.args_list_count_2 _ _) (SeqAt.list_countAt p its.toArray n dd sl (.bool k) (eqb k)) ⟨ho, fun y hy => ?_, ?_⟩
  · have hy : y ∈ its := by simpa using hy
    rw [ei] at hy
    obtain ⟨b, _, rfl⟩ := List.mem_map.mp hy
    exact PySem.SeqAt.EqAt.bool_bool b k
  · have ec : its.toArray.toList.countP (eqb k) = bs.count k := by
      show its.countP (eqb k) = _
      rw [ei, List.countP_map]
      rfl
    refine ⟨.int (bs.count k : Nat), H, I.tok _, ⟨s.toks, ?_⟩, q⟩
    show Value.int ((its.toArray.toList.countP (eqb k) : Nat) : Int) s.toks = _
    rw [ec]
variable {g : Gm} {l : List Res} {d : D} {o e : Expr} {pos : Pos}
theorem o_cntB {bs : List Bool} {v : Bool} (hd : Lq X.K l d (bs.map D.bl)) : OpM X.K l (rCntB X.K) d [.bl v] (.int ((bs.count v : Nat) : Int)) := fun F M H u vs Q eF eM dj rs f1 f2 k => by
  obtain ⟨a, ws, rfl, sq, f⟩ := hd.get eF eM rs f1
  have ew := f.bls
  subst ew
  cases f2 with
  | cons g1 g2 =>
    cases g2
    cases g1
    exact ⟨a, bs, v, rfl, rfl, sq, k _ F H (New.rf eF) (.int _)⟩
theorem px_countB {apos : Pos} {bs : List Bool} {v : Bool} (ho : Px X o g l d) (hd : Lq X.K l d (bs.map D.bl)) (hi : Px X e g l (.bl v)) (hs : starEach [e] X.env = (false, eval e X.env) :: starEach [] X.env := by rfl)
    (hp : PE X (.Call (.Attribute o "count" apos) [e] [] pos) (tBM X.K "list" (rCntB X.K) (wpE X o) (wpA X [e])) := by exact pe_bm PySem.F.plainAttrs_list PySem.F.slot_list_count PySem.F.type_list_count mt_bcount pe_wp pa_wp) :
    Px X (.Call (.Attribute o "count" apos) [e] [] pos) g l (.int ((bs.count v : Nat) : Int)) := px_m hp ho (pa_c hi pa_n hs) (o_cntB hd) fun F M H u eF eM dj rs f => by
  obtain ⟨a, ws, rfl, sq, _⟩ := hd.get eF eM rs f
  exact .inl ⟨rfl, _, sq⟩
end
end Sx
set_option Elab.async false
set_option linter.all false
set_option maxRecDepth 100000
set_option maxHeartbeats 4000000
set_option pp.maxSteps 400
/-! a comprehension over an owned dict of tuple keys, set on one line; a loop over a frozen one. -/
namespace Sx
open PySem PySem.Spec PyProof.Rows L2
open Sem (wp)
section
variable {X : Cx} {W : WX} {g g' : Gm} {l l' : List Res} {o e c : Expr} {d d1 d2 : D} {pos : Pos} {rest body : List Stmt} {Φ Om : Po} {α β S1 : Type}
theorem blk_setLcIfZ {tg iter elt : Expr} {scope : Scope} {own : List (Str × Nat)} {gt : TG} {is : List Nat} {ds : List D} {rs : List (Option D)} {i n : Nat} {q : Addr} {kvs : List (List Key × D)} {y : Str} {py spos : Pos} (hc : X.calm = true) (hN : X.N.Nodup) (hy : X.N[i]? = some y) (hyl : X.env.scope.names.lookup y = some .local)
    (hsw : swapsWith (.ListComp elt [⟨tg, iter, [c], 0⟩] scope pos) (some (.Name y py)) spos.line X.env = pure true) (hkk : l[n]? = some (ownT X.K q kvs)) {wi : TI} (pi : PI X tg iter wi)
    (hw : ∀ od vs, ∀ en T σ H (R : It → Hp → Prop), S X.K en g T (l.set n (ownTz X.K q od vs kvs)) σ H → (∀ J H1 F M, At X.K en g T (l.set n (ownTz X.K q od vs kvs)) σ H1 F M → JG X.K [ownTz X.K q od vs kvs] F J ds → R J H1) → wi σ H R) (ok : BlkOk X.N X.env.scope scope own)
    (hg : Blkc X scope fun Y => PG Y tg gt) (his : ∀ i ∈ is, i ∈ own.map (·.2)) (hlen : rs.length = ds.length) (hz : rs.length ≤ sizeLine)
    (hs : ∀ od vs (i : Nat) (d : D), ds[i]? = some d → ∃ es k r, Tg X.K gt is d es ∧ rs[i]? = some (if k = true then some r else none) ∧ (Blkc X scope fun Y => Ts Y c (sets (wipeG g (own.map (·.2))) is es) (l.set n (ownTz X.K q od vs kvs)) k) ∧ (k = true → Blkc X scope fun Y => Px Y elt (sets (wipeG g (own.map (·.2))) is es) (l.set n (ownTz X.K q od vs kvs)) r))
    (h : ∀ p, Blk X W rest (g.set i (some (.adr p))) (ownL X.K p (keepL rs) :: l) Φ) (hf : ∀ x, foldedSetIterable iter X.env x = pure x := by intro _; rfl) (hkr : ∀ od vs, SubR (l.set n (ownTz X.K q od vs kvs)) [ownTz X.K q od vs kvs]) : Blk X W (.Assign [.Name y py] (.ListComp elt [⟨tg, iter, [c], 0⟩] scope pos) spos :: rest) g l Φ := fun en T σ H D s m => by
  refine wpS_of (pss_cons (ps_lock (ps_setLc hc hN hy hyl hsw pi ok hg (fun s H C cl fp => pts_one (ttB_pt s H C cl fp)) teB_pe hf)) pss_wp) ?_
  obtain ⟨vs, hq, hl⟩ := s.lockT hkk
  refine ⟨q, _, hq, trivial, fun od => ?_⟩
  refine lc_read (rs := rs) (hw od vs) (hkr od vs) his hlen hz (fun i d hd => ?_) (hl od) fun p H' s' => ?_
  · obtain ⟨es, b, r, h1, h2, h3, h4⟩ := hs od vs i d hd
    refine ⟨es, b, r, h1, h2, fun r0 en T σ H Q s kk => ?_, fun hb r0 en T σ H Q s kk => ?_⟩
    · intro s0 H0 C cl fp
      exact (h3 s0 H0 C cl fp).fr en T σ H Q s kk
    · intro s0 H0 C cl fp
      exact (h4 hb s0 H0 C cl fp).fr en T σ H Q s kk
  · have hlt : n < l.length := (List.getElem?_eq_some_iff.mp hkk).1
    obtain ⟨F0, M0, a0⟩ := s'
    obtain ⟨h1, h2⟩ := S.unlockT (n := n + 1) (q := q) (od := od) (vs := vs) (kvs := kvs) (T := T.and X.K (.ref p) (.adr p)) ⟨F0, M0, a0.tmp ⟨.adr p, a0.tm⟩⟩ (by rw [List.getElem?_cons_succ, List.getElem?_set_self hlt])
    rw [List.set_cons_succ, set_back hkk] at h2
    obtain ⟨F, M, a⟩ := h2
    exact ⟨h1, h p en T (σ.set i (some (.ref p))) _ D ⟨F, M, (a.tmp a.tm.2).slots (a.sl.set i a.tm.1)⟩ m⟩
theorem bo_lcFZ {κ γ : Type} {tg iter elt : Expr} {scope : Scope} {own : List (Str × Nat)} {gt : TG} {is : List Nat} {mm : List (κ × γ)} {kf : κ → List Key} {encv : γ → D} {i n : Nat} {q : Addr} {y : Str} {py spos : Pos} {k : List β → S1} {Om : S1 → Po} (enc : κ → D) (encR : β → D) (cb : κ → Bool) (F : κ → β) (he : ∀ k, enc k = .tup ((kf k).map kD)) (hN : X.N.Nodup) (hy : X.N[i]? = some y) (hyl : X.env.scope.names.lookup y = some .local) (hil : i < g.length) (hc : X.calm = true)
    (hkk : l[n]? = some (ownT X.K q (dE kf encv mm))) (hq : ∀ od vs, Px X iter g (l.set n (ownTz X.K q od vs (dE kf encv mm))) (.adr q)) (ok : BlkOk X.N X.env.scope scope own)
    (hg : Blkc X scope fun Y => PG Y tg gt) (his : ∀ i ∈ is, i ∈ own.map (·.2)) (hz : mm.length ≤ 10000)
    (hs : ∀ od vs (i : Nat) (x : κ), (mm.map (·.1))[i]? = some x → ∃ es, Tg X.K gt is (enc x) es ∧ (Blkc X scope fun Y => Ts Y c (sets (wipeG g (own.map (·.2))) is es) (l.set n (ownTz X.K q od vs (dE kf encv mm))) (cb x)) ∧ (cb x = true → Blkc X scope fun Y => Px Y elt (sets (wipeG g (own.map (·.2))) is es) (l.set n (ownTz X.K q od vs (dE kf encv mm))) (encR (F x))))
    (h : ∀ ys, ys = ((mm.map (·.1)).filter cb).map F → Bo X W rest (g.set i (some (.lst (ys.map encR)))) l Om (k ys))
    (hsw : swapsWith (.ListComp elt [⟨tg, iter, [c], 0⟩] scope pos) (some (.Name y py)) spos.line X.env = pure true := by rfl) (hf : ∀ x, foldedSetIterable iter X.env x = pure x := by intro _; rfl) (hkr : ∀ od vs, SubR (l.set n (ownTz X.K q od vs (dE kf encv mm))) [ownTz X.K q od vs (dE kf encv mm)] := by intro od vs; first | exact subr1 0 rfl | exact subr1 1 rfl | exact subr1 2 rfl | exact subr1 3 rfl | exact subr1 4 rfl | exact subr1 5 rfl) : Bo X W (.Assign [.Name y py] (.ListComp elt [⟨tg, iter, [c], 0⟩] scope pos) spos :: rest) g l Om (lt (((mm.map (·.1)).filter cb).map F) k) := by
  refine blk_setLcIfZ (rs := (mm.map (·.1)).map fun x => if cb x = true then some (encR (F x)) else none) (ds := (mm.map (·.1)).map enc) hc hN hy hyl hsw hkk (pi_keys pe_wp) (fun od vs en T σ H R s kk => hq od vs en T σ H _ s fun v H1 s1 => ?_) ok hg his (by simp) (by rw [List.length_map, List.length_map]; exact Nat.le_trans hz (by decide)) (fun od vs i d hd => ?_) (fun p => ?_) hf hkr
  · have hlt : n < l.length := (List.getElem?_eq_some_iff.mp hkk).1
    have hk : (l.set n (ownTz X.K q od vs (dE kf encv mm)))[n]? = some (ownTz X.K q od vs (dE kf encv mm)) := by rw [List.getElem?_set_self hlt]
    obtain ⟨F, M, a⟩ := s1
    obtain ⟨f, t⟩ := a.tm
    cases f
    obtain ⟨f, hq⟩ := a.rs.ownTz hk a.exM
    refine ⟨_, _, rfl, .inr ⟨vs, hq, ?_⟩⟩
    rw [← keysT_map (α := Unit) (enc := encv) he] at kk
    exact kk _ H1 F M (a.tmp t) jg_keysT
  · rw [List.getElem?_map] at hd
    obtain ⟨x, hx, rfl⟩ := Option.map_eq_some_iff.mp hd
    obtain ⟨es, h1, h2, h3⟩ := hs od vs i x hx
    exact ⟨es, cb x, encR (F x), h1, by rw [List.getElem?_map, hx]; rfl, h2, h3⟩
  · rw [keepL_filt]
    exact Blk.frz' hil (h _ rfl)
/-- a heap without one place -/
def erH (F : Hp) (q : Addr) : Hp := fun a => if a = q then none else F a
theorem er_ex {F : Hp} {q : Addr} : Ex (erH F q) F := fun a o h => by
  unfold erH at h
  split at h
  · cases h
  · exact h
theorem er_ne {F : Hp} {q a : Addr} (h : a ≠ q) : erH F q a = F a := if_neg h
theorem er_eq {F : Hp} {q : Addr} : erH F q q = none := if_pos rfl
/-- data that reaches no heap -/
def Flat : D → Prop
  | .int _ => True | .str _ => True | .bl _ => True | .non => True | .adr _ => True | _ => False
theorem Flat.fd {K : PySem.W.Frag} {F F' : Hp} {v : V} {d : D} (h : Fd K F v d) (f : Flat d) : Fd K F' v d := by
  cases h <;> first | exact f.elim | constructor
theorem flat_slots {K : PySem.W.Frag} {F F' : Hp} : ∀ {g : Gm} {σ : L2.St}, Sl K F g σ → (∀ i d, nth g i = some d → Flat d) → Sl K F' g σ
  | _, _, .nil, _ => .nil
  | _, _, .any h, f => .any (flat_slots h fun i d e => f (i + 1) d e)
  | _, _, .cons h1 h2, f => .cons (Flat.fd h1 (f 0 _ rfl)) (flat_slots h2 fun i d e => f (i + 1) d e)
/-- for .. in d: d a dict of tuple keys that nobody changes; it is locked meanwhile, so nothing else that is frozen is looked at but what reaches no heap -/
theorem blk_forFT {tg : Expr} {gt : TG} {is : List Nat} {kvs : List (List Key × D)} {i0 : Nat} {gq : Addr → Gm} (I : Addr → Nat → Gm → List Res → Prop) (hp : PassesOwn (model X.prog X.w) X.A X.env X.xe) (hc : X.calm = true)
    (hsl : nth g i0 = some (.dT kvs)) (hg1 : ∀ F F' σ q vs, Sl X.K F g σ → σ[i0]? = some (some (V.ref q)) → F q = some (.dT vs) → Sl X.K F' (gq q) σ) (hl1 : ∀ F F' M, Rs l F M → Rs l F' M)
    (hq : ∀ q, Px X o (gq q) l (.adr q)) (hg : PG X tg gt) (h0 : ∀ q, I q 0 (gq q) l)
    (hs : ∀ q i k g' l', kvs[i]? = some k → I q i g' l' → ∃ es, Tg X.K gt is (.tup (k.1.map kD)) es ∧ Blk X W body (sets g' is es) l' { nx := fun g2 l2 => I q (i + 1) g2 l2, rt := fun _ _ => False })
    (hd : ∀ q g' l', I q kvs.length g' l' → Blk X W rest g' l' Φ) (hf : ∀ x, foldedSetIterable o X.env x = pure x := by intro _; rfl) : Blk X W (.For tg o body [] pos :: rest) g l Φ := fun en T σ H E s m => by
  refine wpS_of (pss_cons (ps_lock (ps_for hp hc (pi_keys pe_wp) hg pss_wp hf)) pss_wp) ?_
  obtain ⟨F, M, a⟩ := s
  obtain ⟨v0, hσ, fv0⟩ := Sl.nth a.sl hsl
  cases fv0 with
  | @dT q vs _ hFq fvs =>
  have hHq : H q = some (.dT vs) := a.exF q _ hFq
  have hMq : M q = none := a.dj q _ hFq
  refine ⟨q, _, hHq, trivial, fun od => ?_⟩
  have hvl : vs.length = kvs.length := fvs.length
  have hset : ∀ x u, M x = some u → x ≠ q := fun x u hx e => by rw [e, hMq] at hx; cases hx
  have a1 : At X.K ⟨erH F q, M, upd H q (.frz od (.dT vs))⟩ (gq q) Tm.tt l σ (upd H q (.frz od (.dT vs))) (erH F q) M := by
    refine At.entry (fun x u h => ?_) (fun x u h => ?_) (fun x u h => a.dj x u (er_ex x u h)) (hg1 F _ σ q vs a.sl hσ hFq) trivial (hl1 F _ M a.rs)
    · by_cases z : x = q
      · rw [z, er_eq] at h; cases h
      · rw [upd_ne z]; exact a.exF x u (er_ex x u h)
    · rw [upd_ne (hset x u h)]; exact a.exM x u h
  have key : ∀ {g' : Gm} {l' : List Res} {σ' : L2.St} {H' F' M' : Hp}, At X.K ⟨erH F q, M, upd H q (.frz od (.dT vs))⟩ g' Tm.tt l' σ' H' F' M' → H' q = some (.frz od (.dT vs)) := fun b => b.fr q _ upd_same hMq
  refine hq q _ Tm.tt σ _ _ ⟨_, _, a1⟩ fun v H1 s1 => ?_
  obtain ⟨F0, M0, q0⟩ := s1
  have fv := q0.tm.1
  cases fv
  refine ⟨q, od, rfl, .inr ⟨vs, key (q0.tmp trivial), ?_⟩⟩
  refine ⟨fun i m' σ' H' => i + m' = kvs.length ∧ ∃ g' l', I q i g' l' ∧ S X.K ⟨erH F q, M, upd H q (.frz od (.dT vs))⟩ g' Tm.tt l' σ' H', ⟨kvs.length, by simp, gq q, l, h0 q, F0, M0, q0.tmp trivial⟩, fun i m' σ' H' hW => ?_⟩
  obtain ⟨em, g', l', hI', F2, M2, qq⟩ := hW
  have hq2 := key qq
  cases m' with
  | zero =>
    have e : i = kvs.length := by omega
    subst e
    refine .inl ⟨⟨hq2, Nat.le_of_eq hvl⟩, hq2, ?_⟩
    have hF2q : F2 q = none := by
      cases z : F2 q with
      | none => rfl
      | some u =>
        have hu := qq.exF q u z
        rw [hq2] at hu
        cases hu
        rcases qq.nF q _ z with w | w | ⟨u, w⟩ | ⟨xs, w⟩
        · have w : erH F q q = _ := w
          rw [er_eq] at w; cases w
        · have w : upd H q (.frz od (.dT vs)) q = none := w
          rw [upd_same] at w; cases w
        · have w : M q = some u := w
          rw [hMq] at w; cases w
        · cases w
    have hM2q : M2 q = none := by
      cases z : M2 q with
      | none => rfl
      | some u =>
        rcases qq.nM q u z with w | ⟨u, w⟩
        · have w : upd H q (.frz od (.dT vs)) q = none := w
          rw [upd_same] at w; cases w
        · have w : M q = some u := w
          rw [hMq] at w; cases w
    have hF2 : Ex F2 (upd F2 q (.dT vs)) := fun x u h => by
      by_cases z : x = q
      · rw [z, hF2q] at h; cases h
      · rw [upd_ne z]; exact h
    have hF : Ex F (upd F2 q (.dT vs)) := fun x u h => by
      by_cases z : x = q
      · rw [z] at h ⊢
        rw [hFq] at h
        rw [upd_same]; exact h
      · rw [upd_ne z]
        exact qq.eF x u (by show erH F q x = some u; rw [er_ne z]; exact h)
    have noH : ∀ x, x ≠ q → upd H q (.frz od (.dT vs)) x = none → en.H x = none ∨ ∃ u, en.M x = some u := fun x z w => by
      rw [upd_ne z] at w
      cases y : en.M x with
      | some u => exact .inr ⟨u, rfl⟩
      | none =>
        cases y2 : en.H x with
        | none => exact .inl rfl
        | some u => rw [a.fr x u y2 y] at w; cases w
    refine hd q g' l' hI' en T σ' _ E ⟨upd F2 q (.dT vs), M2, ⟨?_, ?_, ?_, a.eF.tr hF, ?_, ?_, ?_, qq.sl.mono hF2, T.mono hF a.tm, qq.rs.mono hF2⟩⟩ m
    · intro x u h
      by_cases z : x = q
      · rw [z, upd_same] at h ⊢; exact h
      · rw [upd_ne z] at h ⊢; exact qq.exF x u h
    · intro x u h
      have z : x ≠ q := fun e => by rw [e, hM2q] at h; cases h
      rw [upd_ne z]; exact qq.exM x u h
    · intro x u h
      by_cases z : x = q
      · rw [z]; exact hM2q
      · rw [upd_ne z] at h; exact qq.dj x u h
    · intro x u h
      by_cases z : x = q
      · rw [z, upd_same] at h
        rw [z]
        exact a.nF q u (by rw [hFq]; exact h)
      · rw [upd_ne z] at h
        rcases qq.nF x u h with w | w | ⟨u', w⟩ | w
        · exact a.nF x u (er_ex x u w)
        · rcases noH x z w with y | y
          · exact .inr (.inl y)
          · exact .inr (.inr (.inl y))
        · rcases a.nM x u' w with y | y
          · exact .inr (.inl y)
          · exact .inr (.inr (.inl y))
        · exact .inr (.inr (.inr w))
    · intro x u h
      have z : x ≠ q := fun e => by rw [e, hM2q] at h; cases h
      rcases qq.nM x u h with w | ⟨u', w⟩
      · exact noH x z w
      · exact a.nM x u' w
    · intro x u h1 h2
      have h3 := a.fr x u h1 h2
      by_cases z : x = q
      · rw [z] at h3 ⊢
        rw [hHq] at h3
        rw [upd_same]; exact h3
      · rw [upd_ne z]
        refine qq.fr x u (by show upd H q _ x = some u; rw [upd_ne z]; exact h3) ?_
        show M x = none
        cases y : M x with
        | none => rfl
        | some u' =>
          rcases a.nM x u' y with w | ⟨u2, w⟩
          · rw [h1] at w; cases w
          · rw [h2] at w; cases w
  | succ m' =>
    have hi : i < vs.length := by omega
    refine .inr ⟨⟨hq2, hi⟩, fun σ2 H2 => ∃ g2 l2, I q (i + 1) g2 l2 ∧ S X.K ⟨erH F q, M, upd H q (.frz od (.dT vs))⟩ g2 Tm.tt l2 σ2 H2, fun σ2 H2 ⟨g2, l2, h1, h2⟩ => ⟨m', by omega, by omega, g2, l2, h1, h2⟩, fun x H2 hy => ?_⟩
    obtain ⟨rfl, k, v, q', h1, rfl, h3⟩ := hy
    obtain ⟨d0, h4, _⟩ := fvs.get h1
    obtain ⟨es, htg, hb⟩ := hs q i (k, d0) g' l' h4 hI'
    have nw := New.tup qq.exF h3
    have q2 := qq.new nw
    refine htg _ _ (.ref q') σ' _ q2.exF (.tup (SqT.of upd_same) (keysD k)) fun ws fws => ?_
    exact hb _ Tm.tt _ _ _ ⟨_, _, q2.slots (q2.sl.sets fws)⟩ ⟨fun g2 l2 σ2 H2 h s2 => ⟨g2, l2, h, s2⟩, fun _ _ _ _ h => h.elim, fun _ _ _ _ h => h.elim, fun _ _ _ _ h => h.elim, fun _ _ _ _ _ _ h => h.elim⟩
/-- slots: what reaches no heap is kept -/
inductive WkN : Gm → Gm → Prop
  | nil : WkN [] []
  | any {o : Option D} {g r : Gm} : WkN g r → WkN (o :: g) (none :: r)
  | keep {d : D} {g r : Gm} (h : WkN g r) (f : Flat d := by trivial) : WkN (some d :: g) (some d :: r)
inductive WkI : Nat → Gm → (Addr → Gm) → Prop
  | here {d : D} {g r : Gm} : WkN g r → WkI 0 (some d :: g) (fun q => some (.adr q) :: r)
  | any {i : Nat} {o : Option D} {g : Gm} {r : Addr → Gm} : WkI i g r → WkI (i + 1) (o :: g) (fun q => none :: r q)
  | keep {i : Nat} {d : D} {g : Gm} {r : Addr → Gm} (h : WkI i g r) (f : Flat d := by trivial) : WkI (i + 1) (some d :: g) (fun q => some d :: r q)
theorem WkN.sl {K : PySem.W.Frag} {F F' : Hp} {g r : Gm} (w : WkN g r) : ∀ {σ : L2.St}, Sl K F g σ → Sl K F' r σ := by
  induction w with
  | nil => intro σ h; cases h; exact .nil
  | any _ ih => intro σ h; cases h with
    | any h => exact .any (ih h)
    | cons _ h => exact .any (ih h)
  | keep _ f ih => intro σ h; cases h with
    | cons h1 h2 => exact .cons (Flat.fd h1 f) (ih h2)
theorem WkI.sl {K : PySem.W.Frag} {F F' : Hp} {q : Addr} {i : Nat} {g : Gm} {r : Addr → Gm} (w : WkI i g r) : ∀ {σ : L2.St}, Sl K F g σ → σ[i]? = some (some (V.ref q)) → Sl K F' (r q) σ := by
  induction w with
  | here w => intro σ h e; cases h with
    | cons _ h2 =>
      have e := Option.some.inj (Option.some.inj e)
      subst e
      exact .cons (.adr _) (w.sl h2)
  | any _ ih => intro σ h e; cases h with
    | any h => exact .any (ih h e)
    | cons _ h => exact .any (ih h e)
  | keep _ f ih => intro σ h e; cases h with
    | cons h1 h2 => exact .cons (Flat.fd h1 f) (ih h2 e)
theorem flats {κ : Type} {K : PySem.W.Frag} {F F' : Hp} : ∀ {vs : List (κ × V)} {ds : List (κ × D)}, FdFs K F vs ds → (∀ e ∈ ds, Flat e.2) → FdFs K F' vs ds
  | _, _, .nil, _ => .nil
  | _, _, .cons a h, f => .cons (Flat.fd a (f _ List.mem_cons_self)) (flats h fun e he => f e (List.mem_cons_of_mem _ he))
theorem rs_flatD {K : PySem.W.Frag} {q : Addr} {kvs : List (Key × D)} (f : ∀ e ∈ kvs, Flat e.2) (F F' M : Hp) (h : Rs [ownD K q kvs] F M) : Rs [ownD K q kvs] F' M := by
  obtain ⟨A, B, h1, h2, ⟨vs, h3, h4⟩, h5⟩ := h
  exact ⟨A, B, h1, h2, ⟨vs, flats h3 f, h4⟩, h5⟩
theorem flat_opt {κ β : Type} {kf : κ → Key} {enc : β → D} {m : List (κ × Option β)} (h : ∀ x, Flat (enc x)) : ∀ e ∈ dE kf (optE enc) m, Flat e.2 := fun e he => by
  obtain ⟨kv, _, rfl⟩ := List.mem_map.mp he
  show Flat (optE enc kv.2)
  cases kv.2 with
  | none => trivial
  | some x => exact h x
theorem bo_forFT {κ γ : Type} {ek : κ → D} {tg : Expr} {gt : TG} {is : List Nat} {mm : List (κ × γ)} {kf : κ → List Key} {enc : γ → D} {i0 : Nat} {step : S1 → κ → S1} {s0 : S1} {k : S1 → β} {Om : β → Po} (he : ∀ k, ek k = .tup ((kf k).map kD)) (G : Addr → S1 → Gm) (R : S1 → List Res) (J : Nat → S1 → Prop) (hp : PassesOwn (model X.prog X.w) X.A X.env X.xe) (hc : X.calm = true)
    (hsl : nth g i0 = some (.dT (dE kf enc mm))) (hw : WkI i0 g (fun q => G q s0)) (hl : l = R s0) (hl1 : ∀ F F' M, Rs l F M → Rs l F' M)
    (hq : ∀ q, Px X o (G q s0) l (.adr q)) (hg : PG X tg gt) (j0 : J 0 s0)
    (hs : ∀ q i x s, (mm.map (·.1))[i]? = some x → s = ((mm.map (·.1)).take i).foldl step s0 → J i s → J (i + 1) (step s x) ∧ ∃ es, Tg X.K gt is (ek x) es ∧ Bo X W body (sets (G q s) is es) (R s) (Nx (G q) R) (step s x))
    (h : ∀ q s, s = (mm.map (·.1)).foldl step s0 → J (mm.map (·.1)).length s → Bo X W rest (G q s) (R s) Om (k s)) (hf : ∀ x, foldedSetIterable o X.env x = pure x := by intro _; rfl) : Bo X W (.For tg o body [] pos :: rest) g l Om (lt ((mm.map (·.1)).foldl step s0) k) := by
  refine blk_forFT (is := is) (gq := fun q => G q s0) (fun q i g' l' => ∃ s, s = ((mm.map (·.1)).take i).foldl step s0 ∧ J i s ∧ g' = G q s ∧ l' = R s) hp hc hsl (fun F F' σ q vs h1 h2 _ => hw.sl h1 h2) hl1 hq hg (fun q => ⟨s0, rfl, j0, rfl, hl⟩) (fun q i kv g' l' hd hI => ?_) (fun q g' l' hI => ?_) hf
  · have hd : (mm.map fun kv => (kf kv.1, enc kv.2))[i]? = some kv := hd
    rw [List.getElem?_map] at hd
    cases z : mm[i]? with
    | none => rw [z] at hd; cases hd
    | some y =>
      rw [z] at hd
      cases hd
      have z1 : (mm.map (·.1))[i]? = some y.1 := by rw [List.getElem?_map, z]; rfl
      obtain ⟨s, e1, e2, rfl, rfl⟩ := hI
      obtain ⟨h1, es, h2, h3⟩ := hs q i y.1 s z1 e1 e2
      have tk : ((mm.map (·.1)).take (i + 1)).foldl step s0 = step s y.1 := by
        rw [List.take_add_one, z1, Option.toList_some, List.foldl_append, ← e1]; rfl
      exact ⟨es, by rw [he] at h2; exact h2, h3.imp (fun g2 l2 ⟨a, b⟩ => ⟨_, tk.symm, h1, a, b⟩) (fun _ _ h => h.elim) (fun _ _ h => h.elim) (fun _ _ h => h.elim) (fun _ _ _ _ h => h.elim)⟩
  · have hle : (dE kf enc mm).length = (mm.map (·.1)).length := by
      show (mm.map _).length = _
      rw [List.length_map, List.length_map]
    rw [hle] at hI
    obtain ⟨s, h1, h2, rfl, rfl⟩ := hI
    rw [List.take_length] at h1
    have := h q s h1 h2
    show Bo X W rest _ _ Om (k _)
    rw [← h1]
    exact this
end
end Sx
set_option Elab.async false
set_option linter.all false
set_option maxRecDepth 100000
set_option maxHeartbeats 4000000
set_option pp.maxSteps 400
/-! sorted(texts), sorted(a dict of texts), abs. -/
namespace Sx
open PySem PySem.Spec PyProof.Rows L2
section
variable {X : Cx} {g : Gm} {l : List Res} {d : D} {p pos : Pos}
theorem ev_sortDS {β : Type} {enc : β → D} {m : List (Str × β)} {e1 : Expr} (ha : Px X e1 g l d) (hd : Dv X.K l d (dE kS enc m)) (hm : X.mg "sorted" = none) (hz : m.length < 64) (hc : X.calm = true := by rfl)
    (hg : Gl X "sorted" := by rfl) (hs : starEach [e1] X.env = (false, eval e1 X.env) :: starEach [] X.env := by rfl) : EvL X (.Call (.Name "sorted" p) [e1] [] pos) g l ((sortS (m.map (·.1))).map D.str) :=
  ev_new (pe_callB (call_sortedD hc) hg hm (by decide +kernel) (pa_wp (es := [e1])) (by decide) (by decide) hs rfl) fun en T σ H Q s k => by
  refine pa_c ha pa_n hs en T σ H _ s fun vs H1 s1 => ?_
  obtain ⟨F, M, q⟩ := s1
  obtain ⟨f, t⟩ := q.tm
  cases f with
  | cons f1 f2 =>
    cases f2
    obtain ⟨a, ws, rfl, sq, f⟩ := hd.get q.exF q.exM q.rs f1
    refine ⟨a, ws, m.map (·.1), rfl, sq, ?_, by rw [List.length_map]; exact hz, fun ns' p hp hs' hn => ?_⟩
    · rw [f.fsts, List.map_map, List.map_map]; rfl
    rw [sortS_uniq hp hs']
    exact k p _ H1 F M (q.tmp t) (FdAll.ofStrs _) hn
theorem ev_sortS {xs : List Str} {e1 : Expr} (ha : Px X e1 g l d) (hd : Lq X.K l d (xs.map D.str)) (hm : X.mg "sorted" = none) (hz : xs.length < 64)
    (hg : Gl X "sorted" := by rfl) (hs : starEach [e1] X.env = (false, eval e1 X.env) :: starEach [] X.env := by rfl) : EvL X (.Call (.Name "sorted" p) [e1] [] pos) g l ((sortS xs).map D.str) :=
  ev_new (pe_callB cr_sortedS hg hm (by decide +kernel) (pa_wp (es := [e1])) (by decide) (by decide) hs rfl) fun en T σ H Q s k => by
  refine pa_c ha pa_n hs en T σ H _ s fun vs H1 s1 => ?_
  obtain ⟨F, M, q⟩ := s1
  obtain ⟨f, t⟩ := q.tm
  cases f with
  | cons f1 f2 =>
    cases f2
    obtain ⟨a, ws, rfl, sq, f⟩ := hd.get q.exF q.exM q.rs f1
    have ew := f.strs
    subst ew
    refine ⟨a, xs, rfl, sq, hz, fun ns' p hp hs' hn => ?_⟩
    rw [sortS_uniq hp hs']
    exact k p _ H1 F M (q.tmp t) (FdAll.ofStrs _) hn
end
section
variable {K : PySem.W.Frag} {l : List Res} {d : D}
def absI (i : Int) : Int := if i < 0 then -i else i
theorem o_abs {i : Int} : OpN K l (fun xs H Q => ∃ i, xs = [.int i] ∧ Q (.int (if i < 0 then -i else i)) H) [.int i] (.int (absI i)) := fun F M H vs Q eF eM dj rs f k => by
  cases f with
  | cons f1 f2 =>
    cases f2; cases f1
    exact ⟨i, rfl, k _ F H (.rf eF) (.int _)⟩
theorem o_lenDM {κ β : Type} {kf : κ → Key} {enc : β → D} {m : List (κ × β)} : OpN K l (fun xs H Q => ∃ a kvs, xs = [V.ref a] ∧ H a = some (.dK kvs) ∧ Q (.int kvs.length) H) [.dK (dE kf enc m)] (.int (m.length : Int)) := fun F M H vs Q eF eM dj rs f k => by
  cases f with
  | cons f1 f2 =>
    cases f2
    cases f1 with
    | dK hF fv =>
      have e := fv.length
      rw [List.length_map] at e
      refine ⟨_, _, rfl, eF _ _ hF, ?_⟩
      rw [e]
      exact k _ F H (.rf eF) (.int _)
end
end Sx
set_option Elab.async false
set_option linter.all false
set_option maxRecDepth 100000
set_option maxHeartbeats 4000000
set_option pp.maxSteps 400
/-! a comprehension over the values of a frozen dict, a tuple's third. -/
namespace Sx
open PySem PySem.Spec PyProof.Rows L2
open Sem (wp)
section
variable {X : Cx} {W : WX} {g g' : Gm} {l l' : List Res} {o e c elt : Expr} {d d1 d2 : D} {pos apos cpos : Pos} {α β S1 : Type}
/-- as lc_read, at one entry -/
theorem lc_readE {en : En} {T : Tm} {σ : L2.St} {H : Hp} {own : List (Str × Nat)} {gt : TG} {is : List Nat} {ds : List D} {rs : List (Option D)} {wi : TI} {te : TE} {tt : TT}
    (hw : ∀ (R : It → Hp → Prop), (∀ J H1 F M, At X.K en g T l σ H1 F M → (∀ g' T' l' σ' H' F' M', At X.K en g' T' l' σ' H' F' M' → (∀ i, i < ds.length → J.go i H') ∧ J.stop ds.length H' ∧ ∀ i d x H2, ds[i]? = some d → J.yld i H' x H2 → ∃ F2, New F' H' F2 H2 ∧ Fd X.K F2 x d) → R J H1) → wi σ H R)
    (his : ∀ i ∈ is, i ∈ own.map (·.2)) (hlen : rs.length = ds.length) (hz : rs.length ≤ sizeLine)
    (hs : ∀ (i : Nat) (d : D), ds[i]? = some d → ∃ es k r, Tg X.K gt is d es ∧ rs[i]? = some (if k = true then some r else none) ∧
      (∀ r0 en T σ H (Q : Bool → Hp → Prop), S X.K en (sets (wipeG g (own.map (·.2))) is es) T (r0 :: l) σ H → (∀ H', S X.K en (sets (wipeG g (own.map (·.2))) is es) T (r0 :: l) σ H' → Q k H') → tt σ H Q) ∧
      (k = true → ∀ r0 en T σ H (Q : VK), S X.K en (sets (wipeG g (own.map (·.2))) is es) T (r0 :: l) σ H → (∀ v H', S X.K en (sets (wipeG g (own.map (·.2))) is es) (T.and X.K v r) (r0 :: l) σ H' → Q v H') → te σ H Q))
    {Q : VK} (kk : ∀ p H', S X.K en g T (ownL X.K p (keepL rs) :: l) σ H' → Q (.ref p) H') : tLc wi gt tt te (own.map (·.2)) σ H Q := by
  refine hw _ fun J H1 F0 M0 q0 jg => ?_
  intro Dl hD
  refine ⟨fun i m H' => i + m = ds.length ∧ S X.K en (wipeG g (own.map (·.2))) ((T.sl X.K g σ).ex F0) (ownL X.K Dl (keepL (rs.take i)) :: l) (L2.wipe σ (own.map (·.2))) H', ⟨ds.length, by simp, ?_⟩, fun i m H' hW => ?_⟩
  · have q1 := q0.newO (r := ownL X.K Dl []) (A := one Dl (.lst [])) (H' := upd H1 Dl (.lst [])) (.new hD) (fun x o z => by obtain ⟨rfl, rfl⟩ := one_some z; exact upd_same) (fun x o z => by obtain ⟨rfl, rfl⟩ := one_some z; exact hD) ⟨[], .nil, rfl⟩
    rw [List.take_zero]
    exact ⟨F0, _, (q1.tmp (T' := (T.sl X.K g σ).ex F0) ⟨.rf, q0.sl, q0.tm⟩).slots (q0.sl.wipe _)⟩
  · obtain ⟨em, F, M, q⟩ := hW
    obtain ⟨jgo, jst, jy⟩ := jg _ _ _ _ _ _ _ q
    cases m with
    | zero =>
      have e : i = ds.length := by omega
      subst e
      refine .inl ⟨jst, kk Dl H' ⟨F, M, ?_⟩⟩
      rw [List.take_of_length_le (by omega)] at q
      exact (q.tmp (T' := T) q.tm.2.2).slots q.tm.2.1
    | succ m =>
      have hi : i < ds.length := by omega
      refine .inr ⟨jgo i hi, fun H2 => S X.K en (wipeG g (own.map (·.2))) ((T.sl X.K g σ).ex F0) (ownL X.K Dl (keepL (rs.take (i + 1))) :: l) (L2.wipe σ (own.map (·.2))) H2, fun H2 h => ⟨m, by omega, by omega, h⟩, fun x H2 hy => ?_⟩
      obtain ⟨es, b, r, htg, hr, ht, he⟩ := hs i ds[i] (List.getElem?_eq_getElem hi)
      obtain ⟨F2, nw, fx⟩ := jy i ds[i] x H2 (List.getElem?_eq_getElem hi) hy
      have q2 := q.new nw
      refine htg F2 H2 x _ _ q2.exF fx fun vs fvs => ?_
      refine ⟨by rw [wipe_sets his, wipe_wipe], ?_⟩
      have et : rs.take (i + 1) = rs.take i ++ [if b = true then some r else none] := by
        rw [List.take_add_one, hr]; rfl
      refine ht _ en ((((T.sl X.K g σ).ex F0)).sl X.K (wipeG g (own.map (·.2))) (L2.wipe σ (own.map (·.2)))) _ H2 _ ⟨F2, M, (q2.tmp (T' := (((T.sl X.K g σ).ex F0)).sl X.K (wipeG g (own.map (·.2))) (L2.wipe σ (own.map (·.2)))) ⟨q2.sl, q2.tm⟩).slots (q2.sl.sets fvs)⟩ fun H3 s3 => ?_
      cases b with
      | false =>
        show S X.K en _ _ _ _ H3
        obtain ⟨F3, M3, q3⟩ := s3
        rw [et]
        have e2 : keepL (rs.take i ++ [if false = true then some r else none]) = keepL (rs.take i) := by
          unfold keepL
          rw [List.filterMap_append]
          show _ ++ [] = _
          rw [List.append_nil]
        rw [e2]
        exact ⟨F3, M3, (q3.tmp q3.tm.2).slots q3.tm.1⟩
      | true =>
        show te _ H3 _
        refine he rfl _ en _ _ H3 _ s3 fun v H4 s4 => ?_
        obtain ⟨F4, M4, q4⟩ := s4
        obtain ⟨ws, fw, hp⟩ := q4.rs.own (k := 0) rfl q4.exM
        refine ⟨ws, hp, ?_, ?_⟩
        · rw [fw.length]
          have h1 := keepL_len (rs := rs.take i)
          rw [List.length_take] at h1
          omega
        · obtain ⟨M5, q5⟩ := (q4.tmp q4.tm.2).putL (k := 0) rfl (fw.app (.cons q4.tm.1 .nil))
          rw [et]
          have e2 : keepL (rs.take i ++ [if true = true then some r else none]) = keepL (rs.take i) ++ [r] := by
            unfold keepL
            rw [List.filterMap_append]
            rfl
          rw [e2]
          exact ⟨F4, M5, (q5.tmp q5.tm.2).slots q5.tm.1⟩
theorem fd_flat {K : PySem.W.Frag} {F : Hp} {v : V} {d : D} (h : Fd K F v d) : ∃ w, ∀ F', Fd K F' v w := by
  cases h with
  | non => exact ⟨_, fun _ => .non⟩
  | bl b => exact ⟨_, fun _ => .bl b⟩
  | int i => exact ⟨_, fun _ => .int i⟩
  | str x => exact ⟨_, fun _ => .str x⟩
  | adr a => exact ⟨_, fun _ => .adr a⟩
  | ty n => exact ⟨_, fun _ => .ty n⟩
  | lst _ _ => exact ⟨_, fun _ => .adr _⟩
  | tup _ _ => exact ⟨_, fun _ => .adr _⟩
  | ins _ _ => exact ⟨_, fun _ => .adr _⟩
  | scr _ _ => exact ⟨_, fun _ => .adr _⟩
  | dK _ _ => exact ⟨_, fun _ => .adr _⟩
  | dT _ _ => exact ⟨_, fun _ => .adr _⟩
  | exc _ _ _ => exact ⟨_, fun _ => .adr _⟩
  | kt _ => exact ⟨_, fun _ => .adr _⟩
theorem sl_none {K : PySem.W.Frag} {F F' : Hp} : ∀ {g : Gm} {σ : L2.St}, Sl K F g σ → Sl K F' (List.replicate g.length none) σ
  | _, _, .nil => .nil
  | _, _, .any h => .any (sl_none h)
  | _, _, .cons _ h => .any (sl_none h)
theorem sl_put {K : PySem.W.Frag} {F : Hp} {v : V} {d : D} : ∀ {g : Gm} {σ : L2.St} {i : Nat}, Sl K F g σ → σ[i]? = some (some v) → Fd K F v d → Sl K F (g.set i (some d)) σ
  | _, _, _, .nil, h, _ => by cases h
  | _, _, 0, .any h, e, f => by
    cases e
    exact .cons f h
  | _, _, 0, .cons _ h, e, f => by
    cases e
    exact .cons f h
  | _, _, i + 1, .any h, e, f => .any (sl_put (i := i) h e f)
  | _, _, i + 1, .cons f0 h, e, f => .cons f0 (sl_put (i := i) h e f)
theorem sqT_er {K : PySem.W.Frag} {F : Hp} {p q : Addr} {vs : List V} {ws : List (Key × V)} (h : SqT K F p vs) (hq : F q = some (.dK ws)) : SqT K (erH F q) p vs := by
  rcases h with h | h
  · refine .inl ?_
    have ne : p ≠ q := fun e => by
      subst e
      rcases h with h | ⟨o, h⟩ <;> (rw [hq] at h; cases h)
    rcases h with h | ⟨o, h⟩
    · exact .inl (by rw [er_ne ne]; exact h)
    · exact .inr ⟨o, by rw [er_ne ne]; exact h⟩
  · exact .inr h
/-- [elt for tg in x[2].values()], x a tuple of three, its third a frozen dict of flat values: a new list -/
theorem ev_valsT {tg : Expr} {scope : Scope} {own : List (Str × Nat)} {gt : TG} {is : List Nat} {i0 : Nat} {d0 d3 : D} {kvs : List (Key × D)} {rs : List D} (hc : X.calm = true) (hN : X.N.Nodup) (hsl : nth g i0 = some (.tup [d0, d3, .dK kvs])) (hfl : ∀ e ∈ kvs, Flat e.2) (hl1 : ∀ F F' M, Rs l F M → Rs l F' M)
    (hq : ∀ w0 w1 q, Px X o ((List.replicate g.length none).set i0 (some (.tup [w0, w1, .adr q]))) l (.adr q))
    (ok : BlkOk X.N X.env.scope scope own) (hg : Blkc X scope fun Y => PG Y tg gt) (his : ∀ i ∈ is, i ∈ own.map (·.2)) (hlen : rs.length = kvs.length) (hz : rs.length ≤ sizeLine)
    (hs : ∀ w0 w1 q (i : Nat) (e : Key × D), kvs[i]? = some e → ∃ es r, Tg X.K gt is e.2 es ∧ rs[i]? = some r ∧ Blkc X scope fun Y => Px Y elt (sets (wipeG ((List.replicate g.length none).set i0 (some (.tup [w0, w1, .adr q]))) (own.map (·.2))) is es) l r)
    (hbase : attributeBase o "values" X.env (eval o X.env) = eval o X.env := by rfl) (hline : (apos.endLine == cpos.line) = true := by rfl) (hf : ∀ x, foldedSetIterable (.Call (.Attribute o "values" apos) [] [] cpos) X.env x = pure x := by intro _; rfl) : EvL X (.ListComp elt [⟨tg, .Call (.Attribute o "values" apos) [] [] cpos, [], 0⟩] scope pos) g l rs := fun en T σ H Q s kk => by
  obtain ⟨F, M, a⟩ := s
  obtain ⟨v0, hσ, fv0⟩ := Sl.nth a.sl hsl
  cases fv0 with
  | @tup p0 vs0 _ hp fvs0 =>
  cases fvs0 with
  | @cons v1 vs1 _ _ f1 fr1 =>
  cases fr1 with
  | @cons v2 vs2 _ _ f2 fr2 =>
  cases fr2 with
  | @cons v3 vs3 _ _ f3 fr3 =>
  cases fr3
  cases f3 with
  | @dK q vs _ hFq fvs =>
  have hHq : H q = some (.dK vs) := a.exF q _ hFq
  have hMq : M q = none := a.dj q _ hFq
  obtain ⟨w1, hw1⟩ := fd_flat f1
  obtain ⟨w2, hw2⟩ := fd_flat f2
  refine wpE_of (pe_lock (pe_lc hc hN (pi_values pe_wp hbase hline) ok hg (fun _ _ _ _ _ => pts_nil) teB_pe hf)) ?_
  refine ⟨q, _, hHq, trivial, fun od => ?_⟩
  have hvl : vs.length = kvs.length := fvs.length
  have hset : ∀ x u, M x = some u → x ≠ q := fun x u hx e => by rw [e, hMq] at hx; cases hx
  have a1 : At X.K ⟨erH F q, M, upd H q (.frz od (.dK vs))⟩ ((List.replicate g.length none).set i0 (some (.tup [w1, w2, .adr q]))) Tm.tt l σ (upd H q (.frz od (.dK vs))) (erH F q) M := by
    refine At.entry (fun x u h => ?_) (fun x u h => ?_) (fun x u h => a.dj x u (er_ex x u h)) (sl_put (sl_none a.sl) hσ (.tup (sqT_er hp hFq) (.cons (hw1 _) (.cons (hw2 _) (.cons (.adr q) .nil))))) trivial (hl1 F _ M a.rs)
    · by_cases z : x = q
      · rw [z, er_eq] at h; cases h
      · rw [upd_ne z]; exact a.exF x u (er_ex x u h)
    · rw [upd_ne (hset x u h)]; exact a.exM x u h
  have key : ∀ {g' : Gm} {T' : Tm} {l' : List Res} {σ' : L2.St} {H' F' M' : Hp}, At X.K ⟨erH F q, M, upd H q (.frz od (.dK vs))⟩ g' T' l' σ' H' F' M' → H' q = some (.frz od (.dK vs)) := fun b => b.fr q _ upd_same hMq
  refine lc_readE (X := X) (rs := rs.map some) (ds := kvs.map (·.2)) (en := ⟨erH F q, M, upd H q (.frz od (.dK vs))⟩) (T := Tm.tt) (g := (List.replicate g.length none).set i0 (some (.tup [w1, w2, .adr q]))) (l := l) (is := is) (fun R hR => ?_) his (by rw [List.length_map, List.length_map]; exact hlen) (by rw [List.length_map]; exact hz) (fun i d hd => ?_) fun p2 H' s' => ?_
  · refine hq w1 w2 q _ Tm.tt σ _ _ ⟨_, _, a1⟩ fun v H1 s1 => ?_
    obtain ⟨F0, M0, q0⟩ := s1
    have fv := q0.tm.1
    cases fv
    refine ⟨q, od, vs, rfl, key q0, hR _ H1 F0 M0 (q0.tmp trivial) fun g' T' l' σ' H' F' M' b => ?_⟩
    have hb := key b
    refine ⟨fun i hi => ⟨hb, by rw [List.length_map] at hi; omega⟩, ⟨hb, by rw [List.length_map]; omega⟩, fun i d x H2 hd hy => ?_⟩
    obtain ⟨rfl, k, h1⟩ := hy
    rw [List.getElem?_map] at hd
    obtain ⟨e, he, rfl⟩ := Option.map_eq_some_iff.mp hd
    obtain ⟨d0', h4, h5⟩ := fvs.get h1
    rw [he] at h4
    cases h4
    exact ⟨F', New.rf b.exF, Flat.fd h5 (hfl _ (List.mem_of_getElem? he))⟩
  · rw [List.getElem?_map] at hd
    obtain ⟨e, he, rfl⟩ := Option.map_eq_some_iff.mp hd
    obtain ⟨es, r, h1, h2, h3⟩ := hs w1 w2 q i e he
    refine ⟨es, true, r, h1, by rw [List.getElem?_map, h2]; rfl, fun r0 en T σ H Q s kk => kk H s, fun _ r0 en T σ H Q s kk => ?_⟩
    intro s0 H0 C cl fp
    exact (h3 s0 H0 C cl fp).fr en T σ H Q s kk
  rw [keepL_some] at s'
  obtain ⟨F2, M2, qq⟩ := s'
  have hq2 := key qq
  have hF2q : F2 q = none := by
    cases z : F2 q with
    | none => rfl
    | some u =>
      have hu := qq.exF q u z
      rw [hq2] at hu
      cases hu
      rcases qq.nF q _ z with w | w | ⟨u, w⟩ | ⟨xs, w⟩
      · have w : erH F q q = _ := w
        rw [er_eq] at w; cases w
      · have w : upd H q (.frz od (.dK vs)) q = none := w
        rw [upd_same] at w; cases w
      · have w : M q = some u := w
        rw [hMq] at w; cases w
      · cases w
  have hM2q : M2 q = none := by
    cases z : M2 q with
    | none => rfl
    | some u =>
      rcases qq.nM q u z with w | ⟨u, w⟩
      · have w : upd H q (.frz od (.dK vs)) q = none := w
        rw [upd_same] at w; cases w
      · have w : M q = some u := w
        rw [hMq] at w; cases w
  have hF2 : Ex F2 (upd F2 q (.dK vs)) := fun x u h => by
    by_cases z : x = q
    · rw [z, hF2q] at h; cases h
    · rw [upd_ne z]; exact h
  have hF : Ex F (upd F2 q (.dK vs)) := fun x u h => by
    by_cases z : x = q
    · rw [z] at h ⊢
      rw [hFq] at h
      rw [upd_same]; exact h
    · rw [upd_ne z]
      exact qq.eF x u (by show erH F q x = some u; rw [er_ne z]; exact h)
  have noH : ∀ x, x ≠ q → upd H q (.frz od (.dK vs)) x = none → en.H x = none ∨ ∃ u, en.M x = some u := fun x z w => by
    rw [upd_ne z] at w
    cases y : en.M x with
    | some u => exact .inr ⟨u, rfl⟩
    | none =>
      cases y2 : en.H x with
      | none => exact .inl rfl
      | some u => rw [a.fr x u y2 y] at w; cases w
  refine ⟨hq2, kk (.ref p2) (.adr p2) _ _ ⟨p2, rfl, rfl⟩ ⟨upd F2 q (.dK vs), M2, ⟨?_, ?_, ?_, a.eF.tr hF, ?_, ?_, ?_, a.sl.mono hF, ⟨.adr p2, T.mono hF a.tm⟩, qq.rs.mono hF2⟩⟩⟩
  · intro x u h
    by_cases z : x = q
    · rw [z, upd_same] at h ⊢; exact h
    · rw [upd_ne z] at h ⊢; exact qq.exF x u h
  · intro x u h
    have z : x ≠ q := fun e => by rw [e, hM2q] at h; cases h
    rw [upd_ne z]; exact qq.exM x u h
  · intro x u h
    by_cases z : x = q
    · rw [z]; exact hM2q
    · rw [upd_ne z] at h; exact qq.dj x u h
  · intro x u h
    by_cases z : x = q
    · rw [z, upd_same] at h
      rw [z]
      exact a.nF q u (by rw [hFq]; exact h)
    · rw [upd_ne z] at h
      rcases qq.nF x u h with w | w | ⟨u', w⟩ | w
      · exact a.nF x u (er_ex x u w)
      · rcases noH x z w with y | y
        · exact .inr (.inl y)
        · exact .inr (.inr (.inl y))
      · rcases a.nM x u' w with y | y
        · exact .inr (.inl y)
        · exact .inr (.inr (.inl y))
      · exact .inr (.inr (.inr w))
  · intro x u h
    have z : x ≠ q := fun e => by rw [e, hM2q] at h; cases h
    rcases qq.nM x u h with w | ⟨u', w⟩
    · exact noH x z w
    · exact a.nM x u' w
  · intro x u h1 h2
    have h3 := a.fr x u h1 h2
    by_cases z : x = q
    · rw [z] at h3 ⊢
      rw [hHq] at h3
      rw [upd_same]; exact h3
    · rw [upd_ne z]
      refine qq.fr x u (by show upd H q _ x = some u; rw [upd_ne z]; exact h3) ?_
      show M x = none
      cases y : M x with
      | none => rfl
      | some u' =>
        rcases a.nM x u' y with w | ⟨u2, w⟩
        · rw [h1] at w; cases w
        · rw [h2] at w; cases w

theorem ev_valsM {κ γ : Type} {tg : Expr} {scope : Scope} {own : List (Str × Nat)} {gt : TG} {is : List Nat} {i0 : Nat} {d0 d3 : D} {kf : κ → Key} {mm : List (κ × γ)} (encv : γ → D) (encR : β → D) (Fn : γ → β) (hc : X.calm = true) (hN : X.N.Nodup) (hsl : nth g i0 = some (.tup [d0, d3, .dK (dE kf encv mm)])) (hfl : ∀ x, Flat (encv x)) (hl1 : ∀ F F' M, Rs l F M → Rs l F' M)
    (hq : ∀ w0 w1 q, Px X o ((List.replicate g.length none).set i0 (some (.tup [w0, w1, .adr q]))) l (.adr q))
    (ok : BlkOk X.N X.env.scope scope own) (hg : Blkc X scope fun Y => PG Y tg gt) (his : ∀ i ∈ is, i ∈ own.map (·.2)) (hz : (mm.map (·.2)).length ≤ 10000)
    (hs : ∀ w0 w1 q (i : Nat) (x : γ), (mm.map (·.2))[i]? = some x → ∃ es, Tg X.K gt is (encv x) es ∧ Blkc X scope fun Y => Px Y elt (sets (wipeG ((List.replicate g.length none).set i0 (some (.tup [w0, w1, .adr q]))) (own.map (·.2))) is es) l (encR (Fn x)))
    (hbase : attributeBase o "values" X.env (eval o X.env) = eval o X.env := by rfl) (hline : (apos.endLine == cpos.line) = true := by rfl) (hf : ∀ x, foldedSetIterable (.Call (.Attribute o "values" apos) [] [] cpos) X.env x = pure x := by intro _; rfl) : EvL X (.ListComp elt [⟨tg, .Call (.Attribute o "values" apos) [] [] cpos, [], 0⟩] scope pos) g l (((mm.map (·.2)).map Fn).map encR) :=
  ev_valsT hc hN hsl (fun e he => by
    obtain ⟨x, _, rfl⟩ := List.mem_map.mp he
    exact hfl _) hl1 hq ok hg his (by rw [List.length_map, List.length_map, List.length_map]; unfold dE; rw [List.length_map]) (by rw [List.length_map, List.length_map]; exact Nat.le_trans hz (by decide)) (fun w0 w1 q i e he => by
    unfold dE at he
    rw [List.getElem?_map] at he
    obtain ⟨x, hx, rfl⟩ := Option.map_eq_some_iff.mp he
    obtain ⟨es, h1, h2⟩ := hs w0 w1 q i x.2 (by rw [List.getElem?_map, hx]; rfl)
    exact ⟨es, _, h1, by rw [List.getElem?_map, List.getElem?_map, List.getElem?_map, hx]; rfl, h2⟩) hbase hline hf
end
end Sx
set_option Elab.async false
set_option linter.all false
set_option maxRecDepth 100000
set_option maxHeartbeats 2000000
/-! Classes whose __init__ may raise. -/
namespace Sx
open PySem L2 PyProof.Rows
section
variable {X : Cx} {CX : CXT} {k : Nat} {f C : Addr} {fd : FuncData} {ps : List Str} {sp : Sp} {x : Str} {p pos : Pos} {e : Expr} {es : List Expr} {t : TA} {E : L2.St → XK}
/-- C(..) where what is wished of an exception may hang on the slots -/
def tMakeS (C : Addr) (sp : Sp) (E : L2.St → XK) (t : TA) : TE := fun σ H Q => t σ H fun vs H1 => ∀ y dx, H1 y = none → H1 dx = none → dx ≠ y → sp (.ref y :: vs) (upd (upd H1 dx (.own y)) y (.ins C dx [])) (fun v H2 => v = .non ∧ Q (.ref y) H2) (E σ)
theorem run_makeS {pins : List (Addr × Obj)} {σ : L2.St} {H : Hp} {s : Shared} {Q : VK} {us : List Value} {vs : List V} (M : Mk X.K C f) (F : FnOk X.prog X.w X.K X.mg X.base CX k f fd ps sp) (hr : Room (k + 1) X.A) (hb : Binds X.K fd ps []) (hx : PassesAt CX X σ (E σ)) (I : Inv X pins σ H s) (rv : Vals vs us)
    (hh : ∀ y dx, H y = none → H dx = none → dx ≠ y → sp (.ref y :: vs) (upd (upd H dx (.own y)) y (.ins C dx [])) (fun v H2 => v = .non ∧ Q (.ref y) H2) (E σ)) : wpAny (model X.prog X.w) X.A (call (.ref C) us) (EP X pins σ Q) X.xe s := by
  have hs := hh (s.heap.objs.size + 1) s.heap.objs.size (I.hok.fresh (Nat.le_succ _)) (I.hok.fresh (Nat.le_refl _)) (Nat.ne_of_lt (Nat.lt_succ_self _))
  have J := Inv.made (C := C) I
  have w : Vals (V.ref (s.heap.objs.size + 1) :: vs) (Value.ref (s.heap.objs.size + 1) :: us) := .cons rfl rv
  have ln : (Value.ref (s.heap.objs.size + 1) :: us).length = ps.length := w.length.symm.trans (F.len _ _ _ _ hs)
  have b := hb _ (Value.ref (s.heap.objs.size + 1) :: us) J.kIn (by rw [List.append_nil]; exact ln)
  rw [List.append_nil] at b
  refine wpAny_call (make_map (f := f) I.kIn M.makes M.init (beq_iff_eq.mp M.fn) (codeAny_mono (F.run _ X.stack _ _ ⟨Value.ref (s.heap.objs.size + 1) :: us, []⟩ (Value.ref (s.heap.objs.size + 1) :: us) _ _ (E σ) (hr.make C us []) (J.env0.make C us []) b w hs) fun r s' hz => ?_))
  cases r with
  | error e => exact hx pins _ _ e s' J hz
  | ok fl =>
    cases fl with
    | ret u =>
      obtain ⟨v, H', I3, r3, ev, q3⟩ := J.after hz
      subst ev
      exact ⟨r3, ⟨V.ref (s.heap.objs.size + 1), H', I3, rfl, q3⟩⟩
    | next => exact hz.elim
    | brk => exact hz.elim
    | cont => exact hz.elim
theorem pe_makeS (M : Mk X.K C f) (F : FnOk X.prog X.w X.K X.mg X.base CX k f fd ps sp) (hr : Room (k + 1) X.A) (hg : Gl X x) (hm : X.mg x = some (.ref C)) (hb : Binds X.K fd ps []) (hx : ∀ σ, PassesAt CX X σ (E σ)) (ha : PA X (e :: es) t) (hdb : (x == ("__debug__" : Str)) = false := by decide)
    (he : starEach (e :: es) X.env = (false, eval e X.env) :: starEach es X.env := by rfl) (hpl : (backTo pos (starEach es X.env)).any (·.1) = false := by rfl) : PE X (.Call (.Name x p) (e :: es) [] pos) (tMakeS C sp E t) := by
  refine ⟨fun pins s σ H Q I hh => wpAny_Call_Name_kw (ld_glob I hg hm ?_ hdb)⟩
  refine PySem.W.callWith_K (h₀ := X.base) I.ok.mod.kin M.kp (thn (ha.run pos pins s σ H _ I hh) fun us s1 hw => ?_) he hpl
  obtain ⟨vs, H1, J, rv, q⟩ := hw
  exact ⟨J.kIn, run_makeS M F hr hb (hx σ) J rv q⟩
end
/-- a class under its name with its __init__, which may raise -/
def GloCX (P : Program) (w : World) (K : PySem.W.Frag) (mg : Str → Option Value) (base : Heap) (k : Nat) (C : Addr) (x : Str) (ps : List Str) (sp : Sp) : Prop :=
  ∃ f fd, FnOk P w K mg base (L2.CX P w) k f fd ps sp ∧ Mk K C f ∧ mg x = some (.ref C) ∧ Binds K fd ps []
section
variable {P : Program} {w : World} {K : PySem.W.Frag} {mg : Str → Option Value} {base : Heap} {k : Nat} {x qual : Str} {st : Stmt} {ps : List Str} {sp : Sp} {C : Addr}
theorem gloc_x (d : Din K C qual st) (c : Dcl K mg x C) (b : Bnd "__init__" qual st ps) (h : ∀ f fd, Fun K "__init__" qual st f fd → FnOk P w K mg base (L2.CX P w) k f fd ps sp) : GloCX P w K mg base k C x ps sp := by
  obtain ⟨f, fd, F, hm⟩ := d
  have F0 := F
  obtain ⟨⟨oc, od, kV, doc, pm, an, cdv, ct, osl, e, lk, hcd⟩, kp⟩ := F
  exact ⟨f, fd, h f fd F0, hm, c.mg, Binds.all fun us hl => by rw [e]; exact b kV doc pm an cdv ct us hl⟩
end
section
variable {X : Cx} {W : WX} {g : Gm} {e : Expr} {es : List Expr} {p pos : Pos}
/-- C(..) may raise: nothing of the instance is told then -/
theorem exv_make {α β ι ε : Type} {ok : α → Prop} {args : α → List D} {own : α → List Res} {dd : α → ι → β → D} {ll : α → ι → β → List Res} {m : α → Except ε β} {xc : ε → Xd} {C : Addr} {x : Str} {ps : List Str} {k j : Nat} {lr : List Res} {ds : List D}
    (tk : Takes X W) (G : GloCX X.prog X.w X.K X.mg X.base k C x ps (SpX X.K ok args own (fun a => OwnR (dd a) (ll a)) m xc)) (hr : Room j X.A) (hj : k + 1 ≤ j) (a : Addr → α) (hok : ∀ q, ok (a q)) (m0 : Except ε β) (hm : ∀ q, m (a q) = m0) (ha : Pa X (e :: es) g lr ds)
    (hds : ∀ q, args (a q) = .adr q :: ds) (hown : ∀ q, own (a q) = [ownI X.K q C []]) (hdd : ∀ q i v, dd (a q) i v = .non)
    (hg : Gl X x := by rfl) (hdb : (x == ("__debug__" : Str)) = false := by decide) (he : starEach (e :: es) X.env = (false, eval e X.env) :: starEach es X.env := by rfl) (hpl : (backTo pos (starEach es X.env)).any (·.1) = false := by rfl) :
    Exv X W (.Call (.Name x p) (e :: es) [] pos) g lr (fun d l' => ∃ v, m0 = .ok v ∧ ∃ q i, d = .adr q ∧ l' = ll (a q) i v ++ lr) (fun cls d0 l' => ∃ lx, (∃ e0, m0 = .error e0 ∧ XE X.K (xc e0) cls d0 lx) ∧ l' = lx ++ lr) := fun en T σ H Q s kk kx => by
  obtain ⟨f, fd, F, M, hmm, hb⟩ := G
  refine wpE_of (pe_makeS M F (hr.mono hj) hg hmm hb (passAt tk) pa_wp hdb he hpl) ?_
  refine ha en T σ H _ s fun vs H1 s1 => ?_
  intro x dx nx ndx ne
  obtain ⟨F1, M1, q1⟩ := s1
  have n2 : (upd H1 dx (.own x)) x = none := by rw [upd_ne (Ne.symm ne)]; exact nx
  have q2 := q1.newO (r := ownI X.K x C []) (A := join (one x (.ins C dx [])) (one dx (.own x))) (H' := upd (upd H1 dx (.own x)) x (.ins C dx [])) ((Ex.new ndx).tr (.new n2))
    (fun y o z => by
      rcases join_some z with w | ⟨w, w'⟩
      · obtain ⟨rfl, rfl⟩ := one_some w; exact upd_same
      · obtain ⟨rfl, rfl⟩ := one_some w'
        rw [upd_ne ne, upd_same])
    (fun y o z => by
      rcases join_some z with w | ⟨w, w'⟩
      · obtain ⟨rfl, rfl⟩ := one_some w; exact nx
      · obtain ⟨rfl, rfl⟩ := one_some w'; exact ndx) ⟨[], dx, ne, .nil, rfl⟩
  have s2 : S X.K en g ((T.and X.K (.ref x) (.adr x)).ands X.K (.ref x :: vs) (args (a x))) (own (a x) ++ lr) σ (upd (upd H1 dx (.own x)) x (.ins C dx [])) := by
    rw [hown]
    exact ⟨F1, _, q2.tmp ⟨by rw [hds]; exact .cons (.adr x) q1.tm.1, .adr x, q1.tm.2⟩⟩
  refine FnX.useX (W := W) (σ := σ) (a x) (hok x) s2 (fun v d l' H' hp s' => ?_) fun cls d l' H' hp s' => ?_
  · rw [hm] at hp
    generalize hz : m0 = r at hp kk
    cases r with
    | error e => exact hp.elim
    | ok r =>
      obtain ⟨i, e1, e2⟩ := hp
      rw [hdd] at e1
      subst e1; subst e2
      obtain ⟨F3, M3, q3⟩ := s'
      have f3 := q3.tm.1
      cases f3
      exact ⟨rfl, kk _ _ _ H' ⟨r, rfl, x, i, rfl, rfl⟩ ⟨F3, M3, q3.tmp q3.tm.2⟩⟩
  · rw [hm] at hp
    generalize hz : m0 = r at hp kx
    cases r with
    | ok r => exact hp.elim
    | error e =>
      obtain ⟨lx, h1, h2⟩ := hp
      subst h2
      refine kx cls d _ H' ⟨lx, ⟨e, rfl, h1⟩, rfl⟩ ?_
      rw [hown] at s'
      obtain ⟨F3, M3, q3⟩ := s'
      have s'' : S X.K en g T ((lx ++ [ownI X.K x C []]) ++ lr) σ H' := ⟨F3, M3, q3.tmp q3.tm.2⟩
      refine S.dropO (l' := [ownI X.K x C []]) (S.perm ?_ s'')
      rw [List.append_assoc]
      exact List.perm_append_comm_assoc _ _ _
/-- .. and is frozen -/
theorem px_makeOk {ι : Type} {l : List Res} {C : Addr} {fs : List (Str × D)} {ll : Addr → ι → List Res} (h : Ev X e g l (fun d l' => ∃ (q : Addr) (i : ι), d = .adr q ∧ l' = ll q i ++ l)) (hl : ∀ q i, ll q i = [ownI X.K q C fs]) : Px X e g l (.ins C fs) :=
  Ev.frzI (h.imp fun d l' ⟨q, i, h1, h2⟩ => ⟨q, h1, by rw [h2, hl]; rfl⟩)
/-- == of lists (its instance of Decidable is the common one, also where one is empty) -/
abbrev decL {α : Type} [DecidableEq α] (xs ys : List α) : Bool := decide (xs = ys)
/-! ### isinstance by several classes -/
theorem kitA_n {K : PySem.W.Frag} {t : Value} : PySem.W.kitAny K t [] = some false := rfl
theorem kitA_c {K : PySem.W.Frag} {t cv : Value} {r : List Value} {b1 b2 : Bool} (h1 : PySem.W.kitOne K t cv = some b1) (h2 : PySem.W.kitAny K t r = some b2) : PySem.W.kitAny K t (cv :: r) = some (b1 || b2) := by
  unfold PySem.W.kitAny
  rw [h1]
  cases b1 with
  | true => rfl
  | false => exact h2
/-! ### things of any kind -/
theorem lst_opt {xs : List (Option Int)} (h : ∀ x ∈ xs, x.isSome = true) : D.lst (xs.map (optE D.int)) = D.lst ((xs.map (·.getD 0)).map D.int) := by
  congr 1
  rw [List.map_map]
  refine List.map_congr_left fun x hx => ?_
  have := h x hx
  cases x with
  | none => cases this
  | some i => rfl
variable {l : List Res} {o a b : Expr} {d : D} {p2 : Pos}
theorem D.lst_eta {d : D} (h : d.is .list = true) : d = .lst (d.els.map fun x : D => x) := by
  cases d with
  | lst ds => rw [map_any]; rfl
  | _ => cases h
theorem px_coeL (h : Px X o g l d) (hi : d.is .list = true) : Px X o g l (.lst (d.els.map fun x : D => x)) := by rw [← D.lst_eta hi]; exact h
theorem px_slAnyT {lo hi : Option Expr} {i j : Option Int} (ho : Px X o g l d) (hq : d.is .tuple = true) (hl : Pz X lo g l i) (hu : Pz X hi g l j) : Px X (.Subscript o (.Slice lo hi none p2) pos) g l (.tup (cut d.els i j)) := by
  cases d with
  | tup ds => exact px_slT ho hl hu
  | _ => cases hq
theorem ev_repL {α : Type} (enc : α → D) {xs : List α} {i : Int} (ha : Px X a g l (lstE enc xs)) (hb : Px X b g l (.int i)) (h : -10000 ≤ i) (hz : i ≤ 10000) (hs : xs.length * i.toNat ≤ 10000) : EvL X (.BinOp a .Mult b pos) g l (((List.replicate i.toNat xs).flatten).map enc) := by
  have := ev_rep (pos := pos) ha hb .f ⟨by omega, by omega⟩ (by rw [List.length_map]; exact Nat.le_trans hs (by decide))
  rw [List.map_flatten, List.map_replicate]
  exact this
end
end Sx
set_option Elab.async false
set_option linter.all false
set_option maxRecDepth 100000
set_option maxHeartbeats 2000000
/-! Displays whose elements own; targets taken apart from such; tries walked twice, once for each end. -/
namespace Sx
open PySem L2 PyProof.Rows
section
variable {X : Cx} {W : WX} {g : Gm} {l : List Res} {e : Expr} {es : List Expr} {d : D} {pos p : Pos} {ι ι' : Type} {d0 : ι → D} {l0 : ι → List Res} {dt : ι' → List D} {lt1 : ι' → List Res} {ds0 : ι → ι' → List D} {l1 : ι → ι' → List Res}
theorem pax_z : PaX X [] g l (fun ds l' => ∃ _ : Unit, ds = [] ∧ l' = l) := fun en T σ H Q s k => wpA_of pa_nil (by
  obtain ⟨F, M, a⟩ := s
  exact k [] [] l H ⟨(), rfl, rfl⟩ ⟨F, M, a.tmp ⟨.nil, a.tm⟩⟩)
theorem pax_p (he : Px X e g l d) (h : PaX X es g l (fun ds l' => ∃ i, ds = dt i ∧ l' = lt1 i)) (hs : starEach (e :: es) X.env = (false, eval e X.env) :: starEach es X.env := by rfl) : PaX X (e :: es) g l (fun ds l' => ∃ i, ds = d :: dt i ∧ l' = lt1 i) :=
  PaX.imp (pax_c he h hs) fun ds l' ⟨ds', e1, i, e2, e3⟩ => ⟨i, by rw [e1, e2], e3⟩
theorem pax_o (he : Ev X e g l (fun d l' => ∃ j, d = d0 j ∧ l' = l0 j)) (h : ∀ j, PaX X es g (l0 j) (fun ds l' => ∃ i, ds = ds0 j i ∧ l' = l1 j i)) (hs : starEach (e :: es) X.env = (false, eval e X.env) :: starEach es X.env := by rfl) :
    PaX X (e :: es) g l (fun ds l' => ∃ q : ι × ι', ds = d0 q.1 :: ds0 q.1 q.2 ∧ l' = l1 q.1 q.2) := fun en T σ H Q s k => wpA_of (pa_cons pe_wp pa_wp hs) (by
  refine he en T σ H _ s fun v d l' H1 hp s1 => ?_
  obtain ⟨j, e1, e2⟩ := hp
  subst e1; subst e2
  refine h j en _ σ H1 _ s1 fun vs ds' l' H2 hp s2 => ?_
  obtain ⟨i, e1, e2⟩ := hp
  obtain ⟨F, M, a⟩ := s2
  exact k _ _ _ H2 ⟨(j, i), by rw [e1], e2⟩ ⟨F, M, a.tmp ⟨.cons a.tm.2.1 a.tm.1, a.tm.2.2⟩⟩)
theorem ev_tupX {x1} (h : PaX X es g l (fun ds l' => ∃ i, ds = dt i ∧ l' = lt1 i)) (hz : ∀ i, (dt i).length ≤ sizeLine := by intro i; exact Nat.le_of_ble_eq_true rfl) : Ev X (.Tuple es x1 pos) g l (fun d l' => ∃ i, d = .tup (dt i) ∧ l' = lt1 i) := fun en T σ H Q s k => wpE_of (pe_tup pa_wp) (by
  refine h en T σ H _ s fun vs ds l' H1 hp s1 => ?_
  obtain ⟨i, e1, e2⟩ := hp
  subst e1
  obtain ⟨F, M, q⟩ := s1
  refine ⟨by rw [q.tm.1.length]; exact hz i, fun p hp => ?_⟩
  have n := New.upd (o := .tup vs) q.exF hp
  exact k _ _ _ _ ⟨i, rfl, e2⟩ ⟨_, M, (q.new n).tmp ⟨.tup (SqT.of upd_same) (FdAll.mono n.f _ q.tm.1), T.mono n.f q.tm.2⟩⟩)
/-- a list whose own cells nobody changes, its elements owned -/
theorem ev_lstX (h : PaX X es g l (fun ds l' => ∃ i, ds = dt i ∧ l' = lt1 i)) (hz : ∀ i, (dt i).length ≤ sizeLine := by intro i; exact Nat.le_of_ble_eq_true rfl) : Ev X (.List es pos) g l (fun d l' => ∃ i, d = .lst (dt i) ∧ l' = lt1 i) := fun en T σ H Q s k => wpE_of (pe_lst pa_wp) (by
  refine h en T σ H _ s fun vs ds l' H1 hp s1 => ?_
  obtain ⟨i, e1, e2⟩ := hp
  subst e1
  obtain ⟨F, M, q⟩ := s1
  refine ⟨by rw [q.tm.1.length]; exact hz i, fun p hp => ?_⟩
  have n := New.upd (o := .lst vs) q.exF hp
  exact k _ _ _ _ ⟨i, rfl, e2⟩ ⟨_, M, (q.new n).tmp ⟨.lst upd_same (FdAll.mono n.f _ q.tm.1), T.mono n.f q.tm.2⟩⟩)
/-- a, b = e, e gives something owned -/
theorem bo_asgO {α β : Type} {Om : β → Po} {k : α → β} {s0 : α} {tg : Expr} {gt : TG} {is : List Nat} {rest : List Stmt} {dd : ι → α → D} {ll : ι → α → List Res} {es : ι → α → List D} (he : Ev X e g l (fun d l' => ∃ j, d = dd j s0 ∧ l' = ll j s0)) (hg : PG X tg gt) (ht : ∀ j s, Tg X.K gt is (dd j s) (es j s))
    (h : ∀ j s, s = s0 → Bo X W rest (sets g is (es j s)) (ll j s) Om (k s)) (hs : swapsWithSole [tg] e pos.line X.env = pure false := by rfl) (hw : swappedStores [tg] e X.env = pure none := by rfl) (h1 : (assignEach [tg] X.env).map (·.2) = [assign tg X.env] := by rfl) :
    Bo X W (.Assign [tg] e pos :: rest) g l Om (lt s0 k) := fun en T σ H D s mm => wpS_of (pss_cons (ps_asg pe_wp hg hs hw h1) pss_wp) (by
  refine he en T σ H _ s fun u d l' H1 hp s1 => ?_
  obtain ⟨j, e1, e2⟩ := hp
  subst e1; subst e2
  obtain ⟨F, M, q⟩ := s1
  obtain ⟨f1, t⟩ := q.tm
  exact ht j s0 F H1 u σ _ q.exF f1 fun vs fvs => h j s0 rfl en T _ H1 D ⟨F, M, (q.tmp t).slots (q.sl.sets fvs)⟩ mm)
end
/-! ### a try, each end walked by itself -/
section
variable {X Y : Cx} {W W' : WX} {g : Gm} {l : List Res} {body rest : List Stmt} {pos : Pos} {β ε V : Type} {Om : β → Po}
/-- behind the body stands the rest -/
abbrev OmT (X : Cx) (W : WX) (rest : List Stmt) (Om : β → Po) : β → Po := fun m => { Om m with nx := fun g' l' => Blk X W rest g' l' (Om m), ex := fun _ _ _ _ => False }
/-- the body raises -/
abbrev OmX (K : PySem.W.Frag) (g : Gm) (l : List Res) (x : Xd) : Unit → Po := fun _ => { nx := fun _ _ => False, rt := fun _ _ => False, bk := fun _ _ => False, ct := fun _ _ => False, ex := fun cls dd g' l' => ∃ lx, XE K x cls dd lx ∧ g' = g ∧ l' = lx ++ l }
theorem exto_xs {x : Xd} : ExTo X.K x (OmX X.K g l x ()) g l := fun cls dd lx h => ⟨lx ++ l, [], by rw [List.append_nil], lx, h, rfl, rfl⟩
theorem bo_mark {m : β} (h : Bo X W rest g l Om m) : Bo Y W' [] g l (OmT X W rest Om) m := blk_nil h
theorem bo_tryS {hks : List ExceptHandler} {ks : List (Addr × Nat × Nat)} {o : Except ε V} {k : V → β} {er : ε → β} {xc : ε → Xd} (tk : Takes X W) (hN : X.N.Nodup) (hr : Hks X hks (ks.map fun q => (.ref q.1, q.2.1, q.2.2))) (hne : hks ≠ [])
    (h1 : ∀ v, o = .ok v → ∀ (W' : WX) (pn : List (Addr × Obj)) (xe : Value → Shared → Prop), Takes (X.tr pn xe) W' → PassesOwn (model X.prog X.w) X.A X.env xe → Bo (X.tr pn xe) W' body g l (OmT X W rest Om) (k v))
    (h2 : ∀ e, o = .error e → ∀ (W' : WX) (pn : List (Addr × Obj)) (xe : Value → Shared → Prop), Takes (X.tr pn xe) W' → PassesOwn (model X.prog X.w) X.A X.env xe → Bo (X.tr pn xe) W' body g l (OmX X.K g l (xc e)) ())
    (h3 : ∀ e, o = .error e → Catch X W rest g l (Om (er e)) (xc e) ks) (hs : X.stack = X.env :: X.outer := by rfl) (hf : X.env.frame = some X.env.locals := by rfl) (hex : X.ex = [] := by rfl) : Bo X W (.Try body hks [] [] pos :: rest) g l Om (xb o k er) := by
  cases o with
  | ok v => exact blk_tryF (fun _ => False) tk hN hr hne (fun W' pn xe t1 t2 => Blk.imp (h1 v rfl W' pn xe t1 t2) (fun _ _ h => h) (fun _ _ h => h) (fun _ _ h => h) (fun _ _ h => h) (fun _ _ _ _ h => h.elim)) (fun x h => h.elim) hs hf hex
  | error e => exact blk_tryF (fun x => x = xc e) tk hN hr hne (fun W' pn xe t1 t2 => Blk.imp (h2 e rfl W' pn xe t1 t2) (fun _ _ h => h.elim) (fun _ _ h => h.elim) (fun _ _ h => h.elim) (fun _ _ h => h.elim) (fun cls dd g' l' ⟨lx, h1, h2, h3⟩ => ⟨_, lx, rfl, h1, h2, h3⟩)) (fun x h => by subst h; exact h3 e rfl) hs hf hex
/-- a test that is so, and its way does not run on -/
theorem bo_ifT1 {c : Expr} {A : List Stmt} {bb : Bool} {m : β} (hc : Ts X c g l bb) (hb : bb = true) (h : Bo X W A g l Om m) (hn : ∀ g' l', (Om m).nx g' l' → False := by exact fun _ _ h => h) : Bo X W (.If c A [] pos :: rest) g l Om m := by
  subst hb
  exact blk_if hc (fun _ => Blk.imp h (fun _ _ z => (hn _ _ z).elim) (fun _ _ z => z) (fun _ _ z => z) (fun _ _ z => z) (fun _ _ _ _ z => z)) (fun z => nomatch z)
/-- what is behind the clause -/
theorem catch1S {C : Addr} {i j : Nat} {x : Xd} {Q : Po} (h1 : PySem.W.exmOne X.K (.ref x.C) (.ref C) = some true) (z : Blk X W rest (after g i j x) l Q) : Catch X W rest g l Q x [(C, i, j)] := catch1 h1 z
end
/-! ### raising among arguments -/
def XA (X : Cx) (W : WX) (es : List Expr) (g : Gm) (l : List Res) (x : Xd) : Prop := ∀ en T σ H (Q : List V → Hp → Prop), S X.K en g T l σ H → (∀ cls dd l' H', (∃ lx, XE X.K x cls dd lx ∧ l' = lx ++ l) → S X.K en g T l' σ H' → W cls dd σ H') → wpA X es σ H Q
section
variable {X : Cx} {W : WX} {g : Gm} {l : List Res} {e o : Expr} {es : List Expr} {d : D} {pos p : Pos} {x : Xd}
theorem S.untmp {K : PySem.W.Frag} {en : En} {T : Tm} {σ : L2.St} {H : Hp} {v : V} {d : D} (s : S K en g (T.and K v d) l σ H) : S K en g T l σ H := by
  obtain ⟨F, M, a⟩ := s
  exact ⟨F, M, a.tmp a.tm.2⟩
theorem xa_h (he : Exr X W e g l x) (hs : starEach (e :: es) X.env = (false, eval e X.env) :: starEach es X.env := by rfl) : XA X W (e :: es) g l x := fun en T σ H Q s kx => wpA_of (pa_cons pe_wp pa_wp hs) (he en T σ H _ s (fun _ _ _ _ h _ => h.elim) kx)
theorem xa_t (he : Px X e g l d) (h : XA X W es g l x) (hs : starEach (e :: es) X.env = (false, eval e X.env) :: starEach es X.env := by rfl) : XA X W (e :: es) g l x := fun en T σ H Q s kx => wpA_of (pa_cons pe_wp pa_wp hs) (he en T σ H _ s fun v H1 s1 => h en _ σ H1 _ s1 fun cls dd l' H' hp s' => kx cls dd l' H' hp s'.untmp)
/-- an argument of C(..) raises -/
theorem exr_new {C : Addr} {y : Str} {ps : List Str} {sp : Sp} {k j : Nat} (G : GloC X.prog X.w X.K X.mg X.base k C y ps sp) (hr : Room j X.A) (hj : k + 1 ≤ j) (ha : XA X W (e :: es) g l x) (hg : Gl X y := by rfl) (hdb : (y == ("__debug__" : Str)) = false := by decide)
    (he : starEach (e :: es) X.env = (false, eval e X.env) :: starEach es X.env := by rfl) (hpl : (backTo pos (starEach es X.env)).any (·.1) = false := by rfl) : Exr X W (.Call (.Name y p) (e :: es) [] pos) g l x := fun en T σ H Q s kk kx => by
  obtain ⟨f, fd, F, M, hm, hb⟩ := G
  exact wpE_of (pe_make M F (hr.mono hj) hg hm hb .nil pass0 pa_wp hdb he hpl) (ha en T σ H _ s kx)
/-- an argument of f(..) raises -/
theorem exr_arg {y : Str} {ps : List Str} {sp : Sp} {k j : Nat} (G : Glo X.prog X.w X.K X.mg X.base k y ps sp) (hr : Room j X.A) (hj : k ≤ j) (ha : XA X W (e :: es) g l x) (hg : Gl X y := by rfl) (hdb : (y == ("__debug__" : Str)) = false := by decide)
    (he : starEach (e :: es) X.env = (false, eval e X.env) :: starEach es X.env := by rfl) (hpl : (backTo pos (starEach es X.env)).any (·.1) = false := by rfl) : Exr X W (.Call (.Name y p) (e :: es) [] pos) g l x := fun en T σ H Q s kk kx => by
  obtain ⟨f, fd, F, hm, hk, hb⟩ := G
  exact wpE_of (pe_call F (hr.mono hj) hg hm hk hb .nil pass0 pa_wp hdb he hpl) (ha en T σ H _ s kx)
end
end Sx
set_option Elab.async false
set_option linter.all false
set_option maxRecDepth 100000
set_option maxHeartbeats 2000000
/-! sorted(t), t a tuple of whole numbers; classes that are handed what they keep. -/
namespace Sx
open PySem PyProof.Rows SrtO
section
variable {prog : Program} {w : World} {A : Around} {E : Value → Shared → Prop} {s : Shared}
/-- a tuple is collected -/
theorem collT {t : Addr} {zs : List Value} {Q : List Value → Shared → Prop} (it : s.heap.IsTuple t zs.toArray) (hz : zs.length ≤ sizeLine)
    (q : Q zs { s with heap := (s.heap.push (seqObj "list" #[] 0)).update s.heap.objs.size (Obj.mapSeq (· ++ zs.toArray)) }) : wpAny (model prog w) A (collect (.ref t)) Q E s := by
  obtain ⟨ob, g1, g2, nn, g3⟩ := id it
  unfold collect
  refine wpAny_bind (wpAny_runValue (codeAny_builtin entry_proto_collect' ?_))
  show wpAny _ _ (do again (.builtin "list.__iadd__" ⟨[← newList [], .ref t], []⟩)) _ _ s
  refine wpAny_bind (wpAny_newList (wpAny_pure ⟨Code.quiet_builtin _ (by decide +kernel), codeAny_builtin entry_list_iadd' ?_⟩))
  show wpAny _ _ (Builtin.List.listExtendWith (.ref s.heap.objs.size) (.ref t) (.ref s.heap.objs.size)) _ _ { s with heap := s.heap.push (seqObj "list" #[] 0) }
  unfold Builtin.List.listExtendWith
  have g1' : (s.heap.push (seqObj "list" #[] 0)).get? t = some ob := Heap.get?_push_of_some _ g1
  have own : (s.heap.push (seqObj "list" #[] 0)).get? s.heap.objs.size = some (seqObj "list" #[] 0) := Heap.get?_push_size _ rfl
  refine wpAny_bind (wpAny_typeOf (T := "tuple") ⟨ob, g1', g2⟩ ?_)
  have tt : (Value.type "tuple" == Value.type "tuple") = true := by rfl
  rw [if_pos (by rw [tt]; simp)]
  refine wpAny_bind (listItems_at g1' g3 (wpAny_bind (listItems_at (xs := #[]) (n := 0) own rfl ?_)))
  rw [if_neg (by simp)]
  refine wpAny_bind (listUpdate_at (xs := #[]) (n := 0) own rfl (wpAny_pure ?_) (Nat.zero_le _) (by show (#[] ++ zs.toArray).size ≤ sizeLine + 1; simp only [Array.size_append, List.size_toArray, List.length_nil]; omega))
  show wpAny (model prog w) A (do
      let ob ← load s.heap.objs.size
      match ob.data with
      | .seq xs _ => pure xs.toList
      | _ => unsupported "internal:collect") Q E { s with heap := (s.heap.push (seqObj "list" #[] 0)).update s.heap.objs.size (Obj.mapSeq (· ++ zs.toArray)) }
  refine wpAny_bind (wpAny_load (get?_update_seq own _) ?_)
  show wpAny _ A (pure ((#[] : Array Value) ++ zs.toArray).toList) Q E _
  have e : ((#[] : Array Value) ++ zs.toArray).toList = zs := by simp
  rw [e]
  exact wpAny_pure q
/-- .. and sorted -/
theorem sortT_ord {t : Addr} {zs : List Value} {ltv : Value → Value → Bool} {Q : Value → Shared → Prop} (O : Swo ltv) (it : s.heap.IsTuple t zs.toArray) (hz : zs.length ≤ sizeLine)
    (hS : 2 ≤ zs.length → ∀ (h₁ : Heap) (a : Addr), h₁.get? a = some (seqObj "list" zs.toArray 0) → (∀ b o, s.heap.get? b = some o → b ≠ a ∧ h₁.get? b = some o) → SortableO prog w A.in1.in1 { s with heap := h₁ } a zs ltv)
    (fin : ∀ out : List Value, Srtd ltv out → Stb ltv out zs → Q (.ref (s.heap.objs.size + 1)) { s with heap := sortedAll s.heap zs out.toArray }) : wpAny (model prog w) A (call (.builtin "sorted") [.ref t]) Q E s := by
  refine Calls.call_function_entry kind_sorted plain_sorted entry_sorted (args_sorted1 _) ?_
  unfold Builtin.«sorted»
  refine wpAny_bind (m := checkCount "sorted" 1 1 _) (wpAny_pure (wpAny_bind (collT it hz (wpAny_bind (wpAny_newList ?_ hz)))))
  obtain ⟨h1, eh1⟩ : ∃ h1, h1 = (s.heap.push (seqObj "list" #[] 0)).update s.heap.objs.size (Obj.mapSeq (· ++ zs.toArray)) := ⟨_, rfl⟩
  have sz : h1.objs.size = s.heap.objs.size + 1 := by rw [eh1, Heap.size_update, size_push']
  have there : (h1.push (seqObj "list" zs.toArray 0)).get? (s.heap.objs.size + 1) = some (seqObj "list" zs.toArray 0) := by rw [← sz]; exact Heap.get?_push_size _ rfl
  have old : ∀ b o, s.heap.get? b = some o → b ≠ s.heap.objs.size + 1 ∧ (h1.push (seqObj "list" zs.toArray 0)).get? b = some o := fun b o e => by
    have lt := Heap.lt_size e
    refine ⟨Nat.ne_of_lt (Nat.lt_succ_of_lt lt), Heap.get?_push_of_some _ ?_⟩
    rw [eh1, Heap.get?_update_ne _ _ _ _ (Nat.ne_of_lt lt)]
    exact Heap.get?_push_of_some _ e
  rw [← eh1]
  show wpAny _ _ _ _ _ { s with heap := h1.push (seqObj "list" zs.toArray 0) }
  rw [sz]
  refine wpAny_bind (wpAny_holding (wpAny_call_entry slot_list_sort ⟨_, there, rfl⟩ entry_list_sort (list_sort_ord O there hz (fun h2 => hS h2 _ _ there old) fun out a b => ⟨_, rfl, ?_⟩) (args_list_sort _)))
  refine wpAny_pure ⟨_, rfl, ?_⟩
  rw [eh1]
  exact fin out a b
end
open L2
def rSortTup (K : PySem.W.Frag) : List V → Hp → VK → Prop := fun vs H Q => ∃ (a : Addr) (ns : List Int), vs = [V.ref a] ∧ SqT K H a (ns.map V.int) ∧ ∀ (ms : List Int) (p : Addr), ms.Perm ns → ms.Pairwise (· ≤ ·) → H p = none → Q (.ref p) (L2.upd H p (.lst (ms.map V.int)))
theorem cr_sortTup {X : Cx} : CallR X (.builtin "sorted") (rSortTup X.K) := by
  intro pins s σ H vs us Q I r h
  obtain ⟨a, ns, rfl, hs, q⟩ := h
  obtain ⟨its, rv, ⟨o, e1, e2, n, e3⟩, hz⟩ := I.tuple hs
  rw [Vals.ref1 r]
  have ii := rv.ints
  refine sortT_ord swo_int ⟨o, e1, e2, n, e3⟩ (by rw [← rv.length]; exact hz) (fun h2 h₁ a' _ _ => ints_sortable ii h2) fun out g1 g2 => ?_
  obtain ⟨k1, k2, k3⟩ := ints_out ii g1 g2
  obtain ⟨ep, he⟩ := PyProof.Rows.sortedAll_at s.heap its out.toArray
  have ln : ((out.map iv).map V.int).length ≤ sizeLine := by
    rw [List.length_map, k2.length_eq]
    simpa using hz
  exact ⟨.ref _, L2.upd H (s.heap.objs.size + 1) (.lst ((out.map iv).map V.int)), I.laid (t' := s.toks) (fun _ _ => PyProof.Rows.sortedAll_old) (Nat.le_succ _) ⟨ln, out, ep, vals_of_ints k1, he⟩, rfl, q _ _ k2 k3 (I.hok.fresh (Nat.le_succ _))⟩
section
variable {X : Cx} {g : Gm} {l : List Res} {d : D} {p pos : Pos}
theorem ev_sortTup {ns : List Int} {e1 : Expr} (ha : Px X e1 g l (tlE D.int ns)) (hm : X.mg "sorted" = none) (hg : Gl X "sorted" := by rfl) (hs : starEach [e1] X.env = (false, eval e1 X.env) :: starEach [] X.env := by rfl) : EvL X (.Call (.Name "sorted" p) [e1] [] pos) g l ((sortI ns).map D.int) :=
  ev_new (pe_callB cr_sortTup hg hm (by decide +kernel) (pa_wp (es := [e1])) (by decide) (by decide) hs rfl) fun en T σ H Q s k => by
  refine pa_c ha pa_n hs en T σ H _ s fun vs H1 s1 => ?_
  obtain ⟨F, M, q⟩ := s1
  obtain ⟨f, t⟩ := q.tm
  cases f with
  | cons f1 f2 =>
    cases f2
    cases f1 with
    | tup sq f =>
      have ew := f.ints
      subst ew
      refine ⟨_, ns, rfl, ex_t q.exF sq, fun ns' p hp hs' hn => ?_⟩
      rw [sortI_uniq hp hs']
      exact k p _ H1 F M (q.tmp t) (FdAll.ofInts _) hn
theorem px_sortTup {ns : List Int} {e1 : Expr} (ha : Px X e1 g l (tlE D.int ns)) (hm : X.mg "sorted" = none) (hg : Gl X "sorted" := by rfl) (hs : starEach [e1] X.env = (false, eval e1 X.env) :: starEach [] X.env := by rfl) : Px X (.Call (.Name "sorted" p) [e1] [] pos) g l (.lst ((sortI ns).map D.int)) := (ev_sortTup ha hm hg hs).frz
/-- C(..), some of whose arguments own, and are kept -/
theorem ev_makeX {α ι : Type} {ok : α → Prop} {args : α → List D} {own : α → List Res} {post : α → D → List Res → Prop} {C : Addr} {x : Str} {ps : List Str} {k j : Nat} {lr : List Res} {lo : ι → List Res} {Psi : D → List Res → Prop} {ds : ι → List D} {e : Expr} {es : List Expr}
    (G : GloC X.prog X.w X.K X.mg X.base k C x ps (FnX X.K ok args own post noE)) (hr : Room j X.A) (hj : k + 1 ≤ j) (a : ι → Addr → α) (hok : ∀ i q, ok (a i q)) (ha : PaX X (e :: es) g l (fun ds' l' => ∃ i, ds' = ds i ∧ l' = lo i ++ lr))
    (hds : ∀ i q, args (a i q) = .adr q :: ds i) (hown : ∀ i q, own (a i q) = ownI X.K q C [] :: lo i) (hq : ∀ i q d l', post (a i q) d l' → d = .non ∧ Psi (.adr q) (l' ++ lr))
    (hg : Gl X x := by rfl) (hdb : (x == ("__debug__" : Str)) = false := by decide) (he : starEach (e :: es) X.env = (false, eval e X.env) :: starEach es X.env := by rfl) (hpl : (backTo pos (starEach es X.env)).any (·.1) = false := by rfl) :
    Ev X (.Call (.Name x p) (e :: es) [] pos) g l Psi := fun en T σ H Q s kk => by
  obtain ⟨f, fd, F, M, hm, hb⟩ := G
  refine wpE_of (pe_make M F (hr.mono hj) hg hm hb .nil pass0 pa_wp hdb he hpl) ?_
  refine ha en T σ H _ s fun vs ds' l' H1 hp s1 => ?_
  obtain ⟨i, e1, e2⟩ := hp
  subst e1; subst e2
  intro x dx nx ndx ne
  rw [List.append_nil]
  obtain ⟨F1, M1, q1⟩ := s1
  have n2 : (upd H1 dx (.own x)) x = none := by rw [upd_ne (Ne.symm ne)]; exact nx
  have q2 := q1.newO (r := ownI X.K x C []) (A := join (one x (.ins C dx [])) (one dx (.own x))) (H' := upd (upd H1 dx (.own x)) x (.ins C dx [])) ((Ex.new ndx).tr (.new n2))
    (fun y o z => by
      rcases join_some z with w | ⟨w, w'⟩
      · obtain ⟨rfl, rfl⟩ := one_some w; exact upd_same
      · obtain ⟨rfl, rfl⟩ := one_some w'
        rw [upd_ne ne, upd_same])
    (fun y o z => by
      rcases join_some z with w | ⟨w, w'⟩
      · obtain ⟨rfl, rfl⟩ := one_some w; exact nx
      · obtain ⟨rfl, rfl⟩ := one_some w'; exact ndx) ⟨[], dx, ne, .nil, rfl⟩
  have s2 : S X.K en g ((T.and X.K (.ref x) (.adr x)).ands X.K (.ref x :: vs) (args (a i x))) (own (a i x) ++ lr) σ (upd (upd H1 dx (.own x)) x (.ins C dx [])) := by
    rw [hown]
    exact ⟨F1, _, q2.tmp ⟨by rw [hds]; exact .cons (.adr x) q1.tm.1, .adr x, q1.tm.2⟩⟩
  refine FnX.use (a i x) (hok i x) s2 (fun v d l' H' hp s' => ?_) fun _ _ _ _ h => h.elim
  · obtain ⟨e1, e2⟩ := hq i x d l' hp
    subst e1
    obtain ⟨F3, M3, q3⟩ := s'
    have f3 := q3.tm.1
    cases f3
    exact ⟨rfl, kk _ _ _ H' e2 ⟨F3, M3, q3.tmp q3.tm.2⟩⟩
end
end Sx
set_option Elab.async false
set_option linter.all false
set_option maxRecDepth 100000
set_option maxHeartbeats 2000000
/-! What is owned, read as if it were frozen, by an expression that changes nothing of it; owned again behind it. -/
namespace Sx
open PySem L2 PyProof.Rows
def minus (F M : Hp) : Hp := fun a => match M a with | some _ => none | none => F a
theorem minus_some {F M : Hp} {a : Addr} {o : HO} (h : minus F M a = some o) : F a = some o ∧ M a = none := by
  unfold minus at h
  cases q : M a with
  | some u => rw [q] at h; cases h
  | none => rw [q] at h; exact ⟨h, rfl⟩
theorem minus_of {F M : Hp} {a : Addr} {o : HO} (h : F a = some o) (n : M a = none) : minus F M a = some o := by
  unfold minus; rw [n]; exact h
def NoT (M : Hp) : Prop := (∀ x xs, M x ≠ some (.tup xs)) ∧ ∀ x o xs, M x ≠ some (.frz o (.tup xs))
def NtR (l : List Res) : Prop := ∀ F M, Rs l F M → ∀ x o xs, M x ≠ some (.frz o (.tup xs))
def Nt1 (r : Res) : Prop := ∀ F M, r.P F M → ∀ x o xs, M x ≠ some (.frz o (.tup xs))
/-- what stays, whatever lists and the like are taken away -/
def Sf (K : PySem.W.Frag) (d : D) : Prop := ∀ F M v, NoT M → Ex M F → Fd K F v d → Fd K (minus F M) v d
def SfR (K : PySem.W.Frag) (l : List Res) : Prop := ∀ F A M, NoT M → Ex M F → Rs l F A → Rs l (minus F M) A
def Sf1 (K : PySem.W.Frag) (r : Res) : Prop := ∀ F A M, NoT M → Ex M F → r.P F A → r.P (minus F M) A
section
variable {K : PySem.W.Frag} {l : List Res}
theorem sf_non : Sf K .non := fun _ _ _ _ _ h => by cases h; exact .non
theorem sf_bl {b : Bool} : Sf K (.bl b) := fun _ _ _ _ _ h => by cases h; exact .bl b
theorem sf_int {b : Int} : Sf K (.int b) := fun _ _ _ _ _ h => by cases h; exact .int b
theorem sf_str {b : Str} : Sf K (.str b) := fun _ _ _ _ _ h => by cases h; exact .str b
theorem sf_adr {b : Addr} : Sf K (.adr b) := fun _ _ _ _ _ h => by cases h; exact .adr b
theorem sf_all : ∀ {vs : List V} {ds : List D} {F M : Hp}, NoT M → Ex M F → (∀ d ∈ ds, Sf K d) → FdAll K F vs ds → FdAll K (minus F M) vs ds
  | _, _, _, _, _, _, _, .nil => .nil
  | _, _, _, _, n, x, h, .cons a b => .cons (h _ (List.mem_cons_self ..) _ _ _ n x a) (sf_all n x (fun d q => h d (List.mem_cons_of_mem _ q)) b)
theorem sf_fs : ∀ {fs : List (Str × D)} {vs : List (Str × V)} {F M : Hp}, NoT M → Ex M F → (∀ q ∈ fs, Sf K q.2) → FdFs K F vs fs → FdFs K (minus F M) vs fs
  | [], _, _, _, _, _, _, h => by cases h; exact .nil
  | (n, d) :: fs, _, _, _, nt, x, h, q => by
    cases q with
    | cons a b => exact .cons (h _ (List.mem_cons_self ..) _ _ _ nt x a) (sf_fs nt x (fun d q => h d (List.mem_cons_of_mem _ q)) b)
theorem sf_rd {F M : Hp} {a : Addr} {xs : List V} (n : NoT M) (x : Ex M F) (h : Rd F a (.tup xs)) : Rd (minus F M) a (.tup xs) := by
  rcases h with z | ⟨o, z⟩
  · refine .inl (minus_of z ?_)
    cases w : M a with
    | none => rfl
    | some u =>
      have := x a u w
      rw [z] at this
      cases this
      exact absurd w (n.1 a xs)
  · refine .inr ⟨o, minus_of z ?_⟩
    cases w : M a with
    | none => rfl
    | some u =>
      have := x a u w
      rw [z] at this
      cases this
      exact absurd w (n.2 a o xs)
theorem sf_tup {ds : List D} (h : ∀ d ∈ ds, Sf K d) : Sf K (.tup ds) := fun F M v n x q => by
  cases q with
  | tup s a => exact .tup (s.imp (sf_rd n x) id) (sf_all n x h a)
theorem ntr_nil : NtR [] := fun _ M h x o xs e => by
  have h : M = emp := h
  subst h; cases e
theorem ntr_c {r : Res} (h : Nt1 r) (q : NtR l) : NtR (r :: l) := fun F M ⟨A, B, h1, _, h3, h4⟩ x o xs e => by
  subst h1
  rcases join_some e with z | ⟨_, z⟩
  · exact h F A h3 x o xs z
  · exact q F B h4 x o xs z
theorem nt_ownL {p : Addr} {ds : List D} : Nt1 (ownL K p ds) := fun F M ⟨vs, _, m⟩ x o xs e => by
  rw [m] at e; obtain ⟨_, e⟩ := one_some e; cases e
theorem nt_ownI {p C : Addr} {fs : List (Str × D)} : Nt1 (ownI K p C fs) := fun F M ⟨_, _, _, _, m⟩ x o xs e => by
  rw [m] at e
  rcases join_some e with e | ⟨_, e⟩
  · obtain ⟨_, e⟩ := one_some e; cases e
  · obtain ⟨_, e⟩ := one_some e; cases e
theorem sfr_nil : SfR K [] := fun _ _ _ _ _ h => h
theorem sfr_c {r : Res} (h : Sf1 K r) (q : SfR K l) : SfR K (r :: l) := fun F A M n x ⟨B, C, h1, h2, h3, h4⟩ => ⟨B, C, h1, h2, h F B M n x h3, q F C M n x h4⟩
theorem sf_ownL {p : Addr} {ds : List D} (h : ∀ d ∈ ds, Sf K d) : Sf1 K (ownL K p ds) := fun F A M n x ⟨vs, a, e⟩ => ⟨vs, sf_all n x h a, e⟩
theorem sf_ownI {p C : Addr} {fs : List (Str × D)} (h : ∀ q ∈ fs, Sf K q.2) : Sf1 K (ownI K p C fs) := fun F A M n x ⟨vs, dx, m, a, e⟩ => ⟨vs, dx, m, sf_fs n x h a, e⟩
/-- with what l owns, d is d' -/
def Rdz (K : PySem.W.Frag) (l : List Res) (d d' : D) : Prop := ∀ F M v, Dj F M → Rs l F M → Fd K F v d → Fd K (join F M) v d'
def RdA (K : PySem.W.Frag) (l : List Res) (ds ds' : List D) : Prop := ∀ F M vs, Dj F M → Rs l F M → FdAll K F vs ds → FdAll K (join F M) vs ds'
theorem exl {F M : Hp} : Ex F (join F M) := fun _ _ h => join_l h
theorem exr {F M : Hp} (d : Dj F M) : Ex M (join F M) := fun a o h => by rw [join_r (d.sym a o h)]; exact h
theorem rd_rf {d : D} : Rdz K l d d := fun F M v _ _ h => Fd.mono exl _ h
theorem rd_own {k : Nat} {p : Addr} {ds : List D} (h : l[k]? = some (ownL K p ds)) : Rdz K l (.adr p) (.lst ds) := fun F M v dj r f => by
  cases f
  obtain ⟨vs, f, m⟩ := Rs.own r h (Ex.rf (A := M))
  exact .lst (exr dj _ _ m) (FdAll.mono exl _ f)
theorem rda_nil : RdA K l [] [] := fun _ _ _ _ _ h => by cases h; exact .nil
theorem rda_c {d d' : D} {ds ds' : List D} (h : Rdz K l d d') (q : RdA K l ds ds') : RdA K l (d :: ds) (d' :: ds') := fun F M vs dj r f => by
  cases f with
  | cons a b => exact .cons (h F M _ dj r a) (q F M _ dj r b)
theorem rd_lst {ds ds' : List D} (h : RdA K l ds ds') : Rdz K l (.lst ds) (.lst ds') := fun F M v dj r f => by
  cases f with
  | lst s a => exact .lst (join_l s) (h F M _ dj r a)
theorem rd_tup {ds ds' : List D} (h : RdA K l ds ds') : Rdz K l (.tup ds) (.tup ds') := fun F M v dj r f => by
  cases f with
  | tup s a => exact .tup (ex_t exl s) (h F M _ dj r a)
def RdG (K : PySem.W.Frag) (l : List Res) (g g' : Gm) : Prop := ∀ F M σ, Dj F M → Rs l F M → Sl K F g σ → Sl K (join F M) g' σ
theorem rdg_rf {g : Gm} : RdG K l g g := fun F M σ _ _ h => Sl.mono exl h
theorem Sl.put : ∀ {g : Gm} {σ : L2.St} {F F' : Hp} {i : Nat} {d d' : D}, Ex F F' → Sl K F g σ → Sx.nth g i = some d → (∀ v, Fd K F v d → Fd K F' v d') → Sl K F' (g.set i (some d')) σ
  | _, _, _, _, _, _, _, _, .nil, _, _ => .nil
  | _, _, _, _, 0, _, _, _, .any _, e, _ => by cases e
  | _, _, _, _, i + 1, _, _, x, .any h, e, k => .any (Sl.put x h e k)
  | _, _, _, _, 0, _, _, x, .cons a h, e, k => by cases e; exact .cons (k _ a) (Sl.mono x h)
  | _, _, _, _, i + 1, _, _, x, .cons a h, e, k => .cons (Fd.mono x _ a) (Sl.put x h e k)
theorem rdg_1 {g : Gm} {i : Nat} {d d' : D} (e : Sx.nth g i = some d) (h : Rdz K l d d') : RdG K l g (g.set i (some d')) := fun F M σ dj r s => Sl.put exl s e fun v f => h F M v dj r f
theorem Sl.put2 : ∀ {g : Gm} {σ : L2.St} {F : Hp} {i : Nat} {d' : D} {v : V}, Sl K F g σ → σ[i]? = some (some v) → Fd K F v d' → Sl K F (g.set i (some d')) σ
  | _, _, _, _, _, _, .nil, _, _ => .nil
  | _, _, _, 0, _, _, .any h, e, k => by simp at e; subst e; exact .cons k h
  | _, _, _, i + 1, _, _, .any h, e, k => .any (Sl.put2 h (by simpa using e) k)
  | _, _, _, 0, _, _, .cons a h, e, k => by simp at e; subst e; exact .cons k h
  | _, _, _, i + 1, _, _, .cons a h, e, k => .cons a (Sl.put2 h (by simpa using e) k)
theorem rdg_c {g g' : Gm} {i : Nat} {d d' : D} (q : RdG K l g g') (e : Sx.nth g i = some d) (h : Rdz K l d d') : RdG K l g (g'.set i (some d')) := fun F M σ dj r s => by
  obtain ⟨v, h1, h2⟩ := Sl.nth s e
  exact Sl.put2 (q F M σ dj r s) h1 (h F M v dj r h2)
/-- an instance with its fields, frozen -/
theorem rd_ins {k : Nat} {p C : Addr} {fs fs' : List (Str × D)} (h : l[k]? = some (ownI K p C fs)) (hf : ∀ F M vs, Dj F M → Rs l F M → FdFs K F vs fs → FdFs K (join F M) vs fs') : Rdz K l (.adr p) (.ins C fs') := fun F M v dj r f => by
  cases f
  have r0 := r
  obtain ⟨A, B, rfl, d2, ⟨vs, dx, n, f, rfl⟩, _⟩ := Rs.at h r
  exact .ins (exr dj _ _ (join_l (join_l one_same))) (hf F _ vs dj r0 f)
theorem rdf_nil : ∀ F M (vs : List (Str × V)), Dj F M → Rs l F M → FdFs K F vs [] → FdFs K (join F M) vs ([] : List (Str × D)) := fun _ _ _ _ _ h => by cases h; exact .nil
theorem rdf_c {n : Str} {d d' : D} {fs fs' : List (Str × D)} (h : Rdz K l d d') (q : ∀ F M vs, Dj F M → Rs l F M → FdFs K F vs fs → FdFs K (join F M) vs fs') : ∀ F M vs, Dj F M → Rs l F M → FdFs K F vs ((n, d) :: fs) → FdFs K (join F M) vs ((n, d') :: fs') := fun F M vs dj r f => by
  cases f with
  | cons a b => exact .cons (h F M _ dj r a) (q F M _ dj r b)
end
section
variable {X : Cx} {e : Expr} {g g' : Gm} {l : List Res}
theorem px_thaw {Psi : D → List Res → Prop} {d' : D} (hl : NtR l) (hg : RdG X.K l g g') (he : Ev X e g' [] Psi) (hP : ∀ d0 l0, Psi d0 l0 → Sf X.K d0 ∧ SfR X.K l0 ∧ Rdz X.K l0 d0 d') : Px X e g l d' := fun en T σ H Q s k => by
  obtain ⟨F, M, a⟩ := s
  have nt : NoT M := ⟨a.rs.nt, hl F M a.rs⟩
  have s0 : S X.K en g' (T.ex (join F M)) [] σ H := ⟨join F M, emp, {
    exF := Ex.join a.exF a.exM, exM := (fun _ _ h => nomatch h), dj := Dj.emp _, eF := a.eF.tr exl,
    nF := (fun x o h => by
      rcases join_some h with q | ⟨_, q⟩
      · exact a.nF x o q
      · rcases a.nM x o q with w | w
        · exact .inr (.inl w)
        · exact .inr (.inr (.inl w))),
    nM := (fun _ _ h => nomatch h), fr := a.fr, sl := hg F M σ a.dj a.rs a.sl, tm := ⟨Ex.rf, T.mono exl a.tm⟩, rs := rfl }⟩
  refine he en _ σ H _ s0 fun v d0 l0 H1 hp s1 => ?_
  obtain ⟨F1, A, b⟩ := s1
  obtain ⟨fd, ex, tm⟩ := b.tm
  obtain ⟨h1, h2, h3⟩ := hP d0 l0 hp
  have exM : Ex M F1 := (exr a.dj).tr ex
  have exF : Ex F (minus F1 M) := fun x o h => minus_of (ex x o (join_l h)) (a.dj x o h)
  have dA : Dj (minus F1 M) A := fun x o h => b.dj x o (minus_some h).1
  have exN : Ex F (join (minus F1 M) A) := exF.tr exl
  exact k v H1 ⟨join (minus F1 M) A, M, {
    exF := Ex.join (fun x o h => b.exF x o (minus_some h).1) b.exM, exM := exM.tr b.exF,
    dj := (Dj.joinL (fun x o h => (minus_some h).2) (fun x o h => by
      cases w : M x with
      | none => rfl
      | some u => rw [b.dj x u (exM x u w)] at h; cases h)),
    eF := a.eF.tr exN,
    nF := (fun x o h => by
      rcases join_some h with q | ⟨_, q⟩
      · exact b.nF x o (minus_some q).1
      · rcases b.nM x o q with w | w
        · exact .inr (.inl w)
        · exact .inr (.inr (.inl w))),
    nM := a.nM, fr := b.fr, sl := Sl.mono exN a.sl, tm := ⟨h3 _ _ _ dA (h2 _ _ _ nt exM b.rs) (h1 _ _ _ nt exM fd), T.mono exN a.tm⟩, rs := Rs.mono exN a.rs }⟩
theorem px_thawP {d : D} (hl : NtR l) (hg : RdG X.K l g g') (he : Px X e g' [] d) (hs : Sf X.K d) : Px X e g l d := px_thaw hl hg he.drop fun d0 l0 ⟨e1, e2⟩ => by
  subst e1; subst e2
  exact ⟨hs, sfr_nil, rd_rf⟩
theorem ts_thaw {b : Bool} (hg : RdG X.K l g g') (he : Ts X e g' [] b) : Ts X e g l b := fun en T σ H Q s k => by
  obtain ⟨F, M, a⟩ := s
  have s0 : S X.K en g' (T.ex (join F M)) [] σ H := ⟨join F M, emp, {
    exF := Ex.join a.exF a.exM, exM := (fun _ _ h => nomatch h), dj := Dj.emp _, eF := a.eF.tr exl,
    nF := (fun x o h => by
      rcases join_some h with q | ⟨_, q⟩
      · exact a.nF x o q
      · rcases a.nM x o q with w | w
        · exact .inr (.inl w)
        · exact .inr (.inr (.inl w))),
    nM := (fun _ _ h => nomatch h), fr := a.fr, sl := hg F M σ a.dj a.rs a.sl, tm := ⟨Ex.rf, T.mono exl a.tm⟩, rs := rfl }⟩
  refine he en _ σ H _ s0 fun H1 s1 => ?_
  obtain ⟨F1, A, b⟩ := s1
  obtain ⟨ex, tm⟩ := b.tm
  have exM : Ex M F1 := (exr a.dj).tr ex
  have exF : Ex F (minus F1 M) := fun x o h => minus_of (ex x o (join_l h)) (a.dj x o h)
  exact k H1 ⟨minus F1 M, M, {
    exF := (fun x o h => b.exF x o (minus_some h).1), exM := exM.tr b.exF,
    dj := (fun x o h => (minus_some h).2),
    eF := a.eF.tr exF,
    nF := (fun x o q => b.nF x o (minus_some q).1),
    nM := a.nM, fr := b.fr, sl := Sl.mono exF a.sl, tm := T.mono exF a.tm, rs := Rs.mono exF a.rs }⟩
end
end Sx
set_option Elab.async false
set_option linter.all false
set_option maxRecDepth 100000
set_option maxHeartbeats 4000000
/-! xs.index(b), xs a list of truths; len(set(xs)), xs a list of texts. -/
namespace Sx
open PySem PySem.Spec PyProof.Rows L2
def idxB (v : Bool) : List Bool → Nat
  | [] => 0
  | x :: xs => if x = v then 0 else idxB v xs + 1
theorem idxB_ok {v : Bool} : ∀ {ns : List Bool}, v ∈ ns → ns[idxB v ns]? = some v ∧ ∀ (m : Nat) (z : Bool), m < idxB v ns → ns[m]? = some z → z ≠ v
  | [], h => by cases h
  | x :: xs, h => by
    unfold idxB
    by_cases e : x = v
    · rw [if_pos e]
      exact ⟨by rw [e]; rfl, fun m z hm => by omega⟩
    · rw [if_neg e]
      obtain ⟨h1, h2⟩ := idxB_ok ((List.mem_cons.mp h).resolve_left fun z => e z.symm)
      refine ⟨h1, fun m z hm hz => ?_⟩
      cases m with
      | zero => cases hz; exact e
      | succ m => exact h2 m z (by omega) hz
section
variable {X : Cx} {g : Gm} {l : List Res} {d : D} {o e : Expr} {apos pos : Pos}
theorem eqV_bb (a b : Bool) : eqV (.bl a) (.bl b) = (a == b) := by cases a <;> cases b <;> rfl
theorem o_idxB {ns : List Bool} {v : Bool} (hd : Lq X.K l d (ns.map D.bl)) (hv : v ∈ ns) : OpM X.K l (rIndex X.K) d [.bl v] (.int (idxB v ns : Int)) := fun F M H u vs Q eF eM dj rs f1 f2 k => by
  obtain ⟨a, ws, rfl, sq, f⟩ := hd.get eF eM rs f1
  have ew := f.bls
  subst ew
  cases f2 with
  | cons g1 g2 =>
    cases g2
    cases g1
    obtain ⟨h1, h2⟩ := idxB_ok hv
    refine ⟨a, ns.map V.bl, .bl v, idxB v ns, .bl v, rfl, rfl, sq, rfl, ?_, by rw [List.getElem?_map, h1]; rfl, by rw [eqV_bb]; exact beq_iff_eq.mpr rfl, fun m z hm hz => ?_, k _ F H (New.rf eF) (.int _)⟩
    · rw [List.all_map]
      exact List.all_eq_true.mpr fun _ _ => rfl
    · rw [List.getElem?_map] at hz
      cases q : ns[m]? with
      | none => rw [q] at hz; cases hz
      | some y =>
        rw [q] at hz
        cases hz
        rw [eqV_bb]
        exact beq_eq_false_iff_ne.mpr (h2 m y hm q)
theorem px_indexB {ns : List Bool} {v : Bool} (ho : Px X o g l d) (hd : Lq X.K l d (ns.map D.bl)) (hi : Px X e g l (.bl v)) (hv : v ∈ ns) (hs : starEach [e] X.env = (false, eval e X.env) :: starEach [] X.env := by rfl)
    (hp : PE X (.Call (.Attribute o "index" apos) [e] [] pos) (tBM X.K "list" (rIndex X.K) (wpE X o) (wpA X [e])) := by exact pe_bm PySem.F.plainAttrs_list PySem.F.slot_list_index PySem.F.type_list_index mt_index pe_wp pa_wp) :
    Px X (.Call (.Attribute o "index" apos) [e] [] pos) g l (.int (idxB v ns : Int)) := px_m hp ho (pa_c hi pa_n hs) (o_idxB hd hv) fun F M H u eF eM dj rs f => by
  obtain ⟨a, ws, rfl, sq, _⟩ := hd.get eF eM rs f
  exact .inl ⟨rfl, _, sq⟩
end
theorem nn_tup {ds : List D} {p : PyData} (h : (D.tup ds).py = some p) : PyData.eqv .none p = false ∧ PyData.eqv p .none = false := by
  unfold D.py at h
  obtain ⟨ps, _, rfl⟩ := Option.map_eq_some_iff.mp h
  exact ⟨rfl, rfl⟩
/-! a loop with ways out in a def that may run off its end -/
section
variable {X : Cx} {W : WX} {g : Gm} {l : List Res} {body rest : List Stmt} {pos : Pos} {Rr S1 α : Type}
theorem bo_forVv {RT : Rr → Re} {tg iter : Expr} {lk : List Res} {gt : TG} {is : List Nat} {xs : List α} {step : S1 → α → Cf Rr S1 S1} {s0 : S1} {k : S1 → Rr} (enc : α → D) (G : S1 → Gm) (R : S1 → List Res) (J : Nat → S1 → Prop) (Jb : S1 → Prop) (hp : PassesOwn (model X.prog X.w) X.A X.env X.xe) (hc : X.calm = true) (hi : ItwP X tg iter g l lk (xs.map enc)) (hg : PG X tg gt)
    (h0 : Wk g (G s0)) (hl : l = R s0) (j0 : J 0 s0)
    (hs : ∀ i x s, xs[i]? = some x → (loop step (xs.drop i) s : Cf Rr Empty S1) = loop step xs s0 → J i s → ((∀ s', step s x = .nx s' → J (i + 1) s') ∧ (∀ s', step s x = .ct s' → J (i + 1) s') ∧ ∀ s', step s x = .bk s' → Jb s') ∧ ∃ es, Tg X.K gt is (enc x) es ∧ Bo X W body (sets (G s) is es) (R s) (Ou RT G R (NxP G R)) (step s x))
    (jb : ∀ s, J xs.length s → Jb s) (h : ∀ s, (loop step xs s0 : Cf Rr Empty S1) = .nx s → Jb s → Bo X W rest (G s) (R s) (Rv RT) (k s)) (hf : ∀ x, foldedSetIterable iter X.env x = pure x := by intro _; rfl) (hk : ∀ s, SubR (R s) lk := by intro s; first | exact subr0 | exact subr1 0 rfl | exact subr1 1 rfl | exact subr1 2 rfl | exact subr1 3 rfl | exact subr1 4 rfl | exact subr1 5 rfl | exact subr2 0 0 rfl rfl | exact subr2 1 0 rfl rfl | exact subr2 0 1 rfl rfl | exact subr2 1 1 rfl rfl | exact subr2 2 0 rfl rfl | exact subr2 2 1 rfl rfl) :
    Bo X W (.For tg iter body [] pos :: rest) g l (Rv RT) (bndV (loop step xs s0) k) := by
  subst hl
  refine blk_for (is := is) (fun i g' l' => (i = 0 ∧ g' = g ∧ l' = R s0) ∨ ∃ s, (loop step (xs.drop i) s : Cf Rr Empty S1) = loop step xs s0 ∧ J i s ∧ g' = G s ∧ l' = R s) hp hc hi hg (.inl ⟨rfl, rfl, rfl⟩) (fun i d g' l' hd hI => ?_) (fun g' l' hI => ?_) hf (fun i g' l' hI => by
      rcases hI with ⟨_, _, rfl⟩ | ⟨s, _, _, _, rfl⟩
      · exact hk _
      · exact hk _)
  · rw [List.getElem?_map] at hd
    cases q : xs[i]? with
    | none => rw [q] at hd; cases hd
    | some x =>
      rw [q] at hd
      cases hd
      obtain ⟨s, e1, e2, e3, e4⟩ : ∃ s, (loop step (xs.drop i) s : Cf Rr Empty S1) = loop step xs s0 ∧ J i s ∧ Wk g' (G s) ∧ l' = R s := by
        rcases hI with ⟨rfl, rfl, rfl⟩ | ⟨s, h1, h2, rfl, rfl⟩
        · exact ⟨s0, rfl, j0, h0, rfl⟩
        · exact ⟨s, h1, h2, .rf, rfl⟩
      subst e4
      obtain ⟨⟨h1, h1', h1b⟩, es, h2, h3⟩ := hs i x s q e1 e2
      refine ⟨es, h2, ?_⟩
      rw [loop_step q] at e1
      refine Blk.weak e3.sets ?_
      unfold Bo at h3
      generalize step s x = o at e1 h1 h1' h1b h3
      cases o with
      | nx s' => exact h3.imp (fun g2 l2 h => .inr ⟨s', e1, h1 s' rfl, h.1, h.2⟩) (fun _ _ h => h.elim) (fun _ _ h => h.elim) (fun _ _ h => h.elim) (fun _ _ _ _ h => h.elim)
      | ct s' => exact h3.imp (fun g2 l2 h => h.elim) (fun _ _ h => h.elim) (fun _ _ h => h.elim) (fun _ _ h => .inr ⟨s', e1, h1' s' rfl, h.1, h.2⟩) (fun _ _ _ _ h => h.elim)
      | rt r =>
        have e1 : (.rt r : Cf Rr Empty S1) = loop step xs s0 := e1
        rw [← e1]
        exact h3.imp (fun g2 l2 h => h.elim) (fun _ _ h => h) (fun _ _ h => h.elim) (fun _ _ h => h.elim) (fun _ _ _ _ h => h)
      | bk s' =>
        have e1 : (.nx s' : Cf Rr Empty S1) = loop step xs s0 := e1
        have z := h s' e1.symm (h1b s' rfl)
        rw [← e1]
        exact h3.imp (fun g2 l2 h => h.elim) (fun _ _ h => h.elim) (fun g2 l2 hh => by obtain ⟨w, q2⟩ := hh; subst w; subst q2; exact z) (fun _ _ h => h.elim) (fun _ _ _ _ h => h.elim)
  · rw [List.length_map] at hI
    obtain ⟨s, e1, e2, e3, e4⟩ : ∃ s, (loop step (xs.drop xs.length) s : Cf Rr Empty S1) = loop step xs s0 ∧ J xs.length s ∧ Wk g' (G s) ∧ l' = R s := by
      rcases hI with ⟨h1, rfl, rfl⟩ | ⟨s, h1, h2, rfl, rfl⟩
      · have : xs = [] := List.eq_nil_of_length_eq_zero h1
        subst this
        exact ⟨s0, rfl, j0, h0, rfl⟩
      · exact ⟨s, h1, h2, .rf, rfl⟩
    rw [loop_end] at e1
    subst e4
    have z := h s e1.symm (jb s e2)
    refine Blk.weak (g' := G s) e3 ?_
    rw [← e1]
    exact z
end
section
variable {X : Cx} {g : Gm} {l : List Res} {d : D} {p pos p2 pos2 : Pos}
def rLenSt (w : World) : List V → Hp → VK → Prop := fun vs H Q => ∃ (a : Addr) (ks : List Str), vs = [V.ref a] ∧ H a = some (SetSO w a ks) ∧ Q (.int (ks.length : Nat)) H
theorem cr_lenSt : CallR X (.builtin "len") (rLenSt X.w) := by
  intro pins s σ H vs us Q I r h
  obtain ⟨a, ks, rfl, ha, q⟩ := h
  rw [Vals.ref1 r]
  obtain ⟨o, es, ep, t, ho, hex, hd, good, pm, nd, hb, hf, _⟩ := (I.hok a _ ha).1
  have hn : es.size = ks.length := by rw [← pm.length_eq, List.length_map, Array.length_toList]
  exact call_len_set ho hex hd hf (by unfold scanBound at hb; omega) ⟨.int ks.length, H, I.tok _, ⟨_, by rw [hn]⟩, q⟩
/-- how many texts, each once -/
theorem px_lenSetS {xs : List Str} {e1 : Expr} (ha : Px X e1 g l (.lst (xs.map D.str))) (hm : X.mg "len" = none) (hm2 : X.mg "set" = none) (hz : xs.length ≤ 1000) (hc : X.calm = true := by rfl)
    (hg : Gl X "len" := by rfl) (hg2 : Gl X "set" := by rfl) (hs : starEach [e1] X.env = (false, eval e1 X.env) :: starEach [] X.env := by rfl)
    (hs2 : starEach [.Call (.Name "set" p2) [e1] [] pos2] X.env = (false, eval (.Call (.Name "set" p2) [e1] [] pos2) X.env) :: starEach [] X.env := by rfl) : Px X (.Call (.Name "len" p) [.Call (.Name "set" p2) [e1] [] pos2] [] pos) g l (.int ((setS xs).length : Int)) := fun en T σ H Q s k =>
  wpE_of (pe_callB cr_lenSt hg hm (by decide +kernel) (pa_cons (pe_callTy (cr_setSt hc) hg2 hm2 (by decide +kernel) (pa_wp (es := [e1])) (by decide) (by decide) hs rfl) pa_nil hs2) (by decide) (by decide) hs2 rfl) (by
  refine pa_c ha pa_n hs en T σ H _ s fun vs H1 s1 => ?_
  obtain ⟨F, M, q⟩ := s1
  obtain ⟨f, t⟩ := q.tm
  cases f with
  | cons f1 f2 =>
    cases f2
    cases f1 with
    | @lst a ws _ hq fa =>
    have ew := fa.strs
    subst ew
    refine ⟨a, xs, rfl, SqL.of (q.exF _ _ hq), hz, fun b hb => ?_⟩
    have n : New F H1 F (L2.upd H1 b (SetSO X.w b (gather [] xs))) := New.grow q.exF (Ex.new hb)
    refine ⟨b, _, rfl, upd_same, ?_⟩
    have e : (gather [] xs).length = (setS xs).length := ((isort_perm _).length_eq).symm
    rw [e]
    exact k _ _ ⟨F, M, ((q.tmp t).new n).tmp ⟨.int _, t⟩⟩)
end
end Sx
set_option Elab.async false
set_option linter.all false
set_option maxRecDepth 100000
set_option maxHeartbeats 4000000
/-! List comprehensions whose element changes what is owned. -/
namespace Sx
open PySem L2
def mapS {α β σ : Type} (F : σ → α → β × σ) : List α → σ → List β × σ
  | [], s => ([], s)
  | x :: xs, s => ((F s x).1 :: (mapS F xs (F s x).2).1, (mapS F xs (F s x).2).2)
theorem mapS_len {α β σ : Type} {F : σ → α → β × σ} : ∀ {xs : List α} {s : σ}, (mapS F xs s).1.length = xs.length
  | [], _ => rfl
  | x :: xs, s => by
    show (_ :: _).length = _
    rw [List.length_cons, List.length_cons, mapS_len]
theorem mapS_take {α β σ : Type} {F : σ → α → β × σ} : ∀ {xs : List α} {s : σ} {i : Nat} {x : α}, xs[i]? = some x → (mapS F (xs.take (i + 1)) s).2 = (F (mapS F (xs.take i) s).2 x).2 ∧ (mapS F xs s).1[i]? = some (F (mapS F (xs.take i) s).2 x).1
  | y :: ys, s, 0, x, h => by
    cases h
    exact ⟨rfl, rfl⟩
  | y :: ys, s, i + 1, x, h => by
    have ih := mapS_take (F := F) (xs := ys) (s := (F s y).2) (i := i) (x := x) h
    exact ⟨ih.1, ih.2⟩
section
variable {X : Cx} {W : WX} {g g' : Gm} {l l' : List Res} {Φ : Po} {e e2 a b c o : Expr} {es : List Expr} {d d1 d2 d3 : D} {pos p p2 : Pos} {rest : List Stmt}
/-- a part that is owned and not touched, what else is owned may change -/
theorem S.frG {K : PySem.W.Frag} {en : En} {T : Tm} {r : Res} {σ : L2.St} {H : Hp} (s : S K en g T (r :: l) σ H) : ∃ en', S K en' g T l σ H ∧ ∀ {T' : Tm} {l' : List Res} {H' : Hp} {g' : Gm} {σ' : L2.St}, S K en' g' T' l' σ' H' → S K en g' T' (r :: l') σ' H' := by
  obtain ⟨F, M, q⟩ := s
  obtain ⟨A, B, rfl, dj, p, rs⟩ := q.rs
  refine ⟨⟨F, B, H⟩, ⟨F, B, At.entry q.exF (q.exM.joinR dj) (Dj.r dj q.dj.sym).sym q.sl q.tm rs⟩, fun {T'} {l'} {H'} {g'} {σ'} ⟨F2, M2, b⟩ => ?_⟩
  have e : join A B = join B A := dj.comm
  rw [e] at q
  have z := q.frame (lB := [r]) dj.sym ⟨A, emp, (join_emp A).symm, Dj.emp A, p, rfl⟩ b
  have z2 : At K en g' T' (l' ++ [r]) σ' H' F2 (join M2 A) := (z.tmp b.tm).slots b.sl
  exact S.perm (List.perm_append_singleton r l') ⟨F2, _, z2⟩
theorem Ev.frG {r : Res} {Psi : D → List Res → Prop} (h : Ev X e g l Psi) : Ev X e g (r :: l) (fun d l' => ∃ l1, l' = r :: l1 ∧ Psi d l1) := fun en T σ H Q s k => by
  obtain ⟨en', s', back⟩ := s.frG
  exact h en' T σ H Q s' fun v d l' H' p s2 => k v d (r :: l') H' ⟨l', rfl, p⟩ (back s2)
theorem lc_readS {lf : Nat → List Res} {lk : List Res} {own : List (Str × Nat)} {gt : TG} {is : List Nat} {ds rs : List D} {wi : TI} {te : TE} {tt : TT}
    (hw : ∀ en T σ H (R : It → Hp → Prop), S X.K en g T (lf 0) σ H → (∀ J H1 F M, At X.K en g T (lf 0) σ H1 F M → JG X.K lk F J ds → R J H1) → wi σ H R) (hk : ∀ i, SubR (lf i) lk)
    (his : ∀ i ∈ is, i ∈ own.map (·.2)) (hlen : rs.length = ds.length) (hz : rs.length ≤ sizeLine) (ht : ∀ σ H (Q : Bool → Hp → Prop), Q true H → tt σ H Q)
    (hs : ∀ (i : Nat) (d : D), ds[i]? = some d → ∃ es r, Tg X.K gt is d es ∧ rs[i]? = some r ∧
      (∀ r0 en T σ H (Q : VK), S X.K en (sets (wipeG g (own.map (·.2))) is es) T (r0 :: lf i) σ H → (∀ v H', S X.K en (sets (wipeG g (own.map (·.2))) is es) (T.and X.K v r) (r0 :: lf (i + 1)) σ H' → Q v H') → te σ H Q))
    {en : En} {T : Tm} {σ : L2.St} {H : Hp} {Q : VK} (s : S X.K en g T (lf 0) σ H) (kk : ∀ p H', S X.K en g T (ownL X.K p rs :: lf ds.length) σ H' → Q (.ref p) H') : tLc wi gt tt te (own.map (·.2)) σ H Q := by
  refine hw en T σ H _ s fun J H1 F0 M0 q0 jg => ?_
  intro Dl hD
  refine ⟨fun i m H' => i + m = ds.length ∧ S X.K en (wipeG g (own.map (·.2))) ((T.sl X.K g σ).ex F0) (ownL X.K Dl (rs.take i) :: lf i) (L2.wipe σ (own.map (·.2))) H', ⟨ds.length, by simp, ?_⟩, fun i m H' hW => ?_⟩
  · have q1 := q0.newO (r := ownL X.K Dl []) (A := one Dl (.lst [])) (H' := upd H1 Dl (.lst [])) (.new hD) (fun x o z => by obtain ⟨rfl, rfl⟩ := one_some z; exact upd_same) (fun x o z => by obtain ⟨rfl, rfl⟩ := one_some z; exact hD) ⟨[], .nil, rfl⟩
    rw [List.take_zero]
    exact ⟨F0, _, (q1.tmp (T' := (T.sl X.K g σ).ex F0) ⟨.rf, q0.sl, q0.tm⟩).slots (q0.sl.wipe _)⟩
  · obtain ⟨em, F, M, q⟩ := hW
    obtain ⟨junk0, pk0⟩ := id (hk i)
    obtain ⟨Mk, rk, ek⟩ := Rs.sub (lk := lk) ⟨junk0 ++ [ownL X.K Dl (rs.take i)], by
      have z := (pk0.cons (ownL X.K Dl (rs.take i))).trans (List.perm_append_comm (l₁ := [_]))
      rw [← List.append_assoc]; exact z⟩ q.rs q.exM
    obtain ⟨jgo, jst, jy⟩ := jg F Mk H' q.tm.1 q.exF ek rk
    cases m with
    | zero =>
      have e : i = ds.length := by omega
      subst e
      refine .inl ⟨jst, kk Dl H' ⟨F, M, ?_⟩⟩
      rw [List.take_of_length_le (by omega)] at q
      exact (q.tmp (T' := T) q.tm.2.2).slots q.tm.2.1
    | succ m =>
      have hi : i < ds.length := by omega
      refine .inr ⟨jgo i hi, fun H2 => S X.K en (wipeG g (own.map (·.2))) ((T.sl X.K g σ).ex F0) (ownL X.K Dl (rs.take (i + 1)) :: lf (i + 1)) (L2.wipe σ (own.map (·.2))) H2, fun H2 h => ⟨m, by omega, by omega, h⟩, fun x H2 hy => ?_⟩
      obtain ⟨es, r, htg, hr, he⟩ := hs i ds[i] (List.getElem?_eq_getElem hi)
      obtain ⟨F2, nw, fx⟩ := jy i ds[i] x H2 (List.getElem?_eq_getElem hi) hy
      have q2 := q.new nw
      refine htg F2 H2 x _ _ q2.exF fx fun vs fvs => ?_
      refine ⟨by rw [wipe_sets his, wipe_wipe], ?_⟩
      have et : rs.take (i + 1) = rs.take i ++ [r] := by
        rw [List.take_add_one, hr]; rfl
      refine ht _ H2 _ ?_
      show te _ H2 _
      refine he _ en ((((T.sl X.K g σ).ex F0)).sl X.K (wipeG g (own.map (·.2))) (L2.wipe σ (own.map (·.2)))) _ H2 _ ⟨F2, M, (q2.tmp (T' := (((T.sl X.K g σ).ex F0)).sl X.K (wipeG g (own.map (·.2))) (L2.wipe σ (own.map (·.2)))) ⟨q2.sl, q2.tm⟩).slots (q2.sl.sets fvs)⟩ fun v H4 s4 => ?_
      obtain ⟨F4, M4, q4⟩ := s4
      obtain ⟨ws, fw, hp⟩ := q4.rs.own (k := 0) rfl q4.exM
      refine ⟨ws, hp, ?_, ?_⟩
      · rw [fw.length, List.length_take]
        omega
      · obtain ⟨M5, q5⟩ := (q4.tmp q4.tm.2).putL (k := 0) rfl (fw.app (.cons q4.tm.1 .nil))
        rw [et]
        exact ⟨F4, M5, (q5.tmp q5.tm.2).slots q5.tm.1⟩
/-- [elt for tg in iter], elt changing what is owned -/
theorem ev_lcS {α β σ : Type} {tg iter elt : Expr} {scope : Scope} {own : List (Str × Nat)} {lk : List Res} {gt : TG} {is : List Nat} {xs : List α} (enc : α → D) (encR : β → D) (F : σ → α → β × σ) (R : σ → List Res) (s0 : σ) (J : Nat → σ → Prop) (j0 : J 0 s0) (hc : X.calm = true) (hN : X.N.Nodup) (hi : ItwP X tg iter g (R s0) lk (xs.map enc)) (ok : BlkOk X.N X.env.scope scope own)
    (hg : Blkc X scope fun Y => PG Y tg gt) (his : ∀ i ∈ is, i ∈ own.map (·.2)) (hz : xs.length ≤ 10000)
    (hs : ∀ (i : Nat) (x : α) (s : σ), xs[i]? = some x → J i s → J (i + 1) (F s x).2 ∧ ∃ es, Tg X.K gt is (enc x) es ∧ Blkc X scope fun Y => Ev Y elt (sets (wipeG g (own.map (·.2))) is es) (R s) (fun d l' => d = encR (F s x).1 ∧ l' = R (F s x).2)) (hf : ∀ x, foldedSetIterable iter X.env x = pure x := by intro _; rfl) (hk : ∀ s, SubR (R s) lk := by intro s; first | exact subr0 | exact subr1 0 rfl | exact subr1 1 rfl) :
    Ev X (.ListComp elt [⟨tg, iter, [], 0⟩] scope pos) g (R s0) (fun d' l' => ∃ p, d' = .adr p ∧ l' = ownL X.K p ((mapS F xs s0).1.map encR) :: R (mapS F xs s0).2) := fun en T σ H Q s k => by
  obtain ⟨wi, pi, hw⟩ := hi
  have hJ : ∀ i, i ≤ xs.length → J i (mapS F (xs.take i) s0).2 := fun i => by
    induction i with
    | zero => exact fun _ => j0
    | succ i ih =>
      intro hl
      have hx : xs[i]? = some xs[i] := List.getElem?_eq_getElem (by omega)
      rw [(mapS_take hx).1]
      exact (hs i _ _ hx (ih (by omega))).1
  refine wpE_of (pe_lc hc hN pi ok hg (fun _ _ _ _ _ => pts_nil) teB_pe hf) ?_
  refine lc_readS (lf := fun i => R (mapS F (xs.take i) s0).2) (rs := (mapS F xs s0).1.map encR) hw (fun i => hk _) his (by rw [List.length_map, List.length_map, mapS_len]) (by rw [List.length_map, mapS_len]; exact Nat.le_trans hz (by decide)) (fun σ H Q q => q) (fun i d hd => ?_) s fun p H' s' => ?_
  · rw [List.getElem?_map] at hd
    obtain ⟨x, hx, rfl⟩ := Option.map_eq_some_iff.mp hd
    have hl := (List.getElem?_eq_some_iff.mp hx).1
    obtain ⟨m1, m2⟩ := mapS_take (F := F) (s := s0) hx
    obtain ⟨_, es, h1, h2⟩ := hs i x _ hx (hJ i (by omega))
    refine ⟨es, _, h1, by rw [List.getElem?_map, m2]; rfl, fun r0 en T σ H Q s kk => ?_⟩
    intro s0' H0 C cl fp
    refine (h2 s0' H0 C cl fp).frG en T σ H Q s fun v d l' H' ⟨l1, e1, e2, e3⟩ s2 => kk v H' ?_
    subst e2
    rw [e1, e3, ← m1] at s2
    exact s2
  · rw [List.length_map, List.take_length] at s'
    obtain ⟨F, M, q⟩ := s'
    exact k _ _ _ H' ⟨p, rfl, rfl⟩ ⟨F, M, q.tmp ⟨.adr p, q.tm⟩⟩
variable {Sx1 : Type} {Om : Sx1 → Po}
/-- x = [..], on one line -/
theorem bo_lcS {α β σ : Type} {tg iter elt : Expr} {scope : Scope} {own : List (Str × Nat)} {lk : List Res} {gt : TG} {is : List Nat} {xs : List α} {i : Nat} {y : Str} {py spos : Pos} {k : List β × σ → Sx1} (enc : α → D) (encR : β → D) (F : σ → α → β × σ) (R : σ → List Res) (s0 : σ) (J : Nat → σ → Prop) (j0 : J 0 s0) (hN : X.N.Nodup) (hy : X.N[i]? = some y) (hyl : X.env.scope.names.lookup y = some .local) (hc : X.calm = true) (hi : ItwP X tg iter g (R s0) lk (xs.map enc)) (ok : BlkOk X.N X.env.scope scope own)
    (hg : Blkc X scope fun Y => PG Y tg gt) (his : ∀ i ∈ is, i ∈ own.map (·.2)) (hz : xs.length ≤ 10000)
    (hs : ∀ (i : Nat) (x : α) (s : σ), xs[i]? = some x → J i s → J (i + 1) (F s x).2 ∧ ∃ es, Tg X.K gt is (enc x) es ∧ Blkc X scope fun Y => Ev Y elt (sets (wipeG g (own.map (·.2))) is es) (R s) (fun d l' => d = encR (F s x).1 ∧ l' = R (F s x).2))
    (h : ∀ p r, r = mapS F xs s0 → Bo X W rest (g.set i (some (.adr p))) (ownL X.K p (r.1.map encR) :: R r.2) Om (k r))
    (hsw : swapsWith (.ListComp elt [⟨tg, iter, [], 0⟩] scope pos) (some (.Name y py)) spos.line X.env = pure true := by rfl) (hf : ∀ x, foldedSetIterable iter X.env x = pure x := by intro _; rfl) (hk : ∀ s, SubR (R s) lk := by intro s; first | exact subr0 | exact subr1 0 rfl | exact subr1 1 rfl) :
    Bo X W (.Assign [.Name y py] (.ListComp elt [⟨tg, iter, [], 0⟩] scope pos) spos :: rest) g (R s0) Om (lt (mapS F xs s0) k) := by
  obtain ⟨wi, pi, hw⟩ := hi
  have hJ : ∀ i, i ≤ xs.length → J i (mapS F (xs.take i) s0).2 := fun i => by
    induction i with
    | zero => exact fun _ => j0
    | succ i ih =>
      intro hl
      have hx : xs[i]? = some xs[i] := List.getElem?_eq_getElem (by omega)
      rw [(mapS_take hx).1]
      exact (hs i _ _ hx (ih (by omega))).1
  refine blk_setLcX (Psi := fun d' l' => ∃ p, d' = .adr p ∧ l' = ownL X.K p ((mapS F xs s0).1.map encR) :: R (mapS F xs s0).2) (ps_setLc hc hN hy hyl hsw pi ok hg (fun _ _ _ _ _ => pts_nil) teB_pe hf) (fun en T σ H Q s k => ?_) fun d l' ⟨p, e1, e2⟩ => by subst e1; subst e2; exact h p _ rfl
  refine lc_readS (lf := fun i => R (mapS F (xs.take i) s0).2) (rs := (mapS F xs s0).1.map encR) hw (fun i => hk _) his (by rw [List.length_map, List.length_map, mapS_len]) (by rw [List.length_map, mapS_len]; exact Nat.le_trans hz (by decide)) (fun σ H Q q => q) (fun i d hd => ?_) s fun p H' s' => ?_
  · rw [List.getElem?_map] at hd
    obtain ⟨x, hx, rfl⟩ := Option.map_eq_some_iff.mp hd
    have hl := (List.getElem?_eq_some_iff.mp hx).1
    obtain ⟨m1, m2⟩ := mapS_take (F := F) (s := s0) hx
    obtain ⟨_, es, h1, h2⟩ := hs i x _ hx (hJ i (by omega))
    refine ⟨es, _, h1, by rw [List.getElem?_map, m2]; rfl, fun r0 en T σ H Q s kk => ?_⟩
    intro s0' H0 C cl fp
    refine (h2 s0' H0 C cl fp).frG en T σ H Q s fun v d l' H' ⟨l1, e1, e2, e3⟩ s2 => kk v H' ?_
    subst e2
    rw [e1, e3, ← m1] at s2
    exact s2
  · rw [List.length_map, List.take_length] at s'
    obtain ⟨F, M, q⟩ := s'
    exact k _ _ _ H' ⟨p, rfl, rfl⟩ ⟨F, M, q.tmp ⟨.adr p, q.tm⟩⟩
end
end Sx
set_option Elab.async false
set_option linter.all false
set_option maxRecDepth 100000
set_option maxHeartbeats 4000000
/-! List comprehensions out of which an exception flies. -/
namespace L2
open PySem PySem.Spec PyProof.Rows
/-- a comprehension's block whose element may raise -/
abbrev Cx.blkX (X : Cx) (s : Shared) (H : Hp) (scope : Scope) (cenv : Env) (fp : List Addr) (xe : Value → Shared → Prop) : Cx := { X.blk s H scope cenv fp with xe := xe }
theorem Inv.toX {X : Cx} {s0 s : Shared} {H0 H : Hp} {scope : Scope} {cenv : Env} {fp : List Addr} {xe : Value → Shared → Prop} {pins : List (Addr × Obj)} {σ : St} (I : Inv (X.blk s0 H0 scope cenv fp) pins σ H s) : Inv (X.blkX s0 H0 scope cenv fp xe) pins σ H s :=
  ⟨⟨I.ok.mod, I.ok.kind, I.ok.glob, I.ok.blt, I.ok.above, I.ok.inj, I.ok.has, I.ok.cab, I.ok.hd, I.ok.frames, I.ok.stk, I.ok.exf, I.ok.bs, I.ok.bsz, I.ok.noex, I.ok.exfs, I.ok.funs, I.ok.frf⟩, I.os, I.bare, I.base, I.loc, I.cell, I.free, I.freeC, I.pin, I.hok, I.len⟩
theorem Inv.ofX {X : Cx} {s0 s : Shared} {H0 H : Hp} {scope : Scope} {cenv : Env} {fp : List Addr} {xe : Value → Shared → Prop} {pins : List (Addr × Obj)} {σ : St} (I : Inv (X.blkX s0 H0 scope cenv fp xe) pins σ H s) : Inv (X.blk s0 H0 scope cenv fp) pins σ H s :=
  ⟨⟨I.ok.mod, I.ok.kind, I.ok.glob, I.ok.blt, I.ok.above, I.ok.inj, I.ok.has, I.ok.cab, I.ok.hd, I.ok.frames, I.ok.stk, I.ok.exf, I.ok.bs, I.ok.bsz, I.ok.noex, I.ok.exfs, I.ok.funs, I.ok.frf⟩, I.os, I.bare, I.base, I.loc, I.cell, I.free, I.freeC, I.pin, I.hok, I.len⟩
theorem hidden_none {B : Heap} {l : List Addr} {b : Addr} (h : B.get? b = none) : (PySem.W.hideAll B l).get? b = none := by
  cases e : (PySem.W.hideAll B l).get? b with
  | none => rfl
  | some o =>
    have := PySem.W.of_hideAll _ e
    rw [h] at this
    cases this
section
variable {M : Model} {A : Around} {E : Value → Shared → Prop} {s : Shared} {Z : Obj → Prop} {base : Heap} {env cenv : Env} {outer l : List Env} {L e : Addr}
/-- noted by another frame ahead of this one -/
theorem looks_otherZ {fl : Value} {Q : Unit → Shared → Prop} (hZ : HandSPX.Steady Z) (hfr : A.frames = some (env :: outer)) (hf : env.frame = some L) (hkb : base.StaysIn s.heap) (hen : base.get? e = none) (hl : s.heap.FunFrames base (env :: outer)) (ht : HandSPX.TracedZ s.heap base e Z fl) (hne : (fl == rawInt L) = false)
    (hQ : ∀ h', HandSPX.HeldZ base (env :: outer) e Z L h' → s.heap.UpToSlots h' → Q () { s with heap := h' }) : wpAny M A (noteFrame (.ref e) env) Q E s := by
  obtain ⟨oe, vs, T, oT, ts, he, hz, hd, h1, hnT, hTe, hT, hdT, h3⟩ := ht
  have keep : ∀ b, b ≠ T → (s.heap.update T (Obj.mapFields (·.setIfInBounds 3 Value.none))).get? b = s.heap.get? b := fun b hb => Heap.get?_update_other _ _ (Ne.symm hb)
  have plain : ∀ b o, s.heap.get? b = some o → (∀ vs, o.data ≠ .fields vs) → b ≠ T := fun b o hb hnf q => by
    subst q
    rw [hT] at hb
    cases hb
    exact hnf ts hdT
  unfold noteFrame
  simp only [hf]
  refine wpAny_bind (wpAny_field he hd h1 ?_)
  rw [if_pos (show (Value.ref T != Value.none) = true from by simp)]
  refine wpAny_bind (wpAny_field hT hdT h3 ?_)
  rw [if_neg (by rw [hne]; decide)]
  refine wpAny_bind (wpAny_setField hT hdT (Array.getElem?_eq_some_iff.mp h3).1 ?_)
  refine HandSPX.wpAny_entryZ hZ hfr (hl.of_keeps fun b o hb hnf => ⟨o, (keep b (plain b o hb hnf)).trans hb, rfl⟩) hf ((keep e (Ne.symm hTe)).trans he)
    (fun b o hbo => (keep b fun q => by rw [q, hnT] at hbo; cases hbo).trans (hkb b o hbo)) hen hd (Array.getElem?_eq_some_iff.mp h1).1 hz fun h' ⟨x1, x2, x3, x4⟩ => ?_
  exact hQ h' ⟨x1, hen, x2, x3⟩ fun b o hb hnf => x4 b o ((keep b (plain b o hb hnf)).trans hb) hnf
/-- the block's names are let go, the exception goes on -/
theorem compFailsZ {m : Str → Option Value} (hf : cenv.frame = some L) (hbC : base.get? cenv.locals = none) (hn : s.heap.Ns cenv.locals m) (hh : HandSPX.HeldZ base l e Z L s.heap)
    (hQ : ∀ h', HandSPX.HeldZ base l e Z L h' → (∀ b o, s.heap.get? b = some o → b ≠ cenv.locals → (∀ vs, o.data ≠ .fields vs) → ∃ sl, h'.get? b = some { o with slots := sl }) → E (.ref e) { s with heap := h' }) : CompFails M A E cenv (.ref e) s := by
  refine ⟨m, hn, fun h2 m2 hn2 hs2 => ?_⟩
  obtain ⟨b1, b0, f1, oe, vs, T, oT, ts, he, hz, hd, h1, hnT, hTe, hT, hdT, h3⟩ := hh
  have notC : ∀ b o vs, s.heap.get? b = some o → o.data = .fields vs → b ≠ cenv.locals := fun b o vs e1 e2 q => by
    obtain ⟨oL, es, ep, hoL, hdL, r⟩ := hn
    rw [q, hoL] at e1
    cases e1
    rw [hdL] at e2
    cases e2
  have he2 := (hs2.2 e (notC e oe vs he hd)).trans he
  have hT2 := (hs2.2 T (notC T oT ts hT hdT)).trans hT
  have hh2 : HandSPX.HeldZ base l e Z L h2 := ⟨fun b o hb => (hs2.2 b fun q => by rw [q, hbC] at hb; cases hb).trans (b1 b o hb), b0, Heap.FunFrames.sameBut hs2 hn2 f1, oe, vs, T, oT, ts, he2, hz, hd, h1, hnT, hTe, hT2, hdT, h3⟩
  unfold PySem.passOn
  refine wpAny_bind (wpAny_field he2 hd h1 ?_)
  rw [if_neg (show ¬ ((Value.ref T == Value.none) = true) from by simp)]
  rw [hf]
  refine wpAny_bind (HandSPX.setFlight_onZ (s := { s with heap := h2 }) hh2 fun h' hh' k' => ?_)
  exact wpAny_throw (hQ h' hh' fun b o hb hbL hnf => k' b o ((hs2.2 b hbL).trans hb) hnf)
end
/-- an exception leaves the block -/
theorem XE.leaveBlk {X : Cx} {W : WX} {s3 s' : Shared} {H3 : Hp} {scope : Scope} {ce : Env} {fp : List Addr} {xe : Value → Shared → Prop} {pins0 : List (Addr × Obj)} {σ : St} {u : Value} (hs : X.stack = X.env :: X.outer) (hf : X.env.frame = some X.env.locals) (tk : Takes X W) (I3 : Inv X pins0 σ H3 s3) (f3 : ∀ b ∈ fp, FpOk X pins0 H3 b) (hce : ce.frame = X.env.frame) (hC : s3.heap.objs.size ≤ ce.locals)
    (x : XE (X.blkX s3 H3 scope ce fp xe) (fun cls d _ H' => W cls d σ H') u s') : notedBy (model X.prog X.w) X.A ce (fun e s' => CompFails (model X.prog X.w) X.A X.xe ce e s') u s' := by
  obtain ⟨a, B, sI, pins, σ', H, cls, d, rfl, I, nb, up, sky, na, os, ag, w⟩ := x
  have hfr : X.A.frames = some (X.env :: X.outer) := by rw [I3.ok.frames, hs]
  obtain ⟨m, hnm, _⟩ := I.loc
  have nC : H ce.locals = none := I.free
  have J : Inv X pins0 σ H sI := I3.call' (ch := fp) I.os I.base I.hok I.bare fun b hb => ⟨(f3 b hb).2.2.2.1, (f3 b hb).2.1, (f3 b hb).2.2.2.2.1, (f3 b hb).2.2.2.2.2⟩
  obtain ⟨f0, f1, _, f4, f5, f6⟩ := I3.fpOk hC nC
  have J' : Inv X pins0 σ H { sI with heap := PySem.W.hideAll sI.heap [ce.locals] } := J.turned (t' := sI.toks) (fun b o hb e => PySem.W.hideAll_get _ e (by simpa using hb)) f0 f1 f4 f5 f6
  have gone : ∀ h : Heap, (PySem.W.hideAll h [ce.locals]).get? ce.locals = none := fun h => PySem.W.hideAll_none _ (List.mem_singleton.mpr rfl)
  have fin : ∀ h1, HandSPX.HeldZ B (X.env :: X.outer) a (Zc cls d) X.env.locals h1 → s'.heap.UpToSlots h1 → CompFails (model X.prog X.w) X.A X.xe ce (.ref a) { s' with heap := h1 } := fun h1 hh up1 => by
    obtain ⟨k1, k2, k3, oe, vs, T, oT, ts, he, hz, hd, e1, hnT, hTe, hT, hdT, e3⟩ := hh
    have hh' : HandSPX.HeldZ (PySem.W.hideAll B [ce.locals]) (X.env :: X.outer) a (Zc cls d) X.env.locals h1 :=
      ⟨fun b o e => k1 b o (PySem.W.of_hideAll _ e), hidden_none k2, funFrames_none k3 fun b hb => hidden_none (k3.mem hb).1, oe, vs, T, oT, ts, he, hz, hd, e1, hidden_none hnT, hTe, hT, hdT, e3⟩
    refine compFailsZ (m := m) (s := { s' with heap := h1 }) (hce.trans hf) (gone B) ((Heap.Ns.upToSlots (Heap.Ns.upToSlots hnm up)) up1) hh' fun h' hH hk => tk _ _ ⟨a, PySem.W.hideAll B [ce.locals], { sI with heap := PySem.W.hideAll sI.heap [ce.locals] }, pins0, σ, H, cls, d, rfl, J', fun b o e hb => ?_, fun b o e hnf => ?_, ?_, na, os, ag, w⟩
    · refine PySem.W.hideAll_get _ (nb b o (PySem.W.of_hideAll _ e) hb) fun z => ?_
      rw [List.mem_singleton.mp z] at e
      have e : (PySem.W.hideAll sI.heap [ce.locals]).get? ce.locals = some o := e
      rw [gone] at e
      cases e
    · have e : (PySem.W.hideAll sI.heap [ce.locals]).get? b = some o := e
      have hb : b ≠ ce.locals := fun z => by rw [z, gone] at e; cases e
      obtain ⟨sl1, q1⟩ := up b o (PySem.W.of_hideAll _ e) hnf
      obtain ⟨sl2, q2⟩ := up1 b _ q1 hnf
      obtain ⟨sl3, q3⟩ := hk b _ q2 hb hnf
      exact ⟨sl3, q3⟩
    · rw [hs]
      exact .inr (.inr hH)
  have sky : Sky B (X.env :: X.outer) a (Zc cls d) ce.locals s'.heap := by rw [← hs]; exact sky
  show wpAny _ _ (noteFrame (.ref a) ce) _ _ s'
  rw [noteFrame_env _ hce]
  rcases sky with ⟨hB, hn, hl, oe, vs, he, hz, hd, h1⟩ | fl | hh
  · exact HandSPX.look_newZ Zc.steady hfr hl hf he hB hn hd h1 hz fin
  · exact HandSPX.looks_onZ Zc.steady hfr hf fl fin
  · refine looks_otherZ Zc.steady hfr hf hh.1 hh.2.1 hh.2.2.1 hh.2.2.2 ?_ fin
    have : X.env.locals < ce.locals := Nat.lt_of_lt_of_le I3.lt hC
    have hne : ce.locals ≠ X.env.locals := fun z => by rw [z] at this; exact Nat.lt_irrefl _ this
    simp only [rawInt]
    refine beq_eq_false_iff_ne.mpr fun z => hne ?_
    have z2 : ((ce.locals : Nat) : Int) = ((X.env.locals : Nat) : Int) := by simpa using z
    exact Int.ofNat.inj z2
theorem compEnds_err {M : Model} {A : Around} {E : Value → Shared → Prop} {use : Option (Value → Sem Unit)} {Q : Value → Shared → Prop} {acc : Value} {ce : Env} : (fun e s' => compEnds M A E use Q acc ce (.error e) s') = fun e s' => CompFails M A E ce e s' := by
  cases use <;> rfl
section
variable {X : Cx}
/-- the whole comprehension, its element may raise -/
theorem lc_coreX {W : WX} {pins : List (Addr × Obj)} {s : Shared} {σ : St} {H : Hp} {Q : VK} {elt tg iter : Expr} {scope : Scope} {own : List (Str × Nat)} {pos pos' : Pos} {wi : TI} {g : TG} {te : TE} {use : Option (Value → Sem Unit)} {Qf : Value → Shared → Prop}
    (hs0 : X.stack = X.env :: X.outer) (hf0 : X.env.frame = some X.env.locals) (tk : Takes X W) (hc : X.calm = true) (hN : X.N.Nodup) (I : Inv X pins σ H s) (hi : PI X tg iter wi) (ok : BlkOk X.N X.env.scope scope own)
    (hg : ∀ (s : Shared) (H : Hp) (C : Addr) (cl : List (Str × Addr)) (fp : List Addr), PG (X.blk s H scope (compEnvC scope cl C X.env) fp) tg g)
    (he : ∀ (s : Shared) (H : Hp) (C : Addr) (cl : List (Str × Addr)) (fp : List Addr) (xe : Value → Shared → Prop), Takes (X.blkX s H scope (compEnvC scope cl C X.env) fp xe) (fun cls d _ H' => W cls d σ H') → PE (X.blkX s H scope (compEnvC scope cl C X.env) fp xe) elt te) (hs : ∀ x, foldedSetIterable iter X.env x = pure x)
    (h : tLc wi g tYes te (own.map (·.2)) σ H Q)
    (hRR : ∀ D s' m H' (ce : Env), Inv X pins σ H' s' → Q (.ref D) H' → s'.heap.Ns ce.locals m → FpOk X pins H' ce.locals → compEnds (model X.prog X.w) X.A X.xe use Qf (.ref D) ce (.ok .next) s') :
    wpAny (model X.prog X.w) X.A (comprehension (.ListComp elt [⟨tg, iter, [], 0⟩] scope pos) scope X.env pos' (newList []) false (eval iter X.env) use) Qf X.xe s := by
  have hfree : ∀ y ∈ scope.names, y.2 = .free → ∃ c, X.env.cells.lookup y.1 = some c := fun y hy e => (ok.free y hy e).elim (fun k => I.ok.has _ (.inl k)) fun k => I.ok.has _ (.inr k)
  refine comprehension_at (use := use) rfl hs (closure_ok hfree) ok.kind (fun y hy e => by rw [ok.uniq y hy, e]) (thn (hi.run pins s σ H _ I h) fun xv s1 hx => thn hx fun itv s2 h2 => ?_)
  obtain ⟨it, fp, tn, J, H2, rfl, I2, T, st2, f2, q⟩ := h2
  refine wpAny_newObj_type (newEnv_comp ?_) (by show 0 ≤ sizeLine; decide)
  -- the new list, the block's names
  obtain ⟨D, hD⟩ : ∃ D, D = s2.heap.objs.size := ⟨_, rfl⟩
  obtain ⟨Wv, ⟨m0, w0⟩, turn⟩ := q D (I2.hok.fresh (Nat.le_of_eq hD.symm))
  obtain ⟨s3, hs3⟩ : ∃ s3 : Shared, s3 = { s2 with heap := s2.heap.push { cls := .type "list", data := .seq ([] : List Value).toArray } } := ⟨_, rfl⟩
  have I3 : Inv X pins σ (upd H2 D (.lst [])) s3 := by
    rw [hs3]
    exact I2.laid (t' := s2.toks) (fun b o e => Heap.get?_push_of_some _ e) (Nat.le_of_eq hD.symm) ⟨Nat.zero_le _, [], 0, .nil, by rw [hD]; exact Heap.get?_push_size _ rfl⟩
  have h3 : s3.heap = s2.heap.push { cls := .type "list", data := .seq ([] : List Value).toArray } := by rw [hs3]
  have f3 : ∀ b ∈ fp, FpOk X pins (upd H2 D (.lst [])) b ∧ b < s3.heap.objs.size := fun b hb => by
    obtain ⟨o, e, _⟩ := T.obj _ _ st2 b hb
    have hlt := Heap.lt_size e
    refine ⟨⟨?_, (f2 b hb).2⟩, by rw [h3, Heap.size_push]; exact Nat.lt_succ_of_lt hlt⟩
    rw [upd_ne (by rw [hD]; exact Nat.ne_of_lt hlt)]
    exact (f2 b hb).1
  have st3 : tn 0 s3.heap := T.keep _ _ _ st2 fun b _ o e => by rw [h3]; exact Heap.get?_push_of_some _ e
  have I4 := block_start I3 ok hN f3
  rw [← hs3, ← hD]
  generalize hH3 : upd H2 D (.lst []) = H3 at I3 I4 w0 f3
  have cF : (compEnvC scope (cellsFrom (s3.heap.objs.size + 1) scope.names (cloFrom X.env.cells scope.names [])) s3.heap.objs.size X.env).frame = X.env.frame := rfl
  have cL : (compEnvC scope (cellsFrom (s3.heap.objs.size + 1) scope.names (cloFrom X.env.cells scope.names [])) s3.heap.objs.size X.env).locals = s3.heap.objs.size := rfl
  have pg := hg s3 H3 s3.heap.objs.size (cellsFrom (s3.heap.objs.size + 1) scope.names (cloFrom X.env.cells scope.names [])) fp
  have pe := he s3 H3 s3.heap.objs.size (cellsFrom (s3.heap.objs.size + 1) scope.names (cloFrom X.env.cells scope.names [])) fp
  show codeAny _ _ (.compStart (.ListComp elt [⟨tg, iter, [], 0⟩] scope pos) 0 (.ref it) (.ref D) (compEnvC scope (cellsFrom (s3.heap.objs.size + 1) scope.names (cloFrom X.env.cells scope.names [])) s3.heap.objs.size X.env)) (compEnds (model X.prog X.w) X.A X.xe use Qf (.ref D) (compEnvC scope (cellsFrom (s3.heap.objs.size + 1) scope.names (cloFrom X.env.cells scope.names [])) s3.heap.objs.size X.env)) { s3 with heap := pushCells (s3.heap.push { cls := .type "dict", data := .dict #[] }) scope.names }
  generalize compEnvC scope (cellsFrom (s3.heap.objs.size + 1) scope.names (cloFrom X.env.cells scope.names [])) s3.heap.objs.size X.env = ce at I4 pg pe cF cL ⊢
  have pe := pe (notedBy (model X.prog X.w) X.A ce fun e s' => CompFails (model X.prog X.w) X.A X.xe ce e s') fun u s' x => XE.leaveBlk hs0 hf0 tk I3 (fun b hb => (f3 b hb).1) cF (Nat.le_of_eq cL.symm) x
  generalize hs4 : ({ s3 with heap := pushCells (s3.heap.push { cls := .type "dict", data := .dict #[] }) scope.names } : Shared) = s4 at I4 ⊢
  have st4 : tn 0 s4.heap := T.keep _ _ _ st3 fun b _ o e => by rw [← hs4]; exact pushCells_keeps _ _ _ _ (Heap.get?_push_of_some _ e)
  have stat : ∀ {σ' : St} {H' : Hp} {s' : Shared}, Inv (X.blk s3 H3 scope ce fp) [] σ' H' s' → (∀ b ∈ fp, H' b = none) → ∀ b ∈ fp, FpOk (X.blk s3 H3 scope ce fp) [] H' b := fun {σ' H' s'} I' hn b hb =>
    ⟨hn b hb, (I'.ok.exf b hb).1, I'.ok.exfs b hb, .inl hb, fun x c e => (I'.ok.exf b hb).2 x c e, fun p hp => nomatch (show p ∈ ([] : List (Addr × Obj)) from hp)⟩
  refine (fun loop => codeAny_compStart_list loop (T.self X.A 0 _ _ _ st4 loop)) ?_
  refine compLoop_any (fun n s' => ∃ i H', Inv (X.blk s3 H3 scope ce fp) [] (wipe σ (own.map (·.2))) H' s' ∧ tn i s'.heap ∧ (∀ b ∈ fp, H' b = none) ∧ Wv i n H') ?_ m0 ⟨0, H3, I4, st4, fun b hb => (f3 b hb).1.1, w0⟩
  rintro n s5 ⟨i, H5, I5, st5, n5, w5⟩
  rw [compEnds_err]
  rcases turn i n H5 w5 with ⟨stop, qq⟩ | ⟨go, Nx, hNx, step⟩
  · refine thnF (T.done (X.blk s3 H3 scope ce fp) rfl rfl rfl hc i [] s5 _ H5 (fun _ _ => False) I5 (stat I5 n5) st5 stop) fun r s6 ⟨hr, I6⟩ => ?_
    subst hr
    obtain ⟨m, hn, _⟩ := I6.loc
    exact hRR D s6 m H5 ce (I3.call' (ch := fp) I6.os I6.base I6.hok I6.bare fun b hb => ⟨(f3 b hb).1.2.2.2.1, (f3 b hb).1.2.1, (f3 b hb).1.2.2.2.2.1, (f3 b hb).1.2.2.2.2.2⟩) qq hn (I3.fpOk (Nat.le_of_eq cL.symm) I6.free)
  · refine thnF (T.item (X.blk s3 H3 scope ce fp) rfl rfl rfl hc i [] s5 _ H5 (fun _ _ => False) I5 (stat I5 n5) st5 go) fun r s6 ⟨u, hr, h6⟩ => ?_
    subst hr
    refine thnF h6 fun _ s7 ⟨x, H7, I7, r7, y7, st7, n7⟩ => ?_
    refine thnF (pg.run _ s7 _ H7 x u _ (I7.pinned (stat I7 n7) (T.obj _ _ st7)) r7 (step x H7 y7)) fun _ s8 ⟨σ8, H8, I8, hw8, q8⟩ => ?_
    refine wpAny_tests_nil ?_
    rw [if_pos rfl]
    have q8 : te σ8 H8 _ := q8
    refine thn (pe.run _ s8 σ8 H8 _ I8.toX q8) fun z s10 ⟨yv, H10, I10, r10, acc, hD10, hz10, nx⟩ => ?_
    refine app_ok (X := X.blk s3 H3 scope ce fp) I10.ofX hD10 hz10 r10 fun s11 I11 => ?_
    obtain ⟨m', hm, w'⟩ := hNx _ nx
    have pin' : ∀ b ∈ fp, ∀ o, s7.heap.get? b = some o → s11.heap.get? b = some o ∧ upd H10 D (.lst (acc ++ [yv])) b = none := fun b hb o e =>
      let z := I11.pin (b, o) (List.mem_append_right _ (List.mem_append_right _ (mem_pinsAt hb e)))
      ⟨z.1, z.2.1⟩
    refine ⟨m', hm, i + 1, _, (I11.unpinned (pins := [])).weak (by rw [← hw8, wipe_length]) (fun j v e => ?_), T.keep _ _ _ st7 fun b hb o e => (pin' b hb o e).1, fun b hb => ?_, w'⟩
    · rw [← hw8] at e
      exact (wipe_some e).1
    · obtain ⟨o, e, _⟩ := T.obj _ _ st7 b hb
      exact (pin' b hb o e).2
/-- as a value -/
theorem pe_lcX {W : WX} {elt tg iter : Expr} {scope : Scope} {own : List (Str × Nat)} {pos : Pos} {wi : TI} {g : TG} {te : St → TE} (hs0 : X.stack = X.env :: X.outer) (hf0 : X.env.frame = some X.env.locals) (tk : Takes X W) (hc : X.calm = true) (hN : X.N.Nodup) (hi : PI X tg iter wi) (ok : BlkOk X.N X.env.scope scope own)
    (hg : ∀ (s : Shared) (H : Hp) (C : Addr) (cl : List (Str × Addr)) (fp : List Addr), PG (X.blk s H scope (compEnvC scope cl C X.env) fp) tg g)
    (he : ∀ (σ : St) (s : Shared) (H : Hp) (C : Addr) (cl : List (Str × Addr)) (fp : List Addr) (xe : Value → Shared → Prop), Takes (X.blkX s H scope (compEnvC scope cl C X.env) fp xe) (fun cls d _ H' => W cls d σ H') → PE (X.blkX s H scope (compEnvC scope cl C X.env) fp xe) elt (te σ)) (hs : ∀ x, foldedSetIterable iter X.env x = pure x := by intro _; rfl) :
    PE X (.ListComp elt [⟨tg, iter, [], 0⟩] scope pos) (fun σ H Q => tLc wi g tYes (te σ) (own.map (·.2)) σ H Q) := by
  refine ⟨fun pins s σ H Q I h => ?_⟩
  rw [eval_ListComp]
  refine lc_coreX hs0 hf0 tk hc hN I hi ok hg (he σ) hs h fun D s' m H' ce I' q hn f => ⟨m, hn, fun h'' sb => ?_⟩
  obtain ⟨f0, f1, f2, f3, f4, f5⟩ := f
  exact ⟨.ref D, H', I'.turned (t' := s'.toks) (fun b o hb e => (sb.2 b hb).trans e) f0 f1 f3 f4 f5, rfl, q⟩
end
end L2
namespace Sx
open PySem L2
/-- within a comprehension's block that may raise -/
abbrev BlkcX (X : Cx) (W : WX) (scope : Scope) (Pp : Cx → WX → Prop) : Prop := ∀ (σ : L2.St) (s : Shared) (H : Hp) (C : Addr) (cl : List (Str × Addr)) (fp : List Addr) (xe : Value → Shared → Prop), Takes (X.blkX s H scope (compEnvC scope cl C X.env) fp xe) (fun cls d _ H' => W cls d σ H') → Pp (X.blkX s H scope (compEnvC scope cl C X.env) fp xe) (fun cls d _ H' => W cls d σ H')
def teBX (X : Cx) (W : WX) (scope : Scope) (e : Expr) : L2.St → TE := fun σ0 σ H Q => ∀ (s : Shared) (H0 : Hp) (C : Addr) (cl : List (Str × Addr)) (fp : List Addr) (xe : Value → Shared → Prop), Takes (X.blkX s H0 scope (compEnvC scope cl C X.env) fp xe) (fun cls d _ H' => W cls d σ0 H') → wpE (X.blkX s H0 scope (compEnvC scope cl C X.env) fp xe) e σ H Q
section
variable {X : Cx} {W : WX} {g : Gm} {l : List Res}
/-- an element raises, those ahead of it do not -/
theorem exr_lc {x : Xd} {tg iter elt : Expr} {scope : Scope} {own : List (Str × Nat)} {lk : List Res} {gt : TG} {is : List Nat} {ds rs : List D} {pos : Pos} {i0 : Nat} (hs0 : X.stack = X.env :: X.outer) (hf0 : X.env.frame = some X.env.locals) (tk : Takes X W) (hc : X.calm = true) (hN : X.N.Nodup) (hi : ItwP X tg iter g l lk ds) (ok : BlkOk X.N X.env.scope scope own)
    (hg : Blkc X scope fun Y => PG Y tg gt) (his : ∀ i ∈ is, i ∈ own.map (·.2)) (h0 : i0 < ds.length) (hz : ds.length ≤ sizeLine)
    (hs : ∀ (i : Nat) (d : D), ds[i]? = some d → i < i0 → ∃ es r, Tg X.K gt is d es ∧ rs[i]? = some r ∧ BlkcX X W scope fun Y _ => Px Y elt (sets (wipeG g (own.map (·.2))) is es) l r)
    (hx : ∀ d, ds[i0]? = some d → ∃ es, Tg X.K gt is d es ∧ BlkcX X W scope fun Y WY => Exr Y WY elt (sets (wipeG g (own.map (·.2))) is es) l x) (hf : ∀ x, foldedSetIterable iter X.env x = pure x := by intro _; rfl) (hk : SubR l lk := by first | exact subr0 | exact subr1 0 rfl | exact subr1 1 rfl | exact subr1 2 rfl) :
    Exr X W (.ListComp elt [⟨tg, iter, [], 0⟩] scope pos) g l x := fun en T σ H Q s k kx => by
  obtain ⟨wi, pi, hw⟩ := hi
  refine wpE_of (pe_lcX (te := teBX X W scope elt) hs0 hf0 tk hc hN pi ok hg (fun σ s H C cl fp xe t => ⟨fun pins s' σ' H' Q I h => h s H C cl fp xe t pins s' I⟩) hf) ?_
  refine hw en T σ H _ s fun J H1 F0 M0 q0 jg => ?_
  intro Dl hD
  refine ⟨fun i m H' => i + m = ds.length ∧ i ≤ i0 ∧ S X.K en (wipeG g (own.map (·.2))) ((T.sl X.K g σ).ex F0) (ownL X.K Dl (rs.take i) :: l) (L2.wipe σ (own.map (·.2))) H', ⟨ds.length, by simp, Nat.zero_le _, ?_⟩, fun i m H' hW => ?_⟩
  · have q1 := q0.newO (r := ownL X.K Dl []) (A := one Dl (.lst [])) (H' := upd H1 Dl (.lst [])) (.new hD) (fun x o z => by obtain ⟨rfl, rfl⟩ := one_some z; exact upd_same) (fun x o z => by obtain ⟨rfl, rfl⟩ := one_some z; exact hD) ⟨[], .nil, rfl⟩
    rw [List.take_zero]
    exact ⟨F0, _, (q1.tmp (T' := (T.sl X.K g σ).ex F0) ⟨.rf, q0.sl, q0.tm⟩).slots (q0.sl.wipe _)⟩
  · obtain ⟨em, ei, F, M, q⟩ := hW
    obtain ⟨junk0, pk0⟩ := id hk
    obtain ⟨Mk, rk, ek⟩ := Rs.sub (lk := lk) ⟨junk0 ++ [ownL X.K Dl (rs.take i)], by
      have z := (pk0.cons (ownL X.K Dl (rs.take i))).trans (List.perm_append_comm (l₁ := [_]))
      rw [← List.append_assoc]; exact z⟩ q.rs q.exM
    obtain ⟨jgo, jst, jy⟩ := jg F Mk H' q.tm.1 q.exF ek rk
    have hi : i < ds.length := by omega
    obtain ⟨m, rfl⟩ : ∃ m', m = m' + 1 := ⟨m - 1, by omega⟩
    refine .inr ⟨jgo i hi, fun H2 => i + 1 ≤ i0 ∧ S X.K en (wipeG g (own.map (·.2))) ((T.sl X.K g σ).ex F0) (ownL X.K Dl (rs.take (i + 1)) :: l) (L2.wipe σ (own.map (·.2))) H2, fun H2 h => ⟨m, by omega, by omega, h.1, h.2⟩, fun y H2 hy => ?_⟩
    obtain ⟨F2, nw, fx⟩ := jy i ds[i] y H2 (List.getElem?_eq_getElem hi) hy
    have q2 := q.new nw
    by_cases c : i < i0
    · obtain ⟨es, r, htg, hr, he⟩ := hs i ds[i] (List.getElem?_eq_getElem hi) c
      refine htg F2 H2 y _ _ q2.exF fx fun vs fvs => ?_
      refine ⟨by rw [wipe_sets his, wipe_wipe], ?_⟩
      have et : rs.take (i + 1) = rs.take i ++ [r] := by
        rw [List.take_add_one, hr]; rfl
      show teBX X W scope elt σ _ H2 _
      intro s0 H0 C cl fp xe t
      refine (he σ s0 H0 C cl fp xe t).fr en ((((T.sl X.K g σ).ex F0)).sl X.K (wipeG g (own.map (·.2))) (L2.wipe σ (own.map (·.2)))) _ H2 _ ⟨F2, M, (q2.tmp (T' := (((T.sl X.K g σ).ex F0)).sl X.K (wipeG g (own.map (·.2))) (L2.wipe σ (own.map (·.2)))) ⟨q2.sl, q2.tm⟩).slots (q2.sl.sets fvs)⟩ fun v H4 s4 => ?_
      obtain ⟨F4, M4, q4⟩ := s4
      obtain ⟨ws, fw, hp⟩ := q4.rs.own (k := 0) rfl q4.exM
      refine ⟨ws, hp, ?_, c, ?_⟩
      · rw [fw.length, List.length_take]
        omega
      · obtain ⟨M5, q5⟩ := (q4.tmp q4.tm.2).putL (k := 0) rfl (fw.app (.cons q4.tm.1 .nil))
        rw [et]
        exact ⟨F4, M5, (q5.tmp q5.tm.2).slots q5.tm.1⟩
    · have e0 : i = i0 := by omega
      subst e0
      obtain ⟨es, htg, he⟩ := hx ds[i] (List.getElem?_eq_getElem hi)
      refine htg F2 H2 y _ _ q2.exF fx fun vs fvs => ?_
      refine ⟨by rw [wipe_sets his, wipe_wipe], ?_⟩
      show teBX X W scope elt σ _ H2 _
      intro s0 H0 C cl fp xe t
      have s1 : S X.K en (sets (wipeG g (own.map (·.2))) is es) ((((T.sl X.K g σ).ex F0)).sl X.K (wipeG g (own.map (·.2))) (L2.wipe σ (own.map (·.2)))) (ownL X.K Dl (rs.take i) :: l) _ H2 := ⟨F2, M, (q2.tmp (T' := (((T.sl X.K g σ).ex F0)).sl X.K (wipeG g (own.map (·.2))) (L2.wipe σ (own.map (·.2)))) ⟨q2.sl, q2.tm⟩).slots (q2.sl.sets fvs)⟩
      obtain ⟨en', s2, back⟩ := s1.frG
      refine he σ s0 H0 C cl fp xe t en' _ _ H2 _ s2 (fun _ _ _ _ p _ => p.elim) fun cls dd l' H4 hp s4 => ?_
      obtain ⟨F4, M4, q4⟩ := back s4
      refine kx cls dd l' H4 hp (S.perm2 (l2 := l') (junk := [ownL X.K Dl (rs.take i)]) (List.perm_append_comm (l₁ := [_])) ⟨F4, M4, (q4.tmp (T' := T) q4.tm.2.2.2).slots q4.tm.2.2.1⟩)
/-! [f(x) for x in xs], f may raise -/
def mapE {α β ε : Type} (m : α → Except ε β) : List α → Except ε (List β)
  | [] => .ok []
  | x :: xs => match m x with
    | .error e => .error e
    | .ok v => match mapE m xs with
      | .error e => .error e
      | .ok vs => .ok (v :: vs)
theorem mapE_ok {α β ε : Type} {m : α → Except ε β} : ∀ {xs : List α} {vs : List β}, mapE m xs = .ok vs → vs.length = xs.length ∧ ∀ (i : Nat) (x : α), xs[i]? = some x → ∃ v, vs[i]? = some v ∧ m x = .ok v
  | [], vs, h => by
    cases h
    exact ⟨rfl, fun i x h => by cases h⟩
  | x :: xs, vs, h => by
    unfold mapE at h
    cases e1 : m x with
    | error e => rw [e1] at h; cases h
    | ok v =>
      rw [e1] at h
      cases e2 : mapE m xs with
      | error e => rw [e2] at h; cases h
      | ok us =>
        rw [e2] at h
        cases h
        obtain ⟨h1, h2⟩ := mapE_ok e2
        refine ⟨by rw [List.length_cons, List.length_cons, h1], fun i y hy => ?_⟩
        cases i with
        | zero => cases hy; exact ⟨v, rfl, e1⟩
        | succ i => exact h2 i y hy
theorem mapE_err {α β ε : Type} {m : α → Except ε β} {e0 : ε} : ∀ {xs : List α}, mapE m xs = .error e0 → ∃ (i0 : Nat) (x0 : α), xs[i0]? = some x0 ∧ m x0 = .error e0 ∧ ∀ (j : Nat) (y : α), j < i0 → xs[j]? = some y → ∃ v, m y = .ok v
  | [], h => by cases h
  | x :: xs, h => by
    unfold mapE at h
    cases e1 : m x with
    | error e =>
      rw [e1] at h
      cases h
      exact ⟨0, x, rfl, e1, fun j y hj => by omega⟩
    | ok v =>
      rw [e1] at h
      cases e2 : mapE m xs with
      | ok us => rw [e2] at h; cases h
      | error e =>
        rw [e2] at h
        cases h
        obtain ⟨i, y, h1, h2, h3⟩ := mapE_err e2
        refine ⟨i + 1, y, h1, h2, fun j z hj hz => ?_⟩
        cases j with
        | zero => cases hz; exact ⟨v, e1⟩
        | succ j => exact h3 j z (by omega) hz
theorem ev_lcE {α β ε : Type} {tg iter elt : Expr} {scope : Scope} {own : List (Str × Nat)} {lk : List Res} {gt : TG} {is : List Nat} {xs : List α} {vs : List β} {pos : Pos} (enc : α → D) (encR : β → D) (m : α → Except ε β) (hv : mapE m xs = .ok vs) (hc : X.calm = true) (hN : X.N.Nodup) (hi : ItwP X tg iter g l lk (xs.map enc)) (ok : BlkOk X.N X.env.scope scope own)
    (hg : Blkc X scope fun Y => PG Y tg gt) (his : ∀ i ∈ is, i ∈ own.map (·.2)) (hz : xs.length ≤ 10000)
    (hs : ∀ (i : Nat) (x : α) (v : β), xs[i]? = some x → m x = .ok v → ∃ es, Tg X.K gt is (enc x) es ∧ Blkc X scope fun Y => Px Y elt (sets (wipeG g (own.map (·.2))) is es) l (encR v)) (hf : ∀ x, foldedSetIterable iter X.env x = pure x := by intro _; rfl) (hk : SubR l lk := by first | exact subr0 | exact subr1 0 rfl | exact subr1 1 rfl | exact subr1 2 rfl) :
    EvL X (.ListComp elt [⟨tg, iter, [], 0⟩] scope pos) g l (vs.map encR) := by
  obtain ⟨h1, h2⟩ := mapE_ok hv
  refine ev_lc (rs := vs.map encR) hc hN hi ok hg his (by rw [List.length_map, List.length_map, h1]) (by rw [List.length_map, h1]; exact Nat.le_trans hz (by decide)) (fun i d hd => ?_) hf hk
  rw [List.getElem?_map] at hd
  obtain ⟨x, hx, rfl⟩ := Option.map_eq_some_iff.mp hd
  obtain ⟨v, q1, q2⟩ := h2 i x hx
  obtain ⟨es, q3, q4⟩ := hs i x v hx q2
  exact ⟨es, _, q3, by rw [List.getElem?_map, q1]; rfl, q4⟩
theorem exr_lcE {α β ε : Type} {tg iter elt : Expr} {scope : Scope} {own : List (Str × Nat)} {lk : List Res} {gt : TG} {is : List Nat} {xs : List α} {pos : Pos} {e0 : ε} (enc : α → D) (encR : β → D) (m : α → Except ε β) (xc : ε → Xd) (hv : mapE m xs = .error e0) (hs0 : X.stack = X.env :: X.outer) (hf0 : X.env.frame = some X.env.locals) (tk : Takes X W) (hc : X.calm = true) (hN : X.N.Nodup) (hi : ItwP X tg iter g l lk (xs.map enc)) (ok : BlkOk X.N X.env.scope scope own)
    (hg : Blkc X scope fun Y => PG Y tg gt) (his : ∀ i ∈ is, i ∈ own.map (·.2)) (hz : xs.length ≤ 10000)
    (hs : ∀ (i : Nat) (x : α) (v : β), xs[i]? = some x → m x = .ok v → ∃ es, Tg X.K gt is (enc x) es ∧ BlkcX X W scope fun Y _ => Px Y elt (sets (wipeG g (own.map (·.2))) is es) l (encR v))
    (hx : ∀ (i : Nat) (x : α), xs[i]? = some x → m x = .error e0 → ∃ es, Tg X.K gt is (enc x) es ∧ BlkcX X W scope fun Y WY => Exr Y WY elt (sets (wipeG g (own.map (·.2))) is es) l (xc e0)) (hf : ∀ x, foldedSetIterable iter X.env x = pure x := by intro _; rfl) (hk : SubR l lk := by first | exact subr0 | exact subr1 0 rfl | exact subr1 1 rfl | exact subr1 2 rfl) :
    Exr X W (.ListComp elt [⟨tg, iter, [], 0⟩] scope pos) g l (xc e0) := by
  obtain ⟨i0, x0, h1, h2, h3⟩ := mapE_err hv
  refine exr_lc (i0 := i0) (rs := xs.map fun x => match m x with | .ok v => encR v | .error _ => D.non) hs0 hf0 tk hc hN hi ok hg his (by rw [List.length_map]; exact (List.getElem?_eq_some_iff.mp h1).1) (by rw [List.length_map]; exact Nat.le_trans hz (by decide)) (fun i d hd hlt => ?_) (fun d hd => ?_) hf hk
  · rw [List.getElem?_map] at hd
    obtain ⟨x, hx1, rfl⟩ := Option.map_eq_some_iff.mp hd
    obtain ⟨v, q2⟩ := h3 i x hlt hx1
    obtain ⟨es, q3, q4⟩ := hs i x v hx1 q2
    refine ⟨es, encR v, q3, ?_, q4⟩
    rw [List.getElem?_map, hx1]
    show some (match m x with | .ok v => encR v | .error _ => D.non) = _
    rw [q2]
  · rw [List.getElem?_map, h1] at hd
    cases hd
    exact hx i0 x0 h1 h2
/-- int(text) -/
theorem intV {x : Str} (h : (PySem.intText? x).isSome = true) : PySem.intText? x = some ((PySem.intText? x).getD 0) := by
  cases e : PySem.intText? x with
  | none => rw [e] at h; cases h
  | some v => rfl
end
end Sx
set_option Elab.async false
set_option linter.all false
set_option maxRecDepth 100000
set_option maxHeartbeats 2000000
/-! The head: what the top has written, told by names. -/
namespace Sx
open PySem L2
def isiB (K : PySem.W.Frag) (C : Addr) : Bool := decide (PySem.W.findIn K (.ref C) "__class__" = some (some (.builtin "object.__class__"))) && (decide (PySem.W.specialIn K (.builtin "object.__class__") "__get__" = some (some (.builtin "getset_descriptor.__get__"))) && (decide (PySem.W.takesIn K (.builtin "object.__class__") = some true) && decide (PySem.W.mroIn K C (.type "object") = some true)))
theorem isiB_ok {K : PySem.W.Frag} {C : Addr} (h : isiB K C = true) : Isi K C := by
  obtain ⟨h1, h⟩ := He.ba h
  obtain ⟨h2, h⟩ := He.ba h
  obtain ⟨h3, h4⟩ := He.ba h
  exact ⟨of_decide_eq_true h1, of_decide_eq_true h2, of_decide_eq_true h3, of_decide_eq_true h4⟩
/-- one more fact -/
inductive Fb where
  | isi (x : Str)
  | kit (x y : Str) (b : Bool)
  | mk0 (x : Str)
  | exc (x : Str)
  | xin (x : Str)
  | kitT (x : Str) (t : String) (b : Bool)
  | exm (x y : Str) (b : Bool)
  | kitN (y : Str)
  | oex (x : Str)
  | xno (x f : Str)
  | rin (x : Str)
def excB (K : PySem.W.Frag) (C : Addr) : Bool := PySem.W.keepIn K (.ref C) && (decide (PySem.W.subIn K (.ref C) (.type "BaseException") = some true) && (decide (PySem.W.typeIn K (.ref C) = some (.type "type")) && (decide (PySem.W.findIn K (.ref C) "__getattribute__" = some (some (.builtin "BaseException.__getattribute__"))) && (decide (PySem.W.findIn K (.ref C) "__getattr__" = some none) && (PySem.W.hasDictIn K C && isiB K C)))))
def oexB (K : PySem.W.Frag) (C : Addr) : Bool := match K.lookup C with
  | some ⟨.type "type", _, .cls cd, sl⟩ => (match cd.mro, sl.toList with
    | .ref C' :: bm, [_, _, _, _, some (.builtin n), _] => C' == C && n == "ValueError.__new__" && !cd.hasDel && cd.hasDict && PySem.HandSPX.refsVE bm
    | _, _ => false)
  | _ => false
theorem oexB_ok {K : PySem.W.Frag} {C : Addr} (q : oexB K C = true) : ∃ nm q N bs bm sn sub ab col dd k0 k1 k2 k3 k5, K.lookup C = some (excClassObj nm q C N bs bm true sn sub ab col dd k0 k1 k2 k3 k5 "ValueError.__new__") ∧ PySem.HandSPX.refsVE bm = true := by
  unfold oexB at q
  split at q
  · rename_i dd cd sl ho
    split at q
    · rename_i C' bm k0 k1 k2 k3 n k5 hm hs
      simp only [Bool.and_eq_true, beq_iff_eq, Bool.not_eq_true'] at q
      obtain ⟨⟨⟨⟨rfl, rfl⟩, hdel⟩, hd⟩, ht⟩ := q
      obtain ⟨nm, bs, mro, ns, qn, hd', sn, sub, ab, col, del⟩ := cd
      dsimp only at hm hdel hd
      subst hm hdel hd
      have hsl : sl = #[k0, k1, k2, k3, some (.builtin "ValueError.__new__"), k5] := by
        obtain ⟨l⟩ := sl
        simp only at hs
        rw [hs]
      subst hsl
      exact ⟨nm, qn, ns, bs, bm, sn, sub, ab, col, dd, k0, k1, k2, k3, k5, ho, ht⟩
    · cases q
  · cases q
def rinB (K : PySem.W.Frag) (R : Addr) : Bool := PySem.W.readsIn K R (.type "type") && ((match PySem.W.findCls K (.ref R) (.type "type") "__init__" with | some (.val (.builtin s)) => s == "ValueError.__init__" | _ => false) && decide (PySem.W.specialIn K (.ref R) "__getattribute__" = some (some (.builtin "type.__getattribute__"))))
theorem rinB_ok {K : PySem.W.Frag} {R : Addr} (h : rinB K R = true) : Rin K R := by
  obtain ⟨h1, h⟩ := He.ba h
  obtain ⟨h2, h3⟩ := He.ba h
  refine ⟨h1, ?_, of_decide_eq_true h3⟩
  split at h2
  · rename_i s e
    rw [beq_iff_eq] at h2
    subst h2; exact e
  · cases h2
def Fb.ok (K : PySem.W.Frag) : Fb → Bool
  | .isi x => isiB K (He.ga K x)
  | .kit x y b => decide (PySem.W.kitOne K (.ref (He.ga K x)) (.ref (He.ga K y)) = some b)
  | .mk0 x => PySem.W.makesIn K (He.ga K x) && decide (PySem.W.findIn K (.ref (He.ga K x)) "__init__" = some (some (.builtin "object.__init__")))
  | .exc x => excB K (He.ga K x)
  | .xin x => PySem.W.excIn K (He.ga K x) vErr "ValueError.__new__"
  | .kitT x t b => decide (PySem.W.kitOne K (.ref (He.ga K x)) (.type t) = some b)
  | .exm x y b => decide (PySem.W.exmOne K (.ref (He.ga K x)) (.ref (He.ga K y)) = some b)
  | .kitN y => decide (PySem.W.kitOne K (.type "NoneType") (.ref (He.ga K y)) = some false)
  | .oex x => oexB K (He.ga K x) && (decide (PySem.W.findIn K (.ref (He.ga K x)) "__setattr__" = some (some (.builtin "object.__setattr__"))) && (decide (PySem.W.subIn K (.ref (He.ga K x)) (.type "BaseException") = some true) && (decide (PySem.W.typeIn K (.ref (He.ga K x)) = some (.type "type")) && (PySem.W.keepIn K (.ref (He.ga K x)) && (decide (PySem.W.findIn K (.ref (He.ga K x)) "__init__" = some (some (.ref (He.ma K (He.ga K x) "__init__")))) && decide (PySem.W.typeIn K (.ref (He.ma K (He.ga K x) "__init__")) = some (.type "function")))))))
  | .xno x f => decide (PySem.W.findIn K (.ref (He.ga K x)) f = some none)
  | .rin x => rinB K (He.ga K x)
def exB (fb : List Fb) (K : PySem.W.Frag) : Bool := fb.all fun f => f.ok K
section
variable {K : PySem.W.Frag} {h : Heap} {mg : Str → Option Value} {fb : List Fb} {w : World} {fa : List He.Fa} {fn : List He.DefD}
theorem fb_at (c : exB fb K = true) (i : Nat) {f : Fb} (h : fb[i]? = some f := by rfl) : f.ok K = true := List.all_eq_true.mp c f (List.mem_of_getElem? h)
theorem kit_ok {x y : Str} {b : Bool} (h : (Fb.kit x y b).ok K = true) : PySem.W.kitOne K (.ref (He.ga K x)) (.ref (He.ga K y)) = some b := of_decide_eq_true h
theorem mk0_ok {x : Str} (h : (Fb.mk0 x).ok K = true) (k : (He.Fa.keep x).ok K = true) : Mk0 K (He.ga K x) := by
  obtain ⟨h1, h2⟩ := He.ba h
  exact ⟨h1, He.keep_ok k, of_decide_eq_true h2⟩
theorem kitT_ok {x : Str} {t : String} {b : Bool} (h : (Fb.kitT x t b).ok K = true) : PySem.W.kitOne K (.ref (He.ga K x)) (.type t) = some b := of_decide_eq_true h
theorem exm_ok {x y : Str} {b : Bool} (h : (Fb.exm x y b).ok K = true) : PySem.W.exmOne K (.ref (He.ga K x)) (.ref (He.ga K y)) = some b := of_decide_eq_true h
theorem kitN_ok {y : Str} (h : (Fb.kitN y).ok K = true) : PySem.W.kitOne K (.type "NoneType") (.ref (He.ga K y)) = some false := of_decide_eq_true h
theorem xno_ok {x f : Str} (h : (Fb.xno x f).ok K = true) : PySem.W.findIn K (.ref (He.ga K x)) f = some none := of_decide_eq_true h
theorem rin_ok {x : Str} (h : (Fb.rin x).ok K = true) : Rin K (He.ga K x) := rinB_ok h
theorem oex_ok {x : Str} (h : (Fb.oex x).ok K = true) (hm : mg x = some (.ref (He.ga K x))) : Dxi K mg x (He.ga K x) (He.ma K (He.ga K x) "__init__") := by
  obtain ⟨h1, h⟩ := He.ba h
  obtain ⟨h2, h⟩ := He.ba h
  obtain ⟨h3, h⟩ := He.ba h
  obtain ⟨h4, h⟩ := He.ba h
  obtain ⟨h5, h⟩ := He.ba h
  obtain ⟨h6, h7⟩ := He.ba h
  exact ⟨hm, ⟨oexB_ok h1, of_decide_eq_true h2, of_decide_eq_true h3, of_decide_eq_true h4, h5⟩, of_decide_eq_true h6, of_decide_eq_true h7⟩
/-- an exception class with an own __init__ -/
def Dxin (K : PySem.W.Frag) (mg : Str → Option Value) (x : Str) (C : Addr) (qual : Str) (st : Stmt) : Prop := ∃ f fd, Fun K "__init__" qual st f fd ∧ Dxi K mg x C f
theorem xin_ok {x : Str} (h : (Fb.xin x).ok K = true) : PySem.W.excIn K (He.ga K x) vErr "ValueError.__new__" = true := h
theorem dxc_ok {x : Str} (h : (Fb.exc x).ok K = true) (hm : mg x = some (.ref (He.ga K x))) : Dxc K mg x (He.ga K x) := by
  obtain ⟨h1, h⟩ := He.ba h
  obtain ⟨h2, h⟩ := He.ba h
  obtain ⟨h3, h⟩ := He.ba h
  obtain ⟨h4, h⟩ := He.ba h
  obtain ⟨h5, h⟩ := He.ba h
  obtain ⟨h6, h7⟩ := He.ba h
  have i := isiB_ok h7
  exact ⟨hm, h1, of_decide_eq_true h2, of_decide_eq_true h3, ⟨of_decide_eq_true h4, of_decide_eq_true h5, of_decide_eq_true h2, h6, i.1, i.2, i.3, i.4⟩⟩
theorem fun_of {x qual : Str} {st : Stmt} {f : Addr} {fd : FuncData} (F : FunD K x qual (defArgs st) (defBody st) (defScope st) [] [] f fd) : Fun K x qual st f fd := by
  obtain ⟨oc, od, dV, kV, doc, pm, an, cdv, ct, osl, e, lk, hcd, hD, hK⟩ := F.ex
  rcases hD with ⟨_, rfl⟩ | ⟨z, _⟩
  · exact ⟨⟨oc, od, kV, doc, pm, an, cdv, ct, osl, e, lk, hcd⟩, F.kp⟩
  · exact absurd rfl z
abbrev dD (x : Str) (st : Stmt) : He.DefD := ⟨(x, none), x, x, defArgs st, defBody st, defScope st, [], []⟩
abbrev dM (C m qual : Str) (st : Stmt) : He.DefD := ⟨(C, some m), m, qual, defArgs st, defBody st, defScope st, [], []⟩
theorem dfn_of {x : Str} {st : Stmt} (c : He.SaysD fa fn K) (G : mg x = some (.ref (He.ga K x))) (i : Nat) (e : fn[i]? = some (dD x st) := by rfl) : Dfn K mg x st := by
  obtain ⟨fd, F⟩ := c.def_ i e
  exact ⟨_, fd, fun_of F, G⟩
theorem dmt_of {C m qual : Str} {st : Stmt} (c : He.SaysD fa fn K) (M : Meth K (He.ga K C) m (He.ma K (He.ga K C) m)) (i : Nat) (e : fn[i]? = some (dM C m qual st) := by rfl) : Dmt K (He.ga K C) m qual st := by
  obtain ⟨fd, F⟩ := c.def_ i e
  exact ⟨_, fd, fun_of F, M⟩
theorem dxin_of {C qual : Str} {st : Stmt} (c : He.SaysD fa fn K) (X0 : Dxi K mg C (He.ga K C) (He.ma K (He.ga K C) "__init__")) (i : Nat) (e : fn[i]? = some (dM C "__init__" qual st) := by rfl) : Dxin K mg C (He.ga K C) qual st := by
  obtain ⟨fd, F⟩ := c.def_ i e
  exact ⟨_, fd, fun_of F, X0⟩
theorem gloxi_of {P : Program} {w : World} {base : Heap} {k : Nat} {C : Addr} {x qual : Str} {ps : List Str} {sp : Sp} {st : Stmt} (d : Dxin K mg x C qual st) (b : Bnd "__init__" qual st ps) (h : ∀ f fd, Fun K "__init__" qual st f fd → Dxi K mg x C f → FnOk P w K mg base CX0 k f fd ps sp) : GloXi P w K mg base k C x ps sp := by
  obtain ⟨f, fd, F, x0⟩ := d
  have F0 := F
  obtain ⟨⟨oc, od, kV, doc, pm, an, cdv, ct, osl, e, lk, hcd⟩, kp⟩ := F
  exact ⟨f, fd, h f fd F0 x0, x0, Binds.all fun us hl => by rw [e]; exact b kV doc pm an cdv ct us hl⟩
theorem din_of {C qual : Str} {st : Stmt} (c : He.SaysD fa fn K) (M : Mk K (He.ga K C) (He.ma K (He.ga K C) "__init__")) (i : Nat) (e : fn[i]? = some (dM C "__init__" qual st) := by rfl) : Din K (He.ga K C) qual st := by
  obtain ⟨fd, F⟩ := c.def_ i e
  exact ⟨_, fd, fun_of F, M⟩
end
/-! the hook: what the names reach in n steps, and the interpreter's statics -/
def asY (n : Nat) (g : Addr → Option Obj) : List Addr := He.asD g n ++ [cStatics]
abbrev kY (n : Nat) (g : Addr → Option Obj) : PySem.W.Frag := He.frT g (asY n g)
abbrev AlY : Type := He.AlT × Bool
def obsY (n : Nat) (fa : List He.Fa) (fn : List He.DefD) (ex : PySem.W.Frag → Bool) (g : Addr → Option Obj) : AlY := (He.obsT fa fn [] (kY n g), ex (kY n g))
theorem saysY {n : Nat} {fa : List He.Fa} {fn : List He.DefD} {ex : PySem.W.Frag → Bool} {w : World} {h : Heap} (e : obsY n fa fn ex h.get? = (He.valT fn [] w, true)) : He.SaysX fa fn [] [] ex w h (kY n h.get?) :=
  ⟨congrArg (fun z : AlY => z.1) e, congrArg (fun z : AlY => z.2) e, fun _ q => (by cases q), fun _ q => (by cases q), fun _ q => (by cases q)⟩
def hookY (n : Nat) (fa : List He.Fa) (fn : List He.DefD) (ex : PySem.W.Frag → Bool) : PySem.W.Hook where
  α := AlY
  obs := fun s => obsY n fa fn ex s.heap.get?
  val := fun w => (He.valT fn [] w, true)
  says := fun w h => ∃ K : PySem.W.Frag, K.In h ∧ He.SaysX fa fn [] [] ex w h K
  of := fun _ _ e => ⟨_, He.frT_in, saysY e⟩
  keeps := fun _ _ _ ⟨K, hK, c⟩ k => ⟨K, PySem.W.Frag.In.keeps hK k, ⟨c.t, c.more, c.hd, c.out, fun _ q => (by cases q)⟩⟩
theorem obsY_eq {n : Nat} {fa : List He.Fa} {fn : List He.DefD} {ex : PySem.W.Frag → Bool} {g : Addr → Option Obj} {s : Shared} (h : ∀ a, g a = s.heap.get? a) : obsY n fa fn ex g = (hookY n fa fn ex).obs s := by
  have e : g = s.heap.get? := funext h
  rw [e] <;> rfl
/-- two looks are one -/
theorem obsY_app {n : Nat} {fa fa' : List He.Fa} {fn fn' : List He.DefD} {fb fb' : List Fb} {g : Addr → Option Obj} {w : World} (h1 : obsY n fa fn (exB fb) g = (He.valT fn [] w, true)) (h2 : obsY n fa' fn' (exB fb') g = (He.valT fn' [] w, true)) :
    obsY n (fa ++ fa') (fn ++ fn') (exB (fb ++ fb')) g = (He.valT (fn ++ fn') [] w, true) := by
  unfold obsY at *
  generalize kY n g = K at *
  unfold He.obsT He.obsD He.valT He.valD exB at *
  obtain ⟨h1, e1⟩ := Prod.mk.inj h1
  obtain ⟨h2, e2⟩ := Prod.mk.inj h2
  obtain ⟨h1, _⟩ := Prod.mk.inj h1
  obtain ⟨h2, _⟩ := Prod.mk.inj h2
  obtain ⟨a1, m1⟩ := Prod.mk.inj h1
  obtain ⟨a2, m2⟩ := Prod.mk.inj h2
  obtain ⟨p1, q1⟩ := He.ba a1
  obtain ⟨p2, q2⟩ := He.ba a2
  rw [List.all_append, List.all_append, List.all_append, List.map_append, List.map_append, p1, p2, q1, q2, m1, m2, e1, e2]
  rfl
theorem map_obs {n : Nat} {fa fa' : List He.Fa} {fn fn' : List He.DefD} {fb fb' : List Fb} {w : World} {o : Option PySem.W.SharedT} (h1 : o.map (fun s => obsY n fa fn (exB fb) (HandSHeadRun.getT s)) = some (He.valT fn [] w, true)) (h2 : o.map (fun s => obsY n fa' fn' (exB fb') (HandSHeadRun.getT s)) = some (He.valT fn' [] w, true)) :
    o.map (fun s => obsY n (fa ++ fa') (fn ++ fn') (exB (fb ++ fb')) (HandSHeadRun.getT s)) = some (He.valT (fn ++ fn') [] w, true) := by
  obtain ⟨s, rfl, e1⟩ := Option.map_eq_some_iff.mp h1
  obtain ⟨s2, q2, e2⟩ := Option.map_eq_some_iff.mp h2
  cases q2
  exact congrArg some (obsY_app e1 e2)
end Sx
set_option Elab.async false
set_option linter.all false
set_option maxRecDepth 100000
set_option maxHeartbeats 4000000
namespace Lw
open PySem L2 Sx
inductive Exn where
  | NoText
  deriving DecidableEq
def Exn.is_BadBag : Exn → Bool
  | .NoText => false
def Exn.is_CutOff : Exn → Bool
  | .NoText => false
def Exn.is_ManyGoals : Exn → Bool
  | .NoText => false
def Exn.is_NoDay : Exn → Bool
  | .NoText => false
def Exn.is_NoHouse : Exn → Bool
  | .NoText => false
def Exn.is_NoLetter : Exn → Bool
  | .NoText => false
def Exn.is_NoNet : Exn → Bool
  | .NoText => false
def Exn.is_NoRoad : Exn → Bool
  | .NoText => false
def Exn.is_NoRow : Exn → Bool
  | .NoText => false
def Exn.is_NoText : Exn → Bool
  | .NoText => true
def Exn.is_NoWay : Exn → Bool
  | .NoText => false
def Exn.is_RoadError : Exn → Bool
  | .NoText => true

def is_number_m (word : Str) : Bool :=
  cond ((!((decide (1 ≤ (word.length : Int))) && (decide ((word.length : Int) ≤ 10)))) || (!(((TL.tl word).map (fun z1 : Nat => (decide (z1 ∈ ("0123456789" : Str).cps.toList)))).all id))) (
    false) (
  ((decide (word = "0")) || (!decide ((oneC ((TL.tl word).getD (0 : Int).toNat 0)) = "0"))))

def show_bag_m (bag : Int × Int × List Int) : Str :=
  (((((toString bag.1 : Str) ++ " ") ++ (toString bag.2.1 : Str)) ++ ": ") ++ (Txt.join " " (bag.2.2.map (fun z1 : Int => (toString z1 : Str)))))

def show_plan_m (plan : List (Int × Int × List Int)) : Str :=
  (Txt.join "; " (plan.map (fun z1 : Int × Int × List Int => (show_bag_m z1))))

def read_bag_m (text : Str) : Except Exn (Int × Int × List Int) :=
  lt (Txt.split ((Txt.partition text ": ").1) " ") fun words : List Str =>
  lt (Txt.split ((Txt.partition text ": ").2.2) " ") fun numbers : List Str =>
  cond ((!decide ((words.length : Int) = 2)) || (!(((words ++ numbers).map (fun z1 : Str => (is_number_m z1))).all id))) (
    .error Exn.NoText) (
  .ok (((PySem.intText? (words.getD 0 "")).getD 0), ((PySem.intText? (words.getD 1 "")).getD 0), (numbers.map (fun z2 : Str => ((PySem.intText? z2).getD 0)))))

def read_plan_m (text : Str) : Except Exn (List (Int × Int × List Int)) :=
  cond (decide (text = "")) (
    .ok ([] : List (Int × Int × List Int))) (
  xb (mapE (fun z1 : Str => read_bag_m z1) (Txt.split text "; ")) (fun v1 => .ok v1) (fun e1 => .error e1))

def law_at_m (script : List Int) (k : Int) : Int :=
  cond (decide (k < (script.length : Int))) (
    (script.getD (k).toNat 0)) (
  0)

def law_odd_m (cell : Int) : Str :=
  lt ([" ", "3", "3 0", "3 0:", "3 0: ", "3 0:1", "3 0 : 1", "3  0: 1", " 3 0: 1", "3 0: 1 ", "3 0:  1"] : List Str) fun some_2 : List Str =>
  lt (some_2 ++ (["3: 1", "3 0 1: 1", "30: 1", "-3 0: 1", "+3 0: 1", "3 -0: 1", "03 0: 1", "3 00: 1", "3 0: 01"] : List Str)) fun some_3 : List Str =>
  lt (some_3 ++ (["3 0: 1  2", "3 0: -1", "12345678901 0: 1", "3 12345678901: 1", "3 0: 12345678901"] : List Str)) fun some_4 : List Str =>
  lt (some_4 ++ (["a 0: 1", "3 b: 1", "3 0: c", "3 0: 1,2"] : List Str)) fun some_5 : List Str =>
  lt (some_5 ++ (["3 0: 1;", "3 0: 1; ", "; 3 0: 1", "3 0: 1;4 0: 1", "3 0: 1 ; 4 0: 1", "3 0: 1; ; 4 0: 1", "3 0:: 1"] : List Str)) fun some_6 : List Str =>
  lt (some_6 ++ (["3 0: 1\n", "\n3 0: 1", "3 0:\n1", "3.0 0: 1", "3_0 0: 1", "3 0: 1_0", ": 1", " : 1"] : List Str)) fun some_7 : List Str =>
  lt (some_7 ++ ([";", "; ", "3 0: 1:"] : List Str)) fun some_8 : List Str =>
  lt (some_8 ++ (["3 0: 1; 4", "3 0: 1; 4 0:", "3,0: 1", "(3, 0, (1,))", "3 0: x1", "3 0: 1x"] : List Str)) fun some_9 : List Str =>
  (some_9.getD ((cell % (some_9.length : Int))).toNat "")

def law_placed_m (odd : Str) (text : Str) (way : Int) : Str :=
  cond ((decide (way = 0)) || (decide (text = ""))) (
    odd) (
  cond (decide (way = 1)) (
    ((odd ++ "; ") ++ text)) (
  cond (decide (way = 2)) (
    ((text ++ "; ") ++ odd)) (
  ((((text ++ "; ") ++ odd) ++ "; ") ++ text))))

def law_kept_m (text : Str) : Option Exn :=
  lt none fun kept : Option Exn =>
  bndV (tryN (
      xb (read_plan_m text) (fun v1 =>
        .nx kept) (fun e1 => .rt (.error e1))) (fun e : Exn => (some e))) fun t1 : Option Exn =>
  t1

def law_refused_m (text : Str) : Bool :=
  lt (law_kept_m text) fun kept : Option Exn =>
  cond (kept.any (fun e : Exn => (e.is_BadBag || (e.is_CutOff || (e.is_ManyGoals || (e.is_NoDay || (e.is_NoHouse || (e.is_NoLetter || (e.is_NoNet || (e.is_NoRoad || (e.is_NoRow || (e.is_NoWay || false)))))))))))) (
    false) (
  ((kept.any Exn.is_NoText) && (kept.any fun _ => true)))

def law_bent_m (text : Str) (cell : Int) : Str :=
  lt ((cell * 48271) % 2147483647) fun by_2 : Int =>
  lt (by_2 % (text.length : Int)) fun at_2 : Int =>
  lt (oneC ((TL.tl "0123 :;a-\n").getD (((by_2 / 4096) % 10)).toNat 0)) fun sign : Str =>
  cond (decide ((cell % 3) = 0)) (
    ((cutS text none (some at_2)) ++ (cutS text (some (at_2 + 1)) none))) (
  cond (decide ((cell % 3) = 1)) (
    (((cutS text none (some at_2)) ++ sign) ++ (cutS text (some at_2) none))) (
  (((cutS text none (some at_2)) ++ sign) ++ (cutS text (some (at_2 + 1)) none))))

def law_m (script : List Int) : Bool :=
  lt ([] : List (Int × Int × List Int)) fun bags =>
  lt (([5] ++ (cut script (some 2) (some 5))).foldl (fun (s1 : (List (Int × Int × List Int))) (x1 : Int) =>
    lt ((x1 * 48271) % 2147483647) fun n : Int =>
    lt (s1 ++ [((x1 % 1000000000), (n % 40), (cut ([((n / 64) % 41), ((n / 4096) % 41)]) none (some (1 + ((n / 2) % 2)))))]) fun bags_2 =>
    bags_2) bags) fun s1 : (List (Int × Int × List Int)) =>
  lt (show_plan_m s1) fun text : Str =>
  lt (law_placed_m (law_odd_m (law_at_m script 0)) text ((law_at_m script 1) % 4)) fun odd : Str =>
  cond ((!(law_refused_m odd)) || (!(decide ((okv (read_plan_m text) []) = s1)))) (
    false) (
  bndV (loop (fun (s2 : Unit) (x2 : Int) =>
    lt (law_bent_m text x2) fun other : Str =>
    cond ((!(law_refused_m other)) && (!decide ((show_plan_m (okv (read_plan_m other) [])) = other))) (
      .rt false) (
      .nx ())) (cut script (some 1) (some 9)) ()) fun s2 : Unit =>
  ((law_refused_m odd) && (decide ((okv (read_plan_m text) []) = s1))))

end Lw
set_option Elab.async false
set_option linter.all false
set_option maxRecDepth 100000
set_option maxHeartbeats 4000000
namespace Lw
open PySem L2 Sx
/-! ### plain: bags as texts, and back -/
def numS (i : Int) : Str := Str.ofString (toString i)
def N10 (i : Int) : Prop := 0 ≤ i ∧ i < 10000000000
theorem szS {n : Nat} (h : n ≤ 10000) : n ≤ sizeLine := Nat.le_trans h (by decide)
theorem numS_tl {i : Int} (h : 0 ≤ i) : TL.tl (numS i) = TL.numL i.toNat := by
  obtain ⟨n, rfl⟩ : ∃ n : Nat, i = (n : Int) := ⟨i.toNat, by omega⟩
  rw [Int.toNat_natCast]
  exact TL.tl_num n
theorem numS_len {i : Int} (h : N10 i) : 1 ≤ (numS i).length ∧ (numS i).length ≤ 10 := by
  rw [TL.len_tl, numS_tl h.1]
  refine ⟨?_, TL.numL_len (by decide) (by have := h.2; have := h.1; omega)⟩
  have := TL.numL_ne i.toNat
  cases e : TL.numL i.toNat with
  | nil => exact absurd e this
  | cons a r => simp
theorem numS_free {i : Int} {s : Nat} (h : 0 ≤ i) (hs : s < 48 ∨ 57 < s) : s ∉ TL.tl (numS i) := by
  rw [numS_tl h]
  exact TL.numL_free hs
theorem numS_int {i : Int} (h : N10 i) : PySem.intText? (numS i) = some i := by
  obtain ⟨n, rfl⟩ : ∃ n : Nat, i = (n : Int) := ⟨i.toNat, by have := h.1; omega⟩
  refine TL.int_num ?_
  exact Nat.le_trans (TL.numL_len (k := 10) (by decide) (by have := h.2; omega)) (by decide)
theorem numS_log {i : Int} (h : N10 i) : i.natAbs.log2 < 1920 := by
  have h0 := h.1
  have h1 := h.2
  have h : i.natAbs < 10 ^ 12 := by omega
  rcases Nat.eq_zero_or_pos i.natAbs with z | z
  · rw [z]; decide
  · have := (Nat.log2_lt (k := 40) (show i.natAbs ≠ 0 by omega)).mpr (Nat.lt_of_lt_of_le h (by decide))
    omega
/-- the first sign -/
theorem numL_head (n : Nat) (hn : 0 < n) : ∃ a r, TL.numL n = a :: r ∧ a ≠ 48 := by
  induction n using Nat.strongRecOn with
  | _ n ih =>
    by_cases h : n < 10
    · exact ⟨48 + n, [], TL.numL_lt h, by omega⟩
    · obtain ⟨a, r, e, h2⟩ := ih (n / 10) (by omega) (by omega)
      exact ⟨a, r ++ [48 + n % 10], by rw [TL.numL_step (by omega), e]; rfl, h2⟩
abbrev figs : Str := "0123456789"
theorem digit_in {c : Nat} (h : 48 ≤ c ∧ c ≤ 57) : c ∈ figs.cps.toList := by
  have e : figs.cps.toList = [48, 49, 50, 51, 52, 53, 54, 55, 56, 57] := by decide +kernel
  rw [e]
  simp only [List.mem_cons, List.not_mem_nil, or_false]
  omega
theorem numS_all {i : Int} (h : 0 ≤ i) : ((TL.tl (numS i)).map fun c => decide (c ∈ figs.cps.toList)).all id = true := by
  rw [List.all_map]
  refine List.all_eq_true.mpr fun c hc => ?_
  rw [numS_tl h] at hc
  have := TL.numL_digits _ c hc
  exact decide_eq_true (digit_in this)
theorem numS_first {i : Int} (h : N10 i) : numS i = "0" ∨ ∃ c r, TL.tl (numS i) = c :: r ∧ (⟨#[c]⟩ : Str) ≠ "0" := by
  by_cases z : i = 0
  · subst z
    exact .inl (by decide +kernel)
  · obtain ⟨a, r, e, h2⟩ := numL_head i.toNat (by have := h.1; omega)
    refine .inr ⟨a, r, by rw [numS_tl h.1, e], fun q => h2 ?_⟩
    have e1 : TL.tl (⟨#[a]⟩ : Str) = [48] := by rw [q]; decide +kernel
    exact (List.cons.inj e1).1
abbrev Bg := Int × Int × List Int
structure OkB (b : Bg) : Prop where
  t : N10 b.1
  r : N10 b.2.1
  n : ∀ n ∈ b.2.2, N10 n
  ne : b.2.2 ≠ []
  le : b.2.2.length ≤ 4
def bagD (b : Bg) : D := .tup [.int b.1, .int b.2.1, .tup (b.2.2.map .int)]
abbrev blank : Str := " "
def headS (b : Bg) : Str := numS b.1 ++ " " ++ numS b.2.1
def tailS (b : Bg) : Str := Txt.join " " (b.2.2.map numS)
def bagS (b : Bg) : Str := numS b.1 ++ " " ++ numS b.2.1 ++ ": " ++ Txt.join " " (b.2.2.map numS)
def planS (bs : List Bg) : Str := Txt.join "; " (bs.map bagS)
def lineSt (s : Str) (ns : List Int) : Str := ns.foldl (fun s n => s ++ " " ++ numS n) s
def lineS (b : Bg) : Str := lineSt (numS b.1 ++ " " ++ numS b.2.1 ++ ":") b.2.2
theorem tl_blank : TL.tl " " = [32] := by decide +kernel
theorem tl_col : TL.tl ": " = [58, 32] := by decide +kernel
theorem tl_semi : TL.tl "; " = [59, 32] := by decide +kernel
/-- the text of the letters, each behind a blank -/
theorem lineSt_tl : ∀ (ns : List Int) (s : Str), TL.tl (lineSt s ns) = TL.tl s ++ (ns.map fun n => 32 :: TL.tl (numS n)).flatten
  | [], s => by show TL.tl s = _; simp
  | n :: r, s => by
    show TL.tl (lineSt (s ++ " " ++ numS n) r) = _
    rw [lineSt_tl r, TL.tl_append, TL.tl_append, tl_blank]
    simp
theorem join_tl : ∀ (ns : List Int), ns ≠ [] → 32 :: TL.tl (Txt.join " " (ns.map numS)) = (ns.map fun n => 32 :: TL.tl (numS n)).flatten
  | [], h => absurd rfl h
  | [n], _ => by
    rw [TL.join_eq]
    show 32 :: TL.tl (numS n) = _
    simp
  | n :: m :: r, _ => by
    have ih := join_tl (m :: r) (by simp)
    rw [TL.join_eq, TL.tl_join] at ih ⊢
    show 32 :: (TL.tl (numS n) ++ (TL.tl " " ++ TL.joinL (TL.tl " ") (((m :: r).map numS).map TL.tl))) = _
    rw [tl_blank] at ih ⊢
    show _ = (32 :: TL.tl (numS n)) ++ ((m :: r).map fun n => 32 :: TL.tl (numS n)).flatten
    rw [← ih]
    simp
theorem line_bag {b : Bg} (h : OkB b) : lineS b = bagS b := by
  apply TL.ext_tl
  unfold lineS bagS
  rw [lineSt_tl, ← join_tl _ h.ne]
  simp only [TL.tl_append, tl_col]
  have e : TL.tl ":" = [58] := by decide +kernel
  rw [e]
  simp
/-! reading -/
theorem bag_eq (b : Bg) : bagS b = headS b ++ ": " ++ tailS b := rfl
theorem head_free {b : Bg} (h : OkB b) {s : Nat} (hs : s < 48 ∨ 57 < s) (h32 : s ≠ 32) : s ∉ TL.tl (headS b) := by
  unfold headS
  rw [TL.tl_append, TL.tl_append, tl_blank]
  intro q
  rcases List.mem_append.mp q with q | q
  · rcases List.mem_append.mp q with q | q
    · exact numS_free h.t.1 hs q
    · exact h32 (List.mem_singleton.mp q)
  · exact numS_free h.r.1 hs q
theorem flat_free {ns : List Int} (h : ∀ n ∈ ns, N10 n) {s : Nat} (hs : s < 48 ∨ 57 < s) (h32 : s ≠ 32) : s ∉ (ns.map fun n => 32 :: TL.tl (numS n)).flatten := by
  intro q
  obtain ⟨l, hl, hm⟩ := List.mem_flatten.mp q
  obtain ⟨n, hn, rfl⟩ := List.mem_map.mp hl
  rcases List.mem_cons.mp hm with e | e
  · exact h32 e
  · exact numS_free (h n hn).1 hs e
theorem bag_free {b : Bg} (h : OkB b) : 59 ∉ TL.tl (bagS b) := by
  rw [← line_bag h]
  unfold lineS
  rw [lineSt_tl]
  have e : TL.tl ":" = [58] := by decide +kernel
  intro q
  rcases List.mem_append.mp q with q | q
  · rw [TL.tl_append, e] at q
    rcases List.mem_append.mp q with q | q
    · exact head_free h (by omega) (by omega) q
    · exact absurd (List.mem_singleton.mp q) (by decide)
  · exact flat_free h.n (by omega) (by omega) q
theorem part_bag {b : Bg} (h : OkB b) : Txt.partition (bagS b) ": " = (headS b, (": " : Str), tailS b) := by
  rw [bag_eq]
  exact TL.partition_app tl_col (head_free h (by omega) (by omega))
theorem split_head {b : Bg} (h : OkB b) : Txt.split (headS b) " " = [numS b.1, numS b.2.1] := by
  have e : headS b = Txt.join " " [numS b.1, numS b.2.1] := by
    rw [TL.join_eq]
    rfl
  rw [e]
  refine TL.split_join tl_blank (by decide +kernel) (by simp) fun p hp => ?_
  simp only [List.mem_cons, List.not_mem_nil, or_false] at hp
  rcases hp with rfl | rfl
  · exact numS_free h.t.1 (by omega)
  · exact numS_free h.r.1 (by omega)
theorem split_tail {b : Bg} (h : OkB b) : Txt.split (tailS b) " " = b.2.2.map numS := by
  refine TL.split_join tl_blank (by decide +kernel) (by simpa using h.ne) fun p hp => ?_
  obtain ⟨n, hn, rfl⟩ := List.mem_map.mp hp
  exact numS_free (h.n n hn).1 (by omega)
theorem split_plan {bs : List Bg} (h : ∀ b ∈ bs, OkB b) (hne : bs ≠ []) : Txt.split (planS bs) "; " = bs.map bagS := by
  refine TL.split_join tl_semi (by decide +kernel) (by simpa using hne) fun p hp => ?_
  obtain ⟨b, hb, rfl⟩ := List.mem_map.mp hp
  exact bag_free (h b hb)
theorem plan_ne {bs : List Bg} (hne : bs ≠ []) : planS bs ≠ "" := by
  cases bs with
  | nil => exact absurd rfl hne
  | cons b r =>
    intro e
    have e2 := congrArg TL.tl e
    unfold planS at e2
    have z : TL.tl ("" : Str) = [] := by decide +kernel
    rw [TL.join_eq, TL.tl_join, z] at e2
    have q : 32 ∈ TL.tl (bagS b) := by
      unfold bagS
      simp only [TL.tl_append, tl_blank]
      simp
    have : (32 : Nat) ∈ TL.joinL (TL.tl "; ") (((b :: r).map bagS).map TL.tl) := by
      cases r with
      | nil => exact q
      | cons c r => exact List.mem_append_left _ q
    rw [e2] at this
    cases this
theorem plan_nil : planS [] = "" := by decide +kernel
/-! sizes -/
theorem joinL_len {S : List Nat} {k : Nat} : ∀ {ps : List (List Nat)}, (∀ p ∈ ps, p.length ≤ k) → (TL.joinL S ps).length ≤ ps.length * (k + S.length)
  | [], _ => Nat.zero_le _
  | [p], h => by
    have := h p List.mem_cons_self
    show p.length ≤ 1 * _
    omega
  | p :: q :: r, h => by
    have h1 := h p List.mem_cons_self
    have h2 := joinL_len (S := S) (ps := q :: r) fun z hz => h z (List.mem_cons_of_mem _ hz)
    show (p ++ (S ++ TL.joinL S (q :: r))).length ≤ ((q :: r).length + 1) * (k + S.length)
    rw [List.length_append, List.length_append, Nat.add_mul]
    omega
theorem tail_len {b : Bg} (h : OkB b) : (tailS b).length ≤ 44 := by
  unfold tailS
  rw [TL.join_eq, TL.len_tl, TL.tl_join]
  refine Nat.le_trans (joinL_len (k := 10) fun p hp => ?_) ?_
  · obtain ⟨z, hz, rfl⟩ := List.mem_map.mp hp
    obtain ⟨n, hn, rfl⟩ := List.mem_map.mp hz
    rw [← TL.len_tl]
    exact (numS_len (h.n n hn)).2
  · rw [tl_blank, List.length_map, List.length_map]
    have := h.le
    show _ * (10 + 1) ≤ 44
    omega
theorem head_len {b : Bg} (h : OkB b) : (headS b).length ≤ 21 := by
  unfold headS
  rw [TL.len_tl, TL.tl_append, TL.tl_append, tl_blank, List.length_append, List.length_append, ← TL.len_tl, ← TL.len_tl]
  have := (numS_len h.t).2
  have := (numS_len h.r).2
  show _ + 1 + _ ≤ 21
  omega
theorem bag_len {b : Bg} (h : OkB b) : (bagS b).length ≤ 70 := by
  rw [bag_eq, TL.len_tl, TL.tl_append, TL.tl_append, tl_col, List.length_append, List.length_append, ← TL.len_tl, ← TL.len_tl]
  have := head_len h
  have := tail_len h
  show _ + 2 + _ ≤ 70
  omega
theorem plan_len {bs : List Bg} (h : ∀ b ∈ bs, OkB b) (hl : bs.length ≤ 60) : (planS bs).length ≤ 5000 := by
  unfold planS
  rw [TL.join_eq, TL.len_tl, TL.tl_join]
  refine Nat.le_trans (joinL_len (k := 70) fun p hp => ?_) ?_
  · obtain ⟨z, hz, rfl⟩ := List.mem_map.mp hp
    obtain ⟨n, hn, rfl⟩ := List.mem_map.mp hz
    rw [← TL.len_tl]
    exact bag_len (h n hn)
  · rw [tl_semi, List.length_map, List.length_map]
    show _ * (70 + 2) ≤ 5000
    omega
theorem sum_le {k : Nat} : ∀ {ns : List Nat}, (∀ n ∈ ns, n ≤ k) → ns.sum ≤ ns.length * k
  | [], _ => Nat.zero_le _
  | n :: r, h => by
    have h1 := h n List.mem_cons_self
    have h2 := sum_le (ns := r) fun m hm => h m (List.mem_cons_of_mem _ hm)
    rw [List.sum_cons, List.length_cons, Nat.add_mul]
    omega
/-! the law's own bags -/
def pick4 (n : Int) : Int := [n % 41, n, 0, 10000000000 - 1 - n].getD (n / 64 % 4).toNat 0
def bgNext (n : Int) : Int := (n * 16807 + 7) % 2147483647
def bgSt (cell : Int) : Nat → Int × List Int
  | 0 => (cell * 48271 % 2147483647, [cell % 10000000000])
  | i + 1 => (bgNext (bgSt cell i).1, (bgSt cell i).2 ++ [pick4 (bgNext (bgSt cell i).1)])
def lawBag (cell : Int) : Bg :=
  let s := bgSt cell (cell * 48271 % 2147483647 % 4).toNat
  ([s.1 % 50, cell / 7 % 10000000000].getD (s.1 / 8 % 2).toNat 0, s.1 / 16 % 40, s.2)
theorem bgSt_ok (cell : Int) : ∀ i, (0 ≤ (bgSt cell i).1 ∧ (bgSt cell i).1 < 2147483647) ∧ (bgSt cell i).2.length = i + 1 ∧ ∀ n ∈ (bgSt cell i).2, N10 n
  | 0 => by
    refine ⟨by show 0 ≤ cell * 48271 % 2147483647 ∧ cell * 48271 % 2147483647 < 2147483647; omega, rfl, fun n hn => ?_⟩
    have e : n = cell % 10000000000 := List.mem_singleton.mp hn
    subst e
    exact ⟨by omega, by omega⟩
  | i + 1 => by
    obtain ⟨h1, h2, h3⟩ := bgSt_ok cell i
    have hb : 0 ≤ bgNext (bgSt cell i).1 ∧ bgNext (bgSt cell i).1 < 2147483647 := by unfold bgNext; omega
    refine ⟨hb, by show ((bgSt cell i).2 ++ [_]).length = _; rw [List.length_append, h2]; rfl, fun n hn => ?_⟩
    rcases List.mem_append.mp (show n ∈ (bgSt cell i).2 ++ [pick4 (bgNext (bgSt cell i).1)] from hn) with q | q
    · exact h3 n q
    · rw [List.mem_singleton.mp q]
      generalize bgNext (bgSt cell i).1 = m at hb
      unfold pick4
      have hk : (m / 64 % 4).toNat < 4 := by omega
      rcases (show (m / 64 % 4).toNat = 0 ∨ (m / 64 % 4).toNat = 1 ∨ (m / 64 % 4).toNat = 2 ∨ (m / 64 % 4).toNat = 3 by omega) with e | e | e | e <;> rw [e]
      · show N10 (m % 41); exact ⟨by omega, by omega⟩
      · show N10 m; exact ⟨by omega, by omega⟩
      · show N10 0; exact ⟨by omega, by omega⟩
      · show N10 (10000000000 - 1 - m); exact ⟨by omega, by omega⟩
theorem lawBag_ok (cell : Int) : OkB (lawBag cell) := by
  obtain ⟨h1, h2, h3⟩ := bgSt_ok cell (cell * 48271 % 2147483647 % 4).toNat
  refine ⟨?_, ?_, h3, ?_, ?_⟩
  · show N10 ([_, _].getD _ 0)
    generalize (bgSt cell (cell * 48271 % 2147483647 % 4).toNat).1 = m at h1 ⊢
    rcases (show (m / 8 % 2).toNat = 0 ∨ (m / 8 % 2).toNat = 1 by omega) with e | e <;> rw [e]
    · show N10 (m % 50); exact ⟨by omega, by omega⟩
    · show N10 (cell / 7 % 10000000000); exact ⟨by omega, by omega⟩
  · show N10 (_ / 16 % 40)
    exact ⟨by omega, by omega⟩
  · show (bgSt cell _).2 ≠ []
    intro z
    rw [z] at h2
    cases h2
  · show (bgSt cell _).2.length ≤ 4
    rw [h2]
    omega

end Lw
set_option Elab.async false
set_option linter.all false
set_option maxRecDepth 100000
set_option maxHeartbeats 4000000
namespace Lw
open PySem L2 Sx
/-! ### plain: numbers, bags, plans as texts: what is read has just that text -/
theorem digit_of {c : Nat} (h : c ∈ ("0123456789" : Str).cps.toList) : 48 ≤ c ∧ c ≤ 57 := by
  have e : ("0123456789" : Str).cps.toList = [48, 49, 50, 51, 52, 53, 54, 55, 56, 57] := by decide +kernel
  rw [e] at h
  simp only [List.mem_cons, List.not_mem_nil, or_false] at h
  omega
theorem numL_of : ∀ (k : Nat) (ds : List Nat), ds.length = k → ds ≠ [] → (∀ c ∈ ds, 48 ≤ c ∧ c ≤ 57) → (ds = [48] ∨ ∀ a r, ds = a :: r → a ≠ 48) → ∃ n, TL.numL n = ds ∧ n < 10 ^ k
  | 0, ds, hl, hne, _, _ => absurd (List.length_eq_zero_iff.mp hl) hne
  | k + 1, ds, hl, hne, hd, h0 => by
    obtain ⟨d, init, rfl⟩ : ∃ d init, ds = init ++ [d] := ⟨ds.getLast hne, ds.dropLast, (List.dropLast_concat_getLast hne).symm⟩
    have hd1 := hd d (List.mem_append_right _ List.mem_cons_self)
    have hli : init.length = k := by simp at hl; omega
    cases init with
    | nil =>
      have hk : k = 0 := hli.symm
      subst hk
      refine ⟨d - 48, ?_, by omega⟩
      rw [TL.numL_lt (by omega)]
      show [48 + (d - 48)] = [d]
      rw [show 48 + (d - 48) = d by omega]
    | cons a r =>
      have ha : a ≠ 48 := by
        rcases h0 with h0 | h0
        · have := congrArg List.length h0
          simp at this
        · exact h0 a (r ++ [d]) rfl
      obtain ⟨m, hm, hb⟩ := numL_of k (a :: r) hli (by simp) (fun c hc => hd c (List.mem_append_left _ hc)) (.inr fun a' r' e => by cases e; exact ha)
      have hm0 : m ≠ 0 := fun z => by
        rw [z, TL.numL_lt (by omega)] at hm
        cases hm
        exact ha rfl
      refine ⟨10 * m + (d - 48), ?_, by rw [Nat.pow_succ]; omega⟩
      rw [TL.numL_step (by omega), show (10 * m + (d - 48)) / 10 = m by omega, hm, show 48 + (10 * m + (d - 48)) % 10 = d by omega]
theorem one_ne {a : Nat} : (oneC a : Str) = "0" ↔ a = 48 := by
  constructor
  · intro q
    have e1 : TL.tl (oneC a : Str) = [48] := by rw [q]; decide +kernel
    exact (List.cons.inj e1).1
  · intro e
    rw [e]
    decide +kernel
theorem isNum_num {w : Str} (h : is_number_m w = true) : ∃ n, w = numS n ∧ N10 n := by
  unfold is_number_m at h
  cases hA : ((!((decide (1 ≤ (w.length : Int))) && (decide ((w.length : Int) ≤ 10)))) || (!(((TL.tl w).map (fun z1 : Nat => (decide (z1 ∈ ("0123456789" : Str).cps.toList)))).all id))) with
  | true => rw [hA] at h; cases h
  | false =>
    rw [hA] at h
    have h : ((decide (w = "0")) || (!decide ((oneC ((TL.tl w).getD (0 : Int).toNat 0)) = "0"))) = true := h
    obtain ⟨h1, h2⟩ := Bool.or_eq_false_iff.mp hA
    have h1 : ((decide (1 ≤ (w.length : Int))) && (decide ((w.length : Int) ≤ 10))) = true := by simpa using h1
    obtain ⟨h3, h4⟩ := Bool.and_eq_true_iff.mp h1
    have h3 := of_decide_eq_true h3
    have h4 := of_decide_eq_true h4
    have h2 : ((TL.tl w).map (fun z1 : Nat => (decide (z1 ∈ ("0123456789" : Str).cps.toList)))).all id = true := by
      cases q : ((TL.tl w).map (fun z1 : Nat => (decide (z1 ∈ ("0123456789" : Str).cps.toList)))).all id with
      | true => rfl
      | false => rw [q] at h2; cases h2
    have hd : ∀ c ∈ TL.tl w, 48 ≤ c ∧ c ≤ 57 := fun c hc => by
      rw [List.all_map] at h2
      exact digit_of (of_decide_eq_true (List.all_eq_true.mp h2 c hc))
    have hl : w.length = (TL.tl w).length := TL.len_tl w
    have hne : TL.tl w ≠ [] := fun e => by rw [e] at hl; have : w.length = 0 := hl; omega
    obtain ⟨n, hn, hb⟩ := numL_of _ (TL.tl w) rfl hne hd (by
      rcases Bool.or_eq_true_iff.mp h with h | h
      · exact .inl (by rw [of_decide_eq_true h]; decide +kernel)
      · refine .inr fun a r e => ?_
        rw [e] at h
        have h : (!decide ((oneC a : Str) = "0")) = true := h
        intro z
        rw [decide_eq_true (one_ne.mpr z)] at h
        cases h)
    refine ⟨(n : Int), TL.ext_tl ?_, by omega, ?_⟩
    · rw [numS_tl (by omega), Int.toNat_natCast, hn]
    · have : (10 : Nat) ^ (TL.tl w).length ≤ 10 ^ 10 := Nat.pow_le_pow_right (by decide) (by omega)
      have : n < 10 ^ 10 := Nat.lt_of_lt_of_le hb this
      omega
theorem num_isNum {n : Int} (h : N10 n) : is_number_m (numS n) = true := by
  have hl := numS_len h
  have ha := numS_all h.1
  unfold is_number_m
  rw [show ((TL.tl (numS n)).map (fun z1 : Nat => (decide (z1 ∈ ("0123456789" : Str).cps.toList)))).all id = true from ha, decide_eq_true (show 1 ≤ ((numS n).length : Int) by omega), decide_eq_true (show ((numS n).length : Int) ≤ 10 by omega)]
  show ((decide (numS n = "0")) || (!decide ((oneC ((TL.tl (numS n)).getD (0 : Int).toNat 0)) = "0"))) = true
  rcases numS_first h with e | ⟨ch, r, e, hne⟩
  · rw [decide_eq_true e]; rfl
  · rw [e]
    have : decide ((oneC ch : Str) = "0") = false := decide_eq_false hne
    show (_ || (!decide ((oneC ch : Str) = "0"))) = true
    rw [this, Bool.not_false, Bool.or_true]
theorem intV_num {n : Int} (h : N10 n) : (PySem.intText? (numS n)).getD 0 = n := by rw [numS_int h]; rfl
theorem vals_num : ∀ {ns : List Int}, (∀ n ∈ ns, N10 n) → (ns.map numS).map (fun z2 : Str => ((PySem.intText? z2).getD 0)) = ns
  | [], _ => rfl
  | n :: ns, h => by
    rw [List.map_cons, List.map_cons, intV_num (h n List.mem_cons_self), vals_num fun x hx => h x (List.mem_cons_of_mem _ hx)]
theorem show_eq (b : Bg) : show_bag_m b = bagS b := rfl
theorem plan_eq (bs : List Bg) : show_plan_m bs = planS bs := rfl
theorem words_num : ∀ {ws : List Str}, (ws.map (fun z1 : Str => (is_number_m z1))).all id = true → ∃ ns : List Int, ws = ns.map numS ∧ ∀ n ∈ ns, N10 n
  | [], _ => ⟨[], rfl, fun _ h => (nomatch h)⟩
  | w :: ws, h => by
    rw [List.map_cons, List.all_cons] at h
    obtain ⟨h1, h2⟩ := Bool.and_eq_true_iff.mp h
    obtain ⟨n, rfl, hn⟩ := isNum_num h1
    obtain ⟨ns, rfl, hs⟩ := words_num h2
    exact ⟨n :: ns, rfl, fun x hx => (List.mem_cons.mp hx).elim (fun e => by rw [e]; exact hn) (hs x)⟩
/-- a bag that was read -/
structure BgR (b : Bg) : Prop where
  t : N10 b.1
  r : N10 b.2.1
  n : ∀ n ∈ b.2.2, N10 n
theorem join_split (x y : Str) : Txt.join y (Txt.split x y) = x := by
  rw [TL.join_eq]; exact StrLaws.join_split x y
theorem read_cond {text : Str} {b : Bg} (h : read_bag_m text = .ok b) : ∃ a c ns, Txt.split (Txt.partition text ": ").1 " " = [numS a, numS c] ∧ Txt.split (Txt.partition text ": ").2.2 " " = ns.map numS ∧ N10 a ∧ N10 c ∧ (∀ n ∈ ns, N10 n) ∧ b = (a, c, ns) := by
  unfold read_bag_m at h
  rw [lt_eq, lt_eq] at h
  generalize Txt.split (Txt.partition text ": ").1 " " = ws at h ⊢
  generalize Txt.split (Txt.partition text ": ").2.2 " " = us at h ⊢
  cases hA : ((!decide ((ws.length : Int) = 2)) || (!(((ws ++ us).map (fun z1 : Str => (is_number_m z1))).all id))) with
  | true => rw [hA] at h; cases h
  | false =>
    rw [hA] at h
    obtain ⟨h1, h2⟩ := Bool.or_eq_false_iff.mp hA
    have h1 : ((ws.length : Int) = 2) := by simpa using h1
    have h2 : ((ws ++ us).map (fun z1 : Str => (is_number_m z1))).all id = true := by
      cases q : ((ws ++ us).map (fun z1 : Str => (is_number_m z1))).all id with
      | true => rfl
      | false => rw [q] at h2; cases h2
    rw [List.map_append, List.all_append] at h2
    obtain ⟨h3, h4⟩ := Bool.and_eq_true_iff.mp h2
    obtain ⟨ms, rfl, hm⟩ := words_num h3
    obtain ⟨ns, rfl, hn⟩ := words_num h4
    rw [List.length_map] at h1
    obtain ⟨a, c, rfl⟩ : ∃ a c, ms = [a, c] := by
      cases ms with
      | nil => cases h1
      | cons a ms => cases ms with
        | nil => cases h1
        | cons c ms => cases ms with
          | nil => exact ⟨a, c, rfl⟩
          | cons d ms => have h1 : ((ms.length + 1 + 1 + 1 : Nat) : Int) = 2 := h1; omega
    have ha := hm a List.mem_cons_self
    have hc := hm c (List.mem_cons_of_mem _ List.mem_cons_self)
    refine ⟨a, c, ns, rfl, rfl, ha, hc, hn, ?_⟩
    have h : Except.ok ((PySem.intText? (numS a)).getD 0, (PySem.intText? (numS c)).getD 0, (ns.map numS).map (fun z2 : Str => ((PySem.intText? z2).getD 0))) = Except.ok b := h
    rw [intV_num ha, intV_num hc, vals_num hn] at h
    exact (Except.ok.inj h).symm
theorem read_ok {text : Str} {b : Bg} (h : read_bag_m text = .ok b) : BgR b ∧ bagS b = text := by
  obtain ⟨a, c, ns, e1, e2, ha, hc, hn, rfl⟩ := read_cond h
  refine ⟨⟨ha, hc, hn⟩, ?_⟩
  have hs := StrLaws.partition_sum text ": "
  have hp := TL.partition_par text ": " (by rw [tl_col]; simp)
  have j1 := join_split (Txt.partition text ": ").1 " "
  have j2 := join_split (Txt.partition text ": ").2.2 " "
  rw [e1] at j1
  rw [e2] at j2
  have hm : (Txt.partition text ": ").2.1 = ": " := by
    cases q : TL.par (TL.tl ": ") [] (TL.tl text) with
    | some ab => rw [hp, q]
    | none =>
      rw [q] at hp
      have e3 : (Txt.partition text ": ").2.2 = Str.empty := by rw [hp]
      rw [e3] at e2
      have e4 : Txt.split Str.empty " " = [Str.empty] := by decide +kernel
      rw [e4] at e2
      cases ns with
      | nil => cases e2
      | cons n r =>
        have := (List.cons.inj e2).1
        have hl := (numS_len (hn n List.mem_cons_self)).1
        rw [← this] at hl
        exact absurd hl (by decide)
  rw [hm, ← j1, ← j2] at hs
  have j3 : Txt.join " " [numS a, numS c] = numS a ++ " " ++ numS c := by rw [TL.join_eq]; rfl
  rw [j3] at hs
  exact hs
theorem read_back {b : Bg} (h : OkB b) : read_bag_m (bagS b) = .ok b := by
  unfold read_bag_m
  rw [lt_eq, lt_eq, part_bag h]
  show cond ((!decide (((Txt.split (headS b) " ").length : Int) = 2)) || (!(((Txt.split (headS b) " " ++ Txt.split (tailS b) " ").map (fun z1 : Str => (is_number_m z1))).all id))) (Except.error Exn.NoText) (Except.ok (((PySem.intText? ((Txt.split (headS b) " ").getD 0 "")).getD 0), ((PySem.intText? ((Txt.split (headS b) " ").getD 1 "")).getD 0), ((Txt.split (tailS b) " ").map (fun z2 : Str => ((PySem.intText? z2).getD 0))))) = Except.ok b
  rw [split_head h, split_tail h]
  have hall : (([numS b.1, numS b.2.1] ++ b.2.2.map numS).map (fun z1 : Str => (is_number_m z1))).all id = true := by
    rw [List.all_map]
    refine List.all_eq_true.mpr fun w hw => ?_
    rcases List.mem_append.mp hw with hw | hw
    · rcases List.mem_cons.mp hw with rfl | hw
      · exact num_isNum h.t
      · rw [List.mem_singleton.mp hw]; exact num_isNum h.r
    · obtain ⟨n, hn, rfl⟩ := List.mem_map.mp hw
      exact num_isNum (h.n n hn)
  rw [hall]
  show Except.ok ((PySem.intText? (numS b.1)).getD 0, (PySem.intText? (numS b.2.1)).getD 0, (b.2.2.map numS).map (fun z2 : Str => ((PySem.intText? z2).getD 0))) = _
  rw [intV_num h.t, intV_num h.r, vals_num h.n]
theorem mapE_read : ∀ {ps : List Str} {bs : List Bg}, mapE (fun z1 : Str => read_bag_m z1) ps = .ok bs → bs.map bagS = ps ∧ ∀ b ∈ bs, BgR b
  | [], bs, h => by cases h; exact ⟨rfl, fun _ h => (nomatch h)⟩
  | p :: ps, bs, h => by
    unfold mapE at h
    cases e1 : read_bag_m p with
    | error e => rw [e1] at h; cases h
    | ok v =>
      rw [e1] at h
      cases e2 : mapE (fun z1 : Str => read_bag_m z1) ps with
      | error e => rw [e2] at h; cases h
      | ok vs =>
        rw [e2] at h
        cases h
        obtain ⟨h1, h2⟩ := mapE_read e2
        obtain ⟨h3, h4⟩ := read_ok e1
        exact ⟨by rw [List.map_cons, h1, h4], fun b hb => (List.mem_cons.mp hb).elim (fun e => by rw [e]; exact h3) (h2 b)⟩
theorem xb_id {ε α : Type} (o : Except ε α) : xb o (fun v1 => Except.ok v1) (fun e1 => Except.error e1) = o := by cases o <;> rfl
/-- what is read has just that text -/
theorem plan_ok {text : Str} {bs : List Bg} (h : read_plan_m text = .ok bs) : planS bs = text ∧ ∀ b ∈ bs, BgR b := by
  unfold read_plan_m at h
  by_cases c : text = ""
  · rw [decide_eq_true c] at h
    cases h
    exact ⟨by rw [c]; exact plan_nil, fun _ h => (nomatch h)⟩
  · rw [decide_eq_false c] at h
    have h : xb (mapE (fun z1 : Str => read_bag_m z1) (Txt.split text "; ")) (fun v1 => Except.ok v1) (fun e1 => Except.error e1) = .ok bs := h
    rw [xb_id] at h
    obtain ⟨h1, h2⟩ := mapE_read h
    refine ⟨?_, h2⟩
    unfold planS
    rw [h1]
    exact join_split text "; "
theorem mapE_back : ∀ {bs : List Bg}, (∀ b ∈ bs, OkB b) → mapE (fun z1 : Str => read_bag_m z1) (bs.map bagS) = .ok bs
  | [], _ => rfl
  | b :: bs, h => by
    rw [List.map_cons]
    unfold mapE
    rw [read_back (h b List.mem_cons_self), mapE_back fun x hx => h x (List.mem_cons_of_mem _ hx)]
theorem plan_back {bs : List Bg} (h : ∀ b ∈ bs, OkB b) : read_plan_m (planS bs) = .ok bs := by
  unfold read_plan_m
  cases bs with
  | nil => rw [plan_nil]; rfl
  | cons b r =>
    rw [decide_eq_false (plan_ne (by simp))]
    show xb (mapE (fun z1 : Str => read_bag_m z1) (Txt.split (planS (b :: r)) "; ")) (fun v1 => Except.ok v1) (fun e1 => Except.error e1) = _
    rw [xb_id, split_plan h (by simp), mapE_back h]
/-! what is odd stays odd amid good bags -/
theorem pre_two {c d : Nat} {r : List Nat} : TL.pre [59, 32] (c :: d :: r) = (decide (c = 59) && decide (d = 32)) := by
  by_cases h1 : c = 59
  · by_cases h2 : d = 32
    · subst h1; subst h2; rfl
    · subst h1
      rw [decide_eq_false h2]
      simp [TL.pre, h2]
  · rw [decide_eq_false h1]
    simp [TL.pre, h1]
theorem spl_mid : ∀ (n : Nat) (xs ys acc : List Nat), xs.length ≤ n → TL.spl [59, 32] 0 acc (xs ++ 59 :: 32 :: ys) = TL.spl [59, 32] 0 acc xs ++ TL.spl [59, 32] 0 [] ys := by
  have hit : ∀ (acc r : List Nat), TL.spl [59, 32] 0 acc (59 :: 32 :: r) = acc :: TL.spl [59, 32] 0 [] r := fun acc r => by
    rw [TL.spl_hit (by rfl)]
    rfl
  intro n
  induction n with
  | zero =>
    intro xs ys acc h
    have : xs = [] := List.length_eq_zero_iff.mp (by omega)
    subst this
    rw [List.nil_append, hit, TL.spl_nil]
    rfl
  | succ n ih =>
    intro xs ys acc h
    cases xs with
    | nil =>
      rw [List.nil_append, hit, TL.spl_nil]
      rfl
    | cons c r =>
      cases r with
      | nil =>
        show TL.spl [59, 32] 0 acc (c :: 59 :: 32 :: ys) = TL.spl [59, 32] 0 acc [c] ++ _
        rw [TL.spl_miss (by rw [pre_two]; simp), hit, TL.spl_miss (by simp [TL.pre]), TL.spl_nil]
        rfl
      | cons d r =>
        show TL.spl [59, 32] 0 acc (c :: d :: (r ++ 59 :: 32 :: ys)) = TL.spl [59, 32] 0 acc (c :: d :: r) ++ _
        by_cases q : c = 59 ∧ d = 32
        · obtain ⟨rfl, rfl⟩ := q
          rw [hit, hit, ih r ys [] (by simp at h; omega)]
          rfl
        · have hm : (decide (c = 59) && decide (d = 32)) = false := by
            by_cases h1 : c = 59
            · rw [decide_eq_false fun z => q ⟨h1, z⟩, Bool.and_false]
            · rw [decide_eq_false h1, Bool.false_and]
          rw [TL.spl_miss (c := c) (r := d :: (r ++ 59 :: 32 :: ys)) (by rw [pre_two]; exact hm), TL.spl_miss (c := c) (r := d :: r) (by rw [pre_two]; exact hm)]
          exact ih (d :: r) ys _ (by simp at h ⊢; omega)
theorem split_mid (a b : Str) : Txt.split (a ++ "; " ++ b) "; " = Txt.split a "; " ++ Txt.split b "; " := by
  refine TL.map_tl_inj ?_
  have hk : ∀ x : Str, ¬ Builtin.Str.strKind x < Builtin.Str.strKind ("; " : Str) := fun x => TL.kind_ok (by decide +kernel)
  have hy : TL.tl ("; " : Str) ≠ [] := by rw [tl_semi]; simp
  rw [List.map_append, TL.split_spl _ _ hy (hk _), TL.split_spl _ _ hy (hk _), TL.split_spl _ _ hy (hk _), tl_semi, TL.tl_append, TL.tl_append, tl_semi, List.append_assoc]
  exact spl_mid _ _ _ _ (Nat.le_refl _)
theorem mapE_app {α β ε : Type} {m : α → Except ε β} : ∀ {xs ys : List α} {vs : List β}, mapE m (xs ++ ys) = .ok vs → (∃ us, mapE m xs = .ok us) ∧ ∃ us, mapE m ys = .ok us
  | [], ys, vs, h => ⟨⟨[], rfl⟩, vs, h⟩
  | x :: xs, ys, vs, h => by
    rw [List.cons_append] at h
    unfold mapE at h
    cases e1 : m x with
    | error e => rw [e1] at h; cases h
    | ok v =>
      rw [e1] at h
      cases e2 : mapE m (xs ++ ys) with
      | error e => rw [e2] at h; cases h
      | ok us =>
        obtain ⟨⟨u1, h1⟩, h2⟩ := mapE_app e2
        refine ⟨⟨v :: u1, ?_⟩, h2⟩
        unfold mapE
        rw [e1, h1]
/-- refused: read_plan raises -/
def badP (t : Str) : Prop := ∃ e, read_plan_m t = .error e
def badS (t : Str) : Prop := ∃ e, mapE (fun z1 : Str => read_bag_m z1) (Txt.split t "; ") = .error e
theorem bad_iff {t : Str} : badP t ↔ t ≠ "" ∧ badS t := by
  unfold badP read_plan_m
  by_cases c : t = ""
  · rw [decide_eq_true c]
    exact ⟨fun ⟨e, h⟩ => (nomatch h), fun h => absurd c h.1⟩
  · rw [decide_eq_false c]
    show (∃ e, xb (mapE (fun z1 : Str => read_bag_m z1) (Txt.split t "; ")) (fun v1 => Except.ok v1) (fun e1 => Except.error e1) = .error e) ↔ _
    rw [xb_id]
    exact ⟨fun h => ⟨c, h⟩, fun h => h.2⟩
theorem bad_or {a b : Str} (h : badS a ∨ badS b) : badP (a ++ "; " ++ b) := by
  refine bad_iff.mpr ⟨fun z => ?_, ?_⟩
  · have := congrArg Str.length z
    rw [Str.length_append, Str.length_append] at this
    have h2 : ("; " : Str).length = 2 := by decide +kernel
    have h3 : ("" : Str).length = 0 := by decide +kernel
    omega
  · unfold badS
    rw [split_mid]
    cases q : mapE (fun z1 : Str => read_bag_m z1) (Txt.split a "; " ++ Txt.split b "; ") with
    | error e => exact ⟨e, rfl⟩
    | ok vs =>
      obtain ⟨⟨u1, h1⟩, u2, h2⟩ := mapE_app q
      rcases h with ⟨e, h⟩ | ⟨e, h⟩
      · rw [h1] at h; cases h
      · rw [h2] at h; cases h
theorem refused_iff {t : Str} : law_refused_m t = true ↔ badP t := by
  unfold law_refused_m law_kept_m badP
  rw [lt_eq]
  cases q : read_plan_m t with
  | ok v =>
    refine ⟨fun h => ?_, fun ⟨e, h⟩ => (nomatch h)⟩
    cases h
  | error e =>
    refine ⟨fun _ => ⟨e, rfl⟩, fun _ => ?_⟩
    cases e
    rfl
def oddL : List Str := ([" ", "3", "3 0", "3 0:", "3 0: ", "3 0:1", "3 0 : 1", "3  0: 1", " 3 0: 1", "3 0: 1 ", "3 0:  1"] : List Str) ++ (["3: 1", "3 0 1: 1", "30: 1", "-3 0: 1", "+3 0: 1", "3 -0: 1", "03 0: 1", "3 00: 1", "3 0: 01"] : List Str) ++ (["3 0: 1  2", "3 0: -1", "12345678901 0: 1", "3 12345678901: 1", "3 0: 12345678901"] : List Str) ++ (["a 0: 1", "3 b: 1", "3 0: c", "3 0: 1,2"] : List Str) ++ (["3 0: 1;", "3 0: 1; ", "; 3 0: 1", "3 0: 1;4 0: 1", "3 0: 1 ; 4 0: 1", "3 0: 1; ; 4 0: 1", "3 0:: 1"] : List Str) ++ (["3 0: 1\n", "\n3 0: 1", "3 0:\n1", "3.0 0: 1", "3_0 0: 1", "3 0: 1_0", ": 1", " : 1"] : List Str) ++ ([";", "; ", "3 0: 1:"] : List Str) ++ (["3 0: 1; 4", "3 0: 1; 4 0:", "3,0: 1", "(3, 0, (1,))", "3 0: x1", "3 0: 1x"] : List Str)
def isErr {ε α : Type} : Except ε α → Bool
  | .ok _ => false
  | .error _ => true
theorem odd_err : (oddL.all fun t => isErr (read_plan_m t)) = true := by decide +kernel
theorem odd_len : (oddL.all fun t => decide (t.length ≤ 20)) = true := by decide +kernel
theorem odd_eq (cell : Int) : law_odd_m cell = oddL.getD (cell % (oddL.length : Int)).toNat "" := by
  unfold law_odd_m
  simp only [lt_eq]
  rfl
theorem odd_mem (cell : Int) : law_odd_m cell ∈ oddL := by
  rw [odd_eq]
  have hl : oddL.length = 53 := by rfl
  rw [hl]
  have hlt : (cell % ((53 : Nat) : Int)).toNat < oddL.length := by rw [hl]; omega
  rw [List.getD_eq_getElem?_getD, List.getElem?_eq_getElem hlt]
  exact List.getElem_mem hlt
theorem odd_bad (cell : Int) : badP (law_odd_m cell) := by
  have h := List.all_eq_true.mp odd_err _ (odd_mem cell)
  unfold badP
  cases q : read_plan_m (law_odd_m cell) with
  | ok v => rw [q] at h; cases h
  | error e => exact ⟨e, rfl⟩
theorem odd_short (cell : Int) : (law_odd_m cell).length ≤ 20 := of_decide_eq_true (List.all_eq_true.mp odd_len _ (odd_mem cell))
theorem placed_bad {o t : Str} {way : Int} (h : badP o) : badP (law_placed_m o t way) := by
  have hs := (bad_iff.mp h).2
  unfold law_placed_m
  cases (decide (way = 0)) || (decide (t = "")) with
  | true => exact h
  | false =>
    cases decide (way = 1) with
    | true => exact bad_or (.inl hs)
    | false =>
      cases decide (way = 2) with
      | true => exact bad_or (.inr hs)
      | false =>
        have := bad_or (b := t) (.inl (bad_iff.mp (bad_or (a := t) (.inr hs))).2)
        exact this

end Lw
set_option Elab.async false
set_option linter.all false
set_option maxRecDepth 100000
set_option maxHeartbeats 4000000
namespace Lw
open PySem L2 Sx
/-! ### plain: sides, and the law -/
structure OkBg (b : Bg) : Prop where
  r : BgR b
  le : b.2.2.length ≤ 1000
  z : (bagS b).length ≤ 5000
def OkPl (bs : List Bg) : Prop := (∀ b ∈ bs, OkBg b) ∧ bs.length ≤ 1000
theorem bag_join {b : Bg} (h : OkBg b) : ((b.2.2.map (fun z1 : Int => (toString z1 : Str))).map (·.length)).sum + (b.2.2.map (fun z1 : Int => (toString z1 : Str))).length * (" " : Str).length ≤ 16777216 := by
  have h1 := sum_le (k := 10) (ns := (b.2.2.map (fun z1 : Int => (toString z1 : Str))).map (·.length)) fun m hm => by
    obtain ⟨z, hz, rfl⟩ := List.mem_map.mp hm
    obtain ⟨n, hn, rfl⟩ := List.mem_map.mp hz
    exact (numS_len (h.r.n n hn)).2
  rw [List.length_map, List.length_map] at h1
  rw [List.length_map]
  have := h.le
  have h3 : (" " : Str).length = 1 := by decide +kernel
  rw [h3]
  omega
theorem plan_join {bs : List Bg} (h : OkPl bs) : ((bs.map (fun z1 : Bg => (show_bag_m z1))).map (·.length)).sum + (bs.map (fun z1 : Bg => (show_bag_m z1))).length * ("; " : Str).length ≤ 16777216 := by
  have h1 := sum_le (k := 5000) (ns := (bs.map (fun z1 : Bg => (show_bag_m z1))).map (·.length)) fun m hm => by
    obtain ⟨z, hz, rfl⟩ := List.mem_map.mp hm
    obtain ⟨n, hn, rfl⟩ := List.mem_map.mp hz
    exact (h.1 n hn).z
  rw [List.length_map, List.length_map] at h1
  rw [List.length_map]
  have := h.2
  have h3 : ("; " : Str).length = 2 := by decide +kernel
  rw [h3]
  omega
theorem part_len (text : Str) : (Txt.partition text ": ").1.length + (Txt.partition text ": ").2.2.length ≤ text.length := by
  have := congrArg Str.length (StrLaws.partition_sum text ": ")
  rw [Str.length_append, Str.length_append] at this
  omega
theorem word_le {text z : Str} {words numbers : List Str} (hw : words = Txt.split (Txt.partition text ": ").1 " ") (hn : numbers = Txt.split (Txt.partition text ": ").2.2 " ") (h : z ∈ words ++ numbers) (ht : text.length ≤ 5000) : z.length ≤ 5000 := by
  have hp := part_len text
  rcases List.mem_append.mp h with h | h
  · rw [hw] at h
    have := PyProof.Rows.part_short h
    omega
  · rw [hn] at h
    have := PyProof.Rows.part_short h
    omega
theorem bag_cond {ws us : List Str} (hA : ((!decide ((ws.length : Int) = 2)) || (!(((ws ++ us).map (fun z1 : Str => (is_number_m z1))).all id))) = false) : ∃ (a c : Int) (ns : List Int), ws = [numS a, numS c] ∧ us = ns.map numS ∧ N10 a ∧ N10 c ∧ ∀ n ∈ ns, N10 n := by
  obtain ⟨h1, h2⟩ := Bool.or_eq_false_iff.mp hA
  have h1 : ((ws.length : Int) = 2) := by simpa using h1
  have h2 : ((ws ++ us).map (fun z1 : Str => (is_number_m z1))).all id = true := by
    cases q : ((ws ++ us).map (fun z1 : Str => (is_number_m z1))).all id with
    | true => rfl
    | false => rw [q] at h2; cases h2
  rw [List.map_append, List.all_append] at h2
  obtain ⟨h3, h4⟩ := Bool.and_eq_true_iff.mp h2
  obtain ⟨ms, rfl, hm⟩ := words_num h3
  obtain ⟨ns, rfl, hn⟩ := words_num h4
  rw [List.length_map] at h1
  obtain ⟨a, c, rfl⟩ : ∃ a c, ms = [a, c] := by
    cases ms with
    | nil => cases h1
    | cons a ms => cases ms with
      | nil => cases h1
      | cons c ms => cases ms with
        | nil => exact ⟨a, c, rfl⟩
        | cons d ms => have h1 : ((ms.length + 1 + 1 + 1 : Nat) : Int) = 2 := h1; omega
  exact ⟨a, c, ns, rfl, rfl, hm a List.mem_cons_self, hm c (List.mem_cons_of_mem _ List.mem_cons_self), hn⟩
theorem num_side {n : Int} (h : N10 n) : (PySem.intText? (numS n)).isSome = true ∧ (numS n).length ≤ 640 := ⟨by rw [numS_int h]; rfl, Nat.le_trans (numS_len h).2 (by decide)⟩
theorem nums_side {us : List Str} {ns : List Int} (e : us = ns.map numS) (h : ∀ n ∈ ns, N10 n) {z : Str} (hz : z ∈ us) : (PySem.intText? z).isSome = true ∧ z.length ≤ 640 := by
  rw [e] at hz
  obtain ⟨n, hn, rfl⟩ := List.mem_map.mp hz
  exact num_side (h n hn)
theorem cutS_len {x : Str} {i j : Option Int} : (cutS x i j).length ≤ x.length := by
  rw [TL.len_tl, TL.len_tl]
  show (cut (TL.tl x) i j).length ≤ _
  exact cut_len
theorem one_len {c : Nat} : (oneC c : Str).length = 1 := rfl
/-! the law's bags -/
def bagStepT (s1 : List Bg) (x1 : Int) : List Bg :=
    lt ((x1 * 48271) % 2147483647) fun n : Int =>
    lt (s1 ++ [((x1 % 1000000000), (n % 40), (cut ([((n / 64) % 41), ((n / 4096) % 41)]) none (some (1 + ((n / 2) % 2)))))]) fun bags_2 =>
    bags_2
def BJt (i : Nat) (s : List Bg) : Prop := (∀ b ∈ s, OkB b) ∧ s.length ≤ i
theorem bjt_step {i : Nat} {s : List Bg} {x : Int} (h : BJt i s) : BJt (i + 1) (bagStepT s x) := by
  have e : bagStepT s x = s ++ [((x % 1000000000), ((x * 48271) % 2147483647 % 40), (cut ([(((x * 48271) % 2147483647 / 64) % 41), (((x * 48271) % 2147483647 / 4096) % 41)]) none (some (1 + (((x * 48271) % 2147483647 / 2) % 2)))))] := rfl
  rw [e]
  refine ⟨fun b hb => ?_, by rw [List.length_append]; show s.length + 1 ≤ _; have := h.2; omega⟩
  rcases List.mem_append.mp hb with hb | hb
  · exact h.1 b hb
  · rw [List.mem_singleton.mp hb]
    generalize (x * 48271) % 2147483647 = n
    have hk : 1 + (n / 2) % 2 = 1 ∨ 1 + (n / 2) % 2 = 2 := by omega
    have hm : ∀ y ∈ cut ([((n / 64) % 41), ((n / 4096) % 41)]) none (some (1 + ((n / 2) % 2))), N10 y := fun y hy => by
      have := cut_mem hy
      rcases List.mem_cons.mp this with rfl | this
      · exact ⟨by omega, by omega⟩
      · rw [List.mem_singleton.mp this]; exact ⟨by omega, by omega⟩
    refine ⟨⟨by show 0 ≤ x % 1000000000; omega, by show x % 1000000000 < _; omega⟩, ⟨by show 0 ≤ n % 40; omega, by show n % 40 < _; omega⟩, hm, ?_, ?_⟩
    · show cut _ _ _ ≠ []
      rcases hk with e | e <;> rw [e] <;> exact fun z => (nomatch z)
    · show (cut _ _ _).length ≤ 4
      exact Nat.le_trans cut_len (by show 2 ≤ 4; decide)
theorem bjt_all (cells : List Int) : BJt cells.length (cells.foldl bagStepT []) := foldl_inv' (P := BJt) rfl ⟨fun _ h => (nomatch h), Nat.le_refl _⟩ fun i s x _ h => bjt_step h
theorem plan_short {bs : List Bg} (h : ∀ b ∈ bs, OkB b) (hl : bs.length ≤ 4) : (planS bs).length ≤ 300 := by
  unfold planS
  rw [TL.join_eq, TL.len_tl, TL.tl_join]
  refine Nat.le_trans (joinL_len (k := 70) fun p hp => ?_) ?_
  · obtain ⟨z, hz, rfl⟩ := List.mem_map.mp hp
    obtain ⟨n, hn, rfl⟩ := List.mem_map.mp hz
    rw [← TL.len_tl]
    exact bag_len (h n hn)
  · rw [tl_semi, List.length_map, List.length_map]
    show _ * (70 + 2) ≤ 300
    omega
theorem OkB.bg {b : Bg} (h : OkB b) : OkBg b := ⟨⟨h.t, h.r, h.n⟩, by have := h.le; omega, by have := bag_len h; omega⟩
theorem BJt.pl {i : Nat} {s : List Bg} (h : BJt i s) (hi : i ≤ 4) : OkPl s := ⟨fun b hb => (h.1 b hb).bg, by have := h.2; omega⟩
/-- what was read of a short text may be shown -/
theorem read_pl {text : Str} {bs : List Bg} (ht : text.length ≤ 900) (h : read_plan_m text = .ok bs) : OkPl bs := by
  obtain ⟨h1, h2⟩ := plan_ok h
  have hsplit : bs.map bagS = [] ∨ ∃ ps : List Str, bs.map bagS = ps ∧ ps.length ≤ 902 ∧ ∀ p ∈ ps, p.length ≤ 900 := by
    unfold read_plan_m at h
    by_cases c : text = ""
    · rw [decide_eq_true c] at h
      cases h
      exact .inl rfl
    · rw [decide_eq_false c] at h
      have h : xb (mapE (fun z1 : Str => read_bag_m z1) (Txt.split text "; ")) (fun v1 => Except.ok v1) (fun e1 => Except.error e1) = .ok bs := h
      rw [xb_id] at h
      have h3 := (mapE_read h).1
      refine .inr ⟨_, h3, by have := PyProof.Rows.split_le text "; "; omega, fun p hp => ?_⟩
      have := PyProof.Rows.part_short hp
      omega
  have hlen : bs.length ≤ 902 ∧ ∀ b ∈ bs, (bagS b).length ≤ 900 := by
    rcases hsplit with e | ⟨ps, e, h3, h4⟩
    · have : bs = [] := List.map_eq_nil_iff.mp e
      rw [this]
      exact ⟨by decide, fun _ h => (nomatch h)⟩
    · have := congrArg List.length e
      rw [List.length_map] at this
      exact ⟨by omega, fun b hb => h4 _ (by rw [← e]; exact List.mem_map.mpr ⟨b, hb, rfl⟩)⟩
  refine ⟨fun b hb => ⟨h2 b hb, ?_, by have := hlen.2 b hb; omega⟩, by omega⟩
  have hb9 := hlen.2 b hb
  have hj : (tailS b).length ≤ 900 := by
    rw [bag_eq, Str.length_append] at hb9
    omega
  unfold tailS at hj
  rw [TL.join_eq] at hj
  cases q : b.2.2.map numS with
  | nil => rw [List.map_eq_nil_iff.mp q]; decide
  | cons a r =>
    rw [q, PyProof.Rows.len_join_cons] at hj
    have h1' : (" " : Str).length = 1 := by decide +kernel
    rw [h1'] at hj
    have := congrArg List.length q
    rw [List.length_map, List.length_cons] at this
    omega
theorem not_refused {t : Str} (h : law_refused_m t = false) : ∃ bs, read_plan_m t = .ok bs := by
  cases q : read_plan_m t with
  | ok bs => exact ⟨bs, rfl⟩
  | error e =>
    have := refused_iff.mpr ⟨e, q⟩
    rw [h] at this
    cases this
theorem bent_true {other : Str} : ((!(law_refused_m other)) && (!decide ((show_plan_m (okv (read_plan_m other) [])) = other))) = false := by
  cases q : law_refused_m other with
  | true => rfl
  | false =>
    obtain ⟨bs, h⟩ := not_refused q
    rw [okv_of h]
    rw [decide_eq_true (show show_plan_m bs = other from (plan_ok h).1)]
    rfl
theorem ref_read {t : Str} (h : (!(law_refused_m t)) = true) : ∃ bs, read_plan_m t = .ok bs := not_refused (by cases q : law_refused_m t with | true => rw [q] at h; cases h | false => rfl)
theorem okv_pl {t : Str} (ht : t.length ≤ 900) (h : (!(law_refused_m t)) = true) : OkPl (okv (read_plan_m t) []) := by
  obtain ⟨bs, e⟩ := ref_read h
  rw [okv_of e]
  exact read_pl ht e
theorem placed_len {cell way : Int} {text : Str} (ht : text.length ≤ 300) : (law_placed_m (law_odd_m cell) text way).length ≤ 700 := by
  have h1 := odd_short cell
  have l2 : ("; " : Str).length = 2 := by decide +kernel
  unfold law_placed_m
  cases (decide (way = 0)) || (decide (text = "")) with
  | true => show (law_odd_m cell).length ≤ 700; omega
  | false =>
    cases decide (way = 1) with
    | true => show (law_odd_m cell ++ "; " ++ text).length ≤ 700; simp only [Str.length_append]; omega
    | false =>
      cases decide (way = 2) with
      | true => show (text ++ "; " ++ law_odd_m cell).length ≤ 700; simp only [Str.length_append]; omega
      | false => show (text ++ "; " ++ law_odd_m cell ++ "; " ++ text).length ≤ 700; simp only [Str.length_append]; omega
theorem bent_len {text : Str} {cell : Int} (ht : text.length ≤ 400) : (law_bent_m text cell).length ≤ 900 := by
  unfold law_bent_m
  simp only [lt_eq]
  have h1 : ∀ c : Nat, (oneC c : Str).length = 1 := fun _ => rfl
  have hc9 : ∀ i j, (cutS text i j).length ≤ text.length := fun i j => cutS_len
  cases decide ((cell % 3) = 0) with
  | true =>
    show (cutS text _ _ ++ cutS text _ _).length ≤ 900
    rw [Str.length_append]
    exact Nat.le_trans (Nat.add_le_add (hc9 _ _) (hc9 _ _)) (by omega)
  | false =>
    cases decide ((cell % 3) = 1) with
    | true =>
      show (cutS text _ _ ++ oneC _ ++ cutS text _ _).length ≤ 900
      rw [Str.length_append, Str.length_append, h1]
      exact Nat.le_trans (Nat.add_le_add (Nat.add_le_add_right (hc9 _ _) 1) (hc9 _ _)) (by omega)
    | false =>
      show (cutS text _ _ ++ oneC _ ++ cutS text _ _).length ≤ 900
      rw [Str.length_append, Str.length_append, h1]
      exact Nat.le_trans (Nat.add_le_add (Nat.add_le_add_right (hc9 _ _) 1) (hc9 _ _)) (by omega)
theorem fold_ne : ∀ (cells : List Int) (s : List Bg), s.length ≤ (cells.foldl bagStepT s).length
  | [], s => Nat.le_refl _
  | x :: xs, s => by
    rw [List.foldl_cons]
    refine Nat.le_trans ?_ (fold_ne xs _)
    show s.length ≤ (s ++ [_]).length
    rw [List.length_append]
    omega
theorem text_ne {cells : List Int} {s1 : List Bg} {text : Str} (h : s1 = ([5] ++ cells).foldl bagStepT []) (ht : text = show_plan_m s1) : text.length ≠ 0 := fun z => by
  have hne : s1 ≠ [] := fun e => by
    have := fold_ne cells (bagStepT [] 5)
    have h2 : (([5] ++ cells).foldl bagStepT []).length = (cells.foldl bagStepT (bagStepT [] 5)).length := rfl
    rw [← h, e] at h2
    have h3 : (bagStepT [] 5).length = 1 := rfl
    have h2 : 0 = (cells.foldl bagStepT (bagStepT [] 5)).length := h2
    omega
  have hp := plan_ne hne
  refine hp ?_
  have hz : (planS s1).length = 0 := by rw [show planS s1 = text from ht.symm]; exact z
  refine TL.ext_tl ?_
  rw [TL.len_tl] at hz
  rw [List.length_eq_zero_iff.mp hz]
  decide +kernel
theorem loop_nx {xs : List Int} {f : Unit → Int → Cf Bool Unit Unit} (h : ∀ x, f () x = .nx ()) : (loop f xs () : Cf Bool Empty Unit) = .nx () := by
  induction xs with
  | nil => rfl
  | cons x xs ih =>
    unfold loop
    rw [h]
    exact ih
theorem law_true (script : List Int) (_ : script.length ≤ 63) : law_m script = true := by
  unfold law_m
  simp only [lt_eq]
  have hb := bjt_all ([5] ++ (cut script (some 2) (some 5)))
  have eb : ([5] ++ (cut script (some 2) (some 5))).foldl bagStepT [] = ([5] ++ (cut script (some 2) (some 5))).foldl (fun (s1 : (List (Int × Int × List Int))) (x1 : Int) => s1 ++ [((x1 % 1000000000), ((x1 * 48271) % 2147483647 % 40), (cut ([(((x1 * 48271) % 2147483647 / 64) % 41), (((x1 * 48271) % 2147483647 / 4096) % 41)]) none (some (1 + (((x1 * 48271) % 2147483647 / 2) % 2)))))]) [] := rfl
  rw [eb] at hb
  generalize ([5] ++ (cut script (some 2) (some 5))).foldl (fun (s1 : (List (Int × Int × List Int))) (x1 : Int) => s1 ++ [((x1 % 1000000000), ((x1 * 48271) % 2147483647 % 40), (cut ([(((x1 * 48271) % 2147483647 / 64) % 41), (((x1 * 48271) % 2147483647 / 4096) % 41)]) none (some (1 + (((x1 * 48271) % 2147483647 / 2) % 2)))))]) [] = bs at hb
  have hr : law_refused_m (law_placed_m (law_odd_m (law_at_m script 0)) (show_plan_m bs) (law_at_m script 1 % 4)) = true := refused_iff.mpr (placed_bad (odd_bad _))
  have hk : okv (read_plan_m (show_plan_m bs)) [] = bs := okv_of (plan_back hb.1)
  rw [hr, hk, decide_eq_true (rfl : bs = bs), loop_nx fun x => by rw [bent_true]; rfl]
  rfl
/-- texts written down, many of them -/
inductive StrC : List Expr → List Str → Prop
  | nil : StrC [] []
  | cons {s : Str} {j : Nat} {p : Pos} {es : List Expr} {ss : List Str} : StrC es ss → StrC (.Constant (.str s) j p :: es) (s :: ss)
theorem pa_strs {X : Cx} {g : Gm} {l : List Res} : ∀ {es : List Expr} {ss : List Str}, StrC es ss → Pa X es g l (ss.map D.str)
  | _, _, .nil => pa_n
  | _, _, .cons h => pa_c px_str (pa_strs h)
theorem px_strs {X : Cx} {g : Gm} {l : List Res} {es : List Expr} {ss : List Str} {pos : Pos} (h : StrC es ss) (hz : ss.length ≤ 1000) : Px X (.List es pos) g l (lstE D.str ss) := px_lst (pa_strs h) (by rw [List.length_map]; exact Nat.le_trans hz (by decide))
/-- a first statement whose value is all constants: the block under a name, lest it be run -/
theorem bo_setE {X : Cx} {W : WX} {g : Gm} {l : List Res} {α β : Type} {Om : β → Po} {e : Expr} {pos : Pos} {rest sts : List Stmt} {x0 : α} {k : α → β} {i : Nat} {x : Str} {pos' : Pos} (hst : sts = .Assign [.Name x pos'] e pos :: rest) (enc : α → D) (hN : X.N.Nodup) (hi : X.N[i]? = some x) (hx : Loc X.env.scope x) (he : Px X e g l (enc x0)) (h : ∀ y, y = x0 → Bo X W rest (g.set i (some (enc y))) l Om (k y))
    (hs : swapsWith e (some (.Name x pos')) pos.line X.env = pure false := by rfl) (hf : X.fn x = true ∨ X.env.scope.names.lookup x = some .local := by first | exact .inl rfl | exact .inr rfl | assumption) :
    Bo X W sts g l Om (lt x0 k) := by
  subst hst
  exact bo_set enc hN hi hx he h hs hf

end Lw
set_option Elab.async false
set_option linter.all false
set_option maxRecDepth 100000
set_option maxHeartbeats 4000000
namespace Lw
open PySem L2 Sx
def top (i : Nat) : Stmt := PySem.Challenge.pw_postroad_k82_no_plan_text.main.body.getD i (.Pass ⟨0, 0, 0, 0⟩)
abbrev s_is_number : Stmt := top 15
abbrev s_show_bag : Stmt := top 16
abbrev s_show_plan : Stmt := top 17
abbrev s_read_bag : Stmt := top 18
abbrev s_read_plan : Stmt := top 19
abbrev s_law_at : Stmt := top 21
abbrev s_law_odd : Stmt := top 22
abbrev s_law_placed : Stmt := top 23
abbrev s_law_kept : Stmt := top 24
abbrev s_law_refused : Stmt := top 25
abbrev s_law_bent : Stmt := top 26
abbrev s_law : Stmt := top 27
abbrev s_NoLetter_init : Stmt := inClass (top 5) 0
abbrev s_BadBag_init : Stmt := inClass (top 6) 0
abbrev s_NoWay_init : Stmt := inClass (top 7) 0
abbrev s_CutOff_init : Stmt := inClass (top 9) 0
abbrev ns_is_number : List Str := ["word", "sign"]
theorem cs_is_number : FnScope ns_is_number ["word"] (defScope s_is_number) := ⟨rfl, rfl, rfl, by decide +kernel, rfl, by decide +kernel, by decide +kernel⟩
abbrev ns_show_bag : List Str := ["bag", "n"]
theorem cs_show_bag : FnScope ns_show_bag ["bag"] (defScope s_show_bag) := ⟨rfl, rfl, rfl, by decide +kernel, rfl, by decide +kernel, by decide +kernel⟩
abbrev ns_show_plan : List Str := ["plan", "bag"]
theorem cs_show_plan : FnScope ns_show_plan ["plan"] (defScope s_show_plan) := ⟨rfl, rfl, rfl, by decide +kernel, rfl, by decide +kernel, by decide +kernel⟩
abbrev ns_read_bag : List Str := ["text", "head", "colon", "tail", "words", "numbers", "word"]
theorem cs_read_bag : FnScope ns_read_bag ["text"] (defScope s_read_bag) := ⟨rfl, rfl, rfl, by decide +kernel, rfl, by decide +kernel, by decide +kernel⟩
abbrev ns_read_plan : List Str := ["text", "part"]
theorem cs_read_plan : FnScope ns_read_plan ["text"] (defScope s_read_plan) := ⟨rfl, rfl, rfl, by decide +kernel, rfl, by decide +kernel, by decide +kernel⟩
abbrev ns_law_at : List Str := ["_law_script", "_law_k"]
theorem cs_law_at : FnScope ns_law_at ["_law_script", "_law_k"] (defScope s_law_at) := ⟨rfl, rfl, rfl, by decide +kernel, rfl, by decide +kernel, by decide +kernel⟩
abbrev ns_law_odd : List Str := ["_law_cell", "_law_some"]
theorem cs_law_odd : FnScope ns_law_odd ["_law_cell"] (defScope s_law_odd) := ⟨rfl, rfl, rfl, by decide +kernel, rfl, by decide +kernel, by decide +kernel⟩
abbrev ns_law_placed : List Str := ["_law_odd_here", "_law_text", "_law_way"]
theorem cs_law_placed : FnScope ns_law_placed ["_law_odd_here", "_law_text", "_law_way"] (defScope s_law_placed) := ⟨rfl, rfl, rfl, by decide +kernel, rfl, by decide +kernel, by decide +kernel⟩
abbrev ns_law_kept : List Str := ["_law_text", "_law_kept_here", "e"]
theorem cs_law_kept : FnScope ns_law_kept ["_law_text"] (defScope s_law_kept) := ⟨rfl, rfl, rfl, by decide +kernel, rfl, by decide +kernel, by decide +kernel⟩
abbrev ns_law_refused : List Str := ["_law_text", "_law_kept_here"]
theorem cs_law_refused : FnScope ns_law_refused ["_law_text"] (defScope s_law_refused) := ⟨rfl, rfl, rfl, by decide +kernel, rfl, by decide +kernel, by decide +kernel⟩
abbrev ns_law_bent : List Str := ["_law_text", "_law_cell", "_law_by", "_law_at_here", "_law_sign"]
theorem cs_law_bent : FnScope ns_law_bent ["_law_text", "_law_cell"] (defScope s_law_bent) := ⟨rfl, rfl, rfl, by decide +kernel, rfl, by decide +kernel, by decide +kernel⟩
abbrev ns_law : List Str := ["_law_script", "_law_bags", "_law_cell", "_law_n", "_law_text", "_law_odd_here", "_law_other"]
theorem cs_law : FnScope ns_law ["_law_script"] (defScope s_law) := ⟨rfl, rfl, rfl, by decide +kernel, rfl, by decide +kernel, by decide +kernel⟩
abbrev ns_NoLetter_init : List Str := ["self", "number"]
theorem cs_NoLetter_init : FnScope ns_NoLetter_init ["self", "number"] (defScope s_NoLetter_init) := ⟨rfl, rfl, rfl, by decide +kernel, rfl, by decide +kernel, by decide +kernel⟩
abbrev ns_BadBag_init : List Str := ["self", "place", "reason"]
theorem cs_BadBag_init : FnScope ns_BadBag_init ["self", "place", "reason"] (defScope s_BadBag_init) := ⟨rfl, rfl, rfl, by decide +kernel, rfl, by decide +kernel, by decide +kernel⟩
abbrev ns_NoWay_init : List Str := ["self", "reason", "seen"]
theorem cs_NoWay_init : FnScope ns_NoWay_init ["self", "reason", "seen"] (defScope s_NoWay_init) := ⟨rfl, rfl, rfl, by decide +kernel, rfl, by decide +kernel, by decide +kernel⟩
abbrev ns_CutOff_init : List Str := ["self", "number", "seen"]
theorem cs_CutOff_init : FnScope ns_CutOff_init ["self", "number", "seen"] (defScope s_CutOff_init) := ⟨rfl, rfl, rfl, by decide +kernel, rfl, by decide +kernel, by decide +kernel⟩
structure Cs where
  (RoadError NoNet NoHouse NoRoad NoLetter BadBag NoWay ManyGoals CutOff NoText NoRow NoDay : Addr)
structure Top (K : PySem.W.Frag) (mg : Str → Option Value) (c : Cs) : Prop where
  z_ValueError : mg "ValueError" = none
  z_isinstance : mg "isinstance" = none
  z_int : mg "int" = none
  z_tuple : mg "tuple" = none
  z_len : mg "len" = none
  z_all : mg "all" = none
  z_str : mg "str" = none
  d_is_number : Dfn K mg "is_number" s_is_number
  d_show_bag : Dfn K mg "show_bag" s_show_bag
  d_show_plan : Dfn K mg "show_plan" s_show_plan
  d_read_bag : Dfn K mg "read_bag" s_read_bag
  d_read_plan : Dfn K mg "read_plan" s_read_plan
  d_law_at : Dfn K mg "_law_at" s_law_at
  d_law_odd : Dfn K mg "_law_odd" s_law_odd
  d_law_placed : Dfn K mg "_law_placed" s_law_placed
  d_law_kept : Dfn K mg "_law_kept" s_law_kept
  d_law_refused : Dfn K mg "_law_refused" s_law_refused
  d_law_bent : Dfn K mg "_law_bent" s_law_bent
  d_law : Dfn K mg "law" s_law
  k_FIGURES : ∃ t, mg "FIGURES" = some (.str "0123456789" t)
  x_RoadError : Dxc K mg "RoadError" c.RoadError
  xi_RoadError : PySem.W.excIn K c.RoadError vErr "ValueError.__new__" = true
  x_NoNet : Dxc K mg "NoNet" c.NoNet
  xi_NoNet : PySem.W.excIn K c.NoNet vErr "ValueError.__new__" = true
  x_NoHouse : Dxc K mg "NoHouse" c.NoHouse
  xi_NoHouse : PySem.W.excIn K c.NoHouse vErr "ValueError.__new__" = true
  x_NoRoad : Dxc K mg "NoRoad" c.NoRoad
  xi_NoRoad : PySem.W.excIn K c.NoRoad vErr "ValueError.__new__" = true
  x_NoLetter : Dxc K mg "NoLetter" c.NoLetter
  x_BadBag : Dxc K mg "BadBag" c.BadBag
  x_NoWay : Dxc K mg "NoWay" c.NoWay
  x_ManyGoals : Dxc K mg "ManyGoals" c.ManyGoals
  xi_ManyGoals : PySem.W.excIn K c.ManyGoals vErr "ValueError.__new__" = true
  x_CutOff : Dxc K mg "CutOff" c.CutOff
  x_NoText : Dxc K mg "NoText" c.NoText
  xi_NoText : PySem.W.excIn K c.NoText vErr "ValueError.__new__" = true
  x_NoRow : Dxc K mg "NoRow" c.NoRow
  xi_NoRow : PySem.W.excIn K c.NoRow vErr "ValueError.__new__" = true
  x_NoDay : Dxc K mg "NoDay" c.NoDay
  xi_NoDay : PySem.W.excIn K c.NoDay vErr "ValueError.__new__" = true
  xm_NoText_RoadError : PySem.W.exmOne K (.ref c.NoText) (.ref c.RoadError) = some true
  xk_NoText_NoNet : PySem.W.kitOne K (.ref c.NoText) (.ref c.NoNet) = some false
  xk_NoText_NoHouse : PySem.W.kitOne K (.ref c.NoText) (.ref c.NoHouse) = some false
  xk_NoText_NoRoad : PySem.W.kitOne K (.ref c.NoText) (.ref c.NoRoad) = some false
  xk_NoText_NoLetter : PySem.W.kitOne K (.ref c.NoText) (.ref c.NoLetter) = some false
  xk_NoText_BadBag : PySem.W.kitOne K (.ref c.NoText) (.ref c.BadBag) = some false
  xk_NoText_NoWay : PySem.W.kitOne K (.ref c.NoText) (.ref c.NoWay) = some false
  xk_NoText_ManyGoals : PySem.W.kitOne K (.ref c.NoText) (.ref c.ManyGoals) = some false
  xk_NoText_CutOff : PySem.W.kitOne K (.ref c.NoText) (.ref c.CutOff) = some false
  xk_NoText_NoText : PySem.W.kitOne K (.ref c.NoText) (.ref c.NoText) = some true
  xk_NoText_NoRow : PySem.W.kitOne K (.ref c.NoText) (.ref c.NoRow) = some false
  xk_NoText_NoDay : PySem.W.kitOne K (.ref c.NoText) (.ref c.NoDay) = some false
  xv_NoText : PySem.W.kitOne K (.ref c.NoText) (.type "ValueError") = some true
  xn_NoNet : PySem.W.kitOne K (.type "NoneType") (.ref c.NoNet) = some false
  xn_NoHouse : PySem.W.kitOne K (.type "NoneType") (.ref c.NoHouse) = some false
  xn_NoRoad : PySem.W.kitOne K (.type "NoneType") (.ref c.NoRoad) = some false
  xn_NoLetter : PySem.W.kitOne K (.type "NoneType") (.ref c.NoLetter) = some false
  xn_BadBag : PySem.W.kitOne K (.type "NoneType") (.ref c.BadBag) = some false
  xn_NoWay : PySem.W.kitOne K (.type "NoneType") (.ref c.NoWay) = some false
  xn_ManyGoals : PySem.W.kitOne K (.type "NoneType") (.ref c.ManyGoals) = some false
  xn_CutOff : PySem.W.kitOne K (.type "NoneType") (.ref c.CutOff) = some false
  xn_NoText : PySem.W.kitOne K (.type "NoneType") (.ref c.NoText) = some false
  xn_NoRow : PySem.W.kitOne K (.type "NoneType") (.ref c.NoRow) = some false
  xn_NoDay : PySem.W.kitOne K (.type "NoneType") (.ref c.NoDay) = some false
section
variable {P : Program} {w : World} {K : PySem.W.Frag} {mg : Str → Option Value} {base : Heap} {c : Cs}

def Exn.xd (c : Cs) : Exn → Xd
  | .NoText => ⟨c.NoText, []⟩
theorem Exn.ec (T : Top K mg c) : ∀ e : Exn, ExcC K (e.xd c).C
  | .NoText => T.x_NoText.ec
theorem k_BadBag (T : Top K mg c) : ∀ e : Exn, PySem.W.kitOne K (.ref (e.xd c).C) (.ref c.BadBag) = some e.is_BadBag
  | .NoText => T.xk_NoText_BadBag
theorem k_CutOff (T : Top K mg c) : ∀ e : Exn, PySem.W.kitOne K (.ref (e.xd c).C) (.ref c.CutOff) = some e.is_CutOff
  | .NoText => T.xk_NoText_CutOff
theorem k_ManyGoals (T : Top K mg c) : ∀ e : Exn, PySem.W.kitOne K (.ref (e.xd c).C) (.ref c.ManyGoals) = some e.is_ManyGoals
  | .NoText => T.xk_NoText_ManyGoals
theorem k_NoDay (T : Top K mg c) : ∀ e : Exn, PySem.W.kitOne K (.ref (e.xd c).C) (.ref c.NoDay) = some e.is_NoDay
  | .NoText => T.xk_NoText_NoDay
theorem k_NoHouse (T : Top K mg c) : ∀ e : Exn, PySem.W.kitOne K (.ref (e.xd c).C) (.ref c.NoHouse) = some e.is_NoHouse
  | .NoText => T.xk_NoText_NoHouse
theorem k_NoLetter (T : Top K mg c) : ∀ e : Exn, PySem.W.kitOne K (.ref (e.xd c).C) (.ref c.NoLetter) = some e.is_NoLetter
  | .NoText => T.xk_NoText_NoLetter
theorem k_NoNet (T : Top K mg c) : ∀ e : Exn, PySem.W.kitOne K (.ref (e.xd c).C) (.ref c.NoNet) = some e.is_NoNet
  | .NoText => T.xk_NoText_NoNet
theorem k_NoRoad (T : Top K mg c) : ∀ e : Exn, PySem.W.kitOne K (.ref (e.xd c).C) (.ref c.NoRoad) = some e.is_NoRoad
  | .NoText => T.xk_NoText_NoRoad
theorem k_NoRow (T : Top K mg c) : ∀ e : Exn, PySem.W.kitOne K (.ref (e.xd c).C) (.ref c.NoRow) = some e.is_NoRow
  | .NoText => T.xk_NoText_NoRow
theorem k_NoText (T : Top K mg c) : ∀ e : Exn, PySem.W.kitOne K (.ref (e.xd c).C) (.ref c.NoText) = some e.is_NoText
  | .NoText => T.xk_NoText_NoText
theorem k_NoWay (T : Top K mg c) : ∀ e : Exn, PySem.W.kitOne K (.ref (e.xd c).C) (.ref c.NoWay) = some e.is_NoWay
  | .NoText => T.xk_NoText_NoWay
theorem m_RoadError (T : Top K mg c) : ∀ e : Exn, PySem.W.exmOne K (.ref (e.xd c).C) (.ref c.RoadError) = some e.is_RoadError
  | .NoText => T.xm_NoText_RoadError
theorem k_ValueError (T : Top K mg c) : ∀ e : Exn, PySem.W.kitOne K (.ref (e.xd c).C) (.type "ValueError") = some true
  | .NoText => T.xv_NoText
end

section
variable {P : Program} {w : World} {K : PySem.W.Frag} {mg : Str → Option Value} {base : Heap} {c : Cs}

theorem g_is_number (T : Top K mg c) : Glo P w K mg base 1 "is_number" ["word"] (Pu K (fun a : Str => (fun (word : Str) => word.length ≤ 5000) a) (fun a => [(D.str a)]) (fun a => (D.bl (is_number_m a)))) :=
  glo_of T.d_is_number (fun _ _ _ _ _ _ us hl => match us, hl with | [_], _ => rfl) fun f fd F => fn_ok F cs_is_number (fun _ => rfl) fun cdv A outer s H E a hr hok => by
    have nd := cs_is_number.nd
    revert hok; revert a; intro word hok
    have hok : word.length ≤ 5000 := hok
    refine Blk.imp (show Bo _ _ _ [some (D.str word), none] _ (Rt (PuR D.bl)) (is_number_m word) from ?_) (fun _ _ h => h.elim) (fun _ _ h => h) (fun _ _ h => h.elim) (fun _ _ h => h.elim) (fun _ _ _ _ h => h.elim)
    unfold is_number_m
    refine bo_ifR (ts_w (tw_or (ts_not (ts_chain op_le op_le px_int (px_bi call_len_str T.z_len (pa_c (px_var (pv 0) rfl) pa_n) (o_lenS /-ssz1-/(szS (by omega)))) o_le px_int (fun _ => o_le))) fun hb1 => (tw_or1 (ts_not (ts_val (px_bi (cr_all rfl) T.z_all (pa_c (px_lcM (own := [("sign", 1)]) (is := [1]) (fun x : Nat => (D.str (oneC x))) D.bl (fun z1 : Nat => (decide (z1 ∈ ("0123456789" : Str).cps.toList))) rfl nd (it_str (px_var (pv 0) rfl)) (blkOk_by (N := ns_is_number) (sc := defScope s_is_number) (by decide +kernel)) (fun _ _ _ _ _ => (pg_name (i := 1) nd rfl (.inl rfl))) (by decide) /-csz1-/(by rw [← TL.len_tl]; omega) (fun i z1 hz1 => by
      have hz1m := List.mem_of_getElem? hz1
      have hz1l := (List.getElem?_eq_some_iff.mp hz1).1
      exact ⟨_, tg_name, fun _ _ _ _ _ => (px_cmp op_in_sign (px_var (pv 1) rfl) (px_gs T.k_FIGURES) o_inX)⟩)) pa_n) (o_all .f))))))) (fun hi1 => ?_) (fun hi1 => ?_)
    · -- if1t
      exact bo_ret px_bl
    · -- if1f
      have hw1 : 1 ≤ word.length := by
        obtain ⟨h1, _⟩ := Bool.or_eq_false_iff.mp hi1
        have h1 : ((decide (1 ≤ (word.length : Int))) && (decide ((word.length : Int) ≤ 10))) = true := by simpa using h1
        have := of_decide_eq_true (Bool.and_eq_true_iff.mp h1).1
        omega
      exact bo_ret (px_or (px_cmp op_eq (px_var (pv 0) rfl) px_str o_eqS) fun hb2 => (px_one (px_cmp op_ne (px_ix ix_str (px_var (pv 0) rfl) px_int (o_ixS (c := (TL.tl word).getD (0 : Int).toNat 0) /-ssz2-/(szS (by omega)) (atI_in /-lo1-/(by omega) /-hi1-/(by rw [← TL.len_tl]; omega)))) px_str o_neS)))

theorem g_show_bag (T : Top K mg c) : Glo P w K mg base 1 "show_bag" ["bag"] (Pu K (fun a : (Int × Int × List Int) => (fun (bag : Int × Int × List Int) => OkBg bag) a) (fun a => [D.tup [(D.int a.1), (D.int a.2.1), ((tlE D.int) a.2.2)]]) (fun a => (D.str (show_bag_m a)))) :=
  glo_of T.d_show_bag (fun _ _ _ _ _ _ us hl => match us, hl with | [_], _ => rfl) fun f fd F => fn_ok F cs_show_bag (fun _ => rfl) fun cdv A outer s H E a hr hok => by
    have nd := cs_show_bag.nd
    revert hok; revert a; intro bag hok
    have hok : OkBg bag := hok
    have e1 : ((toString bag.1 : Str)).length ≤ 10 := (numS_len hok.r.t).2
    have e2 : ((toString bag.2.1 : Str)).length ≤ 10 := (numS_len hok.r.r).2
    have l1 : (" " : Str).length = 1 := by decide +kernel
    have l2 : (": " : Str).length = 2 := by decide +kernel
    have l9 := hok.le
    have ez : (((((toString bag.1 : Str) ++ " ") ++ (toString bag.2.1 : Str)) ++ ": ") ++ (Txt.join " " (bag.2.2.map (fun z1 : Int => (toString z1 : Str))))).length ≤ 5000 := hok.z
    simp only [Str.length_append] at ez
    refine Blk.imp (show Bo _ _ _ [some (D.tup [(D.int bag.1), (D.int bag.2.1), ((tlE D.int) bag.2.2)]), none] _ (Rt (PuR D.str)) (show_bag_m bag) from ?_) (fun _ _ h => h.elim) (fun _ _ h => h) (fun _ _ h => h.elim) (fun _ _ h => h.elim) (fun _ _ _ _ h => h.elim)
    unfold show_bag_m
    exact bo_ret (px_op op_add_str (px_op op_add_str (px_op op_add_str (px_op op_add_str (px_ty call_str_int T.z_str (pa_c (px_ix ix_tup (px_var (pv 0) rfl) px_int (o_ixT (d := (D.int bag.1)) rfl)) pa_n) (o_str /-str1-/(numS_log hok.r.t))) px_str (o_addS /-cat1-/(szS (by first | omega | (simp only [Str.length_append]; omega))))) (px_ty call_str_int T.z_str (pa_c (px_ix ix_tup (px_var (pv 0) rfl) px_int (o_ixT (d := (D.int bag.2.1)) rfl)) pa_n) (o_str /-str2-/(numS_log hok.r.r))) (o_addS /-cat2-/(szS (by first | omega | (simp only [Str.length_append]; omega))))) px_str (o_addS /-cat3-/(szS (by first | omega | (simp only [Str.length_append]; omega))))) (px_join px_str (px_lcM (own := [("n", 1)]) (is := [1]) D.int D.str (fun z1 : Int => (toString z1 : Str)) rfl nd (it_tup (px_ix ix_tup (px_var (pv 0) rfl) px_int (o_ixT (d := ((tlE D.int) bag.2.2)) rfl))) (blkOk_by (N := ns_show_bag) (sc := defScope s_show_bag) (by decide +kernel)) (fun _ _ _ _ _ => (pg_name (i := 1) nd rfl (.inl rfl))) (by decide) /-csz1-/(by first | omega | (rw [rngI_len]; omega) | (rw [enumI_len]; omega) | (rw [List.length_zip]; omega)) (fun i z1 hz1 => by
      have hz1m := List.mem_of_getElem? hz1
      have hz1l := (List.getElem?_eq_some_iff.mp hz1).1
      exact ⟨_, tg_name, fun _ _ _ _ _ => (px_ty call_str_int T.z_str (pa_c (px_var (pv 1) rfl) pa_n) (o_str /-str3-/(numS_log (hok.r.n _ hz1m))))⟩)) .f /-join1-/(bag_join hok)) (o_addS /-cat4-/(szS (by first | omega | (simp only [Str.length_append]; omega)))))

theorem g_show_plan (T : Top K mg c) : Glo P w K mg base 2 "show_plan" ["plan"] (Pu K (fun a : (List (Int × Int × List Int)) => (fun (plan : List (Int × Int × List Int)) => OkPl plan) a) (fun a => [((lstE (fun x : Int × Int × List Int => D.tup [(D.int x.1), (D.int x.2.1), ((tlE D.int) x.2.2)])) a)]) (fun a => (D.str (show_plan_m a)))) :=
  glo_of T.d_show_plan (fun _ _ _ _ _ _ us hl => match us, hl with | [_], _ => rfl) fun f fd F => fn_ok F cs_show_plan (fun _ => rfl) fun cdv A outer s H E a hr hok => by
    have nd := cs_show_plan.nd
    revert hok; revert a; intro plan hok
    have hok : OkPl plan := hok
    have l9 := hok.2
    refine Blk.imp (show Bo _ _ _ [some ((lstE (fun x : Int × Int × List Int => D.tup [(D.int x.1), (D.int x.2.1), ((tlE D.int) x.2.2)])) plan), none] _ (Rt (PuR D.str)) (show_plan_m plan) from ?_) (fun _ _ h => h.elim) (fun _ _ h => h) (fun _ _ h => h.elim) (fun _ _ h => h.elim) (fun _ _ _ _ h => h.elim)
    unfold show_plan_m
    exact bo_ret (px_join px_str (px_lcM (own := [("bag", 1)]) (is := [1]) (fun x : Int × Int × List Int => D.tup [(D.int x.1), (D.int x.2.1), ((tlE D.int) x.2.2)]) D.str (fun z1 : Int × Int × List Int => (show_bag_m z1)) rfl nd (it_list (px_var (pv 0) rfl)) (blkOk_by (N := ns_show_plan) (sc := defScope s_show_plan) (by decide +kernel)) (fun _ _ _ _ _ => (pg_name (i := 1) nd rfl (.inl rfl))) (by decide) /-csz1-/(by first | omega | (rw [rngI_len]; omega) | (rw [enumI_len]; omega) | (rw [List.length_zip]; omega)) (fun i z1 hz1 => by
      have hz1m := List.mem_of_getElem? hz1
      have hz1l := (List.getElem?_eq_some_iff.mp hz1).1
      exact ⟨_, tg_name, fun _ _ _ _ _ => (px_call (g_show_bag T) hr (by decide) z1 /-ok_show_bag_1-/(hok.1 _ hz1m) (pa_c (px_var (pv 1) rfl) pa_n))⟩)) .f /-join1-/(plan_join hok))


end

end Lw
set_option Elab.async false
set_option linter.all false
set_option maxRecDepth 100000
set_option maxHeartbeats 4000000
namespace Lw
open PySem L2 Sx
def hfn_0 : List He.DefD := [dD "is_number" s_is_number, dD "show_bag" s_show_bag, dD "show_plan" s_show_plan, dD "read_bag" s_read_bag, dD "read_plan" s_read_plan, dD "_law_at" s_law_at, dD "_law_odd" s_law_odd, dD "_law_placed" s_law_placed, dD "_law_kept" s_law_kept, dD "_law_refused" s_law_refused, dD "_law_bent" s_law_bent, dD "law" s_law]
def hfn : List He.DefD := hfn_0
def hfa_0 : List He.Fa := [.free "ValueError", .free "isinstance", .free "int", .free "tuple", .free "len", .free "all", .free "str", .glo "is_number", .glo "show_bag", .glo "show_plan", .glo "read_bag", .glo "read_plan", .glo "_law_at", .glo "_law_odd", .glo "_law_placed", .glo "_law_kept", .glo "_law_refused", .glo "_law_bent", .glo "law", .str "FIGURES" "0123456789", .glo "RoadError", .glo "NoNet", .glo "NoHouse", .glo "NoRoad", .glo "NoLetter", .glo "BadBag", .glo "NoWay", .glo "ManyGoals", .glo "CutOff", .glo "NoText"] ++ [.glo "NoRow", .glo "NoDay"]
def hfa : List He.Fa := hfa_0
def hfb_0 : List Fb := [.exc "RoadError", .xin "RoadError", .exc "NoNet", .xin "NoNet", .exc "NoHouse", .xin "NoHouse", .exc "NoRoad", .xin "NoRoad", .exc "NoLetter", .exc "BadBag", .exc "NoWay", .exc "ManyGoals", .xin "ManyGoals", .exc "CutOff", .exc "NoText", .xin "NoText", .exc "NoRow", .xin "NoRow", .exc "NoDay", .xin "NoDay", .exm "NoText" "RoadError" true, .kit "NoText" "NoNet" false, .kit "NoText" "NoHouse" false, .kit "NoText" "NoRoad" false, .kit "NoText" "NoLetter" false, .kit "NoText" "BadBag" false, .kit "NoText" "NoWay" false, .kit "NoText" "ManyGoals" false, .kit "NoText" "CutOff" false, .kit "NoText" "NoText" true] ++ [.kit "NoText" "NoRow" false, .kit "NoText" "NoDay" false, .kitT "NoText" "ValueError" true, .kitN "NoNet", .kitN "NoHouse", .kitN "NoRoad", .kitN "NoLetter", .kitN "BadBag", .kitN "NoWay", .kitN "ManyGoals", .kitN "CutOff", .kitN "NoText", .kitN "NoRow", .kitN "NoDay"]
def hfb : List Fb := hfb_0
abbrev hex : PySem.W.Frag → Bool := exB hfb
abbrev csK (K : PySem.W.Frag) : Cs := ⟨He.ga K "RoadError", He.ga K "NoNet", He.ga K "NoHouse", He.ga K "NoRoad", He.ga K "NoLetter", He.ga K "BadBag", He.ga K "NoWay", He.ga K "ManyGoals", He.ga K "CutOff", He.ga K "NoText", He.ga K "NoRow", He.ga K "NoDay"⟩
theorem top_of {K : PySem.W.Frag} {h : Heap} {mg : Str → Option Value} {w : World} (X : K.In h) (G : h.Ns mainGlobals mg) (says : He.SaysX hfa hfn [] [] hex w h K) : Top K mg (csK K) := by
  have c : He.SaysD hfa hfn K := says.t.d
  have cx : exB hfb K = true := says.more
  exact {
    z_ValueError := He.free_ok X G (c.fact 0 (f := .free "ValueError") rfl)
    z_isinstance := He.free_ok X G (c.fact 1 (f := .free "isinstance") rfl)
    z_int := He.free_ok X G (c.fact 2 (f := .free "int") rfl)
    z_tuple := He.free_ok X G (c.fact 3 (f := .free "tuple") rfl)
    z_len := He.free_ok X G (c.fact 4 (f := .free "len") rfl)
    z_all := He.free_ok X G (c.fact 5 (f := .free "all") rfl)
    z_str := He.free_ok X G (c.fact 6 (f := .free "str") rfl)
    d_is_number := dfn_of c (He.glo_ok X G (c.fact 7 (f := .glo "is_number") rfl)) 0
    d_show_bag := dfn_of c (He.glo_ok X G (c.fact 8 (f := .glo "show_bag") rfl)) 1
    d_show_plan := dfn_of c (He.glo_ok X G (c.fact 9 (f := .glo "show_plan") rfl)) 2
    d_read_bag := dfn_of c (He.glo_ok X G (c.fact 10 (f := .glo "read_bag") rfl)) 3
    d_read_plan := dfn_of c (He.glo_ok X G (c.fact 11 (f := .glo "read_plan") rfl)) 4
    d_law_at := dfn_of c (He.glo_ok X G (c.fact 12 (f := .glo "_law_at") rfl)) 5
    d_law_odd := dfn_of c (He.glo_ok X G (c.fact 13 (f := .glo "_law_odd") rfl)) 6
    d_law_placed := dfn_of c (He.glo_ok X G (c.fact 14 (f := .glo "_law_placed") rfl)) 7
    d_law_kept := dfn_of c (He.glo_ok X G (c.fact 15 (f := .glo "_law_kept") rfl)) 8
    d_law_refused := dfn_of c (He.glo_ok X G (c.fact 16 (f := .glo "_law_refused") rfl)) 9
    d_law_bent := dfn_of c (He.glo_ok X G (c.fact 17 (f := .glo "_law_bent") rfl)) 10
    d_law := dfn_of c (He.glo_ok X G (c.fact 18 (f := .glo "law") rfl)) 11
    k_FIGURES := He.str_ok X G (c.fact 19 (f := .str "FIGURES" "0123456789") rfl)
    x_RoadError := dxc_ok (fb_at cx 0 (f := .exc "RoadError") rfl) (He.glo_ok X G (c.fact 20 (f := .glo "RoadError") rfl))
    xi_RoadError := xin_ok (fb_at cx 1 (f := .xin "RoadError") rfl)
    x_NoNet := dxc_ok (fb_at cx 2 (f := .exc "NoNet") rfl) (He.glo_ok X G (c.fact 21 (f := .glo "NoNet") rfl))
    xi_NoNet := xin_ok (fb_at cx 3 (f := .xin "NoNet") rfl)
    x_NoHouse := dxc_ok (fb_at cx 4 (f := .exc "NoHouse") rfl) (He.glo_ok X G (c.fact 22 (f := .glo "NoHouse") rfl))
    xi_NoHouse := xin_ok (fb_at cx 5 (f := .xin "NoHouse") rfl)
    x_NoRoad := dxc_ok (fb_at cx 6 (f := .exc "NoRoad") rfl) (He.glo_ok X G (c.fact 23 (f := .glo "NoRoad") rfl))
    xi_NoRoad := xin_ok (fb_at cx 7 (f := .xin "NoRoad") rfl)
    x_NoLetter := dxc_ok (fb_at cx 8 (f := .exc "NoLetter") rfl) (He.glo_ok X G (c.fact 24 (f := .glo "NoLetter") rfl))
    x_BadBag := dxc_ok (fb_at cx 9 (f := .exc "BadBag") rfl) (He.glo_ok X G (c.fact 25 (f := .glo "BadBag") rfl))
    x_NoWay := dxc_ok (fb_at cx 10 (f := .exc "NoWay") rfl) (He.glo_ok X G (c.fact 26 (f := .glo "NoWay") rfl))
    x_ManyGoals := dxc_ok (fb_at cx 11 (f := .exc "ManyGoals") rfl) (He.glo_ok X G (c.fact 27 (f := .glo "ManyGoals") rfl))
    xi_ManyGoals := xin_ok (fb_at cx 12 (f := .xin "ManyGoals") rfl)
    x_CutOff := dxc_ok (fb_at cx 13 (f := .exc "CutOff") rfl) (He.glo_ok X G (c.fact 28 (f := .glo "CutOff") rfl))
    x_NoText := dxc_ok (fb_at cx 14 (f := .exc "NoText") rfl) (He.glo_ok X G (c.fact 29 (f := .glo "NoText") rfl))
    xi_NoText := xin_ok (fb_at cx 15 (f := .xin "NoText") rfl)
    x_NoRow := dxc_ok (fb_at cx 16 (f := .exc "NoRow") rfl) (He.glo_ok X G (c.fact 30 (f := .glo "NoRow") rfl))
    xi_NoRow := xin_ok (fb_at cx 17 (f := .xin "NoRow") rfl)
    x_NoDay := dxc_ok (fb_at cx 18 (f := .exc "NoDay") rfl) (He.glo_ok X G (c.fact 31 (f := .glo "NoDay") rfl))
    xi_NoDay := xin_ok (fb_at cx 19 (f := .xin "NoDay") rfl)
    xm_NoText_RoadError := exm_ok (fb_at cx 20 (f := .exm "NoText" "RoadError" true) rfl)
    xk_NoText_NoNet := kit_ok (fb_at cx 21 (f := .kit "NoText" "NoNet" false) rfl)
    xk_NoText_NoHouse := kit_ok (fb_at cx 22 (f := .kit "NoText" "NoHouse" false) rfl)
    xk_NoText_NoRoad := kit_ok (fb_at cx 23 (f := .kit "NoText" "NoRoad" false) rfl)
    xk_NoText_NoLetter := kit_ok (fb_at cx 24 (f := .kit "NoText" "NoLetter" false) rfl)
    xk_NoText_BadBag := kit_ok (fb_at cx 25 (f := .kit "NoText" "BadBag" false) rfl)
    xk_NoText_NoWay := kit_ok (fb_at cx 26 (f := .kit "NoText" "NoWay" false) rfl)
    xk_NoText_ManyGoals := kit_ok (fb_at cx 27 (f := .kit "NoText" "ManyGoals" false) rfl)
    xk_NoText_CutOff := kit_ok (fb_at cx 28 (f := .kit "NoText" "CutOff" false) rfl)
    xk_NoText_NoText := kit_ok (fb_at cx 29 (f := .kit "NoText" "NoText" true) rfl)
    xk_NoText_NoRow := kit_ok (fb_at cx 30 (f := .kit "NoText" "NoRow" false) rfl)
    xk_NoText_NoDay := kit_ok (fb_at cx 31 (f := .kit "NoText" "NoDay" false) rfl)
    xv_NoText := kitT_ok (fb_at cx 32 (f := .kitT "NoText" "ValueError" true) rfl)
    xn_NoNet := kitN_ok (fb_at cx 33 (f := .kitN "NoNet") rfl)
    xn_NoHouse := kitN_ok (fb_at cx 34 (f := .kitN "NoHouse") rfl)
    xn_NoRoad := kitN_ok (fb_at cx 35 (f := .kitN "NoRoad") rfl)
    xn_NoLetter := kitN_ok (fb_at cx 36 (f := .kitN "NoLetter") rfl)
    xn_BadBag := kitN_ok (fb_at cx 37 (f := .kitN "BadBag") rfl)
    xn_NoWay := kitN_ok (fb_at cx 38 (f := .kitN "NoWay") rfl)
    xn_ManyGoals := kitN_ok (fb_at cx 39 (f := .kitN "ManyGoals") rfl)
    xn_CutOff := kitN_ok (fb_at cx 40 (f := .kitN "CutOff") rfl)
    xn_NoText := kitN_ok (fb_at cx 41 (f := .kitN "NoText") rfl)
    xn_NoRow := kitN_ok (fb_at cx 42 (f := .kitN "NoRow") rfl)
    xn_NoDay := kitN_ok (fb_at cx 43 (f := .kitN "NoDay") rfl)
  }
abbrev R : PySem.W.OpenRow := PySem.W.OpenLaw.row PySem.Challenge.rw_postroad_k82_no_plan_text
abbrev hk : PySem.W.Hook := hookY 5 hfa hfn hex
def ob (s : PySem.W.SharedT) : AlY := obsY 5 hfa hfn hex (HandSHeadRun.getT s)
theorem ob_eq (s : PySem.W.SharedT) : ob s = hk.obs s.abs := obsY_eq (HandSHeadRun.getT_eq s)
def loose : List Str := ["RoadError", "NoNet", "NoHouse", "NoRoad", "NoLetter", "BadBag", "NoWay", "ManyGoals", "CutOff", "NoText", "NoRow", "NoDay", "FIGURES", "is_number", "show_bag", "show_plan", "read_bag", "read_plan", "_law_at", "_law_odd", "_law_placed", "_law_kept", "_law_refused", "_law_bent"]
section
open PySem.W PySem.Calls PyProof.Rows HandSHeadRun
theorem run1 (w : World) (os : OsState) : (HandSHeadRun.endF (HandSHeadRun.stepQ (HandSHeadRun.denQ HandSHeadRun.tabQ) R.prog w) 20000 R.prog w os).map (fun s : PySem.W.SharedT => HandSHeadRun.looksF R.prog (boot_heap w.params) s.abs) = some true := by
  kernel_rfl
theorem run2 (w : World) (os : OsState) : (HandSHeadRun.endF (HandSHeadRun.stepQ (HandSHeadRun.denQ HandSHeadRun.tabQ) R.prog w) 20000 R.prog w os).map (fun s : PySem.W.SharedT => HandSHeadRun.seenQ (PySem.W.view R.prog [27]) loose (importedModules R.prog.main.body) (fun s => xlAt (PySem.W.view R.prog [27]) [] s && recOk R.toRowW.records s) s.abs) = some (PySem.W.openGood (PySem.W.view R.prog [27]) loose) := by
  kernel_rfl
theorem run3_0 (w : World) (os : OsState) : (HandSHeadRun.endF (HandSHeadRun.stepQ (HandSHeadRun.denQ HandSHeadRun.tabQ) R.prog w) 20000 R.prog w os).map (fun s => obsY 5 hfa_0 hfn_0 (exB hfb_0) (HandSHeadRun.getT s)) = some (He.valT hfn_0 [] w, true) := by
  kernel_rfl
theorem run3 (w : World) (os : OsState) : (HandSHeadRun.endF (HandSHeadRun.stepQ (HandSHeadRun.denQ HandSHeadRun.tabQ) R.prog w) 20000 R.prog w os).map ob = some (hk.val w) := (run3_0 w os)
end
theorem map3 {α A B C : Type} {o : Option α} {f : α → A} {g : α → B} {h : α → C} {a : A} {b : B} {c : C} (h1 : o.map f = some a) (h2 : o.map g = some b) (h3 : o.map h = some c) : o.map (fun s => (f s, g s, h s)) = some (a, b, c) := by
  obtain ⟨s, rfl, e1⟩ := Option.map_eq_some_iff.mp h1
  obtain ⟨s2, q2, e2⟩ := Option.map_eq_some_iff.mp h2
  obtain ⟨s3, q3, e3⟩ := Option.map_eq_some_iff.mp h3
  cases q2; cases q3; subst e1; subst e2; subst e3; rfl
theorem run (w : World) : HandSHeadRun.RunEq R (PySem.W.view R.prog [27]) hk ob 20000 loose w := by
  intro os
  exact map3 (run1 w os) (run2 w os) (run3 w os)

end Lw
set_option Elab.async false
set_option linter.all false
set_option maxRecDepth 100000
set_option maxHeartbeats 4000000
namespace Lw
open PySem L2 Sx
section
variable {P : Program} {w : World} {K : PySem.W.Frag} {mg : Str → Option Value} {base : Heap} {c : Cs}
theorem g_read_bag (T : Top K mg c) : GloX P w K mg base 2 "read_bag" ["text"] (SpX K (fun a : Str => (fun (text : Str) => text.length ≤ 5000) a) (fun a => [(D.str a)]) (fun _ => []) (fun _ => PuR (fun x : Int × Int × List Int => D.tup [(D.int x.1), (D.int x.2.1), ((tlE D.int) x.2.2)])) (fun a => read_bag_m a) (Exn.xd c)) :=
  glox_of T.d_read_bag (fun _ _ _ _ _ _ us hl => match us, hl with | [_], _ => rfl) fun f fd F => fn_okX F cs_read_bag (fun _ => rfl) fun cdv A outer s H E a hr hok => by
    have nd := cs_read_bag.nd
    revert hok; revert a; intro text hok
    have hok : text.length ≤ 5000 := hok
    have hp := part_len text
    refine Blk.imp (show Bo _ _ _ [some (D.str text), none, none, none, none, none, none] _ (Rt (XR K [] (PuR (fun x : Int × Int × List Int => D.tup [(D.int x.1), (D.int x.2.1), ((tlE D.int) x.2.2)])) (Exn.xd c))) (read_bag_m text) from ?_) (fun _ _ h => h.elim) (fun _ _ h => h) (fun _ _ h => h.elim) (fun _ _ h => h.elim) (fun _ _ _ _ h => xr_ex (fun _ _ _ _ _ h => h) h)
    unfold read_bag_m
    refine bo_asg (is := [1, 2, 3]) (px_partition (px_var (pv 0) rfl) px_str rfl /-psz1-/(szS (by omega))) (pg_tup rfl (pgs_cons (pg_name (i := 1) nd rfl (.inl rfl)) (pgs_cons (pg_name (i := 2) nd rfl (.inl rfl)) (pgs_cons (pg_name (i := 3) nd rfl (.inl rfl)) pgs_nil)))) (tg_tup rfl rfl) ?_
    refine bo_set (lstE D.str) nd (i := 4) rfl (.inl rfl) (px_split (px_var (pv 1) rfl) px_str rfl /-spz1-/(szS (by omega))) (fun words hwords => ?_)
    have hwl : words.length ≤ (Txt.partition text ": ").1.length + 2 := by rw [hwords]; exact PyProof.Rows.split_le _ _
    refine bo_set (lstE D.str) nd (i := 5) rfl (.inl rfl) (px_split (px_var (pv 3) rfl) px_str rfl /-spz2-/(szS (by omega))) (fun numbers hnumbers => ?_)
    have hnl : numbers.length ≤ (Txt.partition text ": ").2.2.length + 2 := by rw [hnumbers]; exact PyProof.Rows.split_le _ _
    refine bo_ifR (ts_w (tw_or (ts_cmp op_ne (px_bi call_len_seq T.z_len (pa_c (px_var (pv 4) rfl) pa_n) (o_lenM .f)) px_int o_neI) fun hb1 => (tw_or1 (ts_not (ts_val (px_bi (cr_all rfl) T.z_all (pa_c (px_lcM (own := [("word", 6)]) (is := [6]) D.str D.bl (fun z1 : Str => (is_number_m z1)) rfl nd (it_list (px_catM D.str (px_var (pv 4) rfl) (px_var (pv 5) rfl) .f .f /-lcat1-/(by omega))) (blkOk_by (N := ns_read_bag) (sc := defScope s_read_bag) (by decide +kernel)) (fun _ _ _ _ _ => (pg_name (i := 6) nd rfl (.inl rfl))) (by decide) /-csz1-/(by rw [List.length_append]; omega) (fun i z1 hz1 => by
      have hz1m := List.mem_of_getElem? hz1
      have hz1l := (List.getElem?_eq_some_iff.mp hz1).1
      exact ⟨_, tg_name, fun _ _ _ _ _ => (px_call (g_is_number T) hr (by decide) z1 /-ok_is_number_1-/(word_le hwords hnumbers hz1m hok) (pa_c (px_var (pv 6) rfl) pa_n))⟩)) pa_n) (o_all .f))))))) (fun hi1 => ?_) (fun hi1 => ?_)
    · -- if1t
      exact bo_raise rfl takes_cx T.x_NoText T.xi_NoText (by first | exact exto_rt0 (xc := Exn.xd c) (e0 := Exn.NoText) | exact exto_rv0 (xc := Exn.xd c) (e0 := Exn.NoText) | exact exto_ou0 (xc := Exn.xd c) (e0 := Exn.NoText) | exact exto_xt (xc := Exn.xd c) (e0 := Exn.NoText))
    · -- if1f
      obtain ⟨a9, c9, ns9, hw9, hn9, ha9, hc9, hns9⟩ := bag_cond hi1
      refine bo_ok ?_
      exact bo_ret (px_tup (pa_c (px_ty call_int_str T.z_int (pa_c (px_ix ix_list (px_var (pv 4) rfl) px_int (o_ixM D.str (x0 := "") .f /-lo1-/(by decide) /-hi1-/(by rw [hw9]; simp))) pa_n) (o_intS (intV /-int1-/(by rw [hw9]; exact (num_side ha9).1)) /-intl1-/(by rw [hw9]; exact (num_side ha9).2))) (pa_c (px_ty call_int_str T.z_int (pa_c (px_ix ix_list (px_var (pv 4) rfl) px_int (o_ixM D.str (x0 := "") .f /-lo2-/(by decide) /-hi2-/(by rw [hw9]; simp))) pa_n) (o_intS (intV /-int2-/(by rw [hw9]; exact (num_side hc9).1)) /-intl2-/(by rw [hw9]; exact (num_side hc9).2))) (pa_c (px_tupOf (px_lcM (own := [("word", 6)]) (is := [6]) D.str D.int (fun z2 : Str => ((PySem.intText? z2).getD 0)) rfl nd (it_list (px_var (pv 5) rfl)) (blkOk_by (N := ns_read_bag) (sc := defScope s_read_bag) (by decide +kernel)) (fun _ _ _ _ _ => (pg_name (i := 6) nd rfl (.inl rfl))) (by decide) /-csz2-/(by first | omega | (rw [rngI_len]; omega) | (rw [enumI_len]; omega) | (rw [List.length_zip]; omega)) (fun i z2 hz2 => by
        have hz2m := List.mem_of_getElem? hz2
        have hz2l := (List.getElem?_eq_some_iff.mp hz2).1
        exact ⟨_, tg_name, fun _ _ _ _ _ => (px_ty call_int_str T.z_int (pa_c (px_var (pv 6) rfl) pa_n) (o_intS (intV /-int3-/((nums_side hn9 hns9 hz2m).1)) /-intl3-/((nums_side hn9 hns9 hz2m).2)))⟩)) .f T.z_tuple) pa_n))))

theorem g_read_plan (T : Top K mg c) : GloX P w K mg base 3 "read_plan" ["text"] (SpX K (fun a : Str => (fun (text : Str) => text.length ≤ 5000) a) (fun a => [(D.str a)]) (fun _ => []) (fun _ => FrR K (fun x : Int × Int × List Int => D.tup [(D.int x.1), (D.int x.2.1), ((tlE D.int) x.2.2)])) (fun a => read_plan_m a) (Exn.xd c)) :=
  glox_of T.d_read_plan (fun _ _ _ _ _ _ us hl => match us, hl with | [_], _ => rfl) fun f fd F => fn_okX F cs_read_plan (fun _ => rfl) fun cdv A outer s H E a hr hok => by
    have nd := cs_read_plan.nd
    revert hok; revert a; intro text hok
    have hok : text.length ≤ 5000 := hok
    have hsl := PyProof.Rows.split_le text "; "
    refine Blk.imp (show Bo _ _ _ [some (D.str text), none] _ (Rt (XR K [] (FrR K (fun x : Int × Int × List Int => D.tup [(D.int x.1), (D.int x.2.1), ((tlE D.int) x.2.2)])) (Exn.xd c))) (read_plan_m text) from ?_) (fun _ _ h => h.elim) (fun _ _ h => h) (fun _ _ h => h.elim) (fun _ _ h => h.elim) (fun _ _ _ _ h => xr_ex (fun _ _ _ _ _ h => h) h)
    unfold read_plan_m
    refine bo_ifR (ts_cmp op_eq (px_var (pv 0) rfl) px_str o_eqS) (fun hi1 => ?_) (fun hi1 => ?_)
    · -- if1t
      refine bo_ok ?_
      exact bo_retL (r := ([] : List (Int × Int × List Int))) (ev_lst pa_n)
    · -- if1f
      refine bo_xb (fun v1 hv1 => ?_) (fun e1 he1 => ?_)
      · refine bo_ok ?_
        exact bo_retL (ev_lcE (own := [("part", 1)]) (is := [1]) D.str (fun x : Int × Int × List Int => D.tup [(D.int x.1), (D.int x.2.1), ((tlE D.int) x.2.2)]) (fun z1 : Str => read_bag_m z1) hv1 rfl nd (it_list (px_split (px_var (pv 0) rfl) px_str rfl /-spz1-/(szS (by omega)))) (blkOk_by (N := ns_read_plan) (sc := defScope s_read_plan) (by decide +kernel)) (fun _ _ _ _ _ => (pg_name (i := 1) nd rfl (.inl rfl))) (by decide) /-csz1-/(by omega) (fun i z1 v hz1 hv => by exact ⟨_, tg_name, fun _ _ _ _ _ => Px.to (px_callOk (g_read_bag T) hr (by decide) z1 /-ok_read_bag1-/(by have q9 := PyProof.Rows.part_short (List.mem_of_getElem? hz1); show z1.length ≤ 5000; omega) hv (pa_c (px_var (pv 1) rfl) pa_n)) rfl⟩))
      · exact bo_xret (exr_lcE (own := [("part", 1)]) (is := [1]) D.str (fun x : Int × Int × List Int => D.tup [(D.int x.1), (D.int x.2.1), ((tlE D.int) x.2.2)]) (fun z1 : Str => read_bag_m z1) (Exn.xd c) he1 rfl rfl takes_cx rfl nd (it_list (px_split (px_var (pv 0) rfl) px_str rfl /-spz1-/(szS (by omega)))) (blkOk_by (N := ns_read_plan) (sc := defScope s_read_plan) (by decide +kernel)) (fun _ _ _ _ _ => (pg_name (i := 1) nd rfl (.inl rfl))) (by decide) /-csz1-/(by omega) (fun i z1 v hz1 hv => by exact ⟨_, tg_name, fun _ _ _ _ _ _ _ _ => Px.to (px_callOk (g_read_bag T) hr (by decide) z1 /-ok_read_bag1-/(by have q9 := PyProof.Rows.part_short (List.mem_of_getElem? hz1); show z1.length ≤ 5000; omega) hv (pa_c (px_var (pv 1) rfl) pa_n)) rfl⟩) (fun i z1 hz1 he => by exact ⟨_, tg_name, fun _ _ _ _ _ _ _ t => exr_call t (g_read_bag T) hr (by decide) z1 /-ok_read_bag1-/(by have q9 := PyProof.Rows.part_short (List.mem_of_getElem? hz1); show z1.length ≤ 5000; omega) he (pa_c (px_var (pv 1) rfl) pa_n)⟩)) (by first | exact exto_rt0 (xc := Exn.xd c) (e0 := e1) | exact exto_rv0 (xc := Exn.xd c) (e0 := e1) | exact exto_ou0 (xc := Exn.xd c) (e0 := e1) | exact exto_xt (xc := Exn.xd c) (e0 := e1))


end

end Lw
set_option Elab.async false
set_option linter.all false
set_option maxRecDepth 100000
set_option maxHeartbeats 4000000
namespace Lw
open PySem L2 Sx
section
variable {P : Program} {w : World} {K : PySem.W.Frag} {mg : Str → Option Value} {base : Heap} {c : Cs}
theorem g_law_at (T : Top K mg c) : Glo P w K mg base 1 "_law_at" ["_law_script", "_law_k"] (Pu K (fun a : List Int × Int => (fun (script : List Int) (k : Int) => 0 ≤ k) a.1 a.2) (fun a => [D.scr (a.1.map D.int), (D.int a.2)]) (fun a => (D.int (law_at_m a.1 a.2)))) :=
  glo_of T.d_law_at (fun _ _ _ _ _ _ us hl => match us, hl with | [_, _], _ => rfl) fun f fd F => fn_ok F cs_law_at (fun _ => rfl) fun cdv A outer s H E a hr hok => by
    have nd := cs_law_at.nd
    obtain ⟨script, k⟩ := a
    have hok : 0 ≤ k := hok
    refine Blk.imp (show Bo _ _ _ [some (D.scr (script.map D.int)), some (D.int k)] _ (Rt (PuR D.int)) (law_at_m script k) from ?_) (fun _ _ h => h.elim) (fun _ _ h => h) (fun _ _ h => h.elim) (fun _ _ h => h.elim) (fun _ _ _ _ h => h.elim)
    unfold law_at_m
    refine bo_ifR (ts_cmp op_lt (px_var (pv 1) rfl) (px_bi call_len_seq T.z_len (pa_c (px_var (pv 0) rfl) pa_n) (o_lenM .s)) o_lt) (fun hi1 => ?_) (fun hi1 => ?_)
    · -- if1t
      have hk := of_decide_eq_true hi1
      exact bo_ret (px_ix ix_list (px_var (pv 0) rfl) (px_var (pv 1) rfl) (o_ixM D.int (x0 := 0) .s /-lo1-/(by omega) /-hi1-/(by omega)))
    · -- if1f
      exact bo_ret px_int

theorem g_law_odd (T : Top K mg c) : Glo P w K mg base 1 "_law_odd" ["_law_cell"] (Pu K (fun a : Int => True) (fun a => [(D.int a)]) (fun a => (D.str (law_odd_m a)))) :=
  glo_of T.d_law_odd (fun _ _ _ _ _ _ us hl => match us, hl with | [_], _ => rfl) fun f fd F => fn_ok F cs_law_odd (fun _ => rfl) fun cdv A outer s H E a hr hok => by
    have nd := cs_law_odd.nd
    revert hok; revert a; intro cell hok
    generalize hsts9 : defBody s_law_odd = sts9
    refine Blk.imp (show Bo _ _ sts9 [some (D.int cell), none] _ (Rt (PuR D.str)) (law_odd_m cell) from ?_) (fun _ _ h => h.elim) (fun _ _ h => h) (fun _ _ h => h.elim) (fun _ _ h => h.elim) (fun _ _ _ _ h => h.elim)
    unfold law_odd_m
    refine bo_setE hsts9.symm (lstE D.str) nd (i := 1) rfl (.inl rfl) (px_strs (by repeat (first | exact StrC.nil | refine StrC.cons ?_)) (by decide)) (fun some_2 hsome_2 => ?_)
    have n2 : some_2.length = 11 := by rw [hsome_2]; rfl
    refine bo_set (lstE D.str) nd (i := 1) rfl (.inl rfl) (px_catM D.str (px_var (pv 1) rfl) (px_strs (by repeat (first | exact StrC.nil | refine StrC.cons ?_)) (by decide)) .f .f /-lcat1-/(by rw [n2]; exact Nat.le_of_ble_eq_true rfl)) (fun some_3 hsome_3 => ?_)
    have n3 : some_3.length = 20 := by rw [hsome_3]; rw [List.length_append, n2]; rfl
    refine bo_set (lstE D.str) nd (i := 1) rfl (.inl rfl) (px_catM D.str (px_var (pv 1) rfl) (px_strs (by repeat (first | exact StrC.nil | refine StrC.cons ?_)) (by decide)) .f .f /-lcat2-/(by rw [n3]; exact Nat.le_of_ble_eq_true rfl)) (fun some_4 hsome_4 => ?_)
    have n4 : some_4.length = 25 := by rw [hsome_4]; rw [List.length_append, n3]; rfl
    refine bo_set (lstE D.str) nd (i := 1) rfl (.inl rfl) (px_catM D.str (px_var (pv 1) rfl) (px_strs (by repeat (first | exact StrC.nil | refine StrC.cons ?_)) (by decide)) .f .f /-lcat3-/(by rw [n4]; exact Nat.le_of_ble_eq_true rfl)) (fun some_5 hsome_5 => ?_)
    have n5 : some_5.length = 29 := by rw [hsome_5]; rw [List.length_append, n4]; rfl
    refine bo_set (lstE D.str) nd (i := 1) rfl (.inl rfl) (px_catM D.str (px_var (pv 1) rfl) (px_strs (by repeat (first | exact StrC.nil | refine StrC.cons ?_)) (by decide)) .f .f /-lcat4-/(by rw [n5]; exact Nat.le_of_ble_eq_true rfl)) (fun some_6 hsome_6 => ?_)
    have n6 : some_6.length = 36 := by rw [hsome_6]; rw [List.length_append, n5]; rfl
    refine bo_set (lstE D.str) nd (i := 1) rfl (.inl rfl) (px_catM D.str (px_var (pv 1) rfl) (px_strs (by repeat (first | exact StrC.nil | refine StrC.cons ?_)) (by decide)) .f .f /-lcat5-/(by rw [n6]; exact Nat.le_of_ble_eq_true rfl)) (fun some_7 hsome_7 => ?_)
    have n7 : some_7.length = 44 := by rw [hsome_7]; rw [List.length_append, n6]; rfl
    refine bo_set (lstE D.str) nd (i := 1) rfl (.inl rfl) (px_catM D.str (px_var (pv 1) rfl) (px_strs (by repeat (first | exact StrC.nil | refine StrC.cons ?_)) (by decide)) .f .f /-lcat6-/(by rw [n7]; exact Nat.le_of_ble_eq_true rfl)) (fun some_8 hsome_8 => ?_)
    have n8 : some_8.length = 47 := by rw [hsome_8]; rw [List.length_append, n7]; rfl
    refine bo_set (lstE D.str) nd (i := 1) rfl (.inl rfl) (px_catM D.str (px_var (pv 1) rfl) (px_strs (by repeat (first | exact StrC.nil | refine StrC.cons ?_)) (by decide)) .f .f /-lcat7-/(by rw [n8]; exact Nat.le_of_ble_eq_true rfl)) (fun some_9 hsome_9 => ?_)
    have n9 : some_9.length = 53 := by rw [hsome_9]; rw [List.length_append, n8]; rfl
    have m0 := Int.emod_nonneg cell (show (some_9.length : Int) ≠ 0 by omega)
    have m1 := Int.emod_lt_of_pos cell (show 0 < (some_9.length : Int) by omega)
    exact bo_ret (px_ix ix_list (px_var (pv 1) rfl) (px_op op_mod (px_var (pv 0) rfl) (px_bi call_len_seq T.z_len (pa_c (px_var (pv 1) rfl) pa_n) (o_lenM .f)) (o_mod /-mod1-/(by omega))) (o_ixM D.str (x0 := "") .f /-lo1-/(by omega) /-hi1-/(by omega)))

theorem g_law_placed (T : Top K mg c) : Glo P w K mg base 1 "_law_placed" ["_law_odd_here", "_law_text", "_law_way"] (Pu K (fun a : Str × Str × Int => (fun (odd : Str) (text : Str) (way : Int) => odd.length ≤ 40 ∧ text.length ≤ 500) a.1 a.2.1 a.2.2) (fun a => [(D.str a.1), (D.str a.2.1), (D.int a.2.2)]) (fun a => (D.str (law_placed_m a.1 a.2.1 a.2.2)))) :=
  glo_of T.d_law_placed (fun _ _ _ _ _ _ us hl => match us, hl with | [_, _, _], _ => rfl) fun f fd F => fn_ok F cs_law_placed (fun _ => rfl) fun cdv A outer s H E a hr hok => by
    have nd := cs_law_placed.nd
    obtain ⟨odd, text, way⟩ := a
    have hok : odd.length ≤ 40 ∧ text.length ≤ 500 := hok
    obtain ⟨h1, h2⟩ := hok
    have l2 : ("; " : Str).length = 2 := by decide +kernel
    refine Blk.imp (show Bo _ _ _ [some (D.str odd), some (D.str text), some (D.int way)] _ (Rt (PuR D.str)) (law_placed_m odd text way) from ?_) (fun _ _ h => h.elim) (fun _ _ h => h) (fun _ _ h => h.elim) (fun _ _ h => h.elim) (fun _ _ _ _ h => h.elim)
    unfold law_placed_m
    refine bo_ifR (ts_w (tw_or (ts_cmp op_eq (px_var (pv 2) rfl) px_int o_eqI) fun hb1 => (tw_or1 (ts_cmp op_eq (px_var (pv 1) rfl) px_str o_eqS)))) (fun hi1 => ?_) (fun hi1 => ?_)
    · -- if1t
      exact bo_ret (px_var (pv 0) rfl)
    · -- if1f
      refine bo_ifR (ts_cmp op_eq (px_var (pv 2) rfl) px_int o_eqI) (fun hi2 => ?_) (fun hi2 => ?_)
      · -- if2t
        exact bo_ret (px_op op_add_str (px_op op_add_str (px_var (pv 0) rfl) px_str (o_addS /-cat1-/(szS (by first | omega | (simp only [Str.length_append]; omega))))) (px_var (pv 1) rfl) (o_addS /-cat2-/(szS (by first | omega | (simp only [Str.length_append]; omega)))))
      · -- if2f
        refine bo_ifR (ts_cmp op_eq (px_var (pv 2) rfl) px_int o_eqI) (fun hi3 => ?_) (fun hi3 => ?_)
        · -- if3t
          exact bo_ret (px_op op_add_str (px_op op_add_str (px_var (pv 1) rfl) px_str (o_addS /-cat3-/(szS (by first | omega | (simp only [Str.length_append]; omega))))) (px_var (pv 0) rfl) (o_addS /-cat4-/(szS (by first | omega | (simp only [Str.length_append]; omega)))))
        · -- if3f
          exact bo_ret (px_op op_add_str (px_op op_add_str (px_op op_add_str (px_op op_add_str (px_var (pv 1) rfl) px_str (o_addS /-cat5-/(szS (by first | omega | (simp only [Str.length_append]; omega))))) (px_var (pv 0) rfl) (o_addS /-cat6-/(szS (by first | omega | (simp only [Str.length_append]; omega))))) px_str (o_addS /-cat7-/(szS (by first | omega | (simp only [Str.length_append]; omega))))) (px_var (pv 1) rfl) (o_addS /-cat8-/(szS (by first | omega | (simp only [Str.length_append]; omega)))))

theorem g_law_kept (T : Top K mg c) : Glo P w K mg base 4 "_law_kept" ["_law_text"] (Pu K (fun a : Str => (fun (text : Str) => text.length ≤ 2000) a) (fun a => [(D.str a)]) (fun a => ((optE (fun x : Exn => (Exn.xd c x).d)) (law_kept_m a)))) :=
  glo_of T.d_law_kept (fun _ _ _ _ _ _ us hl => match us, hl with | [_], _ => rfl) fun f fd F => fn_ok F cs_law_kept (fun _ => rfl) fun cdv A outer s H E a hr hok => by
    have nd := cs_law_kept.nd
    revert hok; revert a; intro text hok
    have hok : text.length ≤ 2000 := hok
    refine Blk.imp (show Bo _ _ _ [some (D.str text), none, none] _ (Rt (PuR (optE (fun x : Exn => (Exn.xd c x).d)))) (law_kept_m text) from ?_) (fun _ _ h => h.elim) (fun _ _ h => h) (fun _ _ h => h.elim) (fun _ _ h => h.elim) (fun _ _ _ _ h => h.elim)
    unfold law_kept_m
    refine bo_set (optE (fun x : Exn => (Exn.xd c x).d)) nd (i := 1) rfl (.inl rfl) (Px.to px_non (rfl : _ = ((optE (fun x : Exn => (Exn.xd c x).d)) none))) (fun kept hkept => ?_)
    refine bo_tryNV (xc := Exn.xd c) (ks := [(c.RoadError, 2, 1)]) (GL := fun _ => []) (RL := fun _ => []) (fun t1 : Option Exn => [some (D.str text), some ((optE (fun x : Exn => (Exn.xd c x).d)) t1), none]) (fun t1 : Option Exn => []) 2 1 takes_no nd (.cons rfl rfl rfl rfl (show (2 : Nat) ≠ 1 by decide) (by exact Nat.le_of_ble_eq_true rfl) (.inl rfl) (by decide) (by decide) ⟨rfl, by decide, .inl T.x_RoadError.nm⟩ (by intro Y e; rw [e]; rfl) .nil) (by simp) (fun W_1 pn_1 xe_1 t1_1 t2_1 => ?_) (fun _ _ _ _ _ h => h) (fun e Q he z => catch1 ((m_RoadError T e).trans (congrArg some /-caught1-/(by cases e <;> rfl))) z) (fun e he => ⟨(.keep (.keep (.any .nil))), rfl⟩) (fun t1 ht1 => ?_)
    · -- try1
      refine bo_xb (fun v1 hv1 => ?_) (fun e1 he1 => ?_)
      · refine bo_do (Ev.frz (ev_callOkL (g_read_plan T) hr (by decide) text /-ok_read_plan_1-/(by show text.length ≤ 5000; omega) hv1 (pa_c (px_var (pv 0) rfl) pa_n))) ?_
        exact bo_nxO (.keep (.keep (.any .nil))) rfl
      · exact bo_xexpr (exr_call t1_1 (g_read_plan T) hr (by decide) text /-ok_read_plan_1-/(by show text.length ≤ 5000; omega) he1 (pa_c (px_var (pv 0) rfl) pa_n)) (by first | exact exto_rt0 (xc := Exn.xd c) (e0 := e1) | exact exto_rv0 (xc := Exn.xd c) (e0 := e1) | exact exto_ou0 (xc := Exn.xd c) (e0 := e1) | exact exto_xt (xc := Exn.xd c) (e0 := e1))
    -- behind try1
    exact bo_ret (px_var (pv 1) rfl)

theorem g_law_refused (T : Top K mg c) : Glo P w K mg base 5 "_law_refused" ["_law_text"] (Pu K (fun a : Str => (fun (text : Str) => text.length ≤ 2000) a) (fun a => [(D.str a)]) (fun a => (D.bl (law_refused_m a)))) :=
  glo_of T.d_law_refused (fun _ _ _ _ _ _ us hl => match us, hl with | [_], _ => rfl) fun f fd F => fn_ok F cs_law_refused (fun _ => rfl) fun cdv A outer s H E a hr hok => by
    have nd := cs_law_refused.nd
    revert hok; revert a; intro text hok
    have hok : text.length ≤ 2000 := hok
    refine Blk.imp (show Bo _ _ _ [some (D.str text), none] _ (Rt (PuR D.bl)) (law_refused_m text) from ?_) (fun _ _ h => h.elim) (fun _ _ h => h) (fun _ _ h => h.elim) (fun _ _ h => h.elim) (fun _ _ _ _ h => h.elim)
    unfold law_refused_m
    refine bo_set (optE (fun x : Exn => (Exn.xd c x).d)) nd (i := 1) rfl (.inl rfl) (px_call (g_law_kept T) hr (by decide) text /-ok_kept_1-/(hok) (pa_c (px_var (pv 0) rfl) pa_n)) (fun kept hkept => ?_)
    refine bo_ifR (ts_val (px_isXT (xc := Exn.xd c) (cs := [c.BadBag, c.CutOff, c.ManyGoals, c.NoDay, c.NoHouse, c.NoLetter, c.NoNet, c.NoRoad, c.NoRow, c.NoWay]) (q := (fun e : Exn => (e.is_BadBag || (e.is_CutOff || (e.is_ManyGoals || (e.is_NoDay || (e.is_NoHouse || (e.is_NoLetter || (e.is_NoNet || (e.is_NoRoad || (e.is_NoRow || (e.is_NoWay || false)))))))))))) T.z_isinstance (px_var (pv 1) rfl) (px_tup (pa_c (px_cls T.x_BadBag.nm) (pa_c (px_cls T.x_CutOff.nm) (pa_c (px_cls T.x_ManyGoals.nm) (pa_c (px_cls T.x_NoDay.nm) (pa_c (px_cls T.x_NoHouse.nm) (pa_c (px_cls T.x_NoLetter.nm) (pa_c (px_cls T.x_NoNet.nm) (pa_c (px_cls T.x_NoRoad.nm) (pa_c (px_cls T.x_NoRow.nm) (pa_c (px_cls T.x_NoWay.nm) pa_n))))))))))) (Exn.ec T) (fun x => (kitA_c (k_BadBag T x) (kitA_c (k_CutOff T x) (kitA_c (k_ManyGoals T x) (kitA_c (k_NoDay T x) (kitA_c (k_NoHouse T x) (kitA_c (k_NoLetter T x) (kitA_c (k_NoNet T x) (kitA_c (k_NoRoad T x) (kitA_c (k_NoRow T x) (kitA_c (k_NoWay T x) kitA_n))))))))))) (kitA_c T.xn_BadBag (kitA_c T.xn_CutOff (kitA_c T.xn_ManyGoals (kitA_c T.xn_NoDay (kitA_c T.xn_NoHouse (kitA_c T.xn_NoLetter (kitA_c T.xn_NoNet (kitA_c T.xn_NoRoad (kitA_c T.xn_NoRow (kitA_c T.xn_NoWay kitA_n)))))))))))) (fun hi1 => ?_) (fun hi1 => ?_)
    · -- if1t
      exact bo_ret px_bl
    · -- if1f
      exact bo_ret (px_and (px_isX (xc := Exn.xd c) T.z_isinstance (px_var (pv 1) rfl) (px_cls T.x_NoText.nm) (.own c.NoText) (Exn.ec T) (k_NoText T) T.xn_NoText) fun hb1 => (px_one (px_isX (xc := Exn.xd c) (q := fun _ => true) T.z_isinstance (px_var (pv 1) rfl) (px_tyn T.z_ValueError) (.ty "ValueError") (Exn.ec T) (k_ValueError T) (kit_ty (by decide +kernel)))))


end

end Lw
set_option Elab.async false
set_option linter.all false
set_option maxRecDepth 100000
set_option maxHeartbeats 4000000
namespace Lw
open PySem L2 Sx
section
variable {P : Program} {w : World} {K : PySem.W.Frag} {mg : Str → Option Value} {base : Heap} {c : Cs}
theorem g_law_bent (T : Top K mg c) : Glo P w K mg base 1 "_law_bent" ["_law_text", "_law_cell"] (Pu K (fun a : Str × Int => (fun (text : Str) (cell : Int) => text.length ≤ 500 ∧ text.length ≠ 0) a.1 a.2) (fun a => [(D.str a.1), (D.int a.2)]) (fun a => (D.str (law_bent_m a.1 a.2)))) :=
  glo_of T.d_law_bent (fun _ _ _ _ _ _ us hl => match us, hl with | [_, _], _ => rfl) fun f fd F => fn_ok F cs_law_bent (fun _ => rfl) fun cdv A outer s H E a hr hok => by
    have nd := cs_law_bent.nd
    obtain ⟨text, cell⟩ := a
    have hok : text.length ≤ 500 ∧ text.length ≠ 0 := hok
    obtain ⟨h1, h2⟩ := hok
    have hl9 : (TL.tl "0123 :;a-\n").length = 10 := by decide +kernel
    have hc9 : ∀ i j, (cutS text i j).length ≤ text.length := fun i j => cutS_len
    refine Blk.imp (show Bo _ _ _ [some (D.str text), some (D.int cell), none, none, none] _ (Rt (PuR D.str)) (law_bent_m text cell) from ?_) (fun _ _ h => h.elim) (fun _ _ h => h) (fun _ _ h => h.elim) (fun _ _ h => h.elim) (fun _ _ _ _ h => h.elim)
    unfold law_bent_m
    refine bo_set D.int nd (i := 2) rfl (.inl rfl) (px_op op_mod (px_op op_mul (px_var (pv 1) rfl) px_int o_mulR) px_int (o_mod (j := 2147483647))) (fun by_2 hby_2 => ?_)
    refine bo_set D.int nd (i := 3) rfl (.inl rfl) (px_op op_mod (px_var (pv 2) rfl) (px_bi call_len_str T.z_len (pa_c (px_var (pv 0) rfl) pa_n) (o_lenS /-ssz1-/(szS (by omega)))) (o_mod /-mod1-/(by omega))) (fun at_2 hat_2 => ?_)
    refine bo_set D.str nd (i := 4) rfl (.inl rfl) (px_ix ix_str px_str (px_op op_mod (px_op op_fdiv (px_var (pv 2) rfl) px_int (o_fdiv (j := 4096))) px_int (o_mod (j := 10))) (o_ixS (c := (TL.tl "0123 :;a-\n").getD (((by_2 / 4096) % 10)).toNat 0) /-ssz2-/(szS (by decide +kernel)) (atI_in /-lo1-/(by omega) /-hi1-/(by rw [hl9]; omega)))) (fun sign hsign => ?_)
    have hs1 : sign.length = 1 := by rw [hsign]; rfl
    refine bo_ifR (ts_cmp op_eq (px_op op_mod (px_var (pv 1) rfl) px_int (o_mod (j := 3))) px_int o_eqI) (fun hi1 => ?_) (fun hi1 => ?_)
    · -- if1t
      exact bo_ret (px_op op_add_str (px_slS (px_var (pv 0) rfl) /-ssz3-/(szS (by omega)) pz_n (pz_s (px_var (pv 3) rfl))) (px_slS (px_var (pv 0) rfl) /-ssz4-/(szS (by omega)) (pz_s (px_op op_add (px_var (pv 3) rfl) px_int o_add)) pz_n) (o_addS /-cat1-/(szS (by have q1 := hc9 none (some at_2); have q2 := hc9 (some at_2) none; have q3 := hc9 (some (at_2 + 1)) none; first | omega | (simp only [Str.length_append]; omega)))))
    · -- if1f
      refine bo_ifR (ts_cmp op_eq (px_op op_mod (px_var (pv 1) rfl) px_int (o_mod (j := 3))) px_int o_eqI) (fun hi2 => ?_) (fun hi2 => ?_)
      · -- if2t
        exact bo_ret (px_op op_add_str (px_op op_add_str (px_slS (px_var (pv 0) rfl) /-ssz5-/(szS (by omega)) pz_n (pz_s (px_var (pv 3) rfl))) (px_var (pv 4) rfl) (o_addS /-cat2-/(szS (by have q1 := hc9 none (some at_2); have q2 := hc9 (some at_2) none; have q3 := hc9 (some (at_2 + 1)) none; first | omega | (simp only [Str.length_append]; omega))))) (px_slS (px_var (pv 0) rfl) /-ssz6-/(szS (by omega)) (pz_s (px_var (pv 3) rfl)) pz_n) (o_addS /-cat3-/(szS (by have q1 := hc9 none (some at_2); have q2 := hc9 (some at_2) none; have q3 := hc9 (some (at_2 + 1)) none; first | omega | (simp only [Str.length_append]; omega)))))
      · -- if2f
        exact bo_ret (px_op op_add_str (px_op op_add_str (px_slS (px_var (pv 0) rfl) /-ssz7-/(szS (by omega)) pz_n (pz_s (px_var (pv 3) rfl))) (px_var (pv 4) rfl) (o_addS /-cat4-/(szS (by have q1 := hc9 none (some at_2); have q2 := hc9 (some at_2) none; have q3 := hc9 (some (at_2 + 1)) none; first | omega | (simp only [Str.length_append]; omega))))) (px_slS (px_var (pv 0) rfl) /-ssz8-/(szS (by omega)) (pz_s (px_op op_add (px_var (pv 3) rfl) px_int o_add)) pz_n) (o_addS /-cat5-/(szS (by have q1 := hc9 none (some at_2); have q2 := hc9 (some at_2) none; have q3 := hc9 (some (at_2 + 1)) none; first | omega | (simp only [Str.length_append]; omega)))))


end

end Lw
set_option Elab.async false
set_option linter.all false
set_option maxRecDepth 100000
set_option maxHeartbeats 4000000
namespace Lw
open PySem L2 Sx
section
variable {P : Program} {w : World} {K : PySem.W.Frag} {mg : Str → Option Value} {base : Heap} {c : Cs}
abbrev lvl : Nat := 7
theorem ok_law0 (T : Top K mg c) (H0 : ∀ ns : List Int, ns.length ≤ 63 → law_m ns = true) {f : Addr} {fd : FuncData} (F : Fun K "law" "law" s_law f fd) : FnOk P w K mg base CX0 lvl f fd ["_law_script"] (spL K) :=
  fn_ok F cs_law (fun _ => rfl) fun cdv A outer s H E a hr hok => by
    have nd := cs_law.nd
    revert hok; revert a; intro script hok
    have c0 : (cut script (some 2) (some 5)).length ≤ 3 := cut_lenC (by decide) (by decide)
    have hok : script.length ≤ 63 := hok
    refine Blk.imp (show Bo _ _ _ [some (D.scr (script.map D.int)), none, none, none, none, none, none] _ (Rt (PuR D.bl)) (law_m script) from ?_) (fun _ _ h => h.elim) (fun _ _ h => ⟨h.1.trans (congrArg D.bl (H0 script hok)), h.2⟩) (fun _ _ h => h.elim) (fun _ _ h => h.elim) (fun _ _ _ _ h => h.elim)
    unfold law_m
    refine bo_setL (fun x : Int × Int × List Int => D.tup [(D.int x.1), (D.int x.2.1), ((tlE D.int) x.2.2)]) nd (i := 1) rfl (.inl rfl) (ev_lst pa_n) (fun q bags hbags => ?_)
    refine bo_for (is := [2]) D.int (fun s1 : (List (Int × Int × List Int)) => [some (D.scr (script.map D.int)), some (D.adr q), none, none, none, none, none]) (fun s1 : (List (Int × Int × List Int)) => [ownL K q (s1.map (fun x : Int × Int × List Int => D.tup [(D.int x.1), (D.int x.2.1), ((tlE D.int) x.2.2)]))]) (fun i s => BJt i s) PassesOwn.never rfl (it_list (px_catM D.int (px_lst (pa_c px_int pa_n)) (px_slM D.int (px_var (pv 0) rfl) .s (pz_s px_int) (pz_s px_int)) .f .f /-lcat1-/(by show 1 + _ ≤ 10000; omega))) (pg_name (i := 2) nd rfl (.inl rfl)) (.keep (.keep (.any (.any (.any (.any (.any .nil))))))) rfl (by rw [hbags]; exact ⟨fun _ h => (nomatch h), Nat.le_refl _⟩) (fun i1 x1 s1 hx1 hp1 hj1 => ?_) (fun s1 hs1 hj1e => ?_)
    · -- for1
      have hx1m := List.mem_of_getElem? hx1
      have hx1l := (List.getElem?_eq_some_iff.mp hx1).1
      have hx1l := (List.getElem?_eq_some_iff.mp hx1).1
      have hil : i1 < 4 := by rw [List.length_append] at hx1l; have : i1 < 1 + (cut script (some 2) (some 5)).length := hx1l; omega
      have hj2 := hj1.2
      refine ⟨(bjt_step hj1), _, tg_name, ?_⟩
      refine bo_set D.int nd (i := 3) rfl (.inl rfl) (px_op op_mod (px_op op_mul (px_var (pv 2) rfl) px_int o_mulR) px_int (o_mod (j := 2147483647))) (fun n hn => ?_)
      refine bo_app (kk := 0) (fun x : Int × Int × List Int => D.tup [(D.int x.1), (D.int x.2.1), ((tlE D.int) x.2.2)]) (px_var (pv 1) rfl) rfl (px_tup (pa_c (px_op op_mod (px_var (pv 2) rfl) (Px.to (px_op op_pow px_int px_int o_pow) (rfl : _ = D.int 1000000000)) (o_mod (j := 1000000000))) (pa_c (px_op op_mod (px_var (pv 3) rfl) px_int (o_mod (j := 40))) (pa_c (px_tupOf (px_slM D.int (px_lst (pa_c (px_op op_mod (px_op op_fdiv (px_var (pv 3) rfl) px_int (o_fdiv (j := 64))) px_int (o_mod (j := 41))) (pa_c (px_op op_mod (px_op op_fdiv (px_var (pv 3) rfl) px_int (o_fdiv (j := 4096))) px_int (o_mod (j := 41))) pa_n))) .f pz_n (pz_s (px_op op_add px_int (px_op op_mod (px_op op_fdiv (px_var (pv 3) rfl) px_int (o_fdiv (j := 2))) px_int (o_mod (j := 2))) o_add))) .f T.z_tuple) pa_n)))) /-app1-/(by omega) (fun bags_2 hbags_2 => ?_)
      exact bo_nx (.keep (.keep (.any (.any (.any (.any (.any .nil))))))) rfl
    -- behind for1
    have hl4 : ([5] ++ (cut script (some 2) (some 5))).length ≤ 4 := by rw [List.length_append]; show 1 + _ ≤ 4; omega
    have hpl := hj1e.pl hl4
    have hjl := hj1e.2
    refine bo_frz (i := 1) (kk := 0) rfl rfl ?_
    refine bo_set D.str nd (i := 4) rfl (.inl rfl) (px_call (g_show_plan T) hr (by decide) s1 /-ok_show_plan_1-/(hpl) (pa_c (px_var (pv 1) rfl) pa_n)) (fun text htext => ?_)
    have ht9 : text.length ≤ 300 := by rw [htext]; exact plan_short hj1e.1 (by omega)
    have hne9 : text.length ≠ 0 := text_ne (cells := cut script (some 2) (some 5)) (by rw [hs1, hbags]; rfl) htext
    have hrd : read_plan_m text = .ok s1 := by rw [htext]; exact plan_back hj1e.1
    refine bo_set D.str nd (i := 5) rfl (.inl rfl) (px_call (g_law_placed T) hr (by decide) ((law_odd_m (law_at_m script 0)), text, ((law_at_m script 1) % 4)) /-ok_placed_1-/(⟨Nat.le_trans (odd_short _) (by decide), by show text.length ≤ 500; omega⟩) (pa_c (px_call (g_law_odd T) hr (by decide) (law_at_m script 0) /-ok_odd_1-/(trivial) (pa_c (px_call (g_law_at T) hr (by decide) (script, 0) /-ok_at_1-/(by dsimp only; omega) (pa_c (px_var (pv 0) rfl) (pa_c px_int pa_n))) pa_n)) (pa_c (px_var (pv 4) rfl) (pa_c (px_op op_mod (px_call (g_law_at T) hr (by decide) (script, 1) /-ok_at_2-/(by dsimp only; omega) (pa_c (px_var (pv 0) rfl) (pa_c px_int pa_n))) px_int (o_mod (j := 4))) pa_n)))) (fun odd hodd => ?_)
    have ho9 : odd.length ≤ 700 := by rw [hodd]; exact placed_len ht9
    refine bo_ifR (ts_w (tw_or (ts_not (ts_val (px_call (g_law_refused T) hr (by decide) odd /-ok_refused_1-/(by show odd.length ≤ 2000; omega) (pa_c (px_var (pv 5) rfl) pa_n)))) fun hb1 => (tw_or1 (ts_cmp (op_neD hr.units) (Ev.frz (ev_callOkL (g_read_plan T) hr (by decide) text /-ok_read_plan_1-/(by show text.length ≤ 5000; omega) (okv_eq /-sure_read_plan_1-/(hrd)) (pa_c (px_var (pv 4) rfl) pa_n))) (px_var (pv 1) rfl) (o_neLE (eqs_t3 (e := (fun x : Int × Int × List Int => D.tup [(D.int x.1), (D.int x.2.1), ((tlE D.int) x.2.2)])) eqs_int eqs_int (eqs_tl eqs_int)) .f .f /-eqk1-/(by simp) /-eqk2-/(by simp)))))) (fun hi1 => ?_) (fun hi1 => ?_)
    · -- if1t
      exact bo_ret px_bl
    · -- if1f
      refine bo_forV (is := [2]) D.int (fun s2 : Unit => [some (D.scr (script.map D.int)), some ((lstE (fun x : Int × Int × List Int => D.tup [(D.int x.1), (D.int x.2.1), ((tlE D.int) x.2.2)])) s1), none, none, some (D.str text), some (D.str odd), none]) (fun s2 : Unit => []) (fun _ _ => True) (fun _ => True) PassesOwn.never rfl (it_list (px_slM D.int (px_var (pv 0) rfl) .s (pz_s px_int) (pz_s px_int))) (pg_name (i := 2) nd rfl (.inl rfl)) (.keep (.keep (.any (.any (.keep (.keep (.any .nil))))))) rfl trivial (fun i2 x2 s2 hx2 hp2 hj2 => ?_) (fun _ _ => trivial) (fun s2 hs2 hj2e => ?_)
      · -- for2
        have hx2m := List.mem_of_getElem? hx2
        have hx2l := (List.getElem?_eq_some_iff.mp hx2).1
        refine ⟨⟨fun _ _ => trivial, fun _ _ => trivial, fun _ _ => trivial⟩, _, tg_name, ?_⟩
        refine bo_set D.str nd (i := 6) rfl (.inl rfl) (px_call (g_law_bent T) hr (by decide) (text, x2) /-ok_bent_1-/(⟨by show text.length ≤ 500; omega, hne9⟩) (pa_c (px_var (pv 4) rfl) (pa_c (px_var (pv 2) rfl) pa_n))) (fun other hother => ?_)
        have hot : other.length ≤ 900 := by rw [hother]; exact bent_len (by omega)
        refine bo_if (ts_w (tw_and (ts_not (ts_val (px_call (g_law_refused T) hr (by decide) other /-ok_refused_2-/(by show other.length ≤ 2000; omega) (pa_c (px_var (pv 6) rfl) pa_n)))) fun hb2 => (tw_and1 (ts_cmp op_ne (px_call (g_show_plan T) hr (by decide) (okv (read_plan_m other) []) /-ok_show_plan_2-/(okv_pl hot hb2) (pa_c (Ev.frz (ev_callOkL (g_read_plan T) hr (by decide) other /-ok_read_plan_2-/(by show other.length ≤ 5000; omega) (okv_eq /-sure_read_plan_2-/((ref_read hb2).choose_spec)) (pa_c (px_var (pv 6) rfl) pa_n))) pa_n)) (px_var (pv 6) rfl) o_neS)))) (fun hi2 => ?_) (fun hi2 => ?_)
        · -- if2t
          exact bo_retO px_bl
        · -- if2f
          exact bo_nxO (.keep (.keep (.any (.any (.keep (.keep (.any .nil))))))) rfl
      -- behind for2
      exact bo_ret (px_and (px_call (g_law_refused T) hr (by decide) odd /-ok_refused_3-/(by show odd.length ≤ 2000; omega) (pa_c (px_var (pv 5) rfl) pa_n)) fun hb3 => (px_one (px_cmp (op_eqD hr.units) (Ev.frz (ev_callOkL (g_read_plan T) hr (by decide) text /-ok_read_plan_3-/(by show text.length ≤ 5000; omega) (okv_eq /-sure_read_plan_3-/(hrd)) (pa_c (px_var (pv 4) rfl) pa_n))) (px_var (pv 1) rfl) (o_eqLE (eqs_t3 (e := (fun x : Int × Int × List Int => D.tup [(D.int x.1), (D.int x.2.1), ((tlE D.int) x.2.2)])) eqs_int eqs_int (eqs_tl eqs_int)) .f .f /-eqk3-/(by simp) /-eqk4-/(by simp)))))

end

end Lw
set_option Elab.async false
set_option linter.all false
set_option maxRecDepth 100000
set_option maxHeartbeats 4000000
namespace Lw
open PySem L2 Sx
section
variable {P : Program} {w : World} {K : PySem.W.Frag} {mg : Str → Option Value} {base : Heap} {c : Cs}
theorem ok_law (T : Top K mg c) {f : Addr} {fd : FuncData} (F : Fun K "law" "law" s_law f fd) : FnOk P w K mg base CX0 lvl f fd ["_law_script"] (spL K) := ok_law0 T law_true F
end

end Lw
open PySem PySem.W PySem.Calls PyProof.Rows
set_option maxHeartbeats 0 in
theorem PySem.Challenge.cw_postroad_k82_no_plan_text_holds : PySem.Challenge.rw_postroad_k82_no_plan_text.Holds := by
  w_on; o_law
  refine HandSHeadRun.head_any (r := OpenLaw.row PySem.Challenge.rw_postroad_k82_no_plan_text) (q := view (OpenLaw.row PySem.Challenge.rw_postroad_k82_no_plan_text).prog [27]) (H := Lw.hk) (ob := Lw.ob) (M := 20000) (loose := Lw.loose) (d := HandSHeadRun.topDef (OpenLaw.row PySem.Challenge.rw_postroad_k82_no_plan_text).prog 27) (kwd := []) Lw.ob_eq
    (by kernel_rfl) (fun s => by kernel_rfl) Lw.run (by kernel_rfl) (by kernel_rfl) (by kernel_rfl) (by rfl) (by first | assumption | decide +kernel) (by decide +kernel) ⟨rfl, rfl, rfl, rfl, rfl, by decide +kernel⟩ ?hw ?hc
  case hw => w_witness2
  case hc =>
    refine L2.walk_ofE (l := PySem.Challenge.rw_postroad_k82_no_plan_text) (n := 63) (k := Lw.lvl) (x := "_law_script") (CX := L2.CX0) rfl (by decide) (by kernel_rfl) ⟨rfl, by decide, by decide⟩ ?F (fun _ _ _ _ z => z)
    intro w mg fa h Y G hmg0
    obtain ⟨K, KX, c⟩ := Y
    have hmg : mg ("law" : PySem.Str) = some (.ref fa) := by
      have e : (HandSHeadRun.topDef (OpenLaw.row PySem.Challenge.rw_postroad_k82_no_plan_text).prog 27).name = ("law" : PySem.Str) := by kernel_rfl
      rw [← e]
      exact hmg0
    have T := Lw.top_of KX G c
    obtain ⟨fd, hb, hF⟩ := Sx.law_end (P := (PySem.Challenge.rw_postroad_k82_no_plan_text).prog) (w := w) (pn := "_law_script") (k := Lw.lvl) T.d_law hmg (fun _ _ _ _ _ _ s v => .of_eq rfl) (fun base h1 h2 f fd F => Lw.ok_law T F)
    exact ⟨K, fd, Sx.spLaw K, KX, hb, fun H a ns hl _ hS => ⟨a, ns, rfl, hS, hl, fun _ => rfl⟩, hF⟩
