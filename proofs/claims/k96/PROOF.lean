import PyProof.Rows.All
import Wide.All
import OpenK.AllK
import Wide.FinOn
import HandS.ForMost
import HandS.Exc
import HandS.WordsExc
import HandS.CallSlots
import HandS.Defaults
import HandS.Lambda
import HandS.Wide
import HandS.TupAny
import HandS.TupMul
import HandS.Deep
import HandS.IsInst
import HandS.Conv
import HandS.More
import HandS.SortInts
import HandS.TupLen
import HandS.Property
import HandS.ExcOwn
import HandS.DictComp
import HandS.AnyAll
import KE.KExcIs
import KE.SortData
import KE.SortKeyHeap
import KE.KDictSum
import HandS.Star
import KE.DataMinMax
import KE.GoesMore
import PyProof.Draws
import PyProof.ReprRoads
import HandS.RaiseMore
import HandS.EndBits
import HandS.HeadEnd
import HandS.HeadHook2
import HandS.Style
import HandS.HeadNt
import HandS.Head0
import HandS.Head1
import HandS.Head2
import HandS.Nested
import HandS.NestedK
import KE.DataMinKey
import HandS.HeadHook4
import HandS.EndTab
import HandS.ExcField
import HandS.ExcInit
import KE.KExcSuper
import HandS.FStr
import HandS.ExcValue
import PySem.Challenge.RW_mergeblame_k96_errors_with_their_fields
set_option Elab.async false
set_option linter.all false
set_option maxRecDepth 100000
set_option maxHeartbeats 4000000
namespace Zl
open PySem PySem.Spec L2
open PyProof.Rows hiding St

/-! ## data that never changes, values, cells -/
inductive D where
  | non | bl (b : Bool) | int (i : Int) | str (x : Str)
  | tup (ds : List D) | lst (ds : List D)
  | dK (ks : List Key) (ds : List D) | dT (ks : List (List Key)) (ds : List D)
  | ins (c : Str) (ns : List Str) (ds : List D)
  | obj (x : Str)
  | scr (ns : List Int)
  | kt (ds : List D)
  | exc (c : Str) (ns : List Str) (ds : List D)
  | fnv (a : Nat)
  deriving Inhabited

inductive Val where
  | d (x : D) | own (k : Nat)
  deriving Inhabited

inductive Cell where
  | gone
  | fz (x : D)
  | lst (vs : List Val)
  | dK (ks : List Key) (vs : List Val)
  | dT (ks : List (List Key)) (vs : List Val)
  | ins (c : Str) (ns : List Str) (vs : List Val)
  deriving Inhabited
abbrev Mu := List Cell
/-- a frame: the cells from n0 on are its own; its slots -/
structure Rho where
  n0 : Nat
  s : List (Option Val)

structure Err where
  c : Str
  ns : List Str
  ds : List D
inductive R (a : Type) where
  | ok (x : a)
  | ex (e : Err) (r : Rho) (m : Mu)
  | bad
def R.bind {a b : Type} (r : R a) (k : a → R b) : R b := match r with
  | .ok x => k x
  | .ex e r m => .ex e r m
  | .bad => .bad
@[simp] theorem R.bind_ok {a b : Type} (x : a) (k : a → R b) : (R.ok x).bind k = k x := rfl
@[simp] theorem R.bind_bad {a b : Type} (k : a → R b) : (R.bad : R a).bind k = .bad := rfl
@[simp] theorem R.bind_ex {a b : Type} (e : Err) (r : Rho) (m : Mu) (k : a → R b) : (R.ex e r m : R a).bind k = .ex e r m := rfl

/-- the program's objects: the written part, the classes and the functions by their tags -/
structure Gm where
  K : PySem.W.Frag
  cl : Str → Option Addr
  fn : Str → Option Addr
  xc : Str → Option Addr
  tb : List (Addr × Str) := []

/-- the object at a is an exception of the class cls with the dict d -/
def ExV (cls : Value) (d : Option Addr) (a : Addr) : HO := .ext fun h => ∃ (oe : Obj) (vs : Array Value), h.get? a = some oe ∧ Zc cls d oe ∧ oe.data = .fields vs
theorem exV_ok {P : Program} {w : World} {H : Hp} {h : Heap} {a : Addr} {cls : Value} {d : Option Addr} {oe : Obj} {vs : Array Value} (e : h.get? a = some oe) (z : Zc cls d oe) (dd : oe.data = .fields vs) : ObjOk P w H h a (ExV cls d a) :=
  ⟨⟨oe, vs, e, z, dd⟩, ⟨oe, e⟩, fun _ _ ⟨o, v, q, r⟩ k => ⟨o, v, k o q, r⟩⟩
theorem exV_ne {cls : Value} {d : Option Addr} {a : Addr} (ps : Array Value) : ExV cls d a ≠ .tbl ps := fun z => by
  unfold ExV at z
  cases z
/-! V stands for a datum in the frozen heap F -/
mutual
def Is (Γ : Gm) (F : Hp) : V → D → Prop
  | v, .non => v = .non
  | v, .bl b => v = .bl b
  | v, .int i => v = .int i
  | v, .str x => v = .str x
  | v, .tup ds => ∃ a vs, v = .ref a ∧ F a = some (.tup vs) ∧ IsL Γ F vs ds
  | v, .kt ds => ∃ a vs, v = .ref a ∧ SqT Γ.K F a vs ∧ IsL Γ F vs ds
  | v, .lst ds => ∃ a vs, v = .ref a ∧ F a = some (.lst vs) ∧ IsL Γ F vs ds
  | v, .scr ns => ∃ a, v = .ref a ∧ SqL Γ.K F a (ns.map V.int)
  | v, .dK ks ds => ∃ a kvs, v = .ref a ∧ F a = some (.dK kvs) ∧ kvs.map (·.1) = ks ∧ IsL Γ F (kvs.map (·.2)) ds
  | v, .dT ks ds => ∃ a kvs, v = .ref a ∧ F a = some (.dT kvs) ∧ kvs.map (·.1) = ks ∧ IsL Γ F (kvs.map (·.2)) ds
  | v, .ins c ns ds => ∃ a C dx fs, v = .ref a ∧ Γ.cl c = some C ∧ F a = some (.ins C dx fs) ∧ fs.map (·.1) = ns ∧ IsL Γ F (fs.map (·.2)) ds
  | v, .obj x => ∃ a, v = .ref a ∧ Γ.fn x = some a
  | v, .exc c ns ds => ∃ a C d, v = .ref a ∧ Γ.xc c = some C ∧ F a = some (ExV (.ref C) d a) ∧ ∃ fs : List (Str × V), fs.map (·.1) = ns ∧ IsL Γ F (fs.map (·.2)) ds ∧ (d = none ∧ fs = [] ∨ ∃ dd, d = some dd ∧ F dd = some (.xd fs))
  | v, .fnv a => v = .ref a
def IsL (Γ : Gm) (F : Hp) : List V → List D → Prop
  | vs, [] => vs = []
  | vs, d :: ds => ∃ v r, vs = v :: r ∧ Is Γ F v d ∧ IsL Γ F r ds
end

theorem Same.seqT {K : PySem.W.Frag} {H H' : Hp} {a : Addr} {xs : List V} (e : Same H H') (h : SqT K H a xs) : SqT K H' a xs := by
  rcases h with (h | ⟨o, h⟩) | h
  · exact .inl (.inl (e _ _ h))
  · exact .inl (.inr ⟨o, e _ _ h⟩)
  · exact .inr h

mutual
theorem Is.mono {Γ : Gm} {F F' : Hp} (h : Same F F') : ∀ (d : D) (v : V), Is Γ F v d → Is Γ F' v d
  | .non, v, x => by unfold Is at x ⊢; exact x
  | .bl b, v, x => by unfold Is at x ⊢; exact x
  | .int i, v, x => by unfold Is at x ⊢; exact x
  | .str i, v, x => by unfold Is at x ⊢; exact x
  | .tup ds, v, x => by
    unfold Is at x ⊢
    obtain ⟨a, vs, e, s, l⟩ := x
    exact ⟨a, vs, e, h _ _ s, IsL.mono h ds vs l⟩
  | .kt ds, v, x => by
    unfold Is at x ⊢
    obtain ⟨a, vs, e, s, l⟩ := x
    exact ⟨a, vs, e, Same.seqT h s, IsL.mono h ds vs l⟩
  | .lst ds, v, x => by
    unfold Is at x ⊢
    obtain ⟨a, vs, e, s, l⟩ := x
    exact ⟨a, vs, e, h _ _ s, IsL.mono h ds vs l⟩
  | .scr ns, v, x => by
    unfold Is at x ⊢
    obtain ⟨a, e, s⟩ := x
    exact ⟨a, e, h.seq s⟩
  | .dK ks ds, v, x => by
    unfold Is at x ⊢
    obtain ⟨a, kvs, e, s, k, l⟩ := x
    exact ⟨a, kvs, e, h _ _ s, k, IsL.mono h ds _ l⟩
  | .dT ks ds, v, x => by
    unfold Is at x ⊢
    obtain ⟨a, kvs, e, s, k, l⟩ := x
    exact ⟨a, kvs, e, h _ _ s, k, IsL.mono h ds _ l⟩
  | .ins c ns ds, v, x => by
    unfold Is at x ⊢
    obtain ⟨a, C, dx, fs, e, ec, s, k, l⟩ := x
    exact ⟨a, C, dx, fs, e, ec, h _ _ s, k, IsL.mono h ds _ l⟩
  | .obj c, v, x => by unfold Is at x ⊢; exact x
  | .fnv a, v, x => by unfold Is at x ⊢; exact x
  | .exc c ns ds, v, x => by
    unfold Is at x ⊢
    obtain ⟨a, C, d, e, ec, s, fs, k, l, q⟩ := x
    refine ⟨a, C, d, e, ec, h _ _ s, fs, k, IsL.mono h ds _ l, ?_⟩
    rcases q with q | ⟨dd, q1, q2⟩
    · exact .inl q
    · exact .inr ⟨dd, q1, h _ _ q2⟩
theorem IsL.mono {Γ : Gm} {F F' : Hp} (h : Same F F') : ∀ (ds : List D) (vs : List V), IsL Γ F vs ds → IsL Γ F' vs ds
  | [], vs, x => by unfold IsL at x ⊢; exact x
  | d :: ds, vs, x => by
    unfold IsL at x ⊢
    obtain ⟨v, r, e, a, b⟩ := x
    exact ⟨v, r, e, Is.mono h d v a, IsL.mono h ds r b⟩
end
section
variable {Γ : Gm} {F : Hp}
theorem IsL.nil : IsL Γ F [] [] := by unfold IsL; rfl
theorem IsL.cons {v : V} {d : D} {vs : List V} {ds : List D} (h : Is Γ F v d) (t : IsL Γ F vs ds) : IsL Γ F (v :: vs) (d :: ds) := by unfold IsL; exact ⟨v, vs, rfl, h, t⟩
theorem IsL.length : ∀ {ds : List D} {vs : List V}, IsL Γ F vs ds → vs.length = ds.length
  | [], vs, h => by unfold IsL at h; rw [h]; rfl
  | d :: ds, vs, h => by
    unfold IsL at h
    obtain ⟨v, r, e, _, t⟩ := h
    rw [e, List.length_cons, List.length_cons, IsL.length t]
theorem IsL.get : ∀ {ds : List D} {vs : List V} {i : Nat} {d : D}, IsL Γ F vs ds → ds[i]? = some d → ∃ v, vs[i]? = some v ∧ Is Γ F v d
  | [], _, _, _, _, e => by simp at e
  | d :: ds, vs, i, d', h, e => by
    unfold IsL at h
    obtain ⟨v, r, ev, h1, t⟩ := h
    subst ev
    cases i with
    | zero => simp at e; subst e; exact ⟨v, rfl, h1⟩
    | succ i =>
      obtain ⟨w, q, z⟩ := IsL.get (i := i) t (by simpa using e)
      exact ⟨w, by simpa using q, z⟩
theorem IsL.getV : ∀ {ds : List D} {vs : List V} {i : Nat} {v : V}, IsL Γ F vs ds → vs[i]? = some v → ∃ d, ds[i]? = some d ∧ Is Γ F v d
  | [], vs, _, _, h, e => by unfold IsL at h; subst h; simp at e
  | d :: ds, vs, i, v', h, e => by
    unfold IsL at h
    obtain ⟨v, r, ev, h1, t⟩ := h
    subst ev
    cases i with
    | zero => simp at e; subst e; exact ⟨d, rfl, h1⟩
    | succ i =>
      obtain ⟨w, q, z⟩ := IsL.getV (i := i) t (by simpa using e)
      exact ⟨w, by simpa using q, z⟩
theorem IsL.append : ∀ {ds es : List D} {vs ws : List V}, IsL Γ F vs ds → IsL Γ F ws es → IsL Γ F (vs ++ ws) (ds ++ es)
  | [], _, vs, _, h, h2 => by unfold IsL at h; subst h; exact h2
  | d :: ds, es, vs, ws, h, h2 => by
    unfold IsL at h
    obtain ⟨v, r, ev, h1, t⟩ := h
    subst ev
    exact IsL.cons h1 (IsL.append t h2)
theorem IsL.take : ∀ {ds : List D} {vs : List V} (n : Nat), IsL Γ F vs ds → IsL Γ F (vs.take n) (ds.take n)
  | [], vs, n, h => by unfold IsL at h; subst h; simp; exact IsL.nil
  | d :: ds, vs, n, h => by
    unfold IsL at h
    obtain ⟨v, r, ev, h1, t⟩ := h
    subst ev
    cases n with
    | zero => exact IsL.nil
    | succ n => exact IsL.cons h1 (IsL.take n t)
theorem IsL.drop : ∀ {ds : List D} {vs : List V} (n : Nat), IsL Γ F vs ds → IsL Γ F (vs.drop n) (ds.drop n)
  | [], vs, n, h => by unfold IsL at h; subst h; simp; exact IsL.nil
  | d :: ds, vs, n, h => by
    cases n with
    | zero => exact h
    | succ n =>
      unfold IsL at h
      obtain ⟨v, r, ev, h1, t⟩ := h
      subst ev
      exact IsL.drop n t
theorem IsL.reverse : ∀ {ds : List D} {vs : List V}, IsL Γ F vs ds → IsL Γ F vs.reverse ds.reverse
  | [], vs, h => by unfold IsL at h; subst h; exact IsL.nil
  | d :: ds, vs, h => by
    unfold IsL at h
    obtain ⟨v, r, ev, h1, t⟩ := h
    subst ev
    rw [List.reverse_cons, List.reverse_cons]
    exact IsL.append (IsL.reverse t) (IsL.cons h1 IsL.nil)
theorem IsL.eraseIdx : ∀ {ds : List D} {vs : List V} (n : Nat), IsL Γ F vs ds → IsL Γ F (vs.eraseIdx n) (ds.eraseIdx n)
  | [], vs, n, h => by unfold IsL at h; subst h; simp; exact IsL.nil
  | d :: ds, vs, n, h => by
    unfold IsL at h
    obtain ⟨v, r, ev, h1, t⟩ := h
    subst ev
    cases n with
    | zero => exact t
    | succ n => exact IsL.cons h1 (IsL.eraseIdx n t)
theorem IsL.inv {d : D} {ds : List D} {vs : List V} (h : IsL Γ F vs (d :: ds)) : ∃ v r, vs = v :: r ∧ Is Γ F v d ∧ IsL Γ F r ds := by unfold IsL at h; exact h
theorem IsL.inv0 {vs : List V} (h : IsL Γ F vs []) : vs = [] := by unfold IsL at h; exact h
end

/-! ## the ghost: frozen heap, the cells' addresses -/
structure Gh where
  F : Hp
  al : List Addr
  ts : List Nat
def VRel (Γ : Gm) (G : Gh) (u : V) : Val → Prop
  | .d x => Is Γ G.F u x
  | .own k => ∃ a, G.al[k]? = some a ∧ u = .ref a
def VRelL (Γ : Gm) (G : Gh) : List V → List Val → Prop := Paired (VRel Γ G)

def CRel (Γ : Gm) (G : Gh) (H : Hp) (a : Addr) : Cell → Prop
  | .gone => True
  | .fz x => Is Γ G.F (.ref a) x
  | .lst vs => G.F a = none ∧ ∃ us, H a = some (.lst us) ∧ VRelL Γ G us vs
  | .dK ks vs => G.F a = none ∧ ∃ kus, H a = some (.dK kus) ∧ kus.map (·.1) = ks ∧ VRelL Γ G (kus.map (·.2)) vs
  | .dT ks vs => G.F a = none ∧ ∃ kus, H a = some (.dT kus) ∧ kus.map (·.1) = ks ∧ VRelL Γ G (kus.map (·.2)) vs
  | .ins c ns vs => G.F a = none ∧ ∃ C dx fus, Γ.cl c = some C ∧ H a = some (.ins C dx fus) ∧ fus.map (·.1) = ns ∧ VRelL Γ G (fus.map (·.2)) vs

def Cell.vals : Cell → List Val
  | .lst vs => vs
  | .dK _ vs => vs
  | .dT _ vs => vs
  | .ins _ _ vs => vs
  | _ => []
/-- the cells below t name cells below t -/
def Clo (t : Nat) (μ : Mu) : Prop := ∀ (k : Nat) c j, k < t → μ[k]? = some c → Val.own j ∈ c.vals → j < t
/-- the tables of code objects, apart from all data -/
def TabZ (Γ : Gm) (G : Gh) (H : Hp) : Prop := ∀ p ∈ Γ.tb, G.F p.1 = none ∧ p.1 ∉ G.al ∧ ∃ ps : Array Value, H p.1 = some (.tbl ps) ∧ TriplesOk ps.toList ∧ ∀ (pos : Pos) (cv : Value), codeAmong pos ps.toList = some cv → ∃ c, cv = .ref c ∧ H c = some (LamX.CodeO c p.2) ∧ c ∉ G.al
structure RepM (Γ : Gm) (G : Gh) (μ : Mu) (H : Hp) : Prop where
  sub : Same G.F H
  len : G.al.length = μ.length
  nd : G.al.Nodup
  cells : ∀ (k : Nat) a c, G.al[k]? = some a → μ[k]? = some c → CRel Γ G H a c
  there : ∀ a ∈ G.al, ∃ o, H a = some o
  clo : ∀ t ∈ G.ts, t ≤ μ.length ∧ Clo t μ
  tabs : TabZ Γ G H
structure Rep (Γ : Gm) (G : Gh) (ρ : Rho) (μ : Mu) (σ : St) (H : Hp) : Prop extends RepM Γ G μ H where
  slots : ∀ (i : Nat) v, ρ.s[i]? = some (some v) → ∃ u, σ[i]? = some (some u) ∧ VRel Γ G u v
  rl : ρ.s.length = σ.length
  n0 : ρ.n0 ∈ G.ts
  top : ∀ t ∈ G.ts, t ≤ ρ.n0

/-- how the ghosts and heaps go on -/
structure Step (G : Gh) (H : Hp) (G' : Gh) (H' : Hp) : Prop where
  fz : Same G.F G'.F
  al : ∃ r, G'.al = G.al ++ r
  ts : G'.ts = G.ts
  keep : ∀ a o, H a = some o → (∀ ps, o ≠ .tbl ps) → a ∉ G.al → H' a = some o
  newF : ∀ a, G.F a = none → G'.F a ≠ none → H a = none ∨ a ∈ G.al
  newA : ∀ a, a ∈ G'.al → a ∉ G.al → H a = none
  there : ∀ a o, H a = some o → ∃ o', H' a = some o'

theorem Step.refl (G : Gh) (H : Hp) : Step G H G H := ⟨fun _ _ h => h, ⟨[], by simp⟩, rfl, fun _ _ h _ _ => h, fun _ h n => absurd h n, fun _ h n => absurd h n, fun _ o h => ⟨o, h⟩⟩
theorem Step.trans {G G1 G2 : Gh} {H H1 H2 : Hp} (p : Step G H G1 H1) (q : Step G1 H1 G2 H2) : Step G H G2 H2 := by
  obtain ⟨r1, e1⟩ := p.al
  obtain ⟨r2, e2⟩ := q.al
  have back : ∀ a, H1 a = none → H a = none := fun a h => by
    cases e : H a with
    | none => rfl
    | some o => obtain ⟨o', e'⟩ := p.there a o e; rw [h] at e'; cases e'
  have old : ∀ a, a ∈ G1.al → H a = none ∨ a ∈ G.al := fun a h => by
    by_cases z : a ∈ G.al
    · exact .inr z
    · exact .inl (p.newA a h z)
  refine ⟨fun a o h => q.fz a o (p.fz a o h), ⟨r1 ++ r2, by rw [e2, e1, List.append_assoc]⟩, q.ts.trans p.ts, fun a o h nt n => ?_, fun a h n => ?_, fun a h n => ?_, fun a o h => ?_⟩
  · by_cases z : a ∈ G1.al
    · rcases old a z with w | w
      · rw [h] at w; cases w
      · exact absurd w n
    · exact q.keep a o (p.keep a o h nt n) nt z
  · by_cases z : G1.F a = none
    · rcases q.newF a z n with w | w
      · exact .inl (back a w)
      · exact old a w
    · exact p.newF a h z
  · by_cases z : a ∈ G1.al
    · exact p.newA a z n
    · exact back a (q.newA a h z)
  · obtain ⟨o', e'⟩ := p.there a o h
    exact q.there a o' e'

def TabO (o : HO) : Prop := (∃ ps, o = .tbl ps) ∨ ∃ c q, o = LamX.CodeO c q
theorem TabO.lst {us : List V} : ¬ TabO (.lst us) := by rintro (⟨_, e⟩ | ⟨_, _, e⟩) <;> first | cases e | (unfold LamX.CodeO at e; cases e)
theorem TabO.dK {us : List (Key × V)} : ¬ TabO (.dK us) := by rintro (⟨_, e⟩ | ⟨_, _, e⟩) <;> first | cases e | (unfold LamX.CodeO at e; cases e)
/-- nothing but new objects, own ones or loose data changed -/
theorem TabZ.go {Γ : Gm} {G G' : Gh} {H H' : Hp} (h : TabZ Γ G H) (k : ∀ a o, H a = some o → TabO o → a ∉ G.al → H' a = some o) (hF : ∀ a o, a ∉ G.al → H a = some o → TabO o → G.F a = none → G'.F a = none) (hA : ∀ a ∈ G'.al, a ∈ G.al ∨ ∀ o, H a = some o → ¬ TabO o) : TabZ Γ G' H' := by
  intro p hp
  obtain ⟨h1, h2, ps, h3, h4, h5⟩ := h p hp
  refine ⟨hF _ _ h2 h3 (.inl ⟨_, rfl⟩) h1, fun z => ?_, ps, k _ _ h3 (.inl ⟨_, rfl⟩) h2, h4, fun pos cv e => ?_⟩
  · rcases hA _ z with q | q
    · exact h2 q
    · exact q _ h3 (.inl ⟨_, rfl⟩)
  · obtain ⟨c, e1, e2, e3⟩ := h5 pos cv e
    refine ⟨c, e1, k _ _ e2 (.inr ⟨_, _, rfl⟩) e3, fun z => ?_⟩
    rcases hA _ z with q | q
    · exact e3 q
    · exact q _ e2 (.inr ⟨_, _, rfl⟩)
theorem no_tab {H : Hp} {a : Addr} (h : H a = none) : ∀ o, H a = some o → ¬ TabO o := fun o e => by rw [h] at e; cases e
theorem VRel.mono {Γ : Gm} {G G' : Gh} {H H' : Hp} (s : Step G H G' H') {u : V} : ∀ {v : Val}, VRel Γ G u v → VRel Γ G' u v
  | .d x, h => Is.mono s.fz x u h
  | .own k, h => by
    obtain ⟨a, e, z⟩ := h
    obtain ⟨r, q⟩ := s.al
    refine ⟨a, ?_, z⟩
    rw [q, List.getElem?_append_left (List.getElem?_eq_some_iff.mp e).1]
    exact e
theorem VRelL.mono {Γ : Gm} {G G' : Gh} {H H' : Hp} (s : Step G H G' H') : ∀ {us : List V} {vs : List Val}, VRelL Γ G us vs → VRelL Γ G' us vs
  | _, _, .nil => .nil
  | _, _, .cons h t => .cons (VRel.mono s h) (VRelL.mono s t)

/-! ## readings -/
def ErrRel (Γ : Gm) (G : Gh) (H : Hp) (cls : Value) (dx : Option Addr) (e : Err) : Prop :=
  ∃ (C : Addr) (fs : List (Str × V)), Γ.xc e.c = some C ∧ cls = .ref C ∧ fs.map (·.1) = e.ns ∧ IsL Γ G.F (fs.map (·.2)) e.ds ∧ (dx = none ∧ fs = [] ∨ ∃ d, dx = some d ∧ G.F d = some (.xd fs))

abbrev WF : WX := fun _ _ _ _ => False
/-- what is wanted of an outcome -/
def Post (Γ : Gm) (W : WX) (G : Gh) (ρ : Rho) (σ : St) (H : Hp) (Q : VK) : R (Val × Mu) → Prop
  | .ok p => ∀ u G' H', Step G H G' H' → Rep Γ G' ρ p.2 σ H' → VRel Γ G' u p.1 → Q u H'
  | .ex e r m => ∀ cls dx G' H', Step G H G' H' → Rep Γ G' r m σ H' → ErrRel Γ G' H' cls dx e → W cls dx σ H'
  | .bad => False
abbrev FE := Rho → Mu → R (Val × Mu)
def tZ (Γ : Gm) (W : WX) (f : FE) : TE := fun σ H Q => ∃ G ρ μ, Rep Γ G ρ μ σ H ∧ Post Γ W G ρ σ H Q (f ρ μ)

theorem Post.step {Γ : Gm} {W : WX} {G G1 : Gh} {ρ : Rho} {σ : St} {H H1 : Hp} {Q : VK} (s : Step G H G1 H1) : ∀ {r : R (Val × Mu)}, Post Γ W G ρ σ H Q r → Post Γ W G1 ρ σ H1 Q r
  | .ok p, h => fun u G' H' z => h u G' H' (s.trans z)
  | .ex e r m, h => fun c d G' H' z => h c d G' H' (s.trans z)
  | .bad, h => h
theorem Post.imp {Γ : Gm} {W : WX} {G : Gh} {ρ : Rho} {σ : St} {H : Hp} {Q Q' : VK} (q : ∀ u H', Q u H' → Q' u H') : ∀ {r : R (Val × Mu)}, Post Γ W G ρ σ H Q r → Post Γ W G ρ σ H Q' r
  | .ok p, h => fun u G' H' a b c => q _ _ (h u G' H' a b c)
  | .ex e r m, h => h
  | .bad, h => h
/-- one evaluation, then the rest -/
theorem Post.bind {Γ : Gm} {W : WX} {G : Gh} {ρ : Rho} {σ : St} {H : Hp} {Q : VK} {Q1 : VK} {k : Val × Mu → R (Val × Mu)} : ∀ {r : R (Val × Mu)}, Post Γ W G ρ σ H Q (r.bind k) →
    (∀ u v μ1 G1 H1, Step G H G1 H1 → Rep Γ G1 ρ μ1 σ H1 → VRel Γ G1 u v → Post Γ W G1 ρ σ H1 Q (k (v, μ1)) → Q1 u H1) → Post Γ W G ρ σ H Q1 r
  | .ok p, h, f => fun u G1 H1 s R v => f u p.1 p.2 G1 H1 s R v (Post.step s h)
  | .ex e r m, h, f => h
  | .bad, h, f => h
theorem PE.imp {X : Cx} {e : Expr} {t t' : TE} (h : PE X e t) (i : ∀ σ H Q, t' σ H Q → t σ H Q) : PE X e t' := ⟨fun pins s σ H Q I q => h.run pins s σ H Q I (i σ H Q q)⟩
theorem PT.imp {X : Cx} {e : Expr} {t t' : TT} (h : PT X e t) (i : ∀ σ H Q, t' σ H Q → t σ H Q) : PT X e t' := ⟨fun pins s σ H Q I q => h.run pins s σ H Q I (i σ H Q q)⟩
theorem PA.imp {X : Cx} {e : List Expr} {t t' : TA} (h : PA X e t) (i : ∀ σ H Q, t' σ H Q → t σ H Q) : PA X e t' := ⟨fun pos pins s σ H Q I q => h.run pos pins s σ H Q I (i σ H Q q)⟩
theorem PS.imp {X : Cx} {e : Stmt} {t t' : TS} (h : PS X e t) (i : ∀ D σ H, t' D σ H → t D σ H) : PS X e t' := ⟨fun pins s σ H D I q => h.run pins s σ H D I (i D σ H q)⟩
theorem PSs.imp {X : Cx} {e : List Stmt} {t t' : TS} (h : PSs X e t) (i : ∀ D σ H, t' D σ H → t D σ H) : PSs X e t' := ⟨fun pins s σ H D I q => h.run pins s σ H D I (i D σ H q)⟩
end Zl
set_option Elab.async false
set_option linter.all false
set_option maxRecDepth 100000
set_option maxHeartbeats 4000000
namespace Zl
open PySem PySem.Spec L2
open PyProof.Rows hiding St

/-! ## new objects -/
theorem Paired.imp {α β : Type} {P Q : α → β → Prop} (f : ∀ a b, P a b → Q a b) : ∀ {l : List α} {m : List β}, Paired P l m → Paired Q l m
  | _, _, .nil => .nil
  | _, _, .cons h t => .cons (f _ _ h) (Paired.imp f t)
theorem same_upd {H : Hp} {p : Addr} {o : HO} (h : H p = none) : Same H (upd H p o) := fun b u e => by rw [upd_ne (ne_of_none e h)]; exact e
section
variable {Γ : Gm} {G : Gh} {ρ : Rho} {μ : Mu} {σ : St} {H : Hp} {p : Addr} {o : HO}
theorem RepM.notin (R : RepM Γ G μ H) (hp : H p = none) : p ∉ G.al := fun h => by
  obtain ⟨o, e⟩ := R.there p h
  rw [hp] at e; cases e
theorem RepM.Fnone (R : RepM Γ G μ H) (hp : H p = none) : G.F p = none := by
  cases e : G.F p with
  | none => rfl
  | some o => rw [R.sub p o e] at hp; cases hp
/-- one step of the relation of a cell: the ghost's F grows off the cell's place, H is kept at it -/
theorem CRel.mono {Γ : Gm} {G G' : Gh} {H H' : Hp} {a : Addr} (hF : Same G.F G'.F) (hn : G.F a = none → G'.F a = none) (hA : ∃ r, G'.al = G.al ++ r) (hH : H' a = H a) : ∀ {c : Cell}, CRel Γ G H a c → CRel Γ G' H' a c := by
  have hv : ∀ {u : V} {v : Val}, VRel Γ G u v → VRel Γ G' u v := fun {u v} h => by
    cases v with
    | d x => exact Is.mono hF x u h
    | own k =>
      obtain ⟨a, e, z⟩ := h
      obtain ⟨r, q⟩ := hA
      refine ⟨a, ?_, z⟩
      rw [q, List.getElem?_append_left (List.getElem?_eq_some_iff.mp e).1]
      exact e
  have hl : ∀ {us : List V} {vs : List Val}, VRelL Γ G us vs → VRelL Γ G' us vs := fun h => Paired.imp (fun _ _ z => hv z) h
  intro c h
  cases c with
  | gone => trivial
  | fz x => exact Is.mono hF x _ h
  | lst vs =>
    obtain ⟨n, us, e, r⟩ := h
    exact ⟨hn n, us, by rw [hH]; exact e, hl r⟩
  | dK ks vs =>
    obtain ⟨n, us, e, k, r⟩ := h
    exact ⟨hn n, us, by rw [hH]; exact e, k, hl r⟩
  | dT ks vs =>
    obtain ⟨n, us, e, k, r⟩ := h
    exact ⟨hn n, us, by rw [hH]; exact e, k, hl r⟩
  | ins c ns vs =>
    obtain ⟨n, C, dx, us, e, q, k, r⟩ := h
    exact ⟨hn n, C, dx, us, e, by rw [hH]; exact q, k, hl r⟩
theorem mem_ne {a p : Addr} {l : List Addr} (h : a ∈ l) (n : p ∉ l) : a ≠ p := fun e => n (e ▸ h)
/-- an object of no matter -/
theorem RepM.other (R : RepM Γ G μ H) (hp : H p = none) : RepM Γ G μ (upd H p o) :=
  ⟨fun a u e => same_upd hp a u (R.sub a u e), R.len, R.nd, fun k a c e1 e2 => CRel.mono (fun _ _ h => h) (fun n => n) ⟨[], by simp⟩ (upd_ne (mem_ne (List.mem_of_getElem? e1) (R.notin hp))) (R.cells k a c e1 e2),
    fun a h => by obtain ⟨u, e⟩ := R.there a h; exact ⟨u, same_upd hp a u e⟩, R.clo, R.tabs.go (fun a u e _ _ => same_upd hp a u e) (fun _ _ _ _ _ h => h) fun a z => .inl z⟩
theorem Step.other (hp : H p = none) : Step G H G (upd H p o) :=
  ⟨fun _ _ h => h, ⟨[], by simp⟩, rfl, fun a u e _ _ => same_upd hp a u e, fun a h n => absurd h n, fun a h n => absurd h n, fun a u e => ⟨u, same_upd hp a u e⟩⟩
/-- a frozen new object -/
abbrev Gh.fzn (G : Gh) (p : Addr) (o : HO) : Gh := ⟨upd G.F p o, G.al, G.ts⟩
theorem RepM.fzNew (R : RepM Γ G μ H) (hp : H p = none) : RepM Γ (G.fzn p o) μ (upd H p o) := by
  have nF := R.Fnone hp
  refine ⟨fun a u e => ?_, R.len, R.nd, fun k a c e1 e2 => ?_, fun a h => by obtain ⟨u, e⟩ := R.there a h; exact ⟨u, same_upd hp a u e⟩, R.clo, R.tabs.go (fun a u e _ _ => same_upd hp a u e) (fun a u _ e _ h => by show upd G.F p o a = none; rw [upd_ne (ne_of_none e hp)]; exact h) fun a z => .inl z⟩
  · by_cases z : a = p
    · have e' : upd G.F p o a = some u := e
      rw [z, upd_same] at e'
      rw [z, upd_same]
      exact e'
    · rw [upd_ne z]
      have e' : upd G.F p o a = some u := e
      rw [upd_ne z] at e'
      exact R.sub a u e'
  · have z := mem_ne (List.mem_of_getElem? e1) (R.notin hp)
    exact CRel.mono (G' := G.fzn p o) (same_upd nF) (fun n => by show upd G.F p o a = none; rw [upd_ne z]; exact n) ⟨[], by simp⟩ (upd_ne z) (R.cells k a c e1 e2)
theorem RepM.stepFz (R : RepM Γ G μ H) (hp : H p = none) : Step G H (G.fzn p o) (upd H p o) := by
  have nF := R.Fnone hp
  refine ⟨same_upd nF, ⟨[], by simp⟩, rfl, fun a u e _ _ => same_upd hp a u e, fun a h n => ?_, fun a h n => absurd h n, fun a u e => ⟨u, same_upd hp a u e⟩⟩
  by_cases z : a = p
  · exact .inl (z ▸ hp)
  · have n' : upd G.F p o a ≠ none := n
    rw [upd_ne z] at n'
    exact absurd h n'
/-- a live new object -/
abbrev Gh.lvn (G : Gh) (p : Addr) : Gh := ⟨G.F, G.al ++ [p], G.ts⟩
theorem RepM.stepLv (hp : H p = none) : Step G H (G.lvn p) (upd H p o) :=
  ⟨fun _ _ h => h, ⟨[p], rfl⟩, rfl, fun a u e _ _ => same_upd hp a u e, fun a h n => absurd h n, fun a h n => by
    rcases List.mem_append.mp h with z | z
    · exact absurd z n
    · rw [List.mem_singleton.mp z]; exact hp, fun a u e => ⟨u, same_upd hp a u e⟩⟩
theorem RepM.lvNew (R : RepM Γ G μ H) (hp : H p = none) {c : Cell} (hc : CRel Γ (G.lvn p) (upd H p o) p c) : RepM Γ (G.lvn p) (μ ++ [c]) (upd H p o) := by
  refine ⟨fun a u e => same_upd hp a u (R.sub a u e), by simp [R.len], ?_, fun k a c' e1 e2 => ?_, fun a h => ?_, fun t ht => ?_, R.tabs.go (fun a u e _ _ => same_upd hp a u e) (fun _ _ _ _ _ h => h) fun a z => (List.mem_append.mp z).imp id fun q => by rw [List.mem_singleton.mp q]; exact no_tab hp⟩
  · refine List.nodup_append.mpr ⟨R.nd, by simp, fun a h b hb => ?_⟩
    rw [List.mem_singleton.mp hb]
    exact mem_ne h (R.notin hp)
  · by_cases hk : k < G.al.length
    · have e1' : G.al[k]? = some a := by
        have q : (G.al ++ [p])[k]? = some a := e1
        rwa [List.getElem?_append_left hk] at q
      have e2' : μ[k]? = some c' := by rwa [List.getElem?_append_left (by rw [← R.len]; exact hk)] at e2
      exact CRel.mono (G := G) (G' := G.lvn p) (fun _ _ h => h) (fun n => n) ⟨[p], by rfl⟩ (upd_ne (mem_ne (List.mem_of_getElem? e1') (R.notin hp))) (R.cells k a c' e1' e2')
    · have q : (G.al ++ [p])[k]? = some a := e1
      have hk2 : k = G.al.length := by
        have := (List.getElem?_eq_some_iff.mp q).1
        simp at this
        omega
      subst hk2
      rw [List.getElem?_append_right (Nat.le_refl _)] at q
      rw [R.len, List.getElem?_append_right (Nat.le_refl _)] at e2
      simp at q e2
      subst q e2
      exact hc
  · rcases List.mem_append.mp h with z | z
    · obtain ⟨u, e⟩ := R.there a z; exact ⟨u, same_upd hp a u e⟩
    · rw [List.mem_singleton.mp z]; exact ⟨o, upd_same⟩
  · obtain ⟨h1, h2⟩ := R.clo t ht
    refine ⟨by rw [List.length_append]; omega, fun k c' j hk e m => h2 k c' j hk ?_ m⟩
    rwa [List.getElem?_append_left (by omega)] at e
/-- a live object changes -/
theorem RepM.write (R : RepM Γ G μ H) {k : Nat} (e1 : G.al[k]? = some p) (hF : G.F p = none) {c : Cell} (hc : CRel Γ G (upd H p o) p c) (hv : ∀ t ∈ G.ts, k < t → ∀ j, Val.own j ∈ c.vals → j < t) : RepM Γ G (μ.set k c) (upd H p o) := by
  have off : ∀ b u, G.F b = some u → b ≠ p := fun b u e z => by rw [z, hF] at e; cases e
  refine ⟨fun a u e => by rw [upd_ne (off a u e)]; exact R.sub a u e, by simp [R.len], R.nd, fun j a c' h1 h2 => ?_, fun a h => ?_, fun t ht => ?_, R.tabs.go (fun a u e _ n => by rw [upd_ne (mem_ne (a := p) (List.mem_of_getElem? e1) n).symm]; exact e) (fun _ _ _ _ _ h => h) fun a z => .inl z⟩
  · by_cases hj : j = k
    · subst hj
      rw [e1] at h1
      cases h1
      rw [List.getElem?_set_self (by rw [← R.len]; exact (List.getElem?_eq_some_iff.mp e1).1)] at h2
      cases h2
      exact hc
    · rw [List.getElem?_set_ne (Ne.symm hj)] at h2
      have ne : a ≠ p := fun z => hj (by subst z; exact (List.getElem_inj R.nd).mp ((List.getElem?_eq_some_iff.mp h1).2.trans (List.getElem?_eq_some_iff.mp e1).2.symm))
      exact CRel.mono (fun _ _ h => h) (fun n => n) ⟨[], by simp⟩ (upd_ne ne) (R.cells j a c' h1 h2)
  · by_cases z : a = p
    · rw [z]; exact ⟨o, upd_same⟩
    · obtain ⟨u, e⟩ := R.there a h; exact ⟨u, by rw [upd_ne z]; exact e⟩
  · obtain ⟨h1, h2⟩ := R.clo t ht
    refine ⟨by rw [List.length_set]; exact h1, fun j c' i hj e m => ?_⟩
    by_cases z : j = k
    · rw [z, List.getElem?_set_self (by rw [← R.len]; exact (List.getElem?_eq_some_iff.mp e1).1)] at e
      have e := Option.some.inj e
      rw [← e] at m
      exact hv t ht (by omega) i m
    · rw [List.getElem?_set_ne (Ne.symm z)] at e
      exact h2 j c' i hj e m
theorem Step.write {k : Nat} (e1 : G.al[k]? = some p) : Step G H G (upd H p o) :=
  ⟨fun _ _ h => h, ⟨[], by simp⟩, rfl, fun a u e _ n => by rw [upd_ne (mem_ne (a := p) (List.mem_of_getElem? e1) n).symm]; exact e, fun a h n => absurd h n, fun a h n => absurd h n, fun a u e => by
    by_cases z : a = p
    · rw [z]; exact ⟨o, upd_same⟩
    · exact ⟨u, by rw [upd_ne z]; exact e⟩⟩
theorem slots_step {G' : Gh} {H' : Hp} (s : Step G H G' H') (h : ∀ (i : Nat) v, ρ.s[i]? = some (some v) → ∃ u, σ[i]? = some (some u) ∧ VRel Γ G u v) : ∀ (i : Nat) v, ρ.s[i]? = some (some v) → ∃ u, σ[i]? = some (some u) ∧ VRel Γ G' u v :=
  fun i v e => let ⟨u, a, b⟩ := h i v e; ⟨u, a, VRel.mono s b⟩
theorem Rep.go (R : Rep Γ G ρ μ σ H) {G' : Gh} {H' : Hp} {μ' : Mu} (s : Step G H G' H') (m : RepM Γ G' μ' H') : Rep Γ G' ρ μ' σ H' := ⟨m, slots_step s R.slots, R.rl, by rw [s.ts]; exact R.n0, by rw [s.ts]; exact R.top⟩
end

/-! ## flat answers -/
section
variable {Γ : Gm} {W : WX} {G : Gh} {ρ : Rho} {μ : Mu} {σ : St} {H : Hp} {Q : VK}
theorem Post.here {v : Val} {u : V} (R : Rep Γ G ρ μ σ H) (h : Post Γ W G ρ σ H Q (.ok (v, μ))) (r : VRel Γ G u v) : Q u H := h u G H (Step.refl G H) R r
theorem Post.non (R : Rep Γ G ρ μ σ H) (h : Post Γ W G ρ σ H Q (.ok (.d .non, μ))) : Q .non H := Post.here R h (by show Is Γ _ _ _; unfold Is; rfl)
theorem Post.int {i : Int} (R : Rep Γ G ρ μ σ H) (h : Post Γ W G ρ σ H Q (.ok (.d (.int i), μ))) : Q (.int i) H := Post.here R h (by show Is Γ _ _ _; unfold Is; rfl)
theorem Post.bl {i : Bool} (R : Rep Γ G ρ μ σ H) (h : Post Γ W G ρ σ H Q (.ok (.d (.bl i), μ))) : Q (.bl i) H := Post.here R h (by show Is Γ _ _ _; unfold Is; rfl)
theorem Post.str {i : Str} (R : Rep Γ G ρ μ σ H) (h : Post Γ W G ρ σ H Q (.ok (.d (.str i), μ))) : Q (.str i) H := Post.here R h (by show Is Γ _ _ _; unfold Is; rfl)
/-- a new list, a new tuple of data -/
theorem Post.lst {ds : List D} {us : List V} (R : Rep Γ G ρ μ σ H) (h : Post Γ W G ρ σ H Q (.ok (.d (.lst ds), μ))) (l : IsL Γ G.F us ds) : ∀ p, H p = none → Q (.ref p) (upd H p (.lst us)) := fun p hp =>
  have s := R.toRepM.stepFz (o := .lst us) hp
  h (.ref p) _ _ s (R.go s (R.toRepM.fzNew hp)) (by show Is Γ (upd G.F p (.lst us)) _ _; unfold Is; exact ⟨p, us, rfl, upd_same, IsL.mono s.fz _ _ l⟩)
theorem Post.tup {ds : List D} {us : List V} (R : Rep Γ G ρ μ σ H) (h : Post Γ W G ρ σ H Q (.ok (.d (.tup ds), μ))) (l : IsL Γ G.F us ds) : ∀ p, H p = none → Q (.ref p) (upd H p (.tup us)) := fun p hp =>
  have s := R.toRepM.stepFz (o := .tup us) hp
  h (.ref p) _ _ s (R.go s (R.toRepM.fzNew hp)) (by show Is Γ (upd G.F p (.tup us)) _ _; unfold Is; exact ⟨p, us, rfl, upd_same, IsL.mono s.fz _ _ l⟩)
/-- a new live list -/
theorem Post.lstL {vs : List Val} {us : List V} (R : Rep Γ G ρ μ σ H) (h : Post Γ W G ρ σ H Q (.ok (.own μ.length, μ ++ [.lst vs]))) (l : VRelL Γ G us vs) : ∀ p, H p = none → Q (.ref p) (upd H p (.lst us)) := fun p hp =>
  have s : Step G H (G.lvn p) (upd H p (.lst us)) := RepM.stepLv hp
  have m := R.toRepM.lvNew (o := .lst us) (c := .lst vs) hp ⟨R.toRepM.Fnone hp, us, upd_same, VRelL.mono s l⟩
  h (.ref p) _ _ s (R.go s m) ⟨p, by show (G.al ++ [p])[μ.length]? = _; rw [← R.len]; simp, rfl⟩
end

/-! ## what a value is -/
section
variable {Γ : Gm} {G : Gh} {μ : Mu} {H : Hp} {u : V}
theorem VRel.non_ (r : VRel Γ G u (.d .non)) : u = .non := by have r : Is Γ G.F u _ := r; unfold Is at r; exact r
theorem VRel.int_ {i : Int} (r : VRel Γ G u (.d (.int i))) : u = .int i := by have r : Is Γ G.F u _ := r; unfold Is at r; exact r
theorem VRel.bl_ {i : Bool} (r : VRel Γ G u (.d (.bl i))) : u = .bl i := by have r : Is Γ G.F u _ := r; unfold Is at r; exact r
theorem VRel.str_ {i : Str} (r : VRel Γ G u (.d (.str i))) : u = .str i := by have r : Is Γ G.F u _ := r; unfold Is at r; exact r
theorem VRel.lst_ (R : RepM Γ G μ H) {ds : List D} (r : VRel Γ G u (.d (.lst ds))) : ∃ a us, u = .ref a ∧ H a = some (.lst us) ∧ IsL Γ G.F us ds := by
  have r : Is Γ G.F u _ := r
  unfold Is at r
  obtain ⟨a, us, e, h, l⟩ := r
  exact ⟨a, us, e, R.sub _ _ h, l⟩
theorem VRel.tupH (R : RepM Γ G μ H) {ds : List D} (r : VRel Γ G u (.d (.tup ds))) : ∃ a us, u = .ref a ∧ H a = some (.tup us) ∧ IsL Γ G.F us ds := by
  have r : Is Γ G.F u _ := r
  unfold Is at r
  obtain ⟨a, us, e, h, l⟩ := r
  exact ⟨a, us, e, R.sub _ _ h, l⟩
theorem VRel.tup_ (R : RepM Γ G μ H) {ds : List D} (r : VRel Γ G u (.d (.tup ds))) : ∃ a us, u = .ref a ∧ SqT Γ.K H a us ∧ IsL Γ G.F us ds :=
  let ⟨a, us, e, h, l⟩ := VRel.tupH R r
  ⟨a, us, e, SqT.of h, l⟩
theorem VRel.kt_ (R : RepM Γ G μ H) {ds : List D} (r : VRel Γ G u (.d (.kt ds))) : ∃ a us, u = .ref a ∧ SqT Γ.K H a us ∧ IsL Γ G.F us ds := by
  have r : Is Γ G.F u _ := r
  unfold Is at r
  obtain ⟨a, us, e, h, l⟩ := r
  exact ⟨a, us, e, Same.seqT R.sub h, l⟩
/-- the items of a tuple -/
def tupV : Val → Option (List D)
  | .d (.tup ds) => some ds
  | .d (.kt ds) => some ds
  | _ => none
theorem tupV_ok (R : RepM Γ G μ H) {v : Val} {ds : List D} (r : VRel Γ G u v) (e : tupV v = some ds) : ∃ a us, u = .ref a ∧ SqT Γ.K H a us ∧ IsL Γ G.F us ds := by
  cases v with
  | d x =>
    cases x with
    | tup es => cases e; exact VRel.tup_ R r
    | kt es => cases e; exact VRel.kt_ R r
    | _ => cases e
  | own k => cases e
/-- data of values -/
def dsOf : List Val → Option (List D)
  | [] => some []
  | .d x :: r => (dsOf r).map (x :: ·)
  | .own _ :: _ => none
theorem dsOf_ok : ∀ {us : List V} {vs : List Val} {ds : List D}, VRelL Γ G us vs → dsOf vs = some ds → IsL Γ G.F us ds
  | _, _, _, .nil, e => by cases e; exact IsL.nil
  | _, .d x :: r, _, .cons h t, e => by
    unfold dsOf at e
    cases q : dsOf r with
    | none => rw [q] at e; cases e
    | some es =>
      rw [q] at e
      cases e
      exact IsL.cons h (dsOf_ok t q)
  | _, .own _ :: _, _, .cons h t, e => by cases e
theorem relOf : ∀ {ds : List D} {us : List V}, IsL Γ G.F us ds → VRelL Γ G us (ds.map Val.d)
  | [], us, h => by rw [h.inv0]; exact .nil
  | d :: ds, us, h => by
    obtain ⟨v, r, e, a, b⟩ := h.inv
    subst e
    exact .cons a (relOf b)
/-- the items of a list, frozen or live -/
def lstV (μ : Mu) : Val → Option (List D)
  | .d (.lst ds) => some ds
  | .own k => (match μ[k]? with
    | some (.lst vs) => dsOf vs
    | _ => none)
  | _ => none
theorem lstV_ok (R : RepM Γ G μ H) {v : Val} {ds : List D} (r : VRel Γ G u v) (e : lstV μ v = some ds) : ∃ a us, u = .ref a ∧ H a = some (.lst us) ∧ IsL Γ G.F us ds := by
  cases v with
  | d x =>
    cases x with
    | lst es => cases e; exact VRel.lst_ R r
    | _ => cases e
  | own k =>
    obtain ⟨a, ha, ea⟩ := r
    unfold lstV at e
    cases q : μ[k]? with
    | none => simp only [q] at e; cases e
    | some c =>
      simp only [q] at e
      cases c with
      | lst vs =>
        obtain ⟨n, us, h, l⟩ := R.cells k a _ ha q
        exact ⟨a, us, ea, h, dsOf_ok l e⟩
      | _ => cases e
/-- .. of a list or a tuple -/
def seqV (μ : Mu) : Val → Option (List D)
  | .d (.tup ds) => some ds
  | .d (.kt ds) => some ds
  | v => lstV μ v
theorem seqV_ok (R : RepM Γ G μ H) {v : Val} {ds : List D} (r : VRel Γ G u v) (e : seqV μ v = some ds) : ∃ a us, u = .ref a ∧ (SqL Γ.K H a us ∨ SqT Γ.K H a us) ∧ IsL Γ G.F us ds := by
  have lst : lstV μ v = some ds → ∃ a us, u = .ref a ∧ (SqL Γ.K H a us ∨ SqT Γ.K H a us) ∧ IsL Γ G.F us ds := fun e =>
    let ⟨a, us, h1, h2, h3⟩ := lstV_ok R r e
    ⟨a, us, h1, .inl (SqL.of h2), h3⟩
  cases v with
  | d x =>
    cases x with
    | tup es =>
      cases e
      obtain ⟨a, us, h1, h2, h3⟩ := VRel.tup_ R r
      exact ⟨a, us, h1, .inr h2, h3⟩
    | kt es =>
      cases e
      obtain ⟨a, us, h1, h2, h3⟩ := VRel.kt_ R r
      exact ⟨a, us, h1, .inr h2, h3⟩
    | _ => exact lst e
  | own k => exact lst e
end

/-! ## two operands -/
section
variable {Γ : Gm} {W : WX} {X : Cx}
def fBin (o : Val → Val → Mu → R (Val × Mu)) (f g : FE) : FE := fun ρ μ => (f ρ μ).bind fun p => (g ρ p.2).bind fun q => o p.1 q.1 q.2
def fUn (o : Val → Mu → R (Val × Mu)) (f : FE) : FE := fun ρ μ => (f ρ μ).bind fun p => o p.1 p.2
/-- an operator's reading, by values -/
def Op2 (Γ : Gm) (W : WX) (r : R2) (o : Val → Val → Mu → R (Val × Mu)) : Prop := ∀ (G : Gh) (ρ : Rho) (μ : Mu) (σ : St) (H : Hp) (Q : VK) (x y : V) (v w : Val), Rep Γ G ρ μ σ H → VRel Γ G x v → VRel Γ G y w → Post Γ W G ρ σ H Q (o v w μ) → r x y H Q
def Op1 (Γ : Gm) (W : WX) (r : V → Hp → VK → Prop) (o : Val → Mu → R (Val × Mu)) : Prop := ∀ (G : Gh) (ρ : Rho) (μ : Mu) (σ : St) (H : Hp) (Q : VK) (x : V) (v : Val), Rep Γ G ρ μ σ H → VRel Γ G x v → Post Γ W G ρ σ H Q (o v μ) → r x H Q
theorem tZ_bin {r : R2} {o : Val → Val → Mu → R (Val × Mu)} {f g : FE} (h : Op2 Γ W r o) (σ : St) (H : Hp) (Q : VK) (t : tZ Γ W (fBin o f g) σ H Q) : tOp r (tZ Γ W f) (tZ Γ W g) σ H Q := by
  obtain ⟨G, ρ, μ, R, p⟩ := t
  refine ⟨G, ρ, μ, R, Post.bind p fun x v μ1 G1 H1 s1 R1 r1 p1 => ⟨G1, ρ, μ1, R1, Post.bind p1 fun y w μ2 G2 H2 s2 R2 r2 p2 => ?_⟩⟩
  exact h G2 ρ μ2 σ H2 Q x y v w R2 (VRel.mono s2 r1) r2 p2
theorem tZ_un {r : V → Hp → VK → Prop} {o : Val → Mu → R (Val × Mu)} {f : FE} (h : Op1 Γ W r o) (σ : St) (H : Hp) (Q : VK) (t : tZ Γ W (fUn o f) σ H Q) : tUn r (tZ Γ W f) σ H Q := by
  obtain ⟨G, ρ, μ, R, p⟩ := t
  exact ⟨G, ρ, μ, R, Post.bind p fun x v μ1 G1 H1 s1 R1 r1 p1 => h G1 ρ μ1 σ H1 Q x v R1 r1 p1⟩
end

/-! ## names, constants -/
section
variable {Γ : Gm} {W : WX} {X : Cx} {pos : Pos}
/-- a cell that is frozen is read as its datum -/
def rdV (μ : Mu) : Val → Option Val
  | .d x => some (.d x)
  | .own k => (match μ[k]? with
    | some (.fz x) => some (.d x)
    | some .gone => none
    | some _ => some (.own k)
    | none => none)
theorem rdV_ok {G : Gh} {μ : Mu} {H : Hp} (R : RepM Γ G μ H) {u : V} {v w : Val} (r : VRel Γ G u v) (e : rdV μ v = some w) : VRel Γ G u w := by
  cases v with
  | d x => cases e; exact r
  | own k =>
    unfold rdV at e
    cases q : μ[k]? with
    | none => simp only [q] at e; cases e
    | some c =>
      simp only [q] at e
      cases c with
      | fz x =>
        cases e
        obtain ⟨a, ha, ea⟩ := r
        subst ea
        exact R.cells k a _ ha q
      | gone => cases e
      | _ => cases e; exact r
def fName (i : Nat) : FE := fun ρ μ => match ρ.s[i]? with
  | some (some v) => (match rdV μ v with
    | some w => .ok (w, μ)
    | none => .bad)
  | _ => .bad
theorem ze_name {i : Nat} {x : Str} (hN : X.N[i]? = some x) (hv : Vis X.env.scope x) (hd : (x == ("__debug__" : Str)) = false) (hcd : (x == ("__classdict__" : Str)) = false) : PE X (.Name x pos) (tZ Γ W (fName i)) := by
  refine PE.imp (pe_var hN hv hd hcd) fun σ H Q t => ?_
  obtain ⟨G, ρ, μ, R, p⟩ := t
  unfold fName at p
  cases e : ρ.s[i]? with
  | none => simp only [e] at p; exact p.elim
  | some o =>
    cases o with
    | none => simp only [e] at p; exact p.elim
    | some v =>
      simp only [e] at p
      obtain ⟨u, hu, r⟩ := R.slots i v e
      cases q : rdV μ v with
      | none => simp only [q] at p; exact p.elim
      | some w =>
        simp only [q] at p
        exact ⟨u, hu, Post.here R p (rdV_ok R.toRepM r q)⟩
def fC (x : D) : FE := fun _ μ => .ok (.d x, μ)
theorem ze_int {i : Int} {j} : PE X (.Constant (.int i) j pos) (tZ Γ W (fC (.int i))) := PE.imp pe_int fun σ H Q ⟨G, ρ, μ, R, p⟩ => Post.int R p
theorem ze_bl {b : Bool} {j} : PE X (.Constant (.bool b) j pos) (tZ Γ W (fC (.bl b))) := PE.imp pe_bl fun σ H Q ⟨G, ρ, μ, R, p⟩ => Post.bl R p
theorem ze_non {j} : PE X (.Constant .none j pos) (tZ Γ W (fC .non)) := PE.imp pe_non fun σ H Q ⟨G, ρ, μ, R, p⟩ => Post.non R p
theorem ze_str {x : Str} {j} : PE X (.Constant (.str x) j pos) (tZ Γ W (fC (.str x))) := PE.imp pe_str fun σ H Q ⟨G, ρ, μ, R, p⟩ => Post.str R p
/-- a module's constant that is no object -/
theorem ze_glob {x : Str} {v : V} {u : Value} {d : D} (hg : Gl X x) (hm : X.mg x = some u) (r : RelV v u) (hd : (x == ("__debug__" : Str)) = false) (hv : ∀ F, Is Γ F v d) : PE X (.Name x pos) (tZ Γ W (fC d)) :=
  PE.imp (pe_glob hg hm r hd) fun σ H Q ⟨G, ρ, μ, R, p⟩ => Post.here R p (hv _)
end
end Zl
set_option Elab.async false
set_option linter.all false
set_option maxRecDepth 100000
set_option maxHeartbeats 4000000
namespace Zl
open PySem PySem.Spec L2
open PyProof.Rows hiding St

theorem Op2.mk {Γ : Gm} {W : WX} {r : R2} {o : Val → Val → Mu → R (Val × Mu)} (h : ∀ (G : Gh) (ρ : Rho) (μ : Mu) (σ : St) (H : Hp) (Q : VK) (x y : V) (v w : Val), Rep Γ G ρ μ σ H → VRel Γ G x v → VRel Γ G y w → Post Γ W G ρ σ H Q (o v w μ) → r x y H Q) : Op2 Γ W r o := h

/-! ## arithmetic -/
def oAdd : Val → Val → Mu → R (Val × Mu)
  | .d (.int i), .d (.int j), μ => .ok (.d (.int (i + j)), μ)
  | .d (.str i), .d (.str j), μ => if i.length + j.length ≤ sizeLine then .ok (.d (.str (i ++ j)), μ) else .bad
  | .d (.tup a), .d (.tup b), μ => if a.length + b.length ≤ sizeLine then .ok (.d (.tup (a ++ b)), μ) else .bad
  | v, w, μ => (match lstV μ v, lstV μ w with
    | some a, some b => if a.length + b.length ≤ sizeLine then .ok (.d (.lst (a ++ b)), μ) else .bad
    | _, _ => .bad)
section
variable {Γ : Gm} {W : WX}
abbrev rAddA (K : PySem.W.Frag) : R2 := fun x y H Q => (∃ i j, x = .int i ∧ y = .int j ∧ Q (.int (i + j)) H) ∨ ((∃ i j, x = .str i ∧ y = .str j ∧ i.length + j.length ≤ sizeLine ∧ Q (.str (i ++ j)) H) ∨ (rCatA K x y H Q ∨ rCat x y H Q))
theorem op_addA {X : Cx} : OpR X (binaryOp .Add) (rAddA X.K) := op_add.or (op_add_str.or (op_catA.or op_cat))
theorem oAdd_lst {G : Gh} {ρ : Rho} {μ : Mu} {σ : St} {H : Hp} {Q : VK} {x y : V} {v w : Val} (R : Rep Γ G ρ μ σ H) (rx : VRel Γ G x v) (ry : VRel Γ G y w)
    (p : Post Γ W G ρ σ H Q (match lstV μ v, lstV μ w with
    | some a, some b => if a.length + b.length ≤ sizeLine then .ok (.d (.lst (a ++ b)), μ) else .bad
    | _, _ => .bad)) : rCat x y H Q := by
  cases e1 : lstV μ v with
  | none => simp only [e1] at p; exact p.elim
  | some a =>
    cases e2 : lstV μ w with
    | none => simp only [e1, e2] at p; exact p.elim
    | some b =>
      simp only [e1, e2] at p
      by_cases hz : a.length + b.length ≤ sizeLine
      · rw [if_pos hz] at p
        obtain ⟨l, us, h1, h2, h3⟩ := lstV_ok R.toRepM rx e1
        obtain ⟨m, ws, k1, k2, k3⟩ := lstV_ok R.toRepM ry e2
        exact ⟨l, m, us, ws, h1, k1, h2, k2, by rw [h3.length, k3.length]; exact hz, Post.lst R p (h3.append k3)⟩
      · rw [if_neg hz] at p; exact p.elim
theorem Post.oldT {G : Gh} {ρ : Rho} {μ : Mu} {σ : St} {H : Hp} {Q : VK} {a : Addr} {us : List V} {ds : List D} (R : Rep Γ G ρ μ σ H) (h : Post Γ W G ρ σ H Q (.ok (.d (.tup ds), μ))) (r : VRel Γ G (.ref a) (.d (.tup ds))) : Q (.ref a) H := Post.here R h r
theorem oAdd_ok : Op2 Γ W (rAddA Γ.K) oAdd := by
  intro G ρ μ σ H Q x y v w R rx ry p
  unfold oAdd at p
  split at p
  · exact .inl ⟨_, _, rx.int_, ry.int_, Post.int R p⟩
  · rename_i i j
    split at p
    · rename_i hz
      exact .inr (.inl ⟨i, j, rx.str_, ry.str_, hz, Post.str R p⟩)
    · exact p.elim
  · rename_i a b
    split at p
    · rename_i hz
      obtain ⟨l, us, h1, h2, h3⟩ := VRel.tup_ R.toRepM rx
      obtain ⟨m, ws, k1, k2, k3⟩ := VRel.tup_ R.toRepM ry
      refine .inr (.inr (.inl ⟨l, m, us, ws, h1, k1, h2, k2, by rw [h3.length, k3.length]; exact hz, fun e => ?_, fun _ e => ?_, fun _ _ => Post.tup R p (h3.append k3)⟩))
      · have ea : a = [] := by have := h3.length; rw [e] at this; exact List.length_eq_zero_iff.mp this.symm
        subst ea
        exact Post.here R p (by rw [← k1]; simpa using ry)
      · have eb : b = [] := by have := k3.length; rw [e] at this; exact List.length_eq_zero_iff.mp this.symm
        subst eb
        exact Post.here R p (by rw [← h1]; simpa using rx)
    · exact p.elim
  · exact .inr (.inr (.inr (oAdd_lst R rx ry p)))

/-- an operator upon ints -/
def oInt (c : Int → Int → Bool) (g : Int → Int → Int) : Val → Val → Mu → R (Val × Mu)
  | .d (.int i), .d (.int j), μ => if c i j = true then .ok (.d (.int (g i j)), μ) else .bad
  | _, _, _ => .bad
theorem oInt_ok {C : Int → Int → Prop} {c : Int → Int → Bool} {g : Int → Int → Int} (h : ∀ i j, c i j = true → C i j) : Op2 Γ W (rI C fun i j => .int (g i j)) (oInt c g) := by
  intro G ρ μ σ H Q x y v w R rx ry p
  unfold oInt at p
  split at p
  · rename_i i j
    split at p
    · rename_i hc
      exact ⟨i, j, rx.int_, ry.int_, h _ _ hc, Post.int R p⟩
    · exact p.elim
  · exact p.elim
def oInt0 (g : Int → Int → Int) : Val → Val → Mu → R (Val × Mu)
  | .d (.int i), .d (.int j), μ => .ok (.d (.int (g i j)), μ)
  | _, _, _ => .bad
theorem oInt0_ok {g : Int → Int → Int} : Op2 Γ W (rI0 fun i j => .int (g i j)) (oInt0 g) := by
  intro G ρ μ σ H Q x y v w R rx ry p
  unfold oInt0 at p
  split at p
  · exact ⟨_, _, rx.int_, ry.int_, Post.int R p⟩
  · exact p.elim
def oSub := oInt0 fun i j => i - j
/-- a * b: ints below 2 ^ 64 on one side; a list by an int -/
def oMul : Val → Val → Mu → R (Val × Mu)
  | .d (.int i), .d (.int j), μ => if (-(2 ^ 64) < i ∧ i < 2 ^ 64) ∨ (-(2 ^ 64) < j ∧ j < 2 ^ 64) then .ok (.d (.int (i * j)), μ) else .bad
  | v, .d (.int j), μ => (match lstV μ v with
    | some a => if -(2 ^ 63) ≤ j ∧ j < 2 ^ 63 ∧ a.length * j.toNat ≤ sizeLine then .ok (.d (.lst (List.replicate j.toNat a).flatten), μ) else .bad
    | none => .bad)
  | _, _, _ => .bad
abbrev rMulA : R2 := fun x y H Q => (rI CMul fun i j => .int (i * j)) x y H Q ∨ rRep x y H Q
theorem op_mulA {X : Cx} : OpR X (binaryOp .Mult) rMulA := op_mul.or op_rep
theorem IsL.rep {F : Hp} {us : List V} {ds : List D} (h : IsL Γ F us ds) : ∀ n : Nat, IsL Γ F (List.replicate n us).flatten (List.replicate n ds).flatten
  | 0 => IsL.nil
  | n + 1 => by rw [List.replicate_succ, List.replicate_succ, List.flatten_cons, List.flatten_cons]; exact h.append (IsL.rep h n)
theorem oMul_ok : Op2 Γ W rMulA oMul := by
  intro G ρ μ σ H Q x y v w R rx ry p
  unfold oMul at p
  split at p
  · rename_i i j
    split at p
    · rename_i hc
      exact .inl ⟨i, j, rx.int_, ry.int_, hc, Post.int R p⟩
    · exact p.elim
  · rename_i j hn
    cases e1 : lstV μ v with
    | none => simp only [e1] at p; exact p.elim
    | some a =>
      simp only [e1] at p
      split at p
      · rename_i hc
        obtain ⟨l, us, h1, h2, h3⟩ := lstV_ok R.toRepM rx e1
        exact .inr ⟨l, j, us, h1, ry.int_, h2, hc.1, hc.2.1, by rw [h3.length]; exact hc.2.2, Post.lst R p (h3.rep _)⟩
      · exact p.elim
  · exact p.elim
def oMod := oInt (fun _ j => decide (0 < j)) fun i j => i % j
theorem oMod_ok : Op2 Γ W (rI (fun _ j => 0 < j) fun i j => .int (i % j)) oMod := oInt_ok fun _ _ h => of_decide_eq_true h
def oFdiv := oInt (fun _ j => decide (0 < j ∧ j < 2 ^ 64)) fun i j => i / j
theorem oFdiv_ok : Op2 Γ W (rI CDivW fun i j => .int (i / j)) oFdiv := oInt_ok fun i j h => by
  have h := of_decide_eq_true h
  exact wide_div (b := 64) h.1 (by omega) (by decide) (by decide)
def oPow := oInt (fun i j => decide (0 ≤ j ∧ j ≤ 1000000 ∧ i.natAbs < 2 ^ 64)) fun i j => i ^ j.toNat
theorem oPow_ok : Op2 Γ W (rI CPow fun i j => .int (i ^ j.toNat)) oPow := oInt_ok fun i j h => show 0 ≤ j ∧ j ≤ 1000000 ∧ i.natAbs < 2 ^ 64 from of_decide_eq_true h
theorem oSub_ok : Op2 Γ W (rI0 fun i j => .int (i - j)) oSub := oInt0_ok
def oNeg : Val → Mu → R (Val × Mu)
  | .d (.int i), μ => .ok (.d (.int (-i)), μ)
  | _, _ => .bad
theorem oNeg_ok : Op1 Γ W (rU fun i => .int (-i)) oNeg := by
  intro G ρ μ σ H Q x v R rx p
  unfold oNeg at p
  split at p
  · exact ⟨_, rx.int_, Post.int R p⟩
  · exact p.elim
end

/-! ## comparisons -/
mutual
def D.py : D → Option PyData
  | .non => some .none
  | .bl b => some (.bool b)
  | .int i => some (.int i)
  | .str x => some (.str x)
  | .tup ds => (D.pyL ds).map .tuple
  | .lst ds => (D.pyL ds).map .list
  | .dK _ _ => none
  | .dT _ _ => none
  | .ins _ _ _ => none
  | .obj _ => none
  | .exc _ _ _ => none
  | .fnv _ => none
  | .scr _ => none
  | .kt ds => (D.pyL ds).map .tuple
def D.pyL : List D → Option (List PyData)
  | [] => some []
  | d :: ds => (D.py d).bind fun p => (D.pyL ds).map (p :: ·)
end
section
variable {Γ : Gm} {W : WX}
mutual
theorem D.dp {F H : Hp} (s : Same F H) : ∀ (d : D) (v : V) (p : PyData), Is Γ F v d → d.py = some p → Dp Γ.K H v p
  | .non, v, p, h, e => by unfold Is at h; unfold D.py at e; cases e; subst h; exact .non
  | .bl b, v, p, h, e => by unfold Is at h; unfold D.py at e; cases e; subst h; exact .bl b
  | .int b, v, p, h, e => by unfold Is at h; unfold D.py at e; cases e; subst h; exact .int b
  | .str b, v, p, h, e => by unfold Is at h; unfold D.py at e; cases e; subst h; exact .str b
  | .tup ds, v, p, h, e => by
    unfold Is at h
    unfold D.py at e
    obtain ⟨a, vs, rfl, q, l⟩ := h
    cases z : D.pyL ds with
    | none => rw [z] at e; cases e
    | some ps => rw [z] at e; cases e; exact .tup (SqT.of (s _ _ q)) (D.dpL s ds vs ps l z)
  | .kt ds, v, p, h, e => by
    unfold Is at h
    unfold D.py at e
    obtain ⟨a, vs, rfl, q, l⟩ := h
    cases z : D.pyL ds with
    | none => rw [z] at e; cases e
    | some ps => rw [z] at e; cases e; exact .tup (Same.seqT s q) (D.dpL s ds vs ps l z)
  | .lst ds, v, p, h, e => by
    unfold Is at h
    unfold D.py at e
    obtain ⟨a, vs, rfl, q, l⟩ := h
    cases z : D.pyL ds with
    | none => rw [z] at e; cases e
    | some ps => rw [z] at e; cases e; exact .lst (SqL.of (s _ _ q)) (D.dpL s ds vs ps l z)
  | .dK _ _, v, p, h, e => by unfold D.py at e; cases e
  | .dT _ _, v, p, h, e => by unfold D.py at e; cases e
  | .ins _ _ _, v, p, h, e => by unfold D.py at e; cases e
  | .obj _, v, p, h, e => by unfold D.py at e; cases e
  | .exc _ _ _, v, p, h, e => by unfold D.py at e; cases e
  | .fnv _, v, p, h, e => by unfold D.py at e; cases e
  | .scr _, v, p, h, e => by unfold D.py at e; cases e
theorem D.dpL {F H : Hp} (s : Same F H) : ∀ (ds : List D) (vs : List V) (ps : List PyData), IsL Γ F vs ds → D.pyL ds = some ps → DpAll Γ.K H vs ps
  | [], vs, ps, h, e => by unfold D.pyL at e; cases e; rw [h.inv0]; exact .nil
  | d :: ds, vs, ps, h, e => by
    obtain ⟨v, r, rfl, h1, h2⟩ := h.inv
    unfold D.pyL at e
    cases z : D.py d with
    | none => rw [z] at e; cases e
    | some p =>
      rw [z] at e
      cases y : D.pyL ds with
      | none => rw [y] at e; cases e
      | some q => rw [y] at e; cases e; exact .cons (D.dp s d v p h1 z) (D.dpL s ds r q h2 y)
end
def pyV (μ : Mu) : Val → Option PyData
  | .d x => x.py
  | .own k => (lstV μ (.own k)).bind fun ds => (D.pyL ds).map .list
theorem pyV_ok {G : Gh} {μ : Mu} {H : Hp} (R : RepM Γ G μ H) {u : V} {v : Val} {p : PyData} (r : VRel Γ G u v) (e : pyV μ v = some p) : Dp Γ.K H u p := by
  cases v with
  | d x => exact D.dp R.sub x u p r e
  | own k =>
    unfold pyV at e
    cases z : lstV μ (.own k) with
    | none => simp only [z] at e; cases e
    | some ds =>
      simp only [z, Option.bind_some] at e
      obtain ⟨a, us, rfl, h2, h3⟩ := lstV_ok R r z
      cases y : D.pyL ds with
      | none => rw [y] at e; cases e
      | some q => rw [y] at e; cases e; exact .lst (SqL.of h2) (D.dpL R.sub ds us q h3 y)
def oEq (neg : Bool) (v w : Val) (μ : Mu) : R (Val × Mu) := match pyV μ v, pyV μ w with
  | some p, some q => if SeqAt.shaped p = true ∧ SeqAt.shaped q = true then .ok (.d (.bl (if neg then !PyData.eqv p q else PyData.eqv p q)), μ) else .bad
  | _, _ => .bad
theorem oEq_ok : Op2 Γ W (rEqD Γ.K) (oEq false) := by
  intro G ρ μ σ H Q x y v w R rx ry p
  unfold oEq at p
  split at p
  · rename_i a b e1 e2
    split at p
    · rename_i hs
      exact ⟨a, b, pyV_ok R.toRepM rx e1, pyV_ok R.toRepM ry e2, hs.1, hs.2, Post.bl R p⟩
    · exact p.elim
  · exact p.elim
theorem oNe_ok : Op2 Γ W (rNeD Γ.K) (oEq true) := by
  intro G ρ μ σ H Q x y v w R rx ry p
  unfold oEq at p
  split at p
  · rename_i a b e1 e2
    split at p
    · rename_i hs
      exact ⟨a, b, pyV_ok R.toRepM rx e1, pyV_ok R.toRepM ry e2, hs.1, hs.2, Post.bl R p⟩
    · exact p.elim
  · exact p.elim
/-- an order of ints or of texts -/
def oOrd (f : Int → Int → Bool) (g : List Nat → List Nat → Bool) : Val → Val → Mu → R (Val × Mu)
  | .d (.int i), .d (.int j), μ => .ok (.d (.bl (f i j)), μ)
  | .d (.str i), .d (.str j), μ => .ok (.d (.bl (g i.cps.toList j.cps.toList)), μ)
  | _, _, _ => .bad
theorem oOrd_ok {f : Int → Int → Bool} {g : List Nat → List Nat → Bool} : Op2 Γ W (fun x y H Q => (rI0 fun i j => .bl (f i j)) x y H Q ∨ (∃ i j, x = .str i ∧ y = .str j ∧ Q (.bl (g i.cps.toList j.cps.toList)) H)) (oOrd f g) := by
  intro G ρ μ σ H Q x y v w R rx ry p
  unfold oOrd at p
  split at p
  · exact .inl ⟨_, _, rx.int_, ry.int_, Post.bl R p⟩
  · exact .inr ⟨_, _, rx.str_, ry.str_, Post.bl R p⟩
  · exact p.elim
abbrev oLt := oOrd (fun i j => decide (i < j)) (fun i j => decide (i < j))
abbrev oLe := oOrd (fun i j => decide (i ≤ j)) (fun i j => !decide (j < i))
abbrev oGt := oOrd (fun i j => decide (j < i)) (fun i j => decide (j < i))
abbrev oGe := oOrd (fun i j => decide (j ≤ i)) (fun i j => !decide (i < j))
end
end Zl
set_option Elab.async false
set_option linter.all false
set_option maxRecDepth 100000
set_option maxHeartbeats 4000000
namespace Zl
open PySem PySem.Spec L2
open PyProof.Rows hiding St

/-! ## in, not in -/
section
variable {X : Cx}
abbrev rInTD (K : PySem.W.Frag) (neg : Bool) : R2 := fun x y H Q => ∃ d ds, Dp K H x d ∧ Dp K H y (.tuple ds) ∧ SeqAt.shaped d = true ∧ SeqAt.shaped (.tuple ds) = true ∧ Q (.bl (if neg then !(ds.any fun z => PyData.eqv z d) else ds.any fun z => PyData.eqv z d)) H
theorem op_inTD (hu : X.A.units + 65 < cLine) : OpR X (compareOp .In) (rInTD X.K false) := by
  intro pins s σ H x y v u Q I rx ry h
  obtain ⟨d, ds, hd, he, sd, se, q⟩ := h
  obtain ⟨as, r1⟩ := Dp.reads I d x v hd rx
  obtain ⟨bs, r2⟩ := Dp.reads I (.tuple ds) y u he ry
  exact SeqAt.in_tuple_reads r2 r1 (SeqAt.canLay_of_shaped se) (SeqAt.canLay_of_shaped sd) (room_in_shaped sd hu) ⟨.bl _, H, I, rfl, q⟩
theorem op_notInTD (hu : X.A.units + 65 < cLine) : OpR X (compareOp .NotIn) (rInTD X.K true) := by
  intro pins s σ H x y v u Q I rx ry h
  obtain ⟨d, ds, hd, he, sd, se, q⟩ := h
  obtain ⟨as, r1⟩ := Dp.reads I d x v hd rx
  obtain ⟨bs, r2⟩ := Dp.reads I (.tuple ds) y u he ry
  exact SeqAt.notIn_tuple_reads r2 r1 (SeqAt.canLay_of_shaped se) (SeqAt.canLay_of_shaped sd) (room_in_shaped sd hu) ⟨.bl _, H, I, rfl, q⟩
theorem op_inDict (hu : X.A.units + 1 < cLine) : OpR X (compareOp .In) (fun y x H Q => ∃ a o, x = .ref a ∧ DGet H a y o ∧ Q (.bl o.isSome) H) := by
  intro pins s σ H y x iv u Q I ry rx h
  obtain ⟨a, o, ex, g, q⟩ := h
  subst ex
  obtain rfl : u = Value.ref a := rx
  exact d_in hu I g ry fun s3 I3 => ⟨.bl o.isSome, H, I3, rfl, q⟩
theorem op_notInDict (hu : X.A.units + 1 < cLine) : OpR X (compareOp .NotIn) (fun y x H Q => ∃ a o, x = .ref a ∧ DGet H a y o ∧ Q (.bl (!o.isSome)) H) := by
  intro pins s σ H y x iv u Q I ry rx h
  obtain ⟨a, o, ex, g, q⟩ := h
  subst ex
  obtain rfl : u = Value.ref a := rx
  exact d_notIn hu I g ry fun s3 I3 => ⟨.bl (!o.isSome), H, I3, rfl, q⟩
end
/-- keys of data -/
def keyD : D → Option Key
  | .int i => some (.inl i)
  | .str x => some (.inr x)
  | _ => none
def keysD : List D → Option (List Key)
  | [] => some []
  | d :: r => (keyD d).bind fun k => (keysD r).map (k :: ·)
def keyV : Val → Option Key
  | .d x => keyD x
  | _ => none
def dKV (μ : Mu) : Val → Option (List Key × List Val)
  | .d (.dK ks ds) => some (ks, ds.map Val.d)
  | .own k => (match μ[k]? with
    | some (.dK ks vs) => some (ks, vs)
    | _ => none)
  | _ => none
def dTV (μ : Mu) : Val → Option (List (List Key) × List Val)
  | .d (.dT ks ds) => some (ks, ds.map Val.d)
  | .own k => (match μ[k]? with
    | some (.dT ks vs) => some (ks, vs)
    | _ => none)
  | _ => none
def getK {κ : Type} [DecidableEq κ] : List κ → List Val → κ → Option Val
  | k :: ks, v :: vs, j => if k = j then some v else getK ks vs j
  | _, _, _ => none
section
variable {Γ : Gm} {G : Gh} {μ : Mu} {H : Hp} {u : V}
theorem keyD_ok {F : Hp} {d : D} {k : Key} (h : Is Γ F u d) (e : keyD d = some k) : u = kV k := by
  cases d with
  | int i => cases e; unfold Is at h; exact h
  | str i => cases e; unfold Is at h; exact h
  | _ => cases e
theorem keysD_ok {F : Hp} : ∀ {ds : List D} {ks : List Key} {us : List V}, IsL Γ F us ds → keysD ds = some ks → us = ks.map kV
  | [], ks, us, h, e => by cases e; rw [h.inv0]; rfl
  | d :: r, ks, us, h, e => by
    obtain ⟨v, w, rfl, h1, h2⟩ := h.inv
    unfold keysD at e
    cases q : keyD d with
    | none => rw [q] at e; cases e
    | some k =>
      rw [q] at e
      cases z : keysD r with
      | none => rw [z] at e; cases e
      | some js => rw [z] at e; cases e; rw [keyD_ok h1 q, keysD_ok h2 z]; rfl
theorem dKV_ok (R : RepM Γ G μ H) {v : Val} {ks : List Key} {vs : List Val} (r : VRel Γ G u v) (e : dKV μ v = some (ks, vs)) : ∃ a kus, u = .ref a ∧ H a = some (.dK kus) ∧ kus.map (·.1) = ks ∧ VRelL Γ G (kus.map (·.2)) vs := by
  cases v with
  | d x =>
    cases x with
    | dK js es =>
      cases e
      have r : Is Γ G.F u _ := r
      unfold Is at r
      obtain ⟨a, kus, h1, h2, h3, h4⟩ := r
      exact ⟨a, kus, h1, R.sub _ _ h2, h3, relOf h4⟩
    | _ => cases e
  | own k =>
    obtain ⟨a, ha, ea⟩ := r
    unfold dKV at e
    cases q : μ[k]? with
    | none => simp only [q] at e; cases e
    | some c =>
      simp only [q] at e
      cases c with
      | dK js ws =>
        cases e
        obtain ⟨n, kus, h, l, w⟩ := R.cells k a _ ha q
        exact ⟨a, kus, ea, h, l, w⟩
      | _ => cases e
theorem dTV_ok (R : RepM Γ G μ H) {v : Val} {ks : List (List Key)} {vs : List Val} (r : VRel Γ G u v) (e : dTV μ v = some (ks, vs)) : ∃ a kus, u = .ref a ∧ H a = some (.dT kus) ∧ kus.map (·.1) = ks ∧ VRelL Γ G (kus.map (·.2)) vs := by
  cases v with
  | d x =>
    cases x with
    | dT js es =>
      cases e
      have r : Is Γ G.F u _ := r
      unfold Is at r
      obtain ⟨a, kus, h1, h2, h3, h4⟩ := r
      exact ⟨a, kus, h1, R.sub _ _ h2, h3, relOf h4⟩
    | _ => cases e
  | own k =>
    obtain ⟨a, ha, ea⟩ := r
    unfold dTV at e
    cases q : μ[k]? with
    | none => simp only [q] at e; cases e
    | some c =>
      simp only [q] at e
      cases c with
      | dT js ws =>
        cases e
        obtain ⟨n, kus, h, l, w⟩ := R.cells k a _ ha q
        exact ⟨a, kus, ea, h, l, w⟩
      | _ => cases e
theorem getK_ok {κ : Type} [DecidableEq κ] : ∀ {kus : List (κ × V)} {vs : List Val} {j : κ}, VRelL Γ G (kus.map (·.2)) vs → (∀ v, getK (kus.map (·.1)) vs j = some v → ∃ w, valV kus j = some w ∧ VRel Γ G w v) ∧ (getK (kus.map (·.1)) vs j = none → valV kus j = none)
  | [], vs, j, h => by
    have h : VRelL Γ G [] vs := h
    cases h
    exact ⟨fun v e => (by cases e), fun _ => rfl⟩
  | p :: kus, vs, j, h => by
    cases h with
    | cons h t =>
      rename_i v vs
      obtain ⟨i1, i2⟩ := getK_ok (j := j) t
      by_cases q : p.1 = j
      · refine ⟨fun w e => ?_, fun e => ?_⟩
        · have e' : (if p.1 = j then some v else getK (kus.map (·.1)) vs j) = some w := e
          rw [if_pos q] at e'
          cases e'
          exact ⟨p.2, by unfold valV; simp [q], h⟩
        · have e' : (if p.1 = j then some v else getK (kus.map (·.1)) vs j) = none := e
          rw [if_pos q] at e'
          cases e'
      · have ev : valV (p :: kus) j = valV kus j := by unfold valV; simp [q]
        refine ⟨fun w e => ?_, fun e => ?_⟩
        · have e' : (if p.1 = j then some v else getK (kus.map (·.1)) vs j) = some w := e
          rw [if_neg q] at e'
          rw [ev]; exact i1 w e'
        · have e' : (if p.1 = j then some v else getK (kus.map (·.1)) vs j) = none := e
          rw [if_neg q] at e'
          rw [ev]; exact i2 e'
end
/-- what a dict holds at a key -/
def dGet (μ : Mu) (d y : Val) : Option (Option Val) := match dKV μ d with
  | some (ks, vs) => (keyV y).map fun k => getK ks vs k
  | none => (match dTV μ d with
    | some (ks, vs) => (match y with
      | .d (.tup es) => (keysD es).map fun k => getK ks vs k
      | _ => none)
    | none => none)
section
variable {Γ : Gm} {G : Gh} {μ : Mu} {H : Hp} {x y : V}
theorem dGet_ok (R : RepM Γ G μ H) {v w : Val} {o : Option Val} (rx : VRel Γ G x v) (ry : VRel Γ G y w) (e : dGet μ v w = some o) :
    ∃ a r, x = .ref a ∧ DGet H a y r ∧ (∀ z, o = some z → ∃ u, r = some u ∧ VRel Γ G u z) ∧ (o = none → r = none) := by
  unfold dGet at e
  cases q : dKV μ v with
  | some p =>
    obtain ⟨ks, vs⟩ := p
    simp only [q] at e
    cases z : keyV w with
    | none => rw [z] at e; cases e
    | some k =>
      rw [z] at e
      cases e
      have ey : y = kV k := by
        cases w with
        | d d => exact keyD_ok ry z
        | own _ => cases z
      obtain ⟨a, kus, ex, ha, hk, hr⟩ := dKV_ok R rx q
      subst hk
      obtain ⟨g1, g2⟩ := getK_ok (j := k) hr
      exact ⟨a, valV kus k, ex, by rw [ey]; exact DGet.k ha, g1, g2⟩
  | none =>
    simp only [q] at e
    cases q2 : dTV μ v with
    | none => simp only [q2] at e; cases e
    | some p =>
      obtain ⟨ks, vs⟩ := p
      simp only [q2] at e
      cases w with
      | own _ => cases e
      | d d =>
        cases d with
        | tup es =>
          simp only at e
          cases z : keysD es with
          | none => rw [z] at e; cases e
          | some k =>
            rw [z] at e
            cases e
            obtain ⟨b, us, ey, hb, hl⟩ := VRel.tupH R ry
            have eu := keysD_ok hl z
            obtain ⟨a, kus, ex, ha, hk, hr⟩ := dTV_ok R rx q2
            subst hk
            obtain ⟨g1, g2⟩ := getK_ok (j := k) hr
            exact ⟨a, valV kus k, ex, by rw [ey]; exact DGet.t ha (by rw [hb, eu]), g1, g2⟩
        | _ => cases e
end
section
variable {Γ : Gm} {W : WX} {X : Cx}
/-- in: a sign or text in a text; a datum in a list, a tuple; a key in a dict -/
def oIn (neg : Bool) (v w : Val) (μ : Mu) : R (Val × Mu) := match v, w with
  | .d (.str i), .d (.str j) => .ok (.d (.bl (if neg then !(!(Builtin.Str.occurrences j i 0 j.length 1).isEmpty) else !(Builtin.Str.occurrences j i 0 j.length 1).isEmpty)), μ)
  | v, w => (match seqV μ w with
    | some es => (match pyV μ v, D.pyL es with
      | some p, some ps => if SeqAt.shaped p = true ∧ SeqAt.shaped (.list ps) = true ∧ SeqAt.shaped (.tuple ps) = true then .ok (.d (.bl (if neg then !(ps.any fun z => PyData.eqv z p) else ps.any fun z => PyData.eqv z p)), μ) else .bad
      | _, _ => .bad)
    | none => (match dGet μ w v with
      | some o => .ok (.d (.bl (if neg then !o.isSome else o.isSome)), μ)
      | none => .bad))
abbrev rInA (K : PySem.W.Frag) (neg : Bool) : R2 := fun x y H Q => (∃ i j, x = .str i ∧ y = .str j ∧ Q (.bl (if neg then !(!(Builtin.Str.occurrences j i 0 j.length 1).isEmpty) else !(Builtin.Str.occurrences j i 0 j.length 1).isEmpty)) H) ∨
  ((∃ d ds, Dp K H x d ∧ Dp K H y (.list ds) ∧ SeqAt.shaped d = true ∧ SeqAt.shaped (.list ds) = true ∧ Q (.bl (if neg then !(ds.any fun z => PyData.eqv z d) else ds.any fun z => PyData.eqv z d)) H) ∨
  (rInTD K neg x y H Q ∨ ∃ a o, y = .ref a ∧ DGet H a x o ∧ Q (.bl (if neg then !o.isSome else o.isSome)) H))
theorem op_inA (hu : X.A.units + 65 < cLine) : OpR X (compareOp .In) (rInA X.K false) := op_in_str.or ((op_inD hu).or ((op_inTD hu).or (op_inDict (by omega))))
theorem op_notInA (hu : X.A.units + 65 < cLine) : OpR X (compareOp .NotIn) (rInA X.K true) := op_notIn_str.or ((op_notInD hu).or ((op_notInTD hu).or (op_notInDict (by omega))))
theorem oIn_ok {neg : Bool} : Op2 Γ W (rInA Γ.K neg) (oIn neg) := by
  intro G ρ μ σ H Q x y v w R rx ry p
  unfold oIn at p
  split at p
  · exact .inl ⟨_, _, rx.str_, ry.str_, Post.bl R p⟩
  · cases e : seqV μ w with
    | some es =>
      simp only [e] at p
      cases e1 : pyV μ v with
      | none => simp only [e1] at p; exact p.elim
      | some a =>
        cases e2 : D.pyL es with
        | none => simp only [e1, e2] at p; exact p.elim
        | some ps =>
          simp only [e1, e2] at p
          split at p
          · rename_i hs
            obtain ⟨l, us, h1, h2, h3⟩ := seqV_ok R.toRepM ry e
            have dl := D.dpL R.toRepM.sub es us ps h3 e2
            have dv := pyV_ok R.toRepM rx e1
            subst h1
            rcases h2 with h2 | h2
            · exact .inr (.inl ⟨a, ps, dv, .lst h2 dl, hs.1, hs.2.1, Post.bl R p⟩)
            · exact .inr (.inr (.inl ⟨a, ps, dv, .tup h2 dl, hs.1, hs.2.2, Post.bl R p⟩))
          · exact p.elim
    | none =>
      simp only [e] at p
      cases e1 : dGet μ w v with
      | none => simp only [e1] at p; exact p.elim
      | some o =>
        simp only [e1] at p
        obtain ⟨a, r, ex, g, g1, g2⟩ := dGet_ok R.toRepM ry rx e1
        have er : r.isSome = o.isSome := by
          cases o with
          | none => rw [g2 rfl]; rfl
          | some z => obtain ⟨u, h, _⟩ := g1 z rfl; rw [h]; rfl
        refine .inr (.inr (.inr ⟨a, r, ex, g, ?_⟩))
        rw [er]
        exact Post.bl R p

/-! ## items -/
theorem ix_dict (hu : X.A.units + 1 < cLine) : IxR X (fun x y H Q => ∃ a v, x = .ref a ∧ DGet H a y (some v) ∧ Q v H) := by
  intro value slice pins s σ H x y o i Q I rx ry h hs
  obtain ⟨a, v, ex, g, q⟩ := h
  subst ex
  obtain rfl : o = Value.ref a := rx
  have hT := dict_typeIs I g
  have h₂ : wpAny (model X.prog X.w) X.A (getItem (.ref a) i) (EP X pins σ Q) X.xe s := d_getItem hu I g ry fun w' s3 I3 rw' => ⟨v, H, I3, rw', q⟩
  unfold subscriptTail
  refine wpAny_bind ?_
  rw [getitemInPython_of_ne hT.not_modules]
  refine wpAny_bind (wpAny_specialOf hT PySem.F.slot_dict_getitem.lookup ?_)
  have fin : wpAny (model X.prog X.w) X.A (subscripted slice false (.ref a) i) (fun r s₃ => wpAny (model X.prog X.w) X.A (letTemporaryGo value (.ref a) r >>= fun _ => pure r) (EP X pins σ Q) X.xe s₃) X.xe s := by
    rw [hs]
    exact wpAny_operating (wpAny_mono h₂ (fun r s₃ h₃ => wpAny_bind (wpAny_letTemporaryGo (wpAny_pure h₃))) fun _ _ x => x)
  first
    | exact wpAny_pure (wpAny_bind fin)
    | exact wpAny_bind (wpAny_pure (wpAny_bind fin))
    | exact wpAny_bind fin
/-- an item: of a list, a tuple, a text, a dict -/
def oIx (v w : Val) (μ : Mu) : R (Val × Mu) := match v, w with
  | .d (.str z), .d (.int i) => if z.length ≤ sizeLine then (match atI z.cps.toList i with
    | some c => .ok (.d (.str ⟨#[c]⟩), μ)
    | none => .bad) else .bad
  | v, w => (match seqV μ v with
    | some ds => (match w with
      | .d (.int i) => (match atI ds i with
        | some x => .ok (.d x, μ)
        | none => .bad)
      | _ => .bad)
    | none => (match dGet μ v w with
      | some (some z) => .ok (z, μ)
      | _ => .bad))
abbrev rIxA (K : PySem.W.Frag) : R2 := fun x y H Q => rIx K x y H Q ∨ ∃ a v, x = .ref a ∧ DGet H a y (some v) ∧ Q v H
theorem ix_all (hu : X.A.units + 1 < cLine) : IxR X (rIxA X.K) := ix_seq.or (ix_dict hu)
theorem atI_IsL {F : Hp} {us : List V} {ds : List D} {i : Int} {d : D} (h : IsL Γ F us ds) (e : atI ds i = some d) : ∃ u, atI us i = some u ∧ Is Γ F u d := by
  unfold atI at e ⊢
  rw [h.length]
  cases q : ixN ds.length i with
  | none => rw [q] at e; cases e
  | some j =>
    rw [q] at e
    exact h.get (show ds[j]? = some d from e)
theorem oIx_ok : Op2 Γ W (rIxA Γ.K) oIx := by
  intro G ρ μ σ H Q x y v w R rx ry p
  unfold oIx at p
  split at p
  · rename_i z i
    split at p
    · rename_i hz
      split at p
      · rename_i c e
        exact .inl (.inr (.inr ⟨z, i, c, rx.str_, ry.int_, hz, e, Post.str R p⟩))
      · exact p.elim
    · exact p.elim
  · cases e : seqV μ v with
    | some ds =>
      simp only [e] at p
      split at p
      · rename_i i _
        split at p
        · rename_i d ed
          obtain ⟨l, us, h1, h2, h3⟩ := seqV_ok R.toRepM rx e
          obtain ⟨u, hu, hd⟩ := atI_IsL h3 ed
          rcases h2 with h2 | h2
          · exact .inl (.inl ⟨l, us, i, u, h1, ry.int_, h2, hu, Post.here R p hd⟩)
          · exact .inl (.inr (.inl ⟨l, us, i, u, h1, ry.int_, h2, hu, Post.here R p hd⟩))
        · exact p.elim
      · exact p.elim
    | none =>
      simp only [e] at p
      cases e1 : dGet μ v w with
      | none => simp only [e1] at p; exact p.elim
      | some o =>
        cases o with
        | none => simp only [e1] at p; exact p.elim
        | some z =>
          simp only [e1] at p
          obtain ⟨a, r, ex, g, g1, g2⟩ := dGet_ok R.toRepM rx ry e1
          obtain ⟨u, hu, hd⟩ := g1 z rfl
          subst hu
          exact .inr ⟨a, u, ex, g, Post.here R p hd⟩

/-! ## slices -/
def cutD (xs : List D) (lo hi : Option Int) : List D := (xs.drop (HT.sIx xs.length 0 lo)).take (HT.sIx xs.length xs.length hi - HT.sIx xs.length 0 lo)
theorem cut_IsL {F : Hp} {us : List V} {ds : List D} (h : IsL Γ F us ds) (lo hi : Option Int) : IsL Γ F (cutV us lo hi) (cutD ds lo hi) := by
  unfold cutV cutD
  rw [h.length]
  exact (h.drop _).take _
end
end Zl
set_option Elab.async false
set_option linter.all false
set_option maxRecDepth 100000
set_option maxHeartbeats 4000000
namespace Zl
open PySem PySem.Spec L2
open PyProof.Rows hiding St

/-! ## argument lists -/
def PostA (Γ : Gm) (W : WX) (G : Gh) (ρ : Rho) (σ : St) (H : Hp) (Q : List V → Hp → Prop) : R (List Val × Mu) → Prop
  | .ok p => ∀ us G' H', Step G H G' H' → Rep Γ G' ρ p.2 σ H' → VRelL Γ G' us p.1 → Q us H'
  | .ex e r m => ∀ cls dx G' H', Step G H G' H' → Rep Γ G' r m σ H' → ErrRel Γ G' H' cls dx e → W cls dx σ H'
  | .bad => False
abbrev FA := Rho → Mu → R (List Val × Mu)
def tZA (Γ : Gm) (W : WX) (f : FA) : TA := fun σ H Q => ∃ G ρ μ, Rep Γ G ρ μ σ H ∧ PostA Γ W G ρ σ H Q (f ρ μ)
theorem PostA.step {Γ : Gm} {W : WX} {G G1 : Gh} {ρ : Rho} {σ : St} {H H1 : Hp} {Q : List V → Hp → Prop} (s : Step G H G1 H1) : ∀ {r : R (List Val × Mu)}, PostA Γ W G ρ σ H Q r → PostA Γ W G1 ρ σ H1 Q r
  | .ok p, h => fun u G' H' z => h u G' H' (s.trans z)
  | .ex e r m, h => fun c d G' H' z => h c d G' H' (s.trans z)
  | .bad, h => h
def fANil : FA := fun _ μ => .ok ([], μ)
def fACons (f : FE) (g : FA) : FA := fun ρ μ => (f ρ μ).bind fun p => (g ρ p.2).bind fun q => .ok (p.1 :: q.1, q.2)
section
variable {Γ : Gm} {W : WX} {X : Cx}
/-- an argument's outcome, then the others' -/
theorem Post.bindA {G : Gh} {ρ : Rho} {σ : St} {H : Hp} {Q : List V → Hp → Prop} {Q1 : VK} {k : Val × Mu → R (List Val × Mu)} : ∀ {r : R (Val × Mu)}, PostA Γ W G ρ σ H Q (r.bind k) →
    (∀ u v μ1 G1 H1, Step G H G1 H1 → Rep Γ G1 ρ μ1 σ H1 → VRel Γ G1 u v → PostA Γ W G1 ρ σ H1 Q (k (v, μ1)) → Q1 u H1) → Post Γ W G ρ σ H Q1 r
  | .ok p, h, f => fun u G1 H1 s R v => f u p.1 p.2 G1 H1 s R v (PostA.step s h)
  | .ex e r m, h, f => h
  | .bad, h, f => h
theorem PostA.bindA {G : Gh} {ρ : Rho} {σ : St} {H : Hp} {Q Q1 : List V → Hp → Prop} {k : List Val × Mu → R (List Val × Mu)} : ∀ {r : R (List Val × Mu)}, PostA Γ W G ρ σ H Q (r.bind k) →
    (∀ u v μ1 G1 H1, Step G H G1 H1 → Rep Γ G1 ρ μ1 σ H1 → VRelL Γ G1 u v → PostA Γ W G1 ρ σ H1 Q (k (v, μ1)) → Q1 u H1) → PostA Γ W G ρ σ H Q1 r
  | .ok p, h, f => fun u G1 H1 s R v => f u p.1 p.2 G1 H1 s R v (PostA.step s h)
  | .ex e r m, h, f => h
  | .bad, h, f => h
theorem PostA.bind {G : Gh} {ρ : Rho} {σ : St} {H : Hp} {Q : VK} {Q1 : List V → Hp → Prop} {k : List Val × Mu → R (Val × Mu)} : ∀ {r : R (List Val × Mu)}, Post Γ W G ρ σ H Q (r.bind k) →
    (∀ u v μ1 G1 H1, Step G H G1 H1 → Rep Γ G1 ρ μ1 σ H1 → VRelL Γ G1 u v → Post Γ W G1 ρ σ H1 Q (k (v, μ1)) → Q1 u H1) → PostA Γ W G ρ σ H Q1 r
  | .ok p, h, f => fun u G1 H1 s R v => f u p.1 p.2 G1 H1 s R v (Post.step s h)
  | .ex e r m, h, f => h
  | .bad, h, f => h
theorem za_nil : PA X [] (tZA Γ W fANil) := PA.imp pa_nil fun σ H Q ⟨G, ρ, μ, R, p⟩ => p [] G H (Step.refl G H) R .nil
theorem za_cons {e : Expr} {es : List Expr} {f : FE} {g : FA} (ha : PE X e (tZ Γ W f)) (hr : PA X es (tZA Γ W g)) (hs : starEach (e :: es) X.env = (false, eval e X.env) :: starEach es X.env) : PA X (e :: es) (tZA Γ W (fACons f g)) := by
  refine PA.imp (pa_cons ha hr hs) fun σ H Q t => ?_
  obtain ⟨G, ρ, μ, R, p⟩ := t
  refine ⟨G, ρ, μ, R, Post.bindA p fun x v μ1 G1 H1 s1 R1 r1 p1 => ⟨G1, ρ, μ1, R1, PostA.bindA p1 fun us vs μ2 G2 H2 s2 R2 r2 p2 => ?_⟩⟩
  exact p2 (x :: us) G2 H2 (Step.refl _ _) R2 (.cons (VRel.mono s2 r1) r2)

/-! ## displays -/
def fTup (g : FA) : FE := fun ρ μ => (g ρ μ).bind fun q => match dsOf q.1 with
  | some ds => if ds.length ≤ 1000 then .ok (.d (.tup ds), q.2) else .bad
  | none => .bad
def fLst (g : FA) : FE := fun ρ μ => (g ρ μ).bind fun q => match dsOf q.1 with
  | some ds => if ds.length ≤ 1000 then .ok (.d (.lst ds), q.2) else .bad
  | none => .bad
def fLstL (g : FA) : FE := fun ρ μ => (g ρ μ).bind fun q => if q.1.length ≤ 1000 then .ok (.own q.2.length, q.2 ++ [.lst q.1]) else .bad
theorem small_line {n : Nat} (h : n ≤ 1000) : n ≤ sizeLine := Nat.le_trans h (by decide)
theorem ze_tup {es : List Expr} {g : FA} {k : Nat} {pos : Pos} (h : PA X es (tZA Γ W g)) : PE X (.Tuple es k pos) (tZ Γ W (fTup g)) := by
  refine PE.imp (pe_tup h) fun σ H Q t => ?_
  obtain ⟨G, ρ, μ, R, p⟩ := t
  refine ⟨G, ρ, μ, R, PostA.bind p fun us vs μ1 G1 H1 s1 R1 r1 p1 => ?_⟩
  simp only at p1
  split at p1
  · rename_i ds e
    split at p1
    · rename_i hz
      have l := dsOf_ok r1 e
      exact ⟨by rw [l.length]; exact small_line hz, Post.tup R1 p1 l⟩
    · exact p1.elim
  · exact p1.elim
theorem ze_lst {es : List Expr} {g : FA} {pos : Pos} (h : PA X es (tZA Γ W g)) : PE X (.List es pos) (tZ Γ W (fLst g)) := by
  refine PE.imp (pe_lst h) fun σ H Q t => ?_
  obtain ⟨G, ρ, μ, R, p⟩ := t
  refine ⟨G, ρ, μ, R, PostA.bind p fun us vs μ1 G1 H1 s1 R1 r1 p1 => ?_⟩
  simp only at p1
  split at p1
  · rename_i ds e
    split at p1
    · rename_i hz
      have l := dsOf_ok r1 e
      exact ⟨by rw [l.length]; exact small_line hz, Post.lst R1 p1 l⟩
    · exact p1.elim
  · exact p1.elim
theorem ze_lstL {es : List Expr} {g : FA} {pos : Pos} (h : PA X es (tZA Γ W g)) : PE X (.List es pos) (tZ Γ W (fLstL g)) := by
  refine PE.imp (pe_lst h) fun σ H Q t => ?_
  obtain ⟨G, ρ, μ, R, p⟩ := t
  refine ⟨G, ρ, μ, R, PostA.bind p fun us vs μ1 G1 H1 s1 R1 r1 p1 => ?_⟩
  simp only at p1
  split at p1
  · rename_i hz
    exact ⟨by rw [Paired.length r1]; exact small_line hz, Post.lstL R1 p1 r1⟩
  · exact p1.elim

/-! ## the context of a rule -/
structure Cz (Γ : Gm) (W : WX) (X : Cx) (lv : Nat) : Prop where
  K : X.K = Γ.K
  nd : X.N.Nodup
  calm : X.calm = true
  room : Room lv X.A
  gd : X.A.guards = some []
  tk : Takes X W
theorem Cz.hu {lv : Nat} (c : Cz Γ W X lv) : X.A.units + 65 < cLine := by have := c.room.un; omega

section
variable {lv : Nat} {a b : Expr} {f g : FE} {pos : Pos}
theorem ze_add (c : Cz Γ W X lv) (ha : PE X a (tZ Γ W f)) (hb : PE X b (tZ Γ W g)) : PE X (.BinOp a .Add b pos) (tZ Γ W (fBin oAdd f g)) := PE.imp (pe_op op_addA ha hb) (tZ_bin (by rw [c.K]; exact oAdd_ok))
theorem ze_sub (ha : PE X a (tZ Γ W f)) (hb : PE X b (tZ Γ W g)) : PE X (.BinOp a .Sub b pos) (tZ Γ W (fBin oSub f g)) := PE.imp (pe_op op_sub ha hb) (tZ_bin oSub_ok)
theorem ze_mul (ha : PE X a (tZ Γ W f)) (hb : PE X b (tZ Γ W g)) : PE X (.BinOp a .Mult b pos) (tZ Γ W (fBin oMul f g)) := PE.imp (pe_op op_mulA ha hb) (tZ_bin oMul_ok)
theorem ze_mod (ha : PE X a (tZ Γ W f)) (hb : PE X b (tZ Γ W g)) : PE X (.BinOp a .Mod b pos) (tZ Γ W (fBin oMod f g)) := PE.imp (pe_op op_mod ha hb) (tZ_bin oMod_ok)
theorem ze_fdiv (ha : PE X a (tZ Γ W f)) (hb : PE X b (tZ Γ W g)) : PE X (.BinOp a .FloorDiv b pos) (tZ Γ W (fBin oFdiv f g)) := PE.imp (pe_op op_fdivW ha hb) (tZ_bin oFdiv_ok)
theorem ze_pow (ha : PE X a (tZ Γ W f)) (hb : PE X b (tZ Γ W g)) : PE X (.BinOp a .Pow b pos) (tZ Γ W (fBin oPow f g)) := PE.imp (pe_op op_pow ha hb) (tZ_bin oPow_ok)
theorem ze_neg (ha : PE X a (tZ Γ W f)) : PE X (.UnaryOp .USub a pos) (tZ Γ W (fUn oNeg f)) := PE.imp (pe_un un_neg ha) (tZ_un oNeg_ok)

/-! ## comparisons by their operator -/
def oCmp : CmpOp → Option (Val → Val → Mu → R (Val × Mu))
  | .Eq => some (oEq false)
  | .NotEq => some (oEq true)
  | .Lt => some oLt
  | .LtE => some oLe
  | .Gt => some oGt
  | .GtE => some oGe
  | .In => some (oIn false)
  | .NotIn => some (oIn true)
  | _ => none
theorem oCmp_ok (c : Cz Γ W X lv) : ∀ {op : CmpOp} {o : Val → Val → Mu → R (Val × Mu)}, oCmp op = some o → ∃ r : R2, OpR X (compareOp op) r ∧ Op2 Γ W r o := by
  have hu := c.hu
  intro op o e
  cases op <;> cases e
  · exact ⟨_, op_eqD (by omega), by rw [c.K]; exact oEq_ok⟩
  · exact ⟨_, op_neD (by omega), by rw [c.K]; exact oNe_ok⟩
  · exact ⟨_, op_lt.or op_lt_str, oOrd_ok⟩
  · exact ⟨_, op_le.or op_le_str, oOrd_ok⟩
  · exact ⟨_, op_gt.or op_gt_str, oOrd_ok⟩
  · exact ⟨_, op_ge.or op_ge_str, oOrd_ok⟩
  · exact ⟨_, op_inA hu, by rw [c.K]; exact oIn_ok⟩
  · exact ⟨_, op_notInA hu, by rw [c.K]; exact oIn_ok⟩
theorem ze_cmp (c : Cz Γ W X lv) {op : CmpOp} {o : Val → Val → Mu → R (Val × Mu)} (e : oCmp op = some o) (ha : PE X a (tZ Γ W f)) (hb : PE X b (tZ Γ W g)) (hm : behindInMarks op b = false) : PE X (.Compare a [op] [b] pos) (tZ Γ W (fBin o f g)) := by
  obtain ⟨r, h1, h2⟩ := oCmp_ok c e
  exact PE.imp (pe_cmpR h1 ha hb hm) (tZ_bin h2)
/-- a test -/
abbrev FT := Rho → Mu → R (Bool × Mu)
def PostT (Γ : Gm) (W : WX) (G : Gh) (ρ : Rho) (σ : St) (H : Hp) (Q : Bool → Hp → Prop) : R (Bool × Mu) → Prop
  | .ok p => ∀ G' H', Step G H G' H' → Rep Γ G' ρ p.2 σ H' → Q p.1 H'
  | .ex e r m => ∀ cls dx G' H', Step G H G' H' → Rep Γ G' r m σ H' → ErrRel Γ G' H' cls dx e → W cls dx σ H'
  | .bad => False
def tZT (Γ : Gm) (W : WX) (f : FT) : TT := fun σ H Q => ∃ G ρ μ, Rep Γ G ρ μ σ H ∧ PostT Γ W G ρ σ H Q (f ρ μ)
theorem PostT.step {G G1 : Gh} {ρ : Rho} {σ : St} {H H1 : Hp} {Q : Bool → Hp → Prop} (s : Step G H G1 H1) : ∀ {r : R (Bool × Mu)}, PostT Γ W G ρ σ H Q r → PostT Γ W G1 ρ σ H1 Q r
  | .ok p, h => fun G' H' z => h G' H' (s.trans z)
  | .ex e r m, h => fun c d G' H' z => h c d G' H' (s.trans z)
  | .bad, h => h
theorem Post.bindT {G : Gh} {ρ : Rho} {σ : St} {H : Hp} {Q : Bool → Hp → Prop} {Q1 : VK} {k : Val × Mu → R (Bool × Mu)} : ∀ {r : R (Val × Mu)}, PostT Γ W G ρ σ H Q (r.bind k) →
    (∀ u v μ1 G1 H1, Step G H G1 H1 → Rep Γ G1 ρ μ1 σ H1 → VRel Γ G1 u v → PostT Γ W G1 ρ σ H1 Q (k (v, μ1)) → Q1 u H1) → Post Γ W G ρ σ H Q1 r
  | .ok p, h, f => fun u G1 H1 s R v => f u p.1 p.2 G1 H1 s R v (PostT.step s h)
  | .ex e r m, h, f => h
  | .bad, h, f => h
theorem PostT.bindT {G : Gh} {ρ : Rho} {σ : St} {H : Hp} {Q Q1 : Bool → Hp → Prop} {k : Bool × Mu → R (Bool × Mu)} : ∀ {r : R (Bool × Mu)}, PostT Γ W G ρ σ H Q (r.bind k) →
    (∀ b μ1 G1 H1, Step G H G1 H1 → Rep Γ G1 ρ μ1 σ H1 → PostT Γ W G1 ρ σ H1 Q (k (b, μ1)) → Q1 b H1) → PostT Γ W G ρ σ H Q1 r
  | .ok p, h, f => fun G1 H1 s R => f p.1 p.2 G1 H1 s R (PostT.step s h)
  | .ex e r m, h, f => h
  | .bad, h, f => h
theorem PostT.bind {G : Gh} {ρ : Rho} {σ : St} {H : Hp} {Q : VK} {Q1 : Bool → Hp → Prop} {k : Bool × Mu → R (Val × Mu)} : ∀ {r : R (Bool × Mu)}, Post Γ W G ρ σ H Q (r.bind k) →
    (∀ b μ1 G1 H1, Step G H G1 H1 → Rep Γ G1 ρ μ1 σ H1 → Post Γ W G1 ρ σ H1 Q (k (b, μ1)) → Q1 b H1) → PostT Γ W G ρ σ H Q1 r
  | .ok p, h, f => fun G1 H1 s R => f p.1 p.2 G1 H1 s R (Post.step s h)
  | .ex e r m, h, f => h
  | .bad, h, f => h
theorem PostT.here {G : Gh} {ρ : Rho} {μ : Mu} {σ : St} {H : Hp} {Q : Bool → Hp → Prop} {b : Bool} (R : Rep Γ G ρ μ σ H) (h : PostT Γ W G ρ σ H Q (.ok (b, μ))) : Q b H := h G H (Step.refl G H) R
/-- a value that is a bool, as a test -/
def fT (f : FE) : FT := fun ρ μ => (f ρ μ).bind fun p => match p.1 with
  | .d (.bl b) => .ok (b, p.2)
  | _ => .bad
theorem fT_ok {σ : St} {H : Hp} {Q : Bool → Hp → Prop} (t : tZT Γ W (fT f) σ H Q) : tZ Γ W f σ H fun x H' => ∃ k, x = .bl k ∧ Q k H' := by
  obtain ⟨G, ρ, μ, R, p⟩ := t
  refine ⟨G, ρ, μ, R, Post.bindT p fun u v μ1 G1 H1 s1 R1 r1 p1 => ?_⟩
  simp only at p1
  split at p1
  · exact ⟨_, r1.bl_, PostT.here R1 p1⟩
  · exact p1.elim
theorem zt_cmp (c : Cz Γ W X lv) {op : CmpOp} {o : Val → Val → Mu → R (Val × Mu)} (e : oCmp op = some o) (ha : PE X a (tZ Γ W f)) (hb : PE X b (tZ Γ W g)) (hm : behindInMarks op b = false) : PT X (.Compare a [op] [b] pos) (tZT Γ W (fT (fBin o f g))) := by
  obtain ⟨r, h1, h2⟩ := oCmp_ok c e
  exact PT.imp (pt_cmpR h1 ha hb hm) fun σ H Q t => tZ_bin h2 σ H _ (fT_ok t)
/-- is None -/
def oIsN (neg : Bool) (v : Val) (μ : Mu) : R (Val × Mu) := match v with
  | .d .non => .ok (.d (.bl (!neg)), μ)
  | .d (.obj _) => .bad
  | _ => .ok (.d (.bl neg), μ)
theorem Is.ne_non {F : Hp} {u : V} {d : D} (h : Is Γ F u d) (n : d ≠ .non) : u ≠ .non := by
  cases d with
  | non => exact absurd rfl n
  | bl b => unfold Is at h; rw [h]; exact fun z => by cases z
  | int b => unfold Is at h; rw [h]; exact fun z => by cases z
  | str b => unfold Is at h; rw [h]; exact fun z => by cases z
  | tup b => unfold Is at h; obtain ⟨a, _, e, _⟩ := h; rw [e]; exact fun z => by cases z
  | kt b => unfold Is at h; obtain ⟨a, _, e, _⟩ := h; rw [e]; exact fun z => by cases z
  | lst b => unfold Is at h; obtain ⟨a, _, e, _⟩ := h; rw [e]; exact fun z => by cases z
  | dK b c => unfold Is at h; obtain ⟨a, _, e, _⟩ := h; rw [e]; exact fun z => by cases z
  | dT b c => unfold Is at h; obtain ⟨a, _, e, _⟩ := h; rw [e]; exact fun z => by cases z
  | ins b c e => unfold Is at h; obtain ⟨a, _, _, _, e, _⟩ := h; rw [e]; exact fun z => by cases z
  | obj b => unfold Is at h; obtain ⟨a, e, _⟩ := h; rw [e]; exact fun z => by cases z
  | exc b c e => unfold Is at h; obtain ⟨a, _, _, e, _⟩ := h; rw [e]; exact fun z => by cases z
  | fnv b => unfold Is at h; rw [h]; exact fun z => by cases z
  | scr b => unfold Is at h; obtain ⟨a, e, _⟩ := h; rw [e]; exact fun z => by cases z
theorem oIsN_ok {neg : Bool} : Op1 Γ W (fun x H Q => Q (.bl (if neg then !decide (x = .non) else decide (x = .non))) H) (oIsN neg) := by
  intro G ρ μ σ H Q x v R rx p
  unfold oIsN at p
  split at p
  · have e := rx.non_
    subst e
    have q := Post.bl R p
    cases neg <;> exact q
  · exact p.elim
  · rename_i h1 h2
    have ne : x ≠ .non := by
      cases v with
      | own k => obtain ⟨a, _, e⟩ := rx; rw [e]; exact fun z => by cases z
      | d d => exact Is.ne_non rx fun z => h1 (by rw [z])
    rw [decide_eq_false ne]
    have q := Post.bl R p
    cases neg <;> exact q
theorem ze_isN {j pos'} (ha : PE X a (tZ Γ W f)) : PE X (.Compare a [.Is] [.Constant .none j pos'] pos) (tZ Γ W (fUn (oIsN false) f)) :=
  PE.imp (pe_cmp (pc_isN ha) rfl) fun σ H Q t => tZ_un oIsN_ok σ H Q t
theorem ze_notN {j pos'} (ha : PE X a (tZ Γ W f)) : PE X (.Compare a [.IsNot] [.Constant .none j pos'] pos) (tZ Γ W (fUn (oIsN true) f)) :=
  PE.imp (pe_cmp (pc_notN ha) rfl) fun σ H Q t => tZ_un oIsN_ok σ H Q t
theorem zt_isN {j pos'} (ha : PE X a (tZ Γ W f)) : PT X (.Compare a [.Is] [.Constant .none j pos'] pos) (tZT Γ W (fT (fUn (oIsN false) f))) :=
  PT.imp (pt_cmp (pc_isN ha) rfl) fun σ H Q t => tZ_un oIsN_ok σ H _ (fT_ok t)
theorem zt_notN {j pos'} (ha : PE X a (tZ Γ W f)) : PT X (.Compare a [.IsNot] [.Constant .none j pos'] pos) (tZT Γ W (fT (fUn (oIsN true) f))) :=
  PT.imp (pt_cmp (pc_notN ha) rfl) fun σ H Q t => tZ_un oIsN_ok σ H _ (fT_ok t)
/-- a chain of two -/
def fChain (o o' : Val → Val → Mu → R (Val × Mu)) (f g h : FE) : FE := fun ρ μ => (f ρ μ).bind fun p => (g ρ p.2).bind fun q => (o p.1 q.1 q.2).bind fun r => match r.1 with
  | .d (.bl true) => (h ρ r.2).bind fun s => o' q.1 s.1 s.2
  | .d (.bl false) => .ok (.d (.bl false), r.2)
  | _ => .bad
end
end
end Zl
set_option Elab.async false
set_option linter.all false
set_option maxRecDepth 100000
set_option maxHeartbeats 4000000
namespace Zl
open PySem PySem.Spec L2
open PyProof.Rows hiding St
section
variable {Γ : Gm} {W : WX} {X : Cx} {lv : Nat} {a b d e : Expr} {f g h : FE} {pos : Pos} {rest : List Expr}

theorem chain_ok {r r' : R2} {o o' : Val → Val → Mu → R (Val × Mu)} (h1 : Op2 Γ W r o) (h2 : Op2 Γ W r' o') (σ : St) (H : Hp) (Q : VK) (t : tZ Γ W (fChain o o' f g h) σ H Q) : tChain r r' (tZ Γ W f) (tZ Γ W g) (tZ Γ W h) σ H Q := by
  obtain ⟨G, ρ, μ, R, p⟩ := t
  refine ⟨G, ρ, μ, R, Post.bind p fun x v μ1 G1 H1 s1 R1 r1 p1 => ⟨G1, ρ, μ1, R1, Post.bind p1 fun y w μ2 G2 H2 s2 R2 r2 p2 => ?_⟩⟩
  refine h1 G2 ρ μ2 σ H2 _ x y v w R2 (VRel.mono s2 r1) r2 (Post.bind p2 fun z b μ3 G3 H3 s3 R3 r3 p3 => ?_)
  simp only at p3
  split at p3
  · refine ⟨true, r3.bl_, ?_⟩
    rw [if_pos rfl]
    exact ⟨G3, ρ, μ3, R3, Post.bind p3 fun u c μ4 G4 H4 s4 R4 r4 p4 => h2 G4 ρ μ4 σ H4 Q y u w c R4 (VRel.mono s4 (VRel.mono s3 r2)) r4 p4⟩
  · refine ⟨false, r3.bl_, ?_⟩
    rw [if_neg Bool.false_ne_true]
    exact Post.bl R3 p3
  · exact p3.elim
theorem ze_chain (c : Cz Γ W X lv) {op op' : CmpOp} {o o' : Val → Val → Mu → R (Val × Mu)} (e1 : oCmp op = some o) (e2 : oCmp op' = some o') (ha : PE X a (tZ Γ W f)) (hb : PE X b (tZ Γ W g)) (hd : PE X d (tZ Γ W h)) (hm : lastMarks [op, op'] [b, d] = false) :
    PE X (.Compare a [op, op'] [b, d] pos) (tZ Γ W (fChain o o' f g h)) := by
  obtain ⟨r, h1, h2⟩ := oCmp_ok c e1
  obtain ⟨r', h1', h2'⟩ := oCmp_ok c e2
  exact PE.imp (pe_chain h1 h1' ha hb hd hm) (chain_ok h2 h2')
theorem zt_chain (c : Cz Γ W X lv) {op op' : CmpOp} {o o' : Val → Val → Mu → R (Val × Mu)} (e1 : oCmp op = some o) (e2 : oCmp op' = some o') (ha : PE X a (tZ Γ W f)) (hb : PE X b (tZ Γ W g)) (hd : PE X d (tZ Γ W h)) (hm : lastMarks [op, op'] [b, d] = false) :
    PT X (.Compare a [op, op'] [b, d] pos) (tZT Γ W (fT (fChain o o' f g h))) := by
  obtain ⟨r, h1, h2⟩ := oCmp_ok c e1
  obtain ⟨r', h1', h2'⟩ := oCmp_ok c e2
  exact PT.imp (pt_chain h1 h1' ha hb hd hm) fun σ H Q t => chain_ok h2 h2' σ H _ (fT_ok t)

/-! ## truth -/
def truD : D → Option Bool
  | .non => some false
  | .bl b => some b
  | .int i => some (i != 0)
  | .str z => if z.length ≤ sizeLine then some ((z.length : Int) != 0) else none
  | .tup ds => some (!ds.isEmpty)
  | .kt ds => some (!ds.isEmpty)
  | .lst ds => some (!ds.isEmpty)
  | .dK ks _ => some (!ks.isEmpty)
  | .scr ns => some (!ns.isEmpty)
  | _ => none
def truV (μ : Mu) : Val → Option Bool
  | .d x => truD x
  | .own k => (match μ[k]? with
    | some (.lst vs) => some (!vs.isEmpty)
    | some (.dK ks _) => some (!ks.isEmpty)
    | _ => none)
def fTr (f : FE) : FT := fun ρ μ => (f ρ μ).bind fun p => match truV p.2 p.1 with
  | some b => .ok (b, p.2)
  | none => .bad
theorem isEmpty_len {α β : Type} {l : List α} {m : List β} (h : l.length = m.length) : l.isEmpty = m.isEmpty := by
  cases l <;> cases m <;> simp_all
theorem truV_ok {G : Gh} {μ : Mu} {H : Hp} {u : V} {v : Val} {k : Bool} (R : RepM Γ G μ H) (r : VRel Γ G u v) (e : truV μ v = some k) : TruV Γ.K u H k := by
  cases v with
  | d x =>
    have e : truD x = some k := e
    cases x with
    | non => rw [r.non_]; cases e; rfl
    | bl b => rw [r.bl_]; cases e; rfl
    | int i => rw [r.int_]; cases e; rfl
    | str z =>
      rw [r.str_]
      have e : (if z.length ≤ sizeLine then some ((z.length : Int) != 0) else none) = some k := e
      by_cases hz : z.length ≤ sizeLine
      · rw [if_pos hz] at e
        cases e
        exact ⟨hz, rfl⟩
      · rw [if_neg hz] at e; cases e
    | tup ds =>
      cases e
      obtain ⟨a, us, ea, h1, h2⟩ := VRel.tup_ R r
      subst ea
      exact .inr (.inl ⟨us, h1, by rw [isEmpty_len h2.length]⟩)
    | kt ds =>
      cases e
      obtain ⟨a, us, ea, h1, h2⟩ := VRel.kt_ R r
      subst ea
      exact .inr (.inl ⟨us, h1, by rw [isEmpty_len h2.length]⟩)
    | lst ds =>
      cases e
      obtain ⟨a, us, ea, h1, h2⟩ := VRel.lst_ R r
      subst ea
      exact .inl ⟨us, SqL.of h1, by rw [isEmpty_len h2.length]⟩
    | dK ks ds =>
      cases e
      have r : Is Γ G.F u _ := r
      unfold Is at r
      obtain ⟨a, kvs, ea, h1, h2, h3⟩ := r
      subst ea
      exact .inr (.inr ⟨kvs, R.sub _ _ h1, by rw [← h2]; cases kvs <;> rfl⟩)
    | scr ns =>
      cases e
      have r : Is Γ G.F u _ := r
      unfold Is at r
      obtain ⟨a, ea, h1⟩ := r
      subst ea
      exact .inl ⟨_, R.sub.seq h1, by cases ns <;> rfl⟩
    | dT _ _ => cases e
    | ins _ _ _ => cases e
    | obj _ => cases e
    | exc _ _ _ => cases e
    | fnv _ => cases e
  | own j =>
    obtain ⟨a, ha, ea⟩ := r
    subst ea
    unfold truV at e
    cases q : μ[j]? with
    | none => simp only [q] at e; cases e
    | some c =>
      simp only [q] at e
      cases c with
      | lst vs =>
        cases e
        obtain ⟨n, us, h, l⟩ := R.cells j a _ ha q
        exact .inl ⟨us, SqL.of h, by rw [isEmpty_len (Paired.length l)]⟩
      | dK ks vs =>
        cases e
        obtain ⟨n, us, h, l, _⟩ := R.cells j a _ ha q
        exact .inr (.inr ⟨us, h, by rw [← l]; cases us <;> rfl⟩)
      | _ => cases e
theorem zt_truth (c : Cz Γ W X lv) (ha : PE X a (tZ Γ W f)) (he : ∀ whole, isTrue a X.env whole = (do let v ← whole; standAt a.pos; holding [v] (truthy v))) : PT X a (tZT Γ W (fTr f)) := by
  refine PT.imp (pt_truth ha he) fun σ H Q t => ?_
  obtain ⟨G, ρ, μ, R, p⟩ := t
  refine ⟨G, ρ, μ, R, Post.bindT p fun u v μ1 G1 H1 s1 R1 r1 p1 => ?_⟩
  simp only at p1
  split at p1
  · rename_i k e
    exact ⟨k, by rw [c.K]; exact truV_ok R1.toRepM r1 e, PostT.here R1 p1⟩
  · exact p1.elim

/-! ## and, or, not, if-else -/
def fAndT (f g : FT) : FT := fun ρ μ => (f ρ μ).bind fun p => if p.1 = true then g ρ p.2 else .ok (false, p.2)
def fOrT (f g : FT) : FT := fun ρ μ => (f ρ μ).bind fun p => if p.1 = true then .ok (true, p.2) else g ρ p.2
def fNotT (f : FT) : FT := fun ρ μ => (f ρ μ).bind fun p => .ok (!p.1, p.2)
theorem zt_and {s t : FT} (ha : PT X a (tZT Γ W s)) (hb : PW X (.BoolOp .And (b :: rest) pos) (tZT Γ W t)) : PW X (.BoolOp .And (a :: b :: rest) pos) (tZT Γ W (fAndT s t)) := by
  refine ⟨fun wh pins st σ H Q I q => (pw_and ha hb).run wh pins st σ H Q I ?_⟩
  obtain ⟨G, ρ, μ, R, p⟩ := q
  refine ⟨G, ρ, μ, R, PostT.bindT p fun k μ1 G1 H1 s1 R1 p1 => ?_⟩
  cases k with
  | true => rw [if_pos rfl]; exact ⟨G1, ρ, μ1, R1, p1⟩
  | false => rw [if_neg Bool.false_ne_true]; exact PostT.here R1 p1
theorem zt_or {s t : FT} (ha : PT X a (tZT Γ W s)) (hb : PW X (.BoolOp .Or (b :: rest) pos) (tZT Γ W t)) : PW X (.BoolOp .Or (a :: b :: rest) pos) (tZT Γ W (fOrT s t)) := by
  refine ⟨fun wh pins st σ H Q I q => (pw_or ha hb).run wh pins st σ H Q I ?_⟩
  obtain ⟨G, ρ, μ, R, p⟩ := q
  refine ⟨G, ρ, μ, R, PostT.bindT p fun k μ1 G1 H1 s1 R1 p1 => ?_⟩
  cases k with
  | true => rw [if_pos rfl]; exact PostT.here R1 p1
  | false => rw [if_neg Bool.false_ne_true]; exact ⟨G1, ρ, μ1, R1, p1⟩
theorem zt_not {s : FT} (ha : PT X a (tZT Γ W s)) : PT X (.UnaryOp .Not a pos) (tZT Γ W (fNotT s)) := by
  refine PT.imp (pt_not ha) fun σ H Q q => ?_
  obtain ⟨G, ρ, μ, R, p⟩ := q
  exact ⟨G, ρ, μ, R, PostT.bindT p fun k μ1 G1 H1 s1 R1 p1 => PostT.here R1 p1⟩
/-- as values: bools ahead of the last -/
def fAndV (f g : FE) : FE := fun ρ μ => (f ρ μ).bind fun p => match p.1 with
  | .d (.bl true) => g ρ p.2
  | .d (.bl false) => .ok (.d (.bl false), p.2)
  | _ => .bad
def fOrV (f g : FE) : FE := fun ρ μ => (f ρ μ).bind fun p => match p.1 with
  | .d (.bl true) => .ok (.d (.bl true), p.2)
  | .d (.bl false) => g ρ p.2
  | _ => .bad
def oNot : Val → Mu → R (Val × Mu)
  | .d (.bl k), μ => .ok (.d (.bl (!k)), μ)
  | _, _ => .bad
theorem ze_one {op} (ha : PE X a (tZ Γ W f)) : PE X (.BoolOp op [a] pos) (tZ Γ W f) := pe_one ha
theorem ze_and (ha : PE X a (tZ Γ W f)) (hb : PE X (.BoolOp .And (b :: rest) pos) (tZ Γ W g)) : PE X (.BoolOp .And (a :: b :: rest) pos) (tZ Γ W (fAndV f g)) := by
  refine PE.imp (pe_and ha hb) fun σ H Q t => ?_
  obtain ⟨G, ρ, μ, R, p⟩ := t
  refine ⟨G, ρ, μ, R, Post.bind p fun u v μ1 G1 H1 s1 R1 r1 p1 => ?_⟩
  simp only at p1
  split at p1
  · exact ⟨true, r1.bl_, by rw [if_pos rfl]; exact ⟨G1, ρ, μ1, R1, p1⟩⟩
  · exact ⟨false, r1.bl_, by rw [if_neg Bool.false_ne_true]; exact Post.bl R1 p1⟩
  · exact p1.elim
theorem ze_or (ha : PE X a (tZ Γ W f)) (hb : PE X (.BoolOp .Or (b :: rest) pos) (tZ Γ W g)) : PE X (.BoolOp .Or (a :: b :: rest) pos) (tZ Γ W (fOrV f g)) := by
  refine PE.imp (pe_or ha hb) fun σ H Q t => ?_
  obtain ⟨G, ρ, μ, R, p⟩ := t
  refine ⟨G, ρ, μ, R, Post.bind p fun u v μ1 G1 H1 s1 R1 r1 p1 => ?_⟩
  simp only at p1
  split at p1
  · exact ⟨true, r1.bl_, by rw [if_pos rfl]; exact Post.bl R1 p1⟩
  · exact ⟨false, r1.bl_, by rw [if_neg Bool.false_ne_true]; exact ⟨G1, ρ, μ1, R1, p1⟩⟩
  · exact p1.elim
theorem ze_not (ha : PE X a (tZ Γ W f)) : PE X (.UnaryOp .Not a pos) (tZ Γ W (fUn oNot f)) := by
  refine PE.imp (pe_not ha) fun σ H Q t => ?_
  obtain ⟨G, ρ, μ, R, p⟩ := t
  refine ⟨G, ρ, μ, R, Post.bind p fun u v μ1 G1 H1 s1 R1 r1 p1 => ?_⟩
  cases v with
  | own k => exact p1.elim
  | d d =>
    cases d with
    | bl k => exact ⟨_, r1.bl_, Post.bl R1 p1⟩
    | _ => exact p1.elim
def fIf (s : FT) (f g : FE) : FE := fun ρ μ => (s ρ μ).bind fun p => if p.1 = true then f ρ p.2 else g ρ p.2
theorem ze_if {s : FT} (hc : PT X e (tZT Γ W s)) (ha : PE X a (tZ Γ W f)) (hb : PE X b (tZ Γ W g)) : PE X (.IfExp e a b pos) (tZ Γ W (fIf s f g)) := by
  refine PE.imp (pe_ifExp hc ha hb) fun σ H Q t => ?_
  obtain ⟨G, ρ, μ, R, p⟩ := t
  refine ⟨G, ρ, μ, R, PostT.bind p fun k μ1 G1 H1 s1 R1 p1 => ?_⟩
  cases k with
  | true => rw [if_pos rfl]; exact ⟨G1, ρ, μ1, R1, p1⟩
  | false => rw [if_neg Bool.false_ne_true]; exact ⟨G1, ρ, μ1, R1, p1⟩

/-! ## items, slices -/
theorem ze_ix (c : Cz Γ W X lv) (ha : PE X a (tZ Γ W f)) (hb : PE X b (tZ Γ W g)) (hs : PlainIx b) : PE X (.Subscript a b pos) (tZ Γ W (fBin oIx f g)) :=
  PE.imp (pe_ix (ix_all (by have := c.hu; omega)) ha hb hs) (tZ_bin (by rw [c.K]; exact oIx_ok))
def oCut (lo hi : Option Int) : Val → Mu → R (Val × Mu)
  | .d (.str z), μ => if z.length ≤ sizeLine then .ok (.d (.str (cutS z lo hi)), μ) else .bad
  | .d (.tup ds), μ => .ok (.d (.tup (cutD ds lo hi)), μ)
  | v, μ => (match lstV μ v with
    | some ds => .ok (.d (.lst (cutD ds lo hi)), μ)
    | none => .bad)
abbrev rSlZ (K : PySem.W.Frag) : V → Option Int → Option Int → Hp → VK → Prop := fun x lo hi H Q => rSlS x lo hi H Q ∨ (rSlA K x lo hi H Q ∨ rSlL K x lo hi H Q)
theorem sl_all : SlR X (rSlZ X.K) := sl_str.or (sl_tupA.or sl_list)
theorem cutD_whole {ds : List D} {lo hi : Option Int} (h : HT.sIx ds.length 0 lo = 0 ∧ HT.sIx ds.length ds.length hi = ds.length) : cutD ds lo hi = ds := by
  unfold cutD; rw [h.1, h.2]; simp
theorem oCut_ok {lo hi : Option Int} : Op1 Γ W (fun x H Q => rSlZ Γ.K x lo hi H Q) (oCut lo hi) := by
  intro G ρ μ σ H Q x v R rx p
  unfold oCut at p
  split at p
  · split at p
    · rename_i hz
      exact .inl ⟨_, rx.str_, hz, Post.str R p⟩
    · exact p.elim
  · rename_i ds
    obtain ⟨l, us, h1, h2, h3⟩ := VRel.tup_ R.toRepM rx
    refine .inr (.inl ⟨l, us, h1, h2, fun w => ?_, fun _ => Post.tup R p (cut_IsL h3 lo hi)⟩)
    rw [h3.length] at w
    rw [cutD_whole w] at p
    exact Post.here R p (by rw [← h1]; exact rx)
  · split at p
    · rename_i ds e
      obtain ⟨l, us, h1, h2, h3⟩ := lstV_ok R.toRepM rx e
      exact .inr (.inr ⟨l, us, h1, SqL.of h2, Post.lst R p (cut_IsL h3 lo hi)⟩)
    · exact p.elim
/-- a part of a slice -/
abbrev FO := Rho → Mu → R (Option Int × Mu)
def fPart : Option FE → FO
  | none => fun _ μ => .ok (none, μ)
  | some f => fun ρ μ => (f ρ μ).bind fun p => match p.1 with
    | .d (.int i) => .ok (some i, p.2)
    | _ => .bad
def fSl (f : FE) (lo hi : Option FE) : FE := fun ρ μ => (f ρ μ).bind fun p => (fPart lo ρ p.2).bind fun l => (fPart hi ρ l.2).bind fun u => oCut l.1 u.1 p.1 u.2
def tZO (Γ : Gm) (W : WX) : Option FE → TO
  | none => tNoPart
  | some f => tPart (tZ Γ W f)
theorem part_ok {lo : Option FE} {G : Gh} {ρ : Rho} {μ : Mu} {σ : St} {H : Hp} {Q : VK} {Q1 : Option Int → Hp → Prop} {k : Option Int × Mu → R (Val × Mu)} (R : Rep Γ G ρ μ σ H) (p : Post Γ W G ρ σ H Q ((fPart lo ρ μ).bind k))
    (n : ∀ i μ1 G1 H1, Step G H G1 H1 → Rep Γ G1 ρ μ1 σ H1 → Post Γ W G1 ρ σ H1 Q (k (i, μ1)) → Q1 i H1) : tZO Γ W lo σ H Q1 := by
  cases lo with
  | none => exact n none μ G H (Step.refl G H) R p
  | some f =>
    have hb : ∀ (r : Zl.R (Val × Mu)) (m : Val × Mu → Zl.R (Option Int × Mu)), (r.bind m).bind k = r.bind fun q => (m q).bind k := fun r m => by cases r <;> rfl
    have p' : Post Γ W G ρ σ H Q ((f ρ μ).bind fun q => (match q.1 with
      | .d (.int i) => Zl.R.ok (some i, q.2)
      | _ => .bad).bind k) := by
      have p2 : Post Γ W G ρ σ H Q (((f ρ μ).bind fun q => (match q.1 with
        | .d (.int i) => Zl.R.ok (some i, q.2)
        | _ => .bad)).bind k) := p
      rw [hb] at p2
      exact p2
    refine ⟨G, ρ, μ, R, Post.bind p' fun u v μ1 G1 H1 s1 R1 r1 p1 => ?_⟩
    simp only at p1
    split at p1
    · exact ⟨_, r1.int_, n _ μ1 G1 H1 s1 R1 p1⟩
    · exact p1.elim
theorem zo_none : PO X none (tZO Γ W none) := po_none
theorem zo_some {x : Expr} (h : PE X x (tZ Γ W f)) : PO X (some x) (tZO Γ W (some f)) := po_some h
theorem ze_sl (c : Cz Γ W X lv) {lo hi : Option Expr} {l u : Option FE} {p2} (ha : PE X a (tZ Γ W f)) (hl : PO X lo (tZO Γ W l)) (hu : PO X hi (tZO Γ W u)) : PE X (.Subscript a (.Slice lo hi none p2) pos) (tZ Γ W (fSl f l u)) := by
  refine PE.imp (pe_slice sl_all ha hl hu) fun σ H Q t => ?_
  obtain ⟨G, ρ, μ, R, p⟩ := t
  refine ⟨G, ρ, μ, R, Post.bind p fun x v μ1 G1 H1 s1 R1 r1 p1 => part_ok R1 p1 fun i μ2 G2 H2 s2 R2 p2 => part_ok R2 p2 fun j μ3 G3 H3 s3 R3 p3 => ?_⟩
  rw [c.K]
  exact oCut_ok G3 ρ μ3 σ H3 Q x v R3 (VRel.mono s3 (VRel.mono s2 r1)) p3
end
end Zl
set_option Elab.async false
set_option linter.all false
set_option maxRecDepth 100000
set_option maxHeartbeats 4000000
namespace Zl
open PySem PySem.Spec L2
open PyProof.Rows hiding St

inductive Fl where
  | nx | rt (v : Val) | bk | ct
abbrev FS := Rho → Mu → R (Fl × Rho × Mu)
def PostS (Γ : Gm) (W : WX) (G : Gh) (H : Hp) (D : Ends) : R (Fl × Rho × Mu) → Prop
  | .ok p => ∀ G' σ' H', Step G H G' H' → Rep Γ G' p.2.1 p.2.2 σ' H' → (match p.1 with
    | .nx => D.nx σ' H'
    | .rt v => ∀ u, VRel Γ G' u v → D.rt u H'
    | .bk => D.bk σ' H'
    | .ct => D.ct σ' H')
  | .ex e r m => ∀ cls dx G' σ' H', Step G H G' H' → Rep Γ G' r m σ' H' → ErrRel Γ G' H' cls dx e → W cls dx σ' H'
  | .bad => False
def tZS (Γ : Gm) (W : WX) (f : FS) : TS := fun D σ H => ∃ G ρ μ, Rep Γ G ρ μ σ H ∧ PostS Γ W G H D (f ρ μ)
theorem PostS.step {Γ : Gm} {W : WX} {G G1 : Gh} {H H1 : Hp} {D : Ends} (s : Step G H G1 H1) : ∀ {r : R (Fl × Rho × Mu)}, PostS Γ W G H D r → PostS Γ W G1 H1 D r
  | .ok p, h => fun G' σ' H' z => h G' σ' H' (s.trans z)
  | .ex e r m, h => fun c d G' σ' H' z => h c d G' σ' H' (s.trans z)
  | .bad, h => h
section
variable {Γ : Gm} {W : WX} {X : Cx} {lv : Nat} {a b e : Expr} {f g : FE} {pos : Pos}
/-- an expression's outcome ahead of the rest of a statement -/
theorem Post.bindS {G : Gh} {ρ : Rho} {σ : St} {H : Hp} {D : Ends} {Q1 : VK} {k : Val × Mu → R (Fl × Rho × Mu)} : ∀ {r : R (Val × Mu)}, PostS Γ W G H D (r.bind k) →
    (∀ u v μ1 G1 H1, Step G H G1 H1 → Rep Γ G1 ρ μ1 σ H1 → VRel Γ G1 u v → PostS Γ W G1 H1 D (k (v, μ1)) → Q1 u H1) → Post Γ W G ρ σ H Q1 r
  | .ok p, h, f => fun u G1 H1 s R v => f u p.1 p.2 G1 H1 s R v (PostS.step s h)
  | .ex e r m, h, f => fun c d G' H' z R => h c d G' σ H' z R
  | .bad, h, f => h
theorem PostA.bindS {G : Gh} {ρ : Rho} {σ : St} {H : Hp} {D : Ends} {Q1 : List V → Hp → Prop} {k : List Val × Mu → R (Fl × Rho × Mu)} : ∀ {r : R (List Val × Mu)}, PostS Γ W G H D (r.bind k) →
    (∀ u v μ1 G1 H1, Step G H G1 H1 → Rep Γ G1 ρ μ1 σ H1 → VRelL Γ G1 u v → PostS Γ W G1 H1 D (k (v, μ1)) → Q1 u H1) → PostA Γ W G ρ σ H Q1 r
  | .ok p, h, f => fun u G1 H1 s R v => f u p.1 p.2 G1 H1 s R v (PostS.step s h)
  | .ex e r m, h, f => fun c d G' H' z R => h c d G' σ H' z R
  | .bad, h, f => h
theorem PostT.bindS {G : Gh} {ρ : Rho} {σ : St} {H : Hp} {D : Ends} {Q1 : Bool → Hp → Prop} {k : Bool × Mu → R (Fl × Rho × Mu)} : ∀ {r : R (Bool × Mu)}, PostS Γ W G H D (r.bind k) →
    (∀ b μ1 G1 H1, Step G H G1 H1 → Rep Γ G1 ρ μ1 σ H1 → PostS Γ W G1 H1 D (k (b, μ1)) → Q1 b H1) → PostT Γ W G ρ σ H Q1 r
  | .ok p, h, f => fun G1 H1 s R => f p.1 p.2 G1 H1 s R (PostS.step s h)
  | .ex e r m, h, f => fun c d G' H' z R => h c d G' σ H' z R
  | .bad, h, f => h
theorem PostS.nx {G : Gh} {ρ : Rho} {μ : Mu} {σ : St} {H : Hp} {D : Ends} (R : Rep Γ G ρ μ σ H) (h : PostS Γ W G H D (.ok (.nx, ρ, μ))) : D.nx σ H := h G σ H (Step.refl G H) R
theorem PostS.rt {G : Gh} {ρ : Rho} {μ : Mu} {σ : St} {H : Hp} {D : Ends} {u : V} {v : Val} (R : Rep Γ G ρ μ σ H) (h : PostS Γ W G H D (.ok (.rt v, ρ, μ))) (r : VRel Γ G u v) : D.rt u H := h G σ H (Step.refl G H) R u r

def Rho.set (ρ : Rho) (i : Nat) (v : Val) : Rho := ⟨ρ.n0, ρ.s.set i (some v)⟩
theorem Rep.set {G : Gh} {ρ : Rho} {μ : Mu} {σ : St} {H : Hp} {i : Nat} {u : V} {v : Val} (R : Rep Γ G ρ μ σ H) (r : VRel Γ G u v) : Rep Γ G (ρ.set i v) μ (σ.set i (some u)) H := by
  refine ⟨R.toRepM, fun j w e => ?_, by simp [Rho.set, R.rl], R.n0, R.top⟩
  have e : (ρ.s.set i (some v))[j]? = some (some w) := e
  by_cases h : j = i
  · subst h
    have hl : j < ρ.s.length := by
      have := (List.getElem?_eq_some_iff.mp e).1
      simpa using this
    rw [List.getElem?_set_self hl] at e
    cases e
    exact ⟨u, List.getElem?_set_self (by rw [← R.rl]; exact hl), r⟩
  · rw [List.getElem?_set_ne (Ne.symm h)] at e
    obtain ⟨w', h1, h2⟩ := R.slots j w e
    exact ⟨w', by rw [List.getElem?_set_ne (Ne.symm h)]; exact h1, h2⟩

/-! ## blocks and small statements -/
def fNext : FS := fun ρ μ => .ok (.nx, ρ, μ)
def fSeq (f g : FS) : FS := fun ρ μ => (f ρ μ).bind fun p => match p.1 with
  | .nx => g p.2.1 p.2.2
  | _ => .ok p
def fBrk : FS := fun ρ μ => .ok (.bk, ρ, μ)
def fCnt : FS := fun ρ μ => .ok (.ct, ρ, μ)
def fDrop (f : FE) : FS := fun ρ μ => (f ρ μ).bind fun p => .ok (.nx, ρ, p.2)
def fRet (f : FE) : FS := fun ρ μ => (f ρ μ).bind fun p => .ok (.rt p.1, ρ, p.2)
def fRetN : FS := fun ρ μ => .ok (.rt (.d .non), ρ, μ)
def fIfS (c : FT) (f g : FS) : FS := fun ρ μ => (c ρ μ).bind fun p => if p.1 = true then f ρ p.2 else g ρ p.2
def fSet (i : Nat) (f : FE) : FS := fun ρ μ => (f ρ μ).bind fun p => .ok (.nx, ρ.set i p.1, p.2)
def fBad : FS := fun _ _ => .bad
theorem zs_nil : PSs X [] (tZS Γ W fNext) := PSs.imp pss_nil fun D σ H ⟨G, ρ, μ, R, p⟩ => PostS.nx R p
theorem seq_ok {s t : FS} {D : Ends} {σ : St} {H : Hp} (q : tZS Γ W (fSeq s t) D σ H) : tSeq (tZS Γ W s) (tZS Γ W t) D σ H := by
  obtain ⟨G, ρ, μ, R, p⟩ := q
  refine ⟨G, ρ, μ, R, ?_⟩
  unfold fSeq at p
  cases e : s ρ μ with
  | bad => rw [e] at p; exact p
  | ex a b c => rw [e] at p; exact p
  | ok r =>
    rw [e, Zl.R.bind_ok] at p
    intro G' σ' H' st R'
    obtain ⟨fl, ρ1, μ1⟩ := r
    cases fl with
    | nx => exact ⟨G', ρ1, μ1, R', PostS.step st p⟩
    | rt v => exact p G' σ' H' st R'
    | bk => exact p G' σ' H' st R'
    | ct => exact p G' σ' H' st R'
theorem zs_cons {st : Stmt} {rest : List Stmt} {s t : FS} (h1 : PS X st (tZS Γ W s)) (h2 : PSs X rest (tZS Γ W t)) : PSs X (st :: rest) (tZS Γ W (fSeq s t)) := PSs.imp (pss_cons h1 h2) fun D σ H q => seq_ok q
theorem zs_one {st : Stmt} {s : FS} (h1 : PS X st (tZS Γ W s)) : PSs X [st] (tZS Γ W s) := pss_one h1
theorem zs_bad {st : Stmt} : PS X st (tZS Γ W fBad) := PS.imp ps_never fun D σ H ⟨G, ρ, μ, R, p⟩ => p
theorem zs_pass : PS X (.Pass pos) (tZS Γ W fNext) := PS.imp ps_pass fun D σ H ⟨G, ρ, μ, R, p⟩ => PostS.nx R p
theorem zs_break : PS X (.Break pos) (tZS Γ W fBrk) := PS.imp ps_break fun D σ H ⟨G, ρ, μ, R, p⟩ => p G σ H (Step.refl G H) R
theorem zs_continue : PS X (.Continue pos) (tZS Γ W fCnt) := PS.imp ps_continue fun D σ H ⟨G, ρ, μ, R, p⟩ => p G σ H (Step.refl G H) R
theorem zs_expr (he : PE X e (tZ Γ W f)) (hs : swapsWith e none pos.line X.env = pure false) : PS X (.Expr e pos) (tZS Γ W (fDrop f)) :=
  PS.imp (ps_expr he hs) fun D σ H ⟨G, ρ, μ, R, p⟩ => ⟨G, ρ, μ, R, Post.bindS p fun u v μ1 G1 H1 s1 R1 r1 p1 => PostS.nx R1 p1⟩
theorem zs_ret (he : PE X e (tZ Γ W f)) : PS X (.Return (some e) pos) (tZS Γ W (fRet f)) :=
  PS.imp (ps_ret he) fun D σ H ⟨G, ρ, μ, R, p⟩ => ⟨G, ρ, μ, R, Post.bindS p fun u v μ1 G1 H1 s1 R1 r1 p1 => PostS.rt R1 p1 r1⟩
theorem zs_retN : PS X (.Return none pos) (tZS Γ W fRetN) := PS.imp ps_retN fun D σ H ⟨G, ρ, μ, R, p⟩ => PostS.rt R p (by show Is Γ _ _ _; unfold Is; rfl)
theorem zs_if {s t : FS} {c : FT} {x y : List Stmt} (hc : PT X e (tZT Γ W c)) (ha : PSs X x (tZS Γ W s)) (hb : PSs X y (tZS Γ W t)) : PS X (.If e x y pos) (tZS Γ W (fIfS c s t)) := by
  refine PS.imp (ps_if hc ha hb) fun D σ H q => ?_
  obtain ⟨G, ρ, μ, R, p⟩ := q
  refine ⟨G, ρ, μ, R, PostT.bindS p fun k μ1 G1 H1 s1 R1 p1 => ?_⟩
  cases k with
  | true => rw [if_pos rfl]; exact ⟨G1, ρ, μ1, R1, p1⟩
  | false => rw [if_neg Bool.false_ne_true]; exact ⟨G1, ρ, μ1, R1, p1⟩
theorem asg_ok {i : Nat} {D : Ends} {σ : St} {H : Hp} (q : tZS Γ W (fSet i f) D σ H) : tAsg (tZ Γ W f) (gName i) D σ H := by
  obtain ⟨G, ρ, μ, R, p⟩ := q
  exact ⟨G, ρ, μ, R, Post.bindS p fun u v μ1 G1 H1 s1 R1 r1 p1 => PostS.nx (R1.set r1) p1⟩
theorem zs_set (c : Cz Γ W X lv) {i : Nat} {x : Str} {pos' : Pos} (hi : X.N[i]? = some x) (hx : Loc X.env.scope x) (he : PE X e (tZ Γ W f)) (hs : swapsWith e (some (.Name x pos')) pos.line X.env = pure false) (hf : X.fn x = true ∨ X.env.scope.names.lookup x = some .local) :
    PS X (.Assign [.Name x pos'] e pos) (tZS Γ W (fSet i f)) := PS.imp (ps_set c.nd hi hx he hs hf) fun D σ H q => asg_ok q

/-! ## targets -/
abbrev FG := Val → Rho → Mu → R (Rho × Mu)
def PostG (Γ : Gm) (W : WX) (G : Gh) (H : Hp) (Q : St → Hp → Prop) : R (Rho × Mu) → Prop
  | .ok p => ∀ G' σ' H', Step G H G' H' → Rep Γ G' p.1 p.2 σ' H' → Q σ' H'
  | .ex _ _ _ => False
  | .bad => False
def tZG (Γ : Gm) (W : WX) (g : FG) : TG := fun v σ H Q => ∃ G ρ μ w, Rep Γ G ρ μ σ H ∧ VRel Γ G v w ∧ PostG Γ W G H Q (g w ρ μ)
def fgName (i : Nat) : FG := fun v ρ μ => .ok (ρ.set i v, μ)
theorem zg_name (nd : X.N.Nodup) {i : Nat} {x : Str} (hi : X.N[i]? = some x) (hx : Loc X.env.scope x) (hf : X.fn x = true ∨ X.env.scope.names.lookup x = some .local) : PG X (.Name x pos) (tZG Γ W (fgName i)) := by
  refine ⟨fun pins s σ H v u Q I r t => (pg_name nd hi hx hf).run pins s σ H v u Q I r ?_⟩
  obtain ⟨G, ρ, μ, w, R, rw', p⟩ := t
  exact p G _ H (Step.refl G H) (R.set rw')
/-- names alone, side by side -/
def setAll : List Nat → List D → Rho → Rho
  | i :: is, d :: ds, ρ => setAll is ds (ρ.set i (.d d))
  | _, _, ρ => ρ
def fgTup (is : List Nat) : FG := fun v ρ μ => match tupV v with
  | some ds => if ds.length = is.length then .ok (setAll is ds ρ, μ) else .bad
  | none => .bad
/-- the names of a tuple target, by their slots -/
inductive Nms (X : Cx) : List Expr → List Nat → Prop where
  | nil : Nms X [] []
  | cons {i : Nat} {x : Str} {p : Pos} {es : List Expr} {is : List Nat} (hi : X.N[i]? = some x) (hx : Loc X.env.scope x) (hf : X.fn x = true ∨ X.env.scope.names.lookup x = some .local) (t : Nms X es is) : Nms X (.Name x p :: es) (i :: is)
theorem Nms.each {es : List Expr} {is : List Nat} (n : Nms X es is) : (assignEach es X.env).length = is.length ∧ (assignEach es X.env).findIdx? (·.1) = none := by
  induction n with
  | nil => exact ⟨rfl, rfl⟩
  | cons hi hx hf t ih =>
    rename_i i x p es is
    have e : assignEach (Expr.Name x p :: es) X.env = (false, assign (.Name x p) X.env) :: assignEach es X.env := by rfl
    rw [e]
    exact ⟨by simp [ih.1], by rw [List.findIdx?_cons]; simp [ih.2]⟩
def gsNames : List Nat → TGs
  | [] => gNil
  | i :: is => gCons (gName i) (gsNames is)
theorem Nms.pgs (nd : X.N.Nodup) {es : List Expr} {is : List Nat} (n : Nms X es is) : PGs X es (gsNames is) := by
  induction n with
  | nil => exact pgs_nil
  | cons hi hx hf t ih => exact pgs_cons (pg_name nd hi hx hf) ih (by rfl)
theorem setAll_ok : ∀ {is : List Nat} {ds : List D} {us : List V} {G : Gh} {ρ : Rho} {μ : Mu} {σ : St} {H : Hp} {Q : St → Hp → Prop}, ds.length = is.length → Rep Γ G ρ μ σ H → IsL Γ G.F us ds →
    (∀ σ', Rep Γ G (setAll is ds ρ) μ σ' H → Q σ' H) → gsNames is us σ H Q
  | [], ds, us, G, ρ, μ, σ, H, Q, hl, R, l, q => by
    have e : ds = [] := List.length_eq_zero_iff.mp hl
    subst e
    exact ⟨l.inv0, q σ R⟩
  | i :: is, [], us, _, _, _, _, _, _, hl, _, _, _ => by simp at hl
  | i :: is, d :: ds, us, G, ρ, μ, σ, H, Q, hl, R, l, q => by
    obtain ⟨v, r, e, h1, h2⟩ := l.inv
    exact ⟨v, r, e, setAll_ok (by simpa using hl) (R.set (v := .d d) h1) h2 q⟩
theorem zg_tup (c : Cz Γ W X lv) {es : List Expr} {is : List Nat} {k : Nat} (n : Nms X es is) : PG X (.Tuple es k pos) (tZG Γ W (fgTup is)) := by
  obtain ⟨h1, h2⟩ := n.each
  refine ⟨fun pins s σ H v u Q I r t => (pg_tup c.calm (n.pgs c.nd) h1 h2).run pins s σ H v u Q I r ?_⟩
  obtain ⟨G, ρ, μ, w, R, rw', p⟩ := t
  unfold fgTup at p
  cases e : tupV w with
  | none => simp only [e] at p; exact p.elim
  | some ds =>
    simp only [e] at p
    by_cases hl : ds.length = is.length
    · rw [if_pos hl] at p
      obtain ⟨a, us, ea, hs, l⟩ := tupV_ok R.toRepM rw' e
      exact ⟨a, us, ea, by rw [c.K]; exact hs, by rw [l.length, hl], setAll_ok hl R l fun σ' R' => p G σ' H (Step.refl G H) R'⟩
    · rw [if_neg hl] at p; exact p.elim
/-- target = value -/
def fAsg (f : FE) (g : FG) : FS := fun ρ μ => (f ρ μ).bind fun p => (g p.1 ρ p.2).bind fun q => .ok (.nx, q.1, q.2)
theorem asgG_ok {t : FG} {D : Ends} {σ : St} {H : Hp} (ht : ∀ v ρ μ e r m, t v ρ μ ≠ .ex e r m) (q : tZS Γ W (fAsg f t) D σ H) : tAsg (tZ Γ W f) (tZG Γ W t) D σ H := by
  obtain ⟨G, ρ, μ, R, p⟩ := q
  refine ⟨G, ρ, μ, R, Post.bindS p fun u v μ1 G1 H1 s1 R1 r1 p1 => ⟨G1, ρ, μ1, v, R1, r1, ?_⟩⟩
  simp only at p1
  cases e : t v ρ μ1 with
  | bad => rw [e] at p1; exact p1
  | ex a b c => exact absurd e (ht _ _ _ _ _ _)
  | ok r => rw [e] at p1; exact fun G' σ' H' s R' => p1 G' σ' H' s R'
theorem fgTup_ne (is : List Nat) : ∀ v ρ μ e r m, fgTup is v ρ μ ≠ .ex e r m := by
  intro v ρ μ e r m h
  unfold fgTup at h
  split at h
  · split at h <;> cases h
  · cases h
theorem zs_unpack (c : Cz Γ W X lv) {es : List Expr} {is : List Nat} {k : Nat} {tp : Pos} (n : Nms X es is) (he : PE X e (tZ Γ W f)) (hs : swapsWithSole [.Tuple es k tp] e pos.line X.env = pure false) (hw : swappedStores [.Tuple es k tp] e X.env = pure none) :
    PS X (.Assign [.Tuple es k tp] e pos) (tZS Γ W (fAsg f (fgTup is))) :=
  PS.imp (ps_asg he (zg_tup c n) hs hw (by rfl)) fun D σ H q => asgG_ok (fgTup_ne is) q
/-- a, b = x, y (two local names) -/
def fPar (i j : Nat) (g : FA) : FS := fun ρ μ => (g ρ μ).bind fun p => match p.1 with
  | [v, w] => .ok (.nx, (ρ.set i v).set j w, p.2)
  | _ => .bad
theorem zs_par (c : Cz Γ W X lv) {i j : Nat} {x y : Str} {t : FA} {px py pt : Pos} {kt k2 pt2} (hi : X.N[i]? = some x) (hj : X.N[j]? = some y) (hij : i ≠ j)
    (hx : X.env.scope.names.lookup x = some .local) (hy : X.env.scope.names.lookup y = some .local) (ha : PA X [a, b] (tZA Γ W t))
    (hw : swappedStores [.Tuple [.Name x px, .Name y py] kt pt] (.Tuple [a, b] k2 pt2) X.env = pure (some [x, y])) :
    PS X (.Assign [.Tuple [.Name x px, .Name y py] kt pt] (.Tuple [a, b] k2 pt2) pos) (tZS Γ W (fPar i j t)) := by
  refine PS.imp (ps_par c.calm c.nd hi hj hij hx hy ha hw) fun D σ H q => ?_
  obtain ⟨G, ρ, μ, R, p⟩ := q
  refine ⟨G, ρ, μ, R, PostA.bindS p fun us vs μ1 G1 H1 s1 R1 r1 p1 => ?_⟩
  simp only at p1
  split at p1
  · cases r1 with
    | cons h1 r1 =>
      cases r1 with
      | cons h2 r1 =>
        cases r1
        exact ⟨_, _, rfl, PostS.nx ((R1.set h1).set h2) p1⟩
  · exact p1.elim
end
end Zl
set_option Elab.async false
set_option linter.all false
set_option maxRecDepth 100000
set_option maxHeartbeats 4000000
namespace Zl
open PySem PySem.Spec L2
open PyProof.Rows hiding St

/-! ## what is walked -/
structure ItOk (Γ : Gm) (J : It) (ds : List D) (F0 : Hp) : Prop where
  go : ∀ (i : Nat) F H, Same F0 F → Same F H → i < ds.length → J.go i H
  stop : ∀ (i : Nat) F H, Same F0 F → Same F H → ds.length ≤ i → J.stop i H
  yld : ∀ (i : Nat) F H x H' d, Same F0 F → Same F H → ds[i]? = some d → J.yld i H x H' → (H' = H ∧ Is Γ F x d) ∨ ∃ p o, H p = none ∧ H' = upd H p o ∧ Is Γ (upd F p o) x d
abbrev FI := Rho → Mu → R (List D × Mu)
def PostI (Γ : Gm) (W : WX) (G : Gh) (ρ : Rho) (σ : St) (H : Hp) (Q : It → Hp → Prop) : R (List D × Mu) → Prop
  | .ok p => ∀ J G' H', Step G H G' H' → Rep Γ G' ρ p.2 σ H' → ItOk Γ J p.1 G'.F → Q J H'
  | .ex e r m => ∀ cls dx G' H', Step G H G' H' → Rep Γ G' r m σ H' → ErrRel Γ G' H' cls dx e → W cls dx σ H'
  | .bad => False
def tZI (Γ : Gm) (W : WX) (f : FI) : TI := fun σ H Q => ∃ G ρ μ, Rep Γ G ρ μ σ H ∧ PostI Γ W G ρ σ H Q (f ρ μ)
section
variable {Γ : Gm} {W : WX} {X : Cx} {lv : Nat} {a b e : Expr} {f g : FE} {pos : Pos}
theorem PI.imp {X : Cx} {tg e : Expr} {t t' : TI} (h : PI X tg e t) (i : ∀ σ H Q, t' σ H Q → t σ H Q) : PI X tg e t' := ⟨fun pins s σ H Q I q => h.run pins s σ H Q I (i σ H Q q)⟩
theorem PostI.step {G G1 : Gh} {ρ : Rho} {σ : St} {H H1 : Hp} {Q : It → Hp → Prop} (s : Step G H G1 H1) : ∀ {r : R (List D × Mu)}, PostI Γ W G ρ σ H Q r → PostI Γ W G1 ρ σ H1 Q r
  | .ok p, h => fun J G' H' z => h J G' H' (s.trans z)
  | .ex e r m, h => fun c d G' H' z => h c d G' H' (s.trans z)
  | .bad, h => h
theorem Post.bindI {G : Gh} {ρ : Rho} {σ : St} {H : Hp} {Q : It → Hp → Prop} {Q1 : VK} {k : Val × Mu → R (List D × Mu)} : ∀ {r : R (Val × Mu)}, PostI Γ W G ρ σ H Q (r.bind k) →
    (∀ u v μ1 G1 H1, Step G H G1 H1 → Rep Γ G1 ρ μ1 σ H1 → VRel Γ G1 u v → PostI Γ W G1 ρ σ H1 Q (k (v, μ1)) → Q1 u H1) → Post Γ W G ρ σ H Q1 r
  | .ok p, h, f => fun u G1 H1 s R v => f u p.1 p.2 G1 H1 s R v (PostI.step s h)
  | .ex e r m, h, f => h
  | .bad, h, f => h
theorem PostA.bindI {G : Gh} {ρ : Rho} {σ : St} {H : Hp} {Q : It → Hp → Prop} {Q1 : List V → Hp → Prop} {k : List Val × Mu → R (List D × Mu)} : ∀ {r : R (List Val × Mu)}, PostI Γ W G ρ σ H Q (r.bind k) →
    (∀ u v μ1 G1 H1, Step G H G1 H1 → Rep Γ G1 ρ μ1 σ H1 → VRelL Γ G1 u v → PostI Γ W G1 ρ σ H1 Q (k (v, μ1)) → Q1 u H1) → PostA Γ W G ρ σ H Q1 r
  | .ok p, h, f => fun u G1 H1 s R v => f u p.1 p.2 G1 H1 s R v (PostI.step s h)
  | .ex e r m, h, f => h
  | .bad, h, f => h
theorem PostI.here {G : Gh} {ρ : Rho} {μ : Mu} {σ : St} {H : Hp} {Q : It → Hp → Prop} {ds : List D} {J : It} (R : Rep Γ G ρ μ σ H) (h : PostI Γ W G ρ σ H Q (.ok (ds, μ))) (j : ItOk Γ J ds G.F) : Q J H := h J G H (Step.refl G H) R j


/-- J's ways for a list at a whose items are us -/
theorem itl_ok {F : Hp} {al : Addr} {us : List V} {ds : List D} (h : F al = some (.lst us)) (l : IsL Γ F us ds) : ItOk Γ (Itl Γ.K al) ds F := by
  refine ⟨fun i F' H s s' hi => ?_, fun i F' H s s' hi => ⟨us, SqL.of (s' _ _ (s _ _ h)), by rw [l.length]; exact hi⟩, fun i F' H x H' d s s' hd y => .inl ?_⟩
  · have hi' : i < us.length := by rw [l.length]; exact hi
    exact ⟨us, us[i], SqL.of (s' _ _ (s _ _ h)), List.getElem?_eq_getElem hi'⟩
  · obtain ⟨e, y⟩ := y
    obtain ⟨v, hv, iv⟩ := l.get hd
    have q := y us (SqL.of (s' _ _ (s _ _ h)))
    rw [hv] at q
    cases q
    exact ⟨e, Is.mono s _ _ iv⟩
theorem itt_ok {F : Hp} {al : Addr} {us : List V} {ds : List D} (h : SqT Γ.K F al us) (l : IsL Γ F us ds) : ItOk Γ (Itt Γ.K al) ds F := by
  refine ⟨fun i F' H s s' hi => ?_, fun i F' H s s' hi => ⟨us, Same.seqT s' (Same.seqT s h), by rw [l.length]; exact hi⟩, fun i F' H x H' d s s' hd y => .inl ?_⟩
  · have hi' : i < us.length := by rw [l.length]; exact hi
    exact ⟨us, us[i], Same.seqT s' (Same.seqT s h), List.getElem?_eq_getElem hi'⟩
  · obtain ⟨e, y⟩ := y
    obtain ⟨v, hv, iv⟩ := l.get hd
    have q := y us (Same.seqT s' (Same.seqT s h))
    rw [hv] at q
    cases q
    exact ⟨e, Is.mono s _ _ iv⟩
/-- a list, a list of the script, a tuple: by the static choice -/
def fiList (f : FE) : FI := fun ρ μ => (f ρ μ).bind fun p => match p.1 with
  | .d (.lst ds) => .ok (ds, p.2)
  | .d (.scr ns) => .ok (ns.map D.int, p.2)
  | _ => .bad
def fiTup (f : FE) : FI := fun ρ μ => (f ρ μ).bind fun p => match tupV p.1 with
  | some ds => .ok (ds, p.2)
  | none => .bad
theorem is_ints {F : Hp} : ∀ ns : List Int, IsL Γ F (ns.map V.int) (ns.map D.int)
  | [] => IsL.nil
  | n :: ns => IsL.cons (by unfold Is; rfl) (is_ints ns)
theorem scr_ok {F : Hp} {al : Addr} {ns : List Int} (h : SqL Γ.K F al (ns.map V.int)) : ItOk Γ (Itl Γ.K al) (ns.map D.int) F := by
  refine ⟨fun i F' H s s' hi => ?_, fun i F' H s s' hi => ⟨_, s'.seq (s.seq h), by simpa using hi⟩, fun i F' H x H' d s s' hd y => .inl ?_⟩
  · have hi' : i < (ns.map V.int).length := by simpa using hi
    exact ⟨_, (ns.map V.int)[i], s'.seq (s.seq h), List.getElem?_eq_getElem hi'⟩
  · obtain ⟨e, y⟩ := y
    obtain ⟨v, hv, iv⟩ := (is_ints (Γ := Γ) (F := F') ns).get hd
    have q := y _ (s'.seq (s.seq h))
    rw [hv] at q
    cases q
    exact ⟨e, iv⟩
theorem zi_list {tg : Expr} (c : Cz Γ W X lv) (he : PE X e (tZ Γ W f)) : PI X tg e (tZI Γ W (fiList f)) := by
  refine PI.imp (pi_list he) fun σ H Q t => ?_
  obtain ⟨G, ρ, μ, R, p⟩ := t
  refine ⟨G, ρ, μ, R, Post.bindI p fun u v μ1 G1 H1 s1 R1 r1 p1 => ?_⟩
  simp only at p1
  rw [c.K]
  split at p1
  · have r : Is Γ G1.F u _ := r1
    unfold Is at r
    obtain ⟨a, us, ea, h, l⟩ := r
    exact ⟨a, ea, ⟨us, SqL.of (R1.sub _ _ h)⟩, PostI.here R1 p1 (itl_ok h l)⟩
  · have r : Is Γ G1.F u _ := r1
    unfold Is at r
    obtain ⟨a, ea, h⟩ := r
    exact ⟨a, ea, ⟨_, R1.sub.seq h⟩, PostI.here R1 p1 (scr_ok h)⟩
  · exact p1.elim
theorem zi_tup {tg : Expr} (c : Cz Γ W X lv) (he : PE X e (tZ Γ W f)) : PI X tg e (tZI Γ W (fiTup f)) := by
  refine PI.imp (pi_tup he) fun σ H Q t => ?_
  obtain ⟨G, ρ, μ, R, p⟩ := t
  refine ⟨G, ρ, μ, R, Post.bindI p fun u v μ1 G1 H1 s1 R1 r1 p1 => ?_⟩
  simp only at p1
  rw [c.K]
  split at p1
  · rename_i ds ed
    have key : ∃ a us, u = .ref a ∧ SqT Γ.K G1.F a us ∧ IsL Γ G1.F us ds := by
      cases v with
      | d x =>
        have r : Is Γ G1.F u _ := r1
        cases x with
        | tup es => cases ed; unfold Is at r; obtain ⟨a, us, ea, h, l⟩ := r; exact ⟨a, us, ea, SqT.of h, l⟩
        | kt es => cases ed; unfold Is at r; exact r
        | _ => cases ed
      | own k => cases ed
    obtain ⟨a, us, ea, h, l⟩ := key
    exact ⟨a, ea, ⟨us, Same.seqT R1.sub h⟩, PostI.here R1 p1 (itt_ok h l)⟩
  · exact p1.elim
/-- range(n), range(a, b) -/
def rngD (lo : Int) (n : Nat) : List D := (List.range n).map fun (i : Nat) => D.int (lo + i)
theorem rng_ok {F : Hp} (lo : Int) (n : Nat) : ItOk Γ (Itr lo n) (rngD lo n) F := by
  refine ⟨fun i F' H s s' hi => show i < n by simpa [rngD] using hi, fun i F' H s s' hi => show n ≤ i by simpa [rngD] using hi, fun i F' H x H' d s s' hd y => .inl ?_⟩
  obtain ⟨e, y⟩ := y
  refine ⟨e, ?_⟩
  rw [y]
  unfold rngD at hd
  rw [List.getElem?_map] at hd
  cases q : (List.range n)[i]? with
  | none => rw [q] at hd; cases hd
  | some j =>
    rw [q] at hd
    cases hd
    have hj : i = j := by
      have h1 := (List.getElem?_eq_some_iff.mp q)
      obtain ⟨h1, h2⟩ := h1
      simpa using h2
    subst hj
    unfold Is; rfl
def fiRng1 (g : FA) : FI := fun ρ μ => (g ρ μ).bind fun p => match p.1 with
  | [.d (.int j)] => if -(2 ^ 62) ≤ j ∧ j < 2 ^ 62 then .ok (rngD 0 j.toNat, p.2) else .bad
  | _ => .bad
def fiRng2 (g : FA) : FI := fun ρ μ => (g ρ μ).bind fun p => match p.1 with
  | [.d (.int i), .d (.int j)] => if -(2 ^ 62) ≤ i ∧ i < 2 ^ 62 ∧ -(2 ^ 62) ≤ j ∧ j < 2 ^ 62 then .ok (rngD i (j - i).toNat, p.2) else .bad
  | _ => .bad
theorem zi_rng1 {tg : Expr} {t : FA} {p : Pos} (hg : Gl X "range") (hm : X.mg "range" = none) (ha : PA X [a] (tZA Γ W t)) (hs : starEach [a] X.env = [(false, eval a X.env)]) : PI X tg (.Call (.Name "range" p) [a] [] pos) (tZI Γ W (fiRng1 t)) := by
  refine PI.imp (pi_range1 hg hm ha hs) fun σ H Q q => ?_
  obtain ⟨G, ρ, μ, R, p⟩ := q
  refine ⟨G, ρ, μ, R, PostA.bindI p fun us vs μ1 G1 H1 s1 R1 r1 p1 => ?_⟩
  simp only at p1
  split at p1
  · split at p1
    · rename_i hz
      cases r1 with
      | cons h1 r1 =>
        cases r1
        exact ⟨_, by rw [h1.int_], hz.1, hz.2, PostI.here R1 p1 (rng_ok 0 _)⟩
    · exact p1.elim
  · exact p1.elim
theorem zi_rng2 {tg : Expr} {t : FA} {p : Pos} (hg : Gl X "range") (hm : X.mg "range" = none) (ha : PA X [a, b] (tZA Γ W t)) (hs : starEach [a, b] X.env = [(false, eval a X.env), (false, eval b X.env)]) (hs2 : starEach [b] X.env = [(false, eval b X.env)]) : PI X tg (.Call (.Name "range" p) [a, b] [] pos) (tZI Γ W (fiRng2 t)) := by
  refine PI.imp (pi_range2 hg hm ha hs hs2) fun σ H Q q => ?_
  obtain ⟨G, ρ, μ, R, p⟩ := q
  refine ⟨G, ρ, μ, R, PostA.bindI p fun us vs μ1 G1 H1 s1 R1 r1 p1 => ?_⟩
  simp only at p1
  split at p1
  · split at p1
    · rename_i hz
      cases r1 with
      | cons h1 r1 =>
        cases r1 with
        | cons h2 r1 =>
          cases r1
          exact ⟨_, _, by rw [h1.int_, h2.int_], hz, PostI.here R1 p1 (rng_ok _ _)⟩
    · exact p1.elim
  · exact p1.elim
/-- the signs of a text -/
def signsD (z : Str) : List D := z.cps.toList.map fun c => D.str ⟨#[c]⟩
def fiStr (f : FE) : FI := fun ρ μ => (f ρ μ).bind fun p => match p.1 with
  | .d (.str z) => .ok (signsD z, p.2)
  | _ => .bad
theorem zi_str {tg : Expr} (he : PE X e (tZ Γ W f)) : PI X tg e (tZI Γ W (fiStr f)) := by
  refine PI.imp (pi_str he) fun σ H Q t => ?_
  obtain ⟨G, ρ, μ, R, p⟩ := t
  refine ⟨G, ρ, μ, R, Post.bindI p fun u v μ1 G1 H1 s1 R1 r1 p1 => ?_⟩
  simp only at p1
  split at p1
  · rename_i z
    refine ⟨z, r1.str_, PostI.here R1 p1 ⟨fun i F H s s' hi => show i < z.cps.size by simpa [signsD] using hi, fun i F H s s' hi => show z.cps.size ≤ i by simpa [signsD] using hi, fun i F H x H' d s s' hd y => .inl ?_⟩⟩
    obtain ⟨e, c, hc, ex⟩ := y
    refine ⟨e, ?_⟩
    have hd' : (z.cps.toList.map fun c => D.str ⟨#[c]⟩)[i]? = some d := hd
    rw [List.getElem?_map, Array.getElem?_toList, hc] at hd'
    cases hd'
    rw [ex]
    unfold Is; rfl
  · exact p1.elim
/-- enumerate(a list) -/
def enumD (k : Nat) : List D → List D
  | [] => []
  | d :: ds => .tup [.int (k : Int), d] :: enumD (k + 1) ds
theorem enumD_length : ∀ (ds : List D) (k : Nat), (enumD k ds).length = ds.length
  | [], _ => rfl
  | _ :: ds, k => by rw [enumD, List.length_cons, List.length_cons, enumD_length ds]
theorem enumD_get : ∀ (ds : List D) (k i : Nat), (enumD k ds)[i]? = (ds[i]?).map fun d => D.tup [.int ((k + i : Nat) : Int), d]
  | [], _, _ => by simp [enumD]
  | d :: ds, k, 0 => by simp [enumD]
  | d :: ds, k, i + 1 => by
    rw [enumD, List.getElem?_cons_succ, List.getElem?_cons_succ, enumD_get ds (k + 1) i]
    have e : k + 1 + i = k + (i + 1) := by omega
    rw [e]
def fiEnum (g : FA) : FI := fun ρ μ => (g ρ μ).bind fun p => match p.1 with
  | [.d (.lst ds)] => .ok (enumD 0 ds, p.2)
  | _ => .bad
theorem ite_ok {F : Hp} {al : Addr} {us : List V} {ds : List D} (h : F al = some (.lst us)) (l : IsL Γ F us ds) : ItOk Γ (Ite Γ.K al) (enumD 0 ds) F := by
  refine ⟨fun i F' H s s' hi => ?_, fun i F' H s s' hi => ⟨us, SqL.of (s' _ _ (s _ _ h)), by rw [l.length]; rw [enumD_length] at hi; exact hi⟩, fun i F' H x H' d s s' hd y => .inr ?_⟩
  · rw [enumD_length] at hi
    have hi' : i < us.length := by rw [l.length]; exact hi
    exact ⟨us, us[i], SqL.of (s' _ _ (s _ _ h)), List.getElem?_eq_getElem hi'⟩
  · obtain ⟨T, z, ex, hT, eH, y⟩ := y
    rw [enumD_get] at hd
    cases q : ds[i]? with
    | none => rw [q] at hd; cases hd
    | some d0 =>
      rw [q] at hd
      cases hd
      obtain ⟨v, hv, iv⟩ := l.get q
      have w := y us (SqL.of (s' _ _ (s _ _ h)))
      rw [hv] at w
      cases w
      refine ⟨T, _, hT, eH, ?_⟩
      have nF : F' T = none := by
        cases e : F' T with
        | none => rfl
        | some o => rw [s' T o e] at hT; cases hT
      unfold Is
      exact ⟨T, _, ex, upd_same, IsL.cons (by unfold Is; simp) (IsL.cons (Is.mono (same_upd nF) _ _ (Is.mono s _ _ iv)) IsL.nil)⟩
theorem zi_enum {es : List Expr} {kk : Nat} {tp p : Pos} {t : FA} (c : Cz Γ W X lv) (hg : Gl X "enumerate") (hm : X.mg "enumerate" = none) (ha : PA X [a] (tZA Γ W t)) (hs : starEach [a] X.env = [(false, eval a X.env)]) :
    PI X (.Tuple es kk tp) (.Call (.Name "enumerate" p) [a] [] pos) (tZI Γ W (fiEnum t)) := by
  refine PI.imp (pi_enum hg hm ha hs) fun σ H Q q => ?_
  obtain ⟨G, ρ, μ, R, p⟩ := q
  refine ⟨G, ρ, μ, R, PostA.bindI p fun us vs μ1 G1 H1 s1 R1 r1 p1 => ?_⟩
  simp only at p1
  split at p1
  · cases r1 with
    | cons h1 r1 =>
      cases r1
      have r : Is Γ G1.F _ _ := h1
      unfold Is at r
      obtain ⟨al, us, ea, h, l⟩ := r
      exact ⟨al, us, by rw [ea], SqL.of (R1.sub _ _ h), by rw [c.K]; exact PostI.here R1 p1 (ite_ok h l)⟩
  · exact p1.elim
/-- zip of two lists -/
def zipD : List D → List D → List D
  | d :: ds, e :: es => .tup [d, e] :: zipD ds es
  | _, _ => []
theorem zipD_length : ∀ (ds es : List D), (zipD ds es).length = min ds.length es.length
  | [], es => by simp [zipD]
  | _ :: _, [] => by simp [zipD]
  | d :: ds, e :: es => by rw [zipD, List.length_cons, zipD_length ds es, List.length_cons, List.length_cons]; omega
theorem zipD_get : ∀ (ds es : List D) (i : Nat) (x : D), (zipD ds es)[i]? = some x → ∃ d e, ds[i]? = some d ∧ es[i]? = some e ∧ x = .tup [d, e]
  | [], _, _, _, h => by simp [zipD] at h
  | _ :: _, [], _, _, h => by simp [zipD] at h
  | d :: ds, e :: es, 0, x, h => by simp [zipD] at h; exact ⟨d, e, rfl, rfl, h.symm⟩
  | d :: ds, e :: es, i + 1, x, h => by
    rw [zipD, List.getElem?_cons_succ] at h
    obtain ⟨d', e', h1, h2, h3⟩ := zipD_get ds es i x h
    exact ⟨d', e', by simpa using h1, by simpa using h2, h3⟩
def fiZip (g : FA) : FI := fun ρ μ => (g ρ μ).bind fun p => match p.1 with
  | [.d (.lst ds), .d (.lst es)] => .ok (zipD ds es, p.2)
  | _ => .bad
theorem itz_ok {F : Hp} {al bl : Addr} {us ws : List V} {ds es : List D} (h : F al = some (.lst us)) (l : IsL Γ F us ds) (h' : F bl = some (.lst ws)) (l' : IsL Γ F ws es) : ItOk Γ (Itz Γ.K al bl) (zipD ds es) F := by
  refine ⟨fun i F' H s s' hi => ?_, fun i F' H s s' hi => ⟨us, ws, SqL.of (s' _ _ (s _ _ h)), SqL.of (s' _ _ (s _ _ h')), by rw [l.length, l'.length]; rw [zipD_length] at hi; omega⟩, fun i F' H x H' d s s' hd y => .inr ?_⟩
  · rw [zipD_length] at hi
    have hi' : i < us.length := by rw [l.length]; omega
    have hi2 : i < ws.length := by rw [l'.length]; omega
    exact ⟨us, ws, us[i], ws[i], SqL.of (s' _ _ (s _ _ h)), SqL.of (s' _ _ (s _ _ h')), List.getElem?_eq_getElem hi', List.getElem?_eq_getElem hi2⟩
  · obtain ⟨T, z, z', ex, hT, eH, y, y'⟩ := y
    obtain ⟨d1, e1, q1, q2, ed⟩ := zipD_get ds es i d hd
    obtain ⟨v, hv, iv⟩ := l.get q1
    obtain ⟨v', hv', iv'⟩ := l'.get q2
    have w := y us (SqL.of (s' _ _ (s _ _ h)))
    have w' := y' ws (SqL.of (s' _ _ (s _ _ h')))
    rw [hv] at w
    rw [hv'] at w'
    cases w
    cases w'
    refine ⟨T, _, hT, eH, ?_⟩
    have nF : F' T = none := by
      cases e : F' T with
      | none => rfl
      | some o => rw [s' T o e] at hT; cases hT
    rw [ed]
    unfold Is
    exact ⟨T, _, ex, upd_same, IsL.cons (Is.mono (same_upd nF) _ _ (Is.mono s _ _ iv)) (IsL.cons (Is.mono (same_upd nF) _ _ (Is.mono s _ _ iv')) IsL.nil)⟩
theorem zi_zip {es : List Expr} {kk : Nat} {tp p : Pos} {t : FA} (c : Cz Γ W X lv) (hg : Gl X "zip") (hm : X.mg "zip" = none) (ha : PA X [a, b] (tZA Γ W t))
    (hs : starEach [a, b] X.env = (false, eval a X.env) :: starEach [b] X.env) (hpl : (backTo pos (starEach [b] X.env)).any (·.1) = false) :
    PI X (.Tuple es kk tp) (.Call (.Name "zip" p) [a, b] [] pos) (tZI Γ W (fiZip t)) := by
  refine PI.imp (pi_zip hg hm ha hs hpl) fun σ H Q q => ?_
  obtain ⟨G, ρ, μ, R, p⟩ := q
  refine ⟨G, ρ, μ, R, PostA.bindI p fun us vs μ1 G1 H1 s1 R1 r1 p1 => ?_⟩
  simp only at p1
  split at p1
  · cases r1 with
    | cons h1 r1 =>
      cases r1 with
      | cons h2 r1 =>
        cases r1
        have r : Is Γ G1.F _ _ := h1
        unfold Is at r
        obtain ⟨al, us, ea, h, l⟩ := r
        have r' : Is Γ G1.F _ _ := h2
        unfold Is at r'
        obtain ⟨bl, ws, eb, h', l'⟩ := r'
        exact ⟨al, bl, us, ws, by rw [ea, eb], SqL.of (R1.sub _ _ h), SqL.of (R1.sub _ _ h'), by rw [c.K]; exact PostI.here R1 p1 (itz_ok h l h' l')⟩
  · exact p1.elim

/-! ## for, while -/
def fFor (g : FG) (body : FS) : List D → Rho → Mu → R (Fl × Rho × Mu)
  | [], ρ, μ => .ok (.nx, ρ, μ)
  | d :: ds, ρ, μ => (g (.d d) ρ μ).bind fun q => (body q.1 q.2).bind fun p => match p.1 with
    | .nx => fFor g body ds p.2.1 p.2.2
    | .ct => fFor g body ds p.2.1 p.2.2
    | .bk => .ok (.nx, p.2.1, p.2.2)
    | .rt v => .ok (.rt v, p.2.1, p.2.2)
def fForS (it : FI) (g : FG) (body : FS) : FS := fun ρ μ => (it ρ μ).bind fun p => fFor g body p.1 ρ p.2
theorem postI_bindS {G : Gh} {ρ : Rho} {σ : St} {H : Hp} {D' : Ends} {Q1 : It → Hp → Prop} {k : List D × Mu → R (Fl × Rho × Mu)} : ∀ {r : R (List D × Mu)}, PostS Γ W G H D' (r.bind k) →
    (∀ J ds μ1 G1 H1, Step G H G1 H1 → Rep Γ G1 ρ μ1 σ H1 → ItOk Γ J ds G1.F → PostS Γ W G1 H1 D' (k (ds, μ1)) → Q1 J H1) → PostI Γ W G ρ σ H Q1 r
  | .ok p, h, f => fun J G1 H1 s R j => f J p.1 p.2 G1 H1 s R j (PostS.step s h)
  | .ex e r m, h, f => fun c d G' H' z R => h c d G' σ H' z R
  | .bad, h, f => h
theorem zs_for {it : FI} {gt : FG} {s : FS} {tg iter : Expr} {body : List Stmt} (hgt : ∀ v ρ μ e r m, gt v ρ μ ≠ .ex e r m) (c : Cz Γ W X lv) (po : PassesOwn (model X.prog X.w) X.A X.env X.xe) (hi : PI X tg iter (tZI Γ W it)) (hg : PG X tg (tZG Γ W gt)) (hb : PSs X body (tZS Γ W s))
    (hs : ∀ x, foldedSetIterable iter X.env x = pure x) : PS X (.For tg iter body [] pos) (tZS Γ W (fForS it gt s)) := by
  refine PS.imp (ps_for po c.calm hi hg hb hs) fun D' σ H q => ?_
  obtain ⟨G, ρ, μ, R, p⟩ := q
  refine ⟨G, ρ, μ, R, postI_bindS p fun J ds μ1 G1 H1 s1 R1 j p1 => ?_⟩
  refine ⟨fun i m σ H => m = ds.length - i ∧ i ≤ ds.length ∧ ∃ G ρ μ, Rep Γ G ρ μ σ H ∧ Same G1.F G.F ∧ PostS Γ W G H D' (fFor gt s (ds.drop i) ρ μ), ⟨ds.length, by simp, Nat.zero_le _, G1, ρ, μ1, R1, fun _ _ h => h, by simpa using p1⟩, ?_⟩
  rintro i m σ2 H2 ⟨rfl, hi2, G2, ρ2, μ2, R2, sF, p2⟩
  by_cases hlt : i < ds.length
  · refine .inr ⟨j.go i G2.F H2 sF R2.sub hlt, fun σ' H' => ∃ G ρ μ, Rep Γ G ρ μ σ' H' ∧ Same G1.F G.F ∧ PostS Γ W G H' D' (fFor gt s (ds.drop (i + 1)) ρ μ), fun σ' H' n => ⟨ds.length - (i + 1), by omega, rfl, hlt, n⟩, fun x H3 y => ?_⟩
    have hdrop : ds.drop i = ds[i] :: ds.drop (i + 1) := List.drop_eq_getElem_cons hlt
    have hget : ds[i]? = some ds[i] := List.getElem?_eq_getElem hlt
    rw [hdrop] at p2
    have key : ∃ G3, Step G2 H2 G3 H3 ∧ Rep Γ G3 ρ2 μ2 σ2 H3 ∧ Is Γ G3.F x ds[i] := by
      rcases j.yld i G2.F H2 x H3 _ sF R2.sub hget y with ⟨e, h⟩ | ⟨p, o, hp, e, h⟩
      · subst e; exact ⟨G2, Step.refl _ _, R2, h⟩
      · subst e
        have st := R2.toRepM.stepFz (o := o) hp
        exact ⟨_, st, R2.go st (R2.toRepM.fzNew hp), h⟩
    obtain ⟨G3, st3, R3, hx⟩ := key
    have p3 := PostS.step st3 p2
    have p3 : PostS Γ W G3 H3 D' ((gt (.d ds[i]) ρ2 μ2).bind fun q => (s q.1 q.2).bind fun p => match p.1 with
      | .nx => fFor gt s (ds.drop (i + 1)) p.2.1 p.2.2
      | .ct => fFor gt s (ds.drop (i + 1)) p.2.1 p.2.2
      | .bk => .ok (.nx, p.2.1, p.2.2)
      | .rt v => .ok (.rt v, p.2.1, p.2.2)) := p3
    refine ⟨G3, ρ2, μ2, .d ds[i], R3, hx, ?_⟩
    cases eg : gt (.d ds[i]) ρ2 μ2 with
    | bad => rw [eg] at p3; exact p3
    | ex a b c => exact absurd eg (hgt _ _ _ _ _ _)
    | ok q =>
      rw [eg, Zl.R.bind_ok] at p3
      intro G4 σ4 H4 st4 R4
      refine ⟨G4, q.1, q.2, R4, ?_⟩
      have p4 := PostS.step st4 p3
      cases es : s q.1 q.2 with
      | bad => rw [es] at p4; exact p4
      | ex a b c => rw [es] at p4; exact p4
      | ok r =>
        rw [es, Zl.R.bind_ok] at p4
        intro G5 σ5 H5 st5 R5
        have sF5 : Same G1.F G5.F := fun a o h => st5.fz a o (st4.fz a o (st3.fz a o (sF a o h)))
        obtain ⟨fl, ρ5, μ5⟩ := r
        have p5 := PostS.step st5 p4
        cases fl with
        | nx => exact ⟨G5, ρ5, μ5, R5, sF5, p5⟩
        | ct => exact ⟨G5, ρ5, μ5, R5, sF5, p5⟩
        | bk => exact PostS.nx (W := W) R5 (show PostS Γ W G5 H5 D' (.ok (.nx, ρ5, μ5)) from p5)
        | rt v => exact fun u r => PostS.rt (W := W) R5 (show PostS Γ W G5 H5 D' (.ok (.rt v, ρ5, μ5)) from p5) r
  · have e : i = ds.length := by omega
    subst e
    rw [List.drop_length] at p2
    exact .inl ⟨j.stop _ G2.F H2 sF R2.sub (Nat.le_refl _), PostS.nx R2 p2⟩
def fWh (c : FT) (body : FS) : Nat → Rho → Mu → R (Fl × Rho × Mu)
  | 0, _, _ => .bad
  | n + 1, ρ, μ => (c ρ μ).bind fun q => if q.1 = true then (body ρ q.2).bind fun p => (match p.1 with
    | .nx => fWh c body n p.2.1 p.2.2
    | .ct => fWh c body n p.2.1 p.2.2
    | .bk => .ok (.nx, p.2.1, p.2.2)
    | .rt v => .ok (.rt v, p.2.1, p.2.2)) else .ok (.nx, ρ, q.2)
theorem zs_while {t : FT} {s : FS} {n : Nat} {body : List Stmt} (po : PassesOwn (model X.prog X.w) X.A X.env X.xe) (hc : PT X e (tZT Γ W t)) (hb : PSs X body (tZS Γ W s)) : PS X (.While e body [] pos) (tZS Γ W (fWh t s n)) := by
  refine PS.imp (ps_while po hc hb) fun D' σ H q => ?_
  obtain ⟨G, ρ, μ, R, p⟩ := q
  refine ⟨fun m σ H => ∃ G ρ μ, Rep Γ G ρ μ σ H ∧ PostS Γ W G H D' (fWh t s m ρ μ), ⟨n, G, ρ, μ, R, p⟩, ?_⟩
  rintro m σ2 H2 ⟨G2, ρ2, μ2, R2, p2⟩
  cases m with
  | zero => exact p2.elim
  | succ m =>
    refine ⟨G2, ρ2, μ2, R2, PostT.bindS p2 fun k μ3 G3 H3 st3 R3 p3 => ?_⟩
    cases k with
    | false =>
      rw [if_neg Bool.false_ne_true]
      rw [if_neg Bool.false_ne_true] at p3
      exact PostS.nx R3 p3
    | true =>
      rw [if_pos rfl]
      rw [if_pos rfl] at p3
      refine ⟨fun σ' H' => ∃ G ρ μ, Rep Γ G ρ μ σ' H' ∧ PostS Γ W G H' D' (fWh t s m ρ μ), fun σ' H' n => ⟨m, Nat.lt_succ_self _, n⟩, G3, ρ2, μ3, R3, ?_⟩
      simp only at p3
      cases es : s ρ2 μ3 with
      | bad => rw [es] at p3; exact p3
      | ex a b c => rw [es] at p3; exact p3
      | ok r =>
        rw [es, Zl.R.bind_ok] at p3
        intro G5 σ5 H5 st5 R5
        obtain ⟨fl, ρ5, μ5⟩ := r
        have p5 := PostS.step st5 p3
        cases fl with
        | nx => exact ⟨G5, ρ5, μ5, R5, p5⟩
        | ct => exact ⟨G5, ρ5, μ5, R5, p5⟩
        | bk => exact PostS.nx (W := W) R5 (show PostS Γ W G5 H5 D' (.ok (.nx, ρ5, μ5)) from p5)
        | rt v => exact fun u r => PostS.rt (W := W) R5 (show PostS Γ W G5 H5 D' (.ok (.rt v, ρ5, μ5)) from p5) r
end
end Zl
set_option Elab.async false
set_option linter.all false
set_option maxRecDepth 100000
set_option maxHeartbeats 4000000
namespace Zl
open PySem PySem.Spec L2
open PyProof.Rows hiding St

def R.noex {a : Type} : R a → R a
  | .ok x => .ok x
  | _ => .bad
@[simp] theorem R.noex_ok {a : Type} (x : a) : (R.ok x).noex = .ok x := rfl
@[simp] theorem R.noex_bad {a : Type} : (R.bad : R a).noex = .bad := rfl
@[simp] theorem R.noex_ex {a : Type} (e : Err) (r : Rho) (m : Mu) : (R.ex e r m : R a).noex = .bad := rfl

def wipeS (s : List (Option Val)) : List Nat → List (Option Val)
  | [] => s
  | v :: vs => (wipeS s vs).set v none
def Rho.wipe (ρ : Rho) (vs : List Nat) : Rho := ⟨ρ.n0, wipeS ρ.s vs⟩
section
variable {Γ : Gm} {W : WX} {X : Cx} {lv : Nat}
theorem wipeS_some {s : List (Option Val)} {i : Nat} {x : Val} : ∀ {vs : List Nat}, (wipeS s vs)[i]? = some (some x) → s[i]? = some (some x) ∧ i ∉ vs
  | [], h => ⟨h, by simp⟩
  | v :: vs, h => by
    unfold wipeS at h
    by_cases hi : v = i
    · subst hi
      by_cases hv : v < (wipeS s vs).length
      · rw [List.getElem?_set_self hv] at h; cases h
      · rw [List.getElem?_eq_none (by simpa using hv)] at h; cases h
    · rw [List.getElem?_set_ne hi] at h
      obtain ⟨h1, h2⟩ := wipeS_some h
      exact ⟨h1, by simp only [List.mem_cons, not_or]; exact ⟨fun e => hi e.symm, h2⟩⟩
theorem wipeS_length (s : List (Option Val)) : ∀ vs : List Nat, (wipeS s vs).length = s.length
  | [] => rfl
  | v :: vs => by unfold wipeS; rw [List.length_set, wipeS_length s vs]
theorem wipe_off {σ : St} {i : Nat} : ∀ {vs : List Nat}, i ∉ vs → (wipe σ vs)[i]? = σ[i]?
  | [], _ => rfl
  | v :: vs, h => by
    simp only [List.mem_cons, not_or] at h
    unfold wipe
    rw [List.getElem?_set_ne (fun e => h.1 e.symm)]
    exact wipe_off h.2
theorem wipe_on {σ : St} {i : Nat} : ∀ {vs : List Nat}, i ∈ vs → (wipe σ vs)[i]? = if i < σ.length then some none else none
  | [], h => by cases h
  | v :: vs, h => by
    unfold wipe
    by_cases e : v = i
    · subst e
      by_cases hv : v < σ.length
      · rw [if_pos hv, List.getElem?_set_self (by rw [wipe_length]; exact hv)]
      · rw [if_neg hv, List.getElem?_eq_none (by rw [List.length_set, wipe_length]; omega)]
    · rw [List.getElem?_set_ne e]
      rcases List.mem_cons.mp h with z | z
      · exact absurd z.symm e
      · exact wipe_on z
theorem wipe_set {σ : St} {i : Nat} {o : Option V} {vs : List Nat} (h : i ∈ vs) : wipe (σ.set i o) vs = wipe σ vs := by
  refine List.ext_getElem? fun j => ?_
  by_cases hj : j ∈ vs
  · rw [wipe_on hj, wipe_on hj, List.length_set]
  · rw [wipe_off hj, wipe_off hj, List.getElem?_set_ne (fun e => hj (by rw [← e]; exact h))]
theorem wipe_wipe {σ : St} {vs : List Nat} : wipe (wipe σ vs) vs = wipe σ vs := by
  refine List.ext_getElem? fun j => ?_
  by_cases hj : j ∈ vs
  · rw [wipe_on hj, wipe_on hj, wipe_length]
  · rw [wipe_off hj]
theorem VRel.lvn {G : Gh} {p : Addr} {u : V} : ∀ {v : Val}, VRel Γ G u v → VRel Γ (G.lvn p) u v
  | .d x, h => h
  | .own k, h => by
    obtain ⟨a, e, z⟩ := h
    exact ⟨a, by show (G.al ++ [p])[k]? = _; rw [List.getElem?_append_left (List.getElem?_eq_some_iff.mp e).1]; exact e, z⟩
theorem Rep.wipe {G : Gh} {ρ : Rho} {μ : Mu} {σ : St} {H : Hp} (R : Rep Γ G ρ μ σ H) (vs : List Nat) : Rep Γ G (ρ.wipe vs) μ (L2.wipe σ vs) H := by
  refine ⟨R.toRepM, fun i v e => ?_, ?_, R.n0, R.top⟩
  · obtain ⟨h1, h2⟩ := wipeS_some (vs := vs) e
    obtain ⟨u, a, b⟩ := R.slots i v h1
    exact ⟨u, by rw [wipe_off h2]; exact a, b⟩
  · show (wipeS ρ.s vs).length = _
    rw [wipeS_length, wipe_length]; exact R.rl

/-- a comprehension's target -/
def TgOk (Γ : Gm) (vs : List Nat) (g : TG) (t : FG) : Prop := ∀ (G : Gh) (ρ : Rho) (μ : Mu) (σ : St) (H : Hp) (x : V) (d : D) (q : Rho × Mu) (Q : St → Hp → Prop), Rep Γ G ρ μ σ H → Is Γ G.F x d → t (.d d) ρ μ = .ok q →
  (∀ σ', Rep Γ G q.1 q.2 σ' H → wipe σ' vs = wipe σ vs → Q σ' H) → g x σ H Q
theorem tg_name {vs : List Nat} {i : Nat} (h : i ∈ vs) : TgOk Γ vs (gName i) (fgName i) := by
  intro G ρ μ σ H x d q Q R r e k
  cases e
  exact k _ (R.set (v := .d d) r) (wipe_set h)
theorem setAll_wipe : ∀ {is vs : List Nat} {ds : List D} {us : List V} {G : Gh} {ρ : Rho} {μ : Mu} {σ : St} {H : Hp} {Q : St → Hp → Prop}, (∀ i ∈ is, i ∈ vs) → ds.length = is.length → Rep Γ G ρ μ σ H → IsL Γ G.F us ds →
    (∀ σ', Rep Γ G (setAll is ds ρ) μ σ' H → wipe σ' vs = wipe σ vs → Q σ' H) → gsNames is us σ H Q
  | [], vs, ds, us, G, ρ, μ, σ, H, Q, hv, hl, R, l, q => by
    have e : ds = [] := List.length_eq_zero_iff.mp hl
    subst e
    exact ⟨l.inv0, q σ R rfl⟩
  | i :: is, _, [], us, _, _, _, _, _, _, _, hl, _, _, _ => by simp at hl
  | i :: is, vs, d :: ds, us, G, ρ, μ, σ, H, Q, hv, hl, R, l, q => by
    obtain ⟨v, r, e, h1, h2⟩ := l.inv
    exact ⟨v, r, e, setAll_wipe (fun j hj => hv j (List.mem_cons_of_mem _ hj)) (by simpa using hl) (R.set (v := .d d) h1) h2 fun σ' R' w => q σ' R' (w.trans (wipe_set (hv i List.mem_cons_self)))⟩
theorem tg_tup {vs is : List Nat} (h : ∀ i ∈ is, i ∈ vs) : TgOk Γ vs (gTup Γ.K is.length (gsNames is)) (fgTup is) := by
  intro G ρ μ σ H x d q Q R r e k
  unfold fgTup at e
  cases z : tupV (.d d) with
  | none => simp only [z] at e; cases e
  | some ds =>
    simp only [z] at e
    by_cases hl : ds.length = is.length
    · rw [if_pos hl] at e
      cases e
      obtain ⟨a, us, ea, hs, l⟩ := tupV_ok (v := .d d) R.toRepM r z
      exact ⟨a, us, ea, hs, by rw [l.length, hl], setAll_wipe h hl R l k⟩
    · rw [if_neg hl] at e; cases e

def fYes : FT := fun _ μ => .ok (true, μ)
theorem zts_nil : PTs X [] (tZT Γ W fYes) := ⟨fun pins s σ H Q I ⟨G, ρ, μ, R, p⟩ => pts_nil.run pins s σ H Q I (PostT.here R p)⟩
theorem zts_one {c : Expr} {t : FT} (h : PT X c (tZT Γ W t)) : PTs X [c] (tZT Γ W t) := pts_one h

/-! ## list comprehensions -/
def lcGo (g : FG) (t : FT) (el : FE) : List D → Rho → Mu → R (List Val × Mu)
  | [], _, μ => .ok ([], μ)
  | d :: ds, ρ, μ => (g (.d d) ρ μ).noex.bind fun q => (t q.1 q.2).noex.bind fun b => if b.1 = true then
      (el q.1 b.2).noex.bind fun p => (lcGo g t el ds ρ p.2).bind fun r => .ok (p.1 :: r.1, r.2)
    else lcGo g t el ds ρ b.2
/-- what becomes of the list that was made: data, or a live list -/
def lcFin (live : Bool) (q : List Val × Mu) : R (Val × Mu) := if q.1.length < 1000000 then (if live = true then .ok (.own q.2.length, q.2 ++ [.lst q.1]) else (match dsOf q.1 with
  | some ds => .ok (.d (.lst ds), q.2)
  | none => .bad)) else .bad
def fLc (live : Bool) (it : FI) (g : FG) (t : FT) (el : FE) (vs : List Nat) : FE := fun ρ μ => (it ρ μ).bind fun p => (lcGo g t el p.1 (ρ.wipe vs) p.2).bind fun q => lcFin live q
theorem postI_bind {G : Gh} {ρ : Rho} {σ : St} {H : Hp} {Q : VK} {Q1 : It → Hp → Prop} {k : List D × Mu → R (Val × Mu)} : ∀ {r : R (List D × Mu)}, Post Γ W G ρ σ H Q (r.bind k) →
    (∀ J ds μ1 G1 H1, Step G H G1 H1 → Rep Γ G1 ρ μ1 σ H1 → ItOk Γ J ds G1.F → Post Γ W G1 ρ σ H1 Q (k (ds, μ1)) → Q1 J H1) → PostI Γ W G ρ σ H Q1 r
  | .ok p, h, f => fun J G1 H1 s R j => f J p.1 p.2 G1 H1 s R j (Post.step s h)
  | .ex e r m, h, f => h
  | .bad, h, f => h
/-- a tracked object of nobody's becomes frozen -/
theorem RepM.fzOld {G : Gh} {μ : Mu} {H : Hp} {p : Addr} {o : HO} (R : RepM Γ G μ H) (hp : H p = some o) (hF : G.F p = none) (ha : p ∉ G.al) (ht : ¬ TabO o) : RepM Γ (G.fzn p o) μ H := by
  refine ⟨fun a u e => ?_, R.len, R.nd, fun k a c e1 e2 => ?_, R.there, R.clo, R.tabs.go (fun _ _ e _ _ => e) (fun a u _ e t h => by
    show upd G.F p o a = none
    rw [upd_ne fun z => by rw [z, hp] at e; cases e; exact ht t]
    exact h) fun a z => .inl z⟩
  · by_cases z : a = p
    · have e' : upd G.F p o a = some u := e
      rw [z, upd_same] at e'
      rw [z, hp]; exact e'
    · have e' : upd G.F p o a = some u := e
      rw [upd_ne z] at e'
      exact R.sub a u e'
  · have z := mem_ne (List.mem_of_getElem? e1) ha
    exact CRel.mono (G' := G.fzn p o) (same_upd hF) (fun n => by show upd G.F p o a = none; rw [upd_ne z]; exact n) ⟨[], by simp⟩ rfl (R.cells k a c e1 e2)
theorem Step.fzOld {G G1 : Gh} {H H1 : Hp} {p : Addr} {o : HO} (s : Step G H G1 H1) (h0 : H p = none) (hF : G1.F p = none) : Step G H (G1.fzn p o) H1 := by
  refine ⟨fun a u e => same_upd hF a u (s.fz a u e), s.al, s.ts, s.keep, fun a h n => ?_, s.newA, s.there⟩
  by_cases z : a = p
  · exact .inl (z ▸ h0)
  · have n' : upd G1.F p o a ≠ none := n
    rw [upd_ne z] at n'
    exact s.newF a h n'
/-- .. or live -/
theorem RepM.lvOld {G : Gh} {μ : Mu} {H : Hp} {p : Addr} {o : HO} (R : RepM Γ G μ H) (hp : H p = some o) (ha : p ∉ G.al) (ht : ¬ TabO o) {c : Cell} (hc : CRel Γ (G.lvn p) H p c) : RepM Γ (G.lvn p) (μ ++ [c]) H := by
  refine ⟨R.sub, by simp [R.len], ?_, fun k a c' e1 e2 => ?_, fun a h => ?_, fun t ht => ?_, R.tabs.go (fun _ _ e _ _ => e) (fun _ _ _ _ _ h => h) fun a z => (List.mem_append.mp z).imp id fun q => by rw [List.mem_singleton.mp q]; intro u e t; rw [hp] at e; cases e; exact ht t⟩
  · refine List.nodup_append.mpr ⟨R.nd, by simp, fun a h b hb => ?_⟩
    rw [List.mem_singleton.mp hb]
    exact mem_ne h ha
  · by_cases hk : k < G.al.length
    · have e1' : G.al[k]? = some a := by
        have q : (G.al ++ [p])[k]? = some a := e1
        rwa [List.getElem?_append_left hk] at q
      have e2' : μ[k]? = some c' := by rwa [List.getElem?_append_left (by rw [← R.len]; exact hk)] at e2
      exact CRel.mono (G := G) (G' := G.lvn p) (fun _ _ h => h) (fun n => n) ⟨[p], by rfl⟩ rfl (R.cells k a c' e1' e2')
    · have q : (G.al ++ [p])[k]? = some a := e1
      have hk2 : k = G.al.length := by
        have := (List.getElem?_eq_some_iff.mp q).1
        simp at this
        omega
      subst hk2
      rw [List.getElem?_append_right (Nat.le_refl _)] at q
      rw [R.len, List.getElem?_append_right (Nat.le_refl _)] at e2
      simp at q e2
      subst q e2
      exact hc
  · rcases List.mem_append.mp h with z | z
    · exact R.there a z
    · rw [List.mem_singleton.mp z]; exact ⟨o, hp⟩
  · obtain ⟨h1, h2⟩ := R.clo t ht
    refine ⟨by rw [List.length_append]; omega, fun k c' j hk e m => h2 k c' j hk ?_ m⟩
    rwa [List.getElem?_append_left (by omega)] at e
theorem Step.lvOld {G G1 : Gh} {H H1 : Hp} {p : Addr} (s : Step G H G1 H1) (h0 : H p = none) : Step G H (G1.lvn p) H1 := by
  obtain ⟨r, e⟩ := s.al
  refine ⟨s.fz, ⟨r ++ [p], by show G1.al ++ [p] = _; rw [e, List.append_assoc]⟩, s.ts, s.keep, s.newF, fun a h n => ?_, s.there⟩
  rcases List.mem_append.mp h with z | z
  · exact s.newA a z n
  · rw [List.mem_singleton.mp z]; exact h0
theorem lc_ok {live : Bool} {it : FI} {gt : FG} {t : FT} {el : FE} {vs : List Nat} {g : TG} (hg : TgOk Γ vs g gt) (σ : St) (H : Hp) (Q : VK) (q : tZ Γ W (fLc live it gt t el vs) σ H Q) : tLc (tZI Γ W it) g (tZT Γ WF t) (tZ Γ WF el) vs σ H Q := by
  obtain ⟨G, ρ, μ, R, p⟩ := q
  refine ⟨G, ρ, μ, R, postI_bind p fun J ds μ1 G1 H1 s1 R1 j p1 => ?_⟩
  intro P hP
  have nF := R1.toRepM.Fnone hP
  have nA := R1.toRepM.notin hP
  -- the invariant
  refine ⟨fun i m H2 => m = ds.length - i ∧ i ≤ ds.length ∧ ∃ G2 μ2 acc us, Rep Γ G2 ρ μ2 σ H2 ∧ Step G1 H1 G2 H2 ∧ H2 P = some (.lst us) ∧ G2.F P = none ∧ P ∉ G2.al ∧ VRelL Γ G2 us acc ∧
    Post Γ W G1 ρ σ H1 Q ((lcGo gt t el (ds.drop i) (ρ.wipe vs) μ2).bind fun q => lcFin live (acc ++ q.1, q.2)), ⟨ds.length, by simp, Nat.zero_le _, G1, μ1, [], [], R1.go (Step.other hP) (R1.toRepM.other hP), Step.other hP, upd_same, nF, nA, .nil, by simpa using p1⟩, ?_⟩
  rintro i m H2 ⟨rfl, hi, G2, μ2, acc, us, R2, st2, hP2, nF2, nA2, rel, p2⟩
  by_cases hlt : i < ds.length
  · refine .inr ⟨j.go i G2.F H2 st2.fz R2.sub hlt, fun H' => ∃ G2 μ2 acc us, Rep Γ G2 ρ μ2 σ H' ∧ Step G1 H1 G2 H' ∧ H' P = some (.lst us) ∧ G2.F P = none ∧ P ∉ G2.al ∧ VRelL Γ G2 us acc ∧
      Post Γ W G1 ρ σ H1 Q ((lcGo gt t el (ds.drop (i + 1)) (ρ.wipe vs) μ2).bind fun q => lcFin live (acc ++ q.1, q.2)), fun H' n => ⟨ds.length - (i + 1), by omega, rfl, hlt, n⟩, fun x H3 y => ?_⟩
    have hget : ds[i]? = some ds[i] := List.getElem?_eq_getElem hlt
    rw [List.drop_eq_getElem_cons hlt] at p2
    -- facts of P behind a step
    have keepP : ∀ {G' H'}, Step G2 H2 G' H' → H' P = some (.lst us) ∧ G'.F P = none ∧ P ∉ G'.al := fun {G' H'} s => by
      refine ⟨s.keep P _ hP2 (fun _ z => by cases z) nA2, ?_, fun z => ?_⟩
      · cases e : G'.F P with
        | none => rfl
        | some o =>
          rcases s.newF P nF2 (by rw [e]; exact fun z => by cases z) with z | z
          · rw [hP2] at z; cases z
          · exact absurd z nA2
      · have := s.newA P z nA2
        rw [hP2] at this; cases this
    have key : ∃ G3, Step G2 H2 G3 H3 ∧ Rep Γ G3 ρ μ2 σ H3 ∧ Is Γ G3.F x ds[i] := by
      rcases j.yld i G2.F H2 x H3 _ st2.fz R2.sub hget y with ⟨e, h⟩ | ⟨p, o, hp, e, h⟩
      · subst e; exact ⟨G2, Step.refl _ _, R2, h⟩
      · subst e
        have st := R2.toRepM.stepFz (o := o) hp
        exact ⟨_, st, R2.go st (R2.toRepM.fzNew hp), h⟩
    obtain ⟨G3, st3, R3, hx⟩ := key
    have p3 : Post Γ W G1 ρ σ H1 Q (((gt (.d ds[i]) (ρ.wipe vs) μ2).noex.bind fun q => (t q.1 q.2).noex.bind fun b => if b.1 = true then
      (el q.1 b.2).noex.bind fun p => (lcGo gt t el (ds.drop (i + 1)) (ρ.wipe vs) p.2).bind fun r => .ok (p.1 :: r.1, r.2)
      else lcGo gt t el (ds.drop (i + 1)) (ρ.wipe vs) b.2).bind fun q => lcFin live (acc ++ q.1, q.2)) := p2
    cases eg : gt (.d ds[i]) (ρ.wipe vs) μ2 with
    | bad => rw [eg] at p3; exact p3.elim
    | ex a b c => rw [eg] at p3; exact p3.elim
    | ok q =>
      rw [eg, Zl.R.noex_ok, Zl.R.bind_ok] at p3
      refine hg G3 (ρ.wipe vs) μ2 (wipe σ vs) H3 x ds[i] q _ (R3.wipe vs) hx eg fun σ3 R3' hw => ⟨hw.trans wipe_wipe, G3, q.1, q.2, R3', ?_⟩
      have R3m : Rep Γ G3 ρ q.2 σ H3 := ⟨R3'.toRepM, R3.slots, R3.rl, R3.n0, R3.top⟩
      cases et : t q.1 q.2 with
      | bad => rw [et] at p3; exact p3.elim
      | ex a b c => rw [et] at p3; exact p3.elim
      | ok b =>
        rw [et, Zl.R.noex_ok, Zl.R.bind_ok] at p3
        intro G4 H4 st4 R4
        have R4m : Rep Γ G4 ρ b.2 σ H4 := ⟨R4.toRepM, slots_step st4 R3m.slots, R3m.rl, by rw [st4.ts]; exact R3m.n0, by rw [st4.ts]; exact R3m.top⟩
        cases hb : b.1 with
        | false =>
          rw [hb, if_neg Bool.false_ne_true] at p3
          rw [if_neg Bool.false_ne_true]
          obtain ⟨k1, k2, k3⟩ := keepP (st3.trans st4)
          exact ⟨G4, b.2, acc, us, R4m, st2.trans (st3.trans st4), k1, k2, k3, VRelL.mono (st3.trans st4) rel, p3⟩
        | true =>
          rw [hb, if_pos rfl] at p3
          rw [if_pos rfl]
          refine ⟨G4, q.1, b.2, R4, ?_⟩
          cases ee : el q.1 b.2 with
          | bad => rw [ee] at p3; exact p3.elim
          | ex a b c => rw [ee] at p3; exact p3.elim
          | ok r =>
            rw [ee, Zl.R.noex_ok, Zl.R.bind_ok] at p3
            intro u G5 H5 st5 R5 ru
            have st25 := st3.trans (st4.trans st5)
            obtain ⟨k1, k2, k3⟩ := keepP st25
            have R5m : Rep Γ G5 ρ r.2 σ H5 := ⟨R5.toRepM, slots_step st5 R4m.slots, R4m.rl, by rw [st5.ts]; exact R4m.n0, by rw [st5.ts]; exact R4m.top⟩
            -- the list grows
            have stW : Step G5 H5 G5 H5 := Step.refl _ _
            have lenOk : us.length < sizeLine := by
              -- the outcome is bounded: else lcFin is bad
              have hlen : us.length = acc.length := Paired.length rel
              cases er : lcGo gt t el (ds.drop (i + 1)) (ρ.wipe vs) r.2 with
              | bad => rw [er] at p3; exact p3.elim
              | ex a b c =>
                exfalso
                have : ∀ (ds : List D) (ρ : Rho) (μ : Mu) e r m, lcGo gt t el ds ρ μ ≠ .ex e r m := by
                  intro ds
                  induction ds with
                  | nil => intro ρ μ e r m h; cases h
                  | cons d ds ih =>
                    intro ρ μ e r m h
                    unfold lcGo at h
                    cases e1 : gt (.d d) ρ μ with
                    | bad => rw [e1] at h; cases h
                    | ex a b c => rw [e1] at h; cases h
                    | ok q =>
                      rw [e1, Zl.R.noex_ok, Zl.R.bind_ok] at h
                      cases e2 : t q.1 q.2 with
                      | bad => rw [e2] at h; cases h
                      | ex a b c => rw [e2] at h; cases h
                      | ok b =>
                        rw [e2, Zl.R.noex_ok, Zl.R.bind_ok] at h
                        split at h
                        · cases e3 : el q.1 b.2 with
                          | bad => rw [e3] at h; cases h
                          | ex a b c => rw [e3] at h; cases h
                          | ok p =>
                            rw [e3, Zl.R.noex_ok, Zl.R.bind_ok] at h
                            cases e4 : lcGo gt t el ds ρ p.2 with
                            | bad => rw [e4] at h; cases h
                            | ok _ => rw [e4] at h; cases h
                            | ex a b c => exact ih _ _ _ _ _ e4
                        · exact ih _ _ _ _ _ h
                exact this _ _ _ _ _ _ er
              | ok z =>
                rw [er, Zl.R.bind_ok, Zl.R.bind_ok] at p3
                unfold lcFin at p3
                by_cases hz : (acc ++ (r.1 :: z.1)).length < 1000000
                · rw [List.length_append, List.length_cons] at hz
                  have : (1000000 : Nat) ≤ sizeLine := by decide
                  omega
                · rw [if_neg hz] at p3; exact p3.elim
            refine ⟨us, k1, lenOk, ?_⟩
            -- a write at P, nobody's
            have hP5 : ∀ a, a ≠ P → upd H5 P (.lst (us ++ [u])) a = H5 a := fun a z => upd_ne z
            have R6 : RepM Γ G5 r.2 (upd H5 P (.lst (us ++ [u]))) := by
              refine ⟨fun a o e => ?_, R5.len, R5.nd, fun k a c e1 e2 => CRel.mono (fun _ _ h => h) (fun n => n) ⟨[], by simp⟩ (hP5 a (mem_ne (List.mem_of_getElem? e1) k3)) (R5.cells k a c e1 e2), fun a h => ?_, R5.clo, R5.tabs.go (fun a u e t _ => by rw [hP5 a fun z => by rw [z, k1] at e; cases e; exact TabO.lst t]; exact e) (fun _ _ _ _ _ h => h) fun a z => .inl z⟩
              · have z : a ≠ P := fun z => by rw [z, k2] at e; cases e
                rw [hP5 a z]; exact R5.sub a o e
              · obtain ⟨o, e⟩ := R5.there a h
                exact ⟨o, by rw [hP5 a (mem_ne h k3)]; exact e⟩
            have st6 : Step G1 H1 G5 (upd H5 P (.lst (us ++ [u]))) := by
              have s := st2.trans st25
              refine ⟨s.fz, s.al, s.ts, fun a o e nt n => ?_, s.newF, s.newA, fun a o e => ?_⟩
              · have z : a ≠ P := fun z => by rw [z, hP] at e; cases e
                rw [hP5 a z]; exact s.keep a o e nt n
              · have z : a ≠ P := fun z => by rw [z, hP] at e; cases e
                rw [hP5 a z]; exact s.there a o e
            refine ⟨G5, r.2, acc ++ [r.1], us ++ [u], ⟨R6, R5m.slots, R5m.rl, R5m.n0, R5m.top⟩, st6, upd_same, k2, k3, ?_, ?_⟩
            · have h1 := VRelL.mono st25 rel
              have app : ∀ {a : List V} {b : List Val}, VRelL Γ G5 a b → VRelL Γ G5 (a ++ [u]) (b ++ [r.1]) := fun {a b} h => by
                unfold VRelL at h ⊢
                induction h with
                | nil => exact .cons ru .nil
                | cons h t ih => exact .cons h ih
              exact app h1
            · cases er : lcGo gt t el (ds.drop (i + 1)) (ρ.wipe vs) r.2 with
              | bad => rw [er] at p3; exact p3.elim
              | ex a b c => rw [er] at p3; exact p3
              | ok z =>
                rw [er, Zl.R.bind_ok, Zl.R.bind_ok] at p3
                rw [Zl.R.bind_ok, List.append_assoc]
                exact p3
  · have e : i = ds.length := by omega
    subst e
    rw [List.drop_length] at p2
    refine .inl ⟨j.stop _ G2.F H2 st2.fz R2.sub (Nat.le_refl _), ?_⟩
    have p3 : Post Γ W G1 ρ σ H1 Q (lcFin live (acc, μ2)) := by
      have q : Post Γ W G1 ρ σ H1 Q (lcFin live (acc ++ [], μ2)) := p2
      rwa [List.append_nil] at q
    unfold lcFin at p3
    split at p3
    · cases live with
      | true =>
        rw [if_pos rfl] at p3
        have st := st2.lvOld hP
        refine p3 (.ref P) (G2.lvn P) H2 st ⟨R2.toRepM.lvOld (c := .lst acc) hP2 nA2 TabO.lst ⟨nF2, us, hP2, Paired.imp (fun _ _ h => VRel.lvn h) rel⟩, slots_step st R1.slots, R1.rl, by rw [st.ts]; exact R1.n0, by rw [st.ts]; exact R1.top⟩ ⟨P, ?_, rfl⟩
        show (G2.al ++ [P])[μ2.length]? = _
        rw [← R2.len]; simp
      | false =>
        rw [if_neg Bool.false_ne_true] at p3
        cases ed : dsOf acc with
        | none => simp only [ed] at p3; exact p3.elim
        | some xs =>
          simp only [ed] at p3
          have l := dsOf_ok rel ed
          have st := st2.fzOld (o := .lst us) hP nF2
          refine p3 (.ref P) (G2.fzn P (.lst us)) H2 st ⟨R2.toRepM.fzOld hP2 nF2 nA2 TabO.lst, slots_step st R1.slots, R1.rl, by rw [st.ts]; exact R1.n0, by rw [st.ts]; exact R1.top⟩ ?_
          show Is Γ (upd G2.F P (.lst us)) _ _
          unfold Is
          exact ⟨P, us, rfl, upd_same, IsL.mono (same_upd nF2) _ _ l⟩
    · exact p3.elim
theorem Cz.blk (c : Cz Γ W X lv) (s : Shared) (H : Hp) (scope : Scope) (ce : Env) (fp : List Addr) : Cz Γ WF (X.blk s H scope ce fp) lv := ⟨c.K, c.nd, c.calm, c.room, c.gd, takes0⟩
variable {elt tg iter : Expr} {ifs : List Expr} {scope : Scope} {own : List (Str × Nat)} {pos : Pos} {live : Bool} {it : FI} {gt : FG} {t : FT} {el : FE} {g : TG}
theorem ze_lc (c : Cz Γ W X lv) (hi : PI X tg iter (tZI Γ W it)) (ok : BlkOk X.N X.env.scope scope own) (hgt : TgOk Γ (own.map (·.2)) g gt)
    (hg : ∀ (s : Shared) (H : Hp) (C : Addr) (cl : List (Str × Addr)) (fp : List Addr), PG (X.blk s H scope (compEnvC scope cl C X.env) fp) tg g) (ht : ∀ (s : Shared) (H : Hp) (C : Addr) (cl : List (Str × Addr)) (fp : List Addr), PTs (X.blk s H scope (compEnvC scope cl C X.env) fp) ifs (tZT Γ WF t))
    (he : ∀ (s : Shared) (H : Hp) (C : Addr) (cl : List (Str × Addr)) (fp : List Addr), PE (X.blk s H scope (compEnvC scope cl C X.env) fp) elt (tZ Γ WF el)) (hs : ∀ x, foldedSetIterable iter X.env x = pure x) :
    PE X (.ListComp elt [⟨tg, iter, ifs, 0⟩] scope pos) (tZ Γ W (fLc live it gt t el (own.map (·.2)))) := PE.imp (pe_lc c.calm c.nd hi ok hg ht he hs) fun σ H Q q => lc_ok hgt σ H Q q
theorem zs_setLc (c : Cz Γ W X lv) {i : Nat} {y : Str} {py spos : Pos} (hy : X.N[i]? = some y) (hyl : X.env.scope.names.lookup y = some .local)
    (hsw : swapsWith (.ListComp elt [⟨tg, iter, ifs, 0⟩] scope pos) (some (.Name y py)) spos.line X.env = pure true) (hi : PI X tg iter (tZI Γ W it)) (ok : BlkOk X.N X.env.scope scope own) (hgt : TgOk Γ (own.map (·.2)) g gt)
    (hg : ∀ (s : Shared) (H : Hp) (C : Addr) (cl : List (Str × Addr)) (fp : List Addr), PG (X.blk s H scope (compEnvC scope cl C X.env) fp) tg g) (ht : ∀ (s : Shared) (H : Hp) (C : Addr) (cl : List (Str × Addr)) (fp : List Addr), PTs (X.blk s H scope (compEnvC scope cl C X.env) fp) ifs (tZT Γ WF t))
    (he : ∀ (s : Shared) (H : Hp) (C : Addr) (cl : List (Str × Addr)) (fp : List Addr), PE (X.blk s H scope (compEnvC scope cl C X.env) fp) elt (tZ Γ WF el)) (hs : ∀ x, foldedSetIterable iter X.env x = pure x) :
    PS X (.Assign [.Name y py] (.ListComp elt [⟨tg, iter, ifs, 0⟩] scope pos) spos) (tZS Γ W (fSet i (fLc live it gt t el (own.map (·.2))))) := by
  refine PS.imp (ps_setLc c.calm c.nd hy hyl hsw hi ok hg ht he hs) fun D σ H q => ?_
  obtain ⟨G, ρ, μ, R, p⟩ := q
  exact lc_ok hgt σ H _ ⟨G, ρ, μ, R, Post.bindS p fun u v μ1 G1 H1 s1 R1 r1 p1 => PostS.nx (R1.set r1) p1⟩
end
end Zl
set_option Elab.async false
set_option linter.all false
set_option maxRecDepth 100000
set_option maxHeartbeats 4000000
namespace Zl
open PySem PySem.Spec L2
open PyProof.Rows hiding St

abbrev FF := List Val → Mu → R (Val × Mu)
def PostF (Γ : Gm) (G : Gh) (H : Hp) (Q : VK) (E : XK) : R (Val × Mu) → Prop
  | .ok p => ∀ u G' H', Step G H G' H' → RepM Γ G' p.2 H' → VRel Γ G' u p.1 → Q u H'
  | .ex e _ m => ∀ cls dx G' H', Step G H G' H' → RepM Γ G' m H' → ErrRel Γ G' H' cls dx e → E cls dx H'
  | .bad => False
/-- a def's promise: it is this function -/
def spZ (Γ : Gm) (n : Nat) (F : FF) : Sp := fun vs H Q E => vs.length = n ∧ ∃ G μ as, RepM Γ G μ H ∧ VRelL Γ G vs as ∧ PostF Γ G H Q E (F as μ)

/-! ## what a frame leaves -/
def Gh.push (G : Gh) (t : Nat) : Gh := ⟨G.F, G.al, t :: G.ts⟩
section
variable {Γ : Gm} {G : Gh} {μ : Mu} {H : Hp}
theorem CRel.vals : ∀ {c : Cell} {a : Addr}, CRel Γ G H a c → ∀ j, Val.own j ∈ c.vals → j < G.al.length := by
  have key : ∀ {us : List V} {vs : List Val}, VRelL Γ G us vs → ∀ j, Val.own j ∈ vs → j < G.al.length := fun {us vs} h => by
    unfold VRelL at h
    induction h with
    | nil => intro j hj; cases hj
    | cons h t ih =>
      intro j hj
      rcases List.mem_cons.mp hj with e | e
      · subst e
        obtain ⟨a, ha, _⟩ := h
        exact (List.getElem?_eq_some_iff.mp ha).1
      · exact ih j e
  intro c a h j hj
  cases c with
  | gone => cases hj
  | fz x => cases hj
  | lst vs => obtain ⟨_, us, _, r⟩ := h; exact key r j hj
  | dK ks vs => obtain ⟨_, us, _, _, r⟩ := h; exact key r j hj
  | dT ks vs => obtain ⟨_, us, _, _, r⟩ := h; exact key r j hj
  | ins c ns vs => obtain ⟨_, _, _, us, _, _, _, r⟩ := h; exact key r j hj
theorem RepM.pushTop (R : RepM Γ G μ H) : RepM Γ (G.push μ.length) μ H := by
  refine ⟨R.sub, R.len, R.nd, R.cells, R.there, fun t ht => ?_, R.tabs.go (fun _ _ e _ _ => e) (fun _ _ _ _ _ h => h) fun _ z => .inl z⟩
  rcases List.mem_cons.mp ht with e | e
  · subst e
    refine ⟨Nat.le_refl _, fun k c j hk e m => ?_⟩
    have hk' : k < G.al.length := by rw [R.len]; exact hk
    have := CRel.vals (R.cells k G.al[k] c (List.getElem?_eq_getElem hk') e) j m
    rwa [R.len] at this
  · exact R.clo t e
theorem Step.push {G' : Gh} {H' : Hp} {t : Nat} (s : Step (G.push t) H G' H') : ∃ ts, G'.ts = t :: ts ∧ Step G H ⟨G'.F, G'.al, ts⟩ H' := ⟨G.ts, s.ts, s.fz, s.al, rfl, s.keep, s.newF, s.newA, s.there⟩

/-- the datum that a cell's graph makes, no cell below n0 in it -/
def treeV : Nat → Nat → Mu → Val → Option D
  | 0, _, _, _ => none
  | _ + 1, _, _, .d x => some x
  | f + 1, n0, μ, .own k => if k < n0 then none else (match μ[k]? with
    | some (.fz x) => some x
    | some (.lst vs) => (vs.mapM (treeV f n0 μ)).map D.lst
    | some (.dK ks vs) => (vs.mapM (treeV f n0 μ)).map (D.dK ks)
    | some (.dT ks vs) => (vs.mapM (treeV f n0 μ)).map (D.dT ks)
    | some (.ins c ns vs) => (vs.mapM (treeV f n0 μ)).map (D.ins c ns)
    | _ => none)
def Gh.close (G : Gh) (H : Hp) (t : Nat) (ts : List Nat) : Gh := ⟨fun a => match G.F a with
  | some o => some o
  | none => if a ∈ G.al.drop t then H a else none, G.al.take t, ts⟩
theorem close_same (R : RepM Γ G μ H) (t : Nat) (ts : List Nat) : Same G.F (G.close H t ts).F ∧ Same (G.close H t ts).F H := by
  refine ⟨fun a o e => ?_, fun a o e => ?_⟩
  · show (match G.F a with
      | some o => some o
      | none => if a ∈ G.al.drop t then H a else none) = some o
    rw [e]
  · have e' : (match G.F a with
      | some o => some o
      | none => if a ∈ G.al.drop t then H a else none) = some o := e
    cases q : G.F a with
    | some u => rw [q] at e'; cases e'; exact R.sub a _ q
    | none =>
      rw [q] at e'
      have e2 : (if a ∈ G.al.drop t then H a else none) = some o := e'
      by_cases hm : a ∈ G.al.drop t
      · rw [if_pos hm] at e2; exact e2
      · rw [if_neg hm] at e2; cases e2
theorem mapM_rel {f : Val → Option D} {P : V → D → Prop} : ∀ {us : List V} {vs : List Val} {ds : List D}, VRelL Γ G us vs → (∀ u v d, VRel Γ G u v → f v = some d → P u d) → vs.mapM f = some ds → Paired P us ds
  | _, _, ds, .nil, _, e => by
    simp at e; subst e; exact .nil
  | _, v :: vs, ds, .cons h t, k, e => by
    rw [List.mapM_cons] at e
    cases q : f v with
    | none => rw [q] at e; cases e
    | some d =>
      rw [q] at e
      cases q2 : vs.mapM f with
      | none => rw [q2] at e; cases e
      | some es =>
        rw [q2] at e
        cases e
        exact .cons (k _ _ _ h q) (mapM_rel t k q2)
theorem isL_of {F : Hp} : ∀ {us : List V} {ds : List D}, Paired (Is Γ F) us ds → IsL Γ F us ds
  | _, _, .nil => IsL.nil
  | _, _, .cons h t => IsL.cons h (isL_of t)
theorem tree_ok (R : RepM Γ G μ H) (t : Nat) (ts : List Nat) : ∀ (f : Nat) (u : V) (v : Val) (d : D), VRel Γ G u v → treeV f t μ v = some d → Is Γ (G.close H t ts).F u d
  | 0, _, _, _, _, e => by cases e
  | f + 1, u, .d x, d, r, e => by
    cases e
    exact Is.mono (close_same R t ts).1 _ _ r
  | f + 1, u, .own k, d, r, e => by
    obtain ⟨a, ha, ea⟩ := r
    have e' : (if k < t then none else (match μ[k]? with
      | some (.fz x) => some x
      | some (.lst vs) => (vs.mapM (treeV f t μ)).map D.lst
      | some (.dK ks vs) => (vs.mapM (treeV f t μ)).map (D.dK ks)
      | some (.dT ks vs) => (vs.mapM (treeV f t μ)).map (D.dT ks)
      | some (.ins c ns vs) => (vs.mapM (treeV f t μ)).map (D.ins c ns)
      | _ => none)) = some d := e
    split at e'
    · cases e'
    · rename_i hk
      have hmem : a ∈ G.al.drop t := List.mem_of_getElem? (i := k - t) (by rw [List.getElem?_drop, show t + (k - t) = k by omega]; exact ha)
      have at_ : ∀ o, G.F a = none → H a = some o → (G.close H t ts).F a = some o := fun o n h => by
        show (match G.F a with
          | some o => some o
          | none => if a ∈ G.al.drop t then H a else none) = some o
        rw [n]
        show (if a ∈ G.al.drop t then H a else none) = some o
        rw [if_pos hmem]; exact h
      cases q : μ[k]? with
      | none => simp only [q] at e'; cases e'
      | some c =>
        simp only [q] at e'
        have rc := R.cells k a c ha q
        have sub : ∀ {us : List V} {vs : List Val} {ds : List D}, VRelL Γ G us vs → vs.mapM (treeV f t μ) = some ds → IsL Γ (G.close H t ts).F us ds := fun r e => isL_of (mapM_rel r (fun u v d h q => tree_ok R t ts f u v d h q) e)
        cases c with
        | gone => cases e'
        | fz x =>
          cases e'
          rw [ea]
          exact Is.mono (close_same R t ts).1 _ _ rc
        | lst vs =>
          obtain ⟨n, us, h, rl⟩ := rc
          simp only at e'
          cases z : vs.mapM (treeV f t μ) with
          | none => rw [z] at e'; cases e'
          | some ds => rw [z] at e'; cases e'; unfold Is; exact ⟨a, us, ea, at_ _ n h, sub rl z⟩
        | dK ks vs =>
          obtain ⟨n, us, h, hk, rl⟩ := rc
          simp only at e'
          cases z : vs.mapM (treeV f t μ) with
          | none => rw [z] at e'; cases e'
          | some ds => rw [z] at e'; cases e'; unfold Is; exact ⟨a, us, ea, at_ _ n h, hk, sub rl z⟩
        | dT ks vs =>
          obtain ⟨n, us, h, hk, rl⟩ := rc
          simp only at e'
          cases z : vs.mapM (treeV f t μ) with
          | none => rw [z] at e'; cases e'
          | some ds => rw [z] at e'; cases e'; unfold Is; exact ⟨a, us, ea, at_ _ n h, hk, sub rl z⟩
        | ins c ns vs =>
          obtain ⟨n, C, dx, us, hc, h, hk, rl⟩ := rc
          simp only at e'
          cases z : vs.mapM (treeV f t μ) with
          | none => rw [z] at e'; cases e'
          | some ds => rw [z] at e'; cases e'; unfold Is; exact ⟨a, C, dx, us, ea, hc, at_ _ n h, hk, sub rl z⟩
theorem nodup_drop {l : List Addr} (h : l.Nodup) {t : Nat} {a : Addr} (h1 : a ∈ l.take t) : a ∉ l.drop t := fun h2 => by
  have h' : (l.take t ++ l.drop t).Nodup := by rw [List.take_append_drop]; exact h
  obtain ⟨_, _, d⟩ := List.nodup_append.mp h'
  exact d a h1 a h2 rfl
/-- the frame's cells go -/
theorem RepM.trunc (R : RepM Γ G μ H) {t : Nat} (ht : t ∈ G.ts) (ts : List Nat) (hts : ∀ s ∈ ts, s ∈ G.ts ∧ s ≤ t) : RepM Γ (G.close H t ts) (μ.take t) H := by
  obtain ⟨htl, hclo⟩ := R.clo t ht
  obtain ⟨s1, s2⟩ := close_same R t ts
  refine ⟨s2, by show (G.al.take t).length = _; rw [List.length_take, List.length_take, R.len], R.nd.sublist (List.take_sublist _ _), fun k a c e1 e2 => ?_, fun a h => R.there a (List.mem_of_mem_take h), fun s hs => ?_, R.tabs.go (fun _ _ e _ _ => e) (fun a o n _ _ h => by
    show (match G.F a with
        | some o => some o
        | none => if a ∈ G.al.drop t then H a else none) = none
    rw [h]
    show (if a ∈ G.al.drop t then H a else none) = none
    rw [if_neg fun z => n (List.mem_of_mem_drop z)]) fun _ z => .inl (List.mem_of_mem_take z)⟩
  · have e1 : (G.al.take t)[k]? = some a := e1
    have hk : k < t := by
      have := (List.getElem?_eq_some_iff.mp e2).1
      rw [List.length_take] at this
      omega
    rw [List.getElem?_take_of_lt hk] at e1 e2
    have rc := R.cells k a c e1 e2
    have hn : G.F a = none → (G.close H t ts).F a = none := fun n => by
      show (match G.F a with
        | some o => some o
        | none => if a ∈ G.al.drop t then H a else none) = none
      rw [n]
      show (if a ∈ G.al.drop t then H a else none) = none
      rw [if_neg (nodup_drop R.nd (List.mem_of_getElem? (i := k) (by rw [List.getElem?_take_of_lt hk]; exact e1)))]
    have hv : ∀ {u : V} {v : Val}, v ∈ c.vals → VRel Γ G u v → VRel Γ (G.close H t ts) u v := fun {u v} hm h => by
      cases v with
      | d x => exact Is.mono s1 _ _ h
      | own j =>
        obtain ⟨b, hb, eb⟩ := h
        have hj := hclo k c j hk e2 hm
        exact ⟨b, by show (G.al.take t)[j]? = _; rw [List.getElem?_take_of_lt hj]; exact hb, eb⟩
    have hl : ∀ {us : List V} {vs : List Val}, (∀ v ∈ vs, v ∈ c.vals) → VRelL Γ G us vs → VRelL Γ (G.close H t ts) us vs := fun {us vs} hm h => by
      unfold VRelL at h ⊢
      induction h with
      | nil => exact .nil
      | cons h t ih => exact .cons (hv (hm _ List.mem_cons_self) h) (ih fun v hv => hm v (List.mem_cons_of_mem _ hv))
    cases c with
    | gone => trivial
    | fz x => exact Is.mono s1 _ _ rc
    | lst vs => obtain ⟨n, us, h, r⟩ := rc; exact ⟨hn n, us, h, hl (fun _ h => h) r⟩
    | dK ks vs => obtain ⟨n, us, h, k', r⟩ := rc; exact ⟨hn n, us, h, k', hl (fun _ h => h) r⟩
    | dT ks vs => obtain ⟨n, us, h, k', r⟩ := rc; exact ⟨hn n, us, h, k', hl (fun _ h => h) r⟩
    | ins c ns vs => obtain ⟨n, C, dx, us, hc, h, k', r⟩ := rc; exact ⟨hn n, C, dx, us, hc, h, k', hl (fun _ h => h) r⟩
  · obtain ⟨h1, h2⟩ := hts s hs
    obtain ⟨h3, h4⟩ := R.clo s h1
    refine ⟨by rw [List.length_take]; omega, fun k c j hk e m => h4 k c j hk ?_ m⟩
    rw [List.getElem?_take_of_lt (by omega)] at e
    exact e
/-- .. from the entry -/
theorem Step.trunc {G0 : Gh} {H0 : Hp} (R : RepM Γ G μ H) (s : Step G0 H0 G H) {ts : List Nat} (hts : ts = G0.ts) : Step G0 H0 (G.close H G0.al.length ts) H := by
  obtain ⟨r, e⟩ := s.al
  refine ⟨fun a o h => (close_same R _ ts).1 a o (s.fz a o h), ⟨[], by show G.al.take _ = _; rw [e]; simp⟩, hts, s.keep, fun a h n => ?_, fun a h n => ?_, s.there⟩
  · cases q : G.F a with
    | some o => exact s.newF a h (by rw [q]; exact fun z => by cases z)
    | none =>
      have n' : (match G.F a with
        | some o => some o
        | none => if a ∈ G.al.drop G0.al.length then H a else none) ≠ none := n
      rw [q] at n'
      by_cases hm : a ∈ G.al.drop G0.al.length
      · have : a ∉ G0.al := fun z => nodup_drop R.nd (t := G0.al.length) (by rw [e]; simpa using z) hm
        exact .inl (s.newA a (List.mem_of_mem_drop hm) this)
      · exact absurd (if_neg hm) n'
  · have h' : a ∈ G.al.take G0.al.length := h
    rw [e] at h'
    simp at h'
    exact absurd h' n
/-- .. on the way -/
theorem ErrRel.close {cls : Value} {dx : Option Addr} {e : Err} (R : RepM Γ G μ H) {t : Nat} {ts : List Nat} (h : ErrRel Γ G H cls dx e) : ErrRel Γ (G.close H t ts) H cls dx e := by
  obtain ⟨C, fs, h1, h2, h3, h4, h5⟩ := h
  refine ⟨C, fs, h1, h2, h3, IsL.mono (close_same R t ts).1 _ _ h4, ?_⟩
  rcases h5 with h5 | ⟨d, k1, k2⟩
  · exact .inl h5
  · exact .inr ⟨d, k1, (close_same R t ts).1 _ _ k2⟩
end

/-! ## defs that are called where no guard stands -/
structure FnG (P : Program) (w : World) (K : PySem.W.Frag) (mg : Str → Option Value) (base : Heap) (k : Nat) (f : Addr) (fd : FuncData) (ps : List Str) (sp : Sp) : Prop where
  len : ∀ vs H Q E, sp vs H Q E → vs.length = ps.length
  run : ∀ (A : Around) (outer : List Env) (s : Shared) (H : Hp) (args : Args) (us : List Value) (vs : List V) (Q : VK) (E : XK), Room k A → A.guards = some [] → Env0 P w K mg base A outer s H → BindsTo s fd args (ps.zip us) → Vals vs us → sp vs H Q E →
    codeAny (model P w) A (.call (.ref f) args) (CR (L2.CX P w) outer P w H s Q E) s
theorem FnG.mono {P : Program} {w : World} {K : PySem.W.Frag} {mg : Str → Option Value} {base : Heap} {j k : Nat} {f : Addr} {fd : FuncData} {ps : List Str} {sp : Sp} (F : FnG P w K mg base j f fd ps sp) (h : j ≤ k) : FnG P w K mg base k f fd ps sp :=
  ⟨F.len, fun A outer s H args us vs Q E hr => F.run A outer s H args us vs Q E (hr.mono h)⟩
section
variable {P : Program} {w : World} {K : PySem.W.Frag} {mg : Str → Option Value} {base : Heap} {x qual : Str} {params : Arguments} {body : List Stmt} {scope : Scope} {dvs : List V} {kws : List (Str × V)} {f : Addr} {fd : FuncData}
theorem fng_of {N ps : List Str} {k : Nat} {sp : Sp} (F : FunD K x qual params body scope dvs kws f fd) (S : FnScope N ps scope) (len : ∀ vs H Q E, sp vs H Q E → vs.length = ps.length)
    (hb : ∀ (cdv : Value) (A : Around) (outer : List Env) (s : Shared) (H : Hp) (vs : List V) (Q : VK) (E : XK), Room k (A.deeper (envOfC qual scope s.heap.objs.size f cdv)) → A.guards = some [] → sp vs H Q E →
      ∃ t, PSs (cxOf (L2.CX P w) P w K mg base N qual scope f cdv A outer s H E) body t ∧ t { nx := fun _ H' => Q .non H', rt := Q } (L2.start N vs) H) : FnG P w K mg base (k + 1) f fd ps sp := by
  obtain ⟨oc, od, dV, kV, doc, pm, an, cdv, ct, osl, rfl, lk, hcd, _, _⟩ := F.ex
  refine ⟨len, fun A outer s H args us vs Q E hr hg e0 bnd r hsp => ?_⟩
  have KX : K.In s.heap := e0.mod.kin.keeps fun b o e => (e0.bs b o e).1
  have lim : s.heap.NoLimit := e0.mod.nolimit.keeps fun b o e => (e0.bs b o e).1
  refine codeAny_call_function hr.depth (KX _ _ lk) rfl S.co S.gen rfl (PySem.W.codeRec_of KX hcd) (bnd _ _ _ _ ?_)
  refine wpAny_newFunctionEnv_cells S.kind (fun y hy => ?_) fun env he s1 z => ?_
  · rcases S.par y.1 (List.of_mem_zip (a := y.1) (b := y.2) hy).1 with q | q
    · exact Or.inl q
    · exact Or.inr ⟨q, PySem.W.cellsFrom_some _ _ _ (Or.inl q)⟩
  · subst he
    refine ⟨lim.keeps z.toInCall.keep, codeAny_func ?_⟩
    obtain ⟨t, ht, hq⟩ := hb cdv A outer s H vs Q E (hr.deeper _) hg hsp
    refine wpAny_mono (ht.run [] s1 (L2.start N vs) H _ (inv_start S hr.hd e0 (len _ _ _ _ hsp) r z) hq) (fun fl s' out => ?_) fun e s' out => out
    cases fl with
    | ret u => obtain ⟨v, σ', H', J, rv, q⟩ := out; exact ⟨v, H', J.os, J.bare, J.base, J.hok, rv, q⟩
    | next => obtain ⟨σ', H', J, q⟩ := out; exact ⟨V.non, H', J.os, J.bare, J.base, J.hok, rfl, q⟩
    | brk => obtain ⟨_, _, _, q⟩ := out; exact q.elim
    | cont => obtain ⟨_, _, _, q⟩ := out; exact q.elim
end
section
variable {X : Cx} {k : Nat} {f C pa : Addr} {fd : FuncData} {ps : List Str} {sp : Sp} {dvs : List V} {ds : List Value} {pins : List (Addr × Obj)} {σ : St} {H : Hp} {s : Shared} {Q : VK} {us : List Value} {vs : List V} {E : XK}
/-- from a call's end to the expression's -/
theorem back_to (hx : PassesAt (L2.CX X.prog X.w) X σ E) (I : Inv X pins σ H s) {r : Result} {s' : Shared} (h : CR (L2.CX X.prog X.w) X.stack X.prog X.w H s Q E r s') : (∃ u, r = .ok (.ret u) ∧ EP X pins σ Q u s') ∨ ∃ e, r = .error e ∧ X.xe e s' := by
  cases r with
  | error e => exact Or.inr ⟨e, rfl, hx pins H s e s' I h⟩
  | ok fl =>
    cases fl with
    | ret u => exact Or.inl ⟨u, rfl, I.after h⟩
    | next => exact h.elim
    | brk => exact h.elim
    | cont => exact h.elim
theorem fng_run (F : FnG X.prog X.w X.K X.mg X.base k f fd ps sp) (hr : Room k X.A) (hg : X.A.guards = some []) (hb : Binds X.K fd ps ds) (hd : Vals dvs ds) (hx : PassesAt (L2.CX X.prog X.w) X σ E)
    (I : Inv X pins σ H s) (r : Vals vs us) (h : sp (vs ++ dvs) H Q E) : wpAny (model X.prog X.w) X.A (call (.ref f) us) (EP X pins σ Q) X.xe s := by
  have all : Vals (vs ++ dvs) (us ++ ds) := r.append hd
  have n : (us ++ ds).length = ps.length := all.length.symm.trans (F.len _ _ _ _ h)
  refine wpAny_call (codeAny_mono (F.run X.A X.stack s H ⟨us, []⟩ (us ++ ds) (vs ++ dvs) Q E hr hg I.env0 (hb s us I.kIn n) all h) fun q s' out => ?_)
  rcases back_to hx I out with ⟨u, rfl, z⟩ | ⟨e, rfl, z⟩
  · exact z
  · exact z
/-- with keywords -/
theorem fng_runK {ks : List Str} {m : Nat} {g : List Value → List Value → List Value} {gV : List V → List V → List V} {ws : List Value} {zs : List V} (F : FnG X.prog X.w X.K X.mg X.base k f fd ps sp) (hr : Room k X.A) (hg : X.A.guards = some []) (hb : KBn X.K fd ps m ks g gV) (hx : PassesAt (L2.CX X.prog X.w) X σ E)
    (I : Inv X pins σ H s) (r : Vals vs us) (rz : Vals zs ws) (l1 : vs.length = m) (l2 : zs.length = ks.length) (h : sp (gV vs zs) H Q E) : wpAny (model X.prog X.w) X.A (call (.ref f) us (ks.zip ws)) (EP X pins σ Q) X.xe s := by
  refine wpAny_call (codeAny_mono (F.run X.A X.stack s H ⟨us, ks.zip ws⟩ (g us ws) (gV vs zs) Q E hr hg I.env0 (hb.to s us ws I.kIn (r.length.symm.trans l1) (rz.length.symm.trans l2)) (hb.rel r rz) h) fun q s' out => ?_)
  rcases back_to hx I out with ⟨u, rfl, z⟩ | ⟨e, rfl, z⟩
  · exact z
  · exact z
/-- a new instance -/
theorem fng_make (M : Mk X.K C f) (F : FnG X.prog X.w X.K X.mg X.base k f fd ps sp) (hr : Room (k + 1) X.A) (hg : X.A.guards = some []) (hb : Binds X.K fd ps ds) (hd : Vals dvs ds) (hx : PassesAt (L2.CX X.prog X.w) X σ E) (I : Inv X pins σ H s) (r : Vals vs us)
    (h : ∀ x dx, H x = none → H dx = none → dx ≠ x → sp (.ref x :: (vs ++ dvs)) (upd (upd H dx (.own x)) x (.ins C dx [])) (fun v H2 => v = .non ∧ Q (.ref x) H2) E) : wpAny (model X.prog X.w) X.A (call (.ref C) us) (EP X pins σ Q) X.xe s := by
  have new := h (s.heap.objs.size + 1) s.heap.objs.size (I.hok.fresh (Nat.le_succ _)) (I.hok.fresh (Nat.le_refl _)) (Nat.ne_of_lt (Nat.lt_succ_self _))
  have J := Inv.made (C := C) I
  have all : Vals (V.ref (s.heap.objs.size + 1) :: (vs ++ dvs)) (Value.ref (s.heap.objs.size + 1) :: (us ++ ds)) := .cons rfl (r.append hd)
  have n : (Value.ref (s.heap.objs.size + 1) :: us ++ ds).length = ps.length := all.length.symm.trans (F.len _ _ _ _ new)
  refine wpAny_call (make_map (f := f) I.kIn M.makes M.init (beq_iff_eq.mp M.fn) (codeAny_mono (F.run _ X.stack _ _ ⟨_ :: us, []⟩ (_ :: (us ++ ds)) _ _ E (hr.make C us []) (by first | exact hg | (simpa [Around.under, Code.guards, Code.isGuard, guardIds, pushGuards] using hg)) (J.env0.make C us []) (hb _ (_ :: us) J.kIn n) all new) fun q s' out => ?_))
  rcases back_to hx J out with ⟨u, rfl, v, H', J', rv, ev, z⟩ | ⟨e, rfl, z⟩
  · subst ev
    exact ⟨rv, V.ref (s.heap.objs.size + 1), H', J', rfl, z⟩
  · exact z
/-- a property's getter, which raises nothing -/
theorem fng_prop {a dx : Addr} {fs : List (Str × V)} {n : Str} {b : Bool} {E' : Value → Shared → Prop} (I : Inv X pins σ H s) (ea : H a = some (.ins C dx fs)) (c : Cls X.K C) (hp : PropOf X.K C n pa f) (F : FnG X.prog X.w X.K X.mg X.base k f fd ps sp) (hr : Room (k + 1) X.A) (hg : X.A.guards = some []) (hb : Binds X.K fd ps [])
    (h : sp [.ref a] H Q E0) : wpAny (model X.prog X.w) X.A (getAttr (.ref a) n b) (EP X pins σ Q) E' s := by
  obtain ⟨mA, O, _, _, _, _⟩ := ins_get I.hok ea
  obtain ⟨od, J, _⟩ := O.look
  obtain ⟨rest, hrec⟩ := hp.rec_
  have there : (PySem.W.clsIn X.K C).isSome = true := by
    obtain ⟨cd, e, _⟩ := PySem.W.any_some c.hd
    rw [e]; rfl
  refine PySem.W.get_bind I.kIn J (PySem.W.plainGet_of (c.get n)).1 (PySem.W.findObj_data there hp.at_ hp.get hp.tak) (PySem.W.plainGet_of (c.get n)).2 (wpAny_call (PySem.W.prop_get (s := { s with toks := s.toks + 1 }) I.kIn hrec ?_))
  have I1 := I.tok (s.toks + 1)
  refine codeAny_mono (F.run X.A.in1 X.stack { s with toks := s.toks + 1 } H ⟨[.ref a], []⟩ ([Value.ref a] ++ []) [V.ref a] Q E0 hr.in1 hg I1.env0.in1 (hb _ [.ref a] I1.kIn ((F.len _ _ _ _ h).symm ▸ rfl)) (.cons (show RelV (V.ref a) (Value.ref a) from rfl) .nil) h) fun q s' out => ?_
  cases q with
  | error er =>
    obtain ⟨_, _, _, _, _, _, _, _, _, _, _, _, z⟩ := (show L2.CX X.prog X.w X.stack H { s with toks := s.toks + 1 } E0 er s' from out)
    exact z.elim
  | ok fl =>
    cases fl with
    | ret u =>
      obtain ⟨v, H', J', rv, z⟩ := I1.after out
      show wpAny _ _ (handedOut u) _ _ _
      rw [PySem.W.handedOut_of (handed_of rv)]
      exact wpAny_pure ⟨v, H', J', rv, z⟩
    | next => exact out.elim
    | brk => exact out.elim
    | cont => exact out.elim
end

/-! ## bodies -/
def startR (n0 N : Nat) (as : List Val) : Rho := ⟨n0, as.map some ++ List.replicate (N - as.length) none⟩
def closeV (n0 : Nat) (μ : Mu) : Val → Option Val
  | .d x => some (.d x)
  | .own k => if k < n0 then some (.own k) else (treeV 40 n0 μ (.own k)).map .d
/-- a def's body, its own cells forgotten -/
def fBody (N : Nat) (body : FS) : FF := fun as μ => match body (startR μ.length N as) μ with
  | .ok p => (match p.1 with
    | .nx => .ok (.d .non, p.2.2.take μ.length)
    | .rt v => (match closeV μ.length p.2.2 v with
      | some w => .ok (w, p.2.2.take μ.length)
      | none => .bad)
    | _ => .bad)
  | .ex e r m => .ex e r (m.take μ.length)
  | .bad => .bad
section
variable {P : Program} {w : World} {Γ : Gm} {mg : Str → Option Value} {base : Heap}
theorem start_rep {G : Gh} {μ : Mu} {H : Hp} {vs : List V} {as : List Val} {N : List Str} {n0 : Nat} (R : RepM Γ G μ H) (r : VRelL Γ G vs as) (hn : n0 ∈ G.ts) (ht : ∀ t ∈ G.ts, t ≤ n0) (hl : vs.length ≤ N.length) : Rep Γ G (startR n0 N.length as) μ (start N vs) H := by
  have hlen : vs.length = as.length := Paired.length r
  refine ⟨R, fun i v e => ?_, ?_, hn, ht⟩
  · have e : (as.map some ++ List.replicate (N.length - as.length) none)[i]? = some (some v) := e
    have hi : i < as.length := by
      by_cases hi : i < as.length
      · exact hi
      · rw [List.getElem?_append_right (by simpa using hi), List.getElem?_replicate] at e
        split at e <;> cases e
    rw [List.getElem?_append_left (by simpa using hi), List.getElem?_map] at e
    have key : ∀ {us : List V} {xs : List Val} (j : Nat), VRelL Γ G us xs → ∀ x, xs[j]? = some x → ∃ u, us[j]? = some u ∧ VRel Γ G u x := by
      intro us xs j h
      unfold VRelL at h
      induction h generalizing j with
      | nil => intro x e; simp at e
      | cons h t ih =>
        intro x e
        cases j with
        | zero => simp at e; subst e; exact ⟨_, rfl, h⟩
        | succ j => obtain ⟨u, q, z⟩ := ih j x (by simpa using e); exact ⟨u, by simpa using q, z⟩
    cases q : as[i]? with
    | none => rw [q] at e; cases e
    | some y =>
      rw [q] at e
      cases e
      obtain ⟨u, h1, h2⟩ := key i r _ q
      refine ⟨u, ?_, h2⟩
      unfold L2.start
      rw [List.getElem?_append_left (by simpa using (List.getElem?_eq_some_iff.mp h1).1), List.getElem?_map, h1]; rfl
  · unfold startR L2.start
    simp [hlen]
/-- a def's context -/
abbrev XC (P : Program) (w : World) (Γ : Gm) (mg : Str → Option Value) (base : Heap) (N : List Str) (qual : Str) (scope : Scope) (f : Addr) (cdv : Value) (A : Around) (outer : List Env) (st : Shared) (H : Hp) (E : XK) : Cx := cxOf (L2.CX P w) P w Γ.K mg base N qual scope f cdv A outer st H E
/-- THE RULE for a def -/
theorem fn_ok {x qual : Str} {params : Arguments} {body : List Stmt} {scope : Scope} {dvs : List V} {kws : List (Str × V)} {f : Addr} {fd : FuncData} {N ps : List Str} {k : Nat} {s : FS}
    (F : FunD Γ.K x qual params body scope dvs kws f fd) (S : FnScope N ps scope)
    (hb : ∀ (W : WX) (cdv : Value) (A : Around) (outer : List Env) (st : Shared) (H : Hp) (E : XK), Cz Γ W (XC P w Γ mg base N qual scope f cdv A outer st H E) k → PassesOwn (model P w) (XC P w Γ mg base N qual scope f cdv A outer st H E).A (XC P w Γ mg base N qual scope f cdv A outer st H E).env (XC P w Γ mg base N qual scope f cdv A outer st H E).xe → PSs (XC P w Γ mg base N qual scope f cdv A outer st H E) body (tZS Γ W s)) :
    FnG P w Γ.K mg base (k + 1) f fd ps (spZ Γ ps.length (fBody N.length s)) := by
  refine fng_of F S (fun vs H Q E h => h.1) fun cdv A outer st H vs Q E hr hgd h => ?_
  obtain ⟨hl, G, μ, as, R, r, p⟩ := h
  have hpl : ps.length ≤ N.length := by have := congrArg List.length S.pre; rw [List.length_take] at this; omega
  let X := cxOf (L2.CX P w) P w Γ.K mg base N qual scope f cdv A outer st H E
  have tk : Takes X (fun cls d _ H => E cls d H) := takes_of rfl rfl rfl rfl
  have po : PassesOwn (model X.prog X.w) X.A X.env X.xe := passes_of rfl
  refine ⟨tZS Γ (fun cls d _ H => E cls d H) s, hb _ cdv A outer st H E ⟨rfl, S.nd, rfl, hr, hgd, tk⟩ po, ?_⟩
  have R1 := R.pushTop
  have R2 : Rep Γ (G.push μ.length) (startR μ.length N.length as) μ (start N vs) H := by
    refine start_rep R1 ?_ List.mem_cons_self (fun t ht => ?_) (by rw [hl]; exact hpl)
    · exact Paired.imp (fun u v h => by cases v <;> exact h) r
    · rcases List.mem_cons.mp ht with e | e
      · rw [e]; exact Nat.le_refl _
      · exact (R.clo t e).1
  refine ⟨G.push μ.length, startR μ.length N.length as, μ, R2, ?_⟩
  have fin : ∀ {G' : Gh} {μ' : Mu} {H' : Hp}, Step (G.push μ.length) H G' H' → RepM Γ G' μ' H' → Step G H (G'.close H' μ.length G.ts) H' ∧ RepM Γ (G'.close H' μ.length G.ts) (μ'.take μ.length) H' := fun {G' μ' H'} st R' => by
    obtain ⟨ts, e, st2⟩ := st.push
    have ets : ts = G.ts := by
      have := st.ts
      rw [e] at this
      exact (List.cons.inj this).2
    have R2' : RepM Γ ⟨G'.F, G'.al, ts⟩ μ' H' := ⟨R'.sub, R'.len, R'.nd, fun k a c e1 e2 => CRel.mono (G := G') (G' := ⟨G'.F, G'.al, ts⟩) (fun _ _ h => h) (fun n => n) ⟨[], by simp⟩ rfl (R'.cells k a c e1 e2), R'.there, fun t ht => R'.clo t (by rw [e]; exact List.mem_cons_of_mem _ (show t ∈ ts from ht)), R'.tabs.go (fun _ _ e _ _ => e) (fun _ _ _ _ _ h => h) fun _ z => .inl z⟩
    have s3 := Step.trunc R2' st2 ets
    have ec : ∀ t, Gh.close ⟨G'.F, G'.al, ts⟩ H' t ts = G'.close H' t G.ts := fun t => by rw [ets]; rfl
    rw [ec, R.len] at s3
    refine ⟨s3, R'.trunc (by rw [e]; exact List.mem_cons_self) G.ts fun s hs => ⟨by rw [e, ets]; exact List.mem_cons_of_mem _ hs, (R.clo s hs).1⟩⟩
  unfold fBody at p
  cases e : s (startR μ.length N.length as) μ with
  | bad => rw [e] at p; exact p
  | ex er rr m =>
    rw [e] at p
    intro cls dx G' σ' H' st R' er'
    obtain ⟨s3, R3⟩ := fin st R'.toRepM
    exact p cls dx _ H' s3 R3 (ErrRel.close R'.toRepM er')
  | ok q =>
    rw [e] at p
    intro G' σ' H' st R'
    obtain ⟨s3, R3⟩ := fin st R'.toRepM
    obtain ⟨fl, ρ', μ'⟩ := q
    cases fl with
    | nx => exact p .non _ H' s3 R3 (by show Is Γ _ _ _; unfold Is; rfl)
    | rt v =>
      intro u hu
      simp only at p
      cases ec : closeV μ.length μ' v with
      | none => simp only [ec] at p; exact p.elim
      | some v' =>
        simp only [ec] at p
        refine p u _ H' s3 R3 ?_
        cases v with
        | d x => cases ec; exact Is.mono (close_same R'.toRepM _ _).1 _ _ hu
        | own j =>
          have ec : (if j < μ.length then some (Val.own j) else (treeV 40 μ.length μ' (.own j)).map .d) = some v' := ec
          by_cases hj : j < μ.length
          · rw [if_pos hj] at ec
            cases ec
            obtain ⟨a, ha, ea⟩ := hu
            exact ⟨a, by show (G'.al.take μ.length)[j]? = _; rw [List.getElem?_take_of_lt hj]; exact ha, ea⟩
          · rw [if_neg hj] at ec
            cases et : treeV 40 μ.length μ' (.own j) with
            | none => rw [et] at ec; cases ec
            | some d => rw [et] at ec; cases ec; exact tree_ok R'.toRepM _ _ 40 u (.own j) d hu et
    | bk => exact p.elim
    | ct => exact p.elim
end
end Zl
set_option Elab.async false
set_option linter.all false
set_option maxRecDepth 100000
set_option maxHeartbeats 4000000
namespace Zl
open PySem PySem.Spec L2
open PyProof.Rows hiding St

def R.at {a : Type} (ρ : Rho) : R a → R a
  | .ex e _ m => .ex e ρ m
  | r => r
@[simp] theorem R.at_ok {a : Type} (ρ : Rho) (x : a) : (R.ok x).at ρ = .ok x := rfl
@[simp] theorem R.at_bad {a : Type} (ρ : Rho) : (R.bad : R a).at ρ = .bad := rfl
@[simp] theorem R.at_ex {a : Type} (ρ : Rho) (e : Err) (r : Rho) (m : Mu) : (R.ex e r m : R a).at ρ = .ex e ρ m := rfl

section
variable {Γ : Gm} {W : WX} {X : Cx} {lv : Nat}
theorem post_fn {G : Gh} {ρ : Rho} {μ : Mu} {σ : St} {H : Hp} {Q : VK} {r : R (Val × Mu)} (R : Rep Γ G ρ μ σ H) (p : Post Γ W G ρ σ H Q (r.at ρ)) : PostF Γ G H Q (WE W σ) r := by
  cases r with
  | bad => exact p
  | ok q => exact fun u G' H' st R' v => p u G' H' st (R.go st R') v
  | ex e r m => exact fun cls dx G' H' st R' er => p cls dx G' H' st (R.go st R') er
theorem rel_app {G : Gh} {us ws : List V} {vs xs : List Val} (h : VRelL Γ G us vs) (h' : VRelL Γ G ws xs) : VRelL Γ G (us ++ ws) (vs ++ xs) := by
  unfold VRelL at h h' ⊢
  induction h with
  | nil => exact h'
  | cons h t ih => exact .cons h ih

/-! ## f(a, ..) -/
def fCall (n : Nat) (Fn : FF) (dd : List D) (g : FA) : FE := fun ρ μ => (g ρ μ).bind fun p => if p.1.length + dd.length = n then (Fn (p.1 ++ dd.map Val.d) p.2).at ρ else .bad
/-- a def that is known: by its name's value f -/
structure FnZ (Γ : Gm) (P : Program) (w : World) (mg : Str → Option Value) (base : Heap) (lv : Nat) (f : Addr) (n : Nat) (Fn : FF) (dd : List D) : Prop where
  ex : ∃ fd ps ds dvs, FnG P w Γ.K mg base lv f fd ps (spZ Γ n Fn) ∧ Binds Γ.K fd ps ds ∧ Vals dvs ds ∧ (∀ F, IsL Γ F dvs dd)
  kp : PySem.W.keepIn Γ.K (.ref f) = true
section
variable {x m : Str} {p pos apos : Pos} {e o : Expr} {es : List Expr} {f : Addr} {n : Nat} {Fn : FF} {dd : List D} {g : FA} {fe : FE}
theorem ze_call (c : Cz Γ W X lv) (F : FnZ Γ X.prog X.w X.mg X.base lv f n Fn dd) (hg : Gl X x) (hm : X.mg x = some (.ref f)) (ha : PA X (e :: es) (tZA Γ W g)) (hdb : (x == ("__debug__" : Str)) = false)
    (he : starEach (e :: es) X.env = (false, eval e X.env) :: starEach es X.env) (hpl : (backTo pos (starEach es X.env)).any (·.1) = false) : PE X (.Call (.Name x p) (e :: es) [] pos) (tZ Γ W (fCall n Fn dd g)) := by
  obtain ⟨fd, ps, ds, dvs, h1, h2, h3, h4⟩ := F.ex
  have kp := F.kp
  rw [← c.K] at h1 h2 kp
  refine ⟨fun pins s σ H Q I t => ?_⟩
  obtain ⟨G, ρ, μ, R, p⟩ := t
  refine wpAny_Call_Name_kw (ld_glob I hg hm ?_ hdb)
  refine PySem.W.callWith_K (h₀ := X.base) I.ok.mod.kin kp (thn (ha.run pos pins s σ H (fun us H1 => spZ Γ n Fn (us ++ dvs) H1 Q (WE W σ)) I ⟨G, ρ, μ, R, PostA.bind p fun us vs μ1 G1 H1 s1 R1 r1 p1 => ?_⟩) fun us s1 ⟨vs, H1, I1, r, q⟩ => ⟨I1.kIn, ?_⟩) he hpl
  · simp only at p1
    split at p1
    · rename_i hl
      refine ⟨?_, G1, μ1, vs ++ dd.map Val.d, R1.toRepM, rel_app r1 (relOf (h4 _)), post_fn R1 p1⟩
      rw [List.length_append, Paired.length r1, (h4 G1.F).length]; exact hl
    · exact p1.elim
  · exact fng_run h1 c.room c.gd h2 h3 (passAt c.tk σ) I1 r q
/-- f() -/
theorem ze_call0 (c : Cz Γ W X lv) (F : FnZ Γ X.prog X.w X.mg X.base lv f n Fn dd) (hg : Gl X x) (hm : X.mg x = some (.ref f)) (hdb : (x == ("__debug__" : Str)) = false) : PE X (.Call (.Name x p) [] [] pos) (tZ Γ W (fCall n Fn dd fANil)) := by
  obtain ⟨fd, ps, ds, dvs, h1, h2, h3, h4⟩ := F.ex
  have kp := F.kp
  rw [← c.K] at h1 h2 kp
  refine ⟨fun pins s σ H Q I h => ?_⟩
  refine wpAny_Call_Name_kw (ld_glob I hg hm ?_ hdb)
  refine PySem.W.callWith_K0 I.kIn kp (fng_run (us := []) (vs := []) h1 c.room c.gd h2 h3 (passAt c.tk σ) I .nil ?_)
  obtain ⟨G, ρ, μ, R, p⟩ := h
  unfold fCall at p
  rw [fANil, Zl.R.bind_ok] at p
  split at p
  · rename_i hl
    refine ⟨?_, G, μ, _, R.toRepM, relOf (h4 _), post_fn R p⟩
    rw [List.nil_append, (h4 G.F).length]; simpa using hl
  · exact p.elim

/-! ## o.m(a, ..) of an instance -/
def insV (μ : Mu) : Val → Option (Str × List Str × List Val)
  | .d (.ins c ns ds) => some (c, ns, ds.map Val.d)
  | .own k => (match μ[k]? with
    | some (.ins c ns vs) => some (c, ns, vs)
    | _ => none)
  | _ => none
theorem insV_ok {G : Gh} {μ : Mu} {H : Hp} {u : V} (R : RepM Γ G μ H) {v : Val} {k : Str} {ns : List Str} {vs : List Val} (r : VRel Γ G u v) (e : insV μ v = some (k, ns, vs)) :
    ∃ a C dx fus, u = .ref a ∧ Γ.cl k = some C ∧ H a = some (.ins C dx fus) ∧ fus.map (·.1) = ns ∧ VRelL Γ G (fus.map (·.2)) vs := by
  cases v with
  | d x =>
    cases x with
    | ins c ms ds =>
      cases e
      have r : Is Γ G.F u _ := r
      unfold Is at r
      obtain ⟨a, C, dx, fs, h1, h2, h3, h4, h5⟩ := r
      exact ⟨a, C, dx, fs, h1, h2, R.sub _ _ h3, h4, relOf h5⟩
    | _ => cases e
  | own j =>
    obtain ⟨a, ha, ea⟩ := r
    unfold insV at e
    cases q : μ[j]? with
    | none => simp only [q] at e; cases e
    | some c =>
      simp only [q] at e
      cases c with
      | ins c ms ws =>
        cases e
        obtain ⟨n, C, dx, fus, h1, h2, h3, h4⟩ := R.cells j a _ ha q
        exact ⟨a, C, dx, fus, ea, h1, h2, h3, h4⟩
      | _ => cases e
theorem lookup_none {α : Type} : ∀ {l : List (Str × α)} {m : Str}, m ∉ l.map (·.1) → l.lookup m = none
  | [], _, _ => rfl
  | (k, v) :: l, m, h => by
    rw [List.lookup_cons]
    have h1 : (m == k) = false := by
      rw [beq_eq_false_iff_ne]
      intro e
      exact h (by rw [e]; exact List.mem_cons_self)
    rw [h1]
    exact lookup_none fun z => h (List.mem_cons_of_mem _ z)
/-- the methods called so: by the class's tag -/
abbrev MT := Str → Option (Nat × FF)
def fMeth (m : Str) (Δ : MT) (f : FE) (g : FA) : FE := fun ρ μ => (f ρ μ).bind fun p => match insV p.2 p.1 with
  | some (k, ns, _) => if m ∈ ns then .bad else (match Δ k with
    | some (n, Fn) => (g ρ p.2).bind fun q => if q.1.length + 1 = n then (Fn (p.1 :: q.1) q.2).at ρ else .bad
    | none => .bad)
  | none => .bad
structure MtZ (Γ : Gm) (P : Program) (w : World) (mg : Str → Option Value) (base : Heap) (lv : Nat) (m : Str) (Δ : MT) : Prop where
  ex : ∀ k n Fn C, Δ k = some (n, Fn) → Γ.cl k = some C → ∃ f fd ps, Cls Γ.K C ∧ Meth Γ.K C m f ∧ FnG P w Γ.K mg base lv f fd ps (spZ Γ n Fn) ∧ Binds Γ.K fd ps []
theorem ze_meth {pl : Sem Bool} (c : Cz Γ W X lv) {Δ : MT} (F : MtZ Γ X.prog X.w X.mg X.base lv m Δ) (ho : PE X o (tZ Γ W fe)) (ha : PA X (e :: es) (tZA Γ W g))
    (hst : starEach (e :: es) X.env = (false, eval e X.env) :: starEach es X.env) (hpl : (backTo pos (starEach es X.env)).any (·.1) = false)
    (ht : eval (.Call (.Attribute o m apos) (e :: es) [] pos) X.env = (do
      let ov ← eval o X.env
      standAt apos.atName
      let (f, first) ← holding [ov] (getMethod ov m pl)
      callWith pos f first (backTo pos (starEach (e :: es) X.env)) (backToKw pos (keywordEach [] X.env)))) :
    PE X (.Call (.Attribute o m apos) (e :: es) [] pos) (tZ Γ W (fMeth m Δ fe g)) := by
  refine ⟨fun pins s σ H Q I h => ?_⟩
  obtain ⟨G, ρ, μ, R, p⟩ := h
  refine PySem.W.methodCall_KW (pl := pl) (thn (ho.run pins s σ H (fun x H1 => ∃ a k C dx fus n Fn v μ1 G1, x = .ref a ∧ Γ.cl k = some C ∧ H1 a = some (.ins C dx fus) ∧ fus.lookup m = none ∧ Δ k = some (n, Fn) ∧ Rep Γ G1 ρ μ1 σ H1 ∧ VRel Γ G1 (.ref a) v ∧
      Post Γ W G1 ρ σ H1 Q ((g ρ μ1).bind fun q => if q.1.length + 1 = n then (Fn (v :: q.1) q.2).at ρ else .bad)) I ⟨G, ρ, μ, R, Post.bind p fun u v μ1 G1 H1 s1 R1 r1 p1 => ?_⟩) fun u s1 ⟨x, H1, I1, rx, a, k, C, dx, fus, n, Fn, v, μ1, G1, ex, hC, ea, lk, hD, R1, rv, p1⟩ => ?_) ht
  · simp only at p1
    cases ei : insV μ1 v with
    | none => simp only [ei] at p1; exact p1.elim
    | some t =>
      obtain ⟨k, ns, vs⟩ := t
      simp only [ei] at p1
      split at p1
      · exact p1.elim
      · rename_i hm
        cases hD : Δ k with
        | none => simp only [hD] at p1; exact p1.elim
        | some q =>
          obtain ⟨n, Fn⟩ := q
          simp only [hD] at p1
          obtain ⟨a, C, dx, fus, h1, h2, h3, h4, h5⟩ := insV_ok R1.toRepM r1 ei
          exact ⟨a, k, C, dx, fus, n, Fn, v, μ1, G1, h1, h2, h3, lookup_none (by rw [h4]; exact hm), hD, R1, by rw [← h1]; exact r1, p1⟩
  · subst ex
    obtain rfl : u = Value.ref a := rx
    obtain ⟨f, fd, ps, hc, hm, hF, hb⟩ := F.ex k n Fn C hD hC
    rw [← c.K] at hc hm hF hb
    refine getmeth_ok I1 ea hc hm lk ?_
    refine PySem.W.callWith_K (first := [.ref a]) (h₀ := X.base) I.ok.mod.kin hm.kp (thn (ha.run pos pins s1 σ H1 (fun us H2 => spZ Γ n Fn (.ref a :: us) H2 Q (WE W σ)) I1 ⟨G1, ρ, μ1, R1, PostA.bind p1 fun us vs μ2 G2 H2 s2 R2 r2 p2 => ?_⟩) fun us s2 ⟨vs, H2, I2, r, q2⟩ => ⟨I2.kIn, ?_⟩) hst hpl
    · simp only at p2
      split at p2
      · rename_i hl
        refine ⟨?_, G2, μ2, v :: vs, R2.toRepM, .cons (VRel.mono s2 rv) r2, post_fn R2 p2⟩
        rw [List.length_cons, Paired.length r2]; exact hl
      · exact p2.elim
    · exact fng_run (us := .ref a :: us) (vs := .ref a :: vs) hF c.room c.gd hb .nil (passAt c.tk σ) I2 (.cons rfl r) (by rw [List.append_nil]; exact q2)
/-- o.m() -/
theorem ze_meth0 {pl : Sem Bool} (c : Cz Γ W X lv) {Δ : MT} (F : MtZ Γ X.prog X.w X.mg X.base lv m Δ) (ho : PE X o (tZ Γ W fe))
    (ht : eval (.Call (.Attribute o m apos) [] [] pos) X.env = (do
      let ov ← eval o X.env
      standAt apos.atName
      let (f, first) ← holding [ov] (getMethod ov m pl)
      callWith pos f first (backTo pos (starEach [] X.env)) (backToKw pos (keywordEach [] X.env)))) :
    PE X (.Call (.Attribute o m apos) [] [] pos) (tZ Γ W (fMeth m Δ fe fANil)) := by
  refine ⟨fun pins s σ H Q I h => ?_⟩
  obtain ⟨G, ρ, μ, R, p⟩ := h
  refine PySem.W.methodCall_KW (pl := pl) (thn (ho.run pins s σ H (fun x H1 => ∃ a k C dx fus n Fn v μ1 G1, x = .ref a ∧ Γ.cl k = some C ∧ H1 a = some (.ins C dx fus) ∧ fus.lookup m = none ∧ Δ k = some (n, Fn) ∧ Rep Γ G1 ρ μ1 σ H1 ∧ VRel Γ G1 (.ref a) v ∧
      Post Γ W G1 ρ σ H1 Q (if 0 + 1 = n then (Fn [v] μ1).at ρ else .bad)) I ⟨G, ρ, μ, R, Post.bind p fun u v μ1 G1 H1 s1 R1 r1 p1 => ?_⟩) fun u s1 ⟨x, H1, I1, rx, a, k, C, dx, fus, n, Fn, v, μ1, G1, ex, hC, ea, lk, hD, R1, rv, p1⟩ => ?_) ht
  · simp only at p1
    cases ei : insV μ1 v with
    | none => simp only [ei] at p1; exact p1.elim
    | some t =>
      obtain ⟨k, ns, vs⟩ := t
      simp only [ei] at p1
      split at p1
      · exact p1.elim
      · rename_i hm
        cases hD : Δ k with
        | none => simp only [hD] at p1; exact p1.elim
        | some q =>
          obtain ⟨n, Fn⟩ := q
          simp only [hD] at p1
          obtain ⟨a, C, dx, fus, h1, h2, h3, h4, h5⟩ := insV_ok R1.toRepM r1 ei
          exact ⟨a, k, C, dx, fus, n, Fn, v, μ1, G1, h1, h2, h3, lookup_none (by rw [h4]; exact hm), hD, R1, by rw [← h1]; exact r1, p1⟩
  · subst ex
    obtain rfl : u = Value.ref a := rx
    obtain ⟨f, fd, ps, hc, hm, hF, hb⟩ := F.ex k n Fn C hD hC
    rw [← c.K] at hc hm hF hb
    refine getmeth_ok I1 ea hc hm lk ?_
    refine PySem.W.callWith_K0 (first := [.ref a]) I1.kIn hm.kp (fng_run (us := [.ref a]) (vs := [.ref a]) hF c.room c.gd hb .nil (passAt c.tk σ) I1 (.cons rfl .nil) ?_)
    split at p1
    · rename_i hl
      refine ⟨by simpa using hl, G1, μ1, [v], R1.toRepM, .cons rv .nil, post_fn R1 p1⟩
    · exact p1.elim

/-! ## fields and properties -/
def getF : List Str → List Val → Str → Option Val
  | n :: ns, v :: vs, x => if x = n then some v else getF ns vs x
  | _, _, _ => none
theorem getF_ok {G : Gh} : ∀ {fus : List (Str × V)} {vs : List Val} {x : Str} {v : Val}, VRelL Γ G (fus.map (·.2)) vs → getF (fus.map (·.1)) vs x = some v → ∃ u, fus.lookup x = some u ∧ VRel Γ G u v
  | [], vs, x, v, h, e => by cases vs <;> cases e
  | q :: fus, vs, x, v, h, e => by
    cases h with
    | cons h t =>
      rename_i w ws
      have e' : (if x = q.1 then some w else getF (fus.map (·.1)) ws x) = some v := e
      rw [List.lookup_cons]
      by_cases c : x = q.1
      · rw [if_pos c] at e'
        cases e'
        have hb : (x == q.1) = true := by rw [c]; exact beq_self_eq_true _
        rw [hb]
        exact ⟨q.2, rfl, h⟩
      · rw [if_neg c] at e'
        have hb : (x == q.1) = false := beq_eq_false_iff_ne.mpr c
        rw [hb]
        exact getF_ok t e'
def fFld (x : Str) (f : FE) : FE := fun ρ μ => (f ρ μ).bind fun p => match insV p.2 p.1 with
  | some (_, ns, vs) => (match getF ns vs x with
    | some v => .ok (v, p.2)
    | none => .bad)
  | none => .bad
theorem ze_fld (c : Cz Γ W X lv) (hA : ∀ k C, Γ.cl k = some C → Cls Γ.K C ∧ NoAttr Γ.K C x) (ho : PE X o (tZ Γ W fe)) (hb : attributeBase o x X.env (eval o X.env) = eval o X.env) : PE X (.Attribute o x pos) (tZ Γ W (fFld x fe)) := by
  refine PE.imp (pe_fld ho hb) fun σ H Q t => ?_
  obtain ⟨G, ρ, μ, R, p⟩ := t
  refine ⟨G, ρ, μ, R, Post.bind p fun u v μ1 G1 H1 s1 R1 r1 p1 => ?_⟩
  simp only at p1
  cases ei : insV μ1 v with
  | none => simp only [ei] at p1; exact p1.elim
  | some t =>
    obtain ⟨k, ns, vs⟩ := t
    simp only [ei] at p1
    cases eg : getF ns vs x with
    | none => simp only [eg] at p1; exact p1.elim
    | some z =>
      simp only [eg] at p1
      obtain ⟨a, C, dx, fus, h1, h2, h3, h4, h5⟩ := insV_ok R1.toRepM r1 ei
      subst h4
      obtain ⟨y, k1, k2⟩ := getF_ok h5 eg
      obtain ⟨q1, q2⟩ := hA _ _ h2
      exact ⟨a, C, dx, fus, y, h1, h3, by rw [c.K]; exact q1, by rw [c.K]; exact q2, k1, Post.here R1 p1 k2⟩
def fProp (Δ : MT) (f : FE) : FE := fun ρ μ => (f ρ μ).bind fun p => match insV p.2 p.1 with
  | some (k, _, _) => (match Δ k with
    | some (n, Fn) => if n = 1 then (Fn [p.1] p.2).noex else .bad
    | none => .bad)
  | none => .bad
structure PrZ (Γ : Gm) (P : Program) (w : World) (mg : Str → Option Value) (base : Heap) (lv : Nat) (m : Str) (Δ : MT) : Prop where
  ex : ∀ k n Fn C, Δ k = some (n, Fn) → Γ.cl k = some C → ∃ f pa fd ps, Cls Γ.K C ∧ PropOf Γ.K C m pa f ∧ FnG P w Γ.K mg base lv f fd ps (spZ Γ n Fn) ∧ Binds Γ.K fd ps []
theorem ze_prop (c : Cz Γ W X (lv + 1)) {Δ : MT} (F : PrZ Γ X.prog X.w X.mg X.base lv x Δ) (ho : PE X o (tZ Γ W fe)) (hb : attributeBase o x X.env (eval o X.env) = eval o X.env) : PE X (.Attribute o x pos) (tZ Γ W (fProp Δ fe)) := by
  refine ⟨fun pins s σ H Q I h => ?_⟩
  obtain ⟨G, ρ, μ, R, p⟩ := h
  refine attr_of hb (thn (ho.run pins s σ H (fun x H1 => ∃ a k C dx fus Fn, x = .ref a ∧ Γ.cl k = some C ∧ H1 a = some (.ins C dx fus) ∧ Δ k = some (1, Fn) ∧ spZ Γ 1 Fn [.ref a] H1 Q E0) I ⟨G, ρ, μ, R, Post.bind p fun u v μ1 G1 H1 s1 R1 r1 p1 => ?_⟩) fun u s1 ⟨y, H1, I1, rx, a, k, C, dx, fus, Fn, ex, hC, ea, hD, q⟩ => ?_)
  · simp only at p1
    cases ei : insV μ1 v with
    | none => simp only [ei] at p1; exact p1.elim
    | some t =>
      obtain ⟨k, ns, vs⟩ := t
      simp only [ei] at p1
      cases hD : Δ k with
      | none => simp only [hD] at p1; exact p1.elim
      | some q =>
        obtain ⟨n, Fn⟩ := q
        simp only [hD] at p1
        split at p1
        · rename_i hn
          subst hn
          obtain ⟨a, C, dx, fus, h1, h2, h3, h4, h5⟩ := insV_ok R1.toRepM r1 ei
          refine ⟨a, k, C, dx, fus, Fn, h1, h2, h3, hD, rfl, G1, μ1, [v], R1.toRepM, .cons (by rw [← h1]; exact r1) .nil, ?_⟩
          cases ef : Fn [v] μ1 with
          | bad => rw [ef] at p1; exact p1.elim
          | ex _ _ _ => rw [ef] at p1; exact p1.elim
          | ok z => rw [ef] at p1; exact fun u G' H' st R' v => p1 u G' H' st (R1.go st R') v
        · exact p1.elim
  · subst ex
    obtain rfl : u = Value.ref a := rx
    obtain ⟨f, pa, fd, ps, hc, hp, hF, hb⟩ := F.ex k 1 Fn C hD hC
    rw [← c.K] at hc hp hF hb
    exact fng_prop I1 ea hc hp hF c.room c.gd hb q
end
end
end Zl
set_option Elab.async false
set_option linter.all false
set_option maxRecDepth 100000
set_option maxHeartbeats 4000000
namespace Zl
open PySem PySem.Spec L2
open PyProof.Rows hiding St

/-! ## a def that keeps its cells (a maker of live things); an __init__ -/
def fBodyK (N : Nat) (off : Nat) (body : FS) : FF := fun as μ => match body (startR (μ.length - off) N as) μ with
  | .ok p => (match p.1 with
    | .nx => .ok (.d .non, p.2.2)
    | .rt v => .ok (v, p.2.2)
    | _ => .bad)
  | .ex e r m => .ex e r m
  | .bad => .bad
/-- the promise of an __init__: the new object's cell is the last one -/
def spI (Γ : Gm) (n : Nat) (F : FF) : Sp := fun vs H Q E => vs.length = n ∧ ∃ G μ as, RepM Γ G μ H ∧ VRelL Γ G vs as ∧ (μ.length - 1 ∈ G.ts ∧ ∀ t ∈ G.ts, t ≤ μ.length - 1) ∧ PostF Γ G H Q E (F as μ)
section
variable {P : Program} {w : World} {Γ : Gm} {mg : Str → Option Value} {base : Heap}
theorem fn_okI {x qual : Str} {params : Arguments} {body : List Stmt} {scope : Scope} {dvs : List V} {kws : List (Str × V)} {f : Addr} {fd : FuncData} {N ps : List Str} {k : Nat} {s : FS}
    (F : FunD Γ.K x qual params body scope dvs kws f fd) (S : FnScope N ps scope)
    (hb : ∀ (W : WX) (cdv : Value) (A : Around) (outer : List Env) (st : Shared) (H : Hp) (E : XK), Cz Γ W (XC P w Γ mg base N qual scope f cdv A outer st H E) k → PassesOwn (model P w) (XC P w Γ mg base N qual scope f cdv A outer st H E).A (XC P w Γ mg base N qual scope f cdv A outer st H E).env (XC P w Γ mg base N qual scope f cdv A outer st H E).xe → PSs (XC P w Γ mg base N qual scope f cdv A outer st H E) body (tZS Γ W s)) :
    FnG P w Γ.K mg base (k + 1) f fd ps (spI Γ ps.length (fBodyK N.length 1 s)) := by
  refine fng_of F S (fun vs H Q E h => h.1) fun cdv A outer st H vs Q E hr hgd h => ?_
  obtain ⟨hl, G, μ, as, R, r, ⟨ht1, ht2⟩, p⟩ := h
  have hpl : ps.length ≤ N.length := by have := congrArg List.length S.pre; rw [List.length_take] at this; omega
  let X := cxOf (L2.CX P w) P w Γ.K mg base N qual scope f cdv A outer st H E
  have tk : Takes X (fun cls d _ H => E cls d H) := takes_of rfl rfl rfl rfl
  have po : PassesOwn (model X.prog X.w) X.A X.env X.xe := passes_of rfl
  refine ⟨tZS Γ (fun cls d _ H => E cls d H) s, hb _ cdv A outer st H E ⟨rfl, S.nd, rfl, hr, hgd, tk⟩ po, ?_⟩
  refine ⟨G, startR (μ.length - 1) N.length as, μ, start_rep R r ht1 ht2 (by rw [hl]; exact hpl), ?_⟩
  unfold fBodyK at p
  cases e : s (startR (μ.length - 1) N.length as) μ with
  | bad => rw [e] at p; exact p
  | ex er rr m =>
    rw [e] at p
    exact fun cls dx G' σ' H' st R' er' => p cls dx G' H' st R'.toRepM er'
  | ok q =>
    rw [e] at p
    intro G' σ' H' st R'
    obtain ⟨fl, ρ', μ'⟩ := q
    cases fl with
    | nx => exact p .non G' H' st R'.toRepM (by show Is Γ _ _ _; unfold Is; rfl)
    | rt v => exact fun u hu => p u G' H' st R'.toRepM hu
    | bk => exact p.elim
    | ct => exact p.elim
theorem RepM.pop {G : Gh} {μ : Mu} {H : Hp} {ts : List Nat} (R : RepM Γ G μ H) (h : ∀ t ∈ ts, t ∈ G.ts) : RepM Γ ⟨G.F, G.al, ts⟩ μ H :=
  ⟨R.sub, R.len, R.nd, fun k a c e1 e2 => CRel.mono (G := G) (G' := ⟨G.F, G.al, ts⟩) (fun _ _ h => h) (fun n => n) ⟨[], by simp⟩ rfl (R.cells k a c e1 e2), R.there, fun t ht => R.clo t (h t ht), R.tabs.go (fun _ _ e _ _ => e) (fun _ _ _ _ _ h => h) fun _ z => .inl z⟩
/-- a def whose new cells stay -/
theorem fn_okK {x qual : Str} {params : Arguments} {body : List Stmt} {scope : Scope} {dvs : List V} {kws : List (Str × V)} {f : Addr} {fd : FuncData} {N ps : List Str} {k : Nat} {s : FS}
    (F : FunD Γ.K x qual params body scope dvs kws f fd) (S : FnScope N ps scope)
    (hb : ∀ (W : WX) (cdv : Value) (A : Around) (outer : List Env) (st : Shared) (H : Hp) (E : XK), Cz Γ W (XC P w Γ mg base N qual scope f cdv A outer st H E) k → PassesOwn (model P w) (XC P w Γ mg base N qual scope f cdv A outer st H E).A (XC P w Γ mg base N qual scope f cdv A outer st H E).env (XC P w Γ mg base N qual scope f cdv A outer st H E).xe → PSs (XC P w Γ mg base N qual scope f cdv A outer st H E) body (tZS Γ W s)) :
    FnG P w Γ.K mg base (k + 1) f fd ps (spZ Γ ps.length (fBodyK N.length 0 s)) := by
  refine fng_of F S (fun vs H Q E h => h.1) fun cdv A outer st H vs Q E hr hgd h => ?_
  obtain ⟨hl, G, μ, as, R, r, p⟩ := h
  have hpl : ps.length ≤ N.length := by have := congrArg List.length S.pre; rw [List.length_take] at this; omega
  let X := cxOf (L2.CX P w) P w Γ.K mg base N qual scope f cdv A outer st H E
  have tk : Takes X (fun cls d _ H => E cls d H) := takes_of rfl rfl rfl rfl
  have po : PassesOwn (model X.prog X.w) X.A X.env X.xe := passes_of rfl
  refine ⟨tZS Γ (fun cls d _ H => E cls d H) s, hb _ cdv A outer st H E ⟨rfl, S.nd, rfl, hr, hgd, tk⟩ po, ?_⟩
  have R1 := R.pushTop
  have R2 : Rep Γ (G.push μ.length) (startR μ.length N.length as) μ (L2.start N vs) H := by
    refine start_rep R1 ?_ List.mem_cons_self (fun t ht => ?_) (by rw [hl]; exact hpl)
    · exact Paired.imp (fun u v h => by cases v <;> exact h) r
    · rcases List.mem_cons.mp ht with e | e
      · rw [e]; exact Nat.le_refl _
      · exact (R.clo t e).1
  refine ⟨G.push μ.length, startR μ.length N.length as, μ, R2, ?_⟩
  have fin : ∀ {G' : Gh} {μ' : Mu} {H' : Hp}, Step (G.push μ.length) H G' H' → RepM Γ G' μ' H' → Step G H ⟨G'.F, G'.al, G.ts⟩ H' ∧ RepM Γ ⟨G'.F, G'.al, G.ts⟩ μ' H' := fun {G' μ' H'} st R' =>
    ⟨⟨st.fz, st.al, rfl, st.keep, st.newF, st.newA, st.there⟩, R'.pop fun t ht => by rw [st.ts]; exact List.mem_cons_of_mem _ ht⟩
  have vr : ∀ {G' : Gh} {u : V} {v : Val}, VRel Γ G' u v → VRel Γ ⟨G'.F, G'.al, G.ts⟩ u v := fun {G' u v} h => by cases v <;> exact h
  unfold fBodyK at p
  rw [Nat.sub_zero] at p
  cases e : s (startR μ.length N.length as) μ with
  | bad => rw [e] at p; exact p
  | ex er rr m =>
    rw [e] at p
    intro cls dx G' σ' H' st R' er'
    obtain ⟨s3, R3⟩ := fin st R'.toRepM
    exact p cls dx _ H' s3 R3 er'
  | ok q =>
    rw [e] at p
    intro G' σ' H' st R'
    obtain ⟨s3, R3⟩ := fin st R'.toRepM
    obtain ⟨fl, ρ', μ'⟩ := q
    cases fl with
    | nx => exact p .non _ H' s3 R3 (by show Is Γ _ _ _; unfold Is; rfl)
    | rt v => exact fun u hu => p u _ H' s3 R3 (vr hu)
    | bk => exact p.elim
    | ct => exact p.elim
end

/-! ## C(a, ..) -/
/-- live: the instance stays live; else it is frozen -/
def fMake (k : Str) (n : Nat) (Fi : FF) (dd : List D) (live : Bool) (g : FA) : FE := fun ρ μ => (g ρ μ).bind fun p => if p.1.length + dd.length + 1 = n then (match Fi (.own p.2.length :: (p.1 ++ dd.map Val.d)) (p.2 ++ [.ins k [] []]) with
  | .ok q => (match q.1 with
    | .d .non => if live = true then .ok (.own p.2.length, q.2) else (match treeV 40 p.2.length q.2 (.own p.2.length) with
      | some x => .ok (.d x, q.2.take p.2.length)
      | none => .bad)
    | _ => .bad)
  | .ex e _ m => .ex e ρ (m.take p.2.length)
  | .bad => .bad) else .bad
structure MkZ (Γ : Gm) (P : Program) (w : World) (mg : Str → Option Value) (base : Heap) (lv : Nat) (k : Str) (C : Addr) (n : Nat) (Fi : FF) (dd : List D) : Prop where
  cl : Γ.cl k = some C
  ex : ∃ f fd ps ds dvs, Mk Γ.K C f ∧ FnG P w Γ.K mg base lv f fd ps (spI Γ n Fi) ∧ Binds Γ.K fd ps ds ∧ Vals dvs ds ∧ (∀ F, IsL Γ F dvs dd)
section
variable {Γ : Gm} {W : WX} {X : Cx} {lv : Nat} {x : Str} {p pos : Pos} {e : Expr} {es : List Expr} {C : Addr} {n : Nat} {k : Str} {Fi : FF} {dd : List D} {g : FA} {live : Bool}
/-- the promise of __init__ at a new instance -/
theorem make_sp {G : Gh} {ρ : Rho} {μ : Mu} {σ : St} {H : Hp} {Q : VK} {vs : List V} {as : List Val} {dvs : List V} (hC : Γ.cl k = some C) (hdd : ∀ F, IsL Γ F dvs dd) (R : Rep Γ G ρ μ σ H) (r : VRelL Γ G vs as)
    (p : Post Γ W G ρ σ H Q (if as.length + dd.length + 1 = n then (match Fi (.own μ.length :: (as ++ dd.map Val.d)) (μ ++ [.ins k [] []]) with
      | .ok q => (match q.1 with
        | .d .non => if live = true then .ok (.own μ.length, q.2) else (match treeV 40 μ.length q.2 (.own μ.length) with
          | some x => .ok (.d x, q.2.take μ.length)
          | none => .bad)
        | _ => .bad)
      | .ex e _ m => .ex e ρ (m.take μ.length)
      | .bad => .bad) else .bad)) (x dx : Addr) (hx : H x = none) (hdx : H dx = none) (ne : dx ≠ x) :
    spI Γ n Fi (.ref x :: (vs ++ dvs)) (upd (upd H dx (.own x)) x (.ins C dx [])) (fun v H2 => v = .non ∧ Q (.ref x) H2) (WE W σ) := by
  split at p
  · rename_i hl
    have R1 : RepM Γ (G.push μ.length) μ (upd H dx (.own x)) := (R.toRepM.other hdx).pushTop
    have hx1 : upd H dx (.own x) x = none := by rw [upd_ne ne.symm]; exact hx
    have R2 : RepM Γ ((G.push μ.length).lvn x) (μ ++ [.ins k [] []]) (upd (upd H dx (.own x)) x (.ins C dx [])) := R1.lvNew hx1 ⟨R.toRepM.Fnone hx, C, dx, [], hC, upd_same, rfl, .nil⟩
    have st : Step G H ⟨G.F, G.al ++ [x], G.ts⟩ (upd (upd H dx (.own x)) x (.ins C dx [])) := (Step.other hdx).trans (RepM.stepLv (G := G) hx1)
    have vx : VRel Γ ((G.push μ.length).lvn x) (.ref x) (.own μ.length) := ⟨x, by show (G.al ++ [x])[μ.length]? = _; rw [← R.toRepM.len]; simp, rfl⟩
    have up : ∀ {us : List V} {vs : List Val}, VRelL Γ G us vs → VRelL Γ ((G.push μ.length).lvn x) us vs := fun h => Paired.imp (fun u v h => VRel.lvn (G := G.push μ.length) (by cases v <;> exact h)) h
    refine ⟨?_, (G.push μ.length).lvn x, μ ++ [.ins k [] []], .own μ.length :: (as ++ dd.map Val.d), R2, .cons vx (rel_app (up r) (up (relOf (hdd G.F)))), ⟨?_, fun t ht => ?_⟩, ?_⟩
    · rw [List.length_cons, List.length_append, Paired.length r, (hdd G.F).length]; exact hl
    · show (μ ++ [Cell.ins k [] []]).length - 1 ∈ μ.length :: G.ts
      simp
    · rw [List.length_append, List.length_singleton, Nat.add_sub_cancel]
      rcases List.mem_cons.mp (show t ∈ μ.length :: G.ts from ht) with e | e
      · rw [e]; exact Nat.le_refl _
      · exact (R.toRepM.clo t e).1
    · -- from the outcome of __init__ to the call's
      have back : ∀ {G' : Gh} {H' : Hp} {μ' : Mu}, Step ((G.push μ.length).lvn x) (upd (upd H dx (.own x)) x (.ins C dx [])) G' H' → RepM Γ G' μ' H' →
          Step G H ⟨G'.F, G'.al, G.ts⟩ H' ∧ RepM Γ ⟨G'.F, G'.al, G.ts⟩ μ' H' ∧ Step G H (G'.close H' μ.length G.ts) H' ∧ RepM Γ (G'.close H' μ.length G.ts) (μ'.take μ.length) H' := fun {G' H' μ'} s R' => by
        have s1 : Step ⟨G.F, G.al ++ [x], G.ts⟩ (upd (upd H dx (.own x)) x (.ins C dx [])) ⟨G'.F, G'.al, G.ts⟩ H' := ⟨s.fz, s.al, rfl, s.keep, s.newF, s.newA, s.there⟩
        have s2 := st.trans s1
        have tsE : G'.ts = μ.length :: G.ts := s.ts
        have Rp : RepM Γ ⟨G'.F, G'.al, G.ts⟩ μ' H' := R'.pop fun t ht => by rw [tsE]; exact List.mem_cons_of_mem _ ht
        have s3 := s2.trunc Rp rfl
        rw [R.toRepM.len] at s3
        exact ⟨s2, Rp, s3, R'.trunc (by rw [tsE]; exact List.mem_cons_self) G.ts fun s hs => ⟨by rw [tsE]; exact List.mem_cons_of_mem _ hs, (R.toRepM.clo s hs).1⟩⟩
      cases ef : Fi (.own μ.length :: (as ++ dd.map Val.d)) (μ ++ [.ins k [] []]) with
      | bad => rw [ef] at p; exact p
      | ex er rr m =>
        rw [ef] at p
        intro cls d0 G' H' s R' er'
        obtain ⟨s2, Rp, s3, R3⟩ := back s R'
        exact p cls d0 _ H' s3 (R.go s3 R3) (ErrRel.close R' er')
      | ok q =>
        rw [ef] at p
        obtain ⟨v, μ'⟩ := q
        intro u G' H' s R' hu
        obtain ⟨s2, Rp, s3, R3⟩ := back s R'
        simp only at p
        split at p
        · have eu : u = .non := VRel.non_ hu
          refine ⟨eu, ?_⟩
          have vx' : VRel Γ G' (.ref x) (.own μ.length) := VRel.mono s vx
          cases live with
          | true =>
            rw [if_pos rfl] at p
            exact p (.ref x) _ H' s2 (R.go s2 Rp) vx'
          | false =>
            rw [if_neg Bool.false_ne_true] at p
            cases et : treeV 40 μ.length μ' (.own μ.length) with
            | none => simp only [et] at p; exact p.elim
            | some d => simp only [et] at p; exact p (.ref x) _ H' s3 (R.go s3 R3) (tree_ok R' _ _ 40 _ _ d vx' et)
        · exact p.elim
  · exact p.elim
theorem ze_make (c : Cz Γ W X (lv + 1)) (M : MkZ Γ X.prog X.w X.mg X.base lv k C n Fi dd) (hg : Gl X x) (hm : X.mg x = some (.ref C)) (ha : PA X (e :: es) (tZA Γ W g)) (hdb : (x == ("__debug__" : Str)) = false)
    (he : starEach (e :: es) X.env = (false, eval e X.env) :: starEach es X.env) (hpl : (backTo pos (starEach es X.env)).any (·.1) = false) : PE X (.Call (.Name x p) (e :: es) [] pos) (tZ Γ W (fMake k n Fi dd live g)) := by
  obtain ⟨f, fd, ps, ds, dvs, h0, h1, h2, h3, h4⟩ := M.ex
  rw [← c.K] at h0 h1 h2
  refine ⟨fun pins s σ H Q I h => ?_⟩
  obtain ⟨G, ρ, μ, R, q⟩ := h
  refine wpAny_Call_Name_kw (ld_glob I hg hm ?_ hdb)
  refine PySem.W.callWith_K (h₀ := X.base) I.ok.mod.kin h0.kp (thn (ha.run pos pins s σ H (fun vs H1 => ∀ x dx, H1 x = none → H1 dx = none → dx ≠ x → spI Γ n Fi (.ref x :: (vs ++ dvs)) (upd (upd H1 dx (.own x)) x (.ins C dx [])) (fun v H2 => v = .non ∧ Q (.ref x) H2) (WE W σ)) I
    ⟨G, ρ, μ, R, PostA.bind q fun us vs μ1 G1 H1 s1 R1 r1 p1 => fun x dx hx hdx ne => make_sp M.cl h4 R1 r1 p1 x dx hx hdx ne⟩) fun us s1 ⟨vs, H1, I1, r, q⟩ => ⟨I1.kIn, ?_⟩) he hpl
  exact fng_make h0 h1 c.room c.gd h2 h3 (passAt c.tk σ) I1 r q
theorem ze_make0 (c : Cz Γ W X (lv + 1)) (M : MkZ Γ X.prog X.w X.mg X.base lv k C n Fi dd) (hg : Gl X x) (hm : X.mg x = some (.ref C)) (hdb : (x == ("__debug__" : Str)) = false) : PE X (.Call (.Name x p) [] [] pos) (tZ Γ W (fMake k n Fi dd live fANil)) := by
  obtain ⟨f, fd, ps, ds, dvs, h0, h1, h2, h3, h4⟩ := M.ex
  rw [← c.K] at h0 h1 h2
  refine ⟨fun pins s σ H Q I h => ?_⟩
  obtain ⟨G, ρ, μ, R, q⟩ := h
  refine wpAny_Call_Name_kw (ld_glob I hg hm ?_ hdb)
  exact PySem.W.callWith_K0 I.kIn h0.kp (fng_make (us := []) (vs := []) h0 h1 c.room c.gd h2 h3 (passAt c.tk σ) I .nil fun x dx hx hdx ne => make_sp (as := []) M.cl h4 R .nil q x dx hx hdx ne)
end
end Zl
set_option Elab.async false
set_option linter.all false
set_option maxRecDepth 100000
set_option maxHeartbeats 4000000
namespace Zl
open PySem PySem.Spec L2
open PyProof.Rows hiding St

/-! ## live objects change -/
/-- may the cell k hold this value? -/
def okW (n0 k : Nat) : Val → Bool
  | .d _ => true
  | .own j => decide (n0 ≤ k ∨ j < k)
def putP : List Str → List Val → Str → Val → List Str × List Val
  | n :: ns, v :: vs, x, w => if n = x then (n :: ns, w :: vs) else let r := putP ns vs x w; (n :: r.1, v :: r.2)
  | _, _, x, w => ([x], [w])
def repK {κ : Type} [DecidableEq κ] : List κ → List Val → κ → Val → List Val
  | j :: ks, w :: vs, k, v => (if j = k then v else w) :: repK ks vs k v
  | _, _, _, _ => []
def putKs {κ : Type} [DecidableEq κ] (ks : List κ) (vs : List Val) (k : κ) (v : Val) : List κ × List Val := if k ∈ ks then (ks, repK ks vs k v) else (ks ++ [k], vs ++ [v])
section
variable {Γ : Gm} {W : WX} {X : Cx} {lv : Nat} {G : Gh} {ρ : Rho} {μ : Mu} {σ : St} {H : Hp}
theorem putP_ok : ∀ {fus : List (Str × V)} {vs : List Val} {x : Str} {u : V} {w : Val}, VRelL Γ G (fus.map (·.2)) vs → VRel Γ G u w →
    (putF x u fus).map (·.1) = (putP (fus.map (·.1)) vs x w).1 ∧ VRelL Γ G ((putF x u fus).map (·.2)) (putP (fus.map (·.1)) vs x w).2
  | [], vs, x, u, w, h, r => by
    have h : VRelL Γ G [] vs := h
    cases h
    exact ⟨rfl, .cons r .nil⟩
  | q :: fus, vs, x, u, w, h, r => by
    cases h with
    | cons h t =>
      rename_i y ys
      obtain ⟨g, z⟩ := q
      obtain ⟨i1, i2⟩ := putP_ok (x := x) t r
      show (List.map (·.1) (if g = x then (g, u) :: fus else (g, z) :: putF x u fus) = (if g = x then (g :: fus.map (·.1), w :: ys) else (g :: (putP (fus.map (·.1)) ys x w).1, y :: (putP (fus.map (·.1)) ys x w).2)).1) ∧
        VRelL Γ G (List.map (·.2) (if g = x then (g, u) :: fus else (g, z) :: putF x u fus)) (if g = x then (g :: fus.map (·.1), w :: ys) else (g :: (putP (fus.map (·.1)) ys x w).1, y :: (putP (fus.map (·.1)) ys x w).2)).2
      by_cases c : g = x
      · rw [if_pos c, if_pos c]
        exact ⟨rfl, .cons r t⟩
      · rw [if_neg c, if_neg c]
        exact ⟨by rw [List.map_cons, i1], .cons h i2⟩
theorem repK_ok {κ : Type} [DecidableEq κ] : ∀ {kus : List (κ × V)} {vs : List Val} {k : κ} {u : V} {w : Val}, VRelL Γ G (kus.map (·.2)) vs → VRel Γ G u w →
    VRelL Γ G ((kus.map fun kv => if kv.1 = k then (kv.1, u) else kv).map (·.2)) (repK (kus.map (·.1)) vs k w)
  | [], vs, k, u, w, h, r => by
    have h : VRelL Γ G [] vs := h
    cases h
    exact .nil
  | q :: kus, vs, k, u, w, h, r => by
    cases h with
    | cons h t =>
      rename_i y ys
      obtain ⟨g, z⟩ := q
      refine .cons ?_ (repK_ok t r)
      show VRel Γ G (if g = k then (g, u) else (g, z)).2 (if g = k then w else y)
      by_cases c : g = k
      · rw [if_pos c, if_pos c]; exact r
      · rw [if_neg c, if_neg c]; exact h
theorem putKs_ok {κ : Type} [DecidableEq κ] {kus : List (κ × V)} {vs : List Val} {k : κ} {u : V} {w : Val} (h : VRelL Γ G (kus.map (·.2)) vs) (r : VRel Γ G u w) :
    (putK kus k u).map (·.1) = (putKs (kus.map (·.1)) vs k w).1 ∧ VRelL Γ G ((putK kus k u).map (·.2)) (putKs (kus.map (·.1)) vs k w).2 := by
  unfold putK putKs
  have e : (kus.any fun kv => decide (kv.1 = k)) = decide (k ∈ kus.map (·.1)) := by
    rw [Bool.eq_iff_iff]
    simp [List.any_eq_true]
  by_cases c : k ∈ kus.map (·.1)
  · rw [if_pos c, if_pos (by rw [e]; exact decide_eq_true c)]
    refine ⟨?_, repK_ok h r⟩
    rw [List.map_map]
    refine List.map_congr_left fun q _ => ?_
    show (if q.1 = k then (q.1, u) else q).1 = q.1
    split <;> rfl
  · rw [if_neg c, if_neg (by rw [e, decide_eq_false c]; exact Bool.false_ne_true)]
    refine ⟨by rw [List.map_append]; rfl, ?_⟩
    rw [List.map_append]
    exact rel_app h (.cons r .nil)
theorem putP_vals : ∀ {ns : List Str} {vs : List Val} {x : Str} {w : Val} {j : Nat}, Val.own j ∈ (putP ns vs x w).2 → Val.own j ∈ vs ∨ w = .own j
  | [], vs, x, w, j, h => by
    have h : Val.own j ∈ [w] := h
    exact .inr (List.mem_singleton.mp h).symm
  | n :: ns, [], x, w, j, h => by
    have h : Val.own j ∈ [w] := h
    exact .inr (List.mem_singleton.mp h).symm
  | n :: ns, v :: vs, x, w, j, h => by
    have h : Val.own j ∈ (if n = x then (n :: ns, w :: vs) else (n :: (putP ns vs x w).1, v :: (putP ns vs x w).2)).2 := h
    by_cases c : n = x
    · rw [if_pos c] at h
      rcases List.mem_cons.mp h with e | e
      · exact .inr e.symm
      · exact .inl (List.mem_cons_of_mem _ e)
    · rw [if_neg c] at h
      rcases List.mem_cons.mp h with e | e
      · exact .inl (by rw [e]; exact List.mem_cons_self)
      · rcases putP_vals e with z | z
        · exact .inl (List.mem_cons_of_mem _ z)
        · exact .inr z
theorem repK_vals {κ : Type} [DecidableEq κ] : ∀ {ks : List κ} {vs : List Val} {x : κ} {w : Val} {j : Nat}, Val.own j ∈ repK ks vs x w → Val.own j ∈ vs ∨ w = .own j
  | [], vs, x, w, j, h => by cases h
  | n :: ns, [], x, w, j, h => by cases h
  | n :: ns, v :: vs, x, w, j, h => by
    have h : Val.own j ∈ (if n = x then w else v) :: repK ns vs x w := h
    rcases List.mem_cons.mp h with e | e
    · by_cases c : n = x
      · rw [if_pos c] at e; exact .inr e.symm
      · rw [if_neg c] at e; exact .inl (by rw [e]; exact List.mem_cons_self)
    · rcases repK_vals e with z | z
      · exact .inl (List.mem_cons_of_mem _ z)
      · exact .inr z
theorem putKs_vals {κ : Type} [DecidableEq κ] {ks : List κ} {vs : List Val} {x : κ} {w : Val} {j : Nat} (h : Val.own j ∈ (putKs ks vs x w).2) : Val.own j ∈ vs ∨ w = .own j := by
  unfold putKs at h
  split at h
  · exact repK_vals h
  · rcases List.mem_append.mp h with e | e
    · exact .inl e
    · exact .inr (List.mem_singleton.mp e).symm
/-- a cell is written: its new values are old ones of it, or w -/
theorem Rep.write (R : Rep Γ G ρ μ σ H) {k : Nat} {a : Addr} {o : HO} {c c' : Cell} {w : Val} (e1 : G.al[k]? = some a) (hF : G.F a = none) (ec : μ[k]? = some c) (hv : ∀ j, Val.own j ∈ c'.vals → Val.own j ∈ c.vals ∨ w = .own j) (hw : okW ρ.n0 k w = true)
    (hc : CRel Γ G (upd H a o) a c') : Step G H G (upd H a o) ∧ Rep Γ G ρ (μ.set k c') σ (upd H a o) := by
  have st : Step G H G (upd H a o) := Step.write e1
  refine ⟨st, R.go st (R.toRepM.write e1 hF hc fun t ht hk j hj => ?_)⟩
  rcases hv j hj with z | z
  · exact (R.clo t ht).2 k c j hk ec z
  · subst z
    have hw : (ρ.n0 ≤ k ∨ j < k) := of_decide_eq_true hw
    have := R.top t ht
    omega
/-- the value written is off H's change -/
theorem vrel_any {H1 : Hp} {us : List V} {vs : List Val} (h : VRelL Γ G us vs) : VRelL Γ G us vs := h

/-! ### o.f = e -/
def fSetF (x : Str) (fo fv : FE) : FS := fun ρ μ => (fv ρ μ).bind fun p => (fo ρ p.2).bind fun q => match q.1 with
  | .own k => (match q.2[k]? with
    | some (.ins c ns vs) => if okW ρ.n0 k p.1 = true ∧ ns.length < 1000 then .ok (.nx, ρ, q.2.set k (.ins c (putP ns vs x p.1).1 (putP ns vs x p.1).2)) else .bad
    | _ => .bad)
  | _ => .bad
theorem zs_setF {x : Str} {o e : Expr} {pos pos' : Pos} {fo fv : FE} (c : Cz Γ W X lv) (hA : ∀ k C, Γ.cl k = some C → Cls Γ.K C ∧ NoAttr Γ.K C x) (ho : PE X o (tZ Γ W fo)) (hv : PE X e (tZ Γ W fv)) (hs : swapsWith e (some (.Attribute o x pos')) pos.line X.env = pure false) :
    PS X (.Assign [.Attribute o x pos'] e pos) (tZS Γ W (fSetF x fo fv)) := by
  refine PS.imp (ps_fld ho hv hs) fun D σ H t => ?_
  obtain ⟨G, ρ, μ, R, p⟩ := t
  refine ⟨G, ρ, μ, R, Post.bindS p fun u v μ1 G1 H1 s1 R1 r1 p1 => ⟨G1, ρ, μ1, R1, Post.bindS p1 fun y w μ2 G2 H2 s2 R2 r2 p2 => ?_⟩⟩
  simp only at p2
  split at p2
  · rename_i k
    split at p2
    · rename_i cc ns vs ek
      split at p2
      · rename_i hz
        obtain ⟨a, ha, ey⟩ := r2
        obtain ⟨n, C, dx, fus, h1, h2, h3, h4⟩ := R2.cells k a _ ha ek
        subst h3
        obtain ⟨q1, q2⟩ := hA _ _ h1
        obtain ⟨i1, i2⟩ := putP_ok (x := x) h4 (VRel.mono s2 r1)
        obtain ⟨st, R3⟩ := Rep.write (o := .ins C dx (putF x u fus)) R2 ha n ek (w := v) (c' := .ins cc (putP (fus.map (·.1)) vs x v).1 (putP (fus.map (·.1)) vs x v).2) (fun j hj => putP_vals hj) hz.1 ⟨n, C, dx, _, h1, upd_same, i1, i2⟩
        exact ⟨a, C, dx, fus, ey, h2, by rw [c.K]; exact q1, by rw [c.K]; exact q2, by simpa using hz.2, PostS.nx (W := W) R3 (PostS.step st p2)⟩
      · exact p2.elim
    · exact p2.elim
  · exact p2.elim

/-! ### d[k] = e, d[k] += e -/
def putD (n0 : Nat) (μ : Mu) (d y v : Val) : Option Mu := match d with
  | .own k => (match μ[k]? with
    | some (.dK ks vs) => (keyV y).bind fun j => if okW n0 k v = true ∧ ks.length < 1000000 then some (μ.set k (.dK (putKs ks vs j v).1 (putKs ks vs j v).2)) else none
    | some (.dT ks vs) => (match y with
      | .d (.tup es) => (keysD es).bind fun j => if okW n0 k v = true ∧ ks.length < 1000000 then some (μ.set k (.dT (putKs ks vs j v).1 (putKs ks vs j v).2)) else none
      | _ => none)
    | _ => none)
  | _ => none
theorem line_big : (1000000 : Nat) ≤ sizeLine := by decide
theorem putD_ok {x y u : V} {d yv v : Val} {μ' : Mu} (R : Rep Γ G ρ μ σ H) (rx : VRel Γ G x d) (ry : VRel Γ G y yv) (rv : VRel Γ G u v) (e : putD ρ.n0 μ d yv v = some μ') :
    ∃ a H', x = .ref a ∧ DPut H a y u H' ∧ Step G H G H' ∧ Rep Γ G ρ μ' σ H' := by
  unfold putD at e
  split at e
  · rename_i k
    obtain ⟨a, ha, ex⟩ := rx
    split at e
    · rename_i ks vs ek
      cases q : keyV yv with
      | none => rw [q] at e; cases e
      | some j =>
        rw [q, Option.bind_some] at e
        split at e
        · rename_i hz
          cases e
          obtain ⟨n, kus, h1, h2, h3⟩ := R.cells k a _ ha ek
          subst h2
          have ey : y = kV j := by
            cases yv with
            | d x => exact keyD_ok ry q
            | own _ => cases q
          obtain ⟨i1, i2⟩ := putKs_ok (k := j) h3 rv
          obtain ⟨st, R3⟩ := Rep.write (o := .dK (putK kus j u)) R ha n ek (w := v) (c' := .dK (putKs (kus.map (·.1)) vs j v).1 (putKs (kus.map (·.1)) vs j v).2) (fun i hi => putKs_vals hi) hz.1 ⟨n, _, upd_same, i1, i2⟩
          exact ⟨a, _, ex, by rw [ey]; exact DPut.k h1 (Nat.lt_of_lt_of_le (by simpa using hz.2) line_big), st, R3⟩
        · cases e
    · rename_i ks vs ek
      split at e
      · rename_i es
        cases q : keysD es with
        | none => rw [q] at e; cases e
        | some j =>
          rw [q, Option.bind_some] at e
          split at e
          · rename_i hz
            cases e
            obtain ⟨n, kus, h1, h2, h3⟩ := R.cells k a _ ha ek
            subst h2
            obtain ⟨b, us, ey, hb, hl⟩ := VRel.tupH R.toRepM ry
            have eu := keysD_ok hl q
            obtain ⟨i1, i2⟩ := putKs_ok (k := j) h3 rv
            obtain ⟨st, R3⟩ := Rep.write (o := .dT (putK kus j u)) R ha n ek (w := v) (c' := .dT (putKs (kus.map (·.1)) vs j v).1 (putKs (kus.map (·.1)) vs j v).2) (fun i hi => putKs_vals hi) hz.1 ⟨n, _, upd_same, i1, i2⟩
            exact ⟨a, _, ex, by rw [ey]; exact DPut.t h1 (by rw [hb, eu]) (Nat.lt_of_lt_of_le (by simpa using hz.2) line_big), st, R3⟩
          · cases e
      · cases e
    · cases e
  · cases e
def fPut (fo fi fv : FE) : FS := fun ρ μ => (fv ρ μ).bind fun p => (fo ρ p.2).bind fun q => (fi ρ q.2).bind fun r => match putD ρ.n0 r.2 q.1 r.1 p.1 with
  | some μ' => .ok (.nx, ρ, μ')
  | none => .bad
theorem zs_put {o i e : Expr} {pos pos' : Pos} {fo fi fv : FE} (c : Cz Γ W X lv) (ho : PE X o (tZ Γ W fo)) (hi : PE X i (tZ Γ W fi)) (hv : PE X e (tZ Γ W fv)) (hs : swapsWith e (some (.Subscript o i pos')) pos.line X.env = pure false) :
    PS X (.Assign [.Subscript o i pos'] e pos) (tZS Γ W (fPut fo fi fv)) := by
  refine PS.imp (ps_dput (by have := c.hu; omega) ho hi hv hs) fun D σ H t => ?_
  obtain ⟨G, ρ, μ, R, p⟩ := t
  refine ⟨G, ρ, μ, R, Post.bindS p fun u v μ1 G1 H1 s1 R1 r1 p1 => ⟨G1, ρ, μ1, R1, Post.bindS p1 fun x w μ2 G2 H2 s2 R2 r2 p2 => ⟨G2, ρ, μ2, R2, Post.bindS p2 fun y z μ3 G3 H3 s3 R3 r3 p3 => ?_⟩⟩⟩
  simp only at p3
  cases ep : putD ρ.n0 μ3 w z v with
  | none => simp only [ep] at p3; exact p3.elim
  | some μ' =>
    simp only [ep] at p3
    obtain ⟨a, H', ex, hp, st, R4⟩ := putD_ok R3 (VRel.mono s3 r2) r3 (VRel.mono s3 (VRel.mono s2 r1)) ep
    exact ⟨a, H', ex, hp, PostS.nx (W := W) R4 (PostS.step st p3)⟩
/-- d[k] += e (ints) -/
def fAugK (fo fi fv : FE) : FS := fun ρ μ => (fo ρ μ).bind fun q => (fi ρ q.2).bind fun r => match dGet r.2 q.1 r.1 with
  | some (some (.d (.int a))) => (fv ρ r.2).bind fun p => (match p.1 with
    | .d (.int b) => (match putD ρ.n0 p.2 q.1 r.1 (.d (.int (a + b))) with
      | some μ' => .ok (.nx, ρ, μ')
      | none => .bad)
    | _ => .bad)
  | _ => .bad
theorem zs_augK {o i e : Expr} {pos pos' : Pos} {fo fi fv : FE} (c : Cz Γ W X lv) (ho : PE X o (tZ Γ W fo)) (hi : PE X i (tZ Γ W fi)) (hv : PE X e (tZ Γ W fv))
    (ha : ∀ ov iv new, augStore i ov iv new = (do holding [new, ov, iv] (setItem ov iv new); release [new, ov, iv] []; pure .next)) : PS X (.AugAssign (.Subscript o i pos') .Add e pos) (tZS Γ W (fAugK fo fi fv)) := by
  refine PS.imp (ps_daug (by have := c.hu; omega) ho hi hv in_add ha) fun D σ H t => ?_
  obtain ⟨G, ρ, μ, R, p⟩ := t
  refine ⟨G, ρ, μ, R, Post.bindS p fun x w μ2 G2 H2 s2 R2 r2 p2 => ⟨G2, ρ, μ2, R2, Post.bindS p2 fun y z μ3 G3 H3 s3 R3 r3 p3 => ?_⟩⟩
  simp only at p3
  split at p3
  · rename_i aa eg
    obtain ⟨a, r, ex, g, g1, g2⟩ := dGet_ok R3.toRepM (VRel.mono s3 r2) r3 eg
    obtain ⟨u, hu, hd⟩ := g1 _ rfl
    subst hu
    refine ⟨a, u, ex, g, G3, ρ, μ3, R3, Post.bindS p3 fun b v μ4 G4 H4 s4 R4 r4 p4 => ?_⟩
    simp only at p4
    split at p4
    · rename_i bb
      cases ep : putD ρ.n0 μ4 w z (.d (.int (aa + bb))) with
      | none => simp only [ep] at p4; exact p4.elim
      | some μ' =>
        simp only [ep] at p4
        obtain ⟨a', H', ex', hp, st, R5⟩ := putD_ok (u := .int (aa + bb)) R4 (VRel.mono s4 (VRel.mono s3 r2)) (VRel.mono s4 r3) (by show Is Γ _ _ _; unfold Is; rfl) ep
        have e2 : a' = a := by rw [ex] at ex'; cases ex'; rfl
        subst e2
        exact ⟨aa, bb, VRel.int_ hd, r4.int_, H', hp, PostS.nx (W := W) R5 (PostS.step st p4)⟩
    · exact p4.elim
  · exact p3.elim

/-! ### name += e (ints, texts) -/
def fAug (i : Nat) (fv : FE) : FS := fun ρ μ => match ρ.s[i]? with
  | some (some v) => (fv ρ μ).bind fun p => (match v, p.1 with
    | .d (.int a), .d (.int b) => .ok (.nx, ρ.set i (.d (.int (a + b))), p.2)
    | _, _ => .bad)
  | _ => .bad
theorem zs_aug (c : Cz Γ W X lv) {i : Nat} {x : Str} {e : Expr} {fv : FE} {pos pos' : Pos} (hi : X.N[i]? = some x) (hx : Loc X.env.scope x) (he : PE X e (tZ Γ W fv)) (hf : X.fn x = true ∨ X.env.scope.names.lookup x = some .local) :
    PS X (.AugAssign (.Name x pos') .Add e pos) (tZS Γ W (fAug i fv)) := by
  refine PS.imp (ps_aug c.nd hi hx he ip_add hf) fun D σ H t => ?_
  obtain ⟨G, ρ, μ, R, p⟩ := t
  unfold fAug at p
  cases e1 : ρ.s[i]? with
  | none => simp only [e1] at p; exact p.elim
  | some o =>
    cases o with
    | none => simp only [e1] at p; exact p.elim
    | some v =>
      simp only [e1] at p
      obtain ⟨u, hu, r⟩ := R.slots i v e1
      refine ⟨u, hu, G, ρ, μ, R, Post.bindS p fun y w μ2 G2 H2 s2 R2 r2 p2 => ?_⟩
      simp only at p2
      split at p2
      · exact ⟨_, _, r.int_, r2.int_, PostS.nx (W := W) (R2.set (by show Is Γ _ _ _; unfold Is; rfl)) p2⟩
      · exact p2.elim
end
end Zl
set_option Elab.async false
set_option linter.all false
set_option maxRecDepth 100000
set_option maxHeartbeats 4000000
namespace Zl
open PySem PySem.Spec L2
open PyProof.Rows hiding St

/-! ## calls of built-in functions -/
def CB (Γ : Gm) (W : WX) (r : List V → Hp → VK → Prop) (o : List Val → Mu → R (Val × Mu)) : Prop := ∀ (G : Gh) (ρ : Rho) (μ : Mu) (σ : St) (H : Hp) (Q : VK) (us : List V) (vs : List Val), Rep Γ G ρ μ σ H → VRelL Γ G us vs → Post Γ W G ρ σ H Q (o vs μ) → r us H Q
def fCB (o : List Val → Mu → R (Val × Mu)) (g : FA) : FE := fun ρ μ => (g ρ μ).bind fun p => o p.1 p.2
section
variable {Γ : Gm} {W : WX} {X : Cx} {lv : Nat} {r r' : List V → Hp → VK → Prop} {o : List Val → Mu → R (Val × Mu)} {g : FA} {x : Str} {p pos : Pos} {e : Expr} {es : List Expr} {fid T : String}
theorem tZ_cb (h : CB Γ W r o) (σ : St) (H : Hp) (Q : VK) (t : tZ Γ W (fCB o g) σ H Q) : tCB r (tZA Γ W g) σ H Q := by
  obtain ⟨G, ρ, μ, R, p⟩ := t
  exact ⟨G, ρ, μ, R, PostA.bind p fun us vs μ1 G1 H1 s1 R1 r1 p1 => h G1 ρ μ1 σ H1 Q us vs R1 r1 p1⟩
theorem ze_blt (hc : CallR X (.builtin fid) r) (h : CB Γ W r o) (hg : Gl X x) (hm : X.mg x = none) (hv : bootBuiltins x = some (.builtin fid)) (ha : PA X (e :: es) (tZA Γ W g)) (hn : x ≠ "__name__") (hdb : (x == ("__debug__" : Str)) = false)
    (he : starEach (e :: es) X.env = (false, eval e X.env) :: starEach es X.env) (hpl : (backTo pos (starEach es X.env)).any (·.1) = false) : PE X (.Call (.Name x p) (e :: es) [] pos) (tZ Γ W (fCB o g)) :=
  PE.imp (pe_callB hc hg hm hv ha hn hdb he hpl) (tZ_cb h)
theorem ze_bty (hc : CallR X (.type T) r) (h : CB Γ W r o) (hg : Gl X x) (hm : X.mg x = none) (hv : bootBuiltins x = some (.type T)) (ha : PA X (e :: es) (tZA Γ W g)) (hn : x ≠ "__name__") (hdb : (x == ("__debug__" : Str)) = false)
    (he : starEach (e :: es) X.env = (false, eval e X.env) :: starEach es X.env) (hpl : (backTo pos (starEach es X.env)).any (·.1) = false) : PE X (.Call (.Name x p) (e :: es) [] pos) (tZ Γ W (fCB o g)) :=
  PE.imp (pe_callTy hc hg hm hv ha hn hdb he hpl) (tZ_cb h)

/-! ### len -/
def lenD : D → Option Nat
  | .str z => if z.length ≤ sizeLine then some z.length else none
  | .tup ds => some ds.length
  | .kt ds => some ds.length
  | .lst ds => some ds.length
  | .scr ns => some ns.length
  | .dK ks _ => some ks.length
  | .dT ks _ => some ks.length
  | _ => none
def lenV (μ : Mu) : Val → Option Nat
  | .d x => lenD x
  | .own k => (match μ[k]? with
    | some (.lst vs) => some vs.length
    | some (.dK ks _) => some ks.length
    | some (.dT ks _) => some ks.length
    | _ => none)
def oLen : List Val → Mu → R (Val × Mu)
  | [v], μ => (match lenV μ v with
    | some n => .ok (.d (.int (n : Int)), μ)
    | none => .bad)
  | _, _ => .bad
abbrev rLenA (K : PySem.W.Frag) : List V → Hp → VK → Prop := fun xs H Q => (∃ x n, xs = [x] ∧ LenV K x H n ∧ Q (.int n) H) ∨ ((∃ a kvs, xs = [V.ref a] ∧ H a = some (.dK kvs) ∧ Q (.int kvs.length) H) ∨ rLenT xs H Q)
theorem call_lenA : CallR X (.builtin "len") (rLenA X.K) := call_len.or (call_lenD.or call_len_dT)
theorem oLen_ok : CB Γ W (rLenA Γ.K) oLen := by
  intro G ρ μ σ H Q us vs R r p
  unfold oLen at p
  split at p
  · rename_i v
    cases r with
    | cons h t =>
      cases t
      cases e : lenV μ v with
      | none => simp only [e] at p; exact p.elim
      | some n =>
        simp only [e] at p
        have q := Post.int R p
        cases v with
        | own k =>
          obtain ⟨a, ha, ea⟩ := h
          subst ea
          unfold lenV at e
          cases z : μ[k]? with
          | none => simp only [z] at e; cases e
          | some c =>
            simp only [z] at e
            cases c with
            | lst ws =>
              cases e
              obtain ⟨_, us, h, l⟩ := R.cells k a _ ha z
              exact .inl ⟨_, us.length, rfl, Or.inl ⟨us, SqL.of h, rfl⟩, by rw [Paired.length l]; exact q⟩
            | dK ks ws =>
              cases e
              obtain ⟨_, kus, h, l, _⟩ := R.cells k a _ ha z
              refine .inr (.inl ⟨a, kus, rfl, h, ?_⟩)
              have el : kus.length = ks.length := by rw [← l, List.length_map]
              rw [el]; exact q
            | dT ks ws =>
              cases e
              obtain ⟨_, kus, h, l, _⟩ := R.cells k a _ ha z
              refine .inr (.inr ⟨a, kus, rfl, h, ?_⟩)
              have el : kus.length = ks.length := by rw [← l, List.length_map]
              rw [el]; exact q
            | _ => cases e
        | d x =>
          have e : lenD x = some n := e
          cases x with
          | str z =>
            have e : (if z.length ≤ sizeLine then some z.length else none) = some n := e
            split at e
            · rename_i hz
              cases e
              exact .inl ⟨V.str z, _, by rw [h.str_], ⟨hz, rfl⟩, q⟩
            · cases e
          | tup ds =>
            cases e
            obtain ⟨a, us, ea, h1, h2⟩ := VRel.tup_ R.toRepM h
            exact .inl ⟨V.ref a, _, by rw [ea], Or.inr ⟨us, h1, h2.length.symm⟩, q⟩
          | kt ds =>
            cases e
            obtain ⟨a, us, ea, h1, h2⟩ := VRel.kt_ R.toRepM h
            exact .inl ⟨V.ref a, _, by rw [ea], Or.inr ⟨us, h1, h2.length.symm⟩, q⟩
          | lst ds =>
            cases e
            obtain ⟨a, us, ea, h1, h2⟩ := VRel.lst_ R.toRepM h
            exact .inl ⟨V.ref a, _, by rw [ea], Or.inl ⟨us, SqL.of h1, h2.length.symm⟩, q⟩
          | scr ns =>
            cases e
            have r : Is Γ G.F _ _ := h
            unfold Is at r
            obtain ⟨a, ea, h1⟩ := r
            exact .inl ⟨V.ref a, _, by rw [ea], Or.inl ⟨_, R.sub.seq h1, by rw [List.length_map]⟩, q⟩
          | dK ks ds =>
            cases e
            have r : Is Γ G.F _ _ := h
            unfold Is at r
            obtain ⟨a, kvs, ea, h1, h2, h3⟩ := r
            refine .inr (.inl ⟨a, kvs, by rw [ea], R.sub _ _ h1, ?_⟩)
            have el : kvs.length = ks.length := by rw [← h2, List.length_map]
            rw [el]; exact q
          | dT ks ds =>
            cases e
            have r : Is Γ G.F _ _ := h
            unfold Is at r
            obtain ⟨a, kvs, ea, h1, h2, h3⟩ := r
            refine .inr (.inr ⟨a, kvs, by rw [ea], R.sub _ _ h1, ?_⟩)
            have el : kvs.length = ks.length := by rw [← h2, List.length_map]
            rw [el]; exact q
          | _ => cases e
  · exact p.elim

/-! ### abs, int, bool, str, max, min, sum, any, all -/
def oAbs : List Val → Mu → R (Val × Mu)
  | [.d (.int i)], μ => .ok (.d (.int (if i < 0 then -i else i)), μ)
  | _, _ => .bad
theorem oAbs_ok : CB Γ W (fun xs H Q => ∃ i, xs = [.int i] ∧ Q (.int (if i < 0 then -i else i)) H) oAbs := by
  intro G ρ μ σ H Q us vs R r p
  unfold oAbs at p
  split at p
  · cases r with
    | cons h t => cases t; exact ⟨_, by rw [h.int_], Post.int R p⟩
  · exact p.elim
def oInt1 : List Val → Mu → R (Val × Mu)
  | [.d (.int i)], μ => .ok (.d (.int i), μ)
  | [.d (.bl k)], μ => .ok (.d (.int (if k then 1 else 0)), μ)
  | _, _ => .bad
theorem oInt1_ok : CB Γ W (fun xs H Q => (∃ i, xs = [.int i] ∧ Q (.int i) H) ∨ ∃ k, xs = [.bl k] ∧ Q (.int (if k then 1 else 0)) H) oInt1 := by
  intro G ρ μ σ H Q us vs R r p
  unfold oInt1 at p
  split at p
  · cases r with
    | cons h t => cases t; exact .inl ⟨_, by rw [h.int_], Post.int R p⟩
  · cases r with
    | cons h t => cases t; exact .inr ⟨_, by rw [h.bl_], Post.int R p⟩
  · exact p.elim
def oStr1 : List Val → Mu → R (Val × Mu)
  | [.d (.int i)], μ => if i.natAbs.log2 < 1920 then .ok (.d (.str (toString i)), μ) else .bad
  | [.d (.str a)], μ => .ok (.d (.str a), μ)
  | _, _ => .bad
theorem oStr1_ok : CB Γ W (fun xs H Q => (∃ i, xs = [.int i] ∧ i.natAbs.log2 < 1920 ∧ Q (.str (toString i)) H) ∨ ∃ a, xs = [.str a] ∧ Q (.str a) H) oStr1 := by
  intro G ρ μ σ H Q us vs R r p
  unfold oStr1 at p
  split at p
  · split at p
    · rename_i hz
      cases r with
      | cons h t => cases t; exact .inl ⟨_, by rw [h.int_], hz, Post.str R p⟩
    · exact p.elim
  · cases r with
    | cons h t => cases t; exact .inr ⟨_, by rw [h.str_], Post.str R p⟩
  · exact p.elim
/-- the ints of a row of data -/
def intsD : List D → Option (List Int)
  | [] => some []
  | .int i :: r => (intsD r).map (i :: ·)
  | _ :: _ => none
theorem intsD_ok {F : Hp} : ∀ {ds : List D} {ns : List Int} {us : List V}, IsL Γ F us ds → intsD ds = some ns → us = ns.map V.int
  | [], ns, us, h, e => by cases e; rw [h.inv0]; rfl
  | d :: r, ns, us, h, e => by
    obtain ⟨v, w, rfl, h1, h2⟩ := h.inv
    cases d with
    | int i =>
      have e : (intsD r).map (i :: ·) = some ns := e
      cases z : intsD r with
      | none => rw [z] at e; cases e
      | some js =>
        rw [z] at e
        cases e
        unfold Is at h1
        rw [h1, intsD_ok h2 z]; rfl
    | _ => cases e
theorem intsD_eq : ∀ {ds : List D} {ns : List Int}, intsD ds = some ns → ds = ns.map D.int
  | [], _, e => by cases e; rfl
  | d :: r, ns, e => by
    cases d with
    | int i =>
      have e : (intsD r).map (i :: ·) = some ns := e
      cases z : intsD r with
      | none => rw [z] at e; cases e
      | some js => rw [z] at e; cases e; rw [intsD_eq z]; rfl
    | _ => cases e
theorem intsD_map : ∀ (ns : List Int), intsD (ns.map D.int) = some ns
  | [] => rfl
  | n :: ns => by show (intsD (ns.map D.int)).map (n :: ·) = _; rw [intsD_map ns]; rfl
def blsD : List D → Option (List Bool)
  | [] => some []
  | .bl i :: r => (blsD r).map (i :: ·)
  | _ :: _ => none
theorem blsD_ok {F : Hp} : ∀ {ds : List D} {ns : List Bool} {us : List V}, IsL Γ F us ds → blsD ds = some ns → us = ns.map V.bl
  | [], ns, us, h, e => by cases e; rw [h.inv0]; rfl
  | d :: r, ns, us, h, e => by
    obtain ⟨v, w, rfl, h1, h2⟩ := h.inv
    cases d with
    | bl i =>
      have e : (blsD r).map (i :: ·) = some ns := e
      cases z : blsD r with
      | none => rw [z] at e; cases e
      | some js =>
        rw [z] at e
        cases e
        unfold Is at h1
        rw [h1, blsD_ok h2 z]; rfl
    | _ => cases e
theorem blsD_map : ∀ (ns : List Bool), blsD (ns.map D.bl) = some ns
  | [] => rfl
  | n :: ns => by show (blsD (ns.map D.bl)).map (n :: ·) = _; rw [blsD_map ns]; rfl
def strsD : List D → Option (List Str)
  | [] => some []
  | .str i :: r => (strsD r).map (i :: ·)
  | _ :: _ => none
theorem strsD_ok {F : Hp} : ∀ {ds : List D} {ns : List Str} {us : List V}, IsL Γ F us ds → strsD ds = some ns → us = ns.map V.str
  | [], ns, us, h, e => by cases e; rw [h.inv0]; rfl
  | d :: r, ns, us, h, e => by
    obtain ⟨v, w, rfl, h1, h2⟩ := h.inv
    cases d with
    | str i =>
      have e : (strsD r).map (i :: ·) = some ns := e
      cases z : strsD r with
      | none => rw [z] at e; cases e
      | some js =>
        rw [z] at e
        cases e
        unfold Is at h1
        rw [h1, strsD_ok h2 z]; rfl
    | _ => cases e
theorem strsD_map : ∀ (ns : List Str), strsD (ns.map D.str) = some ns
  | [] => rfl
  | n :: ns => by show (strsD (ns.map D.str)).map (n :: ·) = _; rw [strsD_map ns]; rfl
theorem strsD_eq : ∀ {ds : List D} {ns : List Str}, strsD ds = some ns → ds = ns.map D.str
  | [], _, e => by cases e; rfl
  | d :: r, ns, e => by
    cases d with
    | str i =>
      have e : (strsD r).map (i :: ·) = some ns := e
      cases z : strsD r with
      | none => rw [z] at e; cases e
      | some js => rw [z] at e; cases e; rw [strsD_eq z]; rfl
    | _ => cases e
def maxI : List Int → Int
  | [] => 0
  | [i] => i
  | i :: r => max i (maxI r)
def minI : List Int → Int
  | [] => 0
  | [i] => i
  | i :: r => min i (minI r)
theorem maxI_mem : ∀ {ns : List Int}, ns ≠ [] → maxI ns ∈ ns
  | [], h => absurd rfl h
  | [i], _ => by simp [maxI]
  | i :: j :: r, _ => by
    have ih := maxI_mem (ns := j :: r) (by simp)
    show max i (maxI (j :: r)) ∈ _
    rcases Int.le_total i (maxI (j :: r)) with h | h
    · rw [Int.max_eq_right h]; exact List.mem_cons_of_mem _ ih
    · rw [Int.max_eq_left h]; exact List.mem_cons_self
theorem maxI_le : ∀ {ns : List Int} {y : Int}, y ∈ ns → y ≤ maxI ns
  | [], _, h => by cases h
  | [i], y, h => by rw [List.mem_singleton.mp h]; exact Int.le_refl _
  | i :: j :: r, y, h => by
    show y ≤ max i (maxI (j :: r))
    rcases List.mem_cons.mp h with e | e
    · subst e; exact Int.le_max_left _ _
    · exact Int.le_trans (maxI_le e) (Int.le_max_right _ _)
theorem minI_mem : ∀ {ns : List Int}, ns ≠ [] → minI ns ∈ ns
  | [], h => absurd rfl h
  | [i], _ => by simp [minI]
  | i :: j :: r, _ => by
    have ih := minI_mem (ns := j :: r) (by simp)
    show min i (minI (j :: r)) ∈ _
    rcases Int.le_total i (minI (j :: r)) with h | h
    · rw [Int.min_eq_left h]; exact List.mem_cons_self
    · rw [Int.min_eq_right h]; exact List.mem_cons_of_mem _ ih
theorem minI_le : ∀ {ns : List Int} {y : Int}, y ∈ ns → minI ns ≤ y
  | [], _, h => by cases h
  | [i], y, h => by rw [List.mem_singleton.mp h]; exact Int.le_refl _
  | i :: j :: r, y, h => by
    show min i (minI (j :: r)) ≤ y
    rcases List.mem_cons.mp h with e | e
    · subst e; exact Int.min_le_left _ _
    · exact Int.le_trans (Int.min_le_right _ _) (minI_le e)
def oMax : List Val → Mu → R (Val × Mu)
  | [.d (.int i), .d (.int j)], μ => .ok (.d (.int (if j > i then j else i)), μ)
  | [v], μ => (match (lstV μ v).bind intsD with
    | some (n :: ns) => .ok (.d (.int (maxI (n :: ns))), μ)
    | _ => .bad)
  | _, _ => .bad
def oMin : List Val → Mu → R (Val × Mu)
  | [.d (.int i), .d (.int j)], μ => .ok (.d (.int (if j < i then j else i)), μ)
  | [v], μ => (match (lstV μ v).bind intsD with
    | some (n :: ns) => .ok (.d (.int (minI (n :: ns))), μ)
    | _ => .bad)
  | _, _ => .bad
theorem lstV_ints {G : Gh} {μ : Mu} {H : Hp} {u : V} {v : Val} {ns : List Int} (R : RepM Γ G μ H) (r : VRel Γ G u v) (e : (lstV μ v).bind intsD = some ns) : ∃ a, u = .ref a ∧ SqL Γ.K H a (ns.map V.int) := by
  cases q : lstV μ v with
  | none => rw [q] at e; cases e
  | some ds =>
    rw [q] at e
    obtain ⟨a, us, h1, h2, h3⟩ := lstV_ok R r q
    exact ⟨a, h1, by rw [← intsD_ok h3 e]; exact SqL.of h2⟩
theorem lstV_bls {G : Gh} {μ : Mu} {H : Hp} {u : V} {v : Val} {ns : List Bool} (R : RepM Γ G μ H) (r : VRel Γ G u v) (e : (lstV μ v).bind blsD = some ns) : ∃ a, u = .ref a ∧ SqL Γ.K H a (ns.map V.bl) := by
  cases q : lstV μ v with
  | none => rw [q] at e; cases e
  | some ds =>
    rw [q] at e
    obtain ⟨a, us, h1, h2, h3⟩ := lstV_ok R r q
    exact ⟨a, h1, by rw [← blsD_ok h3 e]; exact SqL.of h2⟩
theorem oMax_ok : CB Γ W (fun xs H Q => (∃ i j, xs = [.int i, .int j] ∧ Q (.int (if j > i then j else i)) H) ∨ rMax Γ.K xs H Q) oMax := by
  intro G ρ μ σ H Q us vs R r p
  unfold oMax at p
  split at p
  · cases r with
    | cons h t =>
      cases t with
      | cons h2 t => cases t; exact .inl ⟨_, _, by rw [h.int_, h2.int_], Post.int R p⟩
  · cases r with
    | cons h t =>
      cases t
      split at p
      · rename_i n ns e
        obtain ⟨a, ea, hs⟩ := lstV_ints R.toRepM h e
        refine .inr ⟨a, _, by rw [ea], hs, Nat.succ_pos _, fun m hm hle => ?_⟩
        have em : m = maxI (n :: ns) := Int.le_antisymm (maxI_le hm) (hle _ (maxI_mem (by simp)))
        rw [em]
        exact Post.int R p
      · exact p.elim
  · exact p.elim
theorem oMin_ok : CB Γ W (fun xs H Q => (∃ i j, xs = [.int i, .int j] ∧ Q (.int (if j < i then j else i)) H) ∨ rMin Γ.K xs H Q) oMin := by
  intro G ρ μ σ H Q us vs R r p
  unfold oMin at p
  split at p
  · cases r with
    | cons h t =>
      cases t with
      | cons h2 t => cases t; exact .inl ⟨_, _, by rw [h.int_, h2.int_], Post.int R p⟩
  · cases r with
    | cons h t =>
      cases t
      split at p
      · rename_i n ns e
        obtain ⟨a, ea, hs⟩ := lstV_ints R.toRepM h e
        refine .inr ⟨a, _, by rw [ea], hs, Nat.succ_pos _, fun m hm hle => ?_⟩
        have em : m = minI (n :: ns) := Int.le_antisymm (hle _ (minI_mem (by simp))) (minI_le hm)
        rw [em]
        exact Post.int R p
      · exact p.elim
  · exact p.elim
def oSum : List Val → Mu → R (Val × Mu)
  | [v], μ => (match (lstV μ v).bind intsD with
    | some ns => .ok (.d (.int ns.sum), μ)
    | _ => .bad)
  | _, _ => .bad
theorem oSum_ok : CB Γ W (rSum Γ.K) oSum := by
  intro G ρ μ σ H Q us vs R r p
  unfold oSum at p
  split at p
  · cases r with
    | cons h t =>
      cases t
      split at p
      · rename_i ns e
        obtain ⟨a, ea, hs⟩ := lstV_ints R.toRepM h e
        exact ⟨a, _, by rw [ea], hs, Post.int R p⟩
      · exact p.elim
  · exact p.elim
def oAny : List Val → Mu → R (Val × Mu)
  | [v], μ => (match (lstV μ v).bind blsD with
    | some bs => .ok (.d (.bl (bs.any id)), μ)
    | _ => .bad)
  | _, _ => .bad
def oAll : List Val → Mu → R (Val × Mu)
  | [v], μ => (match (lstV μ v).bind blsD with
    | some bs => .ok (.d (.bl (bs.all id)), μ)
    | _ => .bad)
  | _, _ => .bad
theorem oAny_ok : CB Γ W (rAny Γ.K) oAny := by
  intro G ρ μ σ H Q us vs R r p
  unfold oAny at p
  split at p
  · cases r with
    | cons h t =>
      cases t
      split at p
      · rename_i bs e
        obtain ⟨a, ea, hs⟩ := lstV_bls R.toRepM h e
        exact ⟨a, _, by rw [ea], hs, Post.bl R p⟩
      · exact p.elim
  · exact p.elim
theorem oAll_ok : CB Γ W (rAll Γ.K) oAll := by
  intro G ρ μ σ H Q us vs R r p
  unfold oAll at p
  split at p
  · cases r with
    | cons h t =>
      cases t
      split at p
      · rename_i bs e
        obtain ⟨a, ea, hs⟩ := lstV_bls R.toRepM h e
        exact ⟨a, _, by rw [ea], hs, Post.bl R p⟩
      · exact p.elim
  · exact p.elim

/-! ### tuple(), list() -/
def keyD1 : Key → D
  | .inl i => .int i
  | .inr x => .str x
theorem keyD1_is {F : Hp} (k : Key) : Is Γ F (kV k) (keyD1 k) := by cases k <;> (unfold keyD1 Is; rfl)
theorem keysD1_is {F : Hp} : ∀ (ks : List Key), IsL Γ F (ks.map kV) (ks.map keyD1)
  | [] => IsL.nil
  | k :: ks => IsL.cons (keyD1_is k) (keysD1_is ks)
theorem ints_is {F : Hp} : ∀ (ns : List Int), IsL Γ F (ns.map V.int) (ns.map D.int)
  | [] => IsL.nil
  | n :: ns => IsL.cons (by unfold Is; rfl) (ints_is ns)
theorem strs_is {F : Hp} : ∀ (ns : List Str), IsL Γ F (ns.map V.str) (ns.map D.str)
  | [] => IsL.nil
  | n :: ns => IsL.cons (by unfold Is; rfl) (strs_is ns)
/-- the items of a list, a tuple, the script -/
def rowV (μ : Mu) : Val → Option (List D)
  | .d (.scr ns) => some (ns.map D.int)
  | v => seqV μ v
theorem rowV_ok {G : Gh} {μ : Mu} {H : Hp} {u : V} (R : RepM Γ G μ H) {v : Val} {ds : List D} (r : VRel Γ G u v) (e : rowV μ v = some ds) : ∃ a us, u = .ref a ∧ (SqL Γ.K H a us ∨ SqT Γ.K H a us) ∧ IsL Γ G.F us ds := by
  unfold rowV at e
  split at e
  · cases e
    have r : Is Γ G.F _ _ := r
    unfold Is at r
    obtain ⟨a, ea, h1⟩ := r
    exact ⟨a, _, ea, .inl (R.sub.seq h1), ints_is _⟩
  · exact seqV_ok R r e
def oTuple : List Val → Mu → R (Val × Mu)
  | [.d (.tup ds)], μ => .ok (.d (.tup ds), μ)
  | [.d (.kt ds)], μ => .ok (.d (.kt ds), μ)
  | [v], μ => (match lstV μ v with
    | some ds => .ok (.d (.tup ds), μ)
    | none => .bad)
  | _, _ => .bad
theorem oTuple_ok : CB Γ W (fun xs H Q => ∃ p ys, xs = [V.ref p] ∧ ((SqL Γ.K H p ys ∧ ∀ l, H l = none → Q (V.ref l) (upd H l (HO.tup ys))) ∨ SqT Γ.K H p ys ∧ Q (V.ref p) H)) oTuple := by
  intro G ρ μ σ H Q us vs R r p
  unfold oTuple at p
  split at p
  · cases r with
    | cons h t =>
      cases t
      obtain ⟨a, us, ea, h1, h2⟩ := VRel.tup_ R.toRepM h
      exact ⟨a, us, by rw [ea], .inr ⟨h1, Post.here R p (by rw [← ea]; exact h)⟩⟩
  · cases r with
    | cons h t =>
      cases t
      obtain ⟨a, us, ea, h1, h2⟩ := VRel.kt_ R.toRepM h
      exact ⟨a, us, by rw [ea], .inr ⟨h1, Post.here R p (by rw [← ea]; exact h)⟩⟩
  · cases r with
    | cons h t =>
      cases t
      split at p
      · rename_i ds e
        obtain ⟨a, us, h1, h2, h3⟩ := lstV_ok R.toRepM h e
        exact ⟨a, us, by rw [h1], .inl ⟨SqL.of h2, Post.tup R p h3⟩⟩
      · exact p.elim
  · exact p.elim
/-- list(x): frozen, or live -/
def oList : List Val → Mu → R (Val × Mu)
  | [v], μ => (match rowV μ v with
    | some ds => .ok (.d (.lst ds), μ)
    | none => (match dKV μ v with
      | some (ks, _) => .ok (.d (.lst (ks.map keyD1)), μ)
      | none => .bad))
  | _, _ => .bad
def oListL : List Val → Mu → R (Val × Mu)
  | [v], μ => (match rowV μ v with
    | some ds => .ok (.own μ.length, μ ++ [.lst (ds.map Val.d)])
    | none => .bad)
  | _, _ => .bad
abbrev rListA (K : PySem.W.Frag) : List V → Hp → VK → Prop := fun xs H Q => (∃ p ys, xs = [V.ref p] ∧ (SqL K H p ys ∨ SqT K H p ys) ∧ ∀ (l : Addr), H l = none → Q (V.ref l) (upd H l (HO.lst ys))) ∨
  ∃ a kvs, xs = [V.ref a] ∧ Rd H a (HO.dK kvs) ∧ ∀ (p : Addr), H p = none → Q (V.ref p) (upd H p (HO.lst (List.map (fun kv => kV kv.fst) kvs)))
theorem call_listA (hc : X.calm = true) : CallR X (.type "list") (rListA X.K) := call_list_of.or (call_listD hc)
theorem oList_ok : CB Γ W (rListA Γ.K) oList := by
  intro G ρ μ σ H Q us vs R r p
  unfold oList at p
  split at p
  · cases r with
    | cons h t =>
      cases t
      split at p
      · rename_i ds e
        obtain ⟨a, us, h1, h2, h3⟩ := rowV_ok R.toRepM h e
        exact .inl ⟨a, us, by rw [h1], h2, Post.lst R p h3⟩
      · split at p
        · rename_i ks ws e
          obtain ⟨a, kus, h1, h2, h3, h4⟩ := dKV_ok R.toRepM h e
          refine .inr ⟨a, kus, by rw [h1], Rd.of h2, ?_⟩
          have ek : (kus.map fun kv => kV kv.1) = ks.map kV := by rw [← h3, List.map_map]; rfl
          rw [ek]
          exact Post.lst R p (keysD1_is ks)
        · exact p.elim
  · exact p.elim
theorem oListL_ok : CB Γ W (rListA Γ.K) oListL := by
  intro G ρ μ σ H Q us vs R r p
  unfold oListL at p
  split at p
  · cases r with
    | cons h t =>
      cases t
      split at p
      · rename_i ds e
        obtain ⟨a, us, h1, h2, h3⟩ := rowV_ok R.toRepM h e
        exact .inl ⟨a, us, by rw [h1], h2, Post.lstL R p (relOf h3)⟩
      · exact p.elim
  · exact p.elim
end
end Zl
set_option Elab.async false
set_option linter.all false
set_option maxRecDepth 100000
set_option maxHeartbeats 4000000
namespace Zl
open PySem PySem.Spec L2
open PyProof.Rows hiding St

/-! ## methods of built-in types -/
def MB (Γ : Gm) (W : WX) (r : V → List V → Hp → VK → Prop) (o : Nat → Val → List Val → Mu → R (Val × Mu)) : Prop := ∀ (G : Gh) (ρ : Rho) (μ : Mu) (σ : St) (H : Hp) (Q : VK) (u : V) (v : Val) (us : List V) (vs : List Val), Rep Γ G ρ μ σ H → VRel Γ G u v → VRelL Γ G us vs → Post Γ W G ρ σ H Q (o ρ.n0 v vs μ) → r u us H Q
def tyB (T : String) (μ : Mu) : Val → Bool
  | .d (.str _) => T == "str"
  | .d (.lst _) => T == "list"
  | .d (.dK _ _) => T == "dict"
  | .d (.dT _ _) => T == "dict"
  | .own k => (match μ[k]? with
    | some (.lst _) => T == "list"
    | some (.dK _ _) => T == "dict"
    | some (.dT _ _) => T == "dict"
    | _ => false)
  | _ => false
def fBM (T : String) (o : Nat → Val → List Val → Mu → R (Val × Mu)) (f : FE) (g : FA) : FE := fun ρ μ => (f ρ μ).bind fun p => if tyB T p.2 p.1 = true then (g ρ p.2).bind fun q => o ρ.n0 p.1 q.1 q.2 else .bad
section
variable {Γ : Gm} {W : WX} {X : Cx} {lv : Nat} {r r' : V → List V → Hp → VK → Prop} {o : Nat → Val → List Val → Mu → R (Val × Mu)} {f : FE} {g : FA} {name : Str} {apos pos : Pos} {b e : Expr} {es : List Expr} {fid T : String}
theorem tyB_ok {G : Gh} {μ : Mu} {H : Hp} {u : V} {v : Val} (R : RepM Γ G μ H) (r : VRel Γ G u v) (e : tyB T μ v = true) : tyV Γ.K T u H := by
  cases v with
  | d x =>
    cases x with
    | str z => rw [r.str_]; exact eq_of_beq (show (T == "str") = true from e)
    | lst ds =>
      obtain ⟨a, us, ea, h1, h2⟩ := VRel.lst_ R r
      rw [ea]; exact .inl ⟨eq_of_beq (show (T == "list") = true from e), us, SqL.of h1⟩
    | dK ks ds =>
      have r : Is Γ G.F u _ := r
      unfold Is at r
      obtain ⟨a, kvs, ea, h1, h2, h3⟩ := r
      rw [ea]; exact .inr (.inr (.inl ⟨eq_of_beq (show (T == "dict") = true from e), .inl ⟨kvs, R.sub _ _ h1⟩⟩))
    | dT ks ds =>
      have r : Is Γ G.F u _ := r
      unfold Is at r
      obtain ⟨a, kvs, ea, h1, h2, h3⟩ := r
      rw [ea]; exact .inr (.inr (.inl ⟨eq_of_beq (show (T == "dict") = true from e), .inr ⟨kvs, R.sub _ _ h1⟩⟩))
    | _ => cases e
  | own k =>
    obtain ⟨a, ha, ea⟩ := r
    subst ea
    unfold tyB at e
    cases z : μ[k]? with
    | none => simp only [z] at e; cases e
    | some c =>
      simp only [z] at e
      cases c with
      | lst ws =>
        obtain ⟨_, us, h, l⟩ := R.cells k a _ ha z
        exact .inl ⟨eq_of_beq (show (T == "list") = true from e), us, SqL.of h⟩
      | dK ks ws =>
        obtain ⟨_, kus, h, l, _⟩ := R.cells k a _ ha z
        exact .inr (.inr (.inl ⟨eq_of_beq (show (T == "dict") = true from e), .inl ⟨kus, h⟩⟩))
      | dT ks ws =>
        obtain ⟨_, kus, h, l, _⟩ := R.cells k a _ ha z
        exact .inr (.inr (.inl ⟨eq_of_beq (show (T == "dict") = true from e), .inr ⟨kus, h⟩⟩))
      | _ => cases e
theorem ze_bm (pa : PlainAttrs T) (slot : Slot T name fid) (hty : typeOf (.builtin fid) = pure (.type "method_descriptor")) (c : Cz Γ W X lv) (hm : MtR X fid r) (h : MB Γ W r o) (ho : PE X b (tZ Γ W f)) (ha : PA X (e :: es) (tZA Γ W g))
    (h1 : attributeBase b name X.env (eval b X.env) = eval b X.env)
    (h2 : (((List.all (backTo pos (starEach (e :: es) X.env)) fun x => !x.fst) && List.all (backToKw pos (keywordEach [] X.env)) fun x => Option.isSome x.fst) && decide ((List.length (e :: es) + List.length ([] : List Keyword) + if List.isEmpty ([] : List Keyword) = true then 0 else 1) < 30)) = true)
    (h3 : (apos.endLine == pos.line) = true) (h4 : starEach (e :: es) X.env = (false, eval e X.env) :: starEach es X.env) (h5 : (List.any (backTo pos (starEach es X.env)) fun x => x.fst) = false) :
    PE X (.Call (.Attribute b name apos) (e :: es) [] pos) (tZ Γ W (fBM T o f g)) := by
  refine PE.imp (pe_bm pa slot hty hm ho ha h1 h2 h3 h4 h5) fun σ H Q t => ?_
  obtain ⟨G, ρ, μ, R, p⟩ := t
  refine ⟨G, ρ, μ, R, Post.bind p fun u v μ1 G1 H1 s1 R1 r1 p1 => ?_⟩
  simp only at p1
  split at p1
  · rename_i ht
    exact ⟨by rw [c.K]; exact tyB_ok R1.toRepM r1 ht, G1, ρ, μ1, R1, PostA.bind p1 fun us vs μ2 G2 H2 s2 R2 r2 p2 => h G2 ρ μ2 σ H2 Q u v us vs R2 (VRel.mono s2 r1) r2 p2⟩
  · exact p1.elim
theorem ze_bm0 (pa : PlainAttrs T) (slot : Slot T name fid) (hty : typeOf (.builtin fid) = pure (.type "method_descriptor")) (c : Cz Γ W X lv) (hm : MtR X fid r) (h : MB Γ W r o) (ho : PE X b (tZ Γ W f))
    (h1 : attributeBase b name X.env (eval b X.env) = eval b X.env) (h3 : (apos.endLine == pos.line) = true) :
    PE X (.Call (.Attribute b name apos) [] [] pos) (tZ Γ W (fBM T o f fANil)) := by
  refine PE.imp (pe_bm0 pa slot hty hm ho h1 h3) fun σ H Q t => ?_
  obtain ⟨G, ρ, μ, R, p⟩ := t
  refine ⟨G, ρ, μ, R, Post.bind p fun u v μ1 G1 H1 s1 R1 r1 p1 => ?_⟩
  simp only at p1
  split at p1
  · rename_i ht
    exact ⟨by rw [c.K]; exact tyB_ok R1.toRepM r1 ht, h G1 ρ μ1 σ H1 Q u v [] [] R1 r1 .nil p1⟩
  · exact p1.elim

/-! ### lists -/
theorem Post.oldNon {G : Gh} {ρ : Rho} {μ : Mu} {σ : St} {H H' : Hp} {Q : VK} {v : Val} {u : V} (st : Step G H G H') (R : Rep Γ G ρ μ σ H') (h : Post Γ W G ρ σ H Q (.ok (v, μ))) (r : VRel Γ G u v) : Q u H' := h u G H' st R r
theorem rel_append {G : Gh} {us : List V} {vs : List Val} {u : V} {v : Val} (l : VRelL Γ G us vs) (r : VRel Γ G u v) : VRelL Γ G (us ++ [u]) (vs ++ [v]) := rel_app l (.cons r .nil)
theorem non_rel {G : Gh} : VRel Γ G .non (.d .non) := by show Is Γ _ _ _; unfold Is; rfl
def oAppend (n0 : Nat) : Val → List Val → Mu → R (Val × Mu)
  | .own k, [w], μ => (match μ[k]? with
    | some (.lst vs) => if okW n0 k w = true ∧ vs.length < 1000000 then .ok (.d .non, μ.set k (.lst (vs ++ [w]))) else .bad
    | _ => .bad)
  | _, _, _ => .bad
theorem oAppend_ok : MB Γ W rAppend oAppend := by
  intro G ρ μ σ H Q u v us vs R r rs p
  unfold oAppend at p
  split at p
  · rename_i k w
    split at p
    · rename_i ws e
      split at p
      · rename_i hk
        obtain ⟨a, ha, ea⟩ := r
        cases rs with
        | cons h t =>
          cases t
          obtain ⟨hF, xs, hH, l⟩ := R.cells k a _ ha e
          have hl := Paired.length l
          refine ⟨a, xs, _, ea, rfl, hH, by rw [hl, sizeLine_eq]; omega, ?_⟩
          obtain ⟨st, R'⟩ := R.write (o := .lst (xs ++ [_])) (c' := .lst (ws ++ [w])) (w := w) ha hF e (fun j hj => by
            rcases List.mem_append.mp hj with z | z
            · exact .inl z
            · exact .inr (List.mem_singleton.mp z).symm) hk.1 ⟨hF, _, upd_same, rel_append l h⟩
          exact p _ G _ st R' non_rel
      · exact p.elim
    · exact p.elim
  · exact p.elim
def oPop (n0 : Nat) : Val → List Val → Mu → R (Val × Mu)
  | .own k, [], μ => (match μ[k]? with
    | some (.lst vs) => (match vs[vs.length - 1]? with
      | some w => .ok (w, μ.set k (.lst vs.dropLast))
      | none => .bad)
    | _ => .bad)
  | _, _, _ => .bad
theorem rel_getV {G : Gh} : ∀ {us : List V} {vs : List Val} {i : Nat} {w : Val}, VRelL Γ G us vs → vs[i]? = some w → ∃ u, us[i]? = some u ∧ VRel Γ G u w
  | _, _, i, w, .nil, e => by simp at e
  | _, _, 0, w, .cons (a := u) h t, e => by simp at e; subst e; exact ⟨u, rfl, h⟩
  | _, _, i + 1, w, .cons h t, e => by
    obtain ⟨u, a, b⟩ := rel_getV t (i := i) (by simpa using e)
    exact ⟨u, by simpa using a, b⟩
theorem rel_dropLast {G : Gh} {us : List V} {vs : List Val} (l : VRelL Γ G us vs) : VRelL Γ G us.dropLast vs.dropLast := by
  unfold VRelL at l ⊢
  induction l with
  | nil => exact .nil
  | cons h t ih =>
    cases t with
    | nil => exact .nil
    | cons h2 t2 => exact .cons h ih
theorem rel_eraseIdx {G : Gh} {us : List V} {vs : List Val} (l : VRelL Γ G us vs) : ∀ i : Nat, VRelL Γ G (us.eraseIdx i) (vs.eraseIdx i) := by
  unfold VRelL at l ⊢
  induction l with
  | nil => intro i; exact .nil
  | cons h t ih =>
    intro i
    cases i with
    | zero => exact t
    | succ i => exact .cons h (ih i)
theorem oPop_ok : MB Γ W rPop oPop := by
  intro G ρ μ σ H Q u v us vs R r rs p
  unfold oPop at p
  split at p
  · rename_i k
    split at p
    · rename_i ws e
      split at p
      · rename_i w ew
        obtain ⟨a, ha, ea⟩ := r
        cases rs
        obtain ⟨hF, xs, hH, l⟩ := R.cells k a _ ha e
        have hl := Paired.length l
        obtain ⟨y, hy, ry⟩ := rel_getV l ew
        refine ⟨a, xs, y, ea, rfl, hH, by rw [hl]; exact hy, ?_⟩
        obtain ⟨st, R'⟩ := R.write (o := .lst xs.dropLast) (c' := .lst ws.dropLast) (w := .d .non) ha hF e (fun j hj => .inl (List.dropLast_subset _ hj)) rfl ⟨hF, _, upd_same, rel_dropLast l⟩
        exact p _ G _ st R' ry
      · exact p.elim
    · exact p.elim
  · exact p.elim
def oPopAt (n0 : Nat) : Val → List Val → Mu → R (Val × Mu)
  | .own k, [.d (.int i)], μ => (match μ[k]? with
    | some (.lst vs) => if -(2 ^ 63) ≤ i ∧ i < 2 ^ 63 then (match seqIndex? i vs.length with
      | some j => (match vs[j]? with
        | some w => .ok (w, μ.set k (.lst (vs.eraseIdx j)))
        | none => .bad)
      | none => .bad) else .bad
    | _ => .bad)
  | _, _, _ => .bad
theorem oPopAt_ok : MB Γ W rPopAt oPopAt := by
  intro G ρ μ σ H Q u v us vs R r rs p
  unfold oPopAt at p
  split at p
  · rename_i k i
    split at p
    · rename_i ws e
      split at p
      · rename_i hb
        split at p
        · rename_i j ej
          split at p
          · rename_i w ew
            obtain ⟨a, ha, ea⟩ := r
            cases rs with
            | cons h t =>
              cases t
              obtain ⟨hF, xs, hH, l⟩ := R.cells k a _ ha e
              have hl := Paired.length l
              obtain ⟨y, hy, ry⟩ := rel_getV l ew
              refine ⟨a, xs, i, j, y, ea, by rw [h.int_], hH, hb.1, hb.2, by rw [hl]; exact ej, hy, ?_⟩
              obtain ⟨st, R'⟩ := R.write (o := .lst (xs.eraseIdx j)) (c' := .lst (ws.eraseIdx j)) (w := .d .non) ha hF e (fun j hj => .inl (List.mem_of_mem_eraseIdx hj)) rfl ⟨hF, _, upd_same, rel_eraseIdx l j⟩
              exact p _ G _ st R' ry
          · exact p.elim
        · exact p.elim
      · exact p.elim
    · exact p.elim
  · exact p.elim
def oExtend (n0 : Nat) : Val → List Val → Mu → R (Val × Mu)
  | .own k, [w], μ => (match μ[k]?, lstV μ w with
    | some (.lst vs), some ds => if vs.length + ds.length < 1000000 then .ok (.d .non, μ.set k (.lst (vs ++ ds.map Val.d))) else .bad
    | _, _ => .bad)
  | _, _, _ => .bad
theorem oExtend_ok : MB Γ W rExtend oExtend := by
  intro G ρ μ σ H Q u v us vs R r rs p
  unfold oExtend at p
  split at p
  · rename_i k w
    split at p
    · rename_i ws ds e ed
      split at p
      · rename_i hk
        obtain ⟨a, ha, ea⟩ := r
        cases rs with
        | cons h t =>
          cases t
          obtain ⟨hF, xs, hH, l⟩ := R.cells k a _ ha e
          have hl := Paired.length l
          obtain ⟨b, zs, eb, hb, hz⟩ := lstV_ok R.toRepM h ed
          refine ⟨a, b, xs, zs, ea, by rw [eb], hH, hb, by rw [hl, hz.length, sizeLine_eq]; omega, ?_⟩
          obtain ⟨st, R'⟩ := R.write (o := .lst (xs ++ zs)) (c' := .lst (ws ++ ds.map Val.d)) (w := .d .non) ha hF e (fun j hj => by
            rcases List.mem_append.mp hj with z | z
            · exact .inl z
            · obtain ⟨d, _, ed⟩ := List.mem_map.mp z; cases ed) rfl ⟨hF, _, upd_same, rel_app l (relOf hz)⟩
          exact p _ G _ st R' non_rel
      · exact p.elim
    · exact p.elim
  · exact p.elim

/-! ### dict.update(d), dict.clear() -/
def mergeKs : List Key → List Val → List Key → List Val → List Key × List Val
  | ks, vs, k :: js, w :: ws => let r := putKs ks vs k w; mergeKs r.1 r.2 js ws
  | ks, vs, _, _ => (ks, vs)
theorem mergeKs_ok {G : Gh} : ∀ {jus kus : List (Key × V)} {vs ws : List Val}, VRelL Γ G (kus.map (·.2)) vs → VRelL Γ G (jus.map (·.2)) ws →
    (mergeK kus jus).map (·.1) = (mergeKs (kus.map (·.1)) vs (jus.map (·.1)) ws).1 ∧ VRelL Γ G ((mergeK kus jus).map (·.2)) (mergeKs (kus.map (·.1)) vs (jus.map (·.1)) ws).2
  | [], kus, vs, ws, h, h2 => by
    have h2 : VRelL Γ G [] ws := h2
    cases h2
    exact ⟨rfl, h⟩
  | q :: jus, kus, vs, ws, h, h2 => by
    cases h2 with
    | cons h1 t =>
      rename_i w ws
      obtain ⟨i1, i2⟩ := putKs_ok (k := q.1) h h1
      have ih := mergeKs_ok (kus := putK kus q.1 q.2) i2 t
      rw [i1] at ih
      exact ih
theorem mergeKs_vals : ∀ {js : List Key} {ks : List Key} {vs ws : List Val} {j : Nat}, Val.own j ∈ (mergeKs ks vs js ws).2 → Val.own j ∈ vs ∨ Val.own j ∈ ws
  | [], ks, vs, ws, j, h => by unfold mergeKs at h; exact .inl h
  | k :: js, ks, vs, [], j, h => by unfold mergeKs at h; exact .inl h
  | k :: js, ks, vs, w :: ws, j, h => by
    have h : Val.own j ∈ (mergeKs (putKs ks vs k w).1 (putKs ks vs k w).2 js ws).2 := h
    rcases mergeKs_vals h with z | z
    · rcases putKs_vals z with y | y
      · exact .inl y
      · exact .inr (by rw [y]; exact List.mem_cons_self)
    · exact .inr (List.mem_cons_of_mem _ z)
def rUpdate : V → List V → Hp → VK → Prop := fun x vs H Q => ∃ (a b : Addr) (kvs more : List (Key × V)), x = .ref a ∧ vs = [.ref b] ∧ a ≠ b ∧ H a = some (.dK kvs) ∧ H b = some (.dK more) ∧ kvs.length + more.length ≤ sizeLine ∧ Q .non (upd H a (.dK (mergeK kvs more)))
theorem mt_update : MtR X "dict.update" rUpdate := by
  intro pins s σ H x vs v us Q I rx rv h
  obtain ⟨a, b, kvs, more, rfl, rfl, ne, ea, eb, hz, q⟩ := h
  cases (show v = Value.ref a from rx)
  obtain ⟨u, rfl, ru⟩ := rv.one
  cases (show u = Value.ref b from ru)
  obtain ⟨z, hd, ws, rel, dd⟩ := dk_of I.hok ea
  obtain ⟨z2, hd2, ws2, rel2, dd2⟩ := dk_of I.hok eb
  refine call_meetsIn PySem.F.slot_dict_update dd.typeIs PySem.F.entry_dict_update (PySem.F.args_dict_update_2 _ _) (meets_dict_update (mixKind X.prog X.w) a b ne hd2)
    ⟨ws, ws2, dd, dd2, by rw [← rel.length, ← rel2.length]; exact hz, fun h' dd' _ hs => ⟨.non, _, ?_, rfl, q⟩⟩
  have he : ∃ q, h'.get? a = some q := let ⟨q, _, _, hq, _⟩ := dd'; ⟨q, hq⟩
  exact d_write (t' := s.toks) I (by rw [ea]; exact True.intro) hs he (dk_new (Nat.le_trans (length_mergeK more kvs) hz) hd (KV.merge rel2 rel) dd')
theorem RepM.addr_ne {G : Gh} {μ : Mu} {H : Hp} {k : Nat} {a b : Addr} (ha : G.al[k]? = some a) (R : RepM Γ G μ H) (hF : G.F a = none) {v : Val} {u : V} (r : VRel Γ G u v) (eu : u = .ref b) (n : v ≠ .own k) (hb : ∀ x, v = .d x → ∃ o, G.F b = some o) : a ≠ b := by
  intro e
  subst e
  cases v with
  | d x => obtain ⟨o, h⟩ := hb x rfl; rw [hF] at h; cases h
  | own j =>
    obtain ⟨c, hc, ec⟩ := r
    rw [eu] at ec
    cases ec
    have hk : k < G.al.length := (List.getElem?_eq_some_iff.mp ha).1
    have hj : j < G.al.length := (List.getElem?_eq_some_iff.mp hc).1
    have : j = k := (List.getElem_inj R.nd).mp ((List.getElem?_eq_some_iff.mp hc).2.trans (List.getElem?_eq_some_iff.mp ha).2.symm)
    exact n (by rw [this])
def isOwn (k : Nat) : Val → Bool
  | .own j => j == k
  | _ => false
def oUpdate (n0 : Nat) : Val → List Val → Mu → R (Val × Mu)
  | .own k, [w], μ => (match μ[k]?, dKV μ w with
    | some (.dK ks vs), some (js, ws) => if isOwn k w = false ∧ ks.length + js.length < 1000000 ∧ ws.all (okW n0 k) = true then .ok (.d .non, μ.set k (.dK (mergeKs ks vs js ws).1 (mergeKs ks vs js ws).2)) else .bad
    | _, _ => .bad)
  | _, _, _ => .bad
/-- a cell is written: its new values are old ones of it, or allowed ones -/
theorem Rep.writeL {G : Gh} {ρ : Rho} {μ : Mu} {σ : St} {H : Hp} (R : Rep Γ G ρ μ σ H) {k : Nat} {a : Addr} {o : HO} {c c' : Cell} (e1 : G.al[k]? = some a) (hF : G.F a = none) (ec : μ[k]? = some c) (hv : ∀ j, Val.own j ∈ c'.vals → Val.own j ∈ c.vals ∨ okW ρ.n0 k (.own j) = true)
    (hc : CRel Γ G (upd H a o) a c') : Step G H G (upd H a o) ∧ Rep Γ G ρ (μ.set k c') σ (upd H a o) := by
  have st : Step G H G (upd H a o) := Step.write e1
  refine ⟨st, R.go st (R.toRepM.write e1 hF hc fun t ht hk j hj => ?_)⟩
  rcases hv j hj with z | z
  · exact (R.clo t ht).2 k c j hk ec z
  · have hw : (ρ.n0 ≤ k ∨ j < k) := of_decide_eq_true z
    have := R.top t ht
    omega
theorem oUpdate_ok : MB Γ W rUpdate oUpdate := by
  intro G ρ μ σ H Q u v us vs R r rs p
  unfold oUpdate at p
  split at p
  · rename_i k w
    split at p
    · rename_i ks ws js zs e ed
      split at p
      · rename_i hk
        obtain ⟨a, ha, ea⟩ := r
        cases rs with
        | cons h t =>
          cases t
          obtain ⟨hF, kus, hH, l1, l⟩ := R.cells k a _ ha e
          obtain ⟨b, jus, eb, hb, hz1, hz⟩ := dKV_ok R.toRepM h ed
          have ne : a ≠ b := RepM.addr_ne ha R.toRepM hF h eb (fun z => by subst z; have h0 : (k == k) = false := hk.1; rw [beq_self_eq_true] at h0; cases h0) fun x ex => by
            subst ex
            cases x with
            | dK a1 a2 =>
              have h : Is Γ G.F _ _ := h
              unfold Is at h
              obtain ⟨b', kvs, e1, e2, _⟩ := h
              rw [e1] at eb
              cases eb
              exact ⟨_, e2⟩
            | _ => cases ed
          refine ⟨a, b, kus, jus, ea, by rw [eb], ne, hH, hb, ?_, ?_⟩
          · have e1 : kus.length = ks.length := by rw [← l1, List.length_map]
            have e2 : jus.length = js.length := by rw [← hz1, List.length_map]
            rw [e1, e2, sizeLine_eq]; omega
          · obtain ⟨i1, i2⟩ := mergeKs_ok l hz
            rw [l1, hz1] at i1 i2
            obtain ⟨st, R'⟩ := R.writeL (o := .dK (mergeK kus jus)) (c' := .dK (mergeKs ks ws js zs).1 (mergeKs ks ws js zs).2) ha hF e (fun j hj => by
              rcases mergeKs_vals hj with z | z
              · exact .inl z
              · exact .inr (List.all_eq_true.mp hk.2.2 _ z)) ⟨hF, _, upd_same, i1, i2⟩
            exact p _ G _ st R' non_rel
      · exact p.elim
    · exact p.elim
  · exact p.elim

/-! ### texts -/
def oJoin (n0 : Nat) : Val → List Val → Mu → R (Val × Mu)
  | .d (.str a), [w], μ => (match (seqV μ w).bind strsD with
    | some ys => if (ys.map Str.length).sum + ys.length * a.length ≤ 16777216 then .ok (.d (.str (Txt.join a ys)), μ) else .bad
    | none => .bad)
  | _, _, _ => .bad
theorem oJoin_ok : MB Γ W (fun x xs H Q => ∃ a p ys, x = V.str a ∧ xs = [V.ref p] ∧ (SqL Γ.K H p (List.map V.str ys) ∨ SqT Γ.K H p (List.map V.str ys)) ∧ List.sum (List.map (fun x => Str.length x) ys) + List.length ys * Str.length a ≤ 16777216 ∧ Q (V.str (Txt.join a ys)) H) oJoin := by
  intro G ρ μ σ H Q u v us vs R r rs p
  unfold oJoin at p
  split at p
  · rename_i a w
    split at p
    · rename_i ys e
      split at p
      · rename_i hz
        cases rs with
        | cons h t =>
          cases t
          cases q : seqV μ w with
          | none => rw [q] at e; cases e
          | some ds =>
            rw [q] at e
            obtain ⟨b, zs, e1, e2, e3⟩ := seqV_ok R.toRepM h q
            have e : strsD ds = some ys := e
            exact ⟨a, b, ys, r.str_, by rw [e1], by rw [← strsD_ok e3 e]; exact e2, hz, Post.str R p⟩
      · exact p.elim
    · exact p.elim
  · exact p.elim

/-! ## dict(pairs), dict(d) -/
/-- a pair (key, value) -/
def pairD : D → Option (Key × D)
  | .tup [k, v] => (keyD k).map fun k => (k, v)
  | .kt [k, v] => (keyD k).map fun k => (k, v)
  | _ => none
def pairsD : List D → Option (List Key × List D)
  | [] => some ([], [])
  | d :: r => (pairD d).bind fun p => (pairsD r).map fun q => (p.1 :: q.1, p.2 :: q.2)
theorem pairD_ok {G : Gh} {μ : Mu} {H : Hp} (R : RepM Γ G μ H) {d v : D} {k : Key} {u : V} (h : Is Γ G.F u d) (e : pairD d = some (k, v)) : ∃ a y, u = .ref a ∧ SqT Γ.K H a [kV k, y] ∧ Is Γ G.F y v := by
  have key : ∀ {a : Addr} {us : List V} {x y : D}, SqT Γ.K H a us → IsL Γ G.F us [x, y] → (keyD x).map (fun k => (k, y)) = some (k, v) → ∃ z, SqT Γ.K H a [kV k, z] ∧ Is Γ G.F z v := fun {a us x y} h1 h2 e => by
    obtain ⟨p, r, rfl, i1, h2⟩ := h2.inv
    obtain ⟨q, r, rfl, i2, h2⟩ := h2.inv
    rw [h2.inv0] at h1
    cases z : keyD x with
    | none => rw [z] at e; cases e
    | some k' =>
      rw [z] at e
      cases e
      rw [keyD_ok i1 z] at h1
      exact ⟨q, h1, i2⟩
  unfold pairD at e
  split at e
  · obtain ⟨a, us, ea, h1, h2⟩ := VRel.tup_ R (show VRel Γ G u (.d _) from h)
    obtain ⟨z, i1, i2⟩ := key h1 h2 e
    exact ⟨a, z, ea, i1, i2⟩
  · obtain ⟨a, us, ea, h1, h2⟩ := VRel.kt_ R (show VRel Γ G u (.d _) from h)
    obtain ⟨z, i1, i2⟩ := key h1 h2 e
    exact ⟨a, z, ea, i1, i2⟩
  · cases e
theorem pairsD_ok {G : Gh} {μ : Mu} {H : Hp} (R : RepM Γ G μ H) : ∀ {ds : List D} {ks : List Key} {vs : List D} {us : List V}, IsL Γ G.F us ds → pairsD ds = some (ks, vs) →
    ∃ (ps : List Addr) (kvs : List (Key × V)), us = ps.map V.ref ∧ Paired (fun p kv => SqT Γ.K H p [kV kv.1, kv.2]) ps kvs ∧ kvs.map (·.1) = ks ∧ IsL Γ G.F (kvs.map (·.2)) vs
  | [], ks, vs, us, h, e => by cases e; rw [h.inv0]; exact ⟨[], [], rfl, .nil, rfl, IsL.nil⟩
  | d :: r, ks, vs, us, h, e => by
    obtain ⟨v, w, rfl, h1, h2⟩ := h.inv
    unfold pairsD at e
    cases q : pairD d with
    | none => rw [q] at e; cases e
    | some p =>
      rw [q] at e
      cases z : pairsD r with
      | none => rw [z] at e; cases e
      | some t =>
        rw [z] at e
        cases e
        obtain ⟨k, x⟩ := p
        obtain ⟨a, y, ea, i1, i2⟩ := pairD_ok R h1 q
        obtain ⟨ps, kvs, j1, j2, j3, j4⟩ := pairsD_ok R h2 z
        exact ⟨a :: ps, (k, y) :: kvs, by rw [ea, j1]; rfl, .cons i1 j2, by rw [List.map_cons, j3], IsL.cons i2 j4⟩
/-- a new dict -/
theorem Post.dKL {G : Gh} {ρ : Rho} {μ : Mu} {σ : St} {H : Hp} {Q : VK} {ks : List Key} {vs : List Val} {kus : List (Key × V)} (R : Rep Γ G ρ μ σ H) (h : Post Γ W G ρ σ H Q (.ok (.own μ.length, μ ++ [.dK ks vs]))) (e : kus.map (·.1) = ks) (l : VRelL Γ G (kus.map (·.2)) vs) : ∀ p, H p = none → Q (.ref p) (upd H p (.dK kus)) := fun p hp =>
  have s : Step G H (G.lvn p) (upd H p (.dK kus)) := RepM.stepLv hp
  have m := R.toRepM.lvNew (o := .dK kus) (c := .dK ks vs) hp ⟨R.toRepM.Fnone hp, kus, upd_same, e, VRelL.mono s l⟩
  h (.ref p) _ _ s (R.go s m) ⟨p, by show (G.al ++ [p])[μ.length]? = _; rw [← R.len]; simp, rfl⟩
theorem Post.dK {G : Gh} {ρ : Rho} {μ : Mu} {σ : St} {H : Hp} {Q : VK} {ks : List Key} {ds : List D} {kus : List (Key × V)} (R : Rep Γ G ρ μ σ H) (h : Post Γ W G ρ σ H Q (.ok (.d (.dK ks ds), μ))) (e : kus.map (·.1) = ks) (l : IsL Γ G.F (kus.map (·.2)) ds) : ∀ p, H p = none → Q (.ref p) (upd H p (.dK kus)) := fun p hp =>
  have s := R.toRepM.stepFz (o := .dK kus) hp
  h (.ref p) _ _ s (R.go s (R.toRepM.fzNew hp)) (by show Is Γ (upd G.F p (.dK kus)) _ _; unfold Is; exact ⟨p, kus, rfl, upd_same, e, IsL.mono s.fz _ _ l⟩)
def oDict (live : Bool) : List Val → Mu → R (Val × Mu)
  | [v], μ => (match (lstV μ v).bind pairsD with
    | some (ks, ds) => let m := mergeKs [] [] ks (ds.map Val.d); if live = true then .ok (.own μ.length, μ ++ [.dK m.1 m.2]) else (match dsOf m.2 with
      | some es => .ok (.d (.dK m.1 es), μ)
      | none => .bad)
    | none => (match dKV μ v with
      | some (ks, vs) => if live = true then (if vs.all (okW 0 0) = true then .ok (.own μ.length, μ ++ [.dK ks vs]) else .bad) else (match dsOf vs with
        | some es => .ok (.d (.dK ks es), μ)
        | none => .bad)
      | none => .bad))
  | _, _ => .bad
abbrev rDictA (K : PySem.W.Frag) : List V → Hp → VK → Prop := fun xs H Q => (∃ (a : Addr) (ps : List Addr) (kvs : List (Key × V)), xs = [.ref a] ∧ SqL K H a (ps.map V.ref) ∧ Paired (fun p kv => SqT K H p [kV kv.1, kv.2]) ps kvs ∧ ∀ p, H p = none → Q (.ref p) (upd H p (.dK (mergeK [] kvs)))) ∨
  ∃ (a : Addr) (kvs : List (Key × V)), xs = [.ref a] ∧ Rd H a (.dK kvs) ∧ ∀ p, H p = none → Q (.ref p) (upd H p (.dK kvs))
theorem call_dictA (hc : X.calm = true) : CallR X (.type "dict") (rDictA X.K) := (call_dictP hc).or call_dictD
theorem oDict_ok {live : Bool} : CB Γ W (rDictA Γ.K) (oDict live) := by
  intro G ρ μ σ H Q us vs R r p
  unfold oDict at p
  split at p
  · rename_i v
    cases r with
    | cons h t =>
      cases t
      split at p
      · rename_i ks ds e
        cases q : lstV μ v with
        | none => rw [q] at e; cases e
        | some es =>
          rw [q] at e
          obtain ⟨a, us, h1, h2, h3⟩ := lstV_ok R.toRepM h q
          obtain ⟨ps, kvs, j1, j2, j3, j4⟩ := pairsD_ok R.toRepM h3 (show pairsD es = some (ks, ds) from e)
          subst j1
          refine .inl ⟨a, ps, kvs, by rw [h1], SqL.of h2, j2, ?_⟩
          obtain ⟨i1, i2⟩ := mergeKs_ok (G := G) (kus := []) (vs := []) .nil (relOf j4)
          rw [j3] at i1 i2
          cases live with
          | true =>
            simp only [if_true] at p
            exact Post.dKL R p i1 i2
          | false =>
            simp only [if_neg Bool.false_ne_true] at p
            split at p
            · rename_i fs ef
              exact Post.dK R p i1 (dsOf_ok i2 ef)
            · exact p.elim
      · split at p
        · rename_i ks ws e
          obtain ⟨a, kus, h1, h2, h3, h4⟩ := dKV_ok R.toRepM h e
          refine .inr ⟨a, kus, by rw [h1], Rd.of h2, ?_⟩
          cases live with
          | true =>
            simp only [if_true] at p
            split at p
            · exact Post.dKL R p h3 h4
            · exact p.elim
          | false =>
            simp only [if_neg Bool.false_ne_true] at p
            split at p
            · rename_i fs ef
              exact Post.dK R p h3 (dsOf_ok h4 ef)
            · exact p.elim
        · exact p.elim
  · exact p.elim
end
end Zl
set_option Elab.async false
set_option linter.all false
set_option maxRecDepth 100000
set_option maxHeartbeats 4000000
namespace Zl
open PySem PySem.Spec L2
open PyProof.Rows hiding St

/-! ## isinstance -/
inductive Kd where
  | ty (n : String) | own (k : Str)
  deriving DecidableEq
def kdV (Γ : Gm) : Kd → Option Value
  | .ty n => some (.type n)
  | .own k => (match Γ.cl k with
    | some C => some (.ref C)
    | none => (Γ.xc k).map Value.ref)
def kindD : D → Option Kd
  | .non => some (.ty "NoneType")
  | .bl _ => some (.ty "bool")
  | .int _ => some (.ty "int")
  | .str _ => some (.ty "str")
  | .tup _ => some (.ty "tuple")
  | .kt _ => some (.ty "tuple")
  | .lst _ => some (.ty "list")
  | .scr _ => some (.ty "list")
  | .dK _ _ => some (.ty "dict")
  | .dT _ _ => some (.ty "dict")
  | .ins c _ _ => some (.own c)
  | .obj _ => none
  | .exc c _ _ => some (.own c)
  | .fnv _ => none
def kindV (μ : Mu) : Val → Option Kd
  | .d x => kindD x
  | .own k => (match μ[k]? with
    | some (.lst _) => some (.ty "list")
    | some (.dK _ _) => some (.ty "dict")
    | some (.dT _ _) => some (.ty "dict")
    | some (.ins c _ _) => some (.own c)
    | _ => none)
abbrev KTb := Kd → Kd → Option Bool
def isAny (tb : KTb) (k : Kd) : List Kd → Option Bool
  | [] => some false
  | c :: cs => (match tb k c with
    | some true => some true
    | some false => isAny tb k cs
    | none => none)
/-- what the head tells of an own class, for its instances' type -/
structure InsTy (K : PySem.W.Frag) (C : Addr) : Prop where
  cl : Cls K C
  ha : PySem.W.findIn K (.ref C) "__class__" = some (some (.builtin "object.__class__"))
  hn : PySem.W.specialIn K (.builtin "object.__class__") "__get__" = some (some (.builtin "getset_descriptor.__get__"))
  htk : PySem.W.takesIn K (.builtin "object.__class__") = some true
  hm : PySem.W.mroIn K C (.type "object") = some true
/-- what the head tells of an exception class, for its instances' type -/
structure ExcK (K : PySem.W.Frag) (C : Addr) : Prop where
  hcl : (PySem.W.clsIn K C).isSome = true
  hga : PySem.W.findIn K (.ref C) "__getattribute__" = some (some (.builtin "BaseException.__getattribute__"))
  hgt : PySem.W.findIn K (.ref C) "__getattr__" = some none
  hsub : PySem.W.subIn K (.ref C) (.type "BaseException") = some true
  ha : PySem.W.findIn K (.ref C) "__class__" = some (some (.builtin "object.__class__"))
  hn : PySem.W.specialIn K (.builtin "object.__class__") "__get__" = some (some (.builtin "getset_descriptor.__get__"))
  htk : PySem.W.takesIn K (.builtin "object.__class__") = some true
  hm : PySem.W.mroIn K C (.type "object") = some true
/-- the type of a value, or of an exception -/
def TyZ (K : PySem.W.Frag) (H : Hp) (x : V) (t : Value) : Prop := TyX K H x t ∨ ∃ (a C : Addr) (d : Option Addr), x = .ref a ∧ t = .ref C ∧ H a = some (ExV (.ref C) d a) ∧ (d = none ∨ ∃ dd fs, d = some dd ∧ H dd = some (.xd fs)) ∧ ExcK K C
theorem kit_ofZ {X : Cx} {pins : List (Addr × Obj)} {σ : St} {H : Hp} {s : Shared} {x : V} {u t : Value} (I : Inv X pins σ H s) (rx : RelV x u) (ty : TyZ X.K H x t) : ∃ P : Heap → Prop, PySem.W.KitX X.K u t P ∧ P s.heap ∧ u ≠ .builtin "__main__.__loader__#opaque" := by
  rcases ty with ty | ⟨a, C, d, rfl, rfl, ha, hd, e⟩
  · exact kit_of I rx ty
  · cases (show u = Value.ref a from rx)
    obtain ⟨⟨oe, vs, h1, h2, h3⟩, _, _⟩ := I.hok a _ ha
    have hno : PySem.W.notCls oe = true := by unfold PySem.W.notCls; rw [h3]
    rcases hd with rfl | ⟨dd, fs, rfl, hdd⟩
    · exact ⟨fun h => PySem.W.InstAt h a oe C none, PySem.W.kitx_exc e.hcl e.hga e.hgt e.hsub e.ha e.hn e.htk e.hm, ⟨h1, h2.1, hno, by rw [h2.2]; trivial⟩, fun z => nomatch z⟩
    · have hx : ObjOk X.prog X.w H s.heap dd (.xd fs) := I.hok dd _ hdd
      obtain ⟨mA, hns, _⟩ := hx
      obtain ⟨od, ho, _⟩ := lookIn_ns hns
      exact ⟨fun h => PySem.W.InstAt h a oe C (some od), PySem.W.kitx_exc e.hcl e.hga e.hgt e.hsub e.ha e.hn e.htk e.hm, ⟨h1, h2.1, hno, by rw [h2.2]; exact ho⟩, fun z => nomatch z⟩
def rIsiZ (K : PySem.W.Frag) : List V → Hp → VK → Prop := fun xs H Q => ∃ (x c : V) (t u : Value) (b : Bool), xs = [x, c] ∧ ClsV c u ∧ TyZ K H x t ∧ PySem.W.kitOne K t u = some b ∧ Q (.bl b) H
def rIsiTZ (K : PySem.W.Frag) : List V → Hp → VK → Prop := fun xs H Q => ∃ (x : V) (tp : Addr) (cs : List V) (t : Value) (us : List Value) (b : Bool), xs = [x, .ref tp] ∧ H tp = some (.tup cs) ∧ Paired ClsV cs us ∧ TyZ K H x t ∧ PySem.W.kitAny K t us = some b ∧ Q (.bl b) H
theorem call_isiZ {X : Cx} : CallR X (.builtin "isinstance") (rIsiZ X.K) := by
  intro pins s σ H xs us Q I r h
  obtain ⟨x, c, t, u, b, rfl, k, ty, e, q⟩ := h
  obtain ⟨u1, u2, rfl, r1, r2⟩ := vals2 r
  have e2 := k.eq r2
  subst e2
  obtain ⟨P, Z, p, hx⟩ := kit_ofZ I r1 ty
  exact PySem.W.kia_one Z I.kIn p e hx fun tk => ⟨.bl b, H, I.tok tk, rfl, q⟩
theorem call_isiTZ {X : Cx} : CallR X (.builtin "isinstance") (rIsiTZ X.K) := by
  intro pins s σ H xs us Q I r h
  obtain ⟨x, tp, cs, t, ws, b, rfl, hT, k, ty, e, q⟩ := h
  obtain ⟨u1, u2, rfl, r1, r2⟩ := vals2 r
  cases (show u2 = Value.ref tp from r2)
  obtain ⟨P, Z, p, hx⟩ := kit_ofZ I r1 ty
  obtain ⟨_, its, rv, o, h1, h2, n, h3⟩ := (show ObjOk X.prog X.w H s.heap tp (.tup cs) from I.hok tp _ hT)
  have e3 := ClsV.all k rv
  subst e3
  obtain ⟨oc, od, dt, sl⟩ := o
  simp only at h2 h3
  subst h2 h3
  exact PySem.W.kia_tup Z I.kIn p h1 e hx fun tk => ⟨.bl b, H, I.tok tk, rfl, q⟩
structure IsTb (Γ : Gm) (tb : KTb) : Prop where
  ok : ∀ a b r u v, tb a b = some r → kdV Γ a = some u → kdV Γ b = some v → PySem.W.kitOne Γ.K u v = some r
  ins : ∀ k C b r, tb (.own k) b = some r → Γ.cl k = some C → InsTy Γ.K C
  exc : ∀ k C b r, tb (.own k) b = some r → Γ.xc k = some C → Γ.cl k = none ∧ ExcK Γ.K C
/-- built-in types alone -/
def tbB : KTb
  | .ty a, .ty b => kitB a b
  | _, _ => none
theorem tbB_ok {Γ : Gm} : IsTb Γ tbB := by
  refine ⟨fun a b r u v h hu hv => ?_, fun k C b r h _ => ?_, fun k C b r h _ => ?_⟩
  · cases a with
    | own k => cases b <;> cases h
    | ty x =>
      cases b with
      | own k => cases h
      | ty y => cases hu; cases hv; exact kit_ty h
  · cases b <;> cases h
  · cases b <;> cases h
def fIsi (tb : KTb) (ks : List Kd) (f : FE) : FE := fun ρ μ => (f ρ μ).bind fun p => match (kindV p.2 p.1).bind fun k => isAny tb k ks with
  | some b => .ok (.d (.bl b), p.2)
  | none => .bad
/-- an expression that names a class -/
structure CRef (Γ : Gm) (X : Cx) (e : Expr) (k : Kd) : Prop where
  ex : ∃ v u, ClsV v u ∧ kdV Γ k = some u ∧ PE X e (tC v)
structure CRefs (Γ : Gm) (X : Cx) (es : List Expr) (ks : List Kd) : Prop where
  ex : ∃ vs us, Paired ClsV vs us ∧ ks.map (kdV Γ) = us.map some ∧ PA X es (fun _ H Q => Q vs H) ∧ vs.length = ks.length
section
variable {Γ : Gm} {W : WX} {X : Cx} {lv : Nat} {tb : KTb} {f : FE} {e ce : Expr} {es : List Expr} {p pos tpos : Pos} {k : Kd} {ks : List Kd}
theorem isAny_kit (h : IsTb Γ tb) {u : Value} (hu : kdV Γ k = some u) : ∀ {ks : List Kd} {us : List Value} {b : Bool}, ks.map (kdV Γ) = us.map some → isAny tb k ks = some b → PySem.W.kitAny Γ.K u us = some b
  | [], us, b, e, q => by
    cases us with
    | nil => cases q; exact kitAny_nil
    | cons x xs => simp at e
  | c :: cs, us, b, e, q => by
    cases us with
    | nil => simp at e
    | cons x xs =>
      rw [List.map_cons, List.map_cons] at e
      have e1 : kdV Γ c = some x := (List.cons.inj e).1
      have e2 := (List.cons.inj e).2
      unfold isAny at q
      cases z : tb k c with
      | none => rw [z] at q; cases q
      | some r =>
        rw [z] at q
        have h1 := h.ok k c r u x z hu e1
        cases r with
        | true => cases q; exact kitAny_cons h1 (fun y => by cases y) (fun _ => rfl)
        | false => exact kitAny_cons h1 (fun _ => isAny_kit h hu e2 q) (fun y => by cases y)
theorem isAny_some {k : Kd} : ∀ {ks : List Kd} {b : Bool}, isAny tb k ks = some b → ks ≠ [] → ∃ c r, tb k c = some r
  | [], _, _, h => absurd rfl h
  | c :: cs, b, q, _ => by
    unfold isAny at q
    cases z : tb k c with
    | none => rw [z] at q; cases q
    | some r => exact ⟨c, r, z⟩
theorem kind_ok0 (h : IsTb Γ tb) {G : Gh} {μ : Mu} {H : Hp} {x : V} {v : Val} (R : RepM Γ G μ H) (r : VRel Γ G x v) (e : kindV μ v = some k) {c : Kd} {z : Bool} (hz : tb k c = some z) (hne : ∀ c ns ds, v ≠ .d (.exc c ns ds)) : ∃ t, kdV Γ k = some t ∧ TyX Γ.K H x t := by
  have sqT : ∀ {a : Addr} {us : List V}, SqT Γ.K H a us → TyX Γ.K H (.ref a) (.type "tuple") := fun {a us} s => by
    rcases s with (s | ⟨o, s⟩) | ⟨o, its, n, s, hc, _⟩
    · exact .base (.tup s)
    · exact .fTuple s
    · exact .kTuple s hc
  have sqL : ∀ {a : Addr} {us : List V}, SqL Γ.K H a us → TyX Γ.K H (.ref a) (.type "list") := fun {a us} s => by
    rcases s with (s | ⟨o, s⟩) | ⟨o, its, n, s, hc, _⟩
    · exact .base (.lst s)
    · exact .base (.frz s)
    · exact .kList s hc
  have insT : ∀ {a C dx : Addr} {fs : List (Str × V)} {c' : Str}, Γ.cl c' = some C → H a = some (.ins C dx fs) → k = .own c' → ∃ t, kdV Γ k = some t ∧ TyX Γ.K H (.ref a) t := fun {a C dx fs c'} h1 h2 ek => by
    subst ek
    have it := h.ins c' C c z hz h1
    exact ⟨.ref C, by unfold kdV; simp only [h1], .base (.ins h2 it.cl it.ha it.hn it.htk it.hm)⟩
  cases v with
  | own j =>
    obtain ⟨a, ha, ea⟩ := r
    subst ea
    unfold kindV at e
    cases q : μ[j]? with
    | none => simp only [q] at e; cases e
    | some cl =>
      simp only [q] at e
      have rc := R.cells j a cl ha q
      cases cl with
      | lst ws => cases e; obtain ⟨_, us, h, l⟩ := rc; exact ⟨_, rfl, .base (.lst h)⟩
      | dK _ ws => cases e; obtain ⟨_, us, h, l⟩ := rc; exact ⟨_, rfl, .base (.dK h)⟩
      | dT _ ws => cases e; obtain ⟨_, us, h, l⟩ := rc; exact ⟨_, rfl, .base (.dT h)⟩
      | ins c' ns ws => obtain ⟨_, C, dx, us, hc, hh, _⟩ := rc; exact insT hc hh (Option.some.inj e).symm
      | _ => cases e
  | d y =>
    cases y with
    | non => cases e; rw [r.non_]; exact ⟨_, rfl, .base .non⟩
    | bl b => cases e; rw [r.bl_]; exact ⟨_, rfl, .base (.bl _)⟩
    | int b => cases e; rw [r.int_]; exact ⟨_, rfl, .base (.int _)⟩
    | str b => cases e; rw [r.str_]; exact ⟨_, rfl, .base (.str _)⟩
    | tup ds => cases e; obtain ⟨a, us, ea, h1, h2⟩ := VRel.tup_ R r; rw [ea]; exact ⟨_, rfl, sqT h1⟩
    | kt ds => cases e; obtain ⟨a, us, ea, h1, h2⟩ := VRel.kt_ R r; rw [ea]; exact ⟨_, rfl, sqT h1⟩
    | lst ds => cases e; obtain ⟨a, us, ea, h1, h2⟩ := VRel.lst_ R r; rw [ea]; exact ⟨_, rfl, sqL (SqL.of h1)⟩
    | scr ns =>
      cases e
      have r : Is Γ G.F x _ := r
      unfold Is at r
      obtain ⟨a, ea, h1⟩ := r
      rw [ea]; exact ⟨_, rfl, sqL (R.sub.seq h1)⟩
    | dK ks ds =>
      cases e
      have r : Is Γ G.F x _ := r
      unfold Is at r
      obtain ⟨a, kvs, ea, h1, _⟩ := r
      rw [ea]; exact ⟨_, rfl, .base (.dK (R.sub _ _ h1))⟩
    | dT ks ds =>
      cases e
      have r : Is Γ G.F x _ := r
      unfold Is at r
      obtain ⟨a, kvs, ea, h1, _⟩ := r
      rw [ea]; exact ⟨_, rfl, .base (.dT (R.sub _ _ h1))⟩
    | ins c' ns ds =>
      have r : Is Γ G.F x _ := r
      unfold Is at r
      obtain ⟨a, C, dx, fs, ea, hc, h1, _⟩ := r
      rw [ea]
      exact insT hc (R.sub _ _ h1) (Option.some.inj e).symm
    | obj _ => cases e
    | exc c' ns ds => exact absurd rfl (hne _ _ _)
    | fnv _ => cases e
theorem kind_ok (h : IsTb Γ tb) {G : Gh} {μ : Mu} {H : Hp} {x : V} {v : Val} (R : RepM Γ G μ H) (r : VRel Γ G x v) (e : kindV μ v = some k) {c : Kd} {z : Bool} (hz : tb k c = some z) : ∃ t, kdV Γ k = some t ∧ TyZ Γ.K H x t := by
  by_cases hx : ∃ c ns ds, v = .d (.exc c ns ds)
  · obtain ⟨c', ns, ds, rfl⟩ := hx
    have r : Is Γ G.F x _ := r
    unfold Is at r
    obtain ⟨a, C, d, ea, hc, h1, fs, _, _, h2⟩ := r
    rw [ea]
    cases e
    obtain ⟨n1, n2⟩ := h.exc _ C _ _ hz hc
    refine ⟨.ref C, by unfold kdV; simp only [n1, hc]; rfl, .inr ⟨a, C, d, rfl, rfl, R.sub _ _ h1, ?_, n2⟩⟩
    rcases h2 with ⟨h2, _⟩ | ⟨dd, h2, h3⟩
    · exact .inl h2
    · exact .inr ⟨dd, fs, h2, R.sub _ _ h3⟩
  · obtain ⟨t, h1, h2⟩ := kind_ok0 h R r e hz fun c ns ds e => hx ⟨c, ns, ds, e⟩
    exact ⟨t, h1, .inl h2⟩
/-- isinstance(e, C) -/
theorem ze_isi (c : Cz Γ W X lv) (h : IsTb Γ tb) (hg : Gl X "isinstance") (hm : X.mg "isinstance" = none) (he : PE X e (tZ Γ W f)) (hc : CRef Γ X ce k)
    (h1 : starEach [e, ce] X.env = (false, eval e X.env) :: starEach [ce] X.env) (h2 : starEach [ce] X.env = (false, eval ce X.env) :: starEach [] X.env) (hpl : (backTo pos (starEach [ce] X.env)).any (·.1) = false) :
    PE X (.Call (.Name "isinstance" p) [e, ce] [] pos) (tZ Γ W (fIsi tb [k] f)) := by
  obtain ⟨v, u, hv, hk, hp⟩ := hc.ex
  refine PE.imp (pe_callB call_isiZ hg hm PyProof.Rows.boot_isinstance (pa_cons he (pa_cons hp pa_nil h2) h1) (by decide) (by decide) h1 hpl) fun σ H Q t => ?_
  obtain ⟨G, ρ, μ, R, q⟩ := t
  refine ⟨G, ρ, μ, R, Post.bind q fun x w μ1 G1 H1 s1 R1 r1 p1 => ?_⟩
  simp only at p1
  split at p1
  · rename_i b eb
    cases ek : kindV μ1 w with
    | none => rw [ek] at eb; cases eb
    | some kd =>
      rw [ek] at eb
      have eb : isAny tb kd [k] = some b := eb
      obtain ⟨c', r', hz⟩ := isAny_some eb (by simp)
      obtain ⟨t, ht, ty⟩ := kind_ok h R1.toRepM r1 ek hz
      have kk : PySem.W.kitOne Γ.K t u = some b := by
        unfold isAny at eb
        cases z : tb kd k with
        | none => rw [z] at eb; cases eb
        | some r =>
          rw [z] at eb
          have := h.ok kd k r t u z ht hk
          cases r with
          | true => cases eb; exact this
          | false => cases eb; exact this
      exact ⟨x, v, t, u, b, rfl, hv, by rw [c.K]; exact ty, by rw [c.K]; exact kk, Post.bl R1 p1⟩
  · exact p1.elim
/-- isinstance(e, (C1, C2, ..)) -/
theorem ze_isiT {kk : Nat} (c : Cz Γ W X lv) (h : IsTb Γ tb) (hg : Gl X "isinstance") (hm : X.mg "isinstance" = none) (he : PE X e (tZ Γ W f)) (hc : CRefs Γ X es ks) (hne : ks ≠ []) (hle : ks.length ≤ 100)
    (h1 : starEach [e, .Tuple es kk tpos] X.env = (false, eval e X.env) :: starEach [.Tuple es kk tpos] X.env) (h2 : starEach [.Tuple es kk tpos] X.env = (false, eval (.Tuple es kk tpos) X.env) :: starEach [] X.env) (hpl : (backTo pos (starEach [.Tuple es kk tpos] X.env)).any (·.1) = false) :
    PE X (.Call (.Name "isinstance" p) [e, .Tuple es kk tpos] [] pos) (tZ Γ W (fIsi tb ks f)) := by
  obtain ⟨vs, us, hv, hk, hp, hl⟩ := hc.ex
  refine PE.imp (pe_callB call_isiTZ hg hm PyProof.Rows.boot_isinstance (pa_cons he (pa_cons (pe_tup hp) pa_nil h2) h1) (by decide) (by decide) h1 hpl) fun σ H Q t => ?_
  obtain ⟨G, ρ, μ, R, q⟩ := t
  refine ⟨G, ρ, μ, R, Post.bind q fun x w μ1 G1 H1 s1 R1 r1 p1 => ⟨by rw [hl]; exact small_line (by omega), fun tp hf => ?_⟩⟩
  simp only at p1
  split at p1
  · rename_i b eb
    cases ek : kindV μ1 w with
    | none => rw [ek] at eb; cases eb
    | some kd =>
      rw [ek] at eb
      have eb : isAny tb kd ks = some b := eb
      obtain ⟨c', r', hz⟩ := isAny_some eb hne
      have st : Step G1 H1 G1 (upd H1 tp (.tup vs)) := Step.other hf
      have R2 : Rep Γ G1 ρ μ1 σ (upd H1 tp (.tup vs)) := R1.go st (R1.toRepM.other hf)
      obtain ⟨t, ht, ty⟩ := kind_ok h R2.toRepM r1 ek hz
      exact ⟨x, tp, vs, t, us, b, rfl, upd_same, hv, by rw [c.K]; exact ty, by rw [c.K]; exact isAny_kit h ht hk eb, Post.bl R2 (Post.step st p1)⟩
  · exact p1.elim
/-- the class named: a built-in type -/
theorem cref_ty {x : Str} {n : String} (hg : Gl X x) (hm : X.mg x = none) (hv : bootBuiltins x = some (.type n)) (hn : x ≠ "__name__") (hd : (x == ("__debug__" : Str)) = false) : CRef Γ X (.Name x pos) (.ty n) :=
  ⟨.ty n, .type n, .ty n, rfl, pe_bltn hg hm hv (by rfl) hn hd⟩
/-- .. an own class -/
theorem cref_own {x : Str} {kc : Str} {C : Addr} (hg : Gl X x) (hm : X.mg x = some (.ref C)) (hk : kdV Γ (.own kc) = some (.ref C)) (hd : (x == ("__debug__" : Str)) = false) : CRef Γ X (.Name x pos) (.own kc) :=
  ⟨.ref C, .ref C, .own C, hk, pe_glob hg hm (by rfl) hd⟩
theorem crefs_nil : CRefs Γ X [] [] := ⟨[], [], .nil, rfl, pa_nil, rfl⟩
theorem crefs_cons (hc : CRef Γ X ce k) (ht : CRefs Γ X es ks) (hs : starEach (ce :: es) X.env = (false, eval ce X.env) :: starEach es X.env) : CRefs Γ X (ce :: es) (k :: ks) := by
  obtain ⟨v, u, h1, h2, h3⟩ := hc.ex
  obtain ⟨vs, us, t1, t2, t3, t4⟩ := ht.ex
  exact ⟨v :: vs, u :: us, .cons h1 t1, by rw [List.map_cons, List.map_cons, h2, t2], PA.imp (pa_cons h3 t3 hs) fun σ H Q q => q, by rw [List.length_cons, List.length_cons, t4]⟩
end
end Zl
set_option Elab.async false
set_option linter.all false
set_option maxRecDepth 100000
set_option maxHeartbeats 4000000
namespace Zl
open PySem PySem.Spec L2 PySem.W
open PyProof.Rows hiding St

/-! ## sorted -/
def pyOf (d : D) : PyData := (D.py d).getD .none
def srtD (ds : List D) : List D := ds.mergeSort (dataLe false pyOf)
def okSrt (ds : List D) : Bool := (ds.all fun d => (D.py d).isSome && decide ((pyOf d).depth ≤ 60)) && (ds.all fun d => ds.all fun d' => alike (pyOf d) (pyOf d')) &&
  ((ds.all fun d => match pyOf d with
    | .tuple (_ :: _) => true
    | _ => false) || (ds.all fun d => match pyOf d with
    | .none => false
    | .tuple _ => false
    | _ => true))
section
variable {Γ : Gm} {W : WX} {X : Cx}
theorem okSrt_alike {ds : List D} (h : okSrt ds = true) : AllAlike (ds.map pyOf) := by
  unfold okSrt at h
  rw [Bool.and_eq_true, Bool.and_eq_true] at h
  intro d hd d' hd'
  obtain ⟨x, hx, rfl⟩ := List.mem_map.mp hd
  obtain ⟨y, hy, rfl⟩ := List.mem_map.mp hd'
  exact List.all_eq_true.mp (List.all_eq_true.mp h.1.2 x hx) y hy
theorem okSrt_sortable {ds : List D} (h : okSrt ds = true) : Sortable (ds.map pyOf) := by
  unfold okSrt at h
  rw [Bool.and_eq_true, Bool.or_eq_true] at h
  rcases h.2 with q | q
  · refine .inl fun d hd => ?_
    obtain ⟨x, hx, rfl⟩ := List.mem_map.mp hd
    have z := List.all_eq_true.mp q x hx
    split at z
    · rename_i a b e; exact ⟨a, b, e⟩
    · cases z
  · refine .inr fun d hd => ?_
    obtain ⟨x, hx, rfl⟩ := List.mem_map.mp hd
    have z := List.all_eq_true.mp q x hx
    refine ⟨fun e => ?_, fun xs e => ?_⟩
    · rw [e] at z; cases z
    · rw [e] at z; cases z
theorem okSrt_py {ds : List D} (h : okSrt ds = true) {d : D} (hd : d ∈ ds) : D.py d = some (pyOf d) ∧ (pyOf d).depth ≤ 60 := by
  unfold okSrt at h
  rw [Bool.and_eq_true, Bool.and_eq_true] at h
  have z := List.all_eq_true.mp h.1.1 d hd
  rw [Bool.and_eq_true] at z
  refine ⟨?_, of_decide_eq_true z.2⟩
  cases q : D.py d with
  | none => rw [q] at z; cases z.1
  | some p => unfold pyOf; rw [q]; rfl
/-- the values stand for the data -/
abbrev Std (Γ : Gm) (F : Hp) : Value → D → Prop := fun u d => ∃ v, RelV v u ∧ Is Γ F v d
theorem std_each {F : Hp} : ∀ {ds : List D} {vs : List V} {us : List Value}, Vals vs us → IsL Γ F vs ds → EachIs (Std Γ F) us ds
  | [], vs, us, r, h => by
    have e := h.inv0
    subst e
    have hus := L2.Vals.zero r
    subst hus
    constructor
  | d :: ds, vs, us, r, h => by
    obtain ⟨v, w, rfl, h1, h2⟩ := h.inv
    cases r with
    | cons a b => exact .cons ⟨v, a, h1⟩ (std_each b h2)
theorem each_std {F : Hp} {ds : List D} {us : List Value} (h : EachIs (Std Γ F) us ds) : ∃ vs, Vals vs us ∧ IsL Γ F vs ds := by
  induction h with
  | nil => exact ⟨[], .nil, IsL.nil⟩
  | cons a t ih =>
    obtain ⟨v, a, b⟩ := a
    obtain ⟨vs, h1, h2⟩ := ih
    exact ⟨v :: vs, .cons a h1, IsL.cons b h2⟩
/-- what sorted walks -/
def Src (K : PySem.W.Frag) (H : Hp) (a : Addr) (ys : List V) : Prop := SqL K H a ys ∨ SqT K H a ys ∨ ∃ kvs : List (Key × V), Rd H a (.dK kvs) ∧ ys = kvs.map fun kv => kV kv.1
def rSrt (Γ : Gm) : List V → Hp → VK → Prop := fun xs H Q => ∃ (a : Addr) (ys : List V) (bs : List D) (F : Hp), xs = [.ref a] ∧ Src Γ.K H a ys ∧ Same F H ∧ IsL Γ F ys bs ∧ okSrt bs = true ∧ ys.length ≤ 100000 ∧
  ∀ zs p, IsL Γ F zs (srtD bs) → zs.length = ys.length → H p = none → Q (.ref p) (upd H p (.lst zs))
theorem collect_src {pins : List (Addr × Obj)} {σ : St} {H : Hp} {s : Shared} {a : Addr} {ys : List V} {A : Around} {E : Value → Shared → Prop} {Q : List Value → Shared → Prop} (I : Inv X pins σ H s) (hh : A.handled = none) (h : Src X.K H a ys) (hl : ys.length ≤ 100000)
    (q : ∀ us s', Vals ys us → Inv X pins σ H s' → Q us s') : wpAny (model X.prog X.w) A (collect (.ref a)) Q E s := by
  have hs : ys.length ≤ sizeLine := by rw [sizeLine_eq]; omega
  rcases h with h | h | ⟨kvs, h, e⟩
  · obtain ⟨its, rv, pl, hz⟩ := I.list h
    obtain ⟨o, n, ho, hc, hd, hdat⟩ := pl
    exact wpAny_collect_seq a (.inl rfl) ho hc hdat (fun h' hk => q _ _ (by simpa using rv) (I.kept (t' := s.toks) hk)) (by rw [List.size_toArray, ← rv.length]; exact hs)
  · obtain ⟨its, rv, ⟨o, ho, hc, n, hdat⟩, hz⟩ := I.tuple h
    exact wpAny_collect_seq a (.inr rfl) ho hc hdat (fun h' hk => q _ _ (by simpa using rv) (I.kept (t' := s.toks) hk)) (by rw [List.size_toArray, ← rv.length]; exact hs)
  · obtain ⟨z, lo, vs, rel, dd⟩ := dk_rd I.hok h
    obtain ⟨ep, hat⟩ := dd.dictAt
    have h16 : vs.length ≤ sizeLine := by rw [← rel.length]; exact z
    refine PySem.W.kdu_collect (A := A) (PySem.W.kdl_dict (knd := mixKind X.prog X.w) (kvs := vs) (ep := ep) lo) hh hat h16 fun h' tk acc hk hacc => ?_
    refine q _ _ ?_ (I.kept hk)
    have hkeys : vs.map (·.1) = kvs.map (·.1) := rel.keys.symm
    have e2 : ys = vs.map fun p => kV p.1 := by
      rw [e]
      have : (kvs.map fun kv => kV kv.1) = (kvs.map (·.1)).map kV := by rw [List.map_map]; rfl
      rw [this, ← hkeys, List.map_map]; rfl
    rw [e2]
    refine keys_at (by rw [Array.length_toList, hacc.1]) fun j v e => ?_
    obtain ⟨k, x, e1, e2⟩ := hacc.2 j v (by rw [← Array.getElem?_toList]; exact e)
    exact ⟨k, x, e1, e2⟩
theorem call_srt (hk : X.K = Γ.K) (hcalm : X.calm = true) (hu : X.A.units + 65 < cLine) : CallR X (.builtin "sorted") (rSrt Γ) := by
  intro pins s σ H xs us Q I r h
  obtain ⟨a, ys, bs, F, rfl, hsrc, hF, hl, ok, hlen, q⟩ := h
  obtain ⟨u, rfl, rx⟩ := vals1 r
  obtain rfl : u = Value.ref a := rx
  refine Calls.call_function_entry PyProof.Rows.kind_sorted PyProof.Rows.plain_sorted PyProof.Rows.entry_sorted (PyProof.Rows.args_sorted1 _) ?_
  unfold Builtin.«sorted»
  refine wpAny_bind (m := checkCount "sorted" 1 1 _) (wpAny_pure ?_)
  refine wpAny_bind (collect_src (A := X.A.in1) I (I.ok.hd hcalm) (by rw [hk]; exact hsrc) hlen fun vs s1 rv I1 => ?_)
  have hvl : vs.length = ys.length := rv.length.symm
  have hs : vs.length ≤ sizeLine := by rw [hvl, sizeLine_eq]; omega
  refine wpAny_bind (wpAny_newList ?_ hs)
  have hoL : (s1.heap.push (seqObj "list" vs.toArray 0)).get? s1.heap.objs.size = some (seqObj "list" vs.toArray 0) := Heap.get?_push_size _ rfl
  show wpAny _ _ _ _ _ { s1 with heap := s1.heap.push (seqObj "list" vs.toArray 0) }
  have old : ∀ b o, s1.heap.get? b = some o → (sortingHeap (s1.heap.push (seqObj "list" vs.toArray 0)) s1.heap.objs.size vs).get? b = some o := fun b o e =>
    PySem.W.sortingHeap_old (Nat.ne_of_lt (Heap.lt_size e)) (Heap.get?_push_of_some _ e)
  have e0 : EachIs (Std Γ F) vs bs := std_each rv hl
  have dp : ∀ v d, IsL Γ F [v] [d] → True := fun _ _ _ => trivial
  have rd : EachIs (fun v b => ∃ as, Reads (sortingHeap (s1.heap.push (seqObj "list" vs.toArray 0)) s1.heap.objs.size vs) v (pyOf b) as) vs bs := by
    have key : ∀ (l : List D), (∀ d ∈ l, d ∈ bs) → ∀ us, EachIs (Std Γ F) us l → EachIs (fun v b => ∃ as, Reads (sortingHeap (s1.heap.push (seqObj "list" vs.toArray 0)) s1.heap.objs.size vs) v (pyOf b) as) us l := by
      intro l hm us e
      induction e with
      | nil => exact .nil
      | cons a b ih =>
        obtain ⟨v, r1, i1⟩ := a
        refine .cons ?_ (ih fun d hd => hm d (List.mem_cons_of_mem _ hd))
        have hp := (okSrt_py ok (hm _ List.mem_cons_self)).1
        have dpv := D.dp (Γ := Γ) hF _ v _ i1 hp
        rw [← hk] at dpv
        obtain ⟨as, rr⟩ := Dp.reads I1 _ v _ dpv r1
        exact ⟨as, PyProof.Rows.Reads.keeps old rr⟩
    exact key bs (fun _ h => h) vs e0
  have hbl : vs.length = bs.length := e0.length
  refine wpAny_bind (wpAny_holding (wpAny_call_entry PyProof.Rows.slot_list_sort ⟨_, hoL, rfl⟩ PyProof.Rows.entry_list_sort
    (PySem.W.list_sort_vals (κ := dataKind _ (bs.map pyOf)) (s := { s1 with heap := s1.heap.push (seqObj "list" vs.toArray 0) }) hoL
      (SortsAt.data (s := { s1 with heap := sortingHeap (s1.heap.push (seqObj "list" vs.toArray 0)) s1.heap.objs.size vs }) (each_map (R := fun v d => ∃ as, Reads (sortingHeap (s1.heap.push (seqObj "list" vs.toArray 0)) s1.heap.objs.size vs) v d as) pyOf rd) (okSrt_alike ok) (okSrt_sortable ok) (fun d hd => by
        obtain ⟨x, hx, rfl⟩ := List.mem_map.mp hd
        have := (okSrt_py ok hx).2
        show X.A.units + 2 + _ < cLine
        omega)) hs ⟨_, rfl, ?_⟩)
    (PyProof.Rows.args_list_sort _)))
  have outE : EachIs (Std Γ F) (sortVals (dataKind _ (bs.map pyOf)) false vs vs) (bs.mergeSort (dataLe false pyOf)) := sortVals_data (h' := sortingHeap (s1.heap.push (seqObj "list" vs.toArray 0)) s1.heap.objs.size vs) false e0 rd (okSrt_alike ok)
  obtain ⟨zs, g1, g2⟩ := each_std outE
  obtain ⟨e', he'⟩ := PyProof.Rows.sortedHeap_at (vs := vs) (out := (sortVals (dataKind (sortingHeap (s1.heap.push (seqObj "list" vs.toArray 0)) s1.heap.objs.size vs) (bs.map pyOf)) false vs vs).toArray) hoL
  have hzl : zs.length = ys.length := by
    rw [g1.length, sortVals_length false rfl, hvl]
  refine wpAny_pure ⟨_, rfl, .ref s1.heap.objs.size, upd H s1.heap.objs.size (.lst zs), I1.laid (t' := s1.toks) (fun b u e => ?_) (Nat.le_refl _)
    (show ObjOk X.prog X.w _ _ _ (.lst zs) from ⟨by rw [hzl, sizeLine_eq]; omega, _, e', g1, he'⟩), rfl, q zs _ g2 hzl (I1.hok.fresh (Nat.le_refl _))⟩
  have hb : b < s1.heap.objs.size := Heap.lt_size e
  rw [PyProof.Rows.sortedHeap_old (Nat.ne_of_lt hb) (by rw [size_push']; exact Nat.lt_succ_of_lt hb)]
  exact Heap.get?_push_of_some _ e
end
end Zl
set_option Elab.async false
set_option linter.all false
set_option maxRecDepth 100000
set_option maxHeartbeats 4000000
namespace Zl
open PySem PySem.Spec L2 PySem.W
open PyProof.Rows hiding St

/-! ## sorted, min of data -/
def srcV (μ : Mu) (v : Val) : Option (List D) := match rowV μ v with
  | some ds => some ds
  | none => (dKV μ v).map fun p => p.1.map keyD1
section
variable {Γ : Gm} {W : WX} {X : Cx} {lv : Nat}
theorem srcV_ok {G : Gh} {μ : Mu} {H : Hp} {u : V} (R : RepM Γ G μ H) {v : Val} {ds : List D} (r : VRel Γ G u v) (e : srcV μ v = some ds) : ∃ a us, u = .ref a ∧ Src Γ.K H a us ∧ IsL Γ G.F us ds := by
  unfold srcV at e
  split at e
  · rename_i es q
    cases e
    obtain ⟨a, us, h1, h2, h3⟩ := rowV_ok R r q
    refine ⟨a, us, h1, ?_, h3⟩
    rcases h2 with h2 | h2
    · exact .inl h2
    · exact .inr (.inl h2)
  · cases q : dKV μ v with
    | none => rw [q] at e; cases e
    | some p =>
      rw [q] at e
      obtain ⟨ks, vs⟩ := p
      cases e
      obtain ⟨a, kus, h1, h2, h3, h4⟩ := dKV_ok R r q
      refine ⟨a, _, h1, .inr (.inr ⟨kus, Rd.of h2, rfl⟩), ?_⟩
      have ek : (kus.map fun kv => kV kv.1) = ks.map kV := by rw [← h3, List.map_map]; rfl
      rw [ek]
      exact keysD1_is ks
def oSorted (live : Bool) : List Val → Mu → R (Val × Mu)
  | [v], μ => (match srcV μ v with
    | some ds => if okSrt ds = true ∧ ds.length ≤ 100000 then (if live = true then .ok (.own μ.length, μ ++ [.lst ((srtD ds).map Val.d)]) else .ok (.d (.lst (srtD ds)), μ)) else .bad
    | none => .bad)
  | _, _ => .bad
theorem oSorted_ok {live : Bool} : CB Γ W (rSrt Γ) (oSorted live) := by
  intro G ρ μ σ H Q us vs R r p
  unfold oSorted at p
  split at p
  · cases r with
    | cons h t =>
      cases t
      split at p
      · rename_i ds e
        split at p
        · rename_i hz
          obtain ⟨a, us, h1, h2, h3⟩ := srcV_ok R.toRepM h e
          refine ⟨a, us, ds, G.F, by rw [h1], h2, R.sub, h3, hz.1, by rw [h3.length]; exact hz.2, fun zs q hl _ hq => ?_⟩
          cases live with
          | true => rw [if_pos rfl] at p; exact Post.lstL R p (relOf hl) q hq
          | false => rw [if_neg Bool.false_ne_true] at p; exact Post.lst R p hl q hq
        · exact p.elim
      · exact p.elim
  · exact p.elim
def leastD (x : D) (xs : List D) : D := xs.foldl (fun a y => if dataLt (pyOf y) (pyOf a) then y else a) x
def okMin (ds : List D) : Bool := (ds.all fun d => (D.py d).isSome && (match pyOf d with
    | .none => false
    | _ => true)) && (ds.all fun d => ds.all fun d' => alike (pyOf d) (pyOf d')) && decide (PyData.depthAll (ds.map pyOf) ≤ 60)
def rMinD (Γ : Gm) : List V → Hp → VK → Prop := fun xs H Q => ∃ (a : Addr) (ys : List V) (b : D) (bs : List D) (F : Hp), xs = [.ref a] ∧ SqL Γ.K H a ys ∧ Same F H ∧ IsL Γ F ys (b :: bs) ∧ okMin (b :: bs) = true ∧ ∀ z, Is Γ F z (leastD b bs) → Q z H
theorem py_reads (hk : X.K = Γ.K) {pins : List (Addr × Obj)} {σ : St} {H F : Hp} {s : Shared} (I : Inv X pins σ H s) (hF : Same F H) : ∀ {ds : List D} {vs : List V} {us : List Value}, Vals vs us → IsL Γ F vs ds → (∀ d ∈ ds, D.py d = some (pyOf d)) → ∃ as, ReadsAll s.heap us (ds.map pyOf) as := by
  intro ds vs us r l h
  have e : D.pyL ds = some (ds.map pyOf) := by
    induction ds generalizing vs us with
    | nil => unfold D.pyL; rfl
    | cons d ds ih =>
      obtain ⟨v, w, rfl, h1, h2⟩ := l.inv
      cases r with
      | cons a b =>
        unfold D.pyL
        rw [h d List.mem_cons_self, ih b h2 fun d hd => h d (List.mem_cons_of_mem _ hd)]
        rfl
  have dp := D.dpL (Γ := Γ) hF ds vs _ l e
  rw [← hk] at dp
  exact Dp.readsAll I _ vs us dp r
theorem okMin_py {ds : List D} (h : okMin ds = true) {d : D} (hd : d ∈ ds) : D.py d = some (pyOf d) ∧ pyOf d ≠ .none := by
  unfold okMin at h
  rw [Bool.and_eq_true, Bool.and_eq_true] at h
  have z := List.all_eq_true.mp h.1.1 d hd
  rw [Bool.and_eq_true] at z
  refine ⟨?_, fun e => ?_⟩
  · cases q : D.py d with
    | none => rw [q] at z; cases z.1
    | some p => unfold pyOf; rw [q]; rfl
  · have := z.2; rw [e] at this; cases this
theorem okMin_alike {ds : List D} (h : okMin ds = true) : AlikeAll (ds.map pyOf) := by
  refine ⟨fun x hx y hy => ?_, fun x hx => ?_⟩
  · obtain ⟨a, ha, rfl⟩ := List.mem_map.mp hx
    obtain ⟨b, hb, rfl⟩ := List.mem_map.mp hy
    unfold okMin at h
    rw [Bool.and_eq_true, Bool.and_eq_true] at h
    exact List.all_eq_true.mp (List.all_eq_true.mp h.1.2 a ha) b hb
  · obtain ⟨a, ha, rfl⟩ := List.mem_map.mp hx
    exact (okMin_py h ha).2
theorem call_minD (hk : X.K = Γ.K) (hcalm : X.calm = true) (hu : X.A.units + 65 < cLine) : CallR X (.builtin "min") (rMinD Γ) := by
  intro pins s σ H xs us Q I r h
  obtain ⟨a, ys, b, bs, F, rfl, hs, hF, hl, ok, q⟩ := h
  obtain ⟨u, rfl, rx⟩ := vals1 r
  obtain rfl : u = Value.ref a := rx
  rw [← hk] at hs
  obtain ⟨its, rv, pl, hz⟩ := I.list hs
  obtain ⟨as, ra⟩ := py_reads hk I hF rv hl fun d hd => (okMin_py ok hd).1
  have hdep : PyData.depthAll ((b :: bs).map pyOf) ≤ 60 := by
    unfold okMin at ok
    rw [Bool.and_eq_true] at ok
    exact of_decide_eq_true ok.2
  have hn : its.length = bs.length + 1 := by rw [← rv.length, hl.length]; rfl
  refine call_min_walkH (iter_listW (A := X.A.in1) (I.ok.hd hcalm) pl.isList fun s₂ e W st hfp hw hk => ?_)
  refine ⟨_, _, _, _, _, _, _, s.heap, _, rfl, W, st, hfp, by simp; omega, hw, hk, cmpIn_lt (A := X.A.in1) (vs := its.toArray) (xs := (b :: bs).map pyOf) (by simpa using ra) (okMin_alike ok) (by show X.A.units + 1 + _ < _; omega), fun v s' hP m => ?_⟩
  obtain ⟨h', tk, rfl, hk'⟩ := moved_old e rfl m
  have e1 : its.toArray.size - 1 = bs.length := by simp; omega
  rw [e1] at hP
  have e2 := (argBest_fold (fun x y => dataLt (pyOf x) (pyOf y)) D.non b bs bs.length (Nat.le_refl _)).2
  rw [List.take_length] at e2
  have e3 : (fun i j => dataLt (((b :: bs).map pyOf).getD i .none) (((b :: bs).map pyOf).getD j .none)) = (fun i j => dataLt (pyOf ((b :: bs).getD i D.non)) (pyOf ((b :: bs).getD j D.non))) := by
    have z : ∀ i : Nat, ((b :: bs).map pyOf).getD i PyData.none = pyOf ((b :: bs).getD i D.non) := fun i => by
      rw [List.getD_eq_getElem?_getD, List.getD_eq_getElem?_getD, List.getElem?_map]
      cases (b :: bs)[i]? with
      | none => rfl
      | some x => rfl
    funext i j
    rw [z, z]
  rw [e3] at hP
  generalize hm : argBest (fun i j => dataLt (pyOf ((b :: bs).getD i D.non)) (pyOf ((b :: bs).getD j D.non))) bs.length = m at hP e2
  have hP' : its[m]? = some v := by simpa using hP
  have hlen : m < (b :: bs).length := by
    have := (List.getElem?_eq_some_iff.mp hP').1
    rw [hn] at this
    simpa using this
  have ed : (b :: bs)[m]? = some (leastD b bs) := by
    have z : (b :: bs).getD m D.non = leastD b bs := e2
    rw [List.getD_eq_getElem?_getD, List.getElem?_eq_getElem hlen] at z
    rw [List.getElem?_eq_getElem hlen]
    exact congrArg some z
  obtain ⟨z, hz1, hz2⟩ := hl.get ed
  obtain ⟨u', hu1, hu2⟩ := rv.get hz1
  rw [hu1] at hP'
  cases hP'
  exact ⟨z, H, I.kept (t' := tk) hk', hu2, q z hz2⟩
def oMinD : List Val → Mu → R (Val × Mu)
  | [v], μ => (match lstV μ v with
    | some (d :: ds) => if okMin (d :: ds) = true then .ok (.d (leastD d ds), μ) else .bad
    | _ => .bad)
  | _, _ => .bad
theorem oMinD_ok : CB Γ W (rMinD Γ) oMinD := by
  intro G ρ μ σ H Q us vs R r p
  unfold oMinD at p
  split at p
  · cases r with
    | cons h t =>
      cases t
      split at p
      · rename_i d ds e
        split at p
        · rename_i hz
          obtain ⟨a, us, h1, h2, h3⟩ := lstV_ok R.toRepM h e
          exact ⟨a, us, d, ds, G.F, by rw [h1], SqL.of h2, R.sub, h3, hz, fun z hz => Post.here R p hz⟩
        · exact p.elim
      · exact p.elim
  · exact p.elim

/-! ## [*a, v] -/
def fAStar (f : FE) (g : FA) : FA := fun ρ μ => (f ρ μ).bind fun p => match seqV p.2 p.1 with
  | some ds => (g ρ p.2).bind fun q => .ok (ds.map Val.d ++ q.1, q.2)
  | none => .bad
theorem za_star {e : Expr} {es : List Expr} {f : FE} {g : FA} {p : Pos} (c : Cz Γ W X lv) (he : PE X e (tZ Γ W f)) (hr : PA X es (tZA Γ W g)) (hs : starEach (.Starred e p :: es) X.env = (true, eval e X.env) :: starEach es X.env) : PA X (.Starred e p :: es) (tZA Γ W (fAStar f g)) := by
  refine PA.imp (StX.pa_star he hr hs) fun σ H Q t => ?_
  obtain ⟨G, ρ, μ, R, p⟩ := t
  refine ⟨G, ρ, μ, R, Post.bindA p fun x v μ1 G1 H1 s1 R1 r1 p1 => ?_⟩
  simp only at p1
  split at p1
  · rename_i ds e
    obtain ⟨a, us, h1, h2, h3⟩ := seqV_ok R1.toRepM r1 e
    refine ⟨a, us, h1, by rw [c.K]; exact h2.symm, G1, ρ, μ1, R1, PostA.bindA p1 fun ws vs μ2 G2 H2 s2 R2 r2 p2 => ?_⟩
    exact p2 _ G2 H2 (Step.refl _ _) R2 (rel_app (VRelL.mono s2 (relOf h3)) r2)
  · exact p1.elim

/-! ## {}, {k: v, ..} -/
def fDict0 (live tuples : Bool) : FE := fun _ μ => if live = true then (if tuples = true then .ok (.own μ.length, μ ++ [.dT [] []]) else .ok (.own μ.length, μ ++ [.dK [] []])) else .ok (.d (.dK [] []), μ)
theorem Post.dTL {G : Gh} {ρ : Rho} {μ : Mu} {σ : St} {H : Hp} {Q : VK} {ks : List (List Key)} {vs : List Val} {kus : List (List Key × V)} (R : Rep Γ G ρ μ σ H) (h : Post Γ W G ρ σ H Q (.ok (.own μ.length, μ ++ [.dT ks vs]))) (e : kus.map (·.1) = ks) (l : VRelL Γ G (kus.map (·.2)) vs) : ∀ p, H p = none → Q (.ref p) (upd H p (.dT kus)) := fun p hp =>
  have s : Step G H (G.lvn p) (upd H p (.dT kus)) := RepM.stepLv hp
  have m := R.toRepM.lvNew (o := .dT kus) (c := .dT ks vs) hp ⟨R.toRepM.Fnone hp, kus, upd_same, e, VRelL.mono s l⟩
  h (.ref p) _ _ s (R.go s m) ⟨p, by show (G.al ++ [p])[μ.length]? = _; rw [← R.len]; simp, rfl⟩
theorem ze_dict0 {live : Bool} {pos : Pos} : PE X (.Dict [] [] pos) (tZ Γ W (fDict0 live false)) := by
  refine PE.imp pe_dnewK fun σ H Q t => ?_
  obtain ⟨G, ρ, μ, R, p⟩ := t
  cases live with
  | true => exact Post.dKL R p rfl .nil
  | false => exact Post.dK R p rfl IsL.nil
theorem ze_dict0T {pos : Pos} : PE X (.Dict [] [] pos) (tZ Γ W (fDict0 true true)) := by
  refine PE.imp pe_dnewT fun σ H Q t => ?_
  obtain ⟨G, ρ, μ, R, p⟩ := t
  exact Post.dTL R p rfl .nil
/-- the pairs of a display: keys are constants of int or text -/
inductive Prs (Γ : Gm) (W : WX) (X : Cx) : List (Option Expr) → List Expr → List (Key × FE) → Prop where
  | nil : Prs Γ W X [] [] []
  | cons {k v : Expr} {ks : List (Option Expr)} {vs : List Expr} {fs : List (Key × FE)} {key : Key} {f : FE} (hk : PE X k (tZ Γ W (fC (keyD1 key)))) (hv : PE X v (tZ Γ W f)) (t : Prs Γ W X ks vs fs) : Prs Γ W X (some k :: ks) (v :: vs) ((key, f) :: fs)
def dispGo : List (Key × FE) → Rho → Mu → R ((List Key × List Val) × Mu)
  | [], _, μ => .ok (([], []), μ)
  | (k, f) :: r, ρ, μ => (f ρ μ).bind fun p => (dispGo r ρ p.2).bind fun q => .ok ((k :: q.1.1, p.1 :: q.1.2), q.2)
def fDisp (live : Bool) (fs : List (Key × FE)) : FE := fun ρ μ => (dispGo fs ρ μ).bind fun q => let m := mergeKs [] [] q.1.1 q.1.2; if live = true then .ok (.own q.2.length, q.2 ++ [.dK m.1 m.2]) else (match dsOf m.2 with
  | some es => .ok (.d (.dK m.1 es), q.2)
  | none => .bad)
end
end Zl
set_option Elab.async false
set_option linter.all false
set_option maxRecDepth 100000
set_option maxHeartbeats 4000000
namespace Zl
open PySem PySem.Spec L2 PySem.W
open PyProof.Rows hiding St

/-! ## an object of nobody's, under work -/
structure Loose (G : Gh) (H : Hp) (P : Addr) (o : HO) : Prop where
  here : H P = some o
  nF : G.F P = none
  nA : P ∉ G.al
section
variable {Γ : Gm} {W : WX} {X : Cx} {lv : Nat} {G G' G0 : Gh} {H H' H0 : Hp} {P : Addr} {o o' : HO} {μ : Mu} {ρ : Rho} {σ : St}
theorem Loose.new (R : RepM Γ G μ H) (hP : H P = none) : Loose G (upd H P o) P o := ⟨upd_same, R.Fnone hP, R.notin hP⟩
theorem Loose.step (ht : ¬ TabO o) (l : Loose G H P o) (s : Step G H G' H') : Loose G' H' P o := by
  refine ⟨s.keep P _ l.here (fun ps z => ht (.inl ⟨ps, z⟩)) l.nA, ?_, fun z => ?_⟩
  · cases e : G'.F P with
    | none => rfl
    | some o =>
      rcases s.newF P l.nF (by rw [e]; exact fun z => by cases z) with z | z
      · rw [l.here] at z; cases z
      · exact absurd z l.nA
  · have := s.newA P z l.nA
    rw [l.here] at this; cases this
theorem Loose.put (l : Loose G H P o) : Loose G (upd H P o') P o' := ⟨upd_same, l.nF, l.nA⟩
theorem Loose.rep (ht : ¬ TabO o) (l : Loose G H P o) (R : RepM Γ G μ H) : RepM Γ G μ (upd H P o') := by
  have hP5 : ∀ a, a ≠ P → upd H P o' a = H a := fun a z => upd_ne z
  refine ⟨fun a o e => ?_, R.len, R.nd, fun k a c e1 e2 => CRel.mono (fun _ _ h => h) (fun n => n) ⟨[], by simp⟩ (hP5 a (mem_ne (List.mem_of_getElem? e1) l.nA)) (R.cells k a c e1 e2), fun a h => ?_, R.clo, R.tabs.go (fun a u e t _ => by rw [hP5 a fun z => by rw [z, l.here] at e; cases e; exact ht t]; exact e) (fun _ _ _ _ _ h => h) fun _ z => .inl z⟩
  · have z : a ≠ P := fun z => by rw [z, l.nF] at e; cases e
    rw [hP5 a z]; exact R.sub a o e
  · obtain ⟨o, e⟩ := R.there a h
    exact ⟨o, by rw [hP5 a (mem_ne h l.nA)]; exact e⟩
theorem Step.put (s : Step G0 H0 G H) (hP : H0 P = none) : Step G0 H0 G (upd H P o') := by
  have hP5 : ∀ a, a ≠ P → upd H P o' a = H a := fun a z => upd_ne z
  refine ⟨s.fz, s.al, s.ts, fun a o e nt n => ?_, s.newF, s.newA, fun a o e => ?_⟩
  · have z : a ≠ P := fun z => by rw [z, hP] at e; cases e
    rw [hP5 a z]; exact s.keep a o e nt n
  · have z : a ≠ P := fun z => by rw [z, hP] at e; cases e
    rw [hP5 a z]; exact s.there a o e
/-- it becomes live, or frozen -/
theorem Rep.lvOld' {c : Cell} (ht : ¬ TabO o) (R : Rep Γ G ρ μ σ H) (l : Loose G H P o) (hc : CRel Γ (G.lvn P) H P c) : Rep Γ (G.lvn P) ρ (μ ++ [c]) σ H :=
  ⟨R.toRepM.lvOld l.here l.nA ht hc, fun i v e => let ⟨u, a, b⟩ := R.slots i v e; ⟨u, a, VRel.lvn b⟩, R.rl, R.n0, R.top⟩
theorem VRel.fzn (nF : G.F P = none) {u : V} : ∀ {v : Val}, VRel Γ G u v → VRel Γ (G.fzn P o) u v
  | .d x, h => Is.mono (same_upd nF) _ _ h
  | .own k, h => h
theorem Rep.fzOld' (ht : ¬ TabO o) (R : Rep Γ G ρ μ σ H) (l : Loose G H P o) : Rep Γ (G.fzn P o) ρ μ σ H :=
  ⟨R.toRepM.fzOld l.here l.nF l.nA ht, fun i v e => let ⟨u, a, b⟩ := R.slots i v e; ⟨u, a, VRel.fzn l.nF b⟩, R.rl, R.n0, R.top⟩
def dcFin (live : Bool) (q : (List Key × List Val) × Mu) : R (Val × Mu) := if live = true then .ok (.own q.2.length, q.2 ++ [.dK q.1.1 q.1.2]) else (match dsOf q.1.2 with
  | some es => .ok (.d (.dK q.1.1 es), q.2)
  | none => .bad)
theorem Loose.fin {Q : VK} {live : Bool} {ks : List Key} {vs : List Val} {kus : List (Key × V)} (l : Loose G H P (.dK kus)) (R : Rep Γ G ρ μ σ H) (s : Step G0 H0 G H) (hP : H0 P = none) (h : Post Γ W G0 ρ σ H0 Q (dcFin live ((ks, vs), μ))) (e : kus.map (·.1) = ks) (r : VRelL Γ G (kus.map (·.2)) vs) : Q (.ref P) H := by
  unfold dcFin at h
  cases live with
  | true =>
    rw [if_pos rfl] at h
    refine h (.ref P) (G.lvn P) H (s.lvOld hP) (Rep.lvOld' TabO.dK R l ⟨l.nF, kus, l.here, e, Paired.imp (fun _ _ h => VRel.lvn h) r⟩) ⟨P, ?_, rfl⟩
    show (G.al ++ [P])[μ.length]? = _
    rw [← R.len]; simp
  | false =>
    rw [if_neg Bool.false_ne_true] at h
    split at h
    · rename_i xs ed
      have l' := dsOf_ok r ed
      refine h (.ref P) (G.fzn P (.dK kus)) H (s.fzOld hP l.nF) (Rep.fzOld' TabO.dK R l) ?_
      show Is Γ (upd G.F P (.dK kus)) _ _
      unfold Is
      exact ⟨P, kus, rfl, upd_same, e, IsL.mono (same_upd l.nF) _ _ l'⟩
    · exact h.elim

/-! ## {k: v, ..} -/
def PostP (Γ : Gm) (W : WX) (G : Gh) (ρ : Rho) (σ : St) (H : Hp) (Q : List (V × V) → Hp → Prop) : R ((List Key × List Val) × Mu) → Prop
  | .ok p => ∀ (kus : List (Key × V)) G' H', Step G H G' H' → Rep Γ G' ρ p.2 σ H' → kus.map (·.1) = p.1.1 → VRelL Γ G' (kus.map (·.2)) p.1.2 → Q (kus.map fun kv => (kV kv.1, kv.2)) H'
  | .ex e r m => ∀ cls dx G' H', Step G H G' H' → Rep Γ G' r m σ H' → ErrRel Γ G' H' cls dx e → W cls dx σ H'
  | .bad => False
theorem PostP.step {G1 : Gh} {H1 : Hp} {Q : List (V × V) → Hp → Prop} (s : Step G H G1 H1) : ∀ {r : R ((List Key × List Val) × Mu)}, PostP Γ W G ρ σ H Q r → PostP Γ W G1 ρ σ H1 Q r
  | .ok p, h => fun u G' H' z => h u G' H' (s.trans z)
  | .ex e r m, h => fun c d G' H' z => h c d G' H' (s.trans z)
  | .bad, h => h
theorem Post.bindP {Q : List (V × V) → Hp → Prop} {Q1 : VK} {k : Val × Mu → R ((List Key × List Val) × Mu)} : ∀ {r : R (Val × Mu)}, PostP Γ W G ρ σ H Q (r.bind k) →
    (∀ u v μ1 G1 H1, Step G H G1 H1 → Rep Γ G1 ρ μ1 σ H1 → VRel Γ G1 u v → PostP Γ W G1 ρ σ H1 Q (k (v, μ1)) → Q1 u H1) → Post Γ W G ρ σ H Q1 r
  | .ok p, h, f => fun u G1 H1 s R v => f u p.1 p.2 G1 H1 s R v (PostP.step s h)
  | .ex e r m, h, f => h
  | .bad, h, f => h
theorem PostP.bindP {Q Q1 : List (V × V) → Hp → Prop} {k : (List Key × List Val) × Mu → R ((List Key × List Val) × Mu)} : ∀ {r : R ((List Key × List Val) × Mu)}, PostP Γ W G ρ σ H Q (r.bind k) →
    (∀ (kus : List (Key × V)) ks vs μ1 G1 H1, Step G H G1 H1 → Rep Γ G1 ρ μ1 σ H1 → kus.map (·.1) = ks → VRelL Γ G1 (kus.map (·.2)) vs → PostP Γ W G1 ρ σ H1 Q (k ((ks, vs), μ1)) → Q1 (kus.map fun kv => (kV kv.1, kv.2)) H1) → PostP Γ W G ρ σ H Q1 r
  | .ok p, h, f => fun kus G1 H1 s R e v => f kus p.1.1 p.1.2 p.2 G1 H1 s R e v (PostP.step s h)
  | .ex e r m, h, f => h
  | .bad, h, f => h
theorem PostP.bind {Q : VK} {Q1 : List (V × V) → Hp → Prop} {k : (List Key × List Val) × Mu → R (Val × Mu)} : ∀ {r : R ((List Key × List Val) × Mu)}, Post Γ W G ρ σ H Q (r.bind k) →
    (∀ (kus : List (Key × V)) ks vs μ1 G1 H1, Step G H G1 H1 → Rep Γ G1 ρ μ1 σ H1 → kus.map (·.1) = ks → VRelL Γ G1 (kus.map (·.2)) vs → Post Γ W G1 ρ σ H1 Q (k ((ks, vs), μ1)) → Q1 (kus.map fun kv => (kV kv.1, kv.2)) H1) → PostP Γ W G ρ σ H Q1 r
  | .ok p, h, f => fun kus G1 H1 s R e v => f kus p.1.1 p.1.2 p.2 G1 H1 s R e v (Post.step s h)
  | .ex e r m, h, f => h
  | .bad, h, f => h
theorem keyD1_v {F : Hp} {u : V} {k : Key} (h : Is Γ F u (keyD1 k)) : u = kV k := by
  cases k with
  | inl i => have h : Is Γ F u (.int i) := h; unfold Is at h; exact h
  | inr i => have h : Is Γ F u (.str i) := h; unfold Is at h; exact h
theorem prs_ok {pos : Pos} {keys : List (Option Expr)} {values : List Expr} {fs : List (Key × FE)} (h : Prs Γ W X keys values fs) : ∃ trs, PPs X pos keys values trs ∧ keys.all (·.isSome) = true ∧ keys.length = values.length ∧ keys.length = fs.length ∧
    ∀ (σ : St) (H : Hp) (Q : List (V × V) → Hp → Prop) (G : Gh) (ρ : Rho) (μ : Mu), Rep Γ G ρ μ σ H → PostP Γ W G ρ σ H Q (dispGo fs ρ μ) → tPairs trs σ H Q := by
  induction h with
  | nil => exact ⟨[], pps_nil, rfl, rfl, rfl, fun σ H Q G ρ μ R p => p [] G H (Step.refl G H) R rfl .nil⟩
  | cons hk hv t ih =>
    rename_i k v ks vs fs key f
    obtain ⟨trs, h1, h2, h3, h4, h5⟩ := ih
    refine ⟨_, pps_cons hk hv h1, by simpa using h2, by simp [h3], by simp [h4], fun σ H Q G ρ μ R p => ?_⟩
    show tZ Γ W (fC (keyD1 key)) σ H fun x H1 => tZ Γ W f σ H1 fun y H2 => tPairs trs σ H2 fun ps H3 => Q ((x, y) :: ps) H3
    have p : PostP Γ W G ρ σ H Q ((f ρ μ).bind fun p => (dispGo fs ρ p.2).bind fun q => .ok ((key :: q.1.1, p.1 :: q.1.2), q.2)) := p
    refine ⟨G, ρ, μ, R, fun u G1 H1 s1 R1 r1 => ?_⟩
    have eu : u = kV key := keyD1_v r1
    subst eu
    refine ⟨G1, ρ, μ, R1, Post.bindP (PostP.step s1 p) fun y w μ2 G2 H2 s2 R2 r2 p2 => ?_⟩
    refine h5 σ H2 _ G2 ρ μ2 R2 (PostP.bindP p2 fun kus ks' vs' μ3 G3 H3 s3 R3 e3 r3 p3 => ?_)
    exact p3 ((key, y) :: kus) G3 H3 (Step.refl _ _) R3 (by rw [List.map_cons, e3]) (.cons (VRel.mono s3 r2) r3)
theorem ze_disp {live : Bool} {pos : Pos} {keys : List (Option Expr)} {values : List Expr} {fs : List (Key × FE)} (h : Prs Γ W X keys values fs) (h0 : fs ≠ []) (h15 : fs.length ≤ 15) :
    PE X (.Dict keys values pos) (tZ Γ W (fDisp live fs)) := by
  obtain ⟨trs, h1, h2, h3, h4, h5⟩ := prs_ok (pos := pos) h
  refine PE.imp (pe_disp h1 h2 h3 (fun z => h0 (by rw [z] at h4; exact List.length_eq_zero_iff.mp h4.symm)) (by rw [h4]; exact h15)) fun σ H Q t => ?_
  obtain ⟨G, ρ, μ, R, p⟩ := t
  intro P hP
  have l0 : Loose G (upd H P (.dK [])) P (.dK []) := Loose.new R.toRepM hP
  have R0 : Rep Γ G ρ μ σ (upd H P (.dK [])) := R.go (Step.other hP) (R.toRepM.other hP)
  refine h5 σ _ _ G ρ μ R0 ?_
  unfold fDisp at p
  cases e : dispGo fs ρ μ with
  | bad => rw [e] at p; exact p
  | ex er r m => rw [e] at p; exact fun c d G' H' s R' er' => p c d G' H' ((Step.other hP).trans s) R' er'
  | ok q =>
    rw [e, Zl.R.bind_ok] at p
    obtain ⟨⟨ks, vs⟩, μ1⟩ := q
    intro kus G1 H1 s1 R1 e1 r1
    have e1 : kus.map (·.1) = ks := e1
    have l1 := l0.step TabO.dK s1
    refine ⟨l1.here, kus, rfl, ?_, ?_⟩
    · have : kus.length = ks.length := by rw [← e1, List.length_map]
      have kl : ∀ {fs : List (Key × FE)} {μ : Mu} {q}, dispGo fs ρ μ = .ok q → q.1.1.length = fs.length := by
        intro fs
        induction fs with
        | nil => intro μ q h; cases h; rfl
        | cons a r ih =>
          intro μ q h
          obtain ⟨k, f⟩ := a
          have h : ((f ρ μ).bind fun p => (dispGo r ρ p.2).bind fun q => (Zl.R.ok ((k :: q.1.1, p.1 :: q.1.2), q.2) : Zl.R ((List Key × List Val) × Mu))) = .ok q := h
          cases e1 : f ρ μ with
          | bad => rw [e1] at h; cases h
          | ex a b c => rw [e1] at h; cases h
          | ok p =>
            rw [e1, Zl.R.bind_ok] at h
            cases e2 : dispGo r ρ p.2 with
            | bad => rw [e2] at h; cases h
            | ex a b c => rw [e2] at h; cases h
            | ok z =>
              rw [e2, Zl.R.bind_ok] at h
              cases h
              show _ + 1 = _ + 1
              rw [ih e2]
      have e2 := kl e
      rw [this]
      exact Nat.le_trans (Nat.le_of_eq e2) h15
    · have l2 : Loose G1 (upd H1 P (.dK (mergeK [] kus))) P (.dK (mergeK [] kus)) := l1.put
      have st : Step G H G1 (upd H1 P (.dK (mergeK [] kus))) := ((Step.other hP).trans s1).put hP
      have R2 : Rep Γ G1 ρ μ1 σ (upd H1 P (.dK (mergeK [] kus))) := ⟨l1.rep TabO.dK R1.toRepM, R1.slots, R1.rl, R1.n0, R1.top⟩
      obtain ⟨i1, i2⟩ := mergeKs_ok (G := G1) (kus := []) (vs := []) .nil r1
      rw [e1] at i1 i2
      exact l2.fin (ks := (mergeKs [] [] ks vs).1) (vs := (mergeKs [] [] ks vs).2) R2 st hP p i1 i2
end

/-! ## {k: v for ..} -/
def dcGo (g : FG) (t : FT) (fk fv : FE) : List D → Rho → Mu → List Key → List Val → R ((List Key × List Val) × Mu)
  | [], _, μ, ks, vs => .ok ((ks, vs), μ)
  | d :: ds, ρ, μ, ks, vs => (g (.d d) ρ μ).noex.bind fun q => (t q.1 q.2).noex.bind fun b => if b.1 = true then
      (fk q.1 b.2).noex.bind fun k => (fv q.1 k.2).noex.bind fun p => (match keyV k.1 with
        | some key => if ks.length < 1000000 then dcGo g t fk fv ds ρ p.2 (putKs ks vs key p.1).1 (putKs ks vs key p.1).2 else .bad
        | none => .bad)
    else dcGo g t fk fv ds ρ b.2 ks vs
def fDc (live : Bool) (it : FI) (g : FG) (t : FT) (fk fv : FE) (own : List Nat) : FE := fun ρ μ => (it ρ μ).bind fun p => (dcGo g t fk fv p.1 (ρ.wipe own) p.2 [] []).bind fun q => dcFin live q
section
variable {Γ : Gm} {W : WX} {X : Cx} {lv : Nat} {live : Bool} {it : FI} {gt : FG} {t : FT} {fk fv : FE} {vs : List Nat} {g : TG}
theorem keyV_rel {G : Gh} {u : V} {v : Val} {k : Key} (h : VRel Γ G u v) (e : keyV v = some k) : u = kV k := by
  cases v with
  | d x => exact keyD_ok (show Is Γ G.F u x from h) e
  | own j => cases e
theorem dc_ok (hg : TgOk Γ vs g gt) (σ : St) (H : Hp) (Q : VK) (q : tZ Γ W (fDc live it gt t fk fv vs) σ H Q) : tDc (tZI Γ W it) g (tZT Γ WF t) (tZ Γ WF fk) (tZ Γ WF fv) vs σ H Q := by
  obtain ⟨G, ρ, μ, R, p⟩ := q
  refine ⟨G, ρ, μ, R, postI_bind p fun J ds μ1 G1 H1 s1 R1 j p1 => ?_⟩
  intro P hP
  refine ⟨fun i m H2 => m = ds.length - i ∧ i ≤ ds.length ∧ ∃ G2 μ2 kus ks ws, Rep Γ G2 ρ μ2 σ H2 ∧ Step G1 H1 G2 H2 ∧ Loose G2 H2 P (.dK kus) ∧ kus.map (·.1) = ks ∧ VRelL Γ G2 (kus.map (·.2)) ws ∧
    Post Γ W G1 ρ σ H1 Q ((dcGo gt t fk fv (ds.drop i) (ρ.wipe vs) μ2 ks ws).bind fun q => dcFin live q), ⟨ds.length, by simp, Nat.zero_le _, G1, μ1, [], [], [], R1.go (Step.other hP) (R1.toRepM.other hP), Step.other hP, Loose.new R1.toRepM hP, rfl, .nil, by simpa using p1⟩, ?_⟩
  rintro i m H2 ⟨rfl, hi, G2, μ2, kus, ks, ws, R2, st2, l2, ek, rel, p2⟩
  by_cases hlt : i < ds.length
  · refine .inr ⟨j.go i G2.F H2 st2.fz R2.sub hlt, fun H' => ∃ G2 μ2 kus ks ws, Rep Γ G2 ρ μ2 σ H' ∧ Step G1 H1 G2 H' ∧ Loose G2 H' P (.dK kus) ∧ kus.map (·.1) = ks ∧ VRelL Γ G2 (kus.map (·.2)) ws ∧
      Post Γ W G1 ρ σ H1 Q ((dcGo gt t fk fv (ds.drop (i + 1)) (ρ.wipe vs) μ2 ks ws).bind fun q => dcFin live q), fun H' n => ⟨ds.length - (i + 1), by omega, rfl, hlt, n⟩, fun x H3 y => ?_⟩
    have hget : ds[i]? = some ds[i] := List.getElem?_eq_getElem hlt
    rw [List.drop_eq_getElem_cons hlt] at p2
    have key : ∃ G3, Step G2 H2 G3 H3 ∧ Rep Γ G3 ρ μ2 σ H3 ∧ Is Γ G3.F x ds[i] := by
      rcases j.yld i G2.F H2 x H3 _ st2.fz R2.sub hget y with ⟨e, h⟩ | ⟨p, o, hp, e, h⟩
      · subst e; exact ⟨G2, Step.refl _ _, R2, h⟩
      · subst e
        have st := R2.toRepM.stepFz (o := o) hp
        exact ⟨_, st, R2.go st (R2.toRepM.fzNew hp), h⟩
    obtain ⟨G3, st3, R3, hx⟩ := key
    have p3 : Post Γ W G1 ρ σ H1 Q (((gt (.d ds[i]) (ρ.wipe vs) μ2).noex.bind fun q => (t q.1 q.2).noex.bind fun b => if b.1 = true then
      (fk q.1 b.2).noex.bind fun k => (fv q.1 k.2).noex.bind fun p => (match keyV k.1 with
        | some key => if ks.length < 1000000 then dcGo gt t fk fv (ds.drop (i + 1)) (ρ.wipe vs) p.2 (putKs ks ws key p.1).1 (putKs ks ws key p.1).2 else .bad
        | none => .bad)
      else dcGo gt t fk fv (ds.drop (i + 1)) (ρ.wipe vs) b.2 ks ws).bind fun q => dcFin live q) := p2
    cases eg : gt (.d ds[i]) (ρ.wipe vs) μ2 with
    | bad => rw [eg] at p3; exact p3.elim
    | ex a b c => rw [eg] at p3; exact p3.elim
    | ok q =>
      rw [eg, Zl.R.noex_ok, Zl.R.bind_ok] at p3
      refine hg G3 (ρ.wipe vs) μ2 (wipe σ vs) H3 x ds[i] q _ (R3.wipe vs) hx eg fun σ3 R3' hw => ⟨hw.trans wipe_wipe, G3, q.1, q.2, R3', ?_⟩
      have R3m : Rep Γ G3 ρ q.2 σ H3 := ⟨R3'.toRepM, R3.slots, R3.rl, R3.n0, R3.top⟩
      cases et : t q.1 q.2 with
      | bad => rw [et] at p3; exact p3.elim
      | ex a b c => rw [et] at p3; exact p3.elim
      | ok b =>
        rw [et, Zl.R.noex_ok, Zl.R.bind_ok] at p3
        intro G4 H4 st4 R4
        have R4m : Rep Γ G4 ρ b.2 σ H4 := ⟨R4.toRepM, slots_step st4 R3m.slots, R3m.rl, by rw [st4.ts]; exact R3m.n0, by rw [st4.ts]; exact R3m.top⟩
        cases hb : b.1 with
        | false =>
          rw [hb, if_neg Bool.false_ne_true] at p3
          rw [if_neg Bool.false_ne_true]
          exact ⟨G4, b.2, kus, ks, ws, R4m, st2.trans (st3.trans st4), l2.step TabO.dK (st3.trans st4), ek, VRelL.mono (st3.trans st4) rel, p3⟩
        | true =>
          rw [hb, if_pos rfl] at p3
          rw [if_pos rfl]
          refine ⟨G4, q.1, b.2, R4, ?_⟩
          cases ee : fk q.1 b.2 with
          | bad => rw [ee] at p3; exact p3.elim
          | ex a b c => rw [ee] at p3; exact p3.elim
          | ok k =>
            rw [ee, Zl.R.noex_ok, Zl.R.bind_ok] at p3
            intro u G5 H5 st5 R5 ru
            have R5m : Rep Γ G5 ρ k.2 σ H5 := ⟨R5.toRepM, slots_step st5 R4m.slots, R4m.rl, by rw [st5.ts]; exact R4m.n0, by rw [st5.ts]; exact R4m.top⟩
            refine ⟨G5, q.1, k.2, R5, ?_⟩
            cases ef : fv q.1 k.2 with
            | bad => rw [ef] at p3; exact p3.elim
            | ex a b c => rw [ef] at p3; exact p3.elim
            | ok r =>
              rw [ef, Zl.R.noex_ok, Zl.R.bind_ok] at p3
              intro z G6 H6 st6 R6 rz
              have R6m : Rep Γ G6 ρ r.2 σ H6 := ⟨R6.toRepM, slots_step st6 R5m.slots, R5m.rl, by rw [st6.ts]; exact R5m.n0, by rw [st6.ts]; exact R5m.top⟩
              have st26 := st3.trans (st4.trans (st5.trans st6))
              have l6 := l2.step TabO.dK st26
              cases ekk : keyV k.1 with
              | none => simp only [ekk] at p3; exact p3.elim
              | some key =>
                simp only [ekk] at p3
                split at p3
                · rename_i hlen
                  have eu : u = kV key := keyV_rel ru ekk
                  have rel6 := VRelL.mono st26 rel
                  obtain ⟨i1, i2⟩ := putKs_ok (k := key) rel6 rz
                  rw [ek] at i1 i2
                  have hkl : kus.length = ks.length := by rw [← ek, List.length_map]
                  refine ⟨kus, key, eu, l6.here, by rw [hkl, sizeLine_eq]; omega, G6, r.2, putK kus key z, _, _, ⟨l6.rep TabO.dK R6.toRepM, R6m.slots, R6m.rl, R6m.n0, R6m.top⟩, (st2.trans st26).put hP, l6.put, i1, i2, p3⟩
                · exact p3.elim
  · have e : i = ds.length := by omega
    subst e
    rw [List.drop_length] at p2
    have p3 : Post Γ W G1 ρ σ H1 Q (dcFin live ((ks, ws), μ2)) := p2
    exact .inl ⟨j.stop _ G2.F H2 st2.fz R2.sub (Nat.le_refl _), l2.fin R2 st2 hP (by
      cases h : dcFin live ((ks, ws), μ2) with
      | bad => rw [h] at p3; exact p3
      | ok q => rw [h] at p3; exact p3
      | ex a b c => rw [h] at p3; exact p3) ek rel⟩
variable {kx vx tg iter : Expr} {ifs : List Expr} {scope : Scope} {own : List (Str × Nat)} {pos : Pos}
theorem ze_dc (c : Cz Γ W X lv) (hi : PI X tg iter (tZI Γ W it)) (ok : BlkOk X.N X.env.scope scope own) (hgt : TgOk Γ (own.map (·.2)) g gt)
    (hg : ∀ (s : Shared) (H : Hp) (C : Addr) (cl : List (Str × Addr)) (fp : List Addr), PG (X.blk s H scope (compEnvC scope cl C X.env) fp) tg g) (ht : ∀ (s : Shared) (H : Hp) (C : Addr) (cl : List (Str × Addr)) (fp : List Addr), PTs (X.blk s H scope (compEnvC scope cl C X.env) fp) ifs (tZT Γ WF t))
    (hk : ∀ (s : Shared) (H : Hp) (C : Addr) (cl : List (Str × Addr)) (fp : List Addr), PE (X.blk s H scope (compEnvC scope cl C X.env) fp) kx (tZ Γ WF fk))
    (he : ∀ (s : Shared) (H : Hp) (C : Addr) (cl : List (Str × Addr)) (fp : List Addr), PE (X.blk s H scope (compEnvC scope cl C X.env) fp) vx (tZ Γ WF fv)) (hs : ∀ x, foldedSetIterable iter X.env x = pure x) :
    PE X (.DictComp kx vx [⟨tg, iter, ifs, 0⟩] scope pos) (tZ Γ W (fDc live it gt t fk fv (own.map (·.2)))) := PE.imp (pe_dc c.calm c.nd hi ok hg ht hk he hs) fun σ H Q q => dc_ok hgt σ H Q q
end
end Zl
set_option Elab.async false
set_option linter.all false
set_option maxRecDepth 100000
set_option maxHeartbeats 4000000
namespace Zl
open PySem PySem.Spec L2 PySem.W
open PyProof.Rows hiding St

/-! ## enumerate(a tuple) -/
theorem meets_enumT (l : Addr) (o : Obj) (items : Array Value) (n : Nat) (hc : o.cls = .type "tuple") (hd : o.data = .seq items n) :
    Meets (Builtin.«enumerate.__new__» ⟨[.type "enumerate", .ref l], []⟩) (fun _ R s => s.heap.get? l = some o ∧
      R (.ok (.ret (.ref (s.heap.push { cls := .type "tuple_iterator", data := .fields #[.ref l, .int 0 0] }).objs.size)))
        { s with heap := (s.heap.push { cls := .type "tuple_iterator", data := .fields #[.ref l, .int 0 0] }).push { cls := .type "enumerate", data := .fields #[.none, .bool false, .ref s.heap.objs.size, rawInt 0, .none, .none] } }) :=
  .of_wp fun prog w A R s h => by
    obtain ⟨hp, g, d, tk, os⟩ := s; obtain ⟨hl, h⟩ := h
    have hsub := sub_enumerate
    have hL : Heap.IsTuple (Shared.heap ⟨hp, g, d, tk, os⟩) l items := ⟨_, hl, hc, n, hd⟩
    wp_walk using AutoSeq1.wpAny_loadPart' hl
    refine wpAny_stack_any fun st => wpAny_pure ?_
    split
    · rename_i c _ _ _ _ _
      cases (c == Value.type "enumerate")
      · wp_walk using AutoSeq1.wpAny_loadPart' hl, wpAny_pyIter_tuple hL
        exact ⟨_, rfl, h⟩
      · wp_walk using AutoSeq1.wpAny_loadPart' hl, wpAny_pyIter_tuple hL
        exact ⟨_, rfl, h⟩
    · wp_walk using AutoSeq1.wpAny_loadPart' hl, wpAny_pyIter_tuple hL
      exact ⟨_, rfl, h⟩
theorem call_enumT {prog : Program} {w : World} {A : Around} {E : Value → Shared → Prop} {s : Shared} {l : Addr} {items : Array Value} {Q : Value → Shared → Prop} (hL : s.heap.IsTuple l items)
    (h : ∀ h', IsEnum h' (s.heap.objs.size + 1) s.heap.objs.size 0 .none → h'.IsTupleIter s.heap.objs.size l 0 → h'.objs.size = s.heap.objs.size + 2 →
      (∀ b o, s.heap.get? b = some o → h'.get? b = some o) → Q (.ref (s.heap.objs.size + 1)) { s with heap := h' }) :
    wpAny (model prog w) A (call (.type "enumerate") [.ref l]) Q E s := by
  obtain ⟨o, hl, hc, n, hd⟩ := hL
  refine callType_new F.called_enumerate (by decide) (F.typeCall_enumerate_1 _) (F.newCall_enumerate_1 _) (fun obj => F.args_object_init_2 obj _) F.entry_enumerate_new
    (meets_enumT l o items n hc hd) ⟨hl, ?_⟩
  have hz : (s.heap.push { cls := .type "tuple_iterator", data := .fields #[.ref l, .int 0 0] }).objs.size = s.heap.objs.size + 1 := Heap.size_push ..
  show _ ∧ _
  rw [hz]
  have he : IsEnum ((s.heap.push { cls := .type "tuple_iterator", data := .fields #[.ref l, .int 0 0] }).push
      { cls := .type "enumerate", data := .fields #[.none, .bool false, .ref s.heap.objs.size, rawInt 0, .none, .none] }) (s.heap.objs.size + 1) s.heap.objs.size 0 .none := by
    have := Heap.get?_push_size (s.heap.push { cls := .type "tuple_iterator", data := .fields #[.ref l, .int 0 0] })
      (o := { cls := .type "enumerate", data := .fields #[.none, .bool false, .ref s.heap.objs.size, rawInt 0, .none, .none] }) rfl
    rw [hz] at this; exact this
  refine ⟨⟨_, he, rfl⟩, h _ he ⟨_, Heap.get?_push_of_some _ (Heap.get?_push_size _ rfl), rfl, rfl⟩ (by rw [Heap.size_push, hz]) fun b o x => Heap.get?_push_of_some _ (Heap.get?_push_of_some _ x)⟩
def Itu (K : PySem.W.Frag) (a : Addr) : It :=
  ⟨fun i H => ∃ (xs : List V) (x : V), SqT K H a xs ∧ xs[i]? = some x, fun i H v H' => ∃ T x, v = .ref T ∧ H T = none ∧ H' = upd H T (.tup [.int (i : Nat), x]) ∧ ∀ xs, SqT K H a xs → xs[i]? = some x, fun i H => ∃ xs : List V, SqT K H a xs ∧ xs.length ≤ i⟩
theorem turn_enumT {P : Program} {w : World} {K : PySem.W.Frag} {elts : List Expr} {kk : Nat} {tpos : Pos} (a e it : Addr) :
    Turn P w K (.Tuple elts kk tpos) (Itu K a) [e, it] e (fun i h => (∃ old, IsEnum h e it ((i : Nat) : Int) old) ∧ h.IsTupleIter it a i ∧ e ≠ it ∧ a ≠ it ∧ a ≠ e) where
  mem := by simp
  obj := fun i h st b hb => by
    obtain ⟨⟨old, he⟩, ⟨o, ho, hc, hd⟩, _⟩ := st
    have e' : b = e ∨ b = it := by simpa using hb
    rcases e' with z | z
    · rw [z]; exact ⟨_, he, fun v q => nomatch q⟩
    · rw [z]; exact ⟨o, ho, fun v q => by rw [hd] at q; cases q⟩
  keep := fun i h h' st k => let ⟨⟨old, he⟩, hi, hne⟩ := st; ⟨⟨old, k e (by simp) _ he⟩, hi.at fun o q => k it (by simp) o q, hne⟩
  item := by
    intro X hP hw hK hc i pins s σ H E I hf st hg
    subst hP hw hK
    obtain ⟨⟨old, he⟩, hit, hne, nai, nae⟩ := st
    obtain ⟨xs, x, hq, hx⟩ := hg
    obtain ⟨its, rv, p, hz⟩ := I.tuple hq
    obtain ⟨u, hu, ru⟩ := rv.get hx
    have hT0 : s.heap.IsTuple a its.toArray := p
    have hel : e < s.heap.objs.size := Heap.lt_size he
    have hil : it < s.heap.objs.size := by obtain ⟨_, q, _⟩ := hit; exact Heap.lt_size q
    have hlt : i < its.toArray.size := by
      have := (List.getElem?_eq_some_iff.mp hu).1
      simpa using this
    refine wpAny_pyNext_enum_itemD (Draws.tuple (A := X.A.in1) (I.ok.hd hc) it a nai its.toArray) he ⟨hit, hT0⟩ hlt hne (by simp [hne, Ne.symm nae]) fun v h' tk hP ho hst hT hsz hk => ?_
    have hv : v = u := by
      have e1 : its[i]? = some v := by simpa using hP
      rw [hu] at e1; cases e1; rfl
    subst hv
    refine ⟨_, rfl, wpAny_letOwnedTupleGo_enum (s := { s with heap := h', toks := tk + 1 }) ho fun h'' he' sb => ?_⟩
    have hT2 : h''.get? s.heap.objs.size = some { cls := .type "tuple", data := .seq #[.int i tk, v] } := (sb.2 _ (Nat.ne_of_gt hel)).trans hT
    have new : ObjOk X.prog X.w (upd H s.heap.objs.size (.tup [.int (i : Nat), x])) h'' s.heap.objs.size (.tup [.int (i : Nat), x]) :=
      ⟨by show 2 ≤ sizeLine; decide, [.int i tk, v], .cons ⟨_, rfl⟩ (.cons ru .nil), ⟨_, hT2, rfl, _, rfl⟩⟩
    have I1 : Inv X pins σ (upd H s.heap.objs.size (.tup [.int (i : Nat), x])) { s with heap := h'', toks := tk + 1 } :=
      I.turnedNew (ch := [e, it]) (fun b ob hb q => (sb.2 b (fun z => hb (by simp [z]))).trans (hk b ob (fun z => hb (by simp [z])) (fun z => hb (by simp [z])) q)) hf (Nat.le_refl _) new
    refine ⟨.ref s.heap.objs.size, _, I1, rfl, ⟨_, x, rfl, I.hok.fresh (Nat.le_refl _), rfl, fun ys hy => by rw [I.tuple_inj hy hq]; exact hx⟩, ⟨⟨v, ?_⟩, hst.1.at fun o q => (sb.2 it (Ne.symm hne)).trans q, hne, nai, nae⟩, fun b hb => ?_⟩
    · have e1 : ((i + 1 : Nat) : Int) = (i : Int) + 1 := by omega
      rw [e1]; exact he'
    · have hb' : b < s.heap.objs.size := by
        have e' : b = e ∨ b = it := by simpa using hb
        rcases e' with z | z
        · rw [z]; exact hel
        · rw [z]; exact hil
      rw [upd_ne (Nat.ne_of_lt hb')]
      exact (hf b hb).1
  done := by
    intro X hP hw hK hc i pins s σ H E I hf st hg
    subst hP hw hK
    obtain ⟨⟨old, he⟩, hit, hne, nai, nae⟩ := st
    obtain ⟨xs, hq, hx⟩ := hg
    obtain ⟨its, rv, p, hz⟩ := I.tuple hq
    obtain ⟨f0, f1, f2, f3, f4, f5⟩ := hf it (by simp)
    have hl := rv.length
    have hT0 : s.heap.IsTuple a its.toArray := p
    have ex : ∃ k, k = its.toArray.size ∧ k ≤ i := ⟨_, rfl, by simp; omega⟩
    -- the walk's own end: at i all are out
    refine ?_
    have hnone : its.toArray[i]? = none := by simp; omega
    have hT : s.TypeIs (.ref e) "enumerate" := ⟨_, he, rfl⟩
    unfold pyNext
    refine wpAny_bind (wpAny_attempt (wpAny_callSpecial?_slot (name := Str.ofString "__next__") hT F.slot_enumerate_next
      (wpAny_call_entry F.slot_enumerate_next hT F.entry_enumerate_next ?_ (F.args_enumerate_next_1 _))))
    show wpAny _ _ (field (.ref e) 2 >>= _) _ _ _
    refine wpAny_bind (wpAny_field he rfl (x := .ref it) rfl ?_)
    refine wpAny_bind (wpAny_nextOf_tuple_end (I.ok.hd hc) hit hT0 hnone fun h' x he' hx' => ?_)
    obtain ⟨o, ho, hc'⟩ := hx'
    refine wpAny_bind (wpAny_isInstance (T := "StopIteration") (b := true) ⟨o, ho, hc'⟩ isSubtype_stop ?_)
    exact wpAny_pure ⟨rfl, I.turned (t' := s.toks) (fun b o hb q => he' b o hb q) f0 f1 f3 f4 f5⟩
  self := fun A i s Q E st h => let ⟨⟨_, he⟩, _⟩ := st; wpAny_pyIter_enum he h
def iEnumT (K : PySem.W.Frag) (ta : TA) : TI := fun σ H R => ta σ H fun vs H1 => ∃ a xs, vs = [.ref a] ∧ SqT K H1 a xs ∧ R (Itu K a) H1
/-- list or tuple -/
def iEnumA (K : PySem.W.Frag) (ta : TA) : TI := fun σ H R => ta σ H fun vs H1 => ∃ a xs, vs = [.ref a] ∧ ((SqL K H1 a xs ∧ R (Ite K a) H1) ∨ (SqT K H1 a xs ∧ R (Itu K a) H1))
theorem pi_enumA {X : Cx} {e : Expr} {ta : TA} {p pos tpos : Pos} {elts : List Expr} {kk : Nat} (hg : Gl X "enumerate") (hm : X.mg "enumerate" = none) (ha : PA X [e] ta) (hs : starEach [e] X.env = [(false, eval e X.env)]) :
    PI X (.Tuple elts kk tpos) (.Call (.Name "enumerate" p) [e] [] pos) (iEnumA X.K ta) := by
  refine ⟨fun pins s σ H R I h => ?_⟩
  refine Call_ (ld_blt I hg hm boot_enumerate (PyProof.Rows.callWith_type1 (thn (ha.run pos pins s σ H _ I h) fun us s1 ⟨vs, H1, I1, r1, q1⟩ => ?_) hs rfl))
  obtain ⟨a, xs, ex, q⟩ := q1
  subst ex
  cases r1 with
  | cons r rr =>
    cases rr
    cases r
    rcases q with ⟨hq, q⟩ | ⟨hq, q⟩
    · obtain ⟨its, rv, p', hz⟩ := I1.list hq
      refine call_enumerate_list p'.isList fun h' he hit hsz hk => wpAny_pyIter_enum he ?_
      have I2 : Inv X pins σ H1 { s1 with heap := h' } := I1.kept (t' := s1.toks) hk
      refine ⟨s1.heap.objs.size + 1, [s1.heap.objs.size + 1, s1.heap.objs.size], _, _, H1, rfl, I2, turn_enum a (s1.heap.objs.size + 1) s1.heap.objs.size, ⟨⟨.none, he⟩, hit, Nat.succ_ne_self _⟩, fun b hb => ?_, q⟩
      have e' : b = s1.heap.objs.size + 1 ∨ b = s1.heap.objs.size := by simpa using hb
      have hle : s1.heap.objs.size ≤ b := by
        rcases e' with z | z
        · rw [z]; exact Nat.le_add_right _ _
        · rw [z]; exact Nat.le_refl _
      exact I1.fpOk hle (I1.hok.fresh hle)
    · obtain ⟨its, rv, p', hz⟩ := I1.tuple hq
      have hT0 : s1.heap.IsTuple a its.toArray := p'
      have hal : a < s1.heap.objs.size := by obtain ⟨_, q, _⟩ := hT0; exact Heap.lt_size q
      refine call_enumT hT0 fun h' he hit hsz hk => wpAny_pyIter_enum he ?_
      have I2 : Inv X pins σ H1 { s1 with heap := h' } := I1.kept (t' := s1.toks) hk
      refine ⟨s1.heap.objs.size + 1, [s1.heap.objs.size + 1, s1.heap.objs.size], _, _, H1, rfl, I2, turn_enumT a (s1.heap.objs.size + 1) s1.heap.objs.size, ⟨⟨.none, he⟩, hit, Nat.succ_ne_self _, Nat.ne_of_lt hal, Nat.ne_of_lt (Nat.lt_succ_of_lt hal)⟩, fun b hb => ?_, q⟩
      have e' : b = s1.heap.objs.size + 1 ∨ b = s1.heap.objs.size := by simpa using hb
      have hle : s1.heap.objs.size ≤ b := by
        rcases e' with z | z
        · rw [z]; exact Nat.le_add_right _ _
        · rw [z]; exact Nat.le_refl _
      exact I1.fpOk hle (I1.hok.fresh hle)
section
variable {Γ : Gm} {W : WX} {X : Cx} {lv : Nat}
theorem itu_ok {F : Hp} {al : Addr} {us : List V} {ds : List D} (h : ∀ H, Same F H → SqT Γ.K H al us) (l : IsL Γ F us ds) : ItOk Γ (Itu Γ.K al) (enumD 0 ds) F := by
  refine ⟨fun i F' H s s' hi => ?_, fun i F' H s s' hi => ⟨us, h _ (fun a o e => s' _ _ (s _ _ e)), by rw [l.length]; rw [enumD_length] at hi; exact hi⟩, fun i F' H x H' d s s' hd y => .inr ?_⟩
  · rw [enumD_length] at hi
    have hi' : i < us.length := by rw [l.length]; exact hi
    exact ⟨us, us[i], h _ (fun a o e => s' _ _ (s _ _ e)), List.getElem?_eq_getElem hi'⟩
  · obtain ⟨T, z, ex, hT, eH, y⟩ := y
    rw [enumD_get] at hd
    cases q : ds[i]? with
    | none => rw [q] at hd; cases hd
    | some d0 =>
      rw [q] at hd
      cases hd
      obtain ⟨v, hv, iv⟩ := l.get q
      have w := y us (h _ (fun a o e => s' _ _ (s _ _ e)))
      rw [hv] at w
      cases w
      refine ⟨T, _, hT, eH, ?_⟩
      have nF : F' T = none := by
        cases e : F' T with
        | none => rfl
        | some o => rw [s' T o e] at hT; cases hT
      unfold Is
      exact ⟨T, _, ex, upd_same, IsL.cons (by unfold Is; simp) (IsL.cons (Is.mono (same_upd nF) _ _ (Is.mono s _ _ iv)) IsL.nil)⟩
def fiEnumA (g : FA) : FI := fun ρ μ => (g ρ μ).bind fun p => match p.1 with
  | [.d (.lst ds)] => .ok (enumD 0 ds, p.2)
  | [.d (.tup ds)] => .ok (enumD 0 ds, p.2)
  | _ => .bad
theorem zi_enumA {es : List Expr} {kk : Nat} {tp p pos : Pos} {a : Expr} {t : FA} (c : Cz Γ W X lv) (hg : Gl X "enumerate") (hm : X.mg "enumerate" = none) (ha : PA X [a] (tZA Γ W t)) (hs : starEach [a] X.env = [(false, eval a X.env)]) :
    PI X (.Tuple es kk tp) (.Call (.Name "enumerate" p) [a] [] pos) (tZI Γ W (fiEnumA t)) := by
  refine PI.imp (pi_enumA hg hm ha hs) fun σ H Q q => ?_
  obtain ⟨G, ρ, μ, R, p⟩ := q
  refine ⟨G, ρ, μ, R, PostA.bindI p fun us vs μ1 G1 H1 s1 R1 r1 p1 => ?_⟩
  simp only at p1
  split at p1
  · cases r1 with
    | cons h1 r1 =>
      cases r1
      have r : Is Γ G1.F _ _ := h1
      unfold Is at r
      obtain ⟨al, us, ea, h, l⟩ := r
      exact ⟨al, us, by rw [ea], .inl ⟨SqL.of (R1.sub _ _ h), by rw [c.K]; exact PostI.here R1 p1 (ite_ok h l)⟩⟩
  · cases r1 with
    | cons h1 r1 =>
      cases r1
      have r : Is Γ G1.F _ _ := h1
      unfold Is at r
      obtain ⟨al, us, ea, h, l⟩ := r
      exact ⟨al, us, by rw [ea], .inr ⟨SqT.of (R1.sub _ _ h), by rw [c.K]; exact PostI.here R1 p1 (itu_ok (fun H s => SqT.of (s _ _ h)) l)⟩⟩
  · exact p1.elim
end
end Zl
set_option Elab.async false
set_option linter.all false
set_option maxRecDepth 100000
set_option maxHeartbeats 4000000
namespace Zl
open PySem PySem.Spec L2 PySem.W
open PyProof.Rows hiding St

/-! ## e is True, e is not True -/
section
variable {Γ : Gm} {W : WX} {X : Cx} {lv : Nat} {f : FE} {e : Expr} {pos : Pos}
def oIsB (k neg : Bool) : Val → Mu → R (Val × Mu)
  | .d (.bl b), μ => .ok (.d (.bl (if neg = true then !(b == k) else (b == k))), μ)
  | .d .non, μ => .ok (.d (.bl neg), μ)
  | _, _ => .bad
theorem bool_beq (b k : Bool) : (Value.bool b == Value.bool k) = (b == k) := by cases b <;> cases k <;> rfl
theorem pc_isB {k : Bool} {j pos'} (he : PE X e (tZ Γ W f)) : PC X .Is e (.Constant (.bool k) j pos') (tZ Γ W (fUn (oIsB k false) f)) := by
  refine ⟨fun pins s σ H Q I t => ?_⟩
  obtain ⟨G, ρ, μ, R, p⟩ := t
  refine thn (he.run pins s σ H (fun x H1 => (∃ b, x = .bl b ∧ Q (.bl (b == k)) H1) ∨ (x = .non ∧ Q (.bl false) H1)) I ⟨G, ρ, μ, R, Post.bind p fun u v μ1 G1 H1 s1 R1 r1 p1 => ?_⟩) fun v s1 ⟨x, H1, I1, r1, q1⟩ => ?_
  · unfold oIsB at p1
    simp only at p1
    split at p1
    · exact .inl ⟨_, r1.bl_, by simpa using Post.bl R1 p1⟩
    · exact .inr ⟨r1.non_, Post.bl R1 p1⟩
    · exact p1.elim
  · refine Constant_bool ?_
    rcases q1 with ⟨b, rfl, q⟩ | ⟨rfl, q⟩
    · cases r1
      exact wpAny_is_plain (by cases b <;> cases k <;> rfl) ⟨.bl _, H1, I1, by rw [bool_beq]; rfl, q⟩
    · cases r1
      exact wpAny_is_plain (by cases k <;> rfl) ⟨.bl _, H1, I1, by cases k <;> rfl, q⟩
theorem ze_isB {k : Bool} {j pos'} (he : PE X e (tZ Γ W f)) : PE X (.Compare e [.Is] [.Constant (.bool k) j pos'] pos) (tZ Γ W (fUn (oIsB k false) f)) := pe_cmp (pc_isB he) rfl
theorem zt_isB {k : Bool} {j pos'} (he : PE X e (tZ Γ W f)) : PT X (.Compare e [.Is] [.Constant (.bool k) j pos'] pos) (tZT Γ W (fT (fUn (oIsB k false) f))) := PT.imp (pt_cmp (pc_isB he) rfl) fun σ H Q t => fT_ok t
theorem pc_notB {k : Bool} {j pos'} (he : PE X e (tZ Γ W f)) : PC X .IsNot e (.Constant (.bool k) j pos') (tZ Γ W (fUn (oIsB k true) f)) := by
  refine ⟨fun pins s σ H Q I t => ?_⟩
  obtain ⟨G, ρ, μ, R, p⟩ := t
  refine thn (he.run pins s σ H (fun x H1 => (∃ b, x = .bl b ∧ Q (.bl (!(b == k))) H1) ∨ (x = .non ∧ Q (.bl true) H1)) I ⟨G, ρ, μ, R, Post.bind p fun u v μ1 G1 H1 s1 R1 r1 p1 => ?_⟩) fun v s1 ⟨x, H1, I1, r1, q1⟩ => ?_
  · unfold oIsB at p1
    simp only at p1
    split at p1
    · exact .inl ⟨_, r1.bl_, by simpa using Post.bl R1 p1⟩
    · exact .inr ⟨r1.non_, Post.bl R1 p1⟩
    · exact p1.elim
  · refine Constant_bool ?_
    rcases q1 with ⟨b, rfl, q⟩ | ⟨rfl, q⟩
    · cases r1
      exact wpAny_isNot_plain (by cases b <;> cases k <;> rfl) ⟨.bl _, H1, I1, by rw [bool_beq]; rfl, q⟩
    · cases r1
      exact wpAny_isNot_plain (by cases k <;> rfl) ⟨.bl _, H1, I1, by cases k <;> rfl, q⟩
theorem ze_notB {k : Bool} {j pos'} (he : PE X e (tZ Γ W f)) : PE X (.Compare e [.IsNot] [.Constant (.bool k) j pos'] pos) (tZ Γ W (fUn (oIsB k true) f)) := pe_cmp (pc_notB he) rfl
theorem zt_notB {k : Bool} {j pos'} (he : PE X e (tZ Γ W f)) : PT X (.Compare e [.IsNot] [.Constant (.bool k) j pos'] pos) (tZT Γ W (fT (fUn (oIsB k true) f))) := PT.imp (pt_cmp (pc_notB he) rfl) fun σ H Q t => fT_ok t
/-! ## len(o) by an own __len__ -/
def rLenO (Γ : Gm) (P : Program) (w : World) (mg : Str → Option Value) (base : Heap) (lv : Nat) : List V → Hp → VK → Prop := fun xs H Q => ∃ a C dx fus f fd ps sp, xs = [V.ref a] ∧ H a = some (.ins C dx fus) ∧ Cls Γ.K C ∧ Meth Γ.K C "__len__" f ∧ FnG P w Γ.K mg base lv f fd ps sp ∧ Binds Γ.K fd ps [] ∧
  sp [.ref a] H (fun v H' => ∃ n : Nat, v = .int n ∧ n < 1000000 ∧ Q (.int n) H') E0
theorem call_lenO (c : Cz Γ W X (lv + 1)) : CallR X (.builtin "len") (rLenO Γ X.prog X.w X.mg X.base lv) := by
  intro pins s σ H xs us Q I r h
  obtain ⟨a, C, dx, fus, f, fd, ps, sp, rfl, ha, hc, hm, F, hb, q⟩ := h
  obtain ⟨u, rfl, rx⟩ := vals1 r
  obtain rfl : u = Value.ref a := rx
  rw [← c.K] at hc hm F hb
  obtain ⟨mA, O, _, _, _, _⟩ := ins_get I.hok ha
  obtain ⟨od, J, _⟩ := O.look
  refine Calls.call_function_entry kind_len plain_len entry_len (args_len1 _) ?_
  unfold Builtin.«len»
  refine wpAny_bind (m := oneArg "len" _) (wpAny_pure ?_)
  refine wpAny_bind (m := callSpecial? (.ref a) (Str.ofString "__len__")) (PySem.W.special_fn I.kIn J hm.at_ (beq_iff_eq.mp hm.fn) (wpAny_call ?_))
  refine codeAny_mono (F.run X.A.in1 X.stack s H ⟨[.ref a], []⟩ ([Value.ref a] ++ []) [V.ref a] _ E0 c.room.in1 c.gd I.env0.in1 (hb _ [.ref a] I.kIn ((F.len _ _ _ _ q).symm ▸ rfl)) (.cons (show RelV (V.ref a) (Value.ref a) from rfl) .nil) q) fun q s' out => ?_
  cases q with
  | error er =>
    obtain ⟨_, _, _, _, _, _, _, _, _, _, _, _, z⟩ := (show L2.CX X.prog X.w X.stack H s E0 er s' from out)
    exact z.elim
  | ok fl =>
    cases fl with
    | ret u =>
      obtain ⟨v, H', J', rv, n, ev, hn, z⟩ := I.after out
      subst ev
      obtain ⟨t, eu⟩ := (show ∃ t, u = Value.int n t from rv)
      subst eu
      refine wpAny_bind (wpAny_holding (wpAny_pure ?_))
      refine wpAny_bind (wpAny_letGo ?_)
      show wpAny _ _ (if ((n : Nat) : Int) < 0 then _ else _) _ _ _
      rw [if_neg (by omega)]
      show wpAny _ _ (if ((n : Nat) : Int) ≥ 2 ^ 63 then _ else _) _ _ _
      rw [if_neg (by omega)]
      exact wpAny_bind (wpAny_mkInt (wpAny_pure ⟨_, rfl, V.int n, H', J'.tok _, ⟨_, rfl⟩, z⟩))
    | next => exact out.elim
    | brk => exact out.elim
    | cont => exact out.elim
def oLenO (Δ : MT) : List Val → Mu → R (Val × Mu)
  | [v], μ => (match insV μ v with
    | some (k, _, _) => (match Δ k with
      | some (n, Fn) => if n = 1 then (Fn [v] μ).noex.bind fun q => (match q.1 with
        | .d (.int i) => if 0 ≤ i ∧ i < 1000000 then .ok (.d (.int i), q.2) else .bad
        | _ => .bad) else .bad
      | none => .bad)
    | none => oLen [v] μ)
  | _, _ => .bad
theorem oLenO_ok {P : Program} {w : World} {mg : Str → Option Value} {base : Heap} {Δ : MT} (F : MtZ Γ P w mg base lv "__len__" Δ) : CB Γ W (fun xs H Q => rLenA Γ.K xs H Q ∨ rLenO Γ P w mg base lv xs H Q) (oLenO Δ) := by
  intro G ρ μ σ H Q us vs R r p
  unfold oLenO at p
  split at p
  · rename_i v
    cases ei : insV μ v with
    | none => simp only [ei] at p; exact .inl (oLen_ok G ρ μ σ H Q us [v] R r p)
    | some t =>
      obtain ⟨k, ns, ws⟩ := t
      simp only [ei] at p
      cases hD : Δ k with
      | none => simp only [hD] at p; exact p.elim
      | some q =>
        obtain ⟨n, Fn⟩ := q
        simp only [hD] at p
        split at p
        · rename_i hn
          subst hn
          cases r with
          | cons h t =>
            cases t
            obtain ⟨a, C, dx, fus, h1, h2, h3, h4, h5⟩ := insV_ok R.toRepM h ei
            obtain ⟨f, fd, ps, hc, hm, hF, hb⟩ := F.ex k 1 Fn C hD h2
            refine .inr ⟨a, C, dx, fus, f, fd, ps, _, by rw [h1], h3, hc, hm, hF, hb, rfl, G, μ, [v], R.toRepM, .cons (by rw [← h1]; exact h) .nil, ?_⟩
            cases ef : Fn [v] μ with
            | bad => rw [ef] at p; exact p
            | ex _ _ _ => rw [ef] at p; exact p.elim
            | ok z =>
              rw [ef, Zl.R.noex_ok, Zl.R.bind_ok] at p
              intro u G' H' st R' hu
              split at p
              · rename_i i ez
                split at p
                · rename_i hi
                  rw [ez] at hu
                  have eu := hu.int_
                  have en : ((i.toNat : Nat) : Int) = i := by omega
                  refine ⟨i.toNat, by rw [en]; exact eu, by omega, ?_⟩
                  have q := Post.int (R.go st R') (Post.step st p)
                  rw [en]; exact q
                · exact p.elim
              · exact p.elim
        · exact p.elim
  · exact p.elim
theorem call_lenOA (c : Cz Γ W X (lv + 1)) : CallR X (.builtin "len") (fun xs H Q => rLenA X.K xs H Q ∨ rLenO Γ X.prog X.w X.mg X.base lv xs H Q) := call_lenA.or (call_lenO c)

/-! ## repr -/
def okRepr (v : D) : Bool := match D.py v with
  | some p => p.showable && !p.hasDict && decide (p.depth ≤ 60) && decide (p.shown.length ≤ 1000000) && (match v with
    | .tup _ => true
    | .kt _ => true
    | .lst _ => true
    | _ => false)
  | none => false
def rReprD (Γ : Gm) : List V → Hp → VK → Prop := fun xs H Q => ∃ (a : Addr) (d : D) (F : Hp), xs = [.ref a] ∧ Same F H ∧ Is Γ F (.ref a) d ∧ okRepr d = true ∧ Q (.str (pyOf d).shown) H
theorem call_reprD (c : Cz Γ W X lv) : CallR X (.builtin "repr") (rReprD Γ) := by
  intro pins s σ H xs us Q I r h
  obtain ⟨a, d, F, rfl, hF, hi, ok, q⟩ := h
  obtain ⟨u, rfl, rx⟩ := vals1 r
  obtain rfl : u = Value.ref a := rx
  unfold okRepr at ok
  cases e : D.py d with
  | none => rw [e] at ok; cases ok
  | some p =>
    rw [e] at ok
    simp only [Bool.and_eq_true] at ok
    obtain ⟨⟨⟨⟨h1, h2⟩, h3⟩, h4⟩, _⟩ := ok
    have ep : pyOf d = p := by unfold pyOf; rw [e]; rfl
    have dp := D.dp (Γ := Γ) hF d (.ref a) p hi e
    rw [← c.K] at dp
    obtain ⟨as, rr⟩ := Dp.reads I p (.ref a) (.ref a) dp rfl
    have h3 := of_decide_eq_true h3
    have h4 := of_decide_eq_true h4
    have hu := c.hu
    refine repr_of_reads' rr h1 (fun z => ?_) c.gd (by omega) (fun _ _ e => e) (fun h' u tk hk => ⟨.str p.shown, H, I.kept (t' := tk) hk, ⟨u, rfl⟩, by rw [← ep]; exact q⟩) (by rw [sizeLine_eq]; omega)
    rw [z] at h2; cases h2
def oRepr : List Val → Mu → R (Val × Mu)
  | [.d (.int i)], μ => if i.natAbs.log2 < 1920 then .ok (.d (.str (toString i)), μ) else .bad
  | [.d v], μ => if okRepr v = true then .ok (.d (.str (pyOf v).shown), μ) else .bad
  | _, _ => .bad
abbrev rReprA (Γ : Gm) : List V → Hp → VK → Prop := fun xs H Q => (∃ i, xs = [V.int i] ∧ i.natAbs.log2 < 1920 ∧ Q (.str (toString i)) H) ∨ rReprD Γ xs H Q
theorem call_reprA (c : Cz Γ W X lv) : CallR X (.builtin "repr") (rReprA Γ) := CallR.or SkE.call_repr_int (call_reprD c)
theorem oRepr_ok : CB Γ W (rReprA Γ) oRepr := by
  intro G ρ μ σ H Q us vs R r p
  unfold oRepr at p
  split at p
  · split at p
    · rename_i hz
      cases r with
      | cons h t => cases t; exact .inl ⟨_, by rw [h.int_], hz, Post.str R p⟩
    · exact p.elim
  · rename_i v _
    split at p
    · rename_i hz
      cases r with
      | cons h t =>
        cases t
        rename_i u0
        have key : ∃ a, u0 = V.ref a := by
          have ok := hz
          unfold okRepr at ok
          cases e : D.py v with
          | none => rw [e] at ok; cases ok
          | some p =>
            rw [e] at ok
            simp only [Bool.and_eq_true] at ok
            have h := h
            cases v with
            | tup ds => obtain ⟨a, us, ea, _⟩ := VRel.tup_ R.toRepM h; exact ⟨a, ea⟩
            | kt ds => obtain ⟨a, us, ea, _⟩ := VRel.kt_ R.toRepM h; exact ⟨a, ea⟩
            | lst ds => obtain ⟨a, us, ea, _⟩ := VRel.lst_ R.toRepM h; exact ⟨a, ea⟩
            | _ => cases ok.2
        obtain ⟨a, ea⟩ := key
        exact .inr ⟨a, v, G.F, by rw [ea], R.sub, by rw [← ea]; exact h, hz, Post.str R p⟩
    · exact p.elim
  · exact p.elim

/-! ## f(k = e, ..) -/
def pick {α : Type} (is : List Nat) (l : List α) : List α := is.filterMap fun i => l[i]?
theorem pick_vals : ∀ {is : List Nat} {vs : List V} {us : List Value}, Vals vs us → Vals (pick is vs) (pick is us)
  | [], _, _, _ => .nil
  | i :: is, vs, us, r => by
    have ih := pick_vals (is := is) r
    unfold pick at ih ⊢
    rw [List.filterMap_cons, List.filterMap_cons]
    cases e : vs[i]? with
    | none =>
      have : us[i]? = none := by
        rw [List.getElem?_eq_none_iff] at e ⊢
        rw [← r.length]; exact e
      rw [this]; exact ih
    | some v =>
      obtain ⟨u, hu, hr⟩ := r.get e
      rw [hu]
      exact .cons hr ih
theorem pick_rel {G : Gh} : ∀ {is : List Nat} {vs : List V} {us : List Val}, VRelL Γ G vs us → VRelL Γ G (pick is vs) (pick is us)
  | [], _, _, _ => .nil
  | i :: is, vs, us, r => by
    have ih := pick_rel (is := is) r
    unfold pick at ih ⊢
    rw [List.filterMap_cons, List.filterMap_cons]
    have hl := Paired.length r
    cases e : us[i]? with
    | none =>
      have : vs[i]? = none := by
        rw [List.getElem?_eq_none_iff] at e ⊢
        omega
      rw [this]; exact ih
    | some v =>
      obtain ⟨u, hu, hr⟩ := rel_getV r e
      rw [hu]
      exact .cons hr ih
/-- what the head tells of a def called with keywords alone -/
structure KwZ (K : PySem.W.Frag) (fd : FuncData) (ps ks : List Str) (is : List Nat) : Prop where
  ok : KBn K fd ps 0 ks (fun us ws => pick is (us ++ ws)) (fun vs zs => pick is (vs ++ zs))
theorem kw_of {K : PySem.W.Frag} {x qual : Str} {params : Arguments} {body : List Stmt} {scope : Scope} {f : Addr} {fd : FuncData} {ps ks : List Str} {is : List Nat} (F : FunD K x qual params body scope [] [] f fd)
    (h : ∀ (kV doc pm : Value) (an : Option Addr) (cdv ct : Value) (ws : List Value), ws.length = ks.length → bindArgs (PySem.W.fnOf x qual params body scope .none kV doc pm an cdv ct) ⟨[], ks.zip ws⟩ = pure (ps.zip (pick is ws))) : KwZ K fd ps ks is := by
  obtain ⟨oc, od, dV, kV, doc, pm, an, cdv, ct, osl, rfl, lk, hcd, hD, hK⟩ := F.ex
  rcases hD with ⟨_, rfl⟩ | ⟨e, _⟩
  · refine ⟨⟨fun s us ws _ l1 l2 => ?_, fun r1 r2 => pick_vals (r1.append r2)⟩⟩
    have : us = [] := List.length_eq_zero_iff.mp l1
    subst this
    exact .of_eq (h kV doc pm an cdv ct ws l2)
  · exact absurd rfl e
structure FnK (Γ : Gm) (P : Program) (w : World) (mg : Str → Option Value) (base : Heap) (lv : Nat) (f : Addr) (n : Nat) (Fn : FF) (ks : List Str) (is : List Nat) : Prop where
  ex : ∃ fd ps, FnG P w Γ.K mg base lv f fd ps (spZ Γ n Fn) ∧ KwZ Γ.K fd ps ks is
  kp : PySem.W.keepIn Γ.K (.ref f) = true
def fCallK (n m : Nat) (Fn : FF) (is : List Nat) (g : FA) : FE := fun ρ μ => (g ρ μ).bind fun p => if p.1.length = m ∧ (pick is p.1).length = n then (Fn (pick is p.1) p.2).at ρ else .bad
/-- the keywords' values -/
theorem zk_nil : PK X [] (tZA Γ W fANil) := ⟨fun pos pins s σ H Q I ⟨G, ρ, μ, R, p⟩ => pk_nil.run pos pins s σ H Q I (p [] G H (Step.refl G H) R .nil)⟩
theorem zk_cons {nm : Option Str} {kpos : Pos} {kws : List Keyword} {g : FA} (ha : PE X e (tZ Γ W f)) (hr : PK X kws (tZA Γ W g)) : PK X (⟨nm, e, kpos⟩ :: kws) (tZA Γ W (fACons f g)) := by
  refine ⟨fun pos pins s σ H Q I t => (pk_cons ha hr).run pos pins s σ H Q I ?_⟩
  obtain ⟨G, ρ, μ, R, p⟩ := t
  refine ⟨G, ρ, μ, R, Post.bindA p fun x v μ1 G1 H1 s1 R1 r1 p1 => ⟨G1, ρ, μ1, R1, PostA.bindA p1 fun us vs μ2 G2 H2 s2 R2 r2 p2 => ?_⟩⟩
  exact p2 (x :: us) G2 H2 (Step.refl _ _) R2 (.cons (VRel.mono s2 r1) r2)
theorem ze_callK {x : Str} {p : Pos} {fa : Addr} {n : Nat} {Fn : FF} {ks : List Str} {is : List Nat} {kws : List Keyword} {g : FA} (c : Cz Γ W X lv) (F : FnK Γ X.prog X.w X.mg X.base lv fa n Fn ks is) (hg : Gl X x) (hm : X.mg x = some (.ref fa)) (hkw : PK X kws (tZA Γ W g)) (hdb : (x == ("__debug__" : Str)) = false)
    (hall : (backToKw pos (keywordEach kws X.env)).all (·.1.isSome) = true) (hks : (backToKw pos (keywordEach kws X.env)).filterMap (·.1) = ks)
    (hpl : ((backTo pos (starEach [] X.env)).any (·.1) || (backToKw pos (keywordEach kws X.env)).any (·.1.isNone)) = false) :
    PE X (.Call (.Name x p) [] kws pos) (tZ Γ W (fCallK n ks.length Fn is g)) := by
  obtain ⟨fd, ps, h1, h2⟩ := F.ex
  have h2 := h2.ok
  have kp := F.kp
  rw [← c.K] at h1 h2 kp
  refine ⟨fun pins s σ H Q I t => ?_⟩
  obtain ⟨G, ρ, μ, R, p⟩ := t
  refine wpAny_Call_Name_kw (ld_glob I hg hm ?_ hdb)
  refine PySem.W.callWith_KW0 (h₀ := X.base) I.ok.mod.kin kp hall ?_ hpl
  refine thn (hkw.run pos pins s σ H (fun zs H1 => zs.length = ks.length ∧ spZ Γ n Fn (pick is ([] ++ zs)) H1 Q (WE W σ)) I ⟨G, ρ, μ, R, PostA.bind p fun us vs μ1 G1 H1 s1 R1 r1 p1 => ?_⟩) fun ws s2 ⟨zs, H2, I2, rz, l2, q2⟩ => ⟨I2.kIn, ?_⟩
  · simp only at p1
    split at p1
    · rename_i hl
      have hlen : us.length = vs.length := Paired.length r1
      have r2 := pick_rel (is := is) r1
      refine ⟨by rw [hlen]; exact hl.1, ?_, G1, μ1, pick is vs, R1.toRepM, r2, post_fn R1 p1⟩
      rw [List.nil_append, Paired.length r2]; exact hl.2
    · exact p1.elim
  · rw [hks]
    exact fng_runK (us := []) (vs := []) h1 c.room c.gd h2 (passAt c.tk σ) I2 .nil rz rfl l2 q2
end
end Zl
set_option Elab.async false
set_option linter.all false
set_option maxRecDepth 100000
set_option maxHeartbeats 4000000
namespace Zl
open PySem PySem.Spec L2 PySem.W
open PyProof.Rows hiding St

/-! ## sorted(xs, key=len): a list of tuples -/
def lenT : D → Nat
  | .tup ds => ds.length
  | _ => 0
def isTup : D → Bool
  | .tup ds => decide (ds.length ≤ 100000)
  | _ => false
def sortLenD (ds : List D) : List D := ds.mergeSort fun a b => decide ((lenT a : Int) ≤ (lenT b : Int))
def fSortLen (f : FE) : FE := fun ρ μ => (f ρ μ).bind fun p => match lstV p.2 p.1 with
  | some ds => if ds.all isTup = true ∧ ds.length ≤ 100000 then .ok (.d (.lst (sortLenD ds)), p.2) else .bad
  | none => .bad
section
variable {Γ : Gm} {W : WX} {X : Cx} {lv : Nat} {f : FE} {e : Expr} {pos kpos p p2 : Pos}
theorem run_sortLen {pins : List (Addr × Obj)} {σ : St} {H F : Hp} {s : Shared} {Q : VK} {a : Addr} {ys : List V} {ds : List D} (c : Cz Γ W X lv) (I : Inv X pins σ H s) (hs : SqL Γ.K H a ys) (hF : Same F H) (hl : IsL Γ F ys ds) (hall : ds.all isTup = true) (hz : ds.length ≤ 100000)
    (q : ∀ zs p, IsL Γ F zs (sortLenD ds) → H p = none → Q (.ref p) (upd H p (.lst zs))) : wpAny (model X.prog X.w) X.A (call (.builtin "sorted") [.ref a] [(Str.ofString "key", .builtin "len")]) (EP X pins σ Q) X.xe s := by
  rw [← c.K] at hs
  obtain ⟨its, rv, pl, hzl⟩ := I.list hs
  have e0 : EachIs (Std Γ F) its ds := std_each rv hl
  have hu := c.hu
  have al : AllAlike (ds.map fun d => PyData.int (lenT d : Int)) := by
    intro d hd d' hd'
    obtain ⟨x, _, rfl⟩ := List.mem_map.mp hd
    obtain ⟨y, _, rfl⟩ := List.mem_map.mp hd'
    rfl
  have so : Sortable (ds.map fun d => PyData.int (lenT d : Int)) := Sortable.others (enc := fun d : D => PyData.int (lenT d : Int)) (bs := ds) fun b => ⟨(by intro z; cases z), (by intro xs z; cases z)⟩
  refine sorted_key_data (R := Std Γ F) (b := false) (fun d => PyData.int (lenT d : Int)) pl.isList e0 al so (by rw [sizeLine_eq]; omega) (fun x _ => by show X.A.units + 2 + 0 < cLine; omega) (PyProof.Rows.ksk_s1 _ _) (fun x => PyProof.Rows.ksk_l1 _ _) (fun x => PyProof.Rows.ksk_t4 "len" x) (fun v d hv hd h tk hk => ?_) fun out cc h' tk hk hfr hat hlen hout => ?_
  · obtain ⟨z, rz, iz⟩ := hv
    have ht := List.all_eq_true.mp hall d hd
    cases d with
    | tup es =>
      have hle : es.length ≤ 100000 := of_decide_eq_true ht
      unfold Is at iz
      obtain ⟨t, vs, ez, hFt, li⟩ := iz
      subst ez
      obtain rfl : v = Value.ref t := rz
      obtain ⟨zl, its', r', o, h1, h2, n, h3⟩ := (show ObjOk X.prog X.w H s.heap t (.tup vs) from I.hok t _ (hF _ _ hFt))
      have hT : IsTup h t its'.toArray := ⟨o, hk _ _ h1, h2, n, h3⟩
      have hvl : its'.toArray.size = es.length := by rw [List.size_toArray, ← r'.length, li.length]
      refine PyProof.Rows.len_tuple hT (by rw [hvl]; omega) ⟨h, _, rfl, fun _ _ e => e, ?_⟩
      rw [hvl]
      exact .int _ _
    | _ => cases ht
  · have eo : EachIs (Std Γ F) out (sortLenD ds) := by
      have z : (fun d : D => PyData.int (lenT d : Int)) = fun d => PyData.int ((fun d => (lenT d : Int)) d) := rfl
      rw [z, dataLe_int] at hout
      exact hout
    obtain ⟨zs, g1, g2⟩ := each_std eo
    have hzs : zs.length = ds.length := by rw [g1.length, hlen]
    exact ⟨.ref (s.heap.objs.size + 1), upd H (s.heap.objs.size + 1) (.lst zs), I.laid (t' := tk) hk (Nat.le_succ _) (show ObjOk X.prog X.w _ _ _ (.lst zs) from ⟨by rw [hzs, sizeLine_eq]; omega, out, cc, g1, hat⟩), rfl, q zs _ g2 (I.hok.fresh (Nat.le_succ _))⟩
theorem ze_sortLen (c : Cz Γ W X lv) (hg : Gl X "sorted") (hm : X.mg "sorted" = none) (hgl : Gl X "len") (hml : X.mg "len" = none) (he : PE X e (tZ Γ W f))
    (h1 : backTo pos (starEach [e] X.env) = (false, eval e X.env) :: backTo pos (starEach [] X.env)) (h2 : (backTo pos (starEach [e] X.env)).any (·.1) = false) (hs : starEach [e] X.env = (false, eval e X.env) :: starEach [] X.env) :
    PE X (.Call (.Name "sorted" p) [e] [⟨some "key", .Name "len" p2, kpos⟩] pos) (tZ Γ W (fSortLen f)) := by
  refine ⟨fun pins s σ H Q I t => ?_⟩
  obtain ⟨G, ρ, μ, R, q⟩ := t
  refine wpAny_Call_Name_kw (ld_blt I hg hm PyProof.Rows.boot_sorted ?_ (by decide) (by decide))
  refine PyProof.Rows.callWith_kw (thn ((pa_cons he pa_nil hs).run pos pins s σ H (fun vs H1 => ∃ a ys ds F, vs = [.ref a] ∧ SqL Γ.K H1 a ys ∧ Same F H1 ∧ IsL Γ F ys ds ∧ ds.all isTup = true ∧ ds.length ≤ 100000 ∧ ∀ zs p, IsL Γ F zs (sortLenD ds) → H1 p = none → Q (.ref p) (upd H1 p (.lst zs))) I ⟨G, ρ, μ, R, Post.bind q fun u v μ1 G1 H1 s1 R1 r1 p1 => ?_⟩) fun us s1 ⟨vs, H1, I1, r1, a, ys, ds, F, ev, hsq, hF, hl, hall, hz, q1⟩ => ?_) h1 h2 rfl rfl
  · simp only at p1
    split at p1
    · rename_i ds ed
      split at p1
      · rename_i hz
        obtain ⟨a, us, e1, e2, e3⟩ := lstV_ok R1.toRepM r1 ed
        exact ⟨a, us, ds, G1.F, by rw [e1], SqL.of e2, R1.sub, e3, hz.1, hz.2, fun zs p hz hp => Post.lst R1 p1 hz p hp⟩
      · exact p1.elim
    · exact p1.elim
  · subst ev
    obtain ⟨u, eu, ru⟩ := vals1 r1
    subst eu
    obtain rfl : u = Value.ref a := ru
    show wpAny _ _ (evalAll ((do let v ← eval (.Name "len" p2) X.env; standAt pos; pure v) :: (backToKw pos (keywordEach [] X.env)).map (·.2))) _ _ s1
    refine wpAny_evalAll_cons (wpAny_bind (ld_blt I1 hgl hml PySem.boot_len ?_ (by decide) (by decide)))
    refine wpAny_bind (wpAny_standAt (wpAny_pure ?_))
    refine wpAny_evalAll_nil ?_
    exact run_sortLen c I1 hsq hF hl hall hz q1
end
end Zl
set_option Elab.async false
set_option linter.all false
set_option maxRecDepth 100000
set_option maxHeartbeats 4000000
namespace Zl
open PySem PySem.Spec L2 PySem.W
open PyProof.Rows hiding St

/-! ## the law's end, its def's promise where no guard stands -/
/-- one object of the heap is told as a frozen list, or none -/
def oneH (at_ : Addr) (b : Bool) (ob : Obj) (xs : List V) : Hp := fun c => if c = at_ ∧ b = true then some (.frz ob (.lst xs)) else none
section
variable {P : Program} {w : World} {K : PySem.W.Frag} {mg mb : Str → Option Value} {k : Nat} {fa a : Addr} {fd : FuncData} {x : Str} {sp : Sp} {sh : Shared} {vs : List Value} {ns : List Int}
theorem oneH_yes {b : Bool} {ob : Obj} {xs : List V} {c : Addr} {u : HO} (h : oneH a b ob xs c = some u) : c = a ∧ b = true ∧ u = .frz ob (.lst xs) := by
  unfold oneH at h
  split at h
  · rename_i z; cases h; exact ⟨z.1, z.2, rfl⟩
  · cases h
theorem end_env {H : Hp} (kin : K.In sh.heap) (gl : sh.heap.Ns mainGlobals mg) (bl : sh.heap.Ns builtinsNs mb) (bbl : ∀ x : Str, x ≠ "__name__" → mb x = bootBuiltins x) (lim : sh.heap.NoLimit) (gens : sh.gens = #[])
    (obj : sh.heap.get? a = some { cls := .type "list", data := .seq vs.toArray }) (ok : HOk P w H sh.heap) (one : ∀ c u, H c = some u → c = a) (nok : H a ≠ none → K.lookup a = none) :
    K.In (hidT sh.heap H) ∧ (hidT sh.heap H).Ns mainGlobals mg ∧ Env0 P w K mg (hidT sh.heap H) callerA [] sh H := by
  have hid : ∀ {c : Addr} {ob : Obj}, sh.heap.get? c = some ob → H c = none → (hidT sh.heap H).get? c = some ob := fun q z => hidT_get q z
  have away : ∀ {c : Addr} {ob : Obj}, sh.heap.get? c = some ob → (∀ es ep, ob.data = .dict es ep → H c = none) := fun {c ob} q es ep hd => by
    rcases ho : H c with _ | u
    · rfl
    · cases one c u ho
      rw [obj] at q
      cases q
      exact nomatch (show Data.seq vs.toArray 0 = Data.dict es ep from hd)
  have nss : ∀ {c : Addr} {m : Str → Option Value}, sh.heap.Ns c m → (hidT sh.heap H).Ns c m := fun {c m} q => by
    obtain ⟨ob, es, ep, q1, q2, q3⟩ := q
    exact ⟨ob, es, ep, hid q1 (away q1 es ep q2), q2, q3⟩
  have kin2 : K.In (hidT sh.heap H) := by
    intro c ob q
    refine hid (kin c ob q) ?_
    rcases ho : H c with _ | u
    · rfl
    · have ec := one c u ho
      subst ec
      rw [nok (by rw [ho]; exact nofun)] at q
      cases q
  refine ⟨kin2, nss gl, ⟨rfl, ⟨kin2, nss gl, ⟨mb, nss bl, bbl⟩, ?_⟩, fun c ob q => of_hidT q, Nat.le_of_eq (hidT_size _ _), trivial, fun c hc => absurd (show c ∈ ([] : List Addr) from hc) (by simp), ok, AllBare.of_eq gens⟩⟩
  obtain ⟨mc, l1, l2⟩ := lim
  exact ⟨mc, nss l1, l2⟩
theorem law_callG (kin : K.In sh.heap) (gl : sh.heap.Ns mainGlobals mg) (bl : sh.heap.Ns builtinsNs mb) (bbl : ∀ x : Str, x ≠ "__name__" → mb x = bootBuiltins x) (lim : sh.heap.NoLimit) (gens : sh.gens = #[])
    (obj : sh.heap.get? a = some { cls := .type "list", data := .seq vs.toArray }) (its0 : IntsAre vs ns) (small : ns.length ≤ sizeLine) (room : Room k callerA)
    (F : ∀ base : Heap, K.In base → base.Ns mainGlobals mg → FnG P w K mg base k fa fd [x] sp) (bnd : ∀ (s : Shared) (u : Value), BindsTo s fd ⟨[u], []⟩ [(x, u)])
    (prom : ∀ H : Hp, SqL K H a (ns.map V.int) → sp [.ref a] H (fun v _ => v = .bl true) fun _ _ _ => False) :
    codeAny (model P w) callerA (.call (.ref fa) ⟨[.ref a], []⟩) (fun r s' => r = .ok (.ret (.bool true)) ∧ OldK sh.heap s'.heap ∧ s'.os = sh.os ∧ AllBare s'.gens) sh := by
  have rel := vals_ints its0
  have key : ∀ (b : Bool), (b = true → K.lookup a = none) → SqL K (oneH a b { cls := .type "list", data := .seq vs.toArray } (ns.map V.int)) a (ns.map V.int) →
      codeAny (model P w) callerA (.call (.ref fa) ⟨[.ref a], []⟩) (fun r s' => r = .ok (.ret (.bool true)) ∧ OldK sh.heap s'.heap ∧ s'.os = sh.os ∧ AllBare s'.gens) sh := by
    intro b hb sq
    have hok : HOk P w (oneH a b { cls := .type "list", data := .seq vs.toArray } (ns.map V.int)) sh.heap := fun c u q => by
      obtain ⟨e1, e2, e3⟩ := oneH_yes q
      subst e1 e3
      exact ⟨obj, by rw [List.length_map]; exact small, vs, _, rel, obj⟩
    obtain ⟨k1, k2, e0⟩ := end_env (P := P) (w := w) kin gl bl bbl lim gens obj hok (fun c u q => (oneH_yes q).1) fun q => hb (by
      rcases ho : oneH a b { cls := .type "list", data := .seq vs.toArray } (ns.map V.int) a with _ | u
      · exact absurd ho q
      · exact (oneH_yes ho).2.1)
    refine codeAny_mono ((F _ k1 k2).run callerA [] sh _ ⟨[.ref a], []⟩ [.ref a] [.ref a] (fun v _ => v = .bl true) (fun _ _ _ => False) room rfl e0 (bnd sh (.ref a)) (.cons rfl .nil) (prom _ sq)) fun r s' out => ?_
    rcases r with er | fl
    · obtain ⟨_, _, _, _, _, _, _, _, _, _, _, _, z⟩ := (show L2.CX P w [] _ sh (fun _ _ _ => False) er s' from out)
      exact z.elim
    · cases fl with
      | next => exact out.elim
      | brk => exact out.elim
      | cont => exact out.elim
      | ret u =>
        obtain ⟨v, H', hos, hbare, un, hok', rv, ev⟩ := out
        have ev : v = .bl true := ev
        subst ev
        obtain rfl : u = Value.bool true := rv
        refine ⟨rfl, OldK.of_keep fun c ob q => ?_, hos, hbare⟩
        rcases ho : oneH a b { cls := .type "list", data := .seq vs.toArray } (ns.map V.int) c with _ | u
        · exact un.keep c ob q ho (fun z => absurd (show c ∈ ([] : List Addr) from z) (by simp)) (by simp)
        · obtain ⟨e1, e2, e3⟩ := oneH_yes ho
          subst e3
          obtain ⟨g1, _⟩ := hok c _ ho
          obtain ⟨g2, _⟩ := hok' c _ (un.frzs c _ _ ho)
          rw [q] at g1
          cases g1
          exact g2
  cases hk : K.lookup a with
  | some ob =>
    have q := kin a ob hk
    rw [obj] at q
    cases q
    exact key false (fun z => nomatch z) (.inr ⟨_, vs.toArray, _, hk, rfl, rfl, rfl, by rw [List.size_toArray, its0.length]; exact small, by simpa using rel⟩)
  | none => exact key true (fun _ => hk) (.inl (.inr ⟨_, if_pos ⟨rfl, rfl⟩⟩))
end
/-- a law whose def keeps its promise of every script of at most n numbers, each of at most 1048576 bits -/
theorem walk_ofG {l : PySem.W.OpenLaw} {n k : Nat} {q : Program} {loose : List Str} {XP : (Str → Option Value) → Heap → Prop} {YP : World → Heap → Prop} {d : DefRec} {x : Str}
    (hn : l.most = some n) (hn2 : n ≤ sizeLine) (hdf : d.params.defaults = []) (room : Room k callerA)
    (F : ∀ (w : World) (mg : Str → Option Value) (fa : Addr) (h : Heap), YP w h → h.Ns mainGlobals mg → mg d.name = some (.ref fa) →
      ∃ (K : PySem.W.Frag) (fd : FuncData) (sp : Sp), K.In h ∧ (∀ (s : Shared) (u : Value), BindsTo s fd ⟨[u], []⟩ [(x, u)]) ∧
        (∀ (H : Hp) (a : Addr) (ns : List Int), ns.length ≤ n → (∀ z ∈ ns, Builtin.Int.intBits z ≤ 1048576) → SqL K H a (ns.map V.int) → sp [.ref a] H (fun v _ => v = .bl true) fun _ _ _ => False) ∧
        ∀ base : Heap, K.In base → base.Ns mainGlobals mg → FnG l.prog w K mg base k fa fd [x] sp) :
    PySem.W.WalkO q loose XP YP l.row.toRowW d [] (fun f vs => PySem.call f vs) := by
  refine Att.attach_callB hn hdf fun w s₀ sh mg mb fa o pm cd doc a vs ns G Y ho hd hcd hmg obj its0 hlen hbits gens => ?_
  obtain ⟨K, fd, sp, kin, bnd, prom, F0⟩ := F w mg fa _ Y G.T.g hmg
  exact law_callG kin G.T.g G.T.b G.T.builtins G.T.nolimit gens obj its0 (Nat.le_trans hlen hn2) room F0 bnd fun H sq => prom H a ns hlen hbits sq
end Zl
set_option Elab.async false
set_option linter.all false
set_option maxRecDepth 100000
set_option maxHeartbeats 4000000
namespace Zl
open PySem PySem.Spec L2 PySem.W
open PyProof.Rows hiding St

section
variable {Γ : Gm} {W : WX} {X : Cx} {lv : Nat} {f : FE} {e : Expr} {pos : Pos}
/-! ## what is walked: a list, a tuple, a text, the script -/
def fiAny (f : FE) : FI := fun ρ μ => (f ρ μ).bind fun p => match p.1 with
  | .d (.lst ds) => .ok (ds, p.2)
  | .d (.scr ns) => .ok (ns.map D.int, p.2)
  | .d (.tup ds) => .ok (ds, p.2)
  | .d (.kt ds) => .ok (ds, p.2)
  | .d (.str z) => .ok (signsD z, p.2)
  | _ => .bad
theorem zi_any {tg : Expr} (c : Cz Γ W X lv) (he : PE X e (tZ Γ W f)) : PI X tg e (tZI Γ W (fiAny f)) := by
  refine ⟨fun pins s σ H Q I t => ?_⟩
  obtain ⟨G, ρ, μ, R, p⟩ := t
  have key : fiAny f ρ μ = fiList f ρ μ ∨ fiAny f ρ μ = fiTup f ρ μ ∨ fiAny f ρ μ = fiStr f ρ μ ∨ fiAny f ρ μ = .bad := by
    unfold fiAny fiList fiTup fiStr
    cases h : f ρ μ with
    | bad => exact .inl rfl
    | ex a b c => exact .inl rfl
    | ok q =>
      obtain ⟨v, μ1⟩ := q
      rw [Zl.R.bind_ok, Zl.R.bind_ok, Zl.R.bind_ok, Zl.R.bind_ok]
      cases v with
      | own k => exact .inr (.inr (.inr rfl))
      | d x => cases x <;> first | exact .inl rfl | exact .inr (.inl rfl) | exact .inr (.inr (.inl rfl)) | exact .inr (.inr (.inr rfl))
  rcases key with k | k | k | k
  · exact (zi_list c he).run pins s σ H Q I ⟨G, ρ, μ, R, by rw [← k]; exact p⟩
  · exact (zi_tup c he).run pins s σ H Q I ⟨G, ρ, μ, R, by rw [← k]; exact p⟩
  · exact (zi_str he).run pins s σ H Q I ⟨G, ρ, μ, R, by rw [← k]; exact p⟩
  · rw [k] at p; exact p.elim

/-! ## a module's constants -/
theorem ze_gstr {x z : Str} (hg : Gl X x) (hm : ∃ t, X.mg x = some (.str z t)) (hd : (x == ("__debug__" : Str)) = false) : PE X (.Name x pos) (tZ Γ W (fC (.str z))) := by
  obtain ⟨t, h⟩ := hm
  exact ze_glob (v := .str z) hg h ⟨t, rfl⟩ hd fun F => by unfold Is; rfl
theorem ze_gint {x : Str} {i : Int} (hg : Gl X x) (hm : ∃ t, X.mg x = some (.int i t)) (hd : (x == ("__debug__" : Str)) = false) : PE X (.Name x pos) (tZ Γ W (fC (.int i))) := by
  obtain ⟨t, h⟩ := hm
  exact ze_glob (v := .int i) hg h ⟨t, rfl⟩ hd fun F => by unfold Is; rfl

/-! ## a, b, c = x, y, z -/
def fPar3 (i j l : Nat) (g : FA) : FS := fun ρ μ => (g ρ μ).bind fun p => match p.1 with
  | [v, w, u] => .ok (.nx, ((ρ.set i v).set j w).set l u, p.2)
  | _ => .bad
theorem zs_par3 (c : Cz Γ W X lv) {i j l : Nat} {x y z : Str} {t : FA} {a b d : Expr} {px py pz pt : Pos} {kt k2 pt2} (hi : X.N[i]? = some x) (hj : X.N[j]? = some y) (hl : X.N[l]? = some z) (hij : i ≠ j) (hil : i ≠ l) (hjl : j ≠ l)
    (hx : X.env.scope.names.lookup x = some .local) (hy : X.env.scope.names.lookup y = some .local) (hz : X.env.scope.names.lookup z = some .local) (ha : PA X [a, b, d] (tZA Γ W t))
    (hw : swappedStores [.Tuple [.Name x px, .Name y py, .Name z pz] kt pt] (.Tuple [a, b, d] k2 pt2) X.env = pure (some [x, y, z]))
    (hs : swapsWithSole [.Tuple [.Name x px, .Name y py, .Name z pz] kt pt] (.Tuple [a, b, d] k2 pt2) pos.line X.env = pure false) :
    PS X (.Assign [.Tuple [.Name x px, .Name y py, .Name z pz] kt pt] (.Tuple [a, b, d] k2 pt2) pos) (tZS Γ W (fPar3 i j l t)) := by
  refine PS.imp (ps_par3 c.calm c.nd hi hj hl hij hil hjl hx hy hz ha hw hs) fun D σ H q => ?_
  obtain ⟨G, ρ, μ, R, p⟩ := q
  refine ⟨G, ρ, μ, R, PostA.bindS p fun us vs μ1 G1 H1 s1 R1 r1 p1 => ?_⟩
  simp only at p1
  split at p1
  · cases r1 with
    | cons h1 r1 =>
      cases r1 with
      | cons h2 r1 =>
        cases r1 with
        | cons h3 r1 =>
          cases r1
          exact ⟨_, _, _, rfl, PostS.nx (((R1.set h1).set h2).set h3) p1⟩
  · exact p1.elim
end
/-! ## the same by a tuple, any names -/
def setVals : List Nat → List Val → Rho → Rho
  | i :: is, v :: vs, ρ => setVals is vs (ρ.set i v)
  | _, _, ρ => ρ
def fParC (is : List Nat) (g : FA) : FS := fun ρ μ => (g ρ μ).bind fun p => if p.1.length = is.length ∧ is.length ≤ 100 then .ok (.nx, setVals is p.1 ρ, p.2) else .bad
section
variable {Γ : Gm} {W : WX} {X : Cx} {lv : Nat} {pos : Pos}
theorem setVals_ok : ∀ {is : List Nat} {vs : List Val} {us : List V} {G : Gh} {ρ : Rho} {μ : Mu} {σ : St} {H : Hp} {Q : St → Hp → Prop}, vs.length = is.length → Rep Γ G ρ μ σ H → VRelL Γ G us vs →
    (∀ σ', Rep Γ G (setVals is vs ρ) μ σ' H → Q σ' H) → gsNames is us σ H Q
  | [], vs, us, G, ρ, μ, σ, H, Q, hl, R, l, q => by
    have e : vs = [] := List.length_eq_zero_iff.mp hl
    subst e
    cases l
    exact ⟨rfl, q σ R⟩
  | i :: is, [], us, _, _, _, _, _, _, hl, _, _, _ => by simp at hl
  | i :: is, v :: vs, us, G, ρ, μ, σ, H, Q, hl, R, l, q => by
    cases l with
    | cons h t => exact ⟨_, _, rfl, setVals_ok (by simpa using hl) (R.set h) t q⟩
theorem zs_parC (c : Cz Γ W X lv) {es vs : List Expr} {is : List Nat} {k k2 : Nat} {tp tp2 : Pos} {t : FA} (n : Nms X es is) (ha : PA X vs (tZA Γ W t)) (hs : swapsWithSole [.Tuple es k tp] (.Tuple vs k2 tp2) pos.line X.env = pure false) (hw : swappedStores [.Tuple es k tp] (.Tuple vs k2 tp2) X.env = pure none) :
    PS X (.Assign [.Tuple es k tp] (.Tuple vs k2 tp2) pos) (tZS Γ W (fParC is t)) := by
  obtain ⟨h1, h2⟩ := n.each
  refine PS.imp (ps_asg (pe_tup ha) (pg_tup c.calm (n.pgs c.nd) h1 h2) hs hw (by rfl)) fun D σ H q => ?_
  obtain ⟨G, ρ, μ, R, p⟩ := q
  refine ⟨G, ρ, μ, R, PostA.bindS p fun us ws μ1 G1 H1 s1 R1 r1 p1 => ?_⟩
  simp only at p1
  split at p1
  · rename_i hl
    have hlen : us.length = ws.length := Paired.length r1
    refine ⟨small_line (by omega), fun q hq => ?_⟩
    have st : Step G1 H1 G1 (upd H1 q (.tup us)) := Step.other hq
    have R2 : Rep Γ G1 ρ μ1 σ (upd H1 q (.tup us)) := R1.go st (R1.toRepM.other hq)
    exact ⟨q, us, rfl, SqT.of upd_same, by rw [hlen]; exact hl.1, setVals_ok hl.1 R2 r1 fun σ' R' => PostS.nx R' (PostS.step st p1)⟩
  · exact p1.elim
end
theorem pg_tupN {Γ : Gm} {W : WX} {X : Cx} {lv : Nat} (c : Cz Γ W X lv) {es : List Expr} {is : List Nat} {k : Nat} {pos : Pos} (n : Nms X es is) : PG X (.Tuple es k pos) (gTup Γ.K is.length (gsNames is)) := by
  obtain ⟨h1, h2⟩ := n.each
  rw [← c.K]
  exact pg_tup c.calm (n.pgs c.nd) h1 h2
/-! ## d = {k: v for ..} -/
section
variable {Γ : Gm} {W : WX} {X : Cx} {lv : Nat}
theorem sw_dict {k0 v0 : Expr} {gens : List Comprehension} {sc : Scope} {pos py : Pos} {nm : Str} {ln : Nat} {env : Env} (h1 : env.scope.kind = .function) (h2 : env.scope.names.lookup nm = some .local) (h3 : (py.line == pos.line) = true)
    (h4 : (sc.names.any fun (n, k) => n == nm && (k == .local || k == .cell)) = false) : swapsWith (.DictComp k0 v0 gens sc pos) (some (.Name nm py)) ln env = pure true := by
  have q1 : env.kindOf nm = some .local := h2
  have q2 : env.blockKind = .function := by
    unfold Env.blockKind
    rw [h1]
    rfl
  unfold swapsWith
  simp only [q2, q1, h4, Expr.pos, h3]
  rfl
variable {kx vx tg iter : Expr} {ifs : List Expr} {scope : Scope} {own : List (Str × Nat)} {pos spos py : Pos} {live : Bool} {it : FI} {gt : FG} {t : FT} {fk fv : FE} {g : TG} {i : Nat} {nm : Str}
theorem zs_setDc (c : Cz Γ W X lv) (hy : X.N[i]? = some nm) (hyl : X.env.scope.names.lookup nm = some .local)
    (hsw : swapsWith (.DictComp kx vx [⟨tg, iter, ifs, 0⟩] scope pos) (some (.Name nm py)) spos.line X.env = pure true) (hi : PI X tg iter (tZI Γ W it)) (ok : BlkOk X.N X.env.scope scope own) (hgt : TgOk Γ (own.map (·.2)) g gt)
    (hg : ∀ (s : Shared) (H : Hp) (C : Addr) (cl : List (Str × Addr)) (fp : List Addr), PG (X.blk s H scope (compEnvC scope cl C X.env) fp) tg g) (ht : ∀ (s : Shared) (H : Hp) (C : Addr) (cl : List (Str × Addr)) (fp : List Addr), PTs (X.blk s H scope (compEnvC scope cl C X.env) fp) ifs (tZT Γ WF t))
    (hk : ∀ (s : Shared) (H : Hp) (C : Addr) (cl : List (Str × Addr)) (fp : List Addr), PE (X.blk s H scope (compEnvC scope cl C X.env) fp) kx (tZ Γ WF fk))
    (he : ∀ (s : Shared) (H : Hp) (C : Addr) (cl : List (Str × Addr)) (fp : List Addr), PE (X.blk s H scope (compEnvC scope cl C X.env) fp) vx (tZ Γ WF fv)) (hs : ∀ x, foldedSetIterable iter X.env x = pure x) :
    PS X (.Assign [.Name nm py] (.DictComp kx vx [⟨tg, iter, ifs, 0⟩] scope pos) spos) (tZS Γ W (fSet i (fDc live it gt t fk fv (own.map (·.2))))) := by
  refine ⟨fun pins s σ H D I tz => ?_⟩
  have q0 : tDc (tZI Γ W it) g (tZT Γ WF t) (tZ Γ WF fk) (tZ Γ WF fv) (own.map (·.2)) σ H (fun x H1 => gName i x σ H1 D.nx) := by
    obtain ⟨G, ρ, μ, R, p⟩ := tz
    exact dc_ok hgt σ H _ ⟨G, ρ, μ, R, Post.bindS p fun u v μ1 G1 H1 s1 R1 r1 p1 => PostS.nx (R1.set r1) p1⟩
  rw [exec_Assign_Name_used _ _ _ _ hsw]
  refine wpAny_bind (wpAny_standAt (wpAny_bind ?_))
  show wpAny _ X.A (do let _ ← comprehension (.DictComp kx vx [⟨tg, iter, ifs, 0⟩] scope pos) scope X.env (firstIterPos [⟨tg, iter, ifs, 0⟩] pos) newDict false (eval iter X.env) (some (assign (.Name nm py) X.env))) _ _ s
  refine wpAny_bind (thn (dc_core (Qf := fun _ s2 => SP X pins D .next s2) c.calm c.nd I hi ok hg ht hk he hs q0 fun A0 C0 sB mB HB IB wish nsB fpB => ?_) fun _ _ z => wpAny_pure (wpAny_pure z))
  show wpAny _ _ (assign (.Name nm py) X.env (.ref A0)) _ _ _
  refine wpAny_assign_Name (store_ok2 (v := V.ref A0) IB c.nd hy (.inl hyl) rfl (fun sC IC ⟨a0, sb, at0⟩ => ?_) (.inr hyl))
  obtain ⟨p0, p1, p2, p3, p4, p5⟩ := fpB
  have ne0 : C0 ≠ a0 := by
    cases at0 with
    | inl z => rw [z]; exact p1
    | inr z => exact fun e => p4 nm a0 z e.symm
  exact ⟨mB, nsB.sameBut sb ne0, fun hC sb3 => ⟨_, HB, IC.turned (t' := sC.toks) (fun b o hb e => (sb3.2 b hb).trans e) p0 p1 p3 p4 p5, wish⟩⟩
end
/-! ## levels -/
section
variable {Γ : Gm} {P : Program} {w : World} {mg : Str → Option Value} {base : Heap} {j k : Nat} {f C : Addr} {n : Nat} {Fn : FF} {dd : List D} {m t : Str} {Δ : MT}
theorem FnZ.up (h : FnZ Γ P w mg base j f n Fn dd) (l : j ≤ k) : FnZ Γ P w mg base k f n Fn dd := by
  obtain ⟨⟨fd, ps, ds, dvs, h1, h2⟩, kp⟩ := h
  exact ⟨⟨fd, ps, ds, dvs, h1.mono l, h2⟩, kp⟩
theorem MtZ.up (h : MtZ Γ P w mg base j m Δ) (l : j ≤ k) : MtZ Γ P w mg base k m Δ :=
  ⟨fun a b c d e1 e2 => let ⟨f, fd, ps, h1, h2, h3, h4⟩ := h.ex a b c d e1 e2; ⟨f, fd, ps, h1, h2, h3.mono l, h4⟩⟩
theorem PrZ.up (h : PrZ Γ P w mg base j m Δ) (l : j ≤ k) : PrZ Γ P w mg base k m Δ :=
  ⟨fun a b c d e1 e2 => let ⟨f, pa, fd, ps, h1, h2, h3, h4⟩ := h.ex a b c d e1 e2; ⟨f, pa, fd, ps, h1, h2, h3.mono l, h4⟩⟩
theorem MkZ.up {Fi : FF} (h : MkZ Γ P w mg base j t C n Fi dd) (l : j ≤ k) : MkZ Γ P w mg base k t C n Fi dd := by
  obtain ⟨cl, ⟨f, fd, ps, ds, dvs, h0, h1, h2⟩⟩ := h
  exact ⟨cl, ⟨f, fd, ps, ds, dvs, h0, h1.mono l, h2⟩⟩
theorem FnK.up {ks : List Str} {is : List Nat} (h : FnK Γ P w mg base j f n Fn ks is) (l : j ≤ k) : FnK Γ P w mg base k f n Fn ks is := by
  obtain ⟨⟨fd, ps, h1, h2⟩, kp⟩ := h
  exact ⟨⟨fd, ps, h1.mono l, h2⟩, kp⟩
end
/-- the methods of one class alone -/
def mt1 (c : Str) (n : Nat) (F : FF) : MT := fun k => if k = c then some (n, F) else none
theorem mtz1 {Γ : Gm} {P : Program} {w : World} {mg : Str → Option Value} {base : Heap} {lv : Nat} {m c : Str} {n : Nat} {F : FF} {C f : Addr} {fd : FuncData} {ps : List Str} (hC : Γ.cl c = some C) (h1 : Cls Γ.K C) (h2 : Meth Γ.K C m f) (h3 : FnG P w Γ.K mg base lv f fd ps (spZ Γ n F)) (h4 : Binds Γ.K fd ps []) :
    MtZ Γ P w mg base lv m (mt1 c n F) := by
  refine ⟨fun k n' F' C' e1 e2 => ?_⟩
  unfold mt1 at e1
  split at e1
  · rename_i hk
    subst hk
    cases e1
    rw [hC] at e2
    cases e2
    exact ⟨f, fd, ps, h1, h2, h3, h4⟩
  · cases e1
end Zl
set_option Elab.async false
set_option linter.all false
set_option maxRecDepth 100000
set_option maxHeartbeats 4000000
namespace Zl
open PySem PySem.Spec L2 PySem.W
open PyProof.Rows hiding St
/-! ## what the head tells: names, defs anywhere, properties -/
def propB (K : Frag) (p : Str × Str) : Bool :=
  decide (PySem.W.findIn K (.ref (He.ga K p.1)) p.2 = some (some (.ref (He.ma K (He.ga K p.1) p.2)))) &&
  (decide (PySem.W.specialIn K (.ref (He.ma K (He.ga K p.1) p.2)) "__get__" = some (some (.builtin "property.__get__"))) &&
  (decide (PySem.W.takesIn K (.ref (He.ma K (He.ga K p.1) p.2)) = some true) && (match PySem.W.recIn K (He.ma K (He.ga K p.1) p.2) "property" with
    | some (.ref _ :: _) => true
    | _ => false)))
theorem propB_ok {K : Frag} {x m : Str} (h : propB K (x, m) = true) : PropOf K (He.ga K x) m (He.ma K (He.ga K x) m) (He5.wf K (He.ga K x) "property" m) := by
  unfold propB at h
  simp only [Bool.and_eq_true] at h
  obtain ⟨h1, h2, h3, h4⟩ := h
  refine ⟨of_decide_eq_true h1, of_decide_eq_true h2, of_decide_eq_true h3, ?_⟩
  unfold He5.wf
  split at h4
  · rename_i f r e; exact ⟨r, by rw [e]⟩
  · cases h4
abbrev AlZ : Type := He.AlD × Bool
def obsZ (fa : List He.Fa) (fn : List He5.DefA) (pr : List (Str × Str)) (K : Frag) : AlZ := (He5.obsA fa fn K, pr.all (propB K))
def valZ (fn : List He5.DefA) : AlZ := (He5.valA fn, true)
structure SaysZ (fa : List He.Fa) (fn : List He5.DefA) (pr : List (Str × Str)) (K : Frag) : Prop where
  a : He5.SaysA fa fn K
  p : ∀ q ∈ pr, propB K q = true
def obsZG (n : Nat) (fa : List He.Fa) (fn : List He5.DefA) (pr : List (Str × Str)) (g : Addr → Option Obj) : AlZ := obsZ fa fn pr (He.frG g (He5.asA g n))
theorem saysZ_of {fa : List He.Fa} {fn : List He5.DefA} {pr : List (Str × Str)} {K : Frag} (e : obsZ fa fn pr K = valZ fn) : SaysZ fa fn pr K :=
  ⟨congrArg (fun z : AlZ => z.1) e, fun q hq => List.all_eq_true.mp (congrArg (fun z : AlZ => z.2) e) q hq⟩
def hookZ (n : Nat) (fa : List He.Fa) (fn : List He5.DefA) (pr : List (Str × Str)) : PySem.W.Hook where
  α := AlZ
  obs := fun s => obsZG n fa fn pr s.heap.get?
  val := fun _ => valZ fn
  says := fun _ h => ∃ K : Frag, K.In h ∧ SaysZ fa fn pr K
  of := fun _ _ e => ⟨_, He.frG_in, saysZ_of e⟩
  keeps := fun _ _ _ ⟨K, hK, c⟩ k => ⟨K, Frag.In.keeps hK k, c⟩
theorem obsZG_eq {n : Nat} {fa : List He.Fa} {fn : List He5.DefA} {pr : List (Str × Str)} {g : Addr → Option Obj} {s : Shared} (h : ∀ a, g a = s.heap.get? a) : obsZG n fa fn pr g = (hookZ n fa fn pr).obs s := by
  have e : g = s.heap.get? := funext h
  rw [e]
  rfl
/-- the properties of one class alone -/
theorem prz1 {Γ : Gm} {P : Program} {w : World} {mg : Str → Option Value} {base : Heap} {lv : Nat} {m c : Str} {n : Nat} {F : FF} {C pa f : Addr} {fd : FuncData} {ps : List Str} (hC : Γ.cl c = some C) (h1 : Cls Γ.K C) (h2 : PropOf Γ.K C m pa f) (h3 : FnG P w Γ.K mg base lv f fd ps (spZ Γ n F)) (h4 : Binds Γ.K fd ps []) :
    PrZ Γ P w mg base lv m (mt1 c n F) := by
  refine ⟨fun k n' F' C' e1 e2 => ?_⟩
  unfold mt1 at e1
  split at e1
  · rename_i hk
    subst hk
    cases e1
    rw [hC] at e2
    cases e2
    exact ⟨f, pa, fd, ps, h1, h2, h3, h4⟩
  · cases e1
end Zl
set_option Elab.async false
set_option linter.all false
set_option maxRecDepth 100000
set_option maxHeartbeats 4000000
namespace Zl
open PySem PySem.Spec L2 PySem.W
open PyProof.Rows hiding St
open NdefX

/-! ## lambdas: made -/
section
variable {Γ : Gm} {X : Cx} {pins : List (Addr × Obj)} {σ : St} {H : Hp} {s : Shared} {G : Gh} {μ : Mu}
/-- a table grows, a code object is new -/
theorem RepM.tabled {P c : Addr} {ps more : Array Value} {q : Str} (R : RepM Γ G μ H) (hP : H P = some (.tbl ps)) (hm : (P, q) ∈ Γ.tb) (hu : ∀ p ∈ Γ.tb, p.1 = P → p.2 = q) (hc : H c = none) (ht : TriplesOk (ps ++ more).toList)
    (hk : ∀ (pos : Pos) (cv : Value), codeAmong pos (ps ++ more).toList = some cv → codeAmong pos ps.toList = some cv ∨ cv = .ref c) :
    Step G H G (upd (upd H P (.tbl (ps ++ more))) c (LamX.CodeO c q)) ∧ RepM Γ G μ (upd (upd H P (.tbl (ps ++ more))) c (LamX.CodeO c q)) := by
  obtain ⟨f1, f2, ps', f3, f4, f5⟩ := R.tabs _ hm
  rw [hP] at f3
  cases f3
  have nPc : P ≠ c := ne_of_none hP hc
  have at_ : ∀ b, b ≠ P → b ≠ c → upd (upd H P (.tbl (ps ++ more))) c (LamX.CodeO c q) b = H b := fun b h1 h2 => by rw [upd_ne h2, upd_ne h1]
  have atP : upd (upd H P (.tbl (ps ++ more))) c (LamX.CodeO c q) P = some (.tbl (ps ++ more)) := by rw [upd_ne nPc, upd_same]
  have ca : c ∉ G.al := fun z => by obtain ⟨o, e⟩ := R.there _ z; rw [hc] at e; cases e
  have keep : ∀ a o, H a = some o → (∀ ps, o ≠ .tbl ps) → upd (upd H P (.tbl (ps ++ more))) c (LamX.CodeO c q) a = some o := fun a o e n => by
    rw [at_ a (fun z => by rw [z, hP] at e; cases e; exact n _ rfl) (ne_of_none e hc)]
    exact e
  have there : ∀ a o, H a = some o → ∃ o', upd (upd H P (.tbl (ps ++ more))) c (LamX.CodeO c q) a = some o' := fun a o e => by
    by_cases z : a = P
    · rw [z]; exact ⟨_, atP⟩
    · exact ⟨o, by rw [at_ a z (ne_of_none e hc)]; exact e⟩
  refine ⟨⟨fun _ _ h => h, ⟨[], by simp⟩, rfl, fun a o e n _ => keep a o e n, fun _ h n => absurd h n, fun _ h n => absurd h n, there⟩, ⟨fun a o e => ?_, R.len, R.nd, fun k a cc e1 e2 => ?_, fun a h => ?_, R.clo, fun p hp => ?_⟩⟩
  · rw [at_ a (fun z => by rw [z, f1] at e; cases e) (ne_of_none (R.sub _ _ e) hc)]
    exact R.sub _ _ e
  · have hm := List.mem_of_getElem? e1
    exact CRel.mono (G := G) (G' := G) (fun _ _ h => h) (fun n => n) ⟨[], by simp⟩ (at_ a (fun z => f2 (z ▸ hm)) fun z => ca (z ▸ hm)) (R.cells k a cc e1 e2)
  · obtain ⟨o, e⟩ := R.there a h
    exact there a o e
  · by_cases hb : p.1 = P
    · rw [hb, hu p hp hb]
      refine ⟨f1, f2, _, atP, ht, fun pos cv e => ?_⟩
      rcases hk pos cv e with z | z
      · obtain ⟨c0, e1, e2, e3⟩ := f5 pos cv z
        exact ⟨c0, e1, keep _ _ e2 LamX.codeO_ne, e3⟩
      · exact ⟨c, z, upd_same, ca⟩
    · obtain ⟨g1, g2, ps2, g3, g4, g5⟩ := R.tabs p hp
      refine ⟨g1, g2, ps2, by rw [at_ _ hb (ne_of_none g3 hc)]; exact g3, g4, fun pos cv e => ?_⟩
      obtain ⟨c0, e1, e2, e3⟩ := g5 pos cv e
      exact ⟨c0, e1, keep _ _ e2 LamX.codeO_ne, e3⟩
theorem among_new {pos : Pos} {c : Value} (l : List Value) (h : TriplesOk l) (hc : codeAmong pos l = none) : codeAmong pos (l ++ [rawInt pos.line, rawInt pos.col, c]) = some c := by
  fun_induction TriplesOk l with
  | case1 => simp [codeAmong, rawInt]
  | case2 a t b u x rest ih =>
    simp only [List.cons_append, codeAmong] at hc ⊢
    split at hc
    · cases hc
    · rename_i q
      rw [if_neg q]
      exact ih h hc
  | case3 l h1 h2 => exact h.elim
theorem among_more {pos : Pos} {c : Value} (l m : List Value) (h : TriplesOk l) (hc : codeAmong pos l = some c) : codeAmong pos (l ++ m) = some c := by
  fun_induction TriplesOk l with
  | case1 => simp [codeAmong] at hc
  | case2 a t b u x rest ih =>
    simp only [List.cons_append, codeAmong] at hc ⊢
    split at hc
    · rename_i q
      rw [if_pos q]
      exact hc
    · rename_i q
      rw [if_neg q]
      exact ih h hc
  | case3 l h1 h2 => exact h.elim
theorem lam_makeZ {c P : Addr} {params : Arguments} {body : Expr} {scope : Scope} {pos : Pos} {E : Value → Shared → Prop} {Q : Value → Shared → Prop} (I : Inv X pins σ H s) (R : RepM Γ G μ H) (TB : LamX.TabB X.base X.mg c P) (hcode : X.env.code = .ref c)
    (hm : (P, X.env.qual ++ "<lambda>") ∈ Γ.tb) (hu : ∀ p ∈ Γ.tb, p.1 = P → p.2 = X.env.qual ++ "<lambda>") (hdef : defaultsOf params X.env = ([], [])) (hfree : ∀ y ∈ scope.names, y.2 = .free → ∃ c, X.env.cells.lookup y.1 = some c)
    (h : ∀ (f c' : Addr) (pm ctv : Value) (H1 : Hp) (s' : Shared), Inv X pins σ H1 s' → Step G H G H1 → RepM Γ G μ H1 →
      s'.heap.get? f = some (PySem.W.kla_obj "<lambda>" (X.env.qual ++ "<lambda>") params body scope (cloFrom X.env.cells scope.names []) pm c' ctv) → FpOk X pins H1 f → H1 c' = some (LamX.CodeO c' (X.env.qual ++ "<lambda>")) → c' ∉ G.al → (∃ ps : Array Value, H1 P = some (.tbl ps) ∧ TriplesOk ps.toList ∧ codeAmong pos ps.toList = some (.ref c')) → Q (.ref f) s') :
    wpAny (model X.prog X.w) X.A (eval (.Lambda params body scope pos) X.env) Q E s := by
  obtain ⟨f1, f2, ps, hP, ht, ha⟩ := R.tabs _ hm
  refine PySem.W.kla_eval hdef ?_
  have bP : s.heap.BuiltinsAt X.mg P := TB.bm.keeps I.bk
  have hP' : s.heap.get? P = some { cls := .none, data := .fields ps } := I.hok P _ hP
  cases hc : codeAmong pos ps.toList with
  | none =>
    refine PySem.W.kla_makeFunction (mg := X.mg) (c := c) (P := P) (ps := ps) (closure_ok hfree) I.ok.glob (I.mod.glob.keeps I.bk) hcode (TB.code.keeps I.bk) hP' ht hc TB.gP bP fun c' ctv h' tk hx hge hlt hrec htb => ?_
    obtain ⟨c2, oc, vs, t, e2, hoc, hd, hv⟩ := hrec
    cases e2
    have hsz : s.heap.objs.size ≤ h'.objs.size := Nat.le_trans hge (Nat.le_of_lt hlt)
    have nC : H c' = none := I.hok.fresh hge
    have I1 := LamX.inv_table (t' := tk) (q := X.env.qual ++ "<lambda>") (more := #[rawInt pos.line, rawInt pos.col, .ref c']) (h' := h'.push (PySem.W.kla_obj "<lambda>" (X.env.qual ++ "<lambda>") params body scope (cloFrom X.env.cells scope.names []) ((X.mg "__name__").getD .none) c' ctv)) I hP
      (fun b o hb e => Heap.get?_push_of_some _ (hx b o hb e)) (Heap.get?_push_of_some _ htb) hge ⟨oc, vs, t, Heap.get?_push_of_some _ hoc, hd, hv⟩
    have eL : (ps ++ #[rawInt pos.line, rawInt pos.col, .ref c']).toList = ps.toList ++ [rawInt pos.line, rawInt pos.col, .ref c'] := by simp
    obtain ⟨st, R1⟩ := R.tabled (c := c') (more := #[rawInt pos.line, rawInt pos.col, .ref c']) hP hm hu nC (by rw [eL]; exact PySem.TriplesOk_snoc _ _ _ _ ht) (fun p' cv hcv => by rw [eL] at hcv; exact LamX.among_app _ ht hcv)
    refine h h'.objs.size c' ((X.mg "__name__").getD .none) ctv _ _ I1 st R1 (Heap.get?_push_size _ rfl) (I.fpOk hsz ?_) upd_same (fun z => by obtain ⟨o, e⟩ := R.there _ z; rw [nC] at e; cases e) ⟨_, by rw [upd_ne (ne_of_none hP nC), upd_same], by rw [eL]; exact PySem.TriplesOk_snoc _ _ _ _ ht, by rw [eL]; exact among_new _ ht hc⟩
    have n1 : h'.objs.size ≠ c' := Nat.ne_of_gt hlt
    have n2 : h'.objs.size ≠ P := Nat.ne_of_gt (Nat.lt_of_lt_of_le (Heap.lt_size hP') hsz)
    rw [upd_ne n1, upd_ne n2]
    exact I.hok.fresh hsz
  | some cv =>
    obtain ⟨c', e, hco, hn⟩ := ha pos cv hc
    subst e
    refine PySem.W.kla_makeFunctionHit (mg := X.mg) (c := c) (P := P) (ps := ps) (closure_ok hfree) I.ok.glob (I.mod.glob.keeps I.bk) hcode (TB.code.keeps I.bk) hP' ht hc bP fun ctv h' tk hx hsz => ?_
    have I1 : Inv X pins σ H { s with heap := h'.push (PySem.W.kla_obj "<lambda>" (X.env.qual ++ "<lambda>") params body scope (cloFrom X.env.cells scope.names []) ((X.mg "__name__").getD .none) c' ctv), toks := tk } := I.kept fun b o e => Heap.get?_push_of_some _ (hx b o e)
    exact h h'.objs.size c' ((X.mg "__name__").getD .none) ctv H _ I1 (Step.refl G H) R (Heap.get?_push_size _ rfl) (I.fpOk hsz (I.hok.fresh hsz)) hco hn ⟨ps, hP, ht, hc⟩
end

/-! ## lambdas: called -/
abbrev lamF (qual : Str) (params : Arguments) (scope : Scope) (cl : List (Str × Addr)) (c' : Addr) : NF := ⟨"<lambda>", qual, params, [], scope, cl, c'⟩
/-- the context of a lambda's body -/
abbrev XL (P : Program) (w : World) (Γ : Gm) (mg : Str → Option Value) (base : Heap) (N : List Str) (F : NF) (f : Addr) (A : Around) (outer : List Env) (st : Shared) (H : Hp) (E : XK) : Cx := ncx (L2.CX P w) P w Γ.K mg base N F f A outer st H E
def lamR (ρ : Rho) (N : Nat) (as : List Val) (js : List Nat) : Rho := ⟨ρ.n0, as.map some ++ (js.map (fun j => (ρ.s[j]?).getD none) ++ List.replicate (N - as.length - js.length) none)⟩
section
variable {Γ : Gm} {X : Cx} {pins : List (Addr × Obj)} {σ : St} {H : Hp} {s : Shared} {G : Gh} {μ : Mu} {ρ : Rho}
theorem rel_at {us : List V} {xs : List Val} (h : VRelL Γ G us xs) : ∀ (j : Nat) x, xs[j]? = some x → ∃ u, us[j]? = some u ∧ VRel Γ G u x := by
  unfold VRelL at h
  induction h with
  | nil => intro j x e; simp at e
  | cons h t ih =>
    intro j x e
    cases j with
    | zero => simp at e; subst e; exact ⟨_, rfl, h⟩
    | succ j => obtain ⟨u, q, z⟩ := ih j x (by simpa using e); exact ⟨u, by simpa using q, z⟩
theorem lam_rep {N : List Str} {vs : List V} {as : List Val} {js : List Nat} (R : Rep Γ G ρ μ σ H) (r : VRelL Γ G vs as) : Rep Γ G (lamR ρ N.length as js) μ (startF N vs (js.map (NdefX.slotAt σ))) H := by
  have hlen : vs.length = as.length := Paired.length r
  refine ⟨R.toRepM, fun i v e => ?_, ?_, R.n0, R.top⟩
  · have e : (as.map some ++ (js.map (fun j => (ρ.s[j]?).getD none) ++ List.replicate (N.length - as.length - js.length) none))[i]? = some (some v) := e
    unfold startF
    by_cases hi : i < as.length
    · rw [List.getElem?_append_left (by simpa using hi), List.getElem?_map] at e
      cases q : as[i]? with
      | none => rw [q] at e; cases e
      | some y =>
        rw [q] at e
        cases e
        obtain ⟨u, h1, h2⟩ := rel_at r i _ q
        exact ⟨u, by rw [List.getElem?_append_left (by simpa [hlen] using hi), List.getElem?_map, h1]; rfl, h2⟩
    · rw [List.getElem?_append_right (by simpa using hi), List.length_map] at e
      by_cases hj : i - as.length < js.length
      · rw [List.getElem?_append_left (by simpa using hj), List.getElem?_map] at e
        cases q : js[i - as.length]? with
        | none => rw [q] at e; cases e
        | some j =>
          rw [q] at e
          have e2 : (ρ.s[j]?).getD none = some v := Option.some.inj e
          cases q2 : ρ.s[j]? with
          | none => rw [q2] at e2; cases e2
          | some w =>
            rw [q2] at e2
            have e3 : w = some v := e2
            subst e3
            obtain ⟨u, h1, h2⟩ := R.slots j v q2
            refine ⟨u, ?_, h2⟩
            have e9 : (vs.map some).length = as.length := by simp [hlen]
            rw [List.getElem?_append_right (by simpa [hlen] using hi), e9, List.getElem?_append_left (by simpa using hj), List.getElem?_map, q]
            show some (NdefX.slotAt σ j) = _
            unfold NdefX.slotAt
            rw [h1]
      · rw [List.getElem?_append_right (by simpa using hj), List.getElem?_replicate] at e
        split at e <;> cases e
  · unfold lamR startF
    simp [hlen]
theorem xl_takes {P : Program} {w : World} {mg : Str → Option Value} {base : Heap} {N : List Str} {F : NF} {f : Addr} {A : Around} {outer : List Env} {st : Shared} {E : XK} : Takes (XL P w Γ mg base N F f A outer st H E) WF := fun _ _ x => by
  obtain ⟨_, _, _, _, _, _, _, _, _, _, _, _, _, _, _, _, z⟩ := x
  exact z.elim
/-- f(..) -/
theorem run_lam {A' : Around} {k : Nat} {N ps fr : List Str} {js : List Nat} {params : Arguments} {body : Expr} {scope : Scope} {qual : Str} {cl : List (Str × Addr)} {f c' : Addr} {pm ctv : Value} {us : List Value} {vs : List V} {as : List Val} {kb : FE} {Q : VK} {E : Value → Shared → Prop}
    (hK : X.K = Γ.K) (hr : Room (k + 1) A') (hg : A'.guards = some []) (hA : A'.frames = some X.stack) (I : Inv X pins σ H s) (R : Rep Γ G ρ μ σ H)
    (hf : s.heap.get? f = some (PySem.W.kla_obj "<lambda>" qual params body scope cl pm c' ctv)) (hc : H c' = some (LamX.CodeO c' qual))
    (S : NScope N ps fr scope) (C : Caps X cl fr js) (hbind : bindArgs (PySem.W.kla_fn "<lambda>" qual params body scope cl pm (.ref c') ctv) ⟨us, []⟩ = pure (ps.zip us)) (r : Vals vs us) (hl : vs.length = ps.length) (ra : VRelL Γ G vs as)
    (hbody : ∀ (A : Around) (outer : List Env) (st : Shared) (H0 : Hp) (E : XK), Cz Γ WF (XL X.prog X.w Γ X.mg X.base N (lamF qual params scope cl c') f A outer st H0 E) k → PE (XL X.prog X.w Γ X.mg X.base N (lamF qual params scope cl c') f A outer st H0 E) body (tZ Γ WF kb))
    (q : Post Γ WF G (lamR ρ N.length as js) (startF N vs (js.map (NdefX.slotAt σ))) H Q (kb (lamR ρ N.length as js) μ)) : wpAny (model X.prog X.w) A' (call (.ref f) us) (EP X pins σ Q) E s := by
  have e0 := I.env0
  have e1 : Env0 X.prog X.w X.K X.mg X.base A' X.stack s H := ⟨hA, e0.mod, e0.bs, e0.bsz, e0.funs, e0.frf, e0.hok, e0.bare⟩
  obtain ⟨⟨oc, vs', t, hoc, hdc, hvc⟩, _, _⟩ := I.hok c' _ hc
  have rc : codeAny (model X.prog X.w) A' (.call (.ref f) ⟨us, []⟩) (CR (L2.CX X.prog X.w) X.stack X.prog X.w H s Q C8.E0) s := by
    refine PySem.W.kla_callFunE hr.depth hf rfl S.co S.gen rfl ⟨c', oc, vs', t, rfl, hoc, hdc, hvc⟩ ?_
    rw [hbind]
    refine wpAny_pure (wpAny_newFunctionEnv S.nocell (fun ⟨n, _⟩ hy => S.par n (List.of_mem_zip hy).1) (fun h₁ hns hsb => ⟨I.nolimit.fresh _ hsb, ?_⟩) S.kind)
    show codeAny _ _ (.expr body (envF (lamF qual params scope cl c') f s.heap.objs.size)) _ _
    have kp : ∀ b o, s.heap.get? b = some o → h₁.get? b = some o := fun b o e => hsb.extBut b o (Nat.ne_of_lt (Heap.lt_size e)) (Heap.get?_push_of_some _ e)
    have J : Inv (XL X.prog X.w Γ X.mg X.base N (lamF qual params scope cl c') f A' X.stack s H C8.E0) [] (startF N vs (js.map (NdefX.slotAt σ))) H { s with heap := h₁, toks := s.toks + (ps.zip us).length } := by
      have := inv_startN (CX := L2.CX X.prog X.w) (F := lamF qual params scope cl c') (f := f) (E := C8.E0) (tk := s.toks + (ps.zip us).length) S hr.hd e1 hl r (cells_of I C) hns kp
      rw [hK] at this
      exact this
    refine PySem.W.kla_codeExpr (wpAny_mono ((hbody A' X.stack s H C8.E0 ⟨rfl, S.nd, rfl, hr.deeper _, hg, xl_takes⟩).run [] _ _ H Q J ⟨G, _, μ, lam_rep R ra, q⟩) (fun v s' hq => ?_) fun e s' hq => ?_)
    · obtain ⟨w', H', J', rv, q⟩ := hq
      exact ⟨w', H', J'.os, J'.bare, J'.base, J'.hok, rv, q⟩
    · exact hq
  refine wpAny_call (codeAny_mono rc fun r s' hq => ?_)
  cases r with
  | error e =>
    obtain ⟨_, _, _, _, _, _, _, _, _, _, _, _, z⟩ := (show L2.CX X.prog X.w X.stack H s C8.E0 e s' from hq)
    exact z.elim
  | ok fl =>
    cases fl with
    | ret u => exact I.after hq
    | next => exact False.elim hq
    | brk => exact False.elim hq
    | cont => exact False.elim hq
end
end Zl
set_option Elab.async false
set_option linter.all false
set_option maxRecDepth 100000
set_option maxHeartbeats 4000000
namespace Zl
open PySem PySem.Spec L2 PySem.W
open PyProof.Rows hiding St

/-! ## min(.., key=lambda v: ..) -/
/-- what min asks of the key: J m k: the state is good and k is the key of item m -/
structure KRun (prog : Program) (w : World) (A : Around) (q : Value) (S : Addr) (wr : List Addr) (G : Array GenState → Array GenState → Prop) (n : Nat) (P : Nat → Value → Prop) (St : Nat → Shared → Prop) (J0 : Shared → Prop) (J : Nat → Value → Shared → Prop) (bt : Nat → Nat → Bool) : Prop where
  keep0 : ∀ s s', J0 s → Moved (S :: wr) G s s' → J0 s'
  keep : ∀ m k s s', J m k s → Moved (S :: wr) G s s' → J m k s'
  first : ∀ v (s : Shared) (o : Obj) (Q : Value → Shared → Prop) (E : Value → Shared → Prop), 0 < n → P 0 v → J0 s → St 1 s → s.heap.get? S = some o → (∀ v, o.data ≠ .cell v) →
    (∀ k s', J 0 k s' → St 1 s' → s'.heap.get? S = some o → Q k s') → wpAny (model prog w) A (call q [v]) Q E s
  turn : ∀ i v m kb (s : Shared) (o : Obj) (Q : Value → Shared → Prop) (E : Value → Shared → Prop), i < n → m < n → P i v → J m kb s → St (i + 1) s → s.heap.get? S = some o → (∀ v, o.data ≠ .cell v) →
    (∀ k s', J m kb s' → J i k s' → St (i + 1) s' → s'.heap.get? S = some o → (∀ (Q : Value → Shared → Prop) (E : Value → Shared → Prop), Q (.bool (bt i m)) s' → wpAny (model prog w) A (richCompare .Lt k kb) Q E s') → Q k s') → wpAny (model prog w) A (call q [v]) Q E s
theorem argBest_le (bt : Nat → Nat → Bool) : ∀ j, argBest bt j ≤ j
  | 0 => Nat.le_refl _
  | j + 1 => by
    unfold argBest
    split
    · exact Nat.le_refl _
    · exact Nat.le_succ_of_le (argBest_le bt j)
section
variable {prog : Program} {w : World} {A : Around} {R : Result → Shared → Prop} {I : Addr} {fp wr : List Addr} {G : Array GenState → Array GenState → Prop} {n : Nat} {P : Nat → Value → Prop} {St : Nat → Shared → Prop} {J0 : Shared → Prop} {J : Nat → Value → Shared → Prop} {bt : Nat → Nat → Bool} {q : Addr}
theorem min_loopZ (W : WalksS prog w A.in1 I fp wr G n P St) (S : Addr) (hSf : S ∉ fp) (K : KRun prog w A.in1 (.ref q) S wr G n P St J0 J bt) (kw : List (Str × Value)) :
    ∀ (k j : Nat) (s : Shared) (vb kb : Value) (c : Nat), n - (j + 1) = k → j + 1 ≤ n → J (argBest bt j) kb s → St (j + 1) s → P (argBest bt j) vb →
    s.heap.get? S = some { cls := .type "list", dict := none, data := .seq #[vb, kb] c, slots := #[] } →
    (∀ v k s', P (argBest bt (n - 1)) v → J (argBest bt (n - 1)) k s' → R (.ok (.ret v)) s') → codeAny (model prog w) A (.builtin "min.loop" ⟨[.ref I, (.ref q), .ref S], kw⟩) R s := by
  have hSw : S ∉ wr := fun h => hSf (W.sub _ h)
  have hsub : ∀ b ∈ wr, b ∈ S :: wr := fun b hb => List.mem_cons_of_mem _ hb
  have hname : (toString "min" ++ toString ".loop" : String) = "min.loop" := by decide
  have notS : ∀ {b : Addr}, b ∉ S :: wr → S ≠ b := fun hb h => hb (by rw [h]; exact List.mem_cons_self)
  intro k
  induction k with
  | zero =>
    intro j s vb kb c hk hj hJ hst hPb hS hR
    have hin : j + 1 = n := by omega
    refine codeAny_builtin F.entry_min_loop ?_
    rw [Around.under_plainId F.plain_min_loop _]
    show wpAny _ A.in1 (seqItems? (.ref S) >>= _) _ _ s
    refine wpAny_bind (wpAny_seqItems hS rfl ?_)
    show wpAny _ A.in1 (tryCatch (pyNext (.ref I)) _ >>= _) _ _ s
    refine wpAny_bind (wpAny_tryCatch (W.done s _ _ (hin ▸ hst) fun s' hm => ?_))
    have hS' := hm.heap S _ hSw hS
    show wpAny _ A.in1 (updateSeq S (fun _ => #[]) >>= _) _ _ _
    refine wpAny_bind ?_
    refine wpAny_updateSeq hS' rfl (wpAny_bind (wpAny_letGo (wpAny_pure ?_)))
    exact hR vb kb _ (by rw [← hin]; exact hPb) (by rw [← hin]; exact K.keep _ _ _ _ hJ ((hm.mono hsub).then_heap (tk := s'.toks) (Nat.le_refl _) fun b o hb e => (Heap.get?_update_other _ _ (notS hb)).trans e))
  | succ k ih =>
    intro j s vb kb c hk hj hJ hst hPb hS hR
    have hlt : j + 1 < n := by omega
    refine codeAny_builtin F.entry_min_loop ?_
    rw [Around.under_plainId F.plain_min_loop _]
    show wpAny _ A.in1 (seqItems? (.ref S) >>= _) _ _ s
    refine wpAny_bind (wpAny_seqItems hS rfl ?_)
    show wpAny _ A.in1 (tryCatch (pyNext (.ref I)) _ >>= _) _ _ s
    refine wpAny_bind (wpAny_tryCatch (W.item (j + 1) s _ _ hlt hst fun v s' hP hst' hm => ?_))
    have hS' := hm.heap S _ hSw hS
    have hJ' := K.keep _ _ _ _ hJ (hm.mono hsub)
    show wpAny _ A.in1 (tryCatch (holding [v] (call (.ref q) [v])) _ >>= _) _ _ _
    refine wpAny_bind (wpAny_tryCatch (wpAny_holding (K.turn (j + 1) v (argBest bt j) kb s' _ _ _ hlt (by have := argBest_le bt j; omega) hP hJ' hst' hS' (fun _ z => nomatch z) fun kx s'' hJ2 hJx hst2 hS2 hcmp => ?_)))
    show wpAny _ A.in1 (tryCatch (holding [v, kx] (richCompare .Lt kx kb >>= _)) _ >>= _) _ _ _
    refine wpAny_bind (wpAny_tryCatch (wpAny_holding (wpAny_bind (hcmp _ _ ?_))))
    refine wpAny_bind (wpAny_holding (wpAny_truthy_bool ?_))
    refine wpAny_bind (wpAny_letGo (wpAny_pure ?_))
    cases hb : bt (j + 1) (argBest bt j) with
    | true =>
      simp only [if_true]
      refine wpAny_bind ?_
      refine wpAny_updateSeq hS2 rfl (wpAny_bind (wpAny_letGo ?_))
      rw [hname]
      have hm2 : Moved (S :: wr) G s'' { s'' with heap := s''.heap.update S (Obj.mapSeq fun _ => #[v, kx]), toks := s''.toks } := (Moved.refl W.grefl).then_heap (tk := s''.toks) (Nat.le_refl _) fun b o hb e => (Heap.get?_update_other _ _ (notS hb)).trans e
      have eb : argBest bt (j + 1) = j + 1 := by simp only [argBest, hb, if_true]
      refine wpAny_pure ⟨plainId_quiet F.plain_min_loop _, ih (j + 1) _ v kx _ (by omega) hlt (by rw [eb]; exact K.keep _ _ _ _ hJx hm2) (W.frame _ s'' _ s''.toks hst2 (Nat.le_refl _) fun b hbf o e => ?_) (by rw [eb]; exact hP) (Heap.get?_update_self _ hS2 rfl) hR⟩
      exact (Heap.get?_update_other _ _ (fun h : S = b => hSf (by rw [h]; exact hbf))).trans e
    | false =>
      simp only [Bool.false_eq_true, if_false]
      refine wpAny_bind (wpAny_letGo ?_)
      rw [hname]
      have eb : argBest bt (j + 1) = argBest bt j := by simp only [argBest, hb, Bool.false_eq_true, if_false]
      exact wpAny_pure ⟨plainId_quiet F.plain_min_loop _, ih (j + 1) _ vb kb c (by omega) hlt (by rw [eb]; exact hJ2) hst2 (by rw [eb]; exact hPb) hS2 hR⟩
theorem min_firstZ (W : WalksS prog w A.in1 I fp wr G n P St) (S : Addr) (hSf : S ∉ fp) (K : KRun prog w A.in1 (.ref q) S wr G n P St J0 J bt) (kw : List (Str × Value)) (hn : 0 < n) {s : Shared} {c : Nat} (hJ : J0 s) (hst : St 0 s)
    (hS : s.heap.get? S = some { cls := .type "list", dict := none, data := .seq #[] c, slots := #[] })
    (hR : ∀ v k s', P (argBest bt (n - 1)) v → J (argBest bt (n - 1)) k s' → R (.ok (.ret v)) s') : codeAny (model prog w) A (.builtin "min.loop" ⟨[.ref I, (.ref q), .ref S], kw⟩) R s := by
  have hSw : S ∉ wr := fun h => hSf (W.sub _ h)
  have hsub : ∀ b ∈ wr, b ∈ S :: wr := fun b hb => List.mem_cons_of_mem _ hb
  have hname : (toString "min" ++ toString ".loop" : String) = "min.loop" := by decide
  have notS : ∀ {b : Addr}, b ∉ S :: wr → S ≠ b := fun hb h => hb (by rw [h]; exact List.mem_cons_self)
  refine codeAny_builtin F.entry_min_loop ?_
  rw [Around.under_plainId F.plain_min_loop _]
  show wpAny _ A.in1 (seqItems? (.ref S) >>= _) _ _ s
  refine wpAny_bind (wpAny_seqItems hS rfl ?_)
  show wpAny _ A.in1 (tryCatch (pyNext (.ref I)) _ >>= _) _ _ s
  refine wpAny_bind (wpAny_tryCatch (W.item 0 s _ _ hn hst fun v s' hP hst' hm => ?_))
  have hS' := hm.heap S _ hSw hS
  have hJ' := K.keep0 _ _ hJ (hm.mono hsub)
  show wpAny _ A.in1 (tryCatch (holding [v] (call (.ref q) [v])) _ >>= _) _ _ _
  refine wpAny_bind (wpAny_tryCatch (wpAny_holding (K.first v s' _ _ _ hn hP hJ' hst' hS' (fun _ z => nomatch z) fun kx s'' hJ2 hst2 hS2 => ?_)))
  show wpAny _ A.in1 (updateSeq S (fun _ => #[v, kx]) >>= _) _ _ _
  refine wpAny_bind ?_
  refine wpAny_updateSeq hS2 rfl ?_
  rw [hname]
  have hm2 : Moved (S :: wr) G s'' { s'' with heap := s''.heap.update S (Obj.mapSeq fun _ => #[v, kx]), toks := s''.toks } := (Moved.refl W.grefl).then_heap (tk := s''.toks) (Nat.le_refl _) fun b o hb e => (Heap.get?_update_other _ _ (notS hb)).trans e
  refine wpAny_pure ⟨plainId_quiet F.plain_min_loop _, min_loopZ W S hSf K kw _ 0 _ v kx _ rfl hn (K.keep _ _ _ _ hJ2 hm2) (W.frame _ s'' _ s''.toks hst2 (Nat.le_refl _) fun b hbf o e => ?_) hP (Heap.get?_update_self _ hS2 rfl) hR⟩
  exact (Heap.get?_update_other _ _ (fun h : S = b => hSf (by rw [h]; exact hbf))).trans e
theorem call_minZ {x : Value} {s : Shared} {E : Value → Shared → Prop} {Q : Value → Shared → Prop}
    (h : wpAny (model prog w) A.in1 (pyIter x) (fun it s₂ => ∃ I fp wr G n P St J0 J bt, it = .ref I ∧ WalksS prog w A.in1 I fp wr G n P St ∧ St 0 s₂ ∧ (∀ b ∈ fp, b < s₂.heap.objs.size) ∧ 0 < n ∧
      (∀ s₃, Moved (s₂.heap.objs.size :: wr) G s₂ s₃ → J0 s₃) ∧ KRun prog w A.in1 (.ref q) s₂.heap.objs.size wr G n P St J0 J bt ∧ ∀ v k s', P (argBest bt (n - 1)) v → J (argBest bt (n - 1)) k s' → Q v s') E s) :
    wpAny (model prog w) A (call (.builtin "min") [x] [(Str.ofString "key", .ref q)]) Q E s := by
  have hname : (toString "min" ++ toString ".loop" : String) = "min.loop" := by decide
  refine PyProof.Rows.kmk_tree F.kind_min F.plain_min F.entry_min (PyProof.Rows.kmk_min_key _ _) ?_
  show wpAny _ A.in1 (Builtin.Builtins.bindParams "min" ["key", "default"] 0 ⟨[], [(Str.ofString "key", .ref q)]⟩ >>= _) _ _ s
  refine wpAny_bind (wpAny_of_eq (show Builtin.Builtins.bindParams "min" ["key", "default"] 0 ⟨[], [(Str.ofString "key", .ref q)]⟩ = pure [some (.ref q), none] from rfl) ?_)
  refine wpAny_bind (wpAny_pure ?_)
  refine wpAny_bind (wpAny_mono h (fun it s₂ h₂ => ?_) fun _ _ e => e)
  obtain ⟨I, fp, wr, G, n, P, St, J0, J, bt, rfl, W, hst, hfp, hn, hJ, K, hQ⟩ := h₂
  refine wpAny_bind (wpAny_newObj_type ?_)
  have hSf : s₂.heap.objs.size ∉ fp := fun hm => Nat.lt_irrefl _ (hfp _ hm)
  rw [hname]
  have hm0 : Moved (s₂.heap.objs.size :: wr) G s₂ { s₂ with heap := s₂.heap.push { cls := .type "list", data := .seq #[] 0 }, toks := s₂.toks } := (Moved.refl W.grefl).then_heap (tk := s₂.toks) (Nat.le_refl _) fun b o _ e => Heap.get?_push_of_some _ e
  have hst' := W.frame 0 s₂ (s₂.heap.push { cls := .type "list", data := .seq #[] 0 }) s₂.toks hst (Nat.le_refl _) fun b _ o e => Heap.get?_push_of_some _ e
  exact wpAny_pure ⟨plainId_quiet F.plain_min_loop _, min_firstZ W s₂.heap.objs.size hSf K _ hn (hJ _ hm0) hst' (Heap.get?_push_size _ rfl) hQ⟩
end
end Zl
set_option Elab.async false
set_option linter.all false
set_option maxRecDepth 100000
set_option maxHeartbeats 4000000
namespace Zl
open PySem PySem.Spec L2 PySem.W
open PyProof.Rows hiding St
open NdefX

/-! ## the keys of the items, the least -/
def KeysOf (kb : FE) (N : Nat) (js : List Nat) (ρ : Rho) (μ : Mu) (ds ks : List D) : Prop := ks.length = ds.length ∧ ∀ (i : Nat) d k, ds[i]? = some d → ks[i]? = some k → kb (lamR ρ N [.d d] js) μ = .ok (.d k, μ)
def ltK (ks : List D) (i j : Nat) : Bool := dataLt (pyOf (ks.getD i D.non)) (pyOf (ks.getD j D.non))
def leastK (ds ks : List D) : Option D := ds[argBest (ltK ks) (ds.length - 1)]?
open Classical in
noncomputable def minKey (kb : FE) (N : Nat) (js : List Nat) (ρ : Rho) (μ : Mu) (ds : List D) : R (Val × Mu) :=
  if h : ∃ ks, KeysOf kb N js ρ μ ds ks ∧ okMin ks = true ∧ ds ≠ [] then (match leastK ds h.choose with
    | some d => .ok (.d d, μ)
    | none => .bad) else .bad
noncomputable def fMinK (fi : FI) (kb : FE) (N : Nat) (js : List Nat) : FE := fun ρ μ => (fi ρ μ).bind fun p => minKey kb N js ρ p.2 p.1
theorem keysOf_one {kb : FE} {N : Nat} {js : List Nat} {ρ : Rho} {μ : Mu} {ds ks ks' : List D} (h : KeysOf kb N js ρ μ ds ks) (h' : KeysOf kb N js ρ μ ds ks') : ks = ks' := by
  refine List.ext_getElem? fun i => ?_
  by_cases hi : i < ds.length
  · have e1 : ks[i]? = some (ks[i]'(by rw [h.1]; exact hi)) := List.getElem?_eq_getElem _
    have e2 : ks'[i]? = some (ks'[i]'(by rw [h'.1]; exact hi)) := List.getElem?_eq_getElem _
    have a := h.2 i ds[i] _ (List.getElem?_eq_getElem hi) e1
    have b := h'.2 i ds[i] _ (List.getElem?_eq_getElem hi) e2
    rw [a] at b
    rw [e1, e2]
    injection b with b
    injection b with b _
    injection b with b
    rw [b]
  · rw [List.getElem?_eq_none (by rw [h.1]; omega), List.getElem?_eq_none (by rw [h'.1]; omega)]
theorem minKey_of {kb : FE} {N : Nat} {js : List Nat} {ρ : Rho} {μ : Mu} {ds ks : List D} {d : D} (h : KeysOf kb N js ρ μ ds ks) (ok : okMin ks = true) (hd : leastK ds ks = some d) : minKey kb N js ρ μ ds = .ok (.d d, μ) := by
  have hn : ds ≠ [] := fun e => by rw [e] at hd; unfold leastK at hd; simp at hd
  have hx : ∃ ks, KeysOf kb N js ρ μ ds ks ∧ okMin ks = true ∧ ds ≠ [] := ⟨ks, h, ok, hn⟩
  unfold minKey
  rw [dif_pos hx, keysOf_one hx.choose_spec.1 h, hd]
theorem minKey_inv {kb : FE} {N : Nat} {js : List Nat} {ρ : Rho} {μ : Mu} {ds : List D} : minKey kb N js ρ μ ds = .bad ∨ ∃ ks d, KeysOf kb N js ρ μ ds ks ∧ okMin ks = true ∧ ds ≠ [] ∧ leastK ds ks = some d ∧ minKey kb N js ρ μ ds = .ok (.d d, μ) := by
  by_cases hx : ∃ ks, KeysOf kb N js ρ μ ds ks ∧ okMin ks = true ∧ ds ≠ []
  · right
    obtain ⟨ks, h1, h2, h3⟩ := hx
    have hl : argBest (ltK ks) (ds.length - 1) < ds.length := by
      have := argBest_le (ltK ks) (ds.length - 1)
      have : 0 < ds.length := List.length_pos_iff.mpr h3
      omega
    exact ⟨ks, _, h1, h2, h3, List.getElem?_eq_getElem hl, minKey_of h1 h2 (List.getElem?_eq_getElem hl)⟩
  · left
    unfold minKey
    rw [dif_neg hx]

section
variable {X : Cx} {pins : List (Addr × Obj)} {σ : St} {H : Hp} {s : Shared} {h' : Heap}
/-- some objects of an iterator's turn -/
theorem Inv.turnedL {t' : Nat} {ch : List Addr} (I : Inv X pins σ H s) (k : ∀ b o, b ∉ ch → s.heap.get? b = some o → h'.get? b = some o) (hf : ∀ b ∈ ch, FpOk X pins H b) : Inv X pins σ H { s with heap := h', toks := t' } := by
  have nit : ∀ b u, H b = some u → b ∉ ch := fun b u e z => by rw [(hf b z).1] at e; cases e
  refine I.step (g' := s.gens) (d' := s.drawn) (ch := ch) (fun b hb => ?_) (fun b o _ _ hc e _ => k b o hc e) (fun b o _ _ hc e _ => ⟨o.slots, k b o hc e⟩) (fun _ _ _ _ n => n)
    (fun b o hc e => ⟨o, k b o hc e⟩) (fun _ _ e => e) (fun _ _ _ e => e) (fun b ps e => ⟨#[], by rw [e]; simp⟩) (fun m hm => ?_) (fun b u e => ?_) I.bare
  · obtain ⟨_, f1, _, f3, f4, f5⟩ := hf b hb
    exact ⟨f3, f1, f4, f5⟩
  · obtain ⟨o, es, ep, ho, r⟩ := hm
    exact ⟨o, es, ep, k _ o (fun z => (hf _ z).2.1 rfl) ho, r⟩
  · refine (I.hok b u e).stay (fun c v hc q => k c v ?_ q) (fun _ q => q) fun _ _ q => q
    rcases hc with z | z
    · rw [z]; exact nit b u e
    · exact nit c _ z
theorem fpAt {b : Addr} {H' : Hp} (f : FpOk X pins H b) (h : H' b = none) : FpOk X pins H' b := ⟨h, f.2⟩
theorem fpUnpin {b : Addr} {p : List (Addr × Obj)} (f : FpOk X (pins ++ p) H b) : FpOk X pins H b := ⟨f.1, f.2.1, f.2.2.1, f.2.2.2.1, f.2.2.2.2.1, fun q hq => f.2.2.2.2.2 q ((List.mem_append.mp hq).elim (fun z => List.mem_append_left _ z) fun z => List.mem_append_right _ (List.mem_append_left _ z))⟩
/-- one more is pinned -/
theorem Inv.pin1 {b : Addr} {o : Obj} (I : Inv X pins σ H s) (f : FpOk X pins H b) (ho : s.heap.get? b = some o) (hc : ∀ v, o.data ≠ .cell v) : Inv X (pins ++ [(b, o)]) σ H s :=
  I.pins_of fun p hp => (List.mem_append.mp hp).elim (fun z => I.pin p (List.mem_append_right _ z)) fun z => by
    have e : p = (b, o) := by simpa using z
    subst e
    exact ⟨ho, f.1, f.2.1, f.2.2.1, hc⟩
end
section
variable {Γ : Gm} {W : WX} {X : Cx} {lv : Nat} {pins : List (Addr × Obj)} {σ : St} {H : Hp} {s : Shared} {G : Gh} {μ : Mu} {ρ : Rho}
/-- two keys compared -/
theorem cmp_keys {A : Around} {u1 u2 : Value} {v1 v2 : V} {d1 d2 : D} {ks : List D} {i m : Nat} (hK : X.K = Γ.K) (hu : A.units + 62 < cLine) (I : Inv X pins σ H s) (R : Same G.F H) (ok : okMin ks = true) (r1 : RelV v1 u1) (r2 : RelV v2 u2) (h1 : Is Γ G.F v1 d1) (h2 : Is Γ G.F v2 d2) (e1 : ks[i]? = some d1) (e2 : ks[m]? = some d2)
    {Q : Value → Shared → Prop} {E : Value → Shared → Prop} (q : Q (.bool (ltK ks i m)) s) : wpAny (model X.prog X.w) A (richCompare .Lt u1 u2) Q E s := by
  have m1 := List.mem_of_getElem? e1
  have m2 := List.mem_of_getElem? e2
  obtain ⟨as, ra⟩ := py_reads hK I R (ds := [d1, d2]) (.cons r1 (.cons r2 .nil)) (IsL.cons h1 (IsL.cons h2 IsL.nil)) (fun d hd => by
    rcases List.mem_cons.mp hd with e | hd
    · rw [e]; exact (okMin_py ok m1).1
    · have e : d = d2 := by simpa using hd
      rw [e]; exact (okMin_py ok m2).1)
  have al := okMin_alike ok
  have mm : ∀ d ∈ [d1, d2].map pyOf, d ∈ ks.map pyOf := fun d hd => by
    have hd : d = pyOf d1 ∨ d = pyOf d2 := by simpa using hd
    rcases hd with e | e
    · rw [e]; exact List.mem_map_of_mem m1
    · rw [e]; exact List.mem_map_of_mem m2
  have al2 : AlikeAll ([d1, d2].map pyOf) := ⟨fun x hx y hy => al.1 x (mm x hx) y (mm y hy), fun x hx => al.2 x (mm x hx)⟩
  have hdk : PyData.depthAll (ks.map pyOf) ≤ 60 := by
    unfold okMin at ok
    rw [Bool.and_eq_true] at ok
    exact of_decide_eq_true ok.2
  have dep : ∀ {xs : List PyData} {x : PyData}, x ∈ xs → x.depth ≤ PyData.depthAll xs := by
    intro xs x hx
    induction xs with
    | nil => cases hx
    | cons y ys ih =>
      unfold PyData.depthAll
      rcases List.mem_cons.mp hx with e | e
      · rw [e]; exact Nat.le_max_left _ _
      · exact Nat.le_trans (ih e) (Nat.le_max_right _ _)
  have hd2 : PyData.depthAll ([d1, d2].map pyOf) ≤ 60 := by
    have a := dep (mm (pyOf d1) (by simp))
    have b := dep (mm (pyOf d2) (by simp))
    simp only [List.map_cons, List.map_nil, PyData.depthAll]
    omega
  refine cmpIn_lt (prog := X.prog) (w := X.w) (A := A) (vs := #[u1, u2]) (xs := [d1, d2].map pyOf) (by simpa using ra) al2 (by omega) 0 1 u1 u2 s Q E (fun _ _ e => e) rfl rfl ?_
  have e : ltK ks i m = dataLt (([d1, d2].map pyOf).getD 0 .none) (([d1, d2].map pyOf).getD 1 .none) := by
    unfold ltK
    rw [List.getD_eq_getElem?_getD, List.getD_eq_getElem?_getD, e1, e2]
    rfl
  rw [e] at q
  exact q
/-- min over what is walked, the lambda at f the key -/
theorem run_minK {k : Nat} {N fr : List Str} {a : Str} {js : List Nat} {params : Arguments} {body : Expr} {scope : Scope} {cl : List (Str × Addr)} {qual : Str} {f c' : Addr} {pm ctv : Value} {kb : FE} {Q : VK} {ds : List D} {x : Value} {P : Nat → Value → Prop} {St : Nat → Shared → Prop}
    (c : Cz Γ W X lv) (hlv : k + 2 ≤ lv) (I : Inv X pins σ H s) (R : Rep Γ G ρ μ σ H)
    (hf : s.heap.get? f = some (PySem.W.kla_obj "<lambda>" qual params body scope cl pm c' ctv)) (ff : FpOk X pins H f) (hc : H c' = some (LamX.CodeO c' qual)) (hca : c' ∉ G.al)
    (S : NScope N [a] fr scope) (C : Caps X cl fr js) (hbind : ∀ u : Value, bindArgs (PySem.W.kla_fn "<lambda>" qual params body scope cl pm (.ref c') ctv) ⟨[u], []⟩ = pure ([a].zip [u]))
    (hbody : ∀ (A : Around) (outer : List Env) (st : Shared) (H0 : Hp) (E : XK), Cz Γ WF (XL X.prog X.w Γ X.mg X.base N (lamF qual params scope cl c') f A outer st H0 E) k → PE (XL X.prog X.w Γ X.mg X.base N (lamF qual params scope cl c') f A outer st H0 E) body (tZ Γ WF kb))
    (hP : ∀ i v, P i v → ∃ u d, RelV u v ∧ ds[i]? = some d ∧ Is Γ G.F u d)
    (hit : ∃ h' : Heap, ∃ J : Addr, (∀ b o, s.heap.get? b = some o → h'.get? b = some o) ∧ s.heap.objs.size ≤ J ∧ J < h'.objs.size ∧ (∀ (Q : Value → Shared → Prop) (E : Value → Shared → Prop), Q (.ref J) { s with heap := h' } → wpAny (model X.prog X.w) X.A.in1 (pyIter x) Q E s) ∧ St 0 { s with heap := h' } ∧
      (∃ fp, (∀ b ∈ fp, b < h'.objs.size) ∧ WalksS X.prog X.w X.A.in1 J fp [J] (fun a b => b = a) ds.length P St) ∧
      (∀ i s, St i s → ∃ o, s.heap.get? J = some o ∧ ∀ v, o.data ≠ .cell v) ∧ ∀ (i : Nat) (s1 s2 : Shared) (H1 : Hp) (pins : List (Addr × Obj)), St i s1 → (∀ o, s1.heap.get? J = some o → s2.heap.get? J = some o) → Inv X pins σ H1 s2 → Same G.F H1 → St i s2)
    (q : Post Γ W G ρ σ H Q (minKey kb N.length js ρ μ ds)) (E : Value → Shared → Prop) :
    wpAny (model X.prog X.w) X.A (call (.builtin "min") [x] [(Str.ofString "key", .ref f)]) (EP X pins σ Q) E s := by
  rcases minKey_inv (kb := kb) (N := N.length) (js := js) (ρ := ρ) (μ := μ) (ds := ds) with e | ⟨ks, dm, hk, ok, hne, hm, e⟩
  · rw [e] at q; exact q.elim
  rw [e] at q
  obtain ⟨h', J, kp, hJ1, hJ2, hpy, st0, ⟨fp, hfp, Wk⟩, hobj, hkeep⟩ := hit
  have hn : 0 < ds.length := List.length_pos_iff.mpr hne
  let fo : Obj := PySem.W.kla_obj "<lambda>" qual params body scope cl pm c' ctv
  have I1 : Inv X pins σ H { s with heap := h' } := I.kept (t' := s.toks) kp
  have hfo : h'.get? f = some fo := kp _ _ hf
  have hnc : ∀ v, fo.data ≠ .cell v := fun v z => nomatch z
  have I0 := Inv.pin1 I ff hf hnc
  have I2 : Inv X (pins ++ [(f, fo)]) σ H { s with heap := h' } := I0.kept (t' := s.toks) kp
  let SS : Addr := h'.objs.size
  have fJ : FpOk X (pins ++ [(f, fo)]) H J := I0.fpOk hJ1 (I.hok.fresh hJ1)
  have fS : FpOk X (pins ++ [(f, fo)]) H SS := I2.fpOk (Nat.le_refl _) (I2.hok.fresh (Nat.le_refl _))
  let Good : Shared → Hp → Gh → Prop := fun s H' G' => Inv X (pins ++ [(f, fo)]) σ H' s ∧ Rep Γ G' ρ μ σ H' ∧ Step G H G' H' ∧ H' J = none ∧ H' SS = none
  have codeAt : ∀ {H' : Hp} {G' : Gh}, Step G H G' H' → H' c' = some (LamX.CodeO c' qual) := fun z => z.keep _ _ hc (fun ps => LamX.codeO_ne ps) hca
  have goodMoved : ∀ {s1 s2 : Shared} {H' : Hp} {G' : Gh}, Good s1 H' G' → Moved (SS :: [J]) (fun a b => b = a) s1 s2 → Good s2 H' G' := fun {s1 s2 H' G'} ⟨g1, g2, g3, g4, g5⟩ m => by
    rw [Moved.eq_with m]
    refine ⟨Inv.turnedL g1 (ch := SS :: [J]) (fun b o hb z => m.heap b o hb z) (fun b hb => ?_), g2, g3, g4, g5⟩
    rcases List.mem_cons.mp hb with z | z
    · rw [z]; exact fpAt fS g5
    · have z' : b = J := by simpa using z
      rw [z']; exact fpAt fJ g4
  have runKey : ∀ (i : Nat) (v : Value) (s1 : Shared) (o : Obj) (H1 : Hp) (G1 : Gh) (Q' : Value → Shared → Prop) (E' : Value → Shared → Prop), i < ds.length → P i v → Good s1 H1 G1 → St (i + 1) s1 → s1.heap.get? SS = some o → (∀ v, o.data ≠ .cell v) →
      (∀ kv s2 H2 G2 u d, Good s2 H2 G2 → Step G1 H1 G2 H2 → RelV u kv → ks[i]? = some d → Is Γ G2.F u d → St (i + 1) s2 → s2.heap.get? SS = some o → Q' kv s2) → wpAny (model X.prog X.w) X.A.in1 (call (.ref f) [v]) Q' E' s1 := by
    intro i v s1 o H1 G1 Q' E' hi hv ⟨g1, g2, g3, g4, g5⟩ hst hSo hoc hq
    obtain ⟨u0, d0, ru, ed, iu⟩ := hP i v hv
    obtain ⟨oJ, hoJ, hocJ⟩ := hobj _ _ hst
    have hki : i < ks.length := by rw [hk.1]; exact hi
    have P1 := Inv.pin1 g1 (fpAt fS g5) hSo hoc
    have neJS : SS ≠ J := fun z => by
      have z2 : J < SS := hJ2
      rw [z] at z2
      exact Nat.lt_irrefl _ z2
    have P2 := Inv.pin1 P1 (show FpOk X _ H1 J from ⟨g4, fJ.2.1, fJ.2.2.1, fJ.2.2.2.1, fJ.2.2.2.2.1, fun p hp => by
      rcases List.mem_append.mp hp with z | z
      · exact fJ.2.2.2.2.2 p (List.mem_append_left _ z)
      · rcases List.mem_append.mp z with z | z
        · exact fJ.2.2.2.2.2 p (List.mem_append_right _ z)
        · have z' : p = (SS, o) := by simpa using z
          rw [z']; exact neJS⟩) hoJ hocJ
    have hf1 : s1.heap.get? f = some fo := (g1.pin (f, fo) (by simp)).1
    refine wpAny_mono (run_lam (k := k) (as := [.d d0]) (vs := [u0]) (E := E') (Q := fun u H2 => ∃ G2 d, Step G1 H1 G2 H2 ∧ Rep Γ G2 ρ μ σ H2 ∧ ks[i]? = some d ∧ Is Γ G2.F u d) c.K ((c.room.mono hlv).in1) c.gd g1.ok.frames P2 g2 hf1 (codeAt g3) S C (hbind v) (.cons ru .nil) rfl
      (.cons (show VRel Γ G1 u0 (.d d0) from Is.mono g3.fz _ _ iu) .nil) hbody ?_) (fun kv s2 hz => ?_) fun _ _ z => z
    · rw [hk.2 i d0 ks[i] ed (List.getElem?_eq_getElem hki)]
      intro u G2 H2 st R2 r2
      exact ⟨G2, ks[i], st, g2.go st R2.toRepM, List.getElem?_eq_getElem hki, r2⟩
    · obtain ⟨u, H2, I3, ru2, G2, d, st, R2, ek, iu2⟩ := hz
      have pS := I3.pin (SS, o) (by simp)
      have pJ := I3.pin (J, oJ) (by simp)
      have gd : Good s2 H2 G2 := ⟨I3.pins_of fun p hp => I3.pin p (by
        rcases List.mem_append.mp hp with z | z
        · simp [z]
        · simp at z; simp [z]), R2, g3.trans st, pJ.2.1, pS.2.1⟩
      refine hq kv s2 H2 G2 u d gd st ru2 ek iu2 (hkeep _ s1 s2 H2 _ hst (fun o' ho' => ?_) I3 fun a o h => R2.sub _ _ ((g3.trans st).fz a o h)) pS.1
      rw [hoJ] at ho'
      cases ho'
      exact pJ.1
  refine call_minZ (hpy _ _ ⟨J, fp, [J], (fun a b => b = a), ds.length, P, St, (fun s => ∃ H' G', Good s H' G'), (fun m kv s => ∃ H' G' u d, Good s H' G' ∧ RelV u kv ∧ ks[m]? = some d ∧ Is Γ G'.F u d), ltK ks, rfl, Wk, st0, hfp, hn, fun s3 m => ⟨H, G, goodMoved ⟨I2, R, Step.refl G H, fJ.1, fS.1⟩ m⟩,
    ⟨fun s1 s2 ⟨H', G', g⟩ m => ⟨H', G', goodMoved g m⟩, fun m kv s1 s2 ⟨H', G', u, d, g, r, ek, iu⟩ mv => ⟨H', G', u, d, goodMoved g mv, r, ek, iu⟩, ?_, ?_⟩, ?_⟩)
  · intro v s1 o Q' E' _ hv ⟨H1, G1, g⟩ hst hSo hoc hq
    exact runKey 0 v s1 o H1 G1 Q' E' hn hv g hst hSo hoc fun kv s2 H2 G2 u d g2 _ ru ek iu hst2 hS2 => hq kv s2 ⟨H2, G2, u, d, g2, ru, ek, iu⟩ hst2 hS2
  · intro i v m kv0 s1 o Q' E' hi hm hv ⟨H1, G1, u1, d1, g, ru1, ek1, iu1⟩ hst hSo hoc hq
    refine runKey i v s1 o H1 G1 Q' E' hi hv g hst hSo hoc fun kv s2 H2 G2 u d g2 st ru ek iu hst2 hS2 => ?_
    have iu1' := Is.mono st.fz _ _ iu1
    refine hq kv s2 ⟨H2, G2, u1, d1, g2, ru1, ek1, iu1'⟩ ⟨H2, G2, u, d, g2, ru, ek, iu⟩ hst2 hS2 fun Q'' E'' hq2 => ?_
    exact cmp_keys c.K (by have := c.hu; show X.A.units + 1 + 62 < _; omega) g2.1 g2.2.1.sub ok ru ru1 iu iu1' ek ek1 hq2
  · intro v kv s1 hv ⟨H1, G1, u1, d1, ⟨g1, g2, g3, _, _⟩, _, _, _⟩
    obtain ⟨u, d, ru, ed, iu⟩ := hP _ _ hv
    have ed' : d = dm := by
      have hm' : ds[argBest (ltK ks) (ds.length - 1)]? = some dm := hm
      rw [ed] at hm'
      exact Option.some.inj hm'
    subst ed'
    exact ⟨u, H1, g1.pins_of fun p hp => g1.pin p (by simp [hp]), ru, q u G1 H1 g3 g2 (Is.mono g3.fz _ _ iu)⟩
end
end Zl
set_option Elab.async false
set_option linter.all false
set_option maxRecDepth 100000
set_option maxHeartbeats 4000000
namespace Zl
open PySem PySem.Spec L2 PySem.W
open PyProof.Rows hiding St
open NdefX

/-- the lambda's promise, of any place -/
def LamB (Γ : Gm) (X : Cx) (k : Nat) (N : List Str) (params : Arguments) (body : Expr) (scope : Scope) (kb : FE) : Prop :=
  ∀ (cl : List (Str × Addr)) (f c' : Addr) (A : Around) (outer : List Env) (st : Shared) (H0 : Hp) (E : XK), Cz Γ WF (XL X.prog X.w Γ X.mg X.base N (lamF (X.env.qual ++ "<lambda>") params scope cl c') f A outer st H0 E) k →
    PE (XL X.prog X.w Γ X.mg X.base N (lamF (X.env.qual ++ "<lambda>") params scope cl c') f A outer st H0 E) body (tZ Γ WF kb)
/-- the def's code object, its table -/
structure TabAt (Γ : Gm) (X : Cx) (c P : Addr) : Prop where
  tb : LamX.TabB X.base X.mg c P
  code : X.env.code = .ref c
  mem : (P, X.env.qual ++ "<lambda>") ∈ Γ.tb
  one : ∀ p ∈ Γ.tb, p.1 = P → p.2 = X.env.qual ++ "<lambda>"
structure LamN (X : Cx) (N : List Str) (y : Str) (fr : List Str) (js : List Nat) (params : Arguments) (scope : Scope) : Prop where
  sc : NScope N [y] fr scope
  free : ∀ y ∈ scope.names, y.2 = .free → X.env.scope.names.lookup y.1 = some .cell ∨ X.env.scope.names.lookup y.1 = some .free
  frk : ∀ y ∈ fr, (y, NameKind.free) ∈ scope.names
  jx : js.map (fun j => X.N[j]?) = fr.map some
  dfl : defaultsOf params X.env = ([], [])
  bind : ∀ (body : Expr) (q : Str) (cl : List (Str × Addr)) (pm cv ctv u : Value), bindArgs (PySem.W.kla_fn "<lambda>" q params body scope cl pm cv ctv) ⟨[u], []⟩ = pure [(y, u)]
section
variable {Γ : Gm} {W : WX} {X : Cx} {lv k : Nat} {a body : Expr} {t : FA} {fr N : List Str} {js : List Nat} {y : Str} {params : Arguments} {scope : Scope} {kb : FE} {cc Pt : Addr} {p p2 p3 lpos kpos pos : Pos}
theorem LamN.has (L : LamN X N y fr js params scope) (ok : X.Ok) : ∀ y ∈ scope.names, y.2 = .free → ∃ c, X.env.cells.lookup y.1 = some c := fun y hy e => (L.free y hy e).elim (fun z => ok.has _ (.inl z)) fun z => ok.has _ (.inr z)
theorem mem_rngD {lo : Int} {n i : Nat} (h : i < n) : (rngD lo n)[i]? = some (.int (lo + i)) := by
  unfold rngD
  rw [List.getElem?_map, List.getElem?_range h]
  rfl
theorem ze_minR (c : Cz Γ W X lv) (hlv : k + 2 ≤ lv) (hg : Gl X "min") (hm : X.mg "min" = none) (hgr : Gl X "range") (hmr : X.mg "range" = none) (ha : PA X [a] (tZA Γ W t)) (hs : starEach [a] X.env = [(false, eval a X.env)])
    (T : TabAt Γ X cc Pt) (L : LamN X N y fr js params scope) (B : LamB Γ X k N params body scope kb)
    (h1 : ∀ e : Expr, e = .Call (.Name "range" p2) [a] [] p3 → backTo pos (starEach [e] X.env) = (false, eval e X.env) :: backTo pos (starEach [] X.env)) (h2 : ∀ e : Expr, e = .Call (.Name "range" p2) [a] [] p3 → (backTo pos (starEach [e] X.env)).any (·.1) = false) :
    PE X (.Call (.Name "min" p) [.Call (.Name "range" p2) [a] [] p3] [⟨some "key", .Lambda params body scope lpos, kpos⟩] pos) (tZ Γ W (fMinK (fiRng1 t) kb N.length js)) := by
  refine ⟨fun pins s σ H Q I tt => ?_⟩
  obtain ⟨G, ρ, μ, R, q⟩ := tt
  refine wpAny_Call_Name_kw (ld_blt I hg hm PyProof.Rows.boot_min ?_ (by decide) (by decide))
  refine PyProof.Rows.callWith_kw ?_ (h1 _ rfl) (h2 _ rfl) rfl rfl
  rw [h1 _ rfl]
  refine Calls.spliced_cons ?_
  refine Call_ (ld_blt I hgr hmr boot_range (PyProof.Rows.callWith_type1 (thn (ha.run p3 pins s σ H (fun vs H1 => ∃ j : Int, ∃ G1 : Gh, ∃ μ1, vs = [.int j] ∧ -(2 ^ 62) ≤ j ∧ j < 2 ^ 62 ∧ Step G H G1 H1 ∧ Rep Γ G1 ρ μ1 σ H1 ∧ Post Γ W G1 ρ σ H1 Q (minKey kb N.length js ρ μ1 (rngD 0 j.toNat))) I ⟨G, ρ, μ, R, ?_⟩) fun us s1 ⟨vs, H1, I1, r1, j, G1, μ1, e, j1, j2, st1, R1, q1⟩ => ?_) hs rfl))
  · unfold fMinK fiRng1 at q
    cases hh : t ρ μ with
    | bad => rw [hh] at q; exact q.elim
    | ex er rr mm => rw [hh] at q; exact q
    | ok pr =>
      rw [hh] at q
      obtain ⟨as, μ1⟩ := pr
      intro us G1 H1 st1 R1 r1
      simp only [Zl.R.bind_ok] at q
      split at q
      · split at q
        · rename_i j hz
          cases r1 with
          | cons a b =>
            cases b
            exact ⟨j, G1, μ1, by rw [a.int_], hz.1, hz.2, st1, R1, Post.step st1 q⟩
        · exact q.elim
      · exact q.elim
  · subst e
    cases r1 with
    | cons r rr =>
      cases rr
      obtain ⟨tk, rfl⟩ := r
      refine call_range_1 ?_
      refine Calls.spliced_nil ?_
      have I2 : Inv X pins σ H1 { s1 with heap := s1.heap.push { cls := .type "range", data := .fields #[.int 0 s1.toks, .int j tk, .int 1 (s1.toks + 1)] }, toks := s1.toks + 1 + 1 } := I1.kept fun b o e => Heap.get?_push_of_some _ e
      have hR : (s1.heap.push { cls := .type "range", data := .fields #[.int 0 s1.toks, .int j tk, .int 1 (s1.toks + 1)] }).get? s1.heap.objs.size = some { cls := .type "range", data := .fields #[.int 0 s1.toks, .int j tk, .int 1 (s1.toks + 1)] } := Heap.get?_push_size _ rfl
      have I3 := Inv.pin1 I2 (I1.fpOk (Nat.le_refl _) (I1.hok.fresh (Nat.le_refl _))) hR (fun v z => nomatch z)
      show wpAny _ _ (evalAll ((do let v ← eval (.Lambda params body scope lpos) X.env; standAt pos; pure v) :: (backToKw pos (keywordEach [] X.env)).map (·.2))) _ _ _
      refine wpAny_evalAll_cons (wpAny_bind (lam_makeZ I3 R1.toRepM T.tb T.code T.mem T.one L.dfl (L.has I.ok) fun f c' pm ctv H2 s2 I4 st2 R2 hf ff hc hca _ => ?_))
      refine wpAny_bind (wpAny_standAt (wpAny_pure ?_))
      refine wpAny_evalAll_nil ?_
      have hR2 := (I4.pin (s1.heap.objs.size, { cls := .type "range", data := .fields #[.int 0 s1.toks, .int j tk, .int 1 (s1.toks + 1)] }) (by simp)).1
      have done := run_minK (Q := Q) (E := X.xe) (x := .ref s1.heap.objs.size) (ds := rngD 0 j.toNat) (P := fun i v => i < j.toNat ∧ ∃ t, v = .int ((0 : Int) + i * 1) t) (St := fun i s => IsRangeIter s.heap s2.heap.objs.size ((0 : Int) + (i : Nat) * 1) ((j.toNat : Int) - (i : Nat)) 1)
        c hlv I4 (R1.go st2 R2) hf ff hc hca L.sc (Caps.made I.ok L.free L.frk L.jx) (fun u => L.bind body _ _ _ _ _ u) (B _ f c') ?_ ?_ (Post.step st2 q1)
      · refine wpAny_mono done (fun u s3 hz => ?_) fun _ _ z => z
        obtain ⟨v, H3, I5, rv, qv⟩ := hz
        exact ⟨v, H3, I5.unpinned, rv, qv⟩
      · rintro i v ⟨hi, t, rfl⟩
        exact ⟨.int ((0 : Int) + i * 1), .int ((0 : Int) + i), ⟨t, rfl⟩, mem_rngD hi, by unfold Is; rw [Int.mul_one]⟩
      · have hs1 : Builtin.Range.small 0 j 1 = true := small_one (by omega) (by omega) j1 j2
        have W0 := Walks.range (prog := X.prog) (w := X.w) (A := X.A.in1) (I4.ok.hd c.calm) s2.heap.objs.size 0 1 j.toNat
        refine ⟨s2.heap.push { cls := .type "range_iterator", data := .fields #[rawInt 0, rawInt (Builtin.Range.rangeSize 0 j 1), rawInt 1] }, s2.heap.objs.size, fun b o e => Heap.get?_push_of_some _ e, Nat.le_refl _, by rw [PyProof.Rows.size_push']; exact Nat.lt_succ_self _, fun Q E hq => wpAny_pyIter_range (s := s2) hR2 hs1 hq, ?_, ⟨[s2.heap.objs.size], fun b hb => ?_, ?_⟩, fun i s st => ⟨_, st, fun v z => nomatch z⟩, fun i s1 s2 H1 pins st kp _ _ => kp _ st⟩
        · show IsRangeIter _ _ ((0 : Int) + ((0 : Nat) : Int) * 1) ((j.toNat : Int) - ((0 : Nat) : Int)) 1
          have e1 : (0 : Int) + ((0 : Nat) : Int) * 1 = 0 := by simp
          have e2 : ((j.toNat : Nat) : Int) - ((0 : Nat) : Int) = Builtin.Range.rangeSize 0 j 1 := by rw [rangeSize_one]; split <;> omega
          rw [e1, e2]
          exact Heap.get?_push_size _ rfl
        · have e : b = s2.heap.objs.size := by simpa using hb
          rw [e, PyProof.Rows.size_push']
          exact Nat.lt_succ_self _
        · have hlen : (rngD 0 j.toNat).length = j.toNat := by simp [rngD]
          rw [hlen]
          have WS := W0.toS
          exact ⟨WS.sub, WS.grefl, WS.gtrans, WS.frame, fun i s Q E hi st hq => WS.item i s Q E hi st fun v s' hv => hq v s' ⟨hi, hv⟩, WS.done, WS.self⟩
end
end Zl
set_option Elab.async false
set_option linter.all false
set_option maxRecDepth 100000
set_option maxHeartbeats 4000000
namespace Zl
open PySem PySem.Spec L2 PySem.W
open PyProof.Rows hiding St

/-! ## defs that make lambdas -/
section
variable {P : Program} {w : World} {K : PySem.W.Frag} {mg : Str → Option Value} {base : Heap} {x qual : Str} {params : Arguments} {body : List Stmt} {scope : Scope} {dvs : List V} {kws : List (Str × V)} {f : Addr} {fd : FuncData}
theorem fng_ofT {N ps : List Str} {k : Nat} {sp : Sp} (F : FunD K x qual params body scope dvs kws f fd) (S : FnScope N ps scope) (len : ∀ vs H Q E, sp vs H Q E → vs.length = ps.length)
    (hb : ∀ (cdv : Value), (∀ p, He.fAd K p = f → cdv = .ref (He.codeOf K p)) → ∀ (A : Around) (outer : List Env) (s : Shared) (H : Hp) (vs : List V) (Q : VK) (E : XK), Room k (A.deeper (envOfC qual scope s.heap.objs.size f cdv)) → A.guards = some [] → sp vs H Q E →
      ∃ t, PSs (cxOf (L2.CX P w) P w K mg base N qual scope f cdv A outer s H E) body t ∧ t { nx := fun _ H' => Q .non H', rt := Q } (L2.start N vs) H) : FnG P w K mg base (k + 1) f fd ps sp := by
  obtain ⟨oc, od, dV, kV, doc, pm, an, cdv, ct, osl, rfl, lk, hcd, _, _⟩ := F.ex
  have hcv : ∀ p, He.fAd K p = f → cdv = .ref (He.codeOf K p) := fun p e => by
    obtain ⟨c, ec⟩ := He.codeIn_ref hcd
    rw [He.codeOf_eq (c := c) (by rw [e]; exact lk) ec]
    exact ec
  refine ⟨len, fun A outer s H args us vs Q E hr hg e0 bnd r hsp => ?_⟩
  have KX : K.In s.heap := e0.mod.kin.keeps fun b o e => (e0.bs b o e).1
  have lim : s.heap.NoLimit := e0.mod.nolimit.keeps fun b o e => (e0.bs b o e).1
  refine codeAny_call_function hr.depth (KX _ _ lk) rfl S.co S.gen rfl (PySem.W.codeRec_of KX hcd) (bnd _ _ _ _ ?_)
  refine wpAny_newFunctionEnv_cells S.kind (fun y hy => ?_) fun env he s1 z => ?_
  · rcases S.par y.1 (List.of_mem_zip (a := y.1) (b := y.2) hy).1 with q | q
    · exact Or.inl q
    · exact Or.inr ⟨q, PySem.W.cellsFrom_some _ _ _ (Or.inl q)⟩
  · subst he
    refine ⟨lim.keeps z.toInCall.keep, codeAny_func ?_⟩
    obtain ⟨t, ht, hq⟩ := hb cdv hcv A outer s H vs Q E (hr.deeper _) hg hsp
    refine wpAny_mono (ht.run [] s1 (L2.start N vs) H _ (inv_start S hr.hd e0 (len _ _ _ _ hsp) r z) hq) (fun fl s' out => ?_) fun e s' out => out
    cases fl with
    | ret u => obtain ⟨v, σ', H', J, rv, q⟩ := out; exact ⟨v, H', J.os, J.bare, J.base, J.hok, rv, q⟩
    | next => obtain ⟨σ', H', J, q⟩ := out; exact ⟨V.non, H', J.os, J.bare, J.base, J.hok, rfl, q⟩
    | brk => obtain ⟨_, _, _, q⟩ := out; exact q.elim
    | cont => obtain ⟨_, _, _, q⟩ := out; exact q.elim
end
section
variable {P : Program} {w : World} {Γ : Gm} {mg : Str → Option Value} {base : Heap}
/-- .. of a def that makes lambdas -/
theorem fn_okT {x qual : Str} {params : Arguments} {body : List Stmt} {scope : Scope} {dvs : List V} {kws : List (Str × V)} {f : Addr} {fd : FuncData} {N ps : List Str} {k : Nat} {s : FS}
    (F : FunD Γ.K x qual params body scope dvs kws f fd) (S : FnScope N ps scope)
    (hb : ∀ (W : WX) (cdv : Value), (∀ p, He.fAd Γ.K p = f → cdv = .ref (He.codeOf Γ.K p)) → ∀ (A : Around) (outer : List Env) (st : Shared) (H : Hp) (E : XK), Cz Γ W (XC P w Γ mg base N qual scope f cdv A outer st H E) k → PassesOwn (model P w) (XC P w Γ mg base N qual scope f cdv A outer st H E).A (XC P w Γ mg base N qual scope f cdv A outer st H E).env (XC P w Γ mg base N qual scope f cdv A outer st H E).xe → PSs (XC P w Γ mg base N qual scope f cdv A outer st H E) body (tZS Γ W s)) :
    FnG P w Γ.K mg base (k + 1) f fd ps (spZ Γ ps.length (fBody N.length s)) := by
  refine fng_ofT F S (fun vs H Q E h => h.1) fun cdv hcv A outer st H vs Q E hr hgd h => ?_
  obtain ⟨hl, G, μ, as, R, r, p⟩ := h
  have hpl : ps.length ≤ N.length := by have := congrArg List.length S.pre; rw [List.length_take] at this; omega
  let X := cxOf (L2.CX P w) P w Γ.K mg base N qual scope f cdv A outer st H E
  have tk : Takes X (fun cls d _ H => E cls d H) := takes_of rfl rfl rfl rfl
  have po : PassesOwn (model X.prog X.w) X.A X.env X.xe := passes_of rfl
  refine ⟨tZS Γ (fun cls d _ H => E cls d H) s, hb _ cdv hcv A outer st H E ⟨rfl, S.nd, rfl, hr, hgd, tk⟩ po, ?_⟩
  have R1 := R.pushTop
  have R2 : Rep Γ (G.push μ.length) (startR μ.length N.length as) μ (start N vs) H := by
    refine start_rep R1 ?_ List.mem_cons_self (fun t ht => ?_) (by rw [hl]; exact hpl)
    · exact Paired.imp (fun u v h => by cases v <;> exact h) r
    · rcases List.mem_cons.mp ht with e | e
      · rw [e]; exact Nat.le_refl _
      · exact (R.clo t e).1
  refine ⟨G.push μ.length, startR μ.length N.length as, μ, R2, ?_⟩
  have fin : ∀ {G' : Gh} {μ' : Mu} {H' : Hp}, Step (G.push μ.length) H G' H' → RepM Γ G' μ' H' → Step G H (G'.close H' μ.length G.ts) H' ∧ RepM Γ (G'.close H' μ.length G.ts) (μ'.take μ.length) H' := fun {G' μ' H'} st R' => by
    obtain ⟨ts, e, st2⟩ := st.push
    have ets : ts = G.ts := by
      have := st.ts
      rw [e] at this
      exact (List.cons.inj this).2
    have R2' : RepM Γ ⟨G'.F, G'.al, ts⟩ μ' H' := ⟨R'.sub, R'.len, R'.nd, fun k a c e1 e2 => CRel.mono (G := G') (G' := ⟨G'.F, G'.al, ts⟩) (fun _ _ h => h) (fun n => n) ⟨[], by simp⟩ rfl (R'.cells k a c e1 e2), R'.there, fun t ht => R'.clo t (by rw [e]; exact List.mem_cons_of_mem _ (show t ∈ ts from ht)), R'.tabs.go (fun _ _ e _ _ => e) (fun _ _ _ _ _ h => h) fun _ z => .inl z⟩
    have s3 := Step.trunc R2' st2 ets
    have ec : ∀ t, Gh.close ⟨G'.F, G'.al, ts⟩ H' t ts = G'.close H' t G.ts := fun t => by rw [ets]; rfl
    rw [ec, R.len] at s3
    refine ⟨s3, R'.trunc (by rw [e]; exact List.mem_cons_self) G.ts fun s hs => ⟨by rw [e, ets]; exact List.mem_cons_of_mem _ hs, (R.clo s hs).1⟩⟩
  unfold fBody at p
  cases e : s (startR μ.length N.length as) μ with
  | bad => rw [e] at p; exact p
  | ex er rr m =>
    rw [e] at p
    intro cls dx G' σ' H' st R' er'
    obtain ⟨s3, R3⟩ := fin st R'.toRepM
    exact p cls dx _ H' s3 R3 (ErrRel.close R'.toRepM er')
  | ok q =>
    rw [e] at p
    intro G' σ' H' st R'
    obtain ⟨s3, R3⟩ := fin st R'.toRepM
    obtain ⟨fl, ρ', μ'⟩ := q
    cases fl with
    | nx => exact p .non _ H' s3 R3 (by show Is Γ _ _ _; unfold Is; rfl)
    | rt v =>
      intro u hu
      simp only at p
      cases ec : closeV μ.length μ' v with
      | none => simp only [ec] at p; exact p.elim
      | some v' =>
        simp only [ec] at p
        refine p u _ H' s3 R3 ?_
        cases v with
        | d x => cases ec; exact Is.mono (close_same R'.toRepM _ _).1 _ _ hu
        | own j =>
          have ec : (if j < μ.length then some (Val.own j) else (treeV 40 μ.length μ' (.own j)).map .d) = some v' := ec
          by_cases hj : j < μ.length
          · rw [if_pos hj] at ec
            cases ec
            obtain ⟨a, ha, ea⟩ := hu
            exact ⟨a, by show (G'.al.take μ.length)[j]? = _; rw [List.getElem?_take_of_lt hj]; exact ha, ea⟩
          · rw [if_neg hj] at ec
            cases et : treeV 40 μ.length μ' (.own j) with
            | none => rw [et] at ec; cases ec
            | some d => rw [et] at ec; cases ec; exact tree_ok R'.toRepM _ _ 40 u (.own j) d hu et
    | bk => exact p.elim
    | ct => exact p.elim
end

/-! ## what the head tells, tables left out -/
structure SaysZT (fa : List He.Fa) (fn : List He5.DefA) (pr : List (Str × Str)) (tf : List He.Defn) (ex : Frag → Bool) (h : Heap) (K : Frag) : Prop where
  z : SaysZ fa fn pr K
  hd : ∀ p ∈ tf, PySem.W.codeHdIn K (He.cT K p).1 (He.cT K p).2 = true
  out : ∀ p ∈ tf, K.lookup (He.cT K p).2 = none
  empty : ∀ p ∈ tf, h.get? (He.cT K p).2 = some { cls := .none, data := .fields #[] }
  nd : (tf.map fun p => (He.cT K p).2).Nodup
  more : ex K = true
abbrev AlZT : Type := AlZ × Bool
def obsZT (n : Nat) (fa : List He.Fa) (fn : List He5.DefA) (pr : List (Str × Str)) (tf : List He.Defn) (ex : Frag → Bool) (g : Addr → Option Obj) : AlZT := (obsZ fa fn pr (He.frT g (He5.asA g n)), He.tabsB g tf (He.frT g (He5.asA g n)) && (decide (tf.map fun p => (He.cT (He.frT g (He5.asA g n)) p).2).Nodup && ex (He.frT g (He5.asA g n))))
theorem saysZT_of {n : Nat} {fa : List He.Fa} {fn : List He5.DefA} {pr : List (Str × Str)} {tf : List He.Defn} {ex : Frag → Bool} {h : Heap} (e : obsZT n fa fn pr tf ex h.get? = (valZ fn, true)) : SaysZT fa fn pr tf ex h (He.frT h.get? (He5.asA h.get? n)) := by
  have e1 : obsZ fa fn pr (He.frT h.get? (He5.asA h.get? n)) = valZ fn := congrArg (fun z : AlZT => z.1) e
  obtain ⟨h2, hnd⟩ := He.ba (congrArg (fun z : AlZT => z.2) e : (He.tabsB h.get? tf (He.frT h.get? (He5.asA h.get? n)) && (decide (tf.map fun p => (He.cT (He.frT h.get? (He5.asA h.get? n)) p).2).Nodup && ex (He.frT h.get? (He5.asA h.get? n)))) = true)
  obtain ⟨hnd, hmo⟩ := He.ba hnd
  have key : ∀ p ∈ tf, PySem.W.codeHdIn (He.frT h.get? (He5.asA h.get? n)) (He.cT (He.frT h.get? (He5.asA h.get? n)) p).1 (He.cT (He.frT h.get? (He5.asA h.get? n)) p).2 = true ∧ ∃ o, h.get? (He.cT (He.frT h.get? (He5.asA h.get? n)) p).2 = some o ∧ He.emptyTab o = true := fun p hp => by
    obtain ⟨h3, h4⟩ := He.ba (List.all_eq_true.mp h2 p hp)
    refine ⟨h3, ?_⟩
    cases q : h.get? (He.cT (He.frT h.get? (He5.asA h.get? n)) p).2 with
    | none =>
      rw [q] at h4
      cases h4
    | some o =>
      rw [q] at h4
      exact ⟨o, rfl, h4⟩
  exact ⟨saysZ_of e1, fun p hp => (key p hp).1, fun p hp => by
    obtain ⟨_, o, q, z⟩ := key p hp
    exact He.frT_none q z, fun p hp => by
    obtain ⟨_, o, q, z⟩ := key p hp
    rw [q, He.emptyTab_eq z], of_decide_eq_true hnd, hmo⟩
def hookZT (n : Nat) (fa : List He.Fa) (fn : List He5.DefA) (pr : List (Str × Str)) (tf : List He.Defn) (ex : Frag → Bool) : PySem.W.Hook where
  α := AlZT
  obs := fun s => obsZT n fa fn pr tf ex s.heap.get?
  val := fun _ => (valZ fn, true)
  says := fun _ h => ∃ K : Frag, K.In h ∧ SaysZT fa fn pr tf ex h K
  of := fun _ _ e => ⟨_, He.frT_in, saysZT_of e⟩
  keeps := fun _ _ _ ⟨K, hK, c⟩ k => ⟨K, Frag.In.keeps hK k, ⟨c.z, c.hd, c.out, fun p hp => k _ _ (c.empty p hp), c.nd, c.more⟩⟩
theorem obsZT_eq {n : Nat} {fa : List He.Fa} {fn : List He5.DefA} {pr : List (Str × Str)} {tf : List He.Defn} {ex : Frag → Bool} {g : Addr → Option Obj} {s : Shared} (h : ∀ a, g a = s.heap.get? a) : obsZT n fa fn pr tf ex g = (hookZT n fa fn pr tf ex).obs s := by
  have e : g = s.heap.get? := funext h
  rw [e]
  rfl
end Zl
set_option Elab.async false
set_option linter.all false
set_option maxRecDepth 100000
set_option maxHeartbeats 4000000
namespace Zl
open PySem PySem.Spec L2 PySem.W
open PyProof.Rows hiding St

/-! ## the law's end where defs hold tables -/
abbrev tabE : Obj := { cls := .none, data := .fields #[] }
/-- the script, if it is tracked, and the tables -/
def oneT (at_ : Addr) (b : Bool) (ob : Obj) (xs : List V) (ts : List Addr) : Hp := fun c => if c = at_ ∧ b = true then some (.frz ob (.lst xs)) else if c ∈ ts then some (.tbl #[]) else none
theorem oneT_yes {at_ c : Addr} {b : Bool} {ob : Obj} {xs : List V} {ts : List Addr} {u : HO} (h : oneT at_ b ob xs ts c = some u) : (c = at_ ∧ b = true ∧ u = .frz ob (.lst xs)) ∨ (c ∈ ts ∧ u = .tbl #[]) := by
  unfold oneT at h
  split at h
  · rename_i z; cases h; exact .inl ⟨z.1, z.2, rfl⟩
  · split at h
    · rename_i z; cases h; exact .inr ⟨z, rfl⟩
    · cases h
section
variable {P : Program} {w : World} {K : PySem.W.Frag} {mg mb : Str → Option Value} {k : Nat} {fa a : Addr} {fd : FuncData} {x : Str} {sp : Sp} {sh : Shared} {vs : List Value} {ns : List Int} {cs : List (Addr × Addr)}
theorem law_callGT (kin : K.In sh.heap) (gl : sh.heap.Ns mainGlobals mg) (bl : sh.heap.Ns builtinsNs mb) (bbl : ∀ x : Str, x ≠ "__name__" → mb x = bootBuiltins x) (lim : sh.heap.NoLimit) (gens : sh.gens = #[])
    (bmain : ∃ (bm : Addr) (ob : Obj), mg "__builtins__" = some (.ref bm) ∧ bm ≠ builtinsNs ∧ sh.heap.get? bm = some ob ∧ ob.cls = .type "module" ∧ ob.dict = some builtinsNs ∧ ob.data = .plain)
    (tabs : ∀ p ∈ cs, sh.heap.get? p.2 = some tabE) (tout : ∀ p ∈ cs, K.lookup p.2 = none) (codes : ∀ p ∈ cs, PySem.W.CodeHd sh.heap p.1 p.2)
    (obj : sh.heap.get? a = some { cls := .type "list", data := .seq vs.toArray }) (its0 : IntsAre vs ns) (small : ns.length ≤ sizeLine) (room : Room k callerA)
    (F : ∀ base : Heap, K.In base → base.Ns mainGlobals mg → (∀ p ∈ cs, LamX.TabB base mg p.1 p.2) → FnG P w K mg base k fa fd [x] sp) (bnd : ∀ (s : Shared) (u : Value), BindsTo s fd ⟨[u], []⟩ [(x, u)])
    (prom : ∀ H : Hp, (∀ p ∈ cs, H p.2 = some (.tbl #[])) → SqL K H a (ns.map V.int) → sp [.ref a] H (fun v _ => v = .bl true) fun _ _ _ => False) :
    codeAny (model P w) callerA (.call (.ref fa) ⟨[.ref a], []⟩) (fun r s' => r = .ok (.ret (.bool true)) ∧ OldK sh.heap s'.heap ∧ s'.os = sh.os ∧ AllBare s'.gens) sh := by
  have rel := vals_ints its0
  let ts := cs.map (·.2)
  have isE : ∀ c ∈ ts, sh.heap.get? c = some tabE := fun c hc => by
    obtain ⟨p, hp, e⟩ := List.mem_map.mp hc
    rw [← e]; exact tabs p hp
  have na : a ∉ ts := fun z => by
    have q := isE a z
    rw [obj] at q
    exact nomatch (congrArg Obj.data (Option.some.inj q) : Data.seq vs.toArray _ = Data.fields #[])
  have memT : ∀ p ∈ cs, p.2 ∈ ts := fun p hp => List.mem_map.mpr ⟨p, hp, rfl⟩
  have key : ∀ (b : Bool), (b = true → K.lookup a = none) → SqL K (oneT a b { cls := .type "list", data := .seq vs.toArray } (ns.map V.int) ts) a (ns.map V.int) →
      codeAny (model P w) callerA (.call (.ref fa) ⟨[.ref a], []⟩) (fun r s' => r = .ok (.ret (.bool true)) ∧ OldK sh.heap s'.heap ∧ s'.os = sh.os ∧ AllBare s'.gens) sh := by
    intro b hb sq
    generalize hH : oneT a b { cls := .type "list", data := .seq vs.toArray } (ns.map V.int) ts = H at sq
    have yes : ∀ {c : Addr} {u : HO}, H c = some u → (c = a ∧ b = true ∧ u = .frz { cls := .type "list", data := .seq vs.toArray } (.lst (ns.map V.int))) ∨ (c ∈ ts ∧ u = .tbl #[]) := fun h => oneT_yes (by rw [hH]; exact h)
    have atT : ∀ p ∈ cs, H p.2 = some (.tbl #[]) := fun p hp => by
      rw [← hH]
      unfold oneT
      rw [if_neg (fun z => na (by rw [← z.1]; exact memT p hp)), if_pos (memT p hp)]
    have hok : HOk P w H sh.heap := fun c u q => by
      rcases yes q with ⟨e1, e2, e3⟩ | ⟨e1, e2⟩
      · subst e1 e3
        exact ⟨obj, by rw [List.length_map]; exact small, vs, _, rel, obj⟩
      · subst e2
        exact isE c e1
    -- what is no list and no table is not tracked
    have free : ∀ {c : Addr} {ob : Obj}, sh.heap.get? c = some ob → (∀ vs n, ob.data ≠ .seq vs n) → ob.data ≠ .fields #[] → H c = none := fun {c ob} q n1 n2 => by
      rcases ho : H c with _ | u
      · rfl
      · rcases yes ho with ⟨e1, _, _⟩ | ⟨e1, _⟩
        · subst e1
          rw [obj] at q
          cases q
          exact absurd rfl (n1 _ _)
        · rw [isE c e1] at q
          cases q
          exact absurd rfl n2
    have hid : ∀ {c : Addr} {ob : Obj}, sh.heap.get? c = some ob → H c = none → (hidT sh.heap H).get? c = some ob := fun q z => hidT_get q z
    have dfree : ∀ {c : Addr} {ob : Obj} {es : Array DictEntry} {ep : Nat}, sh.heap.get? c = some ob → ob.data = .dict es ep → H c = none := fun q d => free q (fun _ _ z => by rw [d] at z; cases z) (fun z => by rw [d] at z; cases z)
    have nss : ∀ {c : Addr} {m : Str → Option Value}, sh.heap.Ns c m → (hidT sh.heap H).Ns c m := fun {c m} q => by
      obtain ⟨ob, es, ep, q1, q2, q3⟩ := q
      exact ⟨ob, es, ep, hid q1 (dfree q1 q2), q2, q3⟩
    have kin2 : K.In (hidT sh.heap H) := by
      intro c ob q
      refine hid (kin c ob q) ?_
      rcases ho : H c with _ | u
      · rfl
      · rcases yes ho with ⟨e1, e2, _⟩ | ⟨e1, _⟩
        · subst e1
          rw [hb e2] at q
          cases q
        · obtain ⟨p, hp, e⟩ := List.mem_map.mp e1
          have n := tout p hp
          rw [e, q] at n
          cases n
    have mgN : ∀ {c : Addr} {ob : Obj}, sh.heap.get? c = some ob → (∀ es ep, ob.data ≠ .dict es ep) → c ≠ mainGlobals := fun {c ob} q n z => by
      obtain ⟨o, es, ep, e, hd, _⟩ := gl
      rw [z, e] at q
      cases q
      exact n _ _ hd
    have TB : ∀ p ∈ cs, LamX.TabB (hidT sh.heap H) mg p.1 p.2 := fun p hp => by
      refine ⟨?_, ?_, fun z => mgN (tabs p hp) (fun _ _ => nofun) z.symm⟩
      · obtain ⟨o, us, f1, f2, f3, f4, f5, f6, f7, g1, g2, g3, g4, g5⟩ := codes p hp
        refine ⟨o, us, f1, f2, f3, f4, f5, f6, f7, hid g1 (free g1 (fun _ _ z => by rw [g3] at z; cases z) fun z => ?_), g2, g3, g4, g5⟩
        rw [g3] at z
        have z2 : us = #[] := by injection z
        rw [z2] at g4
        simp at g4
      · obtain ⟨bm, ob, b1, b2, b3, b4, b5, b6⟩ := bmain
        refine ⟨bm, ob, b1, b2, mgN b3 (fun _ _ z => by rw [b6] at z; cases z), fun z => ?_, hid b3 (free b3 (fun _ _ z => by rw [b6] at z; cases z) fun z => by rw [b6] at z; cases z), b4, b5, b6⟩
        rw [z, tabs p hp] at b3
        cases b3
        cases b6
    have e0 : Env0 P w K mg (hidT sh.heap H) callerA [] sh H := by
      refine ⟨rfl, ⟨kin2, nss gl, ⟨mb, nss bl, bbl⟩, ?_⟩, fun c ob q => of_hidT q, Nat.le_of_eq (hidT_size _ _), trivial, fun c hc => absurd (show c ∈ ([] : List Addr) from hc) (by simp), hok, AllBare.of_eq gens⟩
      obtain ⟨mc, l1, l2⟩ := lim
      exact ⟨mc, nss l1, l2⟩
    refine codeAny_mono ((F _ kin2 (nss gl) TB).run callerA [] sh H ⟨[.ref a], []⟩ [.ref a] [.ref a] (fun v _ => v = .bl true) (fun _ _ _ => False) room rfl e0 (bnd sh (.ref a)) (.cons rfl .nil) (prom H atT sq)) fun r s' out => ?_
    rcases r with er | fl
    · obtain ⟨_, _, _, _, _, _, _, _, _, _, _, _, z⟩ := (show L2.CX P w [] H sh (fun _ _ _ => False) er s' from out)
      exact z.elim
    · cases fl with
      | next => exact out.elim
      | brk => exact out.elim
      | cont => exact out.elim
      | ret u =>
        obtain ⟨v, H', hos, hbare, un, hok', rv, ev⟩ := out
        have ev : v = .bl true := ev
        subst ev
        obtain rfl : u = Value.bool true := rv
        have same : ∀ c ob, c ∉ ts → sh.heap.get? c = some ob → s'.heap.get? c = some ob := fun c ob n q => by
          rcases ho : H c with _ | u
          · exact un.keep c ob q ho (fun z => absurd (show c ∈ ([] : List Addr) from z) (by simp)) (by simp)
          · rcases yes ho with ⟨_, _, e3⟩ | ⟨e1, _⟩
            · subst e3
              obtain ⟨g1, _⟩ := hok c _ ho
              obtain ⟨g2, _⟩ := hok' c _ (un.frzs c _ _ ho)
              rw [q] at g1
              cases g1
              exact g2
            · exact absurd e1 n
        have grown : ∀ p ∈ cs, ∃ more : Array Value, s'.heap.get? p.2 = some { cls := .none, data := .fields (#[] ++ more) } := fun p hp => by
          obtain ⟨more, z⟩ := un.tbls p.2 #[] (atT p hp)
          exact ⟨more, hok' p.2 _ z⟩
        refine ⟨rfl, ⟨fun c ob q => ?_, fun c ob q => ?_⟩, hos, hbare⟩
        · by_cases hc : c ∈ ts
          · obtain ⟨p, hp, e⟩ := List.mem_map.mp hc
            obtain ⟨more, hm⟩ := grown p hp
            rw [← e, tabs p hp] at q
            cases q
            rw [← e]
            exact .inr (.inl ⟨((codes p hp).tab (tabs p hp)).isCodeTable, rfl, #[], more, rfl, hm⟩)
          · exact .inl (same c ob hc q)
        · by_cases hc : c ∈ ts
          · obtain ⟨p, hp, e⟩ := List.mem_map.mp hc
            obtain ⟨more, hm⟩ := grown p hp
            rw [← e]
            exact ⟨_, hm⟩
          · exact ⟨ob, same c ob hc q⟩
  cases hk : K.lookup a with
  | some ob =>
    have q := kin a ob hk
    rw [obj] at q
    cases q
    exact key false (fun z => nomatch z) (.inr ⟨_, vs.toArray, _, hk, rfl, rfl, rfl, by rw [List.size_toArray, its0.length]; exact small, by simpa using rel⟩)
  | none => exact key true (fun _ => hk) (.inl (.inr ⟨_, if_pos ⟨rfl, rfl⟩⟩))
end
/-- .. for the law's row -/
theorem walk_ofGT {l : PySem.W.OpenLaw} {n k : Nat} {q : Program} {loose : List Str} {XP : (Str → Option Value) → Heap → Prop} {YP : World → Heap → Prop} {d : DefRec} {x : Str}
    (hn : l.most = some n) (hn2 : n ≤ sizeLine) (hdf : d.params.defaults = []) (room : Room k callerA)
    (F : ∀ (w : World) (mg : Str → Option Value) (fa : Addr) (h : Heap), YP w h → h.Ns mainGlobals mg → mg d.name = some (.ref fa) →
      ∃ (K : PySem.W.Frag) (fd : FuncData) (sp : Sp) (cs : List (Addr × Addr)), K.In h ∧ (∀ p ∈ cs, h.get? p.2 = some tabE) ∧ (∀ p ∈ cs, K.lookup p.2 = none) ∧ (∀ p ∈ cs, PySem.W.CodeHd h p.1 p.2) ∧ (∀ (s : Shared) (u : Value), BindsTo s fd ⟨[u], []⟩ [(x, u)]) ∧
        (∀ (H : Hp) (a : Addr) (ns : List Int), ns.length ≤ n → (∀ z ∈ ns, Builtin.Int.intBits z ≤ 1048576) → (∀ p ∈ cs, H p.2 = some (.tbl #[])) → SqL K H a (ns.map V.int) → sp [.ref a] H (fun v _ => v = .bl true) fun _ _ _ => False) ∧
        ∀ base : Heap, K.In base → base.Ns mainGlobals mg → (∀ p ∈ cs, LamX.TabB base mg p.1 p.2) → FnG l.prog w K mg base k fa fd [x] sp) :
    PySem.W.WalkO q loose XP YP l.row.toRowW d [] (fun f vs => PySem.call f vs) := by
  refine Att.attach_callB hn hdf fun w s₀ sh mg mb fa o pm cd doc a vs ns G Y ho hd hcd hmg obj its0 hlen hbits gens => ?_
  obtain ⟨K, fd, sp, cs, kin, h1, h2, h3, bnd, prom, F0⟩ := F w mg fa _ Y G.T.g hmg
  exact law_callGT kin G.T.g G.T.b G.T.builtins G.T.nolimit gens G.T.bmain h1 h2 h3 obj its0 (Nat.le_trans hlen hn2) room F0 bnd fun H hH sq => prom H a ns hlen hbits hH sq
/-- the script's promise, the tables empty -/
theorem prom_T {Γ : Gm} {F_ : FF} {cs : List (Addr × Addr)} (htb : ∀ p ∈ Γ.tb, p.1 ∈ cs.map (·.2)) (H : Hp) (a : Addr) (ns : List Int) (hv : F_ [.d (.scr ns)] [] = .ok (.d (.bl true), [])) (hT : ∀ p ∈ cs, H p.2 = some (.tbl #[])) (hS : SqL Γ.K H a (ns.map V.int)) :
    spZ Γ 1 F_ [.ref a] H (fun v _ => v = .bl true) fun _ _ _ => False := by
  let F0 : Hp := fun c => match H c with
    | some (.tbl _) => none
    | o => o
  have hs : Same F0 H := fun c o e => by
    have e' : (match H c with
      | some (.tbl _) => none
      | o => o) = some o := e
    cases q : H c with
    | none => rw [q] at e'; cases e'
    | some u => rw [q] at e'; cases u <;> first | exact e' | cases e'
  have up : ∀ c o, H c = some o → (∀ ps, o ≠ .tbl ps) → F0 c = some o := fun c o e n => by
    show (match H c with
      | some (.tbl _) => none
      | o => o) = some o
    rw [e]
    cases o <;> first | rfl | exact absurd rfl (n _)
  have hS' : SqL Γ.K F0 a (ns.map V.int) := by
    rcases hS with (h | ⟨o, h⟩) | h
    · exact .inl (.inl (up _ _ h nofun))
    · exact .inl (.inr ⟨o, up _ _ h nofun⟩)
    · exact .inr h
  refine ⟨rfl, ⟨F0, [], []⟩, [], [.d (.scr ns)], ⟨hs, rfl, List.nodup_nil, fun k a c e _ => by simp at e, fun a h => (by simp at h), fun t h => (by simp at h), fun p hp => ?_⟩, .cons (show Is Γ F0 (.ref a) (.scr ns) by unfold Is; exact ⟨a, rfl, hS'⟩) .nil, ?_⟩
  · obtain ⟨c, hc, e⟩ := List.mem_map.mp (htb p hp)
    have z := hT c hc
    rw [e] at z
    refine ⟨?_, by simp, #[], z, True.intro, fun pos cv h => ?_⟩
    · show (match H p.1 with
        | some (.tbl _) => none
        | o => o) = none
      rw [z]
    · have z : codeAmong pos [] = some cv := h
      simp [codeAmong] at z
  · rw [hv]
    intro u G' H' _ _ r
    exact r.bl_
end Zl
set_option Elab.async false
set_option linter.all false
set_option maxRecDepth 100000
set_option maxHeartbeats 4000000
namespace Zl
open PySem PySem.Spec L2 PySem.W
open PyProof.Rows hiding St
open NdefX
/-! ## the tables of a law's defs; a lambda's names, by their marks -/
def tbOf (K : PySem.W.Frag) (l : List (He.Defn × Str)) : List (Addr × Str) := l.map fun p => ((He.cT K p.1).2, p.2)
structure TabsK (K : PySem.W.Frag) (mg : Str → Option Value) (base : Heap) (l : List (He.Defn × Str)) : Prop where
  tb : ∀ p ∈ l, LamX.TabB base mg (He.cT K p.1).1 (He.cT K p.1).2
  nd : (l.map fun p => (He.cT K p.1).2).Nodup
theorem nodup_one {α β : Type} {f : α → β} : ∀ {l : List α}, (l.map f).Nodup → ∀ {a b : α}, a ∈ l → b ∈ l → f a = f b → a = b
  | [], _, _, _, h, _, _ => by cases h
  | x :: l, n, a, b, ha, hb, e => by
    rw [List.map_cons, List.nodup_cons] at n
    rcases List.mem_cons.mp ha with e1 | h1 <;> rcases List.mem_cons.mp hb with e2 | h2
    · rw [e1, e2]
    · exact absurd (List.mem_map.mpr ⟨b, h2, by rw [← e, e1]⟩) n.1
    · exact absurd (List.mem_map.mpr ⟨a, h1, by rw [e, e2]⟩) n.1
    · exact nodup_one n.2 h1 h2 e
theorem tabAt_of {Γ : Gm} {X : Cx} {K : PySem.W.Frag} {mg : Str → Option Value} {base : Heap} {l : List (He.Defn × Str)} (T : TabsK K mg base l) (i : Nat) {p : He.Defn × Str} (e : l[i]? = some p) (hc : X.env.code = .ref (He.codeOf K p.1)) (hG : Γ.tb = tbOf K l) (hb : X.base = base) (hm : X.mg = mg) (hq : p.2 = X.env.qual ++ "<lambda>") :
    TabAt Γ X (He.cT K p.1).1 (He.cT K p.1).2 := by
  have hp := List.mem_of_getElem? e
  refine ⟨by rw [hb, hm]; exact T.tb p hp, hc, ?_, fun r hr er => ?_⟩
  · rw [hG, ← hq]
    exact List.mem_map.mpr ⟨p, hp, rfl⟩
  · rw [hG] at hr
    obtain ⟨p2, h2, e2⟩ := List.mem_map.mp hr
    subst e2
    have := nodup_one T.nd h2 hp er
    rw [this]
    exact hq
def lamB (sc scope : Scope) (fr : List Str) : Bool := (scope.names.all fun y => !decide (y.2 = .free) || (decide (sc.names.lookup y.1 = some .cell) || decide (sc.names.lookup y.1 = some .free))) && fr.all fun x => scope.names.any fun y => decide (y.1 = x) && decide (y.2 = .free)
theorem lamN_by {X : Cx} {N : List Str} {y : Str} {fr : List Str} {js : List Nat} {params : Arguments} {scope : Scope} (h1 : nscB N [y] fr scope = true) (h2 : lamB X.env.scope scope fr = true) (h3 : js.map (fun j => X.N[j]?) = fr.map some) (h4 : defaultsOf params X.env = ([], []))
    (h5 : ∀ (body : Expr) (q : Str) (cl : List (Str × Addr)) (pm cv ctv u : Value), bindArgs (PySem.W.kla_fn "<lambda>" q params body scope cl pm cv ctv) ⟨[u], []⟩ = pure [(y, u)]) : LamN X N y fr js params scope := by
  unfold lamB at h2
  obtain ⟨h2, h6⟩ := He.ba h2
  refine ⟨nscope_by h1, fun z hz e => ?_, fun z hz => ?_, h3, h4, h5⟩
  · have q := List.all_eq_true.mp h2 z hz
    rw [e] at q
    simp only [decide_true, Bool.not_true, Bool.false_or, Bool.or_eq_true, decide_eq_true_eq] at q
    exact q
  · have q := List.all_eq_true.mp h6 z hz
    obtain ⟨w, hw, q⟩ := List.any_eq_true.mp q
    obtain ⟨q1, q2⟩ := He.ba q
    have e1 := of_decide_eq_true q1
    have e2 := of_decide_eq_true q2
    obtain ⟨w1, w2⟩ := w
    cases e1
    cases e2
    exact hw
end Zl
set_option Elab.async false
set_option linter.all false
set_option maxRecDepth 100000
set_option maxHeartbeats 4000000
namespace Zl
open PySem PySem.Spec L2 PySem.W
open PyProof.Rows hiding St

/-! ## raise X('..'), X without own __init__ -/
abbrev veMro : List Value := [.type "ValueError", .type "Exception", .type "BaseException", .type "object"]
structure ExB (K : PySem.W.Frag) (C : Addr) : Prop where
  own : PySem.W.excIn K C veMro "ValueError.__new__" = true
  keep : PySem.W.keepIn K (.ref C) = true
  sub : PySem.W.subIn K (.ref C) (.type "BaseException") = some true
  ty : PySem.W.typeIn K (.ref C) = some (.type "type")
def fRaise (c : Str) : FS := fun ρ μ => .ex ⟨c, [], []⟩ ρ μ
section
variable {Γ : Gm} {W : WX} {X : Cx} {lv : Nat}
theorem zs_raise1 {x m c : Str} {C : Addr} {j : Nat} {p p2 p3 pos : Pos} (cz : Cz Γ W X lv) (hx : Γ.xc c = some C) (E : ExB Γ.K C) (hg : Gl X x) (hm : X.mg x = some (.ref C)) (hd : (x == ("__debug__" : Str)) = false) :
    PS X (.Raise (some (.Call (.Name x p) [.Constant (.str m) j p2] [] p3)) none pos) (tZS Γ W (fRaise c)) := by
  have E' : ExB X.K C := by rw [cz.K]; exact E
  refine PS.imp (ps_raise cz.calm cz.tk (pmk_own F.excBase_ValueError E'.own hm E'.keep (raises_own E'.sub E'.ty) hg hd)) fun D σ H t => ?_
  obtain ⟨G, ρ, μ, R, q⟩ := t
  exact q (.ref C) none G σ H (Step.refl G H) R ⟨C, [], hx, rfl, rfl, IsL.nil, .inl ⟨rfl, rfl⟩⟩
end

/-! ## try: .. except C as e: x = e -/
section
variable {X : Cx} {pins : List (Addr × Obj)} {σ : St} {H : Hp} {s : Shared}
/-- an untracked object of ours is tracked from now on -/
theorem Inv.track {a : Addr} {o : HO} (I : Inv X pins σ H s) (hn : H a = none) (h0 : X.s_0.heap.get? a = none) (hL : a ≠ X.env.locals) (hc : ∀ x c, X.env.cells.lookup x = some c → c ≠ a) (hp : ∀ p ∈ X.pn ++ pins, p.1 ≠ a) (ok : ObjOk X.prog X.w (upd H a o) s.heap a o) : Inv X pins σ (upd H a o) s := by
  have ne0 : ∀ b ob, X.s_0.heap.get? b = some ob → b ≠ a := fun b ob e z => by rw [z, h0] at e; cases e
  refine ⟨I.ok, I.os, I.bare, ⟨I.base.keep, I.base.slot, fun b ob e n hx => by rw [upd_ne (ne0 b ob e)]; exact I.base.free b ob e n hx, I.base.there, fun b xs e => ?_, fun b ob u e => ?_, fun b ps e => ?_⟩, I.loc, I.cell, by rw [upd_ne (Ne.symm hL)]; exact I.free, fun x c e => by rw [upd_ne (hc x c e)]; exact I.freeC x c e, fun p hp' => ?_, fun b u e => ?_, I.len⟩
  · have z := I.base.tups b xs e
    rw [upd_ne (ne_of_none z hn)]; exact z
  · have z := I.base.frzs b ob u e
    rw [upd_ne (ne_of_none z hn)]; exact z
  · obtain ⟨m, z⟩ := I.base.tbls b ps e
    exact ⟨m, by rw [upd_ne (ne_of_none z hn)]; exact z⟩
  · obtain ⟨e, n, r⟩ := I.pin p hp'
    exact ⟨e, by rw [upd_ne (hp p hp')]; exact n, r⟩
  · by_cases hb : b = a
    · rw [hb, upd_same] at e
      cases e
      rw [hb]
      exact ok
    · rw [upd_ne hb] at e
      exact (I.hok b u e).stay (fun c v _ q => q) (fun c q => by rw [upd_ne (ne_of_none q hn)]; exact q) fun c xs q => by rw [upd_ne (ne_of_none q hn)]; exact q
end
/-- what the clause wishes: slot i is e's, j is x's -/
def wCatch (K : PySem.W.Frag) (c : Value) (i j : Nat) (Wout : WX) (D : Ends) : WX := fun cls d σ H =>
  ∃ b, PySem.W.exmOne K cls c = some b ∧ (b = true → ∀ a, H a = none → D.nx (((σ.set i (some (.ref a))).set j (some (.ref a))).set i none) (upd H a (ExV cls d a))) ∧ (b = false → Wout cls d σ H)
section
variable {X : Cx} {x n y : Str} {c : Value} {i j : Nat} {body : List Stmt} {np np2 mp ap pos pos' : Pos} {tb : WX → TS} {Wout : WX}
theorem ps_catch (hs : X.stack = X.env :: X.outer) (hf : X.env.frame = some X.env.locals) (hex : X.ex = []) (hN : X.N.Nodup) (hi : X.N[i]? = some n) (hj : X.N[j]? = some y) (hln : X.env.kindOf n = some .local) (hly : Loc X.env.scope y) (hyf : X.fn y = true ∨ X.env.scope.names.lookup y = some .local) (hc : Names X x c) (tk : Takes X Wout)
    (hnd : (n == ("__debug__" : Str)) = false) (hncd : (n == ("__classdict__" : Str)) = false) (hsw : swapsWith (.Name n np2) (some (.Name y mp)) ap.line X.env = pure false)
    (hb : ∀ (W : WX) (pn : List (Addr × Obj)) (xe : Value → Shared → Prop), Takes (X.tr pn xe) W → PassesOwn (model X.prog X.w) X.A X.env xe → PSs (X.tr pn xe) body (tb W)) :
    PS X (.Try body [.ExceptHandler (some (.Name x np)) (some n) [.Assign [.Name y mp] (.Name n np2) ap] pos'] [] [] pos) (fun D σ H => tb (wCatch X.K c i j Wout D) D σ H) := by
  refine ⟨fun pins s σ H D I h => ?_⟩
  have ok := I.ok
  have hfr : X.A.frames = some (X.env :: X.outer) := by rw [ok.frames, hs]
  have hloc : Loc X.env.scope n := .inl hln
  refine wpAny_Try_except ?_
  refine wpAny_mono ((hb (wCatch X.K c i j Wout D) (X.pn ++ pins) (fun e s₁ => wpAny (model X.prog X.w) X.A (noteFrame e X.env) (fun _ s₂ => wpAny (model X.prog X.w) X.A (setFlight e none) (fun _ s₃ =>
    wpAny (model X.prog X.w) X.A (handleBy e X.env [.ExceptHandler (some (.Name x np)) (some n) [.Assign [.Name y mp] (.Name n np2) ap] pos']) (SP X pins D) X.xe s₃) X.xe s₂) X.xe s₁) (fun u s' xx => ?_) PassesOwn.looking).run [] s σ H D (I.toTry _) h) (fun f s1 hsp => ?_) (fun e s1 he => he)
  · obtain ⟨a, B, sI, pins', σ', H', cls, d, rfl, J', nb, up, sky, na, os, ag, b, hb1, hyes, hno⟩ := xx
    have J : Inv X pins σ' H' sI := J'.ofTry ok
    have sky' : Sky B (X.env :: X.outer) a (Zc cls d) X.env.locals s'.heap := by rw [← hs]; exact sky
    show wpAny (model X.prog X.w) X.A (noteFrame (.ref a) X.env) _ _ _
    refine Sky.land Zc.steady hfr hf sky' fun h3 fl3 up3 => ?_
    have J3 : Inv X pins σ' H' { s' with heap := h3 } := J.landed nb fl3.1 (up.trans up3) os ag
    obtain ⟨oe3, vs3, he3, hz3, hd3⟩ := fl3.there
    have notFr : ∀ {h : Heap} {o : Obj} {vs : Array Value}, h.FunFrames B (X.env :: X.outer) → h.get? a = some o → o.data = .fields vs → a ∉ frs (X.env :: X.outer) := fun {h o vs} ff e dd hm => by
      obtain ⟨_, o', e', hnf⟩ := ff.mem hm
      rw [e] at e'; cases e'
      exact hnf _ dd
    have nfr := notFr fl3.2.2.1 he3 hd3
    have nL : a ≠ X.env.locals := fun z => nfr (List.mem_filterMap.mpr ⟨X.env, List.mem_cons_self, by rw [hf, z]⟩)
    have nF : a ∉ X.fs := fun hm => by
      obtain ⟨e, he, q⟩ := List.mem_filterMap.mp hm
      exact nfr (List.mem_filterMap.mpr ⟨e, List.mem_cons_of_mem _ he, q⟩)
    -- the exception's object is younger than the entry
    have nI : sI.heap.get? a = none := by
      cases q : sI.heap.get? a with
      | none => rfl
      | some o =>
        have z := nb a o q (by rw [hs]; exact nfr)
        rw [fl3.2.1] at z
        cases z
    have n0 : X.s_0.heap.get? a = none := by
      cases q : X.s_0.heap.get? a with
      | none => rfl
      | some o =>
        obtain ⟨o', z⟩ := J.base.there a o q (by rw [hex]; simp)
        rw [nI] at z
        cases z
    have nCell : ∀ y c, X.env.cells.lookup y = some c → c ≠ a := fun y c e z => by
      obtain ⟨v, o, q, _⟩ := J.cell y c e
      rw [z, nI] at q
      cases q
    have S3 := J3.suite he3 hd3 na nL nF
    refine wpAny_handleBy_cons (codeAny_handlers_test ?_) (by intro q; cases q)
    have LT : PySem.W.Looks (model X.prog X.w) h3 (typeOf (.ref a)) cls := fun A Q E s k q => wpAny_typeOf_ref (k _ _ he3) (by rw [hz3.1]; exact q)
    have LM := PySem.W.exm_one (M := model X.prog X.w) (J3.kIn) LT hb1
    have test : ∀ {Q : Value → Shared → Prop} {E : Value → Shared → Prop}, Q c { s' with heap := h3 } → wpAny (model X.prog X.w) (X.A.mark (some (.ref a))) (eval (.Name x np) X.env) Q E { s' with heap := h3 } := fun {Q E} q => by
      obtain ⟨hg, hdbg, hm | ⟨hm, hv, hnn⟩⟩ := hc
      · exact ld_glob (X := X.suite a ((a, oe3) :: (X.pn ++ pins))) S3 hg hm q hdbg
      · exact ld_blt (X := X.suite a ((a, oe3) :: (X.pn ++ pins))) S3 hg hm hv q hnn hdbg
    refine test (LM.here ?_)
    cases b with
    | true =>
      refine codeAny_handlers_suite_as ?_
      refine HandSPX.lands_againZ fl3 fun h4 fl4 up4 => ?_
      have J4 : Inv X pins σ' H' { s' with heap := h4 } := J.landed nb fl4.1 ((up.trans up3).trans up4) os ag
      obtain ⟨oe4, vs4, he4, hz4, hd4⟩ := fl4.there
      have S4 := J4.suite he4 hd4 na nL nF
      refine store_ok (X := X.suite a ((a, oe4) :: (X.pn ++ pins))) (v := .ref a) S4 hN hi hloc rfl (fun s5 S5 => ?_) (.inr hln)
      have st : PS (X.suite a ((a, oe4) :: (X.pn ++ pins))) (.Assign [.Name y mp] (.Name n np2) ap) _ := ps_set (pos := ap) (pos' := mp) hN hj hly (pe_var (pos := np2) hi (.inl hln) hnd hncd) hsw hyf
      have hset : ((σ'.set i (some (V.ref a)))[i]?) = some (some (V.ref a)) := by
        have hlt : i < σ'.length := by rw [J.len]; exact (List.getElem?_eq_some_iff.mp hi).1
        rw [List.getElem?_set_self hlt]
      refine wpAny_mono ((pss_one st).run [] s5 _ H' { nx := fun σ6 H6 => H6 = H' ∧ σ6 = (σ'.set i (some (V.ref a))).set j (some (V.ref a)), rt := fun _ _ => False, bk := fun _ _ => False, ct := fun _ _ => False } S5 ⟨V.ref a, hset, rfl, rfl⟩) (fun f s6 hsp => ?_) (fun _ _ z => False.elim z)
      cases f with
      | next =>
        obtain ⟨σ6, H6, S6, e6, e7⟩ := hsp
        subst e6 e7
        have U6 : Inv X (pins ++ [(a, oe4)]) _ H6 s6 := (S6.unsuite ok).pins_of fun p hp => S6.pin p (by
          rcases List.mem_append.mp hp with z | z
          · exact List.mem_append_left _ (List.mem_cons_of_mem _ (List.mem_append_right _ z))
          · have z' : p = (a, oe4) := by simpa using z
            rw [z']
            exact List.mem_append_left _ List.mem_cons_self)
        refine gone_ok U6 hN hi hln fun s7 J7 => ?_
        have pa := J7.pin (a, oe4) (by simp)
        refine ⟨_, _, Inv.track (J7.pins_of fun p hp => J7.pin p (by simp [hp])) pa.2.1 n0 nL nCell (fun p hp z => ?_) (exV_ok pa.1 hz4 hd4), hyes rfl a na⟩
        have q := J.pin p hp
        rw [z, nI] at q
        cases q.1
      | brk => obtain ⟨_, _, _, z⟩ := hsp; exact z.elim
      | cont => obtain ⟨_, _, _, z⟩ := hsp; exact z.elim
      | ret u => obtain ⟨_, _, _, _, _, z⟩ := hsp; exact z.elim
    | false =>
      show wpAny _ X.A (handleBy (.ref a) X.env []) _ _ _
      refine wpAny_handleBy_nil ?_
      obtain ⟨k1, k2, k3, oe, vs, T, oT, ts', he, hz, hd, h1, hr⟩ := id fl3
      unfold PySem.passOn
      refine wpAny_bind (wpAny_field he hd h1 ?_)
      rw [if_neg (show ¬ ((Value.ref T == Value.none) = true) from by simp)]
      have fin : wpAny (model X.prog X.w) X.A (setFlight (.ref a) X.env.frame) (fun _ s4 => wpAny (model X.prog X.w) X.A (throw (.ref a) : Sem Flow) (SP X pins D) X.xe s4) X.xe { s' with heap := h3 } := by
        rw [hf]
        refine HandSPX.setFlight_upZ fl3 fun h4 hh4 up4 => wpAny_throw (tk _ _ ?_)
        exact ⟨a, B, sI, pins, σ', H', cls, d, rfl, J, nb, (up.trans up3).trans up4, .inr (.inr (by rw [hs]; exact hh4)), na, os, ag, hno rfl⟩
      first
        | exact wpAny_bind (wpAny_pure (wpAny_bind fin))
        | exact wpAny_bind fin
  · cases f with
    | next =>
      obtain ⟨σ', H', J', q⟩ := hsp
      exact wpAny_execs_nil ⟨σ', H', J'.ofTry ok, q⟩
    | brk =>
      obtain ⟨σ', H', J', q⟩ := hsp
      exact ⟨σ', H', J'.ofTry ok, q⟩
    | cont =>
      obtain ⟨σ', H', J', q⟩ := hsp
      exact ⟨σ', H', J'.ofTry ok, q⟩
    | ret u =>
      obtain ⟨v, σ', H', J', r, q⟩ := hsp
      exact ⟨v, σ', H', J'.ofTry ok, r, q⟩
end
end Zl
set_option Elab.async false
set_option linter.all false
set_option maxRecDepth 100000
set_option maxHeartbeats 4000000
namespace Zl
open PySem PySem.Spec L2 PySem.W
open PyProof.Rows hiding St

/-! ## try: .. except C as e: x = e, by the semantics -/
/-- which exception class stands under which -/
structure XcTb (Γ : Gm) (xt : Str → Str → Option Bool) : Prop where
  ok : ∀ c n b C N, xt c n = some b → Γ.xc c = some C → Γ.xc n = some N → PySem.W.exmOne Γ.K (.ref C) (.ref N) = some b
def Rho.del (ρ : Rho) (i : Nat) : Rho := ⟨ρ.n0, ρ.s.set i none⟩
def fCatch (xt : Str → Str → Option Bool) (cn : Str) (i j : Nat) (sb : FS) : FS := fun ρ μ => match sb ρ μ with
  | .ex e r m => (match xt e.c cn with
    | some true => .ok (.nx, (r.set j (.d (.exc e.c e.ns e.ds))).del i, m)
    | some false => .ex e r m
    | none => .bad)
  | o => o
section
variable {Γ : Gm} {W : WX} {X : Cx} {lv : Nat} {G : Gh} {ρ : Rho} {μ : Mu} {σ : St} {H : Hp}
theorem Rep.del {i : Nat} (R : Rep Γ G ρ μ σ H) : Rep Γ G (ρ.del i) μ (σ.set i none) H := by
  refine ⟨R.toRepM, fun j v e => ?_, by show (ρ.s.set i none).length = _; rw [List.length_set, List.length_set]; exact R.rl, R.n0, R.top⟩
  have e : (ρ.s.set i none)[j]? = some (some v) := e
  by_cases h : j = i
  · subst h
    by_cases hl : j < ρ.s.length
    · rw [List.getElem?_set_self hl] at e; cases e
    · rw [List.getElem?_eq_none (by simpa using hl)] at e; cases e
  · rw [List.getElem?_set_ne (Ne.symm h)] at e
    obtain ⟨u, h1, h2⟩ := R.slots j v e
    exact ⟨u, by rw [List.getElem?_set_ne (Ne.symm h)]; exact h1, h2⟩
theorem set_set_del {α : Type} {l : List (Option α)} {i j : Nat} {a b : Option α} : (((l.set i a).set j b).set i none) = ((l.set j b).set i none) := by
  refine List.ext_getElem? fun k => ?_
  by_cases hk : k = i
  · subst hk
    by_cases hl : k < l.length
    · rw [List.getElem?_set_self (by simpa using hl), List.getElem?_set_self (by simpa using hl)]
    · rw [List.getElem?_eq_none (by simpa using hl), List.getElem?_eq_none (by simpa using hl)]
  · rw [List.getElem?_set_ne (Ne.symm hk), List.getElem?_set_ne (Ne.symm hk)]
    by_cases hj : k = j
    · subst hj
      by_cases hl : k < l.length
      · rw [List.getElem?_set_self (by simpa using hl), List.getElem?_set_self hl]
      · rw [List.getElem?_eq_none (by simpa using hl), List.getElem?_eq_none (by simpa using hl)]
    · rw [List.getElem?_set_ne (Ne.symm hj), List.getElem?_set_ne (Ne.symm hj), List.getElem?_set_ne (Ne.symm hk)]
theorem Cz.tr {W' : WX} {pn : List (Addr × Obj)} {xe : Value → Shared → Prop} (c : Cz Γ W X lv) (tk : Takes (X.tr pn xe) W') : Cz Γ W' (X.tr pn xe) lv := ⟨c.K, c.nd, c.calm, c.room, c.gd, tk⟩
theorem zs_catch {xt : Str → Str → Option Bool} {x n y cn : Str} {C : Addr} {i j : Nat} {body : List Stmt} {sb : FS} {np np2 mp ap pos pos' : Pos} (c : Cz Γ W X lv) (T : XcTb Γ xt) (hxc : Γ.xc cn = some C) (hs : X.stack = X.env :: X.outer) (hf : X.env.frame = some X.env.locals) (hex : X.ex = [])
    (hi : X.N[i]? = some n) (hj : X.N[j]? = some y) (hln : X.env.kindOf n = some .local) (hly : Loc X.env.scope y) (hyf : X.fn y = true ∨ X.env.scope.names.lookup y = some .local) (hg : Gl X x) (hm : X.mg x = some (.ref C)) (hxd : (x == ("__debug__" : Str)) = false)
    (hnd : (n == ("__debug__" : Str)) = false) (hncd : (n == ("__classdict__" : Str)) = false) (hsw : swapsWith (.Name n np2) (some (.Name y mp)) ap.line X.env = pure false)
    (hb : ∀ (W' : WX) (pn : List (Addr × Obj)) (xe : Value → Shared → Prop), Cz Γ W' (X.tr pn xe) lv → PassesOwn (model X.prog X.w) X.A X.env xe → PSs (X.tr pn xe) body (tZS Γ W' sb)) :
    PS X (.Try body [.ExceptHandler (some (.Name x np)) (some n) [.Assign [.Name y mp] (.Name n np2) ap] pos'] [] [] pos) (tZS Γ W (fCatch xt cn i j sb)) := by
  refine PS.imp (ps_catch (tb := fun W' => tZS Γ W' sb) hs hf hex c.nd hi hj hln hly hyf ⟨hg, hxd, .inl hm⟩ c.tk hnd hncd hsw fun W' pn xe tk po => hb W' pn xe (c.tr tk) po) fun D σ H t => ?_
  obtain ⟨G, ρ, μ, R, q⟩ := t
  refine ⟨G, ρ, μ, R, ?_⟩
  unfold fCatch at q
  cases hsb : sb ρ μ with
  | bad => rw [hsb] at q; exact q
  | ok p => rw [hsb] at q; exact q
  | ex e r m =>
    rw [hsb] at q
    intro cls dx G' σ' H' st R' er
    have er' := er
    obtain ⟨C', fs, hC', rfl, hn, hl, hd⟩ := er
    cases ht : xt e.c cn with
    | none => simp only [ht] at q; exact q.elim
    | some b =>
      have hexm := T.ok _ _ _ _ _ ht hC' hxc
      rw [← c.K] at hexm
      simp only [ht] at q
      cases b with
      | false => exact ⟨false, hexm, nofun, fun _ => q (.ref C') dx G' σ' H' st R' er'⟩
      | true =>
        refine ⟨true, hexm, fun _ a ha => ?_, nofun⟩
        have s2 : Step G' H' (G'.fzn a (ExV (.ref C') dx a)) (upd H' a (ExV (.ref C') dx a)) := R'.toRepM.stepFz ha
        have R2 : Rep Γ (G'.fzn a (ExV (.ref C') dx a)) r m σ' (upd H' a (ExV (.ref C') dx a)) := R'.go s2 (R'.toRepM.fzNew ha)
        have hv : VRel Γ (G'.fzn a (ExV (.ref C') dx a)) (.ref a) (.d (.exc e.c e.ns e.ds)) := by
          show Is Γ _ _ _
          unfold Is
          refine ⟨a, C', dx, rfl, hC', upd_same, fs, hn, IsL.mono s2.fz _ _ hl, ?_⟩
          rcases hd with hd | ⟨d, d1, d2⟩
          · exact .inl hd
          · exact .inr ⟨d, d1, s2.fz _ _ d2⟩
        have R3 := (R2.set (i := j) hv).del (i := i)
        rw [set_set_del]
        exact q _ _ _ (st.trans s2) R3
end
end Zl
set_option Elab.async false
set_option linter.all false
set_option maxRecDepth 100000
set_option maxHeartbeats 4000000
namespace Zl
open PySem PySem.Spec L2 PySem.W
open PyProof.Rows hiding St
open NdefX

/-! ## a lambda called by another def: its own frame -/
def fLam (N : Nat) (kb : FE) (js : List Nat) (ρ : Rho) : FF := fun as μ => match kb ⟨μ.length, (lamR ρ N as js).s⟩ μ with
  | .ok p => (match closeV μ.length p.2 p.1 with
    | some w => .ok (w, p.2.take μ.length)
    | none => .bad)
  | .ex e r m => .ex e r (m.take μ.length)
  | .bad => .bad
/-- the lambda's promise in any place, whatever is wished of exceptions -/
def LamBW (Γ : Gm) (X : Cx) (k : Nat) (N : List Str) (params : Arguments) (body : Expr) (scope : Scope) (kb : FE) : Prop :=
  ∀ (W : WX) (cl : List (Str × Addr)) (f c' : Addr) (A : Around) (outer : List Env) (st : Shared) (H0 : Hp) (E : XK), Cz Γ W (XL X.prog X.w Γ X.mg X.base N (lamF (X.env.qual ++ "<lambda>") params scope cl c') f A outer st H0 E) k →
    PE (XL X.prog X.w Γ X.mg X.base N (lamF (X.env.qual ++ "<lambda>") params scope cl c') f A outer st H0 E) body (tZ Γ W kb)
section
variable {Γ : Gm} {W : WX} {X : Cx} {lv k : Nat} {pins : List (Addr × Obj)} {σ : St} {H : Hp} {s : Shared} {G : Gh} {μ : Mu} {ρ : Rho} {N fr : List Str} {js : List Nat} {params : Arguments} {body : Expr} {scope : Scope} {cl : List (Str × Addr)} {f c' P : Addr} {pm ctv : Value} {kb : FE}
/-- a frame's outcome, its own cells forgotten -/
theorem close_post {Q : VK} {E : XK} {r : R (Val × Mu)} {ρ' : Rho} {σ' : St} (R : RepM Γ G μ H) (q : PostF Γ G H Q E (match r with
    | .ok p => (match closeV μ.length p.2 p.1 with
      | some w => .ok (w, p.2.take μ.length)
      | none => .bad)
    | .ex e r m => .ex e r (m.take μ.length)
    | .bad => .bad)) : Post Γ (fun cls d _ H => E cls d H) (G.push μ.length) ρ' σ' H Q r := by
  have fin : ∀ {G' : Gh} {μ' : Mu} {H' : Hp}, Step (G.push μ.length) H G' H' → RepM Γ G' μ' H' → Step G H (G'.close H' μ.length G.ts) H' ∧ RepM Γ (G'.close H' μ.length G.ts) (μ'.take μ.length) H' := fun {G' μ' H'} st R' => by
    obtain ⟨ts, e, st2⟩ := st.push
    have ets : ts = G.ts := by
      have := st.ts
      rw [e] at this
      exact (List.cons.inj this).2
    have R2' : RepM Γ ⟨G'.F, G'.al, ts⟩ μ' H' := ⟨R'.sub, R'.len, R'.nd, fun k a c e1 e2 => CRel.mono (G := G') (G' := ⟨G'.F, G'.al, ts⟩) (fun _ _ h => h) (fun n => n) ⟨[], by simp⟩ rfl (R'.cells k a c e1 e2), R'.there, fun t ht => R'.clo t (by rw [e]; exact List.mem_cons_of_mem _ (show t ∈ ts from ht)), R'.tabs.go (fun _ _ e _ _ => e) (fun _ _ _ _ _ h => h) fun _ z => .inl z⟩
    have s3 := Step.trunc R2' st2 ets
    have ec : ∀ t, Gh.close ⟨G'.F, G'.al, ts⟩ H' t ts = G'.close H' t G.ts := fun t => by rw [ets]; rfl
    rw [ec, R.len] at s3
    refine ⟨s3, R'.trunc (by rw [e]; exact List.mem_cons_self) G.ts fun s hs => ⟨by rw [e, ets]; exact List.mem_cons_of_mem _ hs, (R.clo s hs).1⟩⟩
  cases r with
  | bad => exact q
  | ex er rr m =>
    intro cls dx G' H' st R' er'
    obtain ⟨s3, R3⟩ := fin st R'.toRepM
    exact q cls dx _ H' s3 R3 (ErrRel.close R'.toRepM er')
  | ok p =>
    obtain ⟨v, μ'⟩ := p
    intro u G' H' st R' hu
    obtain ⟨s3, R3⟩ := fin st R'.toRepM
    simp only at q R3 hu
    cases ec : closeV μ.length μ' v with
    | none => rw [ec] at q; exact q.elim
    | some v' =>
      rw [ec] at q
      refine q u _ H' s3 R3 ?_
      cases v with
      | d x => cases ec; exact Is.mono (close_same R'.toRepM _ _).1 _ _ hu
      | own j =>
        have ec : (if j < μ.length then some (Val.own j) else (treeV 40 μ.length μ' (.own j)).map .d) = some v' := ec
        by_cases hj : j < μ.length
        · rw [if_pos hj] at ec
          cases ec
          obtain ⟨a, ha, ea⟩ := hu
          exact ⟨a, by show (G'.al.take μ.length)[j]? = _; rw [List.getElem?_take_of_lt hj]; exact ha, ea⟩
        · rw [if_neg hj] at ec
          cases et : treeV 40 μ.length μ' (.own j) with
          | none => rw [et] at ec; cases ec
          | some d => rw [et] at ec; cases ec; exact tree_ok R'.toRepM _ _ 40 u (.own j) d hu et
/-- the lambda at f called from a state that keeps what its maker left -/
theorem lam_run {A' : Around} {outer' : List Env} {sZ : Shared} {Q : VK} {E : XK} (hK : X.K = Γ.K) (hr : Room (k + 1) A') (hg : A'.guards = some []) (I : Inv X pins σ H s) (R : Rep Γ G ρ μ σ H)
    (hf : s.heap.get? f = some (PySem.W.kla_obj "<lambda>" (X.env.qual ++ "<lambda>") params body scope cl pm c' ctv)) (hn : H f = none) (hfr : f ∉ frs X.stack) (hc : H c' = some (LamX.CodeO c' (X.env.qual ++ "<lambda>")))
    (S : NScope N [] fr scope) (C : Caps X cl fr js) (hbind : bindArgs (PySem.W.kla_fn "<lambda>" (X.env.qual ++ "<lambda>") params body scope cl pm (.ref c') ctv) ⟨[], []⟩ = pure [])
    (B : LamBW Γ X k N params body scope kb) (e0 : Env0 X.prog X.w X.K X.mg X.base A' outer' sZ H) (un : Un (frs X.stack) [] H H s.heap sZ.heap) (q : PostF Γ G H Q E (fLam N.length kb js ρ [] μ)) :
    codeAny (model X.prog X.w) A' (.call (.ref f) ⟨[], []⟩) (CR (L2.CX X.prog X.w) outer' X.prog X.w H sZ Q E) sZ := by
  have hfZ := un.keep f _ hf hn hfr (by simp)
  obtain ⟨⟨oc, vs', t, hoc, hdc, hvc⟩, _, _⟩ := e0.hok c' _ hc
  have Cs := cells_of I C
  have CZ : CellsAt cl fr (js.map (NdefX.slotAt σ)) sZ.heap H := by
    refine ⟨Cs.len, fun y c e => ?_, Cs.inj, fun i y e => ?_⟩
    · obtain ⟨n, v, o, ho, hd⟩ := Cs.all y c e
      obtain ⟨sl, z⟩ := un.any ho n (by simp)
      exact ⟨n, v, _, z, hd⟩
    · obtain ⟨c, h1, h2⟩ := Cs.has i y e
      refine ⟨c, h1, fun v hv => ?_⟩
      obtain ⟨u, r, o, ho, hd⟩ := h2 v hv
      obtain ⟨sl, z⟩ := un.any ho (Cs.all y c h1).1 (by simp)
      exact ⟨u, r, _, z, hd⟩
  have lim : sZ.heap.NoLimit := e0.mod.nolimit.keeps fun b o e => (e0.bs b o e).1
  refine PySem.W.kla_callFunE hr.depth hfZ rfl S.co S.gen rfl ⟨c', oc, vs', t, rfl, hoc, hdc, hvc⟩ ?_
  rw [hbind]
  refine wpAny_pure (wpAny_newFunctionEnv S.nocell (fun y hy => absurd hy (by simp)) (fun h₁ hns hsb => ⟨lim.fresh _ hsb, ?_⟩) S.kind)
  show codeAny _ _ (.expr body (envF (lamF (X.env.qual ++ "<lambda>") params scope cl c') f sZ.heap.objs.size)) _ _
  have kp : ∀ b o, sZ.heap.get? b = some o → h₁.get? b = some o := fun b o e => hsb.extBut b o (Nat.ne_of_lt (Heap.lt_size e)) (Heap.get?_push_of_some _ e)
  have J : Inv (XL X.prog X.w Γ X.mg X.base N (lamF (X.env.qual ++ "<lambda>") params scope cl c') f A' outer' sZ H E) [] (startF N [] (js.map (NdefX.slotAt σ))) H { sZ with heap := h₁, toks := sZ.toks + ([] : List (Str × Value)).length } := by
    have := inv_startN (CX := L2.CX X.prog X.w) (F := lamF (X.env.qual ++ "<lambda>") params scope cl c') (f := f) (E := E) (ps := []) (us := []) (vs := []) (tk := sZ.toks + ([] : List (Str × Value)).length) S hr.hd e0 rfl .nil CZ hns kp
    rw [hK] at this
    exact this
  have R1 : RepM Γ (G.push μ.length) μ H := R.toRepM.pushTop
  have R2 : Rep Γ (G.push μ.length) ⟨μ.length, (lamR ρ N.length [] js).s⟩ μ (startF N [] (js.map (NdefX.slotAt σ))) H := by
    have z := lam_rep (N := N) (vs := []) (as := []) (js := js) R .nil
    refine ⟨R1, fun i v e => ?_, z.rl, List.mem_cons_self, fun t ht => ?_⟩
    · obtain ⟨u, h1, h2⟩ := z.slots i v e
      exact ⟨u, h1, by cases v <;> exact h2⟩
    · rcases List.mem_cons.mp ht with e | e
      · rw [e]; exact Nat.le_refl _
      · exact (R.clo t e).1
  have tk : Takes (XL X.prog X.w Γ X.mg X.base N (lamF (X.env.qual ++ "<lambda>") params scope cl c') f A' outer' sZ H E) (fun cls d _ H => E cls d H) := takes_of rfl rfl rfl rfl
  refine PySem.W.kla_codeExpr (wpAny_mono ((B _ cl f c' A' outer' sZ H E ⟨rfl, S.nd, rfl, hr.deeper _, hg, tk⟩).run [] _ _ H Q J ⟨_, _, μ, R2, close_post R.toRepM q⟩) (fun v s' hq => ?_) fun e s' hq => hq)
  obtain ⟨w', H', J', rv, q⟩ := hq
  exact ⟨w', H', J'.os, J'.bare, J'.base, J'.hok, rv, q⟩
end
end Zl
set_option Elab.async false
set_option linter.all false
set_option maxRecDepth 100000
set_option maxHeartbeats 1000000
namespace Zl
open PySem PySem.Spec L2 PySem.W
open PyProof.Rows hiding St
open NdefX

/-! ## x = None; try: a() / except C as e: x = e, a a lambda that was handed in -/
/-- q: the lambda's outcome -/
def fHeard (xt : Str → Str → Option Bool) (cn : Str) (i j : Nat) (q : R (Val × Mu)) : FS := fun ρ _ => match q with
  | .ok p => .ok (.nx, ρ.set j (.d .non), p.2)
  | .ex e _ m => (match xt e.c cn with
    | some true => .ok (.nx, ((ρ.set j (.d .non)).set j (.d (.exc e.c e.ns e.ds))).del i, m)
    | some false => .ex e (ρ.set j (.d .non)) m
    | none => .bad)
  | .bad => .bad
section
variable {Γ : Gm} {W : WX} {X : Cx} {lv k : Nat} {pins : List (Addr × Obj)} {σ : St} {H : Hp} {s : Shared} {G : Gh} {μ : Mu} {ρ : Rho} {N fr : List Str} {js : List Nat} {params : Arguments} {body : Expr} {scope : Scope} {cl : List (Str × Addr)} {f c' P : Addr} {pm ctv : Value} {kb : FE}
theorem start_len {N : List Str} {vs : List V} (h : vs.length ≤ N.length) : (start N vs).length = N.length := by
  unfold L2.start
  simp
  omega
theorem pss_heard {xt : Str → Str → Option Bool} {Ng : List Str} {qg : Str} {sg : Scope} {g : Addr} {cdg : Value} {E : XK} {x n y a cn : Str} {C : Addr} {i j : Nat} {rest : List Stmt} {sr : FS} {j0 : Nat} {yp cp ap1 p1 p2 ep np np2 mp ap pos pos' : Pos}
    (hK : X.K = Γ.K) (I : Inv X pins σ H s) (R : Rep Γ G ρ μ σ H)
    (hf : s.heap.get? f = some (PySem.W.kla_obj "<lambda>" (X.env.qual ++ "<lambda>") params body scope cl pm c' ctv)) (hn : H f = none) (hfr : f ∉ frs X.stack) (hc : H c' = some (LamX.CodeO c' (X.env.qual ++ "<lambda>")))
    (S : NScope N [] fr scope) (Cp : Caps X cl fr js) (hbind : bindArgs (PySem.W.kla_fn "<lambda>" (X.env.qual ++ "<lambda>") params body scope cl pm (.ref c') ctv) ⟨[], []⟩ = pure [])
    (B : LamBW Γ X k N params body scope kb)
    (c : Cz Γ W (XC X.prog X.w Γ X.mg X.base Ng qg sg g cdg X.A X.stack s H E) lv) (hlv : k + 1 ≤ lv) (T : XcTb Γ xt) (hxc : Γ.xc cn = some C)
    (ha : Ng[0]? = some a) (hva : Vis sg a) (had : (a == ("__debug__" : Str)) = false) (hacd : (a == ("__classdict__" : Str)) = false)
    (hi : Ng[i]? = some n) (hj : Ng[j]? = some y) (hj0 : j ≠ 0) (hln : sg.names.lookup n = some .local) (hly : sg.names.lookup y = some .local) (hg : sg.names.lookup x = some .globalImplicit) (hm : X.mg x = some (.ref C)) (hxd : (x == ("__debug__" : Str)) = false)
    (hnd : (n == ("__debug__" : Str)) = false) (hncd : (n == ("__classdict__" : Str)) = false) (hsw : ∀ env, swapsWith (.Name n np2) (some (.Name y mp)) ap.line env = pure false) (hsw1 : ∀ env, swapsWith (.Constant .none j0 cp) (some (.Name y yp)) ap1.line env = pure false) (hsw2 : ∀ env, swapsWith (.Call (.Name a p1) [] [] p2) none ep.line env = pure false)
    (hrest : PSs (XC X.prog X.w Γ X.mg X.base Ng qg sg g cdg X.A X.stack s H E) rest (tZS Γ W sr)) :
    PSs (XC X.prog X.w Γ X.mg X.base Ng qg sg g cdg X.A X.stack s H E) (.Assign [.Name y yp] (.Constant .none j0 cp) ap1 :: .Try [.Expr (.Call (.Name a p1) [] [] p2) ep] [.ExceptHandler (some (.Name x np)) (some n) [.Assign [.Name y mp] (.Name n np2) ap] pos'] [] [] pos :: rest)
      (fun D σZ HZ => σZ = start Ng [.ref f] ∧ HZ = H ∧ PostS Γ W (G.push μ.length) H D (fSeq (fHeard xt cn i j (fLam N.length kb js ρ [] μ)) sr (startR μ.length Ng.length []) μ)) := by
  let Z : Cx := XC X.prog X.w Γ X.mg X.base Ng qg sg g cdg X.A X.stack s H E
  have R1 : Rep Γ (G.push μ.length) ⟨μ.length, ρ.s⟩ μ σ H := by
    refine ⟨R.toRepM.pushTop, fun i v e => ?_, R.rl, List.mem_cons_self, fun t ht => ?_⟩
    · obtain ⟨u, h1, h2⟩ := R.slots i v e
      exact ⟨u, h1, by cases v <;> exact h2⟩
    · rcases List.mem_cons.mp ht with e | e
      · rw [e]; exact Nat.le_refl _
      · exact (R.clo t e).1
  have hjl : j < Ng.length := (List.getElem?_eq_some_iff.mp hj).1
  have h0l : 0 < Ng.length := (List.getElem?_eq_some_iff.mp ha).1
  have R0 : Rep Γ (G.push μ.length) (startR μ.length Ng.length []) μ (start Ng [.ref f]) H := by
    refine ⟨R1.toRepM, fun i v e => ?_, ?_, List.mem_cons_self, R1.top⟩
    · have e : (([] : List Val).map some ++ List.replicate (Ng.length - ([] : List Val).length) none)[i]? = some (some v) := e
      rw [List.map_nil, List.nil_append, List.getElem?_replicate] at e
      split at e <;> cases e
    · rw [start_len (show ([V.ref f] : List V).length ≤ Ng.length from h0l)]
      simp [startR]
  -- a() in the try's body
  have act : ∀ (W' : WX) (pn : List (Addr × Obj)) (xe : Value → Shared → Prop), Takes (Z.tr pn xe) W' → PE (Z.tr pn xe) (.Call (.Name a p1) [] [] p2)
      (fun σZ HZ Q => σZ[0]? = some (some (.ref f)) ∧ HZ = H ∧ PostF Γ (G.push μ.length) H Q (fun cls d H' => W' cls d σZ H') (fLam N.length kb js ρ [] μ)) := by
    intro W' pn xe tk
    refine ⟨fun pinsZ sZ σZ HZ Q IZ h => ?_⟩
    obtain ⟨hs0, eH, q⟩ := h
    subst eH
    refine wpAny_Call_Name_kw (thn ((pe_var (X := Z.tr pn xe) (pos := p1) (i := 0) ha hva had hacd).run pinsZ sZ σZ HZ (fun v H1 => v = .ref f ∧ H1 = HZ) IZ ⟨.ref f, hs0, rfl, rfl⟩) fun u s1 ⟨v, H1, I1, r1, q1⟩ => ?_)
    obtain ⟨ev, eH⟩ := q1
    subst ev
    rw [eH] at I1
    obtain rfl : u = Value.ref f := r1
    have un : Un (frs X.stack) [] HZ HZ s.heap s1.heap := I1.base
    refine PySem.W.callWith_F0 ⟨_, _, _, _, un.keep f _ hf hn hfr (by simp)⟩ ?_
    have e0 : Env0 X.prog X.w X.K X.mg X.base Z.A Z.stack s1 HZ := by rw [hK]; exact I1.env0
    have run := lam_run (X := X) (Γ := Γ) (A' := Z.A) (outer' := Z.stack) (sZ := s1) (Q := Q) (E := fun cls d H' => W' cls d σZ H') hK (c.room.mono hlv) c.gd I R1 hf hn hfr hc S Cp hbind B e0 un q
    refine wpAny_call (codeAny_mono run fun r s' hq => ?_)
    cases r with
    | error e => exact L2.passAt tk σZ pinsZ HZ s1 e s' I1 hq
    | ok fl =>
      cases fl with
      | ret u => exact I1.after hq
      | next => exact False.elim hq
      | brk => exact False.elim hq
      | cont => exact False.elim hq
  have st1 : PS Z (.Assign [.Name y yp] (.Constant .none j0 cp) ap1) _ := ps_set (X := Z) (pos := ap1) (pos' := yp) c.nd hj (.inl hly) pe_non (hsw1 _) (.inr hly)
  have st2 := ps_catch (X := Z) (np := np) (np2 := np2) (mp := mp) (ap := ap) (pos := pos) (pos' := pos') (Wout := W) (tb := fun W' => tDrop fun σZ HZ Q => σZ[0]? = some (some (.ref f)) ∧ HZ = H ∧ PostF Γ (G.push μ.length) H Q (fun cls d H' => W' cls d σZ H') (fLam N.length kb js ρ [] μ))
    rfl rfl rfl c.nd hi hj hln (.inl hly) (.inr hly) ⟨hg, hxd, .inl hm⟩ c.tk hnd hncd (hsw _) (body := [.Expr (.Call (.Name a p1) [] [] p2) ep]) fun W' pn xe tk po => pss_one (ps_expr (X := Z.tr pn xe) (act W' pn xe tk) (hsw2 _))
  refine PSs.imp (pss_cons st1 (pss_cons st2 hrest)) fun D σZ HZ t => ?_
  obtain ⟨rfl, rfl, q⟩ := t
  have hs0 : ((start Ng [V.ref f]).set j (some V.non))[0]? = some (some (.ref f)) := by
    rw [List.getElem?_set_ne hj0]
    unfold L2.start
    simp
  have RN : Rep Γ (G.push μ.length) ((startR μ.length Ng.length []).set j (.d .non)) μ ((start Ng [.ref f]).set j (some .non)) HZ := R0.set (v := .d .non) (u := .non) (by show Is Γ _ _ _; unfold Is; rfl)
  refine ⟨hs0, rfl, ?_⟩
  generalize hq : fLam N.length kb js ρ [] μ = qq at q ⊢
  cases qq with
  | bad => exact q
  | ok p =>
    intro u G' H' st RM hu
    exact ⟨G', _, p.2, RN.go st RM, PostS.step st q⟩
  | ex e r m =>
    intro cls dx G' H' st RM er
    have er' := er
    obtain ⟨C', fs, hC', rfl, hnm, hl, hd⟩ := er
    have R' := RN.go st RM
    unfold fSeq fHeard at q
    cases ht : xt e.c cn with
    | none => simp only [ht] at q; exact q.elim
    | some b =>
      have hexm := T.ok _ _ _ _ _ ht hC' hxc
      simp only [ht] at q
      cases b with
      | false => exact ⟨false, hexm, nofun, fun _ => q (.ref C') dx G' _ H' st R' er'⟩
      | true =>
        refine ⟨true, hexm, fun _ b hb => ?_, nofun⟩
        have s2 : Step G' H' (G'.fzn b (ExV (.ref C') dx b)) (upd H' b (ExV (.ref C') dx b)) := R'.toRepM.stepFz hb
        have R2 : Rep Γ (G'.fzn b (ExV (.ref C') dx b)) _ m _ (upd H' b (ExV (.ref C') dx b)) := R'.go s2 (R'.toRepM.fzNew hb)
        have hv : VRel Γ (G'.fzn b (ExV (.ref C') dx b)) (.ref b) (.d (.exc e.c e.ns e.ds)) := by
          show Is Γ _ _ _
          unfold Is
          refine ⟨b, C', dx, rfl, hC', upd_same, fs, hnm, IsL.mono s2.fz _ _ hl, ?_⟩
          rcases hd with hd | ⟨d, d1, d2⟩
          · exact .inl hd
          · exact .inr ⟨d, d1, s2.fz _ _ d2⟩
        have R3 := (R2.set (i := j) hv).del (i := i)
        rw [set_set_del]
        exact ⟨_, _, m, R3, PostS.step (st.trans s2) q⟩
end
end Zl
set_option Elab.async false
set_option linter.all false
set_option maxRecDepth 100000
set_option maxHeartbeats 1000000
namespace Zl
open PySem PySem.Spec L2 PySem.W
open PyProof.Rows hiding St
open NdefX

/-! ## g(lambda: ..), g a def that hears it -/
structure LamN0 (X : Cx) (N fr : List Str) (js : List Nat) (params : Arguments) (scope : Scope) : Prop where
  sc : NScope N [] fr scope
  free : ∀ y ∈ scope.names, y.2 = .free → X.env.scope.names.lookup y.1 = some .cell ∨ X.env.scope.names.lookup y.1 = some .free
  frk : ∀ y ∈ fr, (y, NameKind.free) ∈ scope.names
  jx : js.map (fun j => X.N[j]?) = fr.map some
  dfl : defaultsOf params X.env = ([], [])
  bind : ∀ (body : Expr) (q : Str) (cl : List (Str × Addr)) (pm cv ctv : Value), bindArgs (PySem.W.kla_fn "<lambda>" q params body scope cl pm cv ctv) ⟨[], []⟩ = pure []
theorem lamN0_by {X : Cx} {N fr : List Str} {js : List Nat} {params : Arguments} {scope : Scope} (h1 : nscB N [] fr scope = true) (h2 : lamB X.env.scope scope fr = true) (h3 : js.map (fun j => X.N[j]?) = fr.map some) (h4 : defaultsOf params X.env = ([], []))
    (h5 : ∀ (body : Expr) (q : Str) (cl : List (Str × Addr)) (pm cv ctv : Value), bindArgs (PySem.W.kla_fn "<lambda>" q params body scope cl pm cv ctv) ⟨[], []⟩ = pure []) : LamN0 X N fr js params scope := by
  unfold lamB at h2
  obtain ⟨h2, h6⟩ := He.ba h2
  refine ⟨nscope_by h1, fun z hz e => ?_, fun z hz => ?_, h3, h4, h5⟩
  · have q := List.all_eq_true.mp h2 z hz
    rw [e] at q
    simp only [decide_true, Bool.not_true, Bool.false_or, Bool.or_eq_true, decide_eq_true_eq] at q
    exact q
  · have q := List.all_eq_true.mp h6 z hz
    obtain ⟨w, hw, q⟩ := List.any_eq_true.mp q
    obtain ⟨q1, q2⟩ := He.ba q
    have e1 := of_decide_eq_true q1
    have e2 := of_decide_eq_true q2
    obtain ⟨w1, w2⟩ := w
    cases e1
    cases e2
    exact hw
/-- a lambda that was made: what its maker left -/
structure Made (Γ : Gm) (X : Cx) (pins : List (Addr × Obj)) (σ : St) (H : Hp) (s : Shared) (G : Gh) (μ : Mu) (ρ : Rho) (k : Nat) (N fr : List Str) (js : List Nat) (params : Arguments) (body : Expr) (scope : Scope) (cl : List (Str × Addr)) (f c' : Addr) (pm ctv : Value) (kb : FE) : Prop where
  K : X.K = Γ.K
  I : Inv X pins σ H s
  R : Rep Γ G ρ μ σ H
  hf : s.heap.get? f = some (PySem.W.kla_obj "<lambda>" (X.env.qual ++ "<lambda>") params body scope cl pm c' ctv)
  hn : H f = none
  hfr : f ∉ frs X.stack
  hc : H c' = some (LamX.CodeO c' (X.env.qual ++ "<lambda>"))
  S : NScope N [] fr scope
  Cp : Caps X cl fr js
  bind : bindArgs (PySem.W.kla_fn "<lambda>" (X.env.qual ++ "<lambda>") params body scope cl pm (.ref c') ctv) ⟨[], []⟩ = pure []
  B : LamBW Γ X k N params body scope kb
/-- the reading of such a def's body: SR by the lambda's outcome -/
def tHear (Γ : Gm) (W : WX) (Ng : List Str) (f : Addr) (H : Hp) (G : Gh) (μ : Mu) (sem : FS) : TS := fun D σZ HZ => σZ = start Ng [.ref f] ∧ HZ = H ∧ PostS Γ W (G.push μ.length) H D (sem (startR μ.length Ng.length []) μ)
/-- a def that hears a lambda: SR tells what its body does with the outcome -/
def HearD (Γ : Gm) (P : Program) (w : World) (mg : Str → Option Value) (base : Heap) (kg k : Nat) (Ng : List Str) (qg : Str) (sg : Scope) (bg : List Stmt) (g : Addr) (SR : R (Val × Mu) → FS) : Prop :=
  ∀ (X : Cx) (W : WX) (cdg : Value) (E : XK) (pins : List (Addr × Obj)) (σ : St) (H : Hp) (s : Shared) (G : Gh) (μ : Mu) (ρ : Rho) (N fr : List Str) (js : List Nat) (params : Arguments) (body : Expr) (scope : Scope) (cl : List (Str × Addr)) (f c' : Addr) (pm ctv : Value) (kb : FE),
    X.prog = P → X.w = w → X.mg = mg → X.base = base → Made Γ X pins σ H s G μ ρ k N fr js params body scope cl f c' pm ctv kb → Cz Γ W (XC X.prog X.w Γ X.mg X.base Ng qg sg g cdg X.A X.stack s H E) kg →
    PassesOwn (model X.prog X.w) (XC X.prog X.w Γ X.mg X.base Ng qg sg g cdg X.A X.stack s H E).A (XC X.prog X.w Γ X.mg X.base Ng qg sg g cdg X.A X.stack s H E).env (XC X.prog X.w Γ X.mg X.base Ng qg sg g cdg X.A X.stack s H E).xe →
    PSs (XC X.prog X.w Γ X.mg X.base Ng qg sg g cdg X.A X.stack s H E) bg (tHear Γ W Ng f H G μ (SR (fLam N.length kb js ρ [] μ)))
def flR (r : R (Fl × Rho × Mu)) : R (Val × Mu) := match r with
  | .ok p => (match p.1 with
    | .nx => .ok (.d .non, p.2.2)
    | .rt v => .ok (v, p.2.2)
    | _ => .bad)
  | .ex e r m => .ex e r m
  | .bad => .bad
def clR (n : Nat) (r : R (Val × Mu)) : R (Val × Mu) := match r with
  | .ok p => (match closeV n p.2 p.1 with
    | some w => .ok (w, p.2.take n)
    | none => .bad)
  | .ex e r m => .ex e r (m.take n)
  | .bad => .bad
def fHand (N : Nat) (kb : FE) (js : List Nat) (FR : R (Val × Mu) → FF) : FE := fun ρ μ => (FR (fLam N kb js ρ [] μ) [] μ).at ρ
section
variable {Γ : Gm} {W : WX} {X : Cx} {lv k kg : Nat} {G : Gh} {μ : Mu} {ρ : Rho} {σ : St} {H : Hp}
/-- a def's body, by its promise -/
theorem body_post {N : Nat} {sm : FS} {Q : VK} {E : XK} {r0 : Rho} (RM : RepM Γ G μ H) (hr0 : r0 = startR μ.length N []) (q : PostF Γ G H Q E (fBody N sm [] μ)) : PostS Γ (fun cls d _ H => E cls d H) (G.push μ.length) H { nx := fun _ H' => Q .non H', rt := Q } (sm r0 μ) := by
  subst hr0
  unfold fBody at q
  have key : PostF Γ G H Q E (clR μ.length (flR (sm (startR μ.length N []) μ))) := by
    cases e : sm (startR μ.length N []) μ with
    | bad => rw [e] at q; exact q
    | ex er rr m => rw [e] at q; exact q
    | ok p =>
      rw [e] at q
      obtain ⟨fl, ρ', μ'⟩ := p
      cases fl with
      | nx => exact q
      | rt v => exact q
      | bk => exact q
      | ct => exact q
  cases e : sm (startR μ.length N []) μ with
  | bad => rw [e] at key; exact key
  | ex er rr m =>
    rw [e] at key
    intro cls dx G' σ' H' st R' er'
    exact close_post (ρ' := rr) (σ' := σ') (r := .ex er rr m) RM key cls dx G' H' st R' er'
  | ok p =>
    rw [e] at key
    obtain ⟨fl, ρ', μ'⟩ := p
    intro G' σ' H' st R'
    cases fl with
    | nx => exact close_post (ρ' := ρ') (σ' := σ') (r := .ok (Val.d .non, μ')) RM key .non G' H' st R' (by show Is Γ _ _ _; unfold Is; rfl)
    | rt v => exact fun u hu => close_post (ρ' := ρ') (σ' := σ') (r := .ok (v, μ')) RM key u G' H' st R' hu
    | bk => exact key.elim
    | ct => exact key.elim
theorem ze_hand {N fr : List Str} {js : List Nat} {params : Arguments} {body : Expr} {scope : Scope} {kb : FE} {cc Pt g : Addr} {xg qg a : Str} {pg : Arguments} {bg : List Stmt} {sg : Scope} {fdg : FuncData} {Ng : List Str} {SR : R (Val × Mu) → FS} {p lpos pos : Pos}
    (c : Cz Γ W X lv) (hlv : kg + 1 ≤ lv) (hg : Gl X xg) (hm : X.mg xg = some (.ref g)) (hdb : (xg == ("__debug__" : Str)) = false) (F : FunD Γ.K xg qg pg bg sg [] [] g fdg) (Sg : FnScope Ng [a] sg) (hbn : Binds Γ.K fdg [a] [])
    (hd : HearD Γ X.prog X.w X.mg X.base kg k Ng qg sg bg g SR) (T : TabAt Γ X cc Pt) (L : LamN0 X N fr js params scope) (B : LamBW Γ X k N params body scope kb) (he : starEach [.Lambda params body scope lpos] X.env = (false, eval (.Lambda params body scope lpos) X.env) :: starEach [] X.env) :
    PE X (.Call (.Name xg p) [.Lambda params body scope lpos] [] pos) (tZ Γ W (fHand N.length kb js fun q => fBody Ng.length (SR q))) := by
  obtain ⟨oc, od, dV, kV, doc, pm0, an, cdv, ct, osl, rfl, lk, hcd, _, _⟩ := F.ex
  have kp := F.kp
  rw [← c.K] at kp
  refine ⟨fun pins s σ H Q I t => ?_⟩
  obtain ⟨G, ρ, μ, R, q⟩ := t
  refine wpAny_Call_Name_kw (ld_glob I hg hm ?_ hdb)
  refine PySem.W.callWith_K (h₀ := X.base) I.ok.mod.kin kp ?_ he (by rfl)
  rw [he]
  show wpAny _ _ (spliced ((false, eval (.Lambda params body scope lpos) X.env) :: backTo pos (starEach [] X.env))) _ _ s
  have hfree : ∀ y ∈ scope.names, y.2 = .free → ∃ c, X.env.cells.lookup y.1 = some c := fun y hy e => (L.free y hy e).elim (fun z => I.ok.has _ (.inl z)) fun z => I.ok.has _ (.inr z)
  refine Calls.spliced_cons (lam_makeZ I R.toRepM T.tb T.code T.mem T.one L.dfl hfree fun f c' pm ctv H1 s1 I1 st1 R1 hf ff hc hca row => ?_)
  refine Calls.spliced_nil ⟨I1.kIn, ?_⟩
  have R2 : Rep Γ G ρ μ σ H1 := R.go st1 R1
  have hfr : f ∉ frs X.stack := fun z => by
    rcases I1.ok.stk with e | ⟨e, e2⟩
    · rw [e] at z; exact ff.2.2.1 z
    · rw [e] at z
      obtain ⟨env, hm, hz⟩ := List.mem_filterMap.mp z
      rcases List.mem_cons.mp hm with h | h
      · subst h
        rw [e2] at hz
        exact ff.2.1 (Option.some.inj hz).symm
      · exact ff.2.2.1 (List.mem_filterMap.mpr ⟨env, h, hz⟩)
  have mk : Made Γ X pins σ H1 s1 G μ ρ k N fr js params body scope (cloFrom X.env.cells scope.names []) f c' pm ctv kb := ⟨c.K, I1, R2, hf, ff.1, hfr, hc, L.sc, Caps.made I.ok L.free L.frk L.jx, L.bind _ _ _ _ _ _, B⟩
  have q1 : PostF Γ G H1 Q (WE W σ) (fBody Ng.length (SR (fLam N.length kb js ρ [] μ)) [] μ) := post_fn R2 (Post.step st1 q)
  have e0 := I1.env0
  have KX : Γ.K.In s1.heap := by rw [← c.K]; exact I1.kIn
  have rc : codeAny (model X.prog X.w) X.A (.call (.ref g) ⟨[.ref f], []⟩) (CR (L2.CX X.prog X.w) X.stack X.prog X.w H1 s1 Q (WE W σ)) s1 := by
    refine codeAny_call_function c.room.depth (KX _ _ lk) rfl Sg.co Sg.gen rfl (PySem.W.codeRec_of KX hcd) (hbn s1 [.ref f] KX rfl _ _ _ _ ?_)
    refine wpAny_newFunctionEnv_cells Sg.kind (fun y hy => ?_) fun env he s2 z => ?_
    · rcases Sg.par y.1 (List.of_mem_zip (a := y.1) (b := y.2) hy).1 with q | q
      · exact Or.inl q
      · exact Or.inr ⟨q, PySem.W.cellsFrom_some _ _ _ (Or.inl q)⟩
    · subst he
      refine ⟨I1.nolimit.keeps z.toInCall.keep, codeAny_func ?_⟩
      have tk : Takes (XC X.prog X.w Γ X.mg X.base Ng qg sg g cdv X.A X.stack s1 H1 (WE W σ)) (fun cls d _ H => WE W σ cls d H) := takes_of rfl rfl rfl rfl
      have po : PassesOwn (model X.prog X.w) (XC X.prog X.w Γ X.mg X.base Ng qg sg g cdv X.A X.stack s1 H1 (WE W σ)).A (XC X.prog X.w Γ X.mg X.base Ng qg sg g cdv X.A X.stack s1 H1 (WE W σ)).env (XC X.prog X.w Γ X.mg X.base Ng qg sg g cdv X.A X.stack s1 H1 (WE W σ)).xe := passes_of rfl
      have hps := hd X _ cdv (WE W σ) pins σ H1 s1 G μ ρ N fr js params body scope _ f c' pm ctv kb rfl rfl rfl rfl mk ⟨rfl, Sg.nd, rfl, (c.room.mono hlv).deeper _, c.gd, tk⟩ po
      have e0' : Env0 X.prog X.w Γ.K X.mg X.base X.A X.stack s1 H1 := by rw [← c.K]; exact e0
      refine wpAny_mono (hps.run [] s2 (L2.start Ng [.ref f]) H1 { nx := fun _ H' => Q .non H', rt := Q } (inv_start Sg c.room.hd e0' rfl (.cons rfl .nil) z) ⟨rfl, rfl, body_post R1 rfl q1⟩) (fun fl s' out => ?_) fun e s' out => out
      cases fl with
      | ret u => obtain ⟨v, σ', H', J, rv, q⟩ := out; exact ⟨v, H', J.os, J.bare, J.base, J.hok, rv, q⟩
      | next => obtain ⟨σ', H', J, q⟩ := out; exact ⟨V.non, H', J.os, J.bare, J.base, J.hok, rfl, q⟩
      | brk => obtain ⟨_, _, _, q⟩ := out; exact q.elim
      | cont => obtain ⟨_, _, _, q⟩ := out; exact q.elim
  refine wpAny_call (codeAny_mono rc fun r s' out => ?_)
  rcases back_to (passAt c.tk σ) I1 out with ⟨u, rfl, z⟩ | ⟨e, rfl, z⟩
  · exact z
  · exact z
end
end Zl
set_option Elab.async false
set_option linter.all false
set_option maxRecDepth 100000
set_option maxHeartbeats 1000000
namespace Zl
open PySem PySem.Spec L2 PySem.W
open PyProof.Rows hiding St

/-! ## what the head tells of exception classes -/
def exBB (K : Frag) (x : Str) : Bool := PySem.W.excIn K (He.ga K x) veMro "ValueError.__new__" && (PySem.W.keepIn K (.ref (He.ga K x)) && (decide (PySem.W.subIn K (.ref (He.ga K x)) (.type "BaseException") = some true) && decide (PySem.W.typeIn K (.ref (He.ga K x)) = some (.type "type"))))
theorem exBB_ok {K : Frag} {x : Str} (h : exBB K x = true) : ExB K (He.ga K x) := by
  obtain ⟨h1, h⟩ := He.ba h
  obtain ⟨h2, h⟩ := He.ba h
  obtain ⟨h3, h4⟩ := He.ba h
  exact ⟨h1, h2, of_decide_eq_true h3, of_decide_eq_true h4⟩
def exKB (K : Frag) (x : Str) : Bool :=
  (PySem.W.clsIn K (He.ga K x)).isSome && (decide (PySem.W.findIn K (.ref (He.ga K x)) "__getattribute__" = some (some (.builtin "BaseException.__getattribute__"))) && (decide (PySem.W.findIn K (.ref (He.ga K x)) "__getattr__" = some none) &&
  (decide (PySem.W.subIn K (.ref (He.ga K x)) (.type "BaseException") = some true) && (decide (PySem.W.findIn K (.ref (He.ga K x)) "__class__" = some (some (.builtin "object.__class__"))) && (decide (PySem.W.specialIn K (.builtin "object.__class__") "__get__" = some (some (.builtin "getset_descriptor.__get__"))) &&
  (decide (PySem.W.takesIn K (.builtin "object.__class__") = some true) && decide (PySem.W.mroIn K (He.ga K x) (.type "object") = some true)))))))
theorem exKB_ok {K : Frag} {x : Str} (h : exKB K x = true) : ExcK K (He.ga K x) := by
  obtain ⟨h1, h⟩ := He.ba h
  obtain ⟨h2, h⟩ := He.ba h
  obtain ⟨h3, h⟩ := He.ba h
  obtain ⟨h4, h⟩ := He.ba h
  obtain ⟨h5, h⟩ := He.ba h
  obtain ⟨h6, h⟩ := He.ba h
  obtain ⟨h7, h8⟩ := He.ba h
  exact ⟨h1, of_decide_eq_true h2, of_decide_eq_true h3, of_decide_eq_true h4, of_decide_eq_true h5, of_decide_eq_true h6, of_decide_eq_true h7, of_decide_eq_true h8⟩
abbrev XRow := Str × Str × Bool
def exmB (K : Frag) (p : XRow) : Bool := decide (PySem.W.exmOne K (.ref (He.ga K p.1)) (.ref (He.ga K p.2.1)) = some p.2.2)
def xtOf (l : List XRow) : Str → Str → Option Bool := fun c n => (l.find? fun p => decide (p.1 = c) && decide (p.2.1 = n)).map (·.2.2)
/-- the exception classes of a law -/
structure XcG (Γ : Gm) (exl : List Str) : Prop where
  xc : ∀ c C, Γ.xc c = some C → C = He.ga Γ.K c ∧ Γ.cl c = none ∧ c ∈ exl
theorem xcTb_of {Γ : Gm} {exl : List Str} {l : List XRow} (X : XcG Γ exl) (h : l.all (exmB Γ.K) = true) : XcTb Γ (xtOf l) := by
  refine ⟨fun c n b C N e h1 h2 => ?_⟩
  obtain ⟨rfl, _, _⟩ := X.xc c C h1
  obtain ⟨rfl, _, _⟩ := X.xc n N h2
  unfold xtOf at e
  cases q : l.find? fun p => decide (p.1 = c) && decide (p.2.1 = n) with
  | none => rw [q] at e; cases e
  | some p =>
    rw [q] at e
    cases e
    have hp := List.find?_some q
    obtain ⟨e1, e2⟩ := He.ba hp
    have e1 := of_decide_eq_true e1
    have e2 := of_decide_eq_true e2
    subst e1 e2
    exact of_decide_eq_true (List.all_eq_true.mp h p (List.mem_of_find?_eq_some q))
/-- .. and their instances' isinstance -/
abbrev KRow := Str × String × Str × Bool
/-- a row: the exception class, a built-in type (or "" and an own class), the answer -/
def kitXB (K : Frag) (p : KRow) : Bool := decide (PySem.W.kitOne K (.ref (He.ga K p.1)) (if p.2.1 = "" then .ref (He.ga K p.2.2.1) else .type p.2.1) = some p.2.2.2)
def tbX (l : List KRow) : KTb
  | .ty a, .ty b => kitB a b
  | .own c, .ty b => (l.find? fun p => decide (p.1 = c) && (decide (p.2.1 = b) && !decide (b = ""))).map (·.2.2.2)
  | .own c, .own n => (l.find? fun p => decide (p.1 = c) && (decide (p.2.1 = "") && decide (p.2.2.1 = n))).map (·.2.2.2)
  | _, _ => none
theorem tbX_ok {Γ : Gm} {exl : List Str} {l : List KRow} (X : XcG Γ exl) (hex : exl.all (exKB Γ.K) = true) (h : l.all (kitXB Γ.K) = true) (hl : ∀ p ∈ l, Γ.cl p.1 = none) (hl2 : ∀ p ∈ l, p.2.1 = "" → Γ.cl p.2.2.1 = none) : IsTb Γ (tbX l) := by
  refine ⟨fun a b r u v e hu hv => ?_, fun k C b r e hc => ?_, fun k C b r e hc => ?_⟩
  · cases a with
    | ty x =>
      cases b with
      | ty y => cases hu; cases hv; exact kit_ty e
      | own k => cases e
    | own c =>
      have hcu : ∀ p ∈ l, p.1 = c → u = .ref (He.ga Γ.K c) := fun p hp ec => by
        have n := hl p hp
        rw [ec] at n
        unfold kdV at hu
        simp only [n] at hu
        cases q : Γ.xc c with
        | none => rw [q] at hu; cases hu
        | some C =>
          rw [q] at hu
          cases hu
          rw [(X.xc c C q).1]
      cases b with
      | ty y =>
        cases hv
        have e : (l.find? fun p => decide (p.1 = c) && (decide (p.2.1 = y) && !decide (y = ""))).map (·.2.2.2) = some r := e
        cases q : l.find? fun p => decide (p.1 = c) && (decide (p.2.1 = y) && !decide (y = "")) with
        | none => rw [q] at e; cases e
        | some p =>
          rw [q] at e
          cases e
          have hq := List.find?_some q
          obtain ⟨e1, e2⟩ := He.ba hq
          obtain ⟨e2, e3⟩ := He.ba e2
          have e1 := of_decide_eq_true e1
          have e2 := of_decide_eq_true e2
          have ne : y ≠ "" := fun z => by rw [z] at e3; cases e3
          have hp := List.mem_of_find?_eq_some q
          have hk := of_decide_eq_true (List.all_eq_true.mp h p hp)
          rw [hcu p hp e1, ← e1]
          rw [if_neg (by rw [e2]; exact ne), e2] at hk
          exact hk
      | own n =>
        have e : (l.find? fun p => decide (p.1 = c) && (decide (p.2.1 = "") && decide (p.2.2.1 = n))).map (·.2.2.2) = some r := e
        cases q : l.find? fun p => decide (p.1 = c) && (decide (p.2.1 = "") && decide (p.2.2.1 = n)) with
        | none => rw [q] at e; cases e
        | some p =>
          rw [q] at e
          cases e
          have hq := List.find?_some q
          obtain ⟨e1, e2⟩ := He.ba hq
          obtain ⟨e2, e3⟩ := He.ba e2
          have e1 := of_decide_eq_true e1
          have e2 := of_decide_eq_true e2
          have e3 := of_decide_eq_true e3
          have hp := List.mem_of_find?_eq_some q
          have hk := of_decide_eq_true (List.all_eq_true.mp h p hp)
          have n2 := hl2 p hp e2
          rw [e3] at n2
          have hvv : v = .ref (He.ga Γ.K n) := by
            unfold kdV at hv
            simp only [n2] at hv
            cases q2 : Γ.xc n with
            | none => rw [q2] at hv; cases hv
            | some C =>
              rw [q2] at hv
              cases hv
              rw [(X.xc n C q2).1]
          rw [hcu p hp e1, hvv, ← e1, ← e3]
          rw [if_pos e2] at hk
          exact hk
  · have key : ∀ p ∈ l, p.1 ≠ k := fun p hp z => by
      have := hl p hp
      rw [z, hc] at this
      cases this
    cases b with
    | ty y =>
      have e : (l.find? fun p => decide (p.1 = k) && (decide (p.2.1 = y) && !decide (y = ""))).map (·.2.2.2) = some r := e
      cases q : l.find? fun p => decide (p.1 = k) && (decide (p.2.1 = y) && !decide (y = "")) with
      | none => rw [q] at e; cases e
      | some p =>
        have hq := List.find?_some q
        exact absurd (of_decide_eq_true (He.ba hq).1) (key p (List.mem_of_find?_eq_some q))
    | own n =>
      have e : (l.find? fun p => decide (p.1 = k) && (decide (p.2.1 = "") && decide (p.2.2.1 = n))).map (·.2.2.2) = some r := e
      cases q : l.find? fun p => decide (p.1 = k) && (decide (p.2.1 = "") && decide (p.2.2.1 = n)) with
      | none => rw [q] at e; cases e
      | some p =>
        have hq := List.find?_some q
        exact absurd (of_decide_eq_true (He.ba hq).1) (key p (List.mem_of_find?_eq_some q))
  · obtain ⟨rfl, n, hm⟩ := X.xc k C hc
    exact ⟨n, exKB_ok (List.all_eq_true.mp hex k hm)⟩
end Zl
set_option Elab.async false
set_option linter.all false
set_option maxRecDepth 100000
set_option maxHeartbeats 1000000
namespace Zl
open PySem PySem.Spec L2 PySem.W
open PyProof.Rows hiding St

/-! ## l.count(x), l.index(x) of data -/
def rCountD (K : PySem.W.Frag) : V → List V → Hp → VK → Prop := fun x xs H Q => ∃ (a : Addr) (y : V) (d : PyData) (ds : List PyData), x = V.ref a ∧ xs = [y] ∧ Dp K H (V.ref a) (.list ds) ∧ Dp K H y d ∧
  SeqAt.shaped (.list ds) = true ∧ SeqAt.shaped d = true ∧ Q (.int (ds.countP fun z => PyData.eqv z d : Nat)) H
theorem mt_countD {X : Cx} (hu : X.A.units + 65 < cLine) : MtR X "list.count" (rCountD X.K) := by
  intro pins s σ H x xs v us Q I rx rxs h
  obtain ⟨a, y, d, ds, rfl, rfl, hl, hy, sl, sd, q⟩ := h
  cases rx
  cases rxs with
  | cons ry rt =>
    rename_i uy ut
    cases rt
    obtain ⟨bs, r1⟩ := Dp.reads I d y uy hy ry
    have hxs : PyData.canLayAll0 ds = true := SeqAt.canLay_of_shaped sl
    have hroom : X.A.units + 1 + min (PyData.depthAll ds) d.depth < cLine := room_in_shaped sd hu
    cases hl with
    | lst hs ha =>
      obtain ⟨its, rv, ⟨⟨cls, dd, data, sls⟩, n, ho, hc, hdn, hdt⟩, hlen⟩ := I.list hs
      simp only at hc hdt
      subst hc hdt
      obtain ⟨as, h4⟩ := Dp.readsAll I ds _ its ha rv
      have hmap : its.map (SeqAt.readOf s.heap) = ds := SeqAt.readsAll_map ds its as hxs h4
      refine call_meets PySem.F.slot_list_count ⟨_, ho, rfl⟩ PySem.F.entry_list_count (PySem.F.args_list_count_2 _ _)
        (SeqAt.list_countAt a its.toArray n dd sls uy (fun u => PyData.eqv (SeqAt.readOf s.heap u) d)) ⟨ho, SeqAt.items_eqAt (vs := its.toArray) (show ReadsAll s.heap its.toArray.toList ds as from h4) r1 hxs (SeqAt.canLay_of_shaped sd) hroom, ?_⟩
      refine ⟨.int (ds.countP fun z => PyData.eqv z d : Nat), H, I.tok _, ⟨s.toks, ?_⟩, q⟩
      show Value.int ((its.toArray.toList.countP (fun u => PyData.eqv (SeqAt.readOf s.heap u) d) : Nat) : Int) s.toks = Value.int ((ds.countP fun z => PyData.eqv z d : Nat) : Int) s.toks
      have e : its.toArray.toList.countP (fun u => PyData.eqv (SeqAt.readOf s.heap u) d) = ds.countP fun z => PyData.eqv z d := by
        conv => rhs; rw [← hmap]
        rw [List.countP_map]
        rfl
      rw [e]
section
variable {Γ : Gm} {W : WX} {X : Cx}
def firstEq (ps : List PyData) (p : PyData) : Nat := ps.findIdx fun z => PyData.eqv z p
def oCount (n0 : Nat) : Val → List Val → Mu → R (Val × Mu)
  | v, [w], μ => (match lstV μ v with
    | some es => (match pyV μ w, D.pyL es with
      | some p, some ps => if SeqAt.shaped p = true ∧ SeqAt.shaped (.list ps) = true then .ok (.d (.int (ps.countP fun z => PyData.eqv z p : Nat)), μ) else .bad
      | _, _ => .bad)
    | none => .bad)
  | _, _, _ => .bad
def oIndex (n0 : Nat) : Val → List Val → Mu → R (Val × Mu)
  | v, [w], μ => (match lstV μ v with
    | some es => (match pyV μ w, D.pyL es with
      | some p, some ps => if SeqAt.shaped p = true ∧ SeqAt.shaped (.list ps) = true ∧ firstEq ps p < ps.length then .ok (.d (.int (firstEq ps p : Nat)), μ) else .bad
      | _, _ => .bad)
    | none => .bad)
  | _, _, _ => .bad
theorem oCount_ok : MB Γ W (rCountD Γ.K) oCount := by
  intro G ρ μ σ H Q u v us vs R r rs p
  unfold oCount at p
  split at p
  · rename_i w
    cases rs with
    | cons h t =>
      cases t
      cases e : lstV μ v with
      | none => simp only [e] at p; exact p.elim
      | some es =>
        simp only [e] at p
        cases e1 : pyV μ w with
        | none => simp only [e1] at p; exact p.elim
        | some pw =>
          cases e2 : D.pyL es with
          | none => simp only [e1, e2] at p; exact p.elim
          | some ps =>
            simp only [e1, e2] at p
            split at p
            · rename_i hz
              obtain ⟨a, ws, h1, h2, h3⟩ := lstV_ok R.toRepM r e
              exact ⟨a, _, pw, ps, h1, rfl, .lst (SqL.of h2) (D.dpL R.sub es ws ps h3 e2), pyV_ok R.toRepM h e1, hz.2, hz.1, Post.int R p⟩
            · exact p.elim
  · exact p.elim
theorem oIndex_ok : MB Γ W (rIndexD Γ.K) oIndex := by
  intro G ρ μ σ H Q u v us vs R r rs p
  unfold oIndex at p
  split at p
  · rename_i w
    cases rs with
    | cons h t =>
      cases t
      cases e : lstV μ v with
      | none => simp only [e] at p; exact p.elim
      | some es =>
        simp only [e] at p
        cases e1 : pyV μ w with
        | none => simp only [e1] at p; exact p.elim
        | some pw =>
          cases e2 : D.pyL es with
          | none => simp only [e1, e2] at p; exact p.elim
          | some ps =>
            simp only [e1, e2] at p
            split at p
            · rename_i hz
              obtain ⟨a, ws, h1, h2, h3⟩ := lstV_ok R.toRepM r e
              refine ⟨a, _, pw, ps, firstEq ps pw, ps[firstEq ps pw]'hz.2.2, h1, rfl, .lst (SqL.of h2) (D.dpL R.sub es ws ps h3 e2), pyV_ok R.toRepM h e1, hz.2.1, hz.1, List.getElem?_eq_getElem _, List.findIdx_getElem (w := hz.2.2), fun m z' hm hz' => ?_, Post.int R p⟩
              have hml : m < ps.length := (List.getElem?_eq_some_iff.mp hz').1
              have q := List.not_of_lt_findIdx (p := fun z => PyData.eqv z pw) (xs := ps) hm
              rw [List.getElem?_eq_getElem hml] at hz'
              cases hz'
              simpa using q
            · exact p.elim
  · exact p.elim
end
end Zl
set_option Elab.async false
set_option linter.all false
set_option maxRecDepth 100000
set_option maxHeartbeats 1000000
namespace Zl
open PySem PySem.Spec L2 PySem.W
open PyProof.Rows hiding St

/-! ## e.f, e an exception that is held -/
def fXFld (x : Str) (f : FE) : FE := fun ρ μ => (f ρ μ).bind fun p => match p.1 with
  | .d (.exc _ ns ds) => (match getF ns (ds.map Val.d) x with
    | some w => .ok (w, p.2)
    | none => .bad)
  | _ => .bad
section
variable {Γ : Gm} {W : WX} {X : Cx} {lv : Nat} {f : FE} {e : Expr} {pos : Pos}
theorem ze_xfld {n : Str} (c : Cz Γ W X lv) (hA : ∀ k C, Γ.xc k = some C → XfC Γ.K C ∧ PySem.W.findIn Γ.K (.ref C) n = some none) (he : PE X e (tZ Γ W f)) (hb : attributeBase e n X.env (eval e X.env) = eval e X.env) :
    PE X (.Attribute e n pos) (tZ Γ W (fXFld n f)) := by
  refine ⟨fun pins s σ H Q I t => ?_⟩
  obtain ⟨G, ρ, μ, R, p⟩ := t
  refine attr_of hb (thn (he.run pins s σ H (fun x H1 => ∃ (a C dd : Addr) (fs : List (Str × V)) (v : V), x = .ref a ∧ H1 a = some (ExV (.ref C) (some dd) a) ∧ H1 dd = some (.xd fs) ∧ XfC Γ.K C ∧ PySem.W.findIn Γ.K (.ref C) n = some none ∧ fs.lookup n = some v ∧ Q v H1) I ⟨G, ρ, μ, R, Post.bind p fun u v μ1 G1 H1 s1 R1 r1 p1 => ?_⟩) fun u s1 hh => ?_)
  · simp only at p1
    split at p1
    · rename_i ec ns ds
      cases eg : getF ns (ds.map Val.d) n with
      | none => simp only [eg] at p1; exact p1.elim
      | some z =>
        simp only [eg] at p1
        have r1 : Is Γ G1.F u _ := r1
        unfold Is at r1
        obtain ⟨a, C, d, rfl, hc, h1, fs, h2, h3, h4⟩ := r1
        subst h2
        obtain ⟨y, k1, k2⟩ := getF_ok (relOf h3) eg
        obtain ⟨q1, q2⟩ := hA _ _ hc
        rcases h4 with ⟨_, h4⟩ | ⟨dd, rfl, h5⟩
        · rw [h4] at k1; cases k1
        · exact ⟨a, C, dd, fs, y, rfl, R1.sub _ _ h1, R1.sub _ _ h5, q1, q2, k1, Post.here R1 p1 k2⟩
    · exact p1.elim
  · obtain ⟨x, H1, I1, rx, a, C, dd, fs, v, rfl, ha, ea, T, hno, l, q⟩ := hh
    obtain rfl : u = Value.ref a := rx
    obtain ⟨⟨oe, vs, h1, hz, hd⟩, _, _⟩ := I1.hok a _ ha
    have hx : ObjOk X.prog X.w H1 s1.heap dd (.xd fs) := I1.hok dd _ ea
    obtain ⟨mA, hns, hr⟩ := hx
    obtain ⟨od, ho, hl⟩ := lookIn_ns hns
    obtain ⟨u, hu, ru⟩ := RelO.some_of (v := v) (o := mA n) (by rw [← l]; exact hr n)
    have J : PySem.W.InstAt s1.heap a oe C (some od) := ⟨h1, hz.1, by unfold PySem.W.notCls; rw [hd], by rw [hz.2]; exact ho⟩
    rw [← c.K] at T hno
    exact HandSPX.exc_get I1.kIn J T.ga T.gg T.exC (PySem.W.findObj_own T.hdC hno rfl (by rw [hl, hu])) (handed_of ru) ⟨v, H1, I1.tok _, ru, q⟩
end
end Zl
set_option Elab.async false
set_option linter.all false
set_option maxRecDepth 100000
set_option maxHeartbeats 1000000
namespace Zl
open PySem PySem.Spec L2 PySem.W
open PyProof.Rows hiding St
section
variable {Γ : Gm} {W : WX} {X : Cx} {lv k kg : Nat}
/-- g(lambda: ..), by what the generator prints of g -/
theorem ze_handE {N fr : List Str} {js : List Nat} {params : Arguments} {body : Expr} {scope : Scope} {kb : FE} {cc Pt g : Addr} {xg qg a : Str} {pg : Arguments} {bg : List Stmt} {sg : Scope} {Ng : List Str} {SR : R (Val × Mu) → FS} {p lpos pos : Pos}
    (c : Cz Γ W X lv) (hlv : kg + 1 ≤ lv) (hg : Gl X xg) (hm : X.mg xg = some (.ref g)) (hdb : (xg == ("__debug__" : Str)) = false) (HF : ∃ fdg, FunD Γ.K xg qg pg bg sg [] [] g fdg ∧ Binds Γ.K fdg [a] []) (Sg : FnScope Ng [a] sg)
    (hd : HearD Γ X.prog X.w X.mg X.base kg k Ng qg sg bg g SR) (T : TabAt Γ X cc Pt) (L : LamN0 X N fr js params scope) (B : LamBW Γ X k N params body scope kb) (he : starEach [.Lambda params body scope lpos] X.env = (false, eval (.Lambda params body scope lpos) X.env) :: starEach [] X.env) :
    PE X (.Call (.Name xg p) [.Lambda params body scope lpos] [] pos) (tZ Γ W (fHand N.length kb js fun q => fBody Ng.length (SR q))) := by
  obtain ⟨fdg, F, hbn⟩ := HF
  exact ze_hand c hlv hg hm hdb F Sg hbn hd T L B he
end
end Zl
set_option Elab.async false
set_option linter.all false
set_option maxRecDepth 100000
set_option maxHeartbeats 4000000
namespace Zl
open PySem PySem.Spec L2 PySem.W
open PyProof.Rows hiding St
open NdefX

/-! ## exception classes with an own __init__(self, x): super().__init__(text); self.f = x -/
/-- what the head tells of such a class -/
structure XIn (K : Frag) (P : Program) (C fI : Addr) (qual : Str) (params : Arguments) (body : List Stmt) (scope : Scope) (fld : Str) : Prop where
  oex : OexC K C
  ini : PySem.W.findIn K (.ref C) "__init__" = some (some (.ref fI))
  typ : PySem.W.typeIn K (.ref fI) = some (.type "function")
  sup : ks_superIn K C C "__init__" = some (some (.builtin "ValueError.__init__"))
  opq : PySem.W.nsIn K cStatics "thirdparty.any" = some none
  ve : PySem.W.subIn K (.ref C) (.type "ValueError") = some true
  slf : PySem.W.mroIn K C (.ref C) = some true
  fno : PySem.W.findIn K (.ref C) fld = some none
  fn : ∃ (oc : Value) (od : Option Addr) (doc pm ct : Value) (an : Option Addr) (osl : Array (Option Value)) (cc cda : Addr) (ccl : Value) (cdd : Option Addr) (vs : Array Value) (ccs : Array (Option Value)) (cl : Value) (cld : Option Addr) (csl : Array (Option Value)) (file : Str) (tf : Tok),
    K.lookup fI = some ⟨oc, od, .func (PySem.W.fnX "__init__" qual params body scope [("__class__", cc)] .none .none doc pm an (.ref cda) ct), osl⟩ ∧ PySem.W.codeIn K (.ref cda) qual = true ∧
    K.lookup cda = some ⟨ccl, cdd, .fields vs, ccs⟩ ∧ vs[2]? = some (.str file tf) ∧ ((P.main.file : Str) == file) = true ∧ K.lookup cc = some ⟨cl, cld, .cell (some (.ref C)), csl⟩

/-- ValueError.__init__ bound to the exception, called -/
theorem call_kmw {prog : Program} {w : World} {A : Around} {E : Value → Shared → Prop} {h : Heap} {g : Array GenState} {d : Drawn} {t : Nat} {os : OsState}
    {nm q : Str} {C N : Addr} {bs bm : List Value} {hdct : Bool} {sn : List Str} {sub : List Value} {ab : Bool} {col : Option Bool} {dd : Option Addr} {k0 k1 k2 k3 k5 : Option Value} {u e t0 : Addr} {rest : List Value} {Q : Value → Shared → Prop}
    (hC : h.get? C = some (excClassObj nm q C N bs bm hdct sn sub ab col dd k0 k1 k2 k3 k5 "ValueError.__new__")) (he : h.get? e = some (HandSPX.excO C t0)) (hu : h.get? u = some (kxs_mw "ValueError.__init__" e)) (hrest : rest.length ≤ sizeLine)
    (hq : ∀ h' t1, (∀ b o, b ≠ e → h.get? b = some o → h'.get? b = some o) → h'.get? e = some (HandSPX.excO C t1) → Q .none ⟨h', g, d, t, os⟩) :
    wpAny (model prog w) A (call (.ref u) rest) Q E ⟨h, g, d, t, os⟩ := by
  refine wpAny_call (codeAny_of_tree ?_)
  show wpAny _ A.in1 (callAny (.ref u) ⟨rest, []⟩) _ _ _
  simp only [callAny]
  refine wpAny_bind (wpAny_load hu ?_)
  simp only [kxs_mw, show (Value.type "method-wrapper" == Value.type "method" || Value.type "method-wrapper" == Value.type "builtin_function_or_method" || Value.type "method-wrapper" == Value.type "method-wrapper") = true by decide, if_true]
  refine KFB.if_so (by decide) ?_
  refine wpAny_bind (check_bound_init F.excBase_ValueError.toExcCallFacts hC he rfl ?_)
  refine wpAny_bind (wpAny_pure (wpAny_pure ?_))
  refine ⟨plainId_quiet F.excBase_ValueError.init.plain _, codeAny_builtin F.excBase_ValueError.initEntry ?_⟩
  rw [Around.under_plainId F.excBase_ValueError.init.plain _]
  exact exc_init_tree (cls := .ref C) (t0 := t0) (dv := none) (c2 := .none) (c3 := .none) (b4 := .bool false) he hrest fun h' k e' _ => hq h' _ k e'

/-! ### type.__call__ with keywords -/
section
variable {M : Model} {prog : Program} {w : World} {A : Around} {E : Value → Shared → Prop} {R : Result → Shared → Prop} {h : Heap} {g : Array GenState} {d : Drawn} {t : Nat} {os : OsState}
variable {nm q : Str} {C N : Addr} {bs bm bmB : List Value} {hdct : Bool} {sn : List Str} {sub : List Value} {ab : Bool} {col : Option Bool} {dd : Option Addr} {k0 k1 k2 k3 k5 : Option Value} {B newId initId : String}
open PySem.HandSPX
theorem check_new_ownK (F : ExcBaseFacts B newId initId bmB) (hT : ∀ X : String, bm.contains (.type X) = bmB.contains (.type X)) {rest : List Value} {kw : List (Str × Value)} {Q : Unit → Shared → Prop}
    (hC : h.get? C = some (excClassObj nm q C N bs bm hdct sn sub ab col dd k0 k1 k2 k3 k5 newId)) (hq : Q () ⟨h, g, d, t, os⟩) : wpAny M A (checkBuiltinCall newId ⟨.ref C :: rest, kw⟩) Q E ⟨h, g, d, t, os⟩ := by
  have hcont : (Value.ref C :: bm).contains (.type B) = true := by rw [List.contains_cons, hT, F.hasB, Bool.or_true]
  have hstar := F.noStar
  simp only [checkBuiltinCall, F.newKind, F.newSplit, F.newRow]
  repeat (first | refine wpAny_loadPart_at hC ?_ | (refine wpAny_isSubtype_exc hC ?_; rw [hcont]) | refine wpAny_staticBase_exc hC ?_ | refine wpAny_madeBy_exc hC ?_ | simp only [bne_self_eq_false, Bool.false_eq_true, if_false] | wp_step)
  exact hq
theorem new_ownK (F : ExcBaseFacts B newId initId bmB) (hT : ∀ X : String, bm.contains (.type X) = bmB.contains (.type X)) {rest : List Value} {kw : List (Str × Value)}
    (hC : h.get? C = some (excClassObj nm q C N bs bm hdct sn sub ab col dd k0 k1 k2 k3 k5 newId))
    (hq : R (.ok (.ret (.ref (h.objs.size + 1)))) ⟨(h.push { cls := .type "tuple", data := .seq rest.toArray }).push
      { cls := .ref C, data := .fields #[.ref h.objs.size, .none, .none, .none, .bool false, .none] }, g, d, t, os⟩) (hrest : rest.length ≤ sizeLine) :
    codeAny (model prog w) A (.builtin newId ⟨.ref C :: rest, kw⟩) R ⟨h, g, d, t, os⟩ := by
  have hends := F.ends
  have hcB : (Value.ref C :: bm).contains (.type B) = true := by rw [List.contains_cons, hT, F.hasB, Bool.or_true]
  have hcA : (Value.ref C :: bm).contains (.type "AttributeError") = false := by rw [List.contains_cons, hT, F.noAttr]; rfl
  have hcN : (Value.ref C :: bm).contains (.type "NameError") = false := by rw [List.contains_cons, hT, F.noName]; rfl
  refine codeAny_builtinAt F.entry ?_
  unfold Builtin.«BaseException.__new__»
  refine _root_.PySem.wpAt_bind ?_
  show _root_.PySem.wpAt _ _ _ (stack >>= _) _ _ _
  refine _root_.PySem.wpAt_bind (_root_.PySem.wpAt_stack fun p below => _root_.PySem.wpAt_of_wpAny ?_)
  wp_walk
  refine _root_.PySem.wpAt_of_wpAny ?_
  rw [F.owner]
  repeat (first | with_reducible refine wpAny_madeHere_exc F.canon hC ?_ | with_reducible refine wpAny_loadPart_at hC ?_ | (with_reducible refine wpAny_isSubtype_exc hC ?_; first | rw [hcB] | rw [hcA] | rw [hcN]) | wp_step)
  show R _ _
  rw [Heap.size_push]
  exact hq
theorem type_call_ownK (F : ExcBaseFacts B newId initId bmB) (hT : ∀ X : String, bm.contains (.type X) = bmB.contains (.type X)) {rest : List Value} {kw : List (Str × Value)} {fI : Addr} {Q : Fin → Shared → Prop}
    (hC : h.get? C = some (excClassObj nm q C N bs bm hdct sn sub ab col dd k0 k1 k2 k3 k5 newId))
    (hi : W.Looks (model prog w) h (typeLookup (.ref C) "__init__") (some (.ref fI))) (hb : ∀ self, W.Looks (model prog w) h (bindSpecial (.ref fI) self) (.ref fI, [self])) (hrest : rest.length ≤ sizeLine)
    (hq : codeAny (model prog w) A (.call (.ref fI) ⟨.ref (h.objs.size + 1) :: rest, kw⟩)
      (fun r s' => match r with | .ok (.ret v) => v = .none ∧ Q (.done (.ret (.ref (h.objs.size + 1)))) s' | .ok _ => False | .error e => E e s')
      ⟨(h.push (W.kdv_tup rest)).push (excO C h.objs.size), g, d, t, os⟩) :
    wpAny (model prog w) A (Builtin.«type.__call__» ⟨.ref C :: rest, kw⟩) Q E ⟨h, g, d, t, os⟩ := by
  repeat (first | with_reducible refine wpAny_loadPart_at hC ?_ | with_reducible refine wpAny_madeBy_exc hC ?_ | wp_step)
  refine codeAny_call_builtin_code (Code.quiet_builtin _ F.quiet) (check_new_ownK F hT hC ?_)
  refine new_ownK F hT hC ?_ hrest
  show wpAny _ _ _ _ _ _
  have k : ∀ b o, h.get? b = some o → ((h.push (W.kdv_tup rest)).push (excO C h.objs.size)).get? b = some o := fun b o e => Heap.get?_push_of_some _ (Heap.get?_push_of_some _ e)
  have hC₁ := k _ _ hC
  have hget : ((h.push (W.kdv_tup rest)).push (excO C h.objs.size)).get? (h.objs.size + 1) = some (excO C h.objs.size) := by heap_get
  have hcC : (Value.ref C :: bm).contains (.ref C) = true := by simp
  have i1 := hi.keeps k
  have b1 := (hb (.ref (h.objs.size + 1))).keeps k
  unfold isInstance
  repeat (first | with_reducible refine wpAny_loadPart_at hget ?_ | (with_reducible refine wpAny_isSubtype_exc hC₁ ?_; rw [hcC]) | wp_step)
  show wpAny _ _ (typeLookup (.ref C) _) _ _ _
  refine i1.at ?_
  refine wpAny_holding (wpAny_bind (b1.at ?_))
  refine wpAny_bind (wpAny_call (codeAny_mono hq fun r s' z => ?_))
  rcases r with e | (v | _ | _ | _) <;> first | exact z | exact z.elim | skip
  obtain ⟨rfl, z⟩ := z
  first
    | exact wpAny_pure (wpAny_pure z)
    | (wp_walk; exact z)
theorem call_ownK (F : ExcBaseFacts B newId initId bmB) (hT : ∀ X : String, bm.contains (.type X) = bmB.contains (.type X)) {rest : List Value} {kw : List (Str × Value)} {fI : Addr}
    (hC : h.get? C = some (excClassObj nm q C N bs bm hdct sn sub ab col dd k0 k1 k2 k3 k5 newId))
    (hi : W.Looks (model prog w) h (typeLookup (.ref C) "__init__") (some (.ref fI))) (hb : ∀ self, W.Looks (model prog w) h (bindSpecial (.ref fI) self) (.ref fI, [self])) (hrest : rest.length ≤ sizeLine)
    (hq : codeAny (model prog w) (A.under (.builtin "type.__call__" ⟨.ref C :: rest, kw⟩)) (.call (.ref fI) ⟨.ref (h.objs.size + 1) :: rest, kw⟩) (W.InitBack (h.objs.size + 1) R)
      ⟨(h.push (W.kdv_tup rest)).push (excO C h.objs.size), g, d, t, os⟩) :
    codeAny (model prog w) A (.call (.ref C) ⟨rest, kw⟩) R ⟨h, g, d, t, os⟩ := by
  have f1 := tc_lookup
  have f2 := tc_bind (.ref C)
  have hTy : (⟨h, g, d, t, os⟩ : Shared).TypeIs (.ref C) "type" := ⟨_, hC, rfl⟩
  refine codeAny_of_tree ?_
  show wpAny _ _ (callAny (.ref C) _) _ _ _
  repeat (any_goals (first | assumption | with_reducible refine wpAny_loadPart_at hC ?_ | wp_step))
  refine ⟨rfl, ?_⟩
  refine codeAny_call_builtin_at (Code.quiet_builtin _ (by decide +kernel)) entry_typeCall (wpAny_check_type_call_sub hC (type_call_ownK F hT hC hi hb hrest ?_))
  refine codeAny_mono hq fun r s' z => ?_
  rcases r with e | (v | _ | _ | _) <;> exact z
end
end Zl
set_option Elab.async false
set_option linter.all false
set_option maxRecDepth 100000
set_option maxHeartbeats 4000000
namespace Zl
open PySem PySem.Spec L2 PySem.W
open PyProof.Rows hiding St
open NdefX

/-! ## the own __init__ of an exception class, run -/
/-- its promise: the object at a gets the field -/
def spX (C : Addr) (fld : Str) (okm : Hp → V → Prop) : Sp := fun vs H Q _ => ∃ a v, vs = [.ref a, v] ∧ H a = some (exo a C none) ∧ okm H v ∧ ∀ dx, H dx = none → dx ≠ a → Q .non (upd (upd H dx (exd dx [(fld, v)])) a (exo a C (some dx)))
/-- the message's promise: some text -/
def tMsg (okm : Hp → V → Prop) : TE := fun σ H Q => ∃ v, σ[1]? = some (some v) ∧ okm H v ∧ ∀ y : Str, Q (.str y) H
abbrev xiF (qual : Str) (params : Arguments) (body : List Stmt) (scope : Scope) (cc cda : Addr) : NF := ⟨"__init__", qual, params, body, scope, [("__class__", cc)], cda⟩
abbrev xiN (x : Str) : List Str := ["self", x, "__class__"]
abbrev xiX (P : Program) (w : World) (K : Frag) (mg : Str → Option Value) (base : Heap) (x qual : Str) (params : Arguments) (body : List Stmt) (scope : Scope) (cc cda fI : Addr) (A : Around) (outer : List Env) (s : Shared) (H : Hp) (E : XK) : Cx := ncx (L2.CX P w) P w K mg base (xiN x) (xiF qual params body scope cc cda) fI A outer s H E
abbrev xiBody (fld x : Str) (arg : Expr) (p0 p1 p2 p3 p4 p5 p6 p7 p8 : Pos) : List Stmt := [.Expr (.Call (.Attribute (.Call (.Name "super" p0) [] [] p1) "__init__" p2) [arg] [] p3) p4, .Assign [.Attribute (.Name "self" p5) fld p6] (.Name x p7) p8]
section
variable {P : Program} {w : World} {K : Frag} {mg : Str → Option Value} {base : Heap} {k : Nat} {C fI : Addr} {qual : Str} {params : Arguments} {scope : Scope} {fld x : Str} {arg : Expr} {ar : Arg} {okm : Hp → V → Prop} {p0 p1 p2 p3 p4 p5 p6 p7 p8 : Pos}
theorem xin_fng (F : XIn K P C fI qual params (xiBody fld x arg p0 p1 p2 p3 p4 p5 p6 p7 p8) scope fld)
    (S : NScope (xiN x) ["self", x] ["__class__"] scope) (hs : scope.names.lookup ("super" : Str) = some .globalImplicit) (hmg : mg "super" = none) (htop : (P.main.scope.names.lookup ("super" : Str)).isSome = false)
    (hpar : (params.posonlyargs ++ params.args).head? = some ar) (har : ar.arg = "self") (hxd : (x == ("__debug__" : Str)) = false) (hxc : (x == ("__classdict__" : Str)) = false) (hst : ∀ env, starEach [arg] env = [(false, eval arg env)])
    (hcall : ∀ env : Env, ∃ pl : Sem Bool, eval (.Call (.Attribute (.Call (.Name "super" p0) [] [] p1) "__init__" p2) [arg] [] p3) env = (do
      let ov ← attributeBase (.Call (.Name "super" p0) [] [] p1) "__init__" env (eval (.Call (.Name "super" p0) [] [] p1) env)
      standAt p2.atName
      let (f, first) ← holding [ov] (getMethod ov "__init__" pl)
      callWith p3 f first (backTo p3 (starEach [arg] env)) []))
    (hmsg : ∀ (cc cda : Addr) (A : Around) (outer : List Env) (s : Shared) (H : Hp) (E : XK), A.guards = some [] → Room k (xiX P w K mg base x qual params (xiBody fld x arg p0 p1 p2 p3 p4 p5 p6 p7 p8) scope cc cda fI A outer s H E).A →
      PE (xiX P w K mg base x qual params (xiBody fld x arg p0 p1 p2 p3 p4 p5 p6 p7 p8) scope cc cda fI A outer s H E) arg (tMsg okm)) :
    ∃ (doc pm ct : Value) (an : Option Addr) (cc cda : Addr), FnG P w K mg base (k + 1) fI (PySem.W.fnX "__init__" qual params (xiBody fld x arg p0 p1 p2 p3 p4 p5 p6 p7 p8) scope [("__class__", cc)] .none .none doc pm an (.ref cda) ct) ["self", x] (spX C fld okm) := by
  obtain ⟨oc, od, doc, pm, ct, an, osl, cc, cda, ccl, cdd, vs0, ccs, cl, cld, csl, file, tf, lk, hcd, lcd, hvs, hfile, lcc⟩ := F.fn
  refine ⟨doc, pm, ct, an, cc, cda, fun vs H Q E h => by obtain ⟨a, v, rfl, _⟩ := h; rfl, fun A outer s H args us vs Q E hr hg e0 bnd r hsp => ?_⟩
  obtain ⟨a, v, rfl, ha, hok, hq⟩ := hsp
  have KX : K.In s.heap := e0.mod.kin.keeps fun b o e => (e0.bs b o e).1
  have lim : s.heap.NoLimit := e0.mod.nolimit.keeps fun b o e => (e0.bs b o e).1
  refine codeAny_call_function hr.depth (KX _ _ lk) rfl S.co S.gen rfl (PySem.W.codeRec_of KX hcd) (bnd _ _ _ _ ?_)
  refine wpAny_newFunctionEnv S.nocell (fun y hy => S.par y.1 (List.of_mem_zip (a := y.1) (b := y.2) hy).1) (fun h₁ hns hsb => ⟨lim.fresh _ hsb, ks_codeAny_funcAt ?_⟩) S.kind
  have kp : ∀ b o, s.heap.get? b = some o → h₁.get? b = some o := fun b o e => hsb.extBut b o (Nat.ne_of_lt (Heap.lt_size e)) (Heap.get?_push_of_some _ e)
  have KX1 : K.In h₁ := KX.keeps kp
  have nx : x ≠ "self" := fun z => by
    have := S.nd
    rw [z] at this
    simp at this
  have ncx0 : x ≠ "__class__" := fun z => by
    have := S.nd
    rw [z] at this
    simp at this
  have one : ∀ y c, ([("__class__", cc)] : List (Str × Addr)).lookup y = some c → y = "__class__" ∧ c = cc := fun y c e => by
    simp only [List.lookup] at e
    split at e
    · rename_i q
      cases e
      exact ⟨beq_iff_eq.mp q, rfl⟩
    · cases e
  have CA : CellsAt [("__class__", cc)] ["__class__"] [some (V.ref C)] s.heap H := by
    refine ⟨rfl, fun y c e => ?_, fun y z c e1 e2 => (one y c e1).1.trans (one z c e2).1.symm, fun i y e => ?_⟩
    · obtain ⟨_, rfl⟩ := one y c e
      exact ⟨(e0.bs _ _ (e0.mod.kin _ _ lcc)).2, _, _, KX _ _ lcc, rfl⟩
    · have hy : y = "__class__" ∧ i = 0 := by
        cases i with
        | zero => simp at e; exact ⟨e.symm, rfl⟩
        | succ i => simp at e
      obtain ⟨rfl, rfl⟩ := hy
      exact ⟨cc, rfl, fun v hv => ⟨.ref C, by simp at hv; subst hv; rfl, _, KX _ _ lcc, rfl⟩⟩
  have J : Inv (xiX P w K mg base x qual params (xiBody fld x arg p0 p1 p2 p3 p4 p5 p6 p7 p8) scope cc cda fI A outer s H E) [] (startF (xiN x) [.ref a, v] [some (.ref C)]) H { s with heap := h₁, toks := s.toks + ((["self", x] : List Str).zip us).length } :=
    inv_startN (CX := L2.CX P w) (F := xiF qual params (xiBody fld x arg p0 p1 p2 p3 p4 p5 p6 p7 p8) scope cc cda) (f := fI) (E := E) (vs := [.ref a, v]) S hr.hd e0 rfl r CA hns kp
  obtain ⟨u, rfl, ru⟩ : ∃ u, us = [Value.ref a, u] ∧ RelV v u := by
    cases r with
    | cons h1 t =>
      cases t with
      | cons h2 t2 =>
        cases t2
        rename_i u1 u2
        obtain rfl : u1 = Value.ref a := h1
        exact ⟨_, rfl, h2⟩
  have T := F.oex
  obtain ⟨nm, q, N, bs, bm, sn, sub, ab, col, dd, k0, k1, k2, k3, k5, hCK, hbm⟩ := T.cls
  have hclK : clsIn K C = some { name := nm, bases := bs, mro := .ref C :: bm, ns := N, qualname := q, hasDict := true, slotNames := sn, subclasses := sub, abstract := ab, collection := col, hasDel := false } := by unfold clsIn; rw [hCK]
  obtain ⟨t1, hoa⟩ := exo_at J.hok ha
  have hoa : h₁.get? a = some ({ cls := .ref C, dict := none, data := .fields #[.ref t1, .none, .none, .none, .bool false, .none] } : Obj) := hoa
  have xC : a ≠ C := fun z => by
    have e1 := KX1 _ _ hCK
    rw [← z, hoa] at e1
    cases e1
  show _root_.PySem.wpAt (model P w) _ (.func _ (envF (xiF qual params (xiBody fld x arg p0 p1 p2 p3 p4 p5 p6 p7 p8) scope cc cda) fI s.heap.objs.size)) (execs _ (envF (xiF qual params (xiBody fld x arg p0 p1 p2 p3 p4 p5 p6 p7 p8) scope cc cda) fI s.heap.objs.size)) _ _ _
  obtain ⟨pl, hpl⟩ := hcall (envF (xiF qual params (xiBody fld x arg p0 p1 p2 p3 p4 p5 p6 p7 p8) scope cc cda) fI s.heap.objs.size)
  refine ks_wpAt_execs_cons (ks_wpAt_Expr_any (ks_wpAt_MethodCall (pl := pl) ?_ hpl) (by simp [interactive, S.kind]))
  refine ks_wpAt_super_base hs (S.frk _ (by simp)) (by decide) rfl (kp _ _ (KX _ _ lk)) rfl hpar rfl (KX1 _ _ lcd) rfl hvs hfile htop ?_
  obtain ⟨mb, hb1, hb2⟩ := J.mod.blt
  refine ks_loadName_global S.kind hs (Calls.loadGlobal_builtin (J.mod.glob.keeps J.bk) hmg (hb1.keeps J.bk) ((hb2 _ (by decide)).trans (by decide +kernel)) ⟨rfl, ?_⟩)
  refine wpAny_loadName_free S.kind (S.frk _ (by simp)) rfl ⟨_, KX1 _ _ lcc, rfl⟩ ?_
  refine wpAny_loadName_local (v := .ref a) S.kind (by rw [har]; exact S.par _ (by simp)) hns (by
    rw [har]
    show List.lookup ("self" : Str) [(x, u), ("self", Value.ref a)] = some (.ref a)
    have e1 : ((("self" : Str)) == x) = false := beq_eq_false_iff_ne.mpr (Ne.symm nx)
    rw [List.lookup, e1]
    rfl) ?_
  refine ks_wpAny_isType_cls (KX1 _ _ hCK) rfl ⟨rfl, ?_⟩
  refine ks_wpAny_call_super (KX1 _ _ hCK) rfl hoa rfl (fun c e => by cases e) (looks_mroIn KX1 F.slf) fun h2 hso k2 => ?_
  have KX2 : K.In h2 := KX1.keeps k2
  have J2 := J.kept (t' := s.toks + ((["self", x] : List Str).zip [Value.ref a, u]).length) k2
  have I2 : InstAt h2 a ({ cls := .ref C, dict := none, data := .fields #[.ref t1, .none, .none, .none, .bool false, .none] } : Obj) C none := ⟨k2 _ _ hoa, rfl, rfl, trivial⟩
  have hsup := F.sup
  unfold ks_superIn at hsup
  rw [hclK] at hsup
  refine kxs_getMethod kxs_ValueError hso (looks_opaque KX2 F.opq) (l₀ := .ref C :: bm) (fun A Q E s k q => wpAny_bind ((looks_clsIn KX2 hclK) A _ E s k (wpAny_pure q))) rfl KX2 hsup (I2.type.andThen (looks_subIn KX2 F.ve)) xC (by decide) ?_
  have hun : H h2.objs.size = none := J2.hok.fresh (Nat.le_refl _)
  have J3 := J2.kept (t' := s.toks + ((["self", x] : List Str).zip [Value.ref a, u]).length + 1) (h' := h2.push (kxs_mw "ValueError.__init__" a)) (fun b o e => Heap.get?_push_of_some _ e)
  have fp := J2.fpOk (b := h2.objs.size) (Nat.le_refl _) hun
  have J4 := J3.pins_of (pins' := [(h2.objs.size, kxs_mw "ValueError.__init__" a)]) (fun p hp => by
    obtain rfl : p = (h2.objs.size, kxs_mw "ValueError.__init__" a) := by simpa using hp
    exact ⟨Heap.get?_push_at rfl rfl, fp.1, fp.2.1, fp.2.2.1, fun v e => by cases e⟩)
  have hpa := pa_cons (hmsg cc cda A outer s H E hg (hr.deeper _)) pa_nil (hst _)
  have hrun := hpa.run p3 _ _ _ _ (fun vs H1 => ∃ y : Str, vs = [.str y] ∧ H1 = H) J4 ⟨v, rfl, hok, fun y => ⟨y, rfl, rfl⟩⟩
  show wpAny _ _ (callWith p3 (.ref h2.objs.size) [] (backTo p3 (starEach [arg] _)) []) _ _ _
  rw [hst] at hrun ⊢
  refine kxs_callWith (i := "ValueError.__init__") (x := a) rfl (Calls.evalArgs_plain (wpAny_mono hrun (fun us s1 hh => ?_) fun _ _ z => z))
  obtain ⟨vs, H1, J5, rv, y, rfl, rfl⟩ := hh
  have hu5 := (J5.pin (h2.objs.size, kxs_mw "ValueError.__init__" a) (by simp)).1
  refine ⟨show KxsAt "ValueError.__init__" h2.objs.size a s1.heap from hu5, ?_⟩
  obtain ⟨t2, hoa2⟩ := exo_at J5.hok ha
  have hl5 : us.length ≤ sizeLine := by
    have := rv.length
    rw [← this, sizeLine_eq]
    simp
  obtain ⟨hp1, g1, d1, tk1, os1⟩ := s1
  refine call_kmw (J5.kIn _ _ hCK) hoa2 hu5 hl5 fun h3 t3 k3 e3 => ?_
  have J6 := J5.write (t' := tk1) (x := a) (e := a) (o := exo a C none) (by rw [ha]; exact True.intro) (.inl rfl) k3 ⟨_, e3⟩ (exo_ok e3)
  have eu : upd H1 a (exo a C none) = H1 := by
    funext b
    by_cases hb : b = a
    · rw [hb, upd_same, ha]
    · rw [upd_ne hb]
  rw [eu] at J6
  refine _root_.PySem.wpAt_of_wpAny ?_
  have kself : (xiX P w K mg base x qual params (xiBody fld x arg p0 p1 p2 p3 p4 p5 p6 p7 p8) scope cc cda fI A outer s H1 E).N[0]? = some ("self" : Str) := rfl
  have kx : (xiX P w K mg base x qual params (xiBody fld x arg p0 p1 p2 p3 p4 p5 p6 p7 p8) scope cc cda fI A outer s H1 E).N[1]? = some x := rfl
  have st := ps_ost (f := fld) (pos := p8) (p' := p6) (pe_var (pos := p5) kself (.inl (S.par _ (by simp))) (by decide) (by decide)) (pe_var (pos := p7) kx (.inl (S.par _ (by simp))) hxd hxc)
  refine wpAny_mono ((pss_one st).run [] _ _ H1 { nx := fun _ H' => Q .non H', rt := fun _ _ => False, bk := fun _ _ => False, ct := fun _ _ => False } (J6.pins_of fun p hp => absurd hp (by simp)) ⟨v, rfl, .ref a, rfl, a, C, rfl, T, F.fno, .inl ⟨ha, hq⟩⟩) (fun fl s' out => ?_) fun e s' out => out
  cases fl with
  | ret u => obtain ⟨_, _, _, _, _, z⟩ := out; exact z.elim
  | next => obtain ⟨σ', H', J7, q⟩ := out; exact ⟨V.non, H', J7.os, J7.bare, J7.base, J7.hok, rfl, q⟩
  | brk => obtain ⟨_, _, _, q⟩ := out; exact q.elim
  | cont => obtain ⟨_, _, _, q⟩ := out; exact q.elim
end
end Zl
set_option Elab.async false
set_option linter.all false
set_option maxRecDepth 100000
set_option maxHeartbeats 4000000
namespace Zl
open PySem PySem.Spec L2 PySem.W
open PyProof.Rows hiding St
open NdefX

/-! ## f"..{x}..", x a datum: some text -/
def okFmt : D → Bool
  | .int i => decide (i.natAbs.log2 < 1920) && decide ((Str.ofString (toString i)).length ≤ 1000000)
  | .bl _ => true
  | .non => true
  | .str x => decide (x.length ≤ 1000000)
  | .tup ds => okRepr (.tup ds)
  | .kt ds => okRepr (.kt ds)
  | .lst ds => okRepr (.lst ds)
  | _ => false
def okD (Γ : Gm) (fmt : D → Bool) (H : Hp) (v : V) : Prop := ∃ (F : Hp) (d : D), Same F H ∧ Is Γ F v d ∧ fmt d = true
theorem okD.upd {Γ : Gm} {fmt : D → Bool} {H : Hp} {v : V} {a : Addr} {o : HO} (h : okD Γ fmt H v) (n : H a = none) : okD Γ fmt (upd H a o) v := by
  obtain ⟨F, d, h1, h2, h3⟩ := h
  exact ⟨F, d, fun b u e => same_upd n _ _ (h1 _ _ e), h2, h3⟩
/-- a text no longer than a million signs -/
def tFmtD (Γ : Gm) (te : TE) : TE := fun σ H Q => te σ H fun x H1 => okD Γ okFmt H1 x ∧ ∀ y : Str, y.length ≤ 1000000 → Q (.str y) H1
section
variable {Γ : Gm} {X : Cx}
theorem okRepr_ref {Γ : Gm} {F : Hp} {v : V} {d : D} (h : okRepr d = true) (r : Is Γ F v d) : ∃ a, v = .ref a := by
  unfold okRepr at h
  cases e : D.py d with
  | none => rw [e] at h; cases h
  | some p =>
    rw [e] at h
    simp only [Bool.and_eq_true] at h
    cases d with
    | tup ds => unfold Is at r; obtain ⟨a, us, ea, _⟩ := r; exact ⟨a, ea⟩
    | kt ds => unfold Is at r; obtain ⟨a, us, ea, _⟩ := r; exact ⟨a, ea⟩
    | lst ds => unfold Is at r; obtain ⟨a, us, ea, _⟩ := r; exact ⟨a, ea⟩
    | _ => cases h.2
theorem fmt_ref {pins : List (Addr × Obj)} {σ : St} {H : Hp} {s : Shared} {E : Value → Shared → Prop} {F : Hp} {a : Addr} {d : D} (hK : X.K = Γ.K) (hg : X.A.guards = some []) (hu : X.A.units + 65 < cLine) (I : Inv X pins σ H s) (hF : Same F H) (hi : Is Γ F (.ref a) d) (ok : okRepr d = true) :
    wpAny (model X.prog X.w) X.A (formatField (.ref a) Str.empty) (fun r s' => ∃ (y : Str) (t : Tok), r = .str y t ∧ y.length ≤ 1000000 ∧ Inv X pins σ H s') E s := by
  unfold okRepr at ok
  cases e : D.py d with
  | none => rw [e] at ok; cases ok
  | some p =>
    rw [e] at ok
    simp only [Bool.and_eq_true] at ok
    obtain ⟨⟨⟨⟨h1, h2⟩, h3⟩, h4⟩, _⟩ := ok
    have dp := D.dp (Γ := Γ) hF d (.ref a) p hi e
    rw [← hK] at dp
    obtain ⟨as, rr⟩ := Dp.reads I p (.ref a) (.ref a) dp rfl
    have h3 := of_decide_eq_true h3
    have h4 := of_decide_eq_true h4
    refine formatField_of_reads rr h1 (fun z => ?_) hg (by omega) (fun _ _ e => e) (fun h' u tk hk => ⟨p.shown, u, rfl, h4, I.kept (t' := tk) hk⟩) (by rw [sizeLine_eq]; omega)
    rw [z] at h2; cases h2
theorem fmt_any {pins : List (Addr × Obj)} {σ : St} {H : Hp} {s : Shared} {E : Value → Shared → Prop} {v : V} {u : Value} (hK : X.K = Γ.K) (hg : X.A.guards = some []) (hu : X.A.units + 65 < cLine) (I : Inv X pins σ H s) (hi : okD Γ okFmt H v) (r : L2.RelV v u) :
    wpAny (model X.prog X.w) X.A (formatField u Str.empty) (fun r s' => ∃ (y : Str) (t : Tok), r = .str y t ∧ y.length ≤ 1000000 ∧ Inv X pins σ H s') E s := by
  obtain ⟨F, d, hF, hi, ok⟩ := hi
  cases d with
  | int i =>
    obtain ⟨h1, h2⟩ := He.ba (show (decide (i.natAbs.log2 < 1920) && decide ((Str.ofString (toString i)).length ≤ 1000000)) = true from ok)
    unfold Is at hi; subst hi
    obtain ⟨t, rfl⟩ := (show ∃ t, u = Value.int i t from r)
    exact wpAny_formatField_int (of_decide_eq_true h1) ⟨_, _, rfl, of_decide_eq_true h2, I.tok _⟩
  | bl b =>
    unfold Is at hi; subst hi
    obtain rfl : u = Value.bool b := r
    exact wpAny_formatField_bool ⟨_, _, rfl, by cases b <;> decide, I.tok _⟩
  | non =>
    unfold Is at hi; subst hi
    obtain rfl : u = Value.none := r
    exact wpAny_formatField_none ⟨_, _, rfl, by decide, I.tok _⟩
  | str x =>
    have h1 := of_decide_eq_true (show decide (x.length ≤ 1000000) = true from ok)
    unfold Is at hi; subst hi
    obtain ⟨t, rfl⟩ := (show ∃ t, u = Value.str x t from r)
    exact wpAny_formatField_str ⟨_, _, rfl, h1, I⟩ ⟨_, _, rfl, h1, I.tok _⟩ (by rw [sizeLine_eq]; omega)
  | tup ds =>
    obtain ⟨a, rfl⟩ := okRepr_ref ok hi
    obtain rfl : u = Value.ref a := r
    exact fmt_ref hK hg hu I hF hi ok
  | kt ds =>
    obtain ⟨a, rfl⟩ := okRepr_ref ok hi
    obtain rfl : u = Value.ref a := r
    exact fmt_ref hK hg hu I hF hi ok
  | lst ds =>
    obtain ⟨a, rfl⟩ := okRepr_ref ok hi
    obtain rfl : u = Value.ref a := r
    exact fmt_ref hK hg hu I hF hi ok
  | _ => cases ok
theorem pe_fmtD {e : Expr} {te : TE} {pos : Pos} (hK : X.K = Γ.K) (hg : X.A.guards = some []) (hu : X.A.units + 65 < cLine) (he : PE X e te) : PE X (.FormattedValue e (-1) none pos) (tFmtD Γ te) := by
  refine ⟨fun pins s σ H Q I h => ?_⟩
  refine wpAny_FormattedValue_plain (thn (he.run pins s σ H _ I h) fun v s1 hv => ?_)
  obtain ⟨x, H1, I1, r1, hok, q⟩ := hv
  refine thn (fmt_any hK hg hu I1 hok r1) fun r s2 ⟨y, t, e, hy, I2⟩ => ?_
  subst e
  exact ⟨.str y, H1, I2, ⟨t, rfl⟩, q y hy⟩
/-- f"a{x}b" -/
theorem pe_msg3 {a b : Str} {x : Str} {j1 j2 : Nat} {q1 q2 q3 q4 pos : Pos} (hK : X.K = Γ.K) (hg : X.A.guards = some []) (hu : X.A.units + 65 < cLine) (hN : X.N[1]? = some x) (hv : Vis X.env.scope x) (hd : (x == ("__debug__" : Str)) = false) (hcd : (x == ("__classdict__" : Str)) = false) (hl : a.length + b.length ≤ 1000000) :
    PE X (.JoinedStr [.Constant (.str a) j1 q1, .FormattedValue (.Name x q2) (-1) none q3, .Constant (.str b) j2 q4] pos) (tMsg (okD Γ okFmt)) := by
  refine PE.imp (pe_joined (.cons pe_str (.cons (pe_fmtD hK hg hu (pe_var hN hv hd hcd)) (.cons pe_str .nil)))) fun σ H Q t => ?_
  obtain ⟨v, h1, h2, h3⟩ := t
  refine ⟨a, rfl, by rw [strLen_append, sizeLine_eq]; simp [Str.empty, Str.length]; have : a.cps.size = a.length := rfl; omega, v, h1, h2, fun y hy => ⟨y, rfl, ?_, b, rfl, ?_, h3 _⟩⟩
  · rw [strLen_append, strLen_append, sizeLine_eq]
    have : (Str.empty).length = 0 := rfl
    omega
  · rw [strLen_append, strLen_append, strLen_append, sizeLine_eq]
    have : (Str.empty).length = 0 := rfl
    omega
/-- f"a{x}" -/
theorem pe_msg2 {a : Str} {x : Str} {j1 : Nat} {q1 q2 q3 pos : Pos} (hK : X.K = Γ.K) (hg : X.A.guards = some []) (hu : X.A.units + 65 < cLine) (hN : X.N[1]? = some x) (hv : Vis X.env.scope x) (hd : (x == ("__debug__" : Str)) = false) (hcd : (x == ("__classdict__" : Str)) = false) (hl : a.length ≤ 1000000) :
    PE X (.JoinedStr [.Constant (.str a) j1 q1, .FormattedValue (.Name x q2) (-1) none q3] pos) (tMsg (okD Γ okFmt)) := by
  refine PE.imp (pe_joined (.cons pe_str (.cons (pe_fmtD hK hg hu (pe_var hN hv hd hcd)) .nil))) fun σ H Q t => ?_
  obtain ⟨v, h1, h2, h3⟩ := t
  have e0 : (Str.empty).length = 0 := rfl
  refine ⟨a, rfl, by rw [strLen_append, sizeLine_eq]; omega, v, h1, h2, fun y hy => ⟨y, rfl, ?_, h3 _⟩⟩
  · rw [strLen_append, strLen_append, sizeLine_eq]
    omega
/-- a text as it is -/
theorem pe_msg1 {okm : Hp → V → Prop} {a : Str} {j1 : Nat} {q1 : Pos} : PE X (.Constant (.str a) j1 q1) (tMsg okm) := PE.imp pe_str fun σ H Q ⟨_, _, _, h3⟩ => h3 a
end
end Zl
set_option Elab.async false
set_option linter.all false
set_option maxRecDepth 100000
set_option maxHeartbeats 4000000
namespace Zl
open PySem PySem.Spec L2 PySem.W
open PyProof.Rows hiding St
open NdefX

/-! ## X(e), X(x = e) with an own __init__: raised, or held as a value -/
/-- a class, its __init__'s promise -/
structure XMk (Γ : Gm) (P : Program) (w : World) (mg : Str → Option Value) (base : Heap) (lv : Nat) (C : Addr) (x fld : Str) (fmt : D → Bool) : Prop where
  oex : OexC Γ.K C
  ini : ∃ fI : Addr, PySem.W.findIn Γ.K (.ref C) "__init__" = some (some (.ref fI)) ∧ PySem.W.typeIn Γ.K (.ref fI) = some (.type "function") ∧
    ∃ fd, FnG P w Γ.K mg base lv fI fd ["self", x] (spX C fld (okD Γ fmt)) ∧ (∀ us : List Value, us.length = 2 → bindArgs fd ⟨us, []⟩ = pure ((["self", x] : List Str).zip us)) ∧ (∀ u v : Value, bindArgs fd ⟨[u], [(x, v)]⟩ = pure ([("self", u), (x, v)] : List (Str × Value)))
section
variable {Γ : Gm} {W : WX} {X : Cx} {lv : Nat} {C : Addr} {x fld : Str} {fmt : D → Bool} {pins : List (Addr × Obj)} {σ : St}
/-- the call of the class; what is left behind -/
def XLeft (X : Cx) (pins : List (Addr × Obj)) (σ : St) (C : Addr) (fld : Str) (v : V) (H1 : Hp) (hp : Heap) (os : OsState) (u : Value) (s' : Shared) : Prop :=
  u = .ref (hp.objs.size + 1) ∧ ∃ (hp2 : Heap) (dx : Addr), (∀ b o, hp.get? b = some o → hp2.get? b = some o) ∧ H1 dx = none ∧ dx ≠ hp.objs.size + 1 ∧ s'.os = os ∧ AllBare s'.gens ∧
    Un (frs X.stack) [] (upd H1 (hp.objs.size + 1) (exo (hp.objs.size + 1) C none)) (upd (upd (upd H1 (hp.objs.size + 1) (exo (hp.objs.size + 1) C none)) dx (exd dx [(fld, v)])) (hp.objs.size + 1) (exo (hp.objs.size + 1) C (some dx))) hp2 s'.heap ∧
    HOk X.prog X.w (upd (upd (upd H1 (hp.objs.size + 1) (exo (hp.objs.size + 1) C none)) dx (exd dx [(fld, v)])) (hp.objs.size + 1) (exo (hp.objs.size + 1) C (some dx))) s'.heap
theorem xmk_call {H1 : Hp} {hp : Heap} {g : Array GenState} {dr : Drawn} {tk : Nat} {os : OsState} {v : V} {u0 : Value} {args : Args} (c : Cz Γ W X (lv + 1)) (M : XMk Γ X.prog X.w X.mg X.base lv C x fld fmt) (I1 : Inv X pins σ H1 ⟨hp, g, dr, tk, os⟩) (hok : okD Γ fmt H1 v) (r : L2.RelV v u0) (ha : args = ⟨[u0], []⟩ ∨ args = ⟨[], [(x, u0)]⟩) :
    codeAny (model X.prog X.w) X.A (.call (.ref C) args) (fun r s' => ∃ u, r = .ok (.ret u) ∧ XLeft X pins σ C fld v H1 hp os u s') ⟨hp, g, dr, tk, os⟩ := by
  obtain ⟨fI, iC, tI, fd, FG, hb1, hb2⟩ := M.ini
  have T := M.oex
  rw [← c.K] at T iC tI FG
  obtain ⟨nm, q, N, bs, bm, sn, sub, ab, col, dd, k0, k1, k2, k3, k5, hC, hbm⟩ := T.cls
  have hsz : hp.objs.size ≤ hp.objs.size + 1 := Nat.le_succ _
  have hn : H1 (hp.objs.size + 1) = none := I1.hok.fresh hsz
  have go : ∀ (rest : List Value) (kw : List (Str × Value)), rest.length ≤ sizeLine → (∀ s : Shared, BindsTo s fd ⟨Value.ref (hp.objs.size + 1) :: rest, kw⟩ ((["self", x] : List Str).zip [Value.ref (hp.objs.size + 1), u0])) →
      codeAny (model X.prog X.w) X.A (.call (.ref C) ⟨rest, kw⟩) (fun r s' => ∃ u, r = .ok (.ret u) ∧ XLeft X pins σ C fld v H1 hp os u s') ⟨hp, g, dr, tk, os⟩ := by
    intro rest kw hrest hbind
    have kk : ∀ b o, hp.get? b = some o → ((hp.push (PySem.W.kdv_tup rest)).push (PySem.HandSPX.excO C hp.objs.size)).get? b = some o := fun b o e => Heap.get?_push_of_some _ (Heap.get?_push_of_some _ e)
    have hget : ((hp.push (PySem.W.kdv_tup rest)).push (PySem.HandSPX.excO C hp.objs.size)).get? (hp.objs.size + 1) = some (PySem.HandSPX.excO C hp.objs.size) := by heap_get
    have I2 : Inv X pins σ (upd H1 (hp.objs.size + 1) (exo (hp.objs.size + 1) C none)) ⟨(hp.push (PySem.W.kdv_tup rest)).push (PySem.HandSPX.excO C hp.objs.size), g, dr, tk, os⟩ :=
      I1.laid (t' := tk) (a := hp.objs.size + 1) (o := exo (hp.objs.size + 1) C none) (h' := (hp.push (PySem.W.kdv_tup rest)).push (PySem.HandSPX.excO C hp.objs.size)) kk hsz (exo_ok hget)
    refine call_ownK F.excBase_ValueError (fun Y => PySem.HandSPX.refsVE_contains Y bm hbm) (I1.kIn _ _ hC) (PySem.W.looks_findIn I1.kIn iC) (fun self => PySem.W.bind_fn I1.kIn self tI) hrest ?_
    have gd : (X.A.under (.builtin "type.__call__" ⟨Value.ref C :: rest, kw⟩)).guards = some [] := by
      have hg := c.gd
      first | exact hg | (simpa [Around.under, Code.guards, Code.isGuard, guardIds, pushGuards] using hg)
    refine codeAny_mono (FG.run _ X.stack _ _ ⟨Value.ref (hp.objs.size + 1) :: rest, kw⟩ [Value.ref (hp.objs.size + 1), u0] [.ref (hp.objs.size + 1), v]
      (fun w' H2 => w' = .non ∧ ∃ dx, H1 dx = none ∧ dx ≠ hp.objs.size + 1 ∧ H2 = upd (upd (upd H1 (hp.objs.size + 1) (exo (hp.objs.size + 1) C none)) dx (exd dx [(fld, v)])) (hp.objs.size + 1) (exo (hp.objs.size + 1) C (some dx))) (fun _ _ _ => False)
      (c.room.make C rest kw) gd (I2.env0.make C rest kw) (hbind _) (.cons rfl (.cons r .nil)) ⟨hp.objs.size + 1, v, rfl, upd_same, hok.upd hn, fun dx h1 h2 => ⟨rfl, dx, by rw [upd_ne h2] at h1; exact h1, h2, rfl⟩⟩) fun r s' hq => ?_
    cases r with
    | error e =>
      obtain ⟨_, _, _, _, _, _, _, _, _, _, _, _, z⟩ := (show L2.CX X.prog X.w X.stack _ _ (fun _ _ _ => False) e s' from hq)
      exact z.elim
    | ok fl =>
      cases fl with
      | ret u =>
        obtain ⟨w', H2, os2, bare2, un2, hok2, rw', ev, dx, hd1, hd2, eH⟩ := hq
        subst ev eH
        obtain rfl : u = Value.none := rw'
        exact ⟨rfl, _, rfl, rfl, _, dx, kk, hd1, hd2, os2, bare2, un2, hok2⟩
      | next => exact hq.elim
      | brk => exact hq.elim
      | cont => exact hq.elim
  rcases ha with e | e
  · subst e
    exact go [u0] [] (by rw [sizeLine_eq]; simp) fun s => .of_eq (hb1 _ rfl)
  · subst e
    exact go [] [(x, u0)] (by rw [sizeLine_eq]; simp) fun s => .of_eq (hb2 _ _)
/-- held as a value -/
theorem xleft_val {H1 : Hp} {hp : Heap} {g : Array GenState} {dr : Drawn} {tk : Nat} {os : OsState} {v : V} {u : Value} {s' : Shared} (I1 : Inv X pins σ H1 ⟨hp, g, dr, tk, os⟩) (h : XLeft X pins σ C fld v H1 hp os u s') :
    ∃ a dx, u = .ref a ∧ H1 a = none ∧ H1 dx = none ∧ dx ≠ a ∧ Inv X pins σ (upd (upd H1 dx (.xd [(fld, v)])) a (ExV (.ref C) (some dx) a)) s' := by
  obtain ⟨rfl, hp2, dx, k, hd1, hda, ho, hb, un, hok⟩ := h
  obtain ⟨h2, g2, d2, t2, os2⟩ := s'
  have ha : hp.objs.size ≤ hp.objs.size + 1 := Nat.le_succ _
  generalize ea : hp.objs.size + 1 = a at *
  have hn : H1 a = none := I1.hok.fresh ha
  refine ⟨a, dx, rfl, hn, hd1, hda, ?_⟩
  generalize eH2 : upd (upd (upd H1 a (exo a C none)) dx (exd dx [(fld, v)])) a (exo a C (some dx)) = H2 at un hok
  have ea2 : H2 a = some (exo a C (some dx)) := by rw [← eH2, upd_same]
  have ed2 : H2 dx = some (exd dx [(fld, v)]) := by rw [← eH2, upd_ne hda, upd_same]
  have eo2 : ∀ b, b ≠ a → b ≠ dx → H2 b = H1 b := fun b n1 n2 => by rw [← eH2, upd_ne n1, upd_ne n2, upd_ne n1]
  obtain ⟨t0, hoe⟩ := exo_at hok ea2
  obtain ⟨mA, hns, rel⟩ := exd_at hok ed2
  let H3 := upd (upd H1 dx (.xd [(fld, v)])) a (ExV (.ref C) (some dx) a)
  have e3a : H3 a = some (ExV (.ref C) (some dx) a) := upd_same
  have e3d : H3 dx = some (.xd [(fld, v)]) := by show upd _ _ _ dx = _; rw [upd_ne hda, upd_same]
  have e3o : ∀ b, b ≠ a → b ≠ dx → H3 b = H1 b := fun b n1 n2 => by show upd _ _ _ b = _; rw [upd_ne n1, upd_ne n2]
  have nha : ∀ {b : Addr} {o : Obj}, hp.get? b = some o → b ≠ a := fun {b o} z => Nat.ne_of_lt (Nat.lt_of_lt_of_le (Heap.lt_size z) ha)
  have up : ∀ {b : Addr}, b ≠ a → H1 b = none → upd H1 a (exo a C none) b = none := fun {b} hb n => by rw [upd_ne hb]; exact n
  have nd : ∀ {b : Addr} {o : Obj}, hp.get? b = some o → H1 b = none → b ≠ dx := fun {b o} z n e => by
    have y := un.free b o (k b o z) (up (nha z) n) (by simp)
    rw [e, ed2] at y
    cases y
  have some1 : ∀ {b : Addr} {o : HO}, H1 b = some o → b ≠ a ∧ b ≠ dx := fun {b o} z => ⟨ne_of_none z hn, ne_of_none z hd1⟩
  have U : Un (frs X.stack) [] H1 H3 hp h2 := {
    keep := fun b o z n hf hx => un.keep b o (k b o z) (up (nha z) n) hf hx
    slot := fun b o z n hf hx => un.slot b o (k b o z) (up (nha z) n) hf hx
    free := fun b o z n hx => by rw [e3o b (nha z) (nd z n)]; exact n
    there := fun b o z hx => un.there b o (k b o z) hx
    tups := fun b xs z => by rw [e3o b (some1 z).1 (some1 z).2]; exact z
    frzs := fun b o v z => by rw [e3o b (some1 z).1 (some1 z).2]; exact z
    tbls := fun b ps z => ⟨#[], by rw [e3o b (some1 z).1 (some1 z).2, z]; simp⟩ }
  have hok3 : HOk X.prog X.w H3 h2 := fun b o z => by
    by_cases hba : b = a
    · subst hba
      rw [e3a] at z
      cases z
      exact exV_ok hoe ⟨rfl, rfl⟩ rfl
    · by_cases hbd : b = dx
      · subst hbd
        rw [e3d] at z
        cases z
        exact ⟨mA, hns, rel⟩
      · rw [e3o b hba hbd, ← eo2 b hba hbd] at z
        refine (hok b o z).stay (fun c v hc y => y) (fun c hc => ?_) fun c xs hc => ?_
        · rw [e3o c (at_ne ea2 hc exo_own) (at_ne ed2 hc exd_own), ← eo2 c (at_ne ea2 hc exo_own) (at_ne ed2 hc exd_own)]; exact hc
        · rw [e3o c (at_ne ea2 hc exo_tup) (at_ne ed2 hc exd_tup), ← eo2 c (at_ne ea2 hc exo_tup) (at_ne ed2 hc exd_tup)]; exact hc
  exact I1.call' (s' := ⟨h2, g2, d2, t2, os2⟩) (ch := []) ho U hok3 hb (fun b z => absurd z (by simp))
/-- raised -/
theorem xleft_mk {H1 : Hp} {hp : Heap} {g : Array GenState} {dr : Drawn} {tk : Nat} {os : OsState} {v : V} {u : Value} {s' : Shared} {Q : XK} (T : Raises X (.ref C)) (I1 : Inv X pins σ H1 ⟨hp, g, dr, tk, os⟩) (h : XLeft X pins σ C fld v H1 hp os u s')
    (q : ∀ dx, H1 dx = none → Q (.ref C) (some dx) (upd H1 dx (.xd [(fld, v)]))) : MkP X pins σ Q u s' := by
  obtain ⟨rfl, hp2, dx, k, hd1, hda, ho, hb, un, hok⟩ := h
  obtain ⟨h2, g2, d2, t2, os2⟩ := s'
  have hn : H1 (hp.objs.size + 1) = none := I1.hok.fresh (Nat.le_succ _)
  refine mk_end T I1 (Nat.le_succ _) k un hok ho hb upd_same (by rw [upd_ne hda, upd_same]) hd1 ?_
  have e : upd (del (upd (upd (upd H1 (hp.objs.size + 1) (exo (hp.objs.size + 1) C none)) dx (exd dx [(fld, v)])) (hp.objs.size + 1) (exo (hp.objs.size + 1) C (some dx))) (hp.objs.size + 1)) dx (.xd [(fld, v)]) = upd H1 dx (.xd [(fld, v)]) := by
    funext b
    by_cases h1 : b = dx
    · rw [h1, upd_same, upd_same]
    · rw [upd_ne h1, upd_ne h1]
      by_cases h3 : b = hp.objs.size + 1
      · rw [h3, del_same, hn]
      · rw [del_ne h3, upd_ne h3, upd_ne h1, upd_ne h3]
  rw [e]
  exact q dx hd1
end
end Zl
set_option Elab.async false
set_option linter.all false
set_option maxRecDepth 100000
set_option maxHeartbeats 4000000
namespace Zl
open PySem PySem.Spec L2 PySem.W
open PyProof.Rows hiding St
open NdefX

def xv (cn fld : Str) (fmt : D → Bool) : Val → Mu → R (Val × Mu)
  | .d z, μ => if fmt z = true then .ok (.d (.exc cn [fld] [z]), μ) else .bad
  | _, _ => .bad
def xr (cn fld : Str) (fmt : D → Bool) (ρ : Rho) : Val → Mu → R (Fl × Rho × Mu)
  | .d z, μ => if fmt z = true then .ex ⟨cn, [fld], [z]⟩ ρ μ else .bad
  | _, _ => .bad
def fXNew (cn fld : Str) (fmt : D → Bool) (f : FE) : FE := fun ρ μ => (f ρ μ).bind fun p => xv cn fld fmt p.1 p.2
def fXRaise (cn fld : Str) (fmt : D → Bool) (f : FE) : FS := fun ρ μ => (f ρ μ).bind fun p => xr cn fld fmt ρ p.1 p.2
def fX0 (cn : Str) (f : FE) : FE := fun ρ μ => (f ρ μ).bind fun p => .ok (.d (.exc cn [] []), p.2)
section
variable {Γ : Gm} {W : WX} {X : Cx} {lv : Nat} {C : Addr} {n cn x fld : Str} {fmt : D → Bool} {f : FE} {e : Expr} {p pos : Pos}
/-- the frozen heap takes the exception and its dict -/
theorem xfz {G : Gh} {ρ : Rho} {μ : Mu} {σ : St} {H : Hp} {v : V} {d : D} {a dx : Addr} (R : Rep Γ G ρ μ σ H) (hx : Γ.xc cn = some C) (hv : VRel Γ G v (.d d)) (hn : H a = none) (hd : H dx = none) (hne : dx ≠ a) :
    ∃ G', Step G H G' (upd (upd H dx (.xd [(fld, v)])) a (ExV (.ref C) (some dx) a)) ∧ Rep Γ G' ρ μ σ (upd (upd H dx (.xd [(fld, v)])) a (ExV (.ref C) (some dx) a)) ∧ VRel Γ G' (.ref a) (.d (.exc cn [fld] [d])) := by
  have s1 := R.toRepM.stepFz (o := .xd [(fld, v)]) hd
  have R1 := R.toRepM.fzNew (o := .xd [(fld, v)]) hd
  have hn1 : upd H dx (.xd [(fld, v)]) a = none := by rw [upd_ne (Ne.symm hne)]; exact hn
  have s2 := R1.stepFz (o := ExV (.ref C) (some dx) a) hn1
  have R2 := R1.fzNew (o := ExV (.ref C) (some dx) a) hn1
  refine ⟨_, s1.trans s2, R.go (s1.trans s2) R2, ?_⟩
  show Is Γ _ _ _
  unfold Is
  have hv : Is Γ G.F v d := hv
  refine ⟨a, C, some dx, rfl, hx, upd_same, [(fld, v)], rfl, IsL.cons (Is.mono (s1.trans s2).fz _ _ hv) IsL.nil, .inr ⟨dx, rfl, s2.fz _ _ upd_same⟩⟩
theorem xnew_in {G : Gh} {ρ : Rho} {μ : Mu} {σ : St} {H : Hp} {Q : VK} {v : V} {z : Val} (hx : Γ.xc cn = some C) (R : Rep Γ G ρ μ σ H) (r : VRel Γ G v z)
    (q : Post Γ W G ρ σ H Q (xv cn fld fmt z μ)) : okD Γ fmt H v ∧ ∀ a dx, H a = none → H dx = none → dx ≠ a → Q (.ref a) (upd (upd H dx (.xd [(fld, v)])) a (ExV (.ref C) (some dx) a)) := by
  cases z with
  | own k => exact q.elim
  | d z =>
    have q : Post Γ W G ρ σ H Q (if fmt z = true then .ok (.d (.exc cn [fld] [z]), μ) else .bad) := q
    split at q
    · rename_i hf
      refine ⟨⟨G.F, z, R.sub, r, hf⟩, fun a dx ha hd hne => ?_⟩
      obtain ⟨G', s, R', hv⟩ := xfz (fld := fld) R hx r ha hd hne
      exact q _ _ _ s R' hv
    · exact q.elim
theorem ze_mkX (c : Cz Γ W X (lv + 1)) (hx : Γ.xc cn = some C) (M : XMk Γ X.prog X.w X.mg X.base lv C x fld fmt) (hg : Gl X n) (hm : X.mg n = some (.ref C)) (he : PE X e (tZ Γ W f)) (hdb : (n == ("__debug__" : Str)) = false)
    (hs : starEach [e] X.env = (false, eval e X.env) :: starEach [] X.env) : PE X (.Call (.Name n p) [e] [] pos) (tZ Γ W (fXNew cn fld fmt f)) := by
  refine ⟨fun pins s σ H Q I t => ?_⟩
  obtain ⟨G, ρ, μ, R, q⟩ := t
  have kC := M.oex.kC
  rw [← c.K] at kC
  refine wpAny_Call_Name_kw (ld_glob I hg hm ?_ hdb)
  have hpa := pa_cons he pa_nil hs
  refine PySem.W.callWith_K (h₀ := X.base) I.ok.mod.kin kC (thn (hpa.run pos pins s σ H (fun vs H1 => ∃ v, vs = [v] ∧ okD Γ fmt H1 v ∧ ∀ a dx, H1 a = none → H1 dx = none → dx ≠ a → Q (.ref a) (upd (upd H1 dx (.xd [(fld, v)])) a (ExV (.ref C) (some dx) a))) I ⟨G, ρ, μ, R, Post.bind q fun u z μ1 G1 H1 s1 R1 r1 p1 => ⟨u, rfl, xnew_in hx R1 r1 p1⟩⟩) fun us s1 hh => ?_) hs (by rfl)
  obtain ⟨vs, H1, I1, rv, v, ev, hok, hq⟩ := hh
  subst ev
  obtain ⟨u0, rfl, r0⟩ := vals1 rv
  refine ⟨I1.kIn, ?_⟩
  obtain ⟨hp, g, dr, tk, os⟩ := s1
  refine wpAny_call (codeAny_mono (xmk_call c M I1 hok r0 (.inl rfl)) fun r s' hr => ?_)
  obtain ⟨u, rfl, hl⟩ := hr
  obtain ⟨a, dx, rfl, ha, hd, hne, J⟩ := xleft_val I1 hl
  exact ⟨.ref a, _, J, rfl, hq a dx ha hd hne⟩
theorem ze_mkXK {kpos : Pos} (c : Cz Γ W X (lv + 1)) (hx : Γ.xc cn = some C) (M : XMk Γ X.prog X.w X.mg X.base lv C x fld fmt) (hg : Gl X n) (hm : X.mg n = some (.ref C)) (he : PE X e (tZ Γ W f)) (hdb : (n == ("__debug__" : Str)) = false)
    (hall : (backToKw pos (keywordEach [⟨some x, e, kpos⟩] X.env)).all (·.1.isSome) = true) (hks : (backToKw pos (keywordEach [⟨some x, e, kpos⟩] X.env)).filterMap (·.1) = [x])
    (hpl : ((backTo pos (starEach [] X.env)).any (·.1) || (backToKw pos (keywordEach [⟨some x, e, kpos⟩] X.env)).any (·.1.isNone)) = false) : PE X (.Call (.Name n p) [] [⟨some x, e, kpos⟩] pos) (tZ Γ W (fXNew cn fld fmt f)) := by
  refine ⟨fun pins s σ H Q I t => ?_⟩
  obtain ⟨G, ρ, μ, R, q⟩ := t
  have kC := M.oex.kC
  rw [← c.K] at kC
  refine wpAny_Call_Name_kw (ld_glob I hg hm ?_ hdb)
  refine PySem.W.callWith_KW0 (h₀ := X.base) I.ok.mod.kin kC hall ?_ hpl
  refine thn ((pk_cons he pk_nil).run pos pins s σ H (fun vs H1 => ∃ v, vs = [v] ∧ okD Γ fmt H1 v ∧ ∀ a dx, H1 a = none → H1 dx = none → dx ≠ a → Q (.ref a) (upd (upd H1 dx (.xd [(fld, v)])) a (ExV (.ref C) (some dx) a))) I ⟨G, ρ, μ, R, Post.bind q fun u z μ1 G1 H1 s1 R1 r1 p1 => ⟨u, rfl, xnew_in hx R1 r1 p1⟩⟩) fun us s1 hh => ?_
  obtain ⟨vs, H1, I1, rv, v, ev, hok, hq⟩ := hh
  subst ev
  obtain ⟨u0, rfl, r0⟩ := vals1 rv
  refine ⟨I1.kIn, ?_⟩
  rw [hks]
  obtain ⟨hp, g, dr, tk, os⟩ := s1
  refine wpAny_call (codeAny_mono (xmk_call c M I1 hok r0 (.inr rfl)) fun r s' hr => ?_)
  obtain ⟨u, rfl, hl⟩ := hr
  obtain ⟨a, dx, rfl, ha, hd, hne, J⟩ := xleft_val I1 hl
  exact ⟨.ref a, _, J, rfl, hq a dx ha hd hne⟩
/-- raise X(e) -/
theorem zs_raiseX {rpos : Pos} (c : Cz Γ W X (lv + 1)) (hx : Γ.xc cn = some C) (M : XMk Γ X.prog X.w X.mg X.base lv C x fld fmt) (hg : Gl X n) (hm : X.mg n = some (.ref C)) (he : PE X e (tZ Γ W f)) (hdb : (n == ("__debug__" : Str)) = false)
    (hs : starEach [e] X.env = (false, eval e X.env) :: starEach [] X.env) : PS X (.Raise (some (.Call (.Name n p) [e] [] pos)) none rpos) (tZS Γ W (fXRaise cn fld fmt f)) := by
  have T := M.oex
  rw [← c.K] at T
  have hpa := pa_cons he pa_nil hs
  have mk : PMk X (.Call (.Name n p) [e] [] pos) (fun σ H Q => tZ Γ W f σ H fun v H1 => okD Γ fmt H1 v ∧ ∀ dx, H1 dx = none → Q (.ref C) (some dx) (upd H1 dx (.xd [(fld, v)]))) := by
    intro pins s σ H Q I t
    refine wpAny_Call_Name_kw (ld_glob I hg hm ?_ hdb)
    refine PySem.W.callWith_K (h₀ := X.base) I.ok.mod.kin T.kC (thn (hpa.run pos pins s σ H (fun vs H1 => ∃ v, vs = [v] ∧ okD Γ fmt H1 v ∧ ∀ dx, H1 dx = none → Q (.ref C) (some dx) (upd H1 dx (.xd [(fld, v)]))) I ?_) fun us s1 hh => ?_) hs (by rfl)
    · obtain ⟨G, ρ, μ, R, q⟩ := t
      exact ⟨G, ρ, μ, R, Post.imp (fun u H' z => ⟨u, rfl, z⟩) q⟩
    obtain ⟨vs, H1, I1, rv, v, ev, hok, hq⟩ := hh
    subst ev
    obtain ⟨u0, rfl, r0⟩ := vals1 rv
    refine ⟨I1.kIn, ?_⟩
    obtain ⟨hp, g, dr, tk, os⟩ := s1
    refine wpAny_call (codeAny_mono (xmk_call c M I1 hok r0 (.inl rfl)) fun r s' hr => ?_)
    obtain ⟨u, rfl, hl⟩ := hr
    exact xleft_mk (raises_own T.exC T.tyC) I1 hl hq
  refine PS.imp (ps_raise c.calm c.tk mk) fun D σ H t => ?_
  obtain ⟨G, ρ, μ, R, q⟩ := t
  refine ⟨G, ρ, μ, R, ?_⟩
  unfold fXRaise at q
  have key : ∀ r : Zl.R (Val × Mu), PostS Γ W G H D (r.bind fun p => xr cn fld fmt ρ p.1 p.2) → Post Γ W G ρ σ H (fun v H1 => okD Γ fmt H1 v ∧ ∀ dx, H1 dx = none → W (.ref C) (some dx) σ (upd H1 dx (.xd [(fld, v)]))) r := by
    intro r q
    cases r with
    | bad => exact q.elim
    | ex e r0 m =>
      intro cls dx G' H' st R' er
      exact q cls dx G' σ H' st R' er
    | ok p1 =>
      obtain ⟨z, μ1⟩ := p1
      intro u G' H' st R' hu
      cases z with
      | own k => exact q.elim
      | d z =>
        have q : PostS Γ W G H D (if fmt z = true then .ex ⟨cn, [fld], [z]⟩ ρ μ1 else .bad) := q
        split at q
        · rename_i hf
          refine ⟨⟨G'.F, z, R'.sub, hu, hf⟩, fun dx hd => ?_⟩
          have s1 := R'.toRepM.stepFz (o := .xd [(fld, u)]) hd
          have R1 := R'.go s1 (R'.toRepM.fzNew (o := .xd [(fld, u)]) hd)
          have hu : Is Γ G'.F u z := hu
          exact q (.ref C) (some dx) _ σ _ (st.trans s1) R1 ⟨C, [(fld, u)], hx, rfl, rfl, IsL.cons (Is.mono s1.fz _ _ hu) IsL.nil, .inr ⟨dx, rfl, upd_same⟩⟩
        · exact q.elim
  exact key _ q
/-- X(e) as a value, X without own __init__ -/
theorem ze_mk0 (c : Cz Γ W X lv) (hx : Γ.xc cn = some C) (E : ExB Γ.K C) (hg : Gl X n) (hm : X.mg n = some (.ref C)) (he : PE X e (tZ Γ W f)) (hdb : (n == ("__debug__" : Str)) = false)
    (hs : starEach [e] X.env = (false, eval e X.env) :: starEach [] X.env) : PE X (.Call (.Name n p) [e] [] pos) (tZ Γ W (fX0 cn f)) := by
  have E' : ExB X.K C := by rw [c.K]; exact E
  refine ⟨fun pins s σ H Q I t => ?_⟩
  obtain ⟨G, ρ, μ, R, q⟩ := t
  refine wpAny_Call_Name_kw (ld_glob I hg hm ?_ hdb)
  refine PySem.W.callWith_K (h₀ := X.base) I.ok.mod.kin E'.keep ?_ hs (by rfl)
  rw [hs]
  show wpAny _ _ (spliced ((false, eval e X.env) :: backTo pos (starEach [] X.env))) _ _ s
  refine Calls.spliced_cons (thn (he.run pins s σ H (fun _ H1 => ∀ a, H1 a = none → Q (.ref a) (upd H1 a (ExV (.ref C) none a))) I ⟨G, ρ, μ, R, Post.bind q fun u z μ1 G1 H1 s1 R1 r1 p1 => fun a ha => ?_⟩) fun u s1 ⟨v, H1, I1, r1, q1⟩ => ?_)
  · have s2 := R1.toRepM.stepFz (o := ExV (.ref C) none a) ha
    have R2 := R1.go s2 (R1.toRepM.fzNew (o := ExV (.ref C) none a) ha)
    refine p1 _ _ _ s2 R2 ?_
    show Is Γ _ _ _
    unfold Is
    exact ⟨a, C, none, rfl, hx, upd_same, [], rfl, IsL.nil, .inl ⟨rfl, rfl⟩⟩
  · refine Calls.spliced_nil ⟨I1.kIn, ?_⟩
    show wpAny _ _ (call (.ref C) [u]) _ _ _
    obtain ⟨bm, N, nm, qn, bs, hdct, sn, sub, ab, col, dd, k0, k1, k2, k3, k5, mN, hC, hN, hni, T⟩ := exc_obj I1.kIn E'.own
    refine wpAny_call_exc_subT F.excBase_ValueError T hC hN hni (fun h' a hm => ?_) (by show 1 ≤ sizeLine; rw [sizeLine_eq]; omega)
    have hn : H1 a = none := I1.hok.gone hm.new
    obtain ⟨t, ht, _, _⟩ := hm.there
    exact ⟨.ref a, upd H1 a (ExV (.ref C) none a), I1.laidN hm.keeps hm.new hn (exV_ok ht ⟨rfl, rfl⟩ rfl), rfl, q1 a hn⟩
end
end Zl
set_option Elab.async false
set_option linter.all false
set_option maxRecDepth 100000
set_option maxHeartbeats 4000000
namespace Zl
open PySem PySem.Spec L2 PySem.W
open PyProof.Rows hiding St
open NdefX

/-! ## what the head tells of exception classes with an own __init__ -/
def oexB (K : Frag) (C : Addr) : Bool := (match K.lookup C with
    | some ⟨.type "type", _, .cls cd, sl⟩ => (match cd.mro, sl.toList with
      | .ref C' :: bm, [_, _, _, _, some (.builtin n), _] => decide (C' = C) && (decide (n = "ValueError.__new__") && (!cd.hasDel && (cd.hasDict && PySem.HandSPX.refsVE bm)))
      | _, _ => false)
    | _ => false) && (decide (PySem.W.findIn K (.ref C) "__setattr__" = some (some (.builtin "object.__setattr__"))) && (decide (PySem.W.subIn K (.ref C) (.type "BaseException") = some true) && (decide (PySem.W.typeIn K (.ref C) = some (.type "type")) && PySem.W.keepIn K (.ref C))))
theorem oexB_ok {K : Frag} {C : Addr} (h : oexB K C = true) : OexC K C := by
  obtain ⟨q, h⟩ := He.ba h
  obtain ⟨h1, h⟩ := He.ba h
  obtain ⟨h2, h⟩ := He.ba h
  obtain ⟨h3, h4⟩ := He.ba h
  refine ⟨?_, of_decide_eq_true h1, of_decide_eq_true h2, of_decide_eq_true h3, h4⟩
  split at q
  · rename_i dd cd sl ho
    split at q
    · rename_i C' bm k0 k1 k2 k3 n k5 hm hs
      simp only [Bool.and_eq_true, decide_eq_true_eq, Bool.not_eq_true'] at q
      obtain ⟨rfl, rfl, hdel, hdic, hbm⟩ := q
      obtain ⟨nm, bs, mro, ns, qn, hd, sn, sub, ab, col, del⟩ := cd
      dsimp only at hm hdel hdic
      subst hm hdel hdic
      have hsl : sl = #[k0, k1, k2, k3, some (.builtin "ValueError.__new__"), k5] := by
        obtain ⟨l⟩ := sl
        simp only at hs
        rw [hs]
      subst hsl
      exact ⟨nm, qn, ns, bs, bm, sn, sub, ab, col, dd, k0, k1, k2, k3, k5, ho, hbm⟩
    · cases q
  · cases q
abbrev XiW : Type := Option (Str × Str × Arguments × FuncBody × Scope × Addr × List Str × Addr)
/-- such a class: its name, its __init__'s words, the field, the parameter -/
structure XiD where
  c : Str
  params : Arguments
  body : List Stmt
  scope : Scope
  fld : Str
  x : Str
def XiD.qual (d : XiD) : Str := d.c ++ ".__init__"
def XiD.val (d : XiD) : XiW := some ("__init__", d.qual, d.params, .stmts d.body, d.scope, mainGlobals, ["__class__"], builtinsNs)
def xiA (K : Frag) (d : XiD) : Addr := He.ma K (He.ga K d.c) "__init__"
def xiW (K : Frag) (d : XiD) : XiW := match K.lookup (xiA K d) with
  | some ⟨_, _, .func fd, _⟩ => some (fd.name, fd.qualname, fd.params, fd.body, fd.scope, fd.globals, fd.closure.map (·.1), fd.builtins)
  | _ => none
def fileOf (vs : Array Value) : Option Str := match vs[2]? with
  | some (Value.str f _) => some f
  | _ => none
theorem fileOf_ok {vs : Array Value} {f : Str} (h : fileOf vs = some f) : ∃ t, vs[2]? = some (Value.str f t) := by
  unfold fileOf at h
  split at h
  · rename_i g t e
    cases h
    exact ⟨t, e⟩
  · cases h
def xiB (file : Str) (K : Frag) (d : XiD) : Bool := oexB K (He.ga K d.c) && (decide (PySem.W.findIn K (.ref (He.ga K d.c)) "__init__" = some (some (.ref (xiA K d)))) && (decide (PySem.W.typeIn K (.ref (xiA K d)) = some (.type "function")) &&
  (decide (ks_superIn K (He.ga K d.c) (He.ga K d.c) "__init__" = some (some (.builtin "ValueError.__init__"))) && (decide (PySem.W.nsIn K cStatics "thirdparty.any" = some none) && (decide (PySem.W.subIn K (.ref (He.ga K d.c)) (.type "ValueError") = some true) &&
  (decide (PySem.W.mroIn K (He.ga K d.c) (.ref (He.ga K d.c)) = some true) && (decide (PySem.W.findIn K (.ref (He.ga K d.c)) d.fld = some none) &&
  (match K.lookup (xiA K d) with
  | some ⟨_, _, .func fd, _⟩ => decide (fd.defaults = .none) && (decide (fd.kwdefaults = .none) && ((match fd.code with
      | .ref cda => PySem.W.codeIn K (.ref cda) d.qual && (match K.lookup cda with
        | some ⟨_, _, .fields vs, _⟩ => decide (fileOf vs = some file)
        | _ => false)
      | _ => false) && (match fd.closure with
      | [(_, cc)] => (match K.lookup cc with
        | some ⟨_, _, .cell (some (.ref D)), _⟩ => decide (D = He.ga K d.c)
        | _ => false)
      | _ => false)))
  | _ => false))))))))
theorem xin_of {K : Frag} {P : Program} {file : Str} {d : XiD} (hP : P.main.file = file) (hw : xiW K d = d.val) (hb : xiB file K d = true) : XIn K P (He.ga K d.c) (xiA K d) d.qual d.params d.body d.scope d.fld := by
  obtain ⟨h1, h⟩ := He.ba hb
  obtain ⟨h2, h⟩ := He.ba h
  obtain ⟨h3, h⟩ := He.ba h
  obtain ⟨h4, h⟩ := He.ba h
  obtain ⟨h5, h⟩ := He.ba h
  obtain ⟨h6, h⟩ := He.ba h
  obtain ⟨h7, h⟩ := He.ba h
  obtain ⟨h8, h⟩ := He.ba h
  refine ⟨oexB_ok h1, of_decide_eq_true h2, of_decide_eq_true h3, of_decide_eq_true h4, of_decide_eq_true h5, of_decide_eq_true h6, of_decide_eq_true h7, of_decide_eq_true h8, ?_⟩
  unfold xiW at hw
  cases q : K.lookup (xiA K d) with
  | none => rw [q] at h; cases h
  | some o =>
    obtain ⟨oc, od, dt, osl⟩ := o
    rw [q] at h hw
    cases dt with
    | func fd =>
      obtain ⟨n1, n2, n3, n4, n5, n6, n7, n8, n9, n10, n11, n12, n13, n14, n15⟩ := fd
      simp only [XiD.val, Option.some.injEq, Prod.mk.injEq] at hw
      obtain ⟨e1, e2, e3, e4, e5, e6, e7, e8⟩ := hw
      subst e1 e2 e3 e4 e5 e6 e8
      simp only [Bool.and_eq_true, decide_eq_true_eq] at h
      obtain ⟨k1, k2, k3, k4⟩ := h
      subst k1 k2
      split at k3
      · rename_i cda
        simp only [Bool.and_eq_true] at k3
        obtain ⟨k5, k6⟩ := k3
        split at k6
        · rename_i ccl cdd vs ccs hcda
          · obtain ⟨tf, hvs⟩ := fileOf_ok (of_decide_eq_true k6)
            split at k4
            · rename_i y cc
              have e7 : y = "__class__" := by simpa using e7
              subst e7
              split at k4
              · rename_i cl cld D csl hcc
                have k4 := of_decide_eq_true k4
                subst k4
                exact ⟨oc, od, n10, n11, n14, n12, osl, cc, cda, ccl, cdd, vs, ccs, cl, cld, csl, file, tf, rfl, k5, hcda, hvs, by rw [hP]; simp, hcc⟩
              · cases k4
            · cases k4
        · cases k6
      · cases k3
    | _ => cases h
/-- the promise of the class's call -/
theorem xmk_of {Γ : Gm} {P : Program} {w : World} {mg : Str → Option Value} {base : Heap} {k : Nat} {file : Str} {d : XiD} {arg : Expr} {ar : Arg} {fmt : D → Bool} {p0 p1 p2 p3 p4 p5 p6 p7 p8 : Pos} (hP : P.main.file = file) (htop : (P.main.scope.names.lookup ("super" : Str)).isSome = false) (hw : xiW Γ.K d = d.val) (hb : xiB file Γ.K d = true)
    (hbody : d.body = xiBody d.fld d.x arg p0 p1 p2 p3 p4 p5 p6 p7 p8) (S : NScope (xiN d.x) ["self", d.x] ["__class__"] d.scope) (hs : d.scope.names.lookup ("super" : Str) = some .globalImplicit) (hmg : mg "super" = none)
    (hpar : (d.params.posonlyargs ++ d.params.args).head? = some ar) (har : ar.arg = "self") (hxd : (d.x == ("__debug__" : Str)) = false) (hxc : (d.x == ("__classdict__" : Str)) = false) (hst : ∀ env, starEach [arg] env = [(false, eval arg env)])
    (hcall : ∀ env : Env, ∃ pl : Sem Bool, eval (.Call (.Attribute (.Call (.Name "super" p0) [] [] p1) "__init__" p2) [arg] [] p3) env = (do
      let ov ← attributeBase (.Call (.Name "super" p0) [] [] p1) "__init__" env (eval (.Call (.Name "super" p0) [] [] p1) env)
      standAt p2.atName
      let (f, first) ← holding [ov] (getMethod ov "__init__" pl)
      callWith p3 f first (backTo p3 (starEach [arg] env)) []))
    (hmsg : ∀ (cc cda : Addr) (A : Around) (outer : List Env) (s : Shared) (H : Hp) (E : XK), A.guards = some [] → Room k (xiX P w Γ.K mg base d.x d.qual d.params (xiBody d.fld d.x arg p0 p1 p2 p3 p4 p5 p6 p7 p8) d.scope cc cda (xiA Γ.K d) A outer s H E).A →
      PE (xiX P w Γ.K mg base d.x d.qual d.params (xiBody d.fld d.x arg p0 p1 p2 p3 p4 p5 p6 p7 p8) d.scope cc cda (xiA Γ.K d) A outer s H E) arg (tMsg (okD Γ fmt)))
    (b1 : ∀ (doc pm ct cdv : Value) (an : Option Addr) (cl : List (Str × Addr)) (us : List Value), us.length = 2 → bindArgs (PySem.W.fnX "__init__" d.qual d.params d.body d.scope cl .none .none doc pm an cdv ct) ⟨us, []⟩ = pure ((["self", d.x] : List Str).zip us))
    (b2 : ∀ (doc pm ct cdv : Value) (an : Option Addr) (cl : List (Str × Addr)) (u v : Value), bindArgs (PySem.W.fnX "__init__" d.qual d.params d.body d.scope cl .none .none doc pm an cdv ct) ⟨[u], [(d.x, v)]⟩ = pure ([("self", u), (d.x, v)] : List (Str × Value))) :
    XMk Γ P w mg base (k + 1) (He.ga Γ.K d.c) d.x d.fld fmt := by
  have F := xin_of hP hw hb
  refine ⟨F.oex, xiA Γ.K d, F.ini, F.typ, ?_⟩
  rw [hbody] at F b1 b2
  obtain ⟨doc, pm, ct, an, cc, cda, FG⟩ := xin_fng (w := w) (mg := mg) (base := base) (k := k) (okm := okD Γ fmt) F S hs hmg htop hpar har hxd hxc hst hcall hmsg
  exact ⟨_, FG, b1 doc pm ct _ an _, b2 doc pm ct _ an _⟩

/-! ## the hook -/
abbrev AlZX : Type := AlZT × List XiW
def obsZX (n : Nat) (fa : List He.Fa) (fn : List He5.DefA) (pr : List (Str × Str)) (tf : List He.Defn) (ex : Frag → Bool) (xs : List XiD) (g : Addr → Option Obj) : AlZX := (obsZT n fa fn pr tf ex g, xs.map (xiW (He.frT g (He5.asA g n))))
def hookZX (n : Nat) (fa : List He.Fa) (fn : List He5.DefA) (pr : List (Str × Str)) (tf : List He.Defn) (ex : Frag → Bool) (xs : List XiD) : PySem.W.Hook where
  α := AlZX
  obs := fun s => obsZX n fa fn pr tf ex xs s.heap.get?
  val := fun _ => ((valZ fn, true), xs.map XiD.val)
  says := fun _ h => ∃ K : Frag, K.In h ∧ SaysZT fa fn pr tf ex h K ∧ ∀ d ∈ xs, xiW K d = d.val
  of := fun _ _ e => ⟨_, He.frT_in, saysZT_of (congrArg (fun z : AlZX => z.1) e), fun d hd => (List.map_inj_left.mp (congrArg (fun z : AlZX => z.2) e)) d hd⟩
  keeps := fun _ _ _ ⟨K, hK, c, x⟩ k => ⟨K, Frag.In.keeps hK k, ⟨c.z, c.hd, c.out, fun p hp => k _ _ (c.empty p hp), c.nd, c.more⟩, x⟩
theorem obsZX_eq {n : Nat} {fa : List He.Fa} {fn : List He5.DefA} {pr : List (Str × Str)} {tf : List He.Defn} {ex : Frag → Bool} {xs : List XiD} {g : Addr → Option Obj} {s : Shared} (h : ∀ a, g a = s.heap.get? a) : obsZX n fa fn pr tf ex xs g = (hookZX n fa fn pr tf ex xs).obs s := by
  have e : g = s.heap.get? := funext h
  rw [e]
  rfl
def fmtY (_ : D) : Bool := true
theorem XMk.up {Γ : Gm} {P : Program} {w : World} {mg : Str → Option Value} {base : Heap} {lv lv' : Nat} {C : Addr} {x fld : Str} {fmt : D → Bool} (M : XMk Γ P w mg base lv C x fld fmt) (h : lv ≤ lv') : XMk Γ P w mg base lv' C x fld fmt := by
  obtain ⟨o, fI, h1, h2, fd, h3, h4⟩ := M
  exact ⟨o, fI, h1, h2, fd, h3.mono h, h4⟩
end Zl
set_option Elab.async false
set_option linter.all false
set_option maxRecDepth 100000
set_option maxHeartbeats 1000000
namespace Zl
open PySem PySem.Spec L2 PySem.W
open PyProof.Rows hiding St

/-! ## repr of more -/
def oReprX : List Val → Mu → R (Val × Mu)
  | [.d .non], μ => .ok (.d (.str "None"), μ)
  | [.d (.bl b)], μ => .ok (.d (.str (if b = true then "True" else "False")), μ)
  | [.d (.str x)], μ => if (reprText x).length ≤ 1000000 then .ok (.d (.str (reprText x)), μ) else .bad
  | vs, μ => oRepr vs μ
abbrev rReprM (Γ : Gm) : List V → Hp → VK → Prop := fun xs H Q => (xs = [.non] ∧ Q (.str "None") H) ∨ (∃ b, xs = [.bl b] ∧ Q (.str (if b = true then "True" else "False")) H) ∨ (∃ x : Str, xs = [.str x] ∧ (reprText x).length ≤ 1000000 ∧ Q (.str (reprText x)) H) ∨ rReprA Γ xs H Q
section
variable {Γ : Gm} {W : WX} {X : Cx} {lv : Nat}
theorem call_reprM (c : Cz Γ W X lv) : CallR X (.builtin "repr") (rReprM Γ) := by
  intro pins s σ H xs us Q I r h
  rcases h with ⟨rfl, q⟩ | ⟨b, rfl, q⟩ | ⟨x, rfl, hz, q⟩ | h
  · obtain ⟨u, rfl, rx⟩ := vals1 r
    obtain rfl : u = Value.none := rx
    exact PySem.P.repr_of_none ⟨.str _, H, I.tok _, ⟨_, rfl⟩, q⟩
  · obtain ⟨u, rfl, rx⟩ := vals1 r
    obtain rfl : u = Value.bool b := rx
    refine PySem.P.repr_of_bool ⟨.str (if b = true then "True" else "False"), H, I.tok _, ⟨s.toks, ?_⟩, q⟩
    cases b <;> rfl
  · obtain ⟨u, rfl, t, rfl⟩ := vals1 r
    exact PySem.P.repr_of_str ⟨.str _, H, I.tok _, ⟨_, rfl⟩, q⟩ (by rw [sizeLine_eq]; omega)
  · exact call_reprA c pins s σ H xs us Q I r h
theorem oReprX_ok : CB Γ W (rReprM Γ) oReprX := by
  intro G ρ μ σ H Q us vs R r p
  unfold oReprX at p
  split at p
  · cases r with
    | cons h t => cases t; exact .inl ⟨by rw [h.non_], Post.str R p⟩
  · cases r with
    | cons h t => cases t; exact .inr (.inl ⟨_, by rw [h.bl_], Post.str R p⟩)
  · split at p
    · rename_i hz
      cases r with
      | cons h t => cases t; exact .inr (.inr (.inl ⟨_, by rw [h.str_], hz, Post.str R p⟩))
    · exact p.elim
  · exact .inr (.inr (.inr (oRepr_ok G ρ μ σ H Q us _ R r p)))
end
end Zl
set_option Elab.async false
set_option linter.all false
set_option maxRecDepth 100000
set_option maxHeartbeats 4000000
namespace Zl
open PySem PySem.Spec L2 PySem.W
open PyProof.Rows hiding St
def top (i : Nat) : Stmt := PySem.Challenge.pw_mergeblame_k96_errors_with_their_fields.main.body.getD i (.Pass ⟨0, 0, 0, 0⟩)
def d_law_begun : He5.DefA := ⟨(fun K => He.fAd K ("_law_begun", none)), "_law_begun", "_law_begun", defArgs (top 27), defBody (top 27), defScope (top 27), [], []⟩
def d_law_next : He5.DefA := ⟨(fun K => He.fAd K ("_law_next", none)), "_law_next", "_law_next", defArgs (top 28), defBody (top 28), defScope (top 28), [], []⟩
def d_law_pick : He5.DefA := ⟨(fun K => He.fAd K ("_law_pick", none)), "_law_pick", "_law_pick", defArgs (top 29), defBody (top 29), defScope (top 29), [], []⟩
def d_law_with_fields : He5.DefA := ⟨(fun K => He.fAd K ("_law_with_fields", none)), "_law_with_fields", "_law_with_fields", defArgs (top 30), defBody (top 30), defScope (top 30), [], []⟩
def d_law_plain : He5.DefA := ⟨(fun K => He.fAd K ("_law_plain", none)), "_law_plain", "_law_plain", defArgs (top 31), defBody (top 31), defScope (top 31), [], []⟩
def d_law_kinds : He5.DefA := ⟨(fun K => He.fAd K ("_law_kinds", none)), "_law_kinds", "_law_kinds", defArgs (top 32), defBody (top 32), defScope (top 32), [], []⟩
def d_law : He5.DefA := ⟨(fun K => He.fAd K ("law", none)), "law", "law", defArgs (top 33), defBody (top 33), defScope (top 33), [], []⟩
def fnl : List He5.DefA := [d_law_begun, d_law_next, d_law_pick, d_law_with_fields, d_law_plain, d_law_kinds, d_law]
def fa : List He.Fa := [.free "abs", .free "int", .free "len", .glo "_law_next", .glo "NoHistory", .glo "NoVersion", .glo "NoChange", .glo "NoTest", .glo "Cheaper", .glo "TooMany", .glo "NoOperation", .glo "NoJournal", .glo "NoText", .glo "NoLimit", .glo "NoLie", .glo "NoCosts", .glo "NoCase", .glo "NoTheory", .glo "NoCause", .glo "NoOrder", .glo "NoPlan", .glo "NoState", .glo "NoSuspects", .glo "NoChanges", .glo "NoClaim", .glo "NoCauses", .glo "NothingLeft", .glo "NoNumber", .free "isinstance", .glo "_law_begun"] ++ [.free "range", .glo "_law_pick", .glo "_law_with_fields", .free "repr", .glo "_law_plain", .free "enumerate", .glo "BlameError", .free "ValueError", .glo "_law_kinds", .glo "law", .free "super"]
def prl : List (Str × Str) := []
def tfl : List (He.Defn × Str) := []
def exl : List Str := ["BlameError", "NoHistory", "NoVersion", "NoChange", "NoTest", "Cheaper", "TooMany", "NoOperation", "NoJournal", "NoText", "NoOrder", "NoCause", "NoTheory", "NoCase", "NoCosts", "NoLie", "NoLimit", "NoCauses", "NoClaim", "NoChanges", "NoSuspects", "NoState", "NoPlan", "NoNumber", "NothingLeft"]
def exl0 : List Str := ["BlameError", "NoOrder", "NoCause", "NoTheory", "NoCase", "NoCosts", "NoLie", "NoLimit", "NoCauses", "NoClaim", "NoChanges", "NoSuspects", "NoState", "NoPlan", "NoNumber", "NothingLeft"]
def xrl : List XRow := []
abbrev krw (a : Str) (t : String) (b : Str) (r : Bool) : KRow := (a, t, b, r)
def krl0 : List KRow := [krw "BlameError" "" "BlameError" true, krw "BlameError" "" "NoHistory" false, krw "BlameError" "" "NoVersion" false, krw "BlameError" "" "NoChange" false, krw "BlameError" "" "NoTest" false, krw "BlameError" "" "Cheaper" false, krw "BlameError" "" "TooMany" false, krw "BlameError" "" "NoOperation" false, krw "BlameError" "" "NoJournal" false, krw "BlameError" "" "NoText" false, krw "BlameError" "" "NoOrder" false, krw "BlameError" "" "NoCause" false, krw "BlameError" "" "NoTheory" false, krw "BlameError" "" "NoCase" false, krw "BlameError" "" "NoCosts" false, krw "BlameError" "" "NoLie" false, krw "BlameError" "" "NoLimit" false, krw "BlameError" "" "NoCauses" false, krw "BlameError" "" "NoClaim" false, krw "BlameError" "" "NoChanges" false, krw "BlameError" "" "NoSuspects" false, krw "BlameError" "" "NoState" false, krw "BlameError" "" "NoPlan" false, krw "BlameError" "" "NoNumber" false, krw "BlameError" "" "NothingLeft" false, krw "NoHistory" "" "BlameError" true, krw "NoHistory" "" "NoHistory" true, krw "NoHistory" "" "NoVersion" false, krw "NoHistory" "" "NoChange" false, krw "NoHistory" "" "NoTest" false, krw "NoHistory" "" "Cheaper" false, krw "NoHistory" "" "TooMany" false, krw "NoHistory" "" "NoOperation" false, krw "NoHistory" "" "NoJournal" false, krw "NoHistory" "" "NoText" false, krw "NoHistory" "" "NoOrder" false, krw "NoHistory" "" "NoCause" false, krw "NoHistory" "" "NoTheory" false, krw "NoHistory" "" "NoCase" false, krw "NoHistory" "" "NoCosts" false]
def krl1 : List KRow := [krw "NoHistory" "" "NoLie" false, krw "NoHistory" "" "NoLimit" false, krw "NoHistory" "" "NoCauses" false, krw "NoHistory" "" "NoClaim" false, krw "NoHistory" "" "NoChanges" false, krw "NoHistory" "" "NoSuspects" false, krw "NoHistory" "" "NoState" false, krw "NoHistory" "" "NoPlan" false, krw "NoHistory" "" "NoNumber" false, krw "NoHistory" "" "NothingLeft" false, krw "NoVersion" "" "BlameError" true, krw "NoVersion" "" "NoHistory" false, krw "NoVersion" "" "NoVersion" true, krw "NoVersion" "" "NoChange" false, krw "NoVersion" "" "NoTest" false, krw "NoVersion" "" "Cheaper" false, krw "NoVersion" "" "TooMany" false, krw "NoVersion" "" "NoOperation" false, krw "NoVersion" "" "NoJournal" false, krw "NoVersion" "" "NoText" false, krw "NoVersion" "" "NoOrder" false, krw "NoVersion" "" "NoCause" false, krw "NoVersion" "" "NoTheory" false, krw "NoVersion" "" "NoCase" false, krw "NoVersion" "" "NoCosts" false, krw "NoVersion" "" "NoLie" false, krw "NoVersion" "" "NoLimit" false, krw "NoVersion" "" "NoCauses" false, krw "NoVersion" "" "NoClaim" false, krw "NoVersion" "" "NoChanges" false, krw "NoVersion" "" "NoSuspects" false, krw "NoVersion" "" "NoState" false, krw "NoVersion" "" "NoPlan" false, krw "NoVersion" "" "NoNumber" false, krw "NoVersion" "" "NothingLeft" false, krw "NoChange" "" "BlameError" true, krw "NoChange" "" "NoHistory" false, krw "NoChange" "" "NoVersion" false, krw "NoChange" "" "NoChange" true, krw "NoChange" "" "NoTest" false]
def krl2 : List KRow := [krw "NoChange" "" "Cheaper" false, krw "NoChange" "" "TooMany" false, krw "NoChange" "" "NoOperation" false, krw "NoChange" "" "NoJournal" false, krw "NoChange" "" "NoText" false, krw "NoChange" "" "NoOrder" false, krw "NoChange" "" "NoCause" false, krw "NoChange" "" "NoTheory" false, krw "NoChange" "" "NoCase" false, krw "NoChange" "" "NoCosts" false, krw "NoChange" "" "NoLie" false, krw "NoChange" "" "NoLimit" false, krw "NoChange" "" "NoCauses" false, krw "NoChange" "" "NoClaim" false, krw "NoChange" "" "NoChanges" false, krw "NoChange" "" "NoSuspects" false, krw "NoChange" "" "NoState" false, krw "NoChange" "" "NoPlan" false, krw "NoChange" "" "NoNumber" false, krw "NoChange" "" "NothingLeft" false, krw "NoTest" "" "BlameError" true, krw "NoTest" "" "NoHistory" false, krw "NoTest" "" "NoVersion" false, krw "NoTest" "" "NoChange" false, krw "NoTest" "" "NoTest" true, krw "NoTest" "" "Cheaper" false, krw "NoTest" "" "TooMany" false, krw "NoTest" "" "NoOperation" false, krw "NoTest" "" "NoJournal" false, krw "NoTest" "" "NoText" false, krw "NoTest" "" "NoOrder" false, krw "NoTest" "" "NoCause" false, krw "NoTest" "" "NoTheory" false, krw "NoTest" "" "NoCase" false, krw "NoTest" "" "NoCosts" false, krw "NoTest" "" "NoLie" false, krw "NoTest" "" "NoLimit" false, krw "NoTest" "" "NoCauses" false, krw "NoTest" "" "NoClaim" false, krw "NoTest" "" "NoChanges" false]
def krl3 : List KRow := [krw "NoTest" "" "NoSuspects" false, krw "NoTest" "" "NoState" false, krw "NoTest" "" "NoPlan" false, krw "NoTest" "" "NoNumber" false, krw "NoTest" "" "NothingLeft" false, krw "Cheaper" "" "BlameError" true, krw "Cheaper" "" "NoHistory" false, krw "Cheaper" "" "NoVersion" false, krw "Cheaper" "" "NoChange" false, krw "Cheaper" "" "NoTest" false, krw "Cheaper" "" "Cheaper" true, krw "Cheaper" "" "TooMany" false, krw "Cheaper" "" "NoOperation" false, krw "Cheaper" "" "NoJournal" false, krw "Cheaper" "" "NoText" false, krw "Cheaper" "" "NoOrder" false, krw "Cheaper" "" "NoCause" false, krw "Cheaper" "" "NoTheory" false, krw "Cheaper" "" "NoCase" false, krw "Cheaper" "" "NoCosts" false, krw "Cheaper" "" "NoLie" false, krw "Cheaper" "" "NoLimit" false, krw "Cheaper" "" "NoCauses" false, krw "Cheaper" "" "NoClaim" false, krw "Cheaper" "" "NoChanges" false, krw "Cheaper" "" "NoSuspects" false, krw "Cheaper" "" "NoState" false, krw "Cheaper" "" "NoPlan" false, krw "Cheaper" "" "NoNumber" false, krw "Cheaper" "" "NothingLeft" false, krw "TooMany" "" "BlameError" true, krw "TooMany" "" "NoHistory" false, krw "TooMany" "" "NoVersion" false, krw "TooMany" "" "NoChange" false, krw "TooMany" "" "NoTest" false, krw "TooMany" "" "Cheaper" false, krw "TooMany" "" "TooMany" true, krw "TooMany" "" "NoOperation" false, krw "TooMany" "" "NoJournal" false, krw "TooMany" "" "NoText" false]
def krl4 : List KRow := [krw "TooMany" "" "NoOrder" false, krw "TooMany" "" "NoCause" false, krw "TooMany" "" "NoTheory" false, krw "TooMany" "" "NoCase" false, krw "TooMany" "" "NoCosts" false, krw "TooMany" "" "NoLie" false, krw "TooMany" "" "NoLimit" false, krw "TooMany" "" "NoCauses" false, krw "TooMany" "" "NoClaim" false, krw "TooMany" "" "NoChanges" false, krw "TooMany" "" "NoSuspects" false, krw "TooMany" "" "NoState" false, krw "TooMany" "" "NoPlan" false, krw "TooMany" "" "NoNumber" false, krw "TooMany" "" "NothingLeft" false, krw "NoOperation" "" "BlameError" true, krw "NoOperation" "" "NoHistory" false, krw "NoOperation" "" "NoVersion" false, krw "NoOperation" "" "NoChange" false, krw "NoOperation" "" "NoTest" false, krw "NoOperation" "" "Cheaper" false, krw "NoOperation" "" "TooMany" false, krw "NoOperation" "" "NoOperation" true, krw "NoOperation" "" "NoJournal" false, krw "NoOperation" "" "NoText" false, krw "NoOperation" "" "NoOrder" false, krw "NoOperation" "" "NoCause" false, krw "NoOperation" "" "NoTheory" false, krw "NoOperation" "" "NoCase" false, krw "NoOperation" "" "NoCosts" false, krw "NoOperation" "" "NoLie" false, krw "NoOperation" "" "NoLimit" false, krw "NoOperation" "" "NoCauses" false, krw "NoOperation" "" "NoClaim" false, krw "NoOperation" "" "NoChanges" false, krw "NoOperation" "" "NoSuspects" false, krw "NoOperation" "" "NoState" false, krw "NoOperation" "" "NoPlan" false, krw "NoOperation" "" "NoNumber" false, krw "NoOperation" "" "NothingLeft" false]
def krl5 : List KRow := [krw "NoJournal" "" "BlameError" true, krw "NoJournal" "" "NoHistory" false, krw "NoJournal" "" "NoVersion" false, krw "NoJournal" "" "NoChange" false, krw "NoJournal" "" "NoTest" false, krw "NoJournal" "" "Cheaper" false, krw "NoJournal" "" "TooMany" false, krw "NoJournal" "" "NoOperation" false, krw "NoJournal" "" "NoJournal" true, krw "NoJournal" "" "NoText" false, krw "NoJournal" "" "NoOrder" false, krw "NoJournal" "" "NoCause" false, krw "NoJournal" "" "NoTheory" false, krw "NoJournal" "" "NoCase" false, krw "NoJournal" "" "NoCosts" false, krw "NoJournal" "" "NoLie" false, krw "NoJournal" "" "NoLimit" false, krw "NoJournal" "" "NoCauses" false, krw "NoJournal" "" "NoClaim" false, krw "NoJournal" "" "NoChanges" false, krw "NoJournal" "" "NoSuspects" false, krw "NoJournal" "" "NoState" false, krw "NoJournal" "" "NoPlan" false, krw "NoJournal" "" "NoNumber" false, krw "NoJournal" "" "NothingLeft" false, krw "NoText" "" "BlameError" true, krw "NoText" "" "NoHistory" false, krw "NoText" "" "NoVersion" false, krw "NoText" "" "NoChange" false, krw "NoText" "" "NoTest" false, krw "NoText" "" "Cheaper" false, krw "NoText" "" "TooMany" false, krw "NoText" "" "NoOperation" false, krw "NoText" "" "NoJournal" false, krw "NoText" "" "NoText" true, krw "NoText" "" "NoOrder" false, krw "NoText" "" "NoCause" false, krw "NoText" "" "NoTheory" false, krw "NoText" "" "NoCase" false, krw "NoText" "" "NoCosts" false]
def krl6 : List KRow := [krw "NoText" "" "NoLie" false, krw "NoText" "" "NoLimit" false, krw "NoText" "" "NoCauses" false, krw "NoText" "" "NoClaim" false, krw "NoText" "" "NoChanges" false, krw "NoText" "" "NoSuspects" false, krw "NoText" "" "NoState" false, krw "NoText" "" "NoPlan" false, krw "NoText" "" "NoNumber" false, krw "NoText" "" "NothingLeft" false, krw "NoOrder" "" "BlameError" true, krw "NoOrder" "" "NoHistory" false, krw "NoOrder" "" "NoVersion" false, krw "NoOrder" "" "NoChange" false, krw "NoOrder" "" "NoTest" false, krw "NoOrder" "" "Cheaper" false, krw "NoOrder" "" "TooMany" false, krw "NoOrder" "" "NoOperation" false, krw "NoOrder" "" "NoJournal" false, krw "NoOrder" "" "NoText" false, krw "NoOrder" "" "NoOrder" true, krw "NoOrder" "" "NoCause" false, krw "NoOrder" "" "NoTheory" false, krw "NoOrder" "" "NoCase" false, krw "NoOrder" "" "NoCosts" false, krw "NoOrder" "" "NoLie" false, krw "NoOrder" "" "NoLimit" false, krw "NoOrder" "" "NoCauses" false, krw "NoOrder" "" "NoClaim" false, krw "NoOrder" "" "NoChanges" false, krw "NoOrder" "" "NoSuspects" false, krw "NoOrder" "" "NoState" false, krw "NoOrder" "" "NoPlan" false, krw "NoOrder" "" "NoNumber" false, krw "NoOrder" "" "NothingLeft" false, krw "NoCause" "" "BlameError" true, krw "NoCause" "" "NoHistory" false, krw "NoCause" "" "NoVersion" false, krw "NoCause" "" "NoChange" false, krw "NoCause" "" "NoTest" false]
def krl7 : List KRow := [krw "NoCause" "" "Cheaper" false, krw "NoCause" "" "TooMany" false, krw "NoCause" "" "NoOperation" false, krw "NoCause" "" "NoJournal" false, krw "NoCause" "" "NoText" false, krw "NoCause" "" "NoOrder" false, krw "NoCause" "" "NoCause" true, krw "NoCause" "" "NoTheory" false, krw "NoCause" "" "NoCase" false, krw "NoCause" "" "NoCosts" false, krw "NoCause" "" "NoLie" false, krw "NoCause" "" "NoLimit" false, krw "NoCause" "" "NoCauses" false, krw "NoCause" "" "NoClaim" false, krw "NoCause" "" "NoChanges" false, krw "NoCause" "" "NoSuspects" false, krw "NoCause" "" "NoState" false, krw "NoCause" "" "NoPlan" false, krw "NoCause" "" "NoNumber" false, krw "NoCause" "" "NothingLeft" false, krw "NoTheory" "" "BlameError" true, krw "NoTheory" "" "NoHistory" false, krw "NoTheory" "" "NoVersion" false, krw "NoTheory" "" "NoChange" false, krw "NoTheory" "" "NoTest" false, krw "NoTheory" "" "Cheaper" false, krw "NoTheory" "" "TooMany" false, krw "NoTheory" "" "NoOperation" false, krw "NoTheory" "" "NoJournal" false, krw "NoTheory" "" "NoText" false, krw "NoTheory" "" "NoOrder" false, krw "NoTheory" "" "NoCause" false, krw "NoTheory" "" "NoTheory" true, krw "NoTheory" "" "NoCase" false, krw "NoTheory" "" "NoCosts" false, krw "NoTheory" "" "NoLie" false, krw "NoTheory" "" "NoLimit" false, krw "NoTheory" "" "NoCauses" false, krw "NoTheory" "" "NoClaim" false, krw "NoTheory" "" "NoChanges" false]
def krl8 : List KRow := [krw "NoTheory" "" "NoSuspects" false, krw "NoTheory" "" "NoState" false, krw "NoTheory" "" "NoPlan" false, krw "NoTheory" "" "NoNumber" false, krw "NoTheory" "" "NothingLeft" false, krw "NoCase" "" "BlameError" true, krw "NoCase" "" "NoHistory" false, krw "NoCase" "" "NoVersion" false, krw "NoCase" "" "NoChange" false, krw "NoCase" "" "NoTest" false, krw "NoCase" "" "Cheaper" false, krw "NoCase" "" "TooMany" false, krw "NoCase" "" "NoOperation" false, krw "NoCase" "" "NoJournal" false, krw "NoCase" "" "NoText" false, krw "NoCase" "" "NoOrder" false, krw "NoCase" "" "NoCause" false, krw "NoCase" "" "NoTheory" false, krw "NoCase" "" "NoCase" true, krw "NoCase" "" "NoCosts" false, krw "NoCase" "" "NoLie" false, krw "NoCase" "" "NoLimit" false, krw "NoCase" "" "NoCauses" false, krw "NoCase" "" "NoClaim" false, krw "NoCase" "" "NoChanges" false, krw "NoCase" "" "NoSuspects" false, krw "NoCase" "" "NoState" false, krw "NoCase" "" "NoPlan" false, krw "NoCase" "" "NoNumber" false, krw "NoCase" "" "NothingLeft" false, krw "NoCosts" "" "BlameError" true, krw "NoCosts" "" "NoHistory" false, krw "NoCosts" "" "NoVersion" false, krw "NoCosts" "" "NoChange" false, krw "NoCosts" "" "NoTest" false, krw "NoCosts" "" "Cheaper" false, krw "NoCosts" "" "TooMany" false, krw "NoCosts" "" "NoOperation" false, krw "NoCosts" "" "NoJournal" false, krw "NoCosts" "" "NoText" false]
def krl9 : List KRow := [krw "NoCosts" "" "NoOrder" false, krw "NoCosts" "" "NoCause" false, krw "NoCosts" "" "NoTheory" false, krw "NoCosts" "" "NoCase" false, krw "NoCosts" "" "NoCosts" true, krw "NoCosts" "" "NoLie" false, krw "NoCosts" "" "NoLimit" false, krw "NoCosts" "" "NoCauses" false, krw "NoCosts" "" "NoClaim" false, krw "NoCosts" "" "NoChanges" false, krw "NoCosts" "" "NoSuspects" false, krw "NoCosts" "" "NoState" false, krw "NoCosts" "" "NoPlan" false, krw "NoCosts" "" "NoNumber" false, krw "NoCosts" "" "NothingLeft" false, krw "NoLie" "" "BlameError" true, krw "NoLie" "" "NoHistory" false, krw "NoLie" "" "NoVersion" false, krw "NoLie" "" "NoChange" false, krw "NoLie" "" "NoTest" false, krw "NoLie" "" "Cheaper" false, krw "NoLie" "" "TooMany" false, krw "NoLie" "" "NoOperation" false, krw "NoLie" "" "NoJournal" false, krw "NoLie" "" "NoText" false, krw "NoLie" "" "NoOrder" false, krw "NoLie" "" "NoCause" false, krw "NoLie" "" "NoTheory" false, krw "NoLie" "" "NoCase" false, krw "NoLie" "" "NoCosts" false, krw "NoLie" "" "NoLie" true, krw "NoLie" "" "NoLimit" false, krw "NoLie" "" "NoCauses" false, krw "NoLie" "" "NoClaim" false, krw "NoLie" "" "NoChanges" false, krw "NoLie" "" "NoSuspects" false, krw "NoLie" "" "NoState" false, krw "NoLie" "" "NoPlan" false, krw "NoLie" "" "NoNumber" false, krw "NoLie" "" "NothingLeft" false]
def krl10 : List KRow := [krw "NoLimit" "" "BlameError" true, krw "NoLimit" "" "NoHistory" false, krw "NoLimit" "" "NoVersion" false, krw "NoLimit" "" "NoChange" false, krw "NoLimit" "" "NoTest" false, krw "NoLimit" "" "Cheaper" false, krw "NoLimit" "" "TooMany" false, krw "NoLimit" "" "NoOperation" false, krw "NoLimit" "" "NoJournal" false, krw "NoLimit" "" "NoText" false, krw "NoLimit" "" "NoOrder" false, krw "NoLimit" "" "NoCause" false, krw "NoLimit" "" "NoTheory" false, krw "NoLimit" "" "NoCase" false, krw "NoLimit" "" "NoCosts" false, krw "NoLimit" "" "NoLie" false, krw "NoLimit" "" "NoLimit" true, krw "NoLimit" "" "NoCauses" false, krw "NoLimit" "" "NoClaim" false, krw "NoLimit" "" "NoChanges" false, krw "NoLimit" "" "NoSuspects" false, krw "NoLimit" "" "NoState" false, krw "NoLimit" "" "NoPlan" false, krw "NoLimit" "" "NoNumber" false, krw "NoLimit" "" "NothingLeft" false, krw "NoCauses" "" "BlameError" true, krw "NoCauses" "" "NoHistory" false, krw "NoCauses" "" "NoVersion" false, krw "NoCauses" "" "NoChange" false, krw "NoCauses" "" "NoTest" false, krw "NoCauses" "" "Cheaper" false, krw "NoCauses" "" "TooMany" false, krw "NoCauses" "" "NoOperation" false, krw "NoCauses" "" "NoJournal" false, krw "NoCauses" "" "NoText" false, krw "NoCauses" "" "NoOrder" false, krw "NoCauses" "" "NoCause" false, krw "NoCauses" "" "NoTheory" false, krw "NoCauses" "" "NoCase" false, krw "NoCauses" "" "NoCosts" false]
def krl11 : List KRow := [krw "NoCauses" "" "NoLie" false, krw "NoCauses" "" "NoLimit" false, krw "NoCauses" "" "NoCauses" true, krw "NoCauses" "" "NoClaim" false, krw "NoCauses" "" "NoChanges" false, krw "NoCauses" "" "NoSuspects" false, krw "NoCauses" "" "NoState" false, krw "NoCauses" "" "NoPlan" false, krw "NoCauses" "" "NoNumber" false, krw "NoCauses" "" "NothingLeft" false, krw "NoClaim" "" "BlameError" true, krw "NoClaim" "" "NoHistory" false, krw "NoClaim" "" "NoVersion" false, krw "NoClaim" "" "NoChange" false, krw "NoClaim" "" "NoTest" false, krw "NoClaim" "" "Cheaper" false, krw "NoClaim" "" "TooMany" false, krw "NoClaim" "" "NoOperation" false, krw "NoClaim" "" "NoJournal" false, krw "NoClaim" "" "NoText" false, krw "NoClaim" "" "NoOrder" false, krw "NoClaim" "" "NoCause" false, krw "NoClaim" "" "NoTheory" false, krw "NoClaim" "" "NoCase" false, krw "NoClaim" "" "NoCosts" false, krw "NoClaim" "" "NoLie" false, krw "NoClaim" "" "NoLimit" false, krw "NoClaim" "" "NoCauses" false, krw "NoClaim" "" "NoClaim" true, krw "NoClaim" "" "NoChanges" false, krw "NoClaim" "" "NoSuspects" false, krw "NoClaim" "" "NoState" false, krw "NoClaim" "" "NoPlan" false, krw "NoClaim" "" "NoNumber" false, krw "NoClaim" "" "NothingLeft" false, krw "NoChanges" "" "BlameError" true, krw "NoChanges" "" "NoHistory" false, krw "NoChanges" "" "NoVersion" false, krw "NoChanges" "" "NoChange" false, krw "NoChanges" "" "NoTest" false]
def krl12 : List KRow := [krw "NoChanges" "" "Cheaper" false, krw "NoChanges" "" "TooMany" false, krw "NoChanges" "" "NoOperation" false, krw "NoChanges" "" "NoJournal" false, krw "NoChanges" "" "NoText" false, krw "NoChanges" "" "NoOrder" false, krw "NoChanges" "" "NoCause" false, krw "NoChanges" "" "NoTheory" false, krw "NoChanges" "" "NoCase" false, krw "NoChanges" "" "NoCosts" false, krw "NoChanges" "" "NoLie" false, krw "NoChanges" "" "NoLimit" false, krw "NoChanges" "" "NoCauses" false, krw "NoChanges" "" "NoClaim" false, krw "NoChanges" "" "NoChanges" true, krw "NoChanges" "" "NoSuspects" false, krw "NoChanges" "" "NoState" false, krw "NoChanges" "" "NoPlan" false, krw "NoChanges" "" "NoNumber" false, krw "NoChanges" "" "NothingLeft" false, krw "NoSuspects" "" "BlameError" true, krw "NoSuspects" "" "NoHistory" false, krw "NoSuspects" "" "NoVersion" false, krw "NoSuspects" "" "NoChange" false, krw "NoSuspects" "" "NoTest" false, krw "NoSuspects" "" "Cheaper" false, krw "NoSuspects" "" "TooMany" false, krw "NoSuspects" "" "NoOperation" false, krw "NoSuspects" "" "NoJournal" false, krw "NoSuspects" "" "NoText" false, krw "NoSuspects" "" "NoOrder" false, krw "NoSuspects" "" "NoCause" false, krw "NoSuspects" "" "NoTheory" false, krw "NoSuspects" "" "NoCase" false, krw "NoSuspects" "" "NoCosts" false, krw "NoSuspects" "" "NoLie" false, krw "NoSuspects" "" "NoLimit" false, krw "NoSuspects" "" "NoCauses" false, krw "NoSuspects" "" "NoClaim" false, krw "NoSuspects" "" "NoChanges" false]
def krl13 : List KRow := [krw "NoSuspects" "" "NoSuspects" true, krw "NoSuspects" "" "NoState" false, krw "NoSuspects" "" "NoPlan" false, krw "NoSuspects" "" "NoNumber" false, krw "NoSuspects" "" "NothingLeft" false, krw "NoState" "" "BlameError" true, krw "NoState" "" "NoHistory" false, krw "NoState" "" "NoVersion" false, krw "NoState" "" "NoChange" false, krw "NoState" "" "NoTest" false, krw "NoState" "" "Cheaper" false, krw "NoState" "" "TooMany" false, krw "NoState" "" "NoOperation" false, krw "NoState" "" "NoJournal" false, krw "NoState" "" "NoText" false, krw "NoState" "" "NoOrder" false, krw "NoState" "" "NoCause" false, krw "NoState" "" "NoTheory" false, krw "NoState" "" "NoCase" false, krw "NoState" "" "NoCosts" false, krw "NoState" "" "NoLie" false, krw "NoState" "" "NoLimit" false, krw "NoState" "" "NoCauses" false, krw "NoState" "" "NoClaim" false, krw "NoState" "" "NoChanges" false, krw "NoState" "" "NoSuspects" false, krw "NoState" "" "NoState" true, krw "NoState" "" "NoPlan" false, krw "NoState" "" "NoNumber" false, krw "NoState" "" "NothingLeft" false, krw "NoPlan" "" "BlameError" true, krw "NoPlan" "" "NoHistory" false, krw "NoPlan" "" "NoVersion" false, krw "NoPlan" "" "NoChange" false, krw "NoPlan" "" "NoTest" false, krw "NoPlan" "" "Cheaper" false, krw "NoPlan" "" "TooMany" false, krw "NoPlan" "" "NoOperation" false, krw "NoPlan" "" "NoJournal" false, krw "NoPlan" "" "NoText" false]
def krl14 : List KRow := [krw "NoPlan" "" "NoOrder" false, krw "NoPlan" "" "NoCause" false, krw "NoPlan" "" "NoTheory" false, krw "NoPlan" "" "NoCase" false, krw "NoPlan" "" "NoCosts" false, krw "NoPlan" "" "NoLie" false, krw "NoPlan" "" "NoLimit" false, krw "NoPlan" "" "NoCauses" false, krw "NoPlan" "" "NoClaim" false, krw "NoPlan" "" "NoChanges" false, krw "NoPlan" "" "NoSuspects" false, krw "NoPlan" "" "NoState" false, krw "NoPlan" "" "NoPlan" true, krw "NoPlan" "" "NoNumber" false, krw "NoPlan" "" "NothingLeft" false, krw "NoNumber" "" "BlameError" true, krw "NoNumber" "" "NoHistory" false, krw "NoNumber" "" "NoVersion" false, krw "NoNumber" "" "NoChange" false, krw "NoNumber" "" "NoTest" false, krw "NoNumber" "" "Cheaper" false, krw "NoNumber" "" "TooMany" false, krw "NoNumber" "" "NoOperation" false, krw "NoNumber" "" "NoJournal" false, krw "NoNumber" "" "NoText" false, krw "NoNumber" "" "NoOrder" false, krw "NoNumber" "" "NoCause" false, krw "NoNumber" "" "NoTheory" false, krw "NoNumber" "" "NoCase" false, krw "NoNumber" "" "NoCosts" false, krw "NoNumber" "" "NoLie" false, krw "NoNumber" "" "NoLimit" false, krw "NoNumber" "" "NoCauses" false, krw "NoNumber" "" "NoClaim" false, krw "NoNumber" "" "NoChanges" false, krw "NoNumber" "" "NoSuspects" false, krw "NoNumber" "" "NoState" false, krw "NoNumber" "" "NoPlan" false, krw "NoNumber" "" "NoNumber" true, krw "NoNumber" "" "NothingLeft" false]
def krl15 : List KRow := [krw "NothingLeft" "" "BlameError" true, krw "NothingLeft" "" "NoHistory" false, krw "NothingLeft" "" "NoVersion" false, krw "NothingLeft" "" "NoChange" false, krw "NothingLeft" "" "NoTest" false, krw "NothingLeft" "" "Cheaper" false, krw "NothingLeft" "" "TooMany" false, krw "NothingLeft" "" "NoOperation" false, krw "NothingLeft" "" "NoJournal" false, krw "NothingLeft" "" "NoText" false, krw "NothingLeft" "" "NoOrder" false, krw "NothingLeft" "" "NoCause" false, krw "NothingLeft" "" "NoTheory" false, krw "NothingLeft" "" "NoCase" false, krw "NothingLeft" "" "NoCosts" false, krw "NothingLeft" "" "NoLie" false, krw "NothingLeft" "" "NoLimit" false, krw "NothingLeft" "" "NoCauses" false, krw "NothingLeft" "" "NoClaim" false, krw "NothingLeft" "" "NoChanges" false, krw "NothingLeft" "" "NoSuspects" false, krw "NothingLeft" "" "NoState" false, krw "NothingLeft" "" "NoPlan" false, krw "NothingLeft" "" "NoNumber" false, krw "NothingLeft" "" "NothingLeft" true, krw "BlameError" "ValueError" "" true, krw "NoHistory" "ValueError" "" true, krw "NoVersion" "ValueError" "" true, krw "NoChange" "ValueError" "" true, krw "NoTest" "ValueError" "" true, krw "Cheaper" "ValueError" "" true, krw "TooMany" "ValueError" "" true, krw "NoOperation" "ValueError" "" true, krw "NoJournal" "ValueError" "" true, krw "NoText" "ValueError" "" true, krw "NoOrder" "ValueError" "" true, krw "NoCause" "ValueError" "" true, krw "NoTheory" "ValueError" "" true, krw "NoCase" "ValueError" "" true, krw "NoCosts" "ValueError" "" true]
def krl16 : List KRow := [krw "NoLie" "ValueError" "" true, krw "NoLimit" "ValueError" "" true, krw "NoCauses" "ValueError" "" true, krw "NoClaim" "ValueError" "" true, krw "NoChanges" "ValueError" "" true, krw "NoSuspects" "ValueError" "" true, krw "NoState" "ValueError" "" true, krw "NoPlan" "ValueError" "" true, krw "NoNumber" "ValueError" "" true, krw "NothingLeft" "ValueError" "" true]
def krl : List KRow := krl0 ++ krl1 ++ krl2 ++ krl3 ++ krl4 ++ krl5 ++ krl6 ++ krl7 ++ krl8 ++ krl9 ++ krl10 ++ krl11 ++ krl12 ++ krl13 ++ krl14 ++ krl15 ++ krl16
def xfl : List Str := ["at", "change", "least", "most", "row", "version"]
def xi_NoHistory : XiD := ⟨"NoHistory", defArgs (inClass (top 2) 0), defBody (inClass (top 2) 0), defScope (inClass (top 2) 0), "at", "at"⟩
def xi_NoVersion : XiD := ⟨"NoVersion", defArgs (inClass (top 3) 0), defBody (inClass (top 3) 0), defScope (inClass (top 3) 0), "version", "version"⟩
def xi_NoChange : XiD := ⟨"NoChange", defArgs (inClass (top 4) 0), defBody (inClass (top 4) 0), defScope (inClass (top 4) 0), "change", "change"⟩
def xi_NoTest : XiD := ⟨"NoTest", defArgs (inClass (top 5) 0), defBody (inClass (top 5) 0), defScope (inClass (top 5) 0), "at", "at"⟩
def xi_Cheaper : XiD := ⟨"Cheaper", defArgs (inClass (top 6) 0), defBody (inClass (top 6) 0), defScope (inClass (top 6) 0), "least", "least"⟩
def xi_TooMany : XiD := ⟨"TooMany", defArgs (inClass (top 7) 0), defBody (inClass (top 7) 0), defScope (inClass (top 7) 0), "most", "most"⟩
def xi_NoOperation : XiD := ⟨"NoOperation", defArgs (inClass (top 8) 0), defBody (inClass (top 8) 0), defScope (inClass (top 8) 0), "at", "at"⟩
def xi_NoJournal : XiD := ⟨"NoJournal", defArgs (inClass (top 9) 0), defBody (inClass (top 9) 0), defScope (inClass (top 9) 0), "at", "at"⟩
def xi_NoText : XiD := ⟨"NoText", defArgs (inClass (top 10) 0), defBody (inClass (top 10) 0), defScope (inClass (top 10) 0), "row", "row"⟩
def xil : List XiD := [xi_NoHistory, xi_NoVersion, xi_NoChange, xi_NoTest, xi_Cheaper, xi_TooMany, xi_NoOperation, xi_NoJournal, xi_NoText]
def file : Str := PySem.Challenge.pw_mergeblame_k96_errors_with_their_fields.main.file
def exK0 (K : PySem.W.Frag) : Bool := exl0.all (exBB K) && (exl.all (exKB K) && (xrl.all (exmB K) && (krl.all (kitXB K) && xfl.all fun f => exl.all fun x => xfB K (He.ga K x) && decide (PySem.W.findIn K (.ref (He.ga K x)) f = some none))))
def exK (K : PySem.W.Frag) : Bool := exK0 K && xil.all (xiB file K)
def gm (K : PySem.W.Frag) : Gm := ⟨K, fun k => none, fun _ => none, fun k => if k ∈ exl then some (He.ga K k) else none, tbOf K tfl⟩
structure Hd (P : Program) (K : PySem.W.Frag) (mg : Str → Option Value) (base : Heap) : Prop where
  cz : SaysZ fa fnl prl K
  ns : ∃ h0 : Heap, K.In h0 ∧ h0.Ns mainGlobals mg
  tb : TabsK K mg base tfl
  ex : exK0 K = true
  xb : ∀ d ∈ xil, xiB file K d = true
  xi : ∀ d ∈ xil, xiW K d = d.val
  pr : P.main.file = file ∧ (P.main.scope.names.lookup ("super" : Str)).isSome = false
section
variable {P : Program} {w : World} {K : PySem.W.Frag} {mg : Str → Option Value} {base : Heap}
theorem hfree (h : Hd P K mg base) (i : Nat) {x : Str} (e : fa[i]? = some (.free x)) : mg x = none := let ⟨_, kx, gx⟩ := h.ns; He.free_ok kx gx (h.cz.a.fact i e)
theorem hglo (h : Hd P K mg base) (i : Nat) {x : Str} (e : fa[i]? = some (.glo x)) : mg x = some (.ref (He.ga K x)) := let ⟨_, kx, gx⟩ := h.ns; He.glo_ok kx gx (h.cz.a.fact i e)
theorem hstr (h : Hd P K mg base) (i : Nat) {x z : Str} (e : fa[i]? = some (.str x z)) : ∃ t, mg x = some (.str z t) := let ⟨_, kx, gx⟩ := h.ns; He.str_ok kx gx (h.cz.a.fact i e)
theorem hint (h : Hd P K mg base) (i : Nat) {x : Str} {z : Int} (e : fa[i]? = some (.int x z)) : ∃ t, mg x = some (.int z t) := let ⟨_, kx, gx⟩ := h.ns; He.int_ok kx gx (h.cz.a.fact i e)
theorem fr_abs (h : Hd P K mg base) : mg "abs" = none := hfree h 0 rfl
theorem fr_int (h : Hd P K mg base) : mg "int" = none := hfree h 1 rfl
theorem fr_len (h : Hd P K mg base) : mg "len" = none := hfree h 2 rfl
theorem gl__law_next (h : Hd P K mg base) : mg "_law_next" = some (.ref (d_law_next.at_ K)) := hglo h 3 rfl
theorem gl_NoHistory (h : Hd P K mg base) : mg "NoHistory" = some (.ref (He.ga K "NoHistory")) := hglo h 4 rfl
theorem gl_NoVersion (h : Hd P K mg base) : mg "NoVersion" = some (.ref (He.ga K "NoVersion")) := hglo h 5 rfl
theorem gl_NoChange (h : Hd P K mg base) : mg "NoChange" = some (.ref (He.ga K "NoChange")) := hglo h 6 rfl
theorem gl_NoTest (h : Hd P K mg base) : mg "NoTest" = some (.ref (He.ga K "NoTest")) := hglo h 7 rfl
theorem gl_Cheaper (h : Hd P K mg base) : mg "Cheaper" = some (.ref (He.ga K "Cheaper")) := hglo h 8 rfl
theorem gl_TooMany (h : Hd P K mg base) : mg "TooMany" = some (.ref (He.ga K "TooMany")) := hglo h 9 rfl
theorem gl_NoOperation (h : Hd P K mg base) : mg "NoOperation" = some (.ref (He.ga K "NoOperation")) := hglo h 10 rfl
theorem gl_NoJournal (h : Hd P K mg base) : mg "NoJournal" = some (.ref (He.ga K "NoJournal")) := hglo h 11 rfl
theorem gl_NoText (h : Hd P K mg base) : mg "NoText" = some (.ref (He.ga K "NoText")) := hglo h 12 rfl
theorem gl_NoLimit (h : Hd P K mg base) : mg "NoLimit" = some (.ref (He.ga K "NoLimit")) := hglo h 13 rfl
theorem gl_NoLie (h : Hd P K mg base) : mg "NoLie" = some (.ref (He.ga K "NoLie")) := hglo h 14 rfl
theorem gl_NoCosts (h : Hd P K mg base) : mg "NoCosts" = some (.ref (He.ga K "NoCosts")) := hglo h 15 rfl
theorem gl_NoCase (h : Hd P K mg base) : mg "NoCase" = some (.ref (He.ga K "NoCase")) := hglo h 16 rfl
theorem gl_NoTheory (h : Hd P K mg base) : mg "NoTheory" = some (.ref (He.ga K "NoTheory")) := hglo h 17 rfl
theorem gl_NoCause (h : Hd P K mg base) : mg "NoCause" = some (.ref (He.ga K "NoCause")) := hglo h 18 rfl
theorem gl_NoOrder (h : Hd P K mg base) : mg "NoOrder" = some (.ref (He.ga K "NoOrder")) := hglo h 19 rfl
theorem gl_NoPlan (h : Hd P K mg base) : mg "NoPlan" = some (.ref (He.ga K "NoPlan")) := hglo h 20 rfl
theorem gl_NoState (h : Hd P K mg base) : mg "NoState" = some (.ref (He.ga K "NoState")) := hglo h 21 rfl
theorem gl_NoSuspects (h : Hd P K mg base) : mg "NoSuspects" = some (.ref (He.ga K "NoSuspects")) := hglo h 22 rfl
theorem gl_NoChanges (h : Hd P K mg base) : mg "NoChanges" = some (.ref (He.ga K "NoChanges")) := hglo h 23 rfl
theorem gl_NoClaim (h : Hd P K mg base) : mg "NoClaim" = some (.ref (He.ga K "NoClaim")) := hglo h 24 rfl
theorem gl_NoCauses (h : Hd P K mg base) : mg "NoCauses" = some (.ref (He.ga K "NoCauses")) := hglo h 25 rfl
theorem gl_NothingLeft (h : Hd P K mg base) : mg "NothingLeft" = some (.ref (He.ga K "NothingLeft")) := hglo h 26 rfl
theorem gl_NoNumber (h : Hd P K mg base) : mg "NoNumber" = some (.ref (He.ga K "NoNumber")) := hglo h 27 rfl
theorem fr_isinstance (h : Hd P K mg base) : mg "isinstance" = none := hfree h 28 rfl
theorem gl__law_begun (h : Hd P K mg base) : mg "_law_begun" = some (.ref (d_law_begun.at_ K)) := hglo h 29 rfl
theorem fr_range (h : Hd P K mg base) : mg "range" = none := hfree h 30 rfl
theorem gl__law_pick (h : Hd P K mg base) : mg "_law_pick" = some (.ref (d_law_pick.at_ K)) := hglo h 31 rfl
theorem gl__law_with_fields (h : Hd P K mg base) : mg "_law_with_fields" = some (.ref (d_law_with_fields.at_ K)) := hglo h 32 rfl
theorem fr_repr (h : Hd P K mg base) : mg "repr" = none := hfree h 33 rfl
theorem gl__law_plain (h : Hd P K mg base) : mg "_law_plain" = some (.ref (d_law_plain.at_ K)) := hglo h 34 rfl
theorem fr_enumerate (h : Hd P K mg base) : mg "enumerate" = none := hfree h 35 rfl
theorem gl_BlameError (h : Hd P K mg base) : mg "BlameError" = some (.ref (He.ga K "BlameError")) := hglo h 36 rfl
theorem fr_ValueError (h : Hd P K mg base) : mg "ValueError" = none := hfree h 37 rfl
theorem gl__law_kinds (h : Hd P K mg base) : mg "_law_kinds" = some (.ref (d_law_kinds.at_ K)) := hglo h 38 rfl
theorem gl_law (h : Hd P K mg base) : mg "law" = some (.ref (d_law.at_ K)) := hglo h 39 rfl
theorem fr_super (h : Hd P K mg base) : mg "super" = none := hfree h 40 rfl
theorem cl_none {k : Str} : (gm K).cl k = none := rfl
theorem xcg : XcG (gm K) exl := by
  refine ⟨fun c C e => ?_⟩
  have e : (if c ∈ exl then some (He.ga K c) else none) = some C := e
  split at e
  · rename_i hm; cases e; exact ⟨rfl, cl_none, hm⟩
  · cases e
theorem exb_BlameError (h : Hd P K mg base) : ExB K (He.ga K "BlameError") := exBB_ok (List.all_eq_true.mp (He.ba h.ex).1 _ (List.mem_of_getElem? (i := 0) rfl))
theorem exb_NoOrder (h : Hd P K mg base) : ExB K (He.ga K "NoOrder") := exBB_ok (List.all_eq_true.mp (He.ba h.ex).1 _ (List.mem_of_getElem? (i := 1) rfl))
theorem exb_NoCause (h : Hd P K mg base) : ExB K (He.ga K "NoCause") := exBB_ok (List.all_eq_true.mp (He.ba h.ex).1 _ (List.mem_of_getElem? (i := 2) rfl))
theorem exb_NoTheory (h : Hd P K mg base) : ExB K (He.ga K "NoTheory") := exBB_ok (List.all_eq_true.mp (He.ba h.ex).1 _ (List.mem_of_getElem? (i := 3) rfl))
theorem exb_NoCase (h : Hd P K mg base) : ExB K (He.ga K "NoCase") := exBB_ok (List.all_eq_true.mp (He.ba h.ex).1 _ (List.mem_of_getElem? (i := 4) rfl))
theorem exb_NoCosts (h : Hd P K mg base) : ExB K (He.ga K "NoCosts") := exBB_ok (List.all_eq_true.mp (He.ba h.ex).1 _ (List.mem_of_getElem? (i := 5) rfl))
theorem exb_NoLie (h : Hd P K mg base) : ExB K (He.ga K "NoLie") := exBB_ok (List.all_eq_true.mp (He.ba h.ex).1 _ (List.mem_of_getElem? (i := 6) rfl))
theorem exb_NoLimit (h : Hd P K mg base) : ExB K (He.ga K "NoLimit") := exBB_ok (List.all_eq_true.mp (He.ba h.ex).1 _ (List.mem_of_getElem? (i := 7) rfl))
theorem exb_NoCauses (h : Hd P K mg base) : ExB K (He.ga K "NoCauses") := exBB_ok (List.all_eq_true.mp (He.ba h.ex).1 _ (List.mem_of_getElem? (i := 8) rfl))
theorem exb_NoClaim (h : Hd P K mg base) : ExB K (He.ga K "NoClaim") := exBB_ok (List.all_eq_true.mp (He.ba h.ex).1 _ (List.mem_of_getElem? (i := 9) rfl))
theorem exb_NoChanges (h : Hd P K mg base) : ExB K (He.ga K "NoChanges") := exBB_ok (List.all_eq_true.mp (He.ba h.ex).1 _ (List.mem_of_getElem? (i := 10) rfl))
theorem exb_NoSuspects (h : Hd P K mg base) : ExB K (He.ga K "NoSuspects") := exBB_ok (List.all_eq_true.mp (He.ba h.ex).1 _ (List.mem_of_getElem? (i := 11) rfl))
theorem exb_NoState (h : Hd P K mg base) : ExB K (He.ga K "NoState") := exBB_ok (List.all_eq_true.mp (He.ba h.ex).1 _ (List.mem_of_getElem? (i := 12) rfl))
theorem exb_NoPlan (h : Hd P K mg base) : ExB K (He.ga K "NoPlan") := exBB_ok (List.all_eq_true.mp (He.ba h.ex).1 _ (List.mem_of_getElem? (i := 13) rfl))
theorem exb_NoNumber (h : Hd P K mg base) : ExB K (He.ga K "NoNumber") := exBB_ok (List.all_eq_true.mp (He.ba h.ex).1 _ (List.mem_of_getElem? (i := 14) rfl))
theorem exb_NothingLeft (h : Hd P K mg base) : ExB K (He.ga K "NothingLeft") := exBB_ok (List.all_eq_true.mp (He.ba h.ex).1 _ (List.mem_of_getElem? (i := 15) rfl))
theorem xct (h : Hd P K mg base) : XcTb (gm K) (xtOf xrl) := xcTb_of xcg (He.ba (He.ba (He.ba h.ex).2).2).1
theorem xa_at (h : Hd P K mg base) : ∀ k C, (gm K).xc k = some C → XfC (gm K).K C ∧ PySem.W.findIn (gm K).K (.ref C) "at" = some none := by
  intro k C e
  obtain ⟨rfl, _, hm⟩ := xcg.xc k C e
  have z := List.all_eq_true.mp (List.all_eq_true.mp (He.ba (He.ba (He.ba (He.ba h.ex).2).2).2).2 "at" (List.mem_of_getElem? (i := 0) rfl)) k hm
  exact ⟨xfB_ok (He.ba z).1, of_decide_eq_true (He.ba z).2⟩
theorem xa_change (h : Hd P K mg base) : ∀ k C, (gm K).xc k = some C → XfC (gm K).K C ∧ PySem.W.findIn (gm K).K (.ref C) "change" = some none := by
  intro k C e
  obtain ⟨rfl, _, hm⟩ := xcg.xc k C e
  have z := List.all_eq_true.mp (List.all_eq_true.mp (He.ba (He.ba (He.ba (He.ba h.ex).2).2).2).2 "change" (List.mem_of_getElem? (i := 1) rfl)) k hm
  exact ⟨xfB_ok (He.ba z).1, of_decide_eq_true (He.ba z).2⟩
theorem xa_least (h : Hd P K mg base) : ∀ k C, (gm K).xc k = some C → XfC (gm K).K C ∧ PySem.W.findIn (gm K).K (.ref C) "least" = some none := by
  intro k C e
  obtain ⟨rfl, _, hm⟩ := xcg.xc k C e
  have z := List.all_eq_true.mp (List.all_eq_true.mp (He.ba (He.ba (He.ba (He.ba h.ex).2).2).2).2 "least" (List.mem_of_getElem? (i := 2) rfl)) k hm
  exact ⟨xfB_ok (He.ba z).1, of_decide_eq_true (He.ba z).2⟩
theorem xa_most (h : Hd P K mg base) : ∀ k C, (gm K).xc k = some C → XfC (gm K).K C ∧ PySem.W.findIn (gm K).K (.ref C) "most" = some none := by
  intro k C e
  obtain ⟨rfl, _, hm⟩ := xcg.xc k C e
  have z := List.all_eq_true.mp (List.all_eq_true.mp (He.ba (He.ba (He.ba (He.ba h.ex).2).2).2).2 "most" (List.mem_of_getElem? (i := 3) rfl)) k hm
  exact ⟨xfB_ok (He.ba z).1, of_decide_eq_true (He.ba z).2⟩
theorem xa_row (h : Hd P K mg base) : ∀ k C, (gm K).xc k = some C → XfC (gm K).K C ∧ PySem.W.findIn (gm K).K (.ref C) "row" = some none := by
  intro k C e
  obtain ⟨rfl, _, hm⟩ := xcg.xc k C e
  have z := List.all_eq_true.mp (List.all_eq_true.mp (He.ba (He.ba (He.ba (He.ba h.ex).2).2).2).2 "row" (List.mem_of_getElem? (i := 4) rfl)) k hm
  exact ⟨xfB_ok (He.ba z).1, of_decide_eq_true (He.ba z).2⟩
theorem xa_version (h : Hd P K mg base) : ∀ k C, (gm K).xc k = some C → XfC (gm K).K C ∧ PySem.W.findIn (gm K).K (.ref C) "version" = some none := by
  intro k C e
  obtain ⟨rfl, _, hm⟩ := xcg.xc k C e
  have z := List.all_eq_true.mp (List.all_eq_true.mp (He.ba (He.ba (He.ba (He.ba h.ex).2).2).2).2 "version" (List.mem_of_getElem? (i := 5) rfl)) k hm
  exact ⟨xfB_ok (He.ba z).1, of_decide_eq_true (He.ba z).2⟩
theorem tbx (h : Hd P K mg base) : IsTb (gm K) (tbX krl) := tbX_ok xcg (He.ba (He.ba h.ex).2).1 (He.ba (He.ba (He.ba (He.ba h.ex).2).2).2).1 (fun _ _ => rfl) (fun _ _ _ => rfl)
end
theorem bt_ValueError : bootBuiltins "ValueError" = some (.type "ValueError") := by decide +kernel
theorem bt_abs : bootBuiltins "abs" = some (.builtin "abs") := by decide +kernel
theorem bt_int : bootBuiltins "int" = some (.type "int") := by decide +kernel
theorem bt_len : bootBuiltins "len" = some (.builtin "len") := by decide +kernel
theorem bt_repr : bootBuiltins "repr" = some (.builtin "repr") := by decide +kernel
theorem nd_BlameError : (("BlameError" : Str) == ("__debug__" : Str)) = false := by decide +kernel
theorem nd_BlameErrorc : (("BlameError" : Str) == ("__classdict__" : Str)) = false := by decide +kernel
theorem nd_Cheaper : (("Cheaper" : Str) == ("__debug__" : Str)) = false := by decide +kernel
theorem nd_Cheaperc : (("Cheaper" : Str) == ("__classdict__" : Str)) = false := by decide +kernel
theorem nd_NoCase : (("NoCase" : Str) == ("__debug__" : Str)) = false := by decide +kernel
theorem nd_NoCasec : (("NoCase" : Str) == ("__classdict__" : Str)) = false := by decide +kernel
theorem nd_NoCause : (("NoCause" : Str) == ("__debug__" : Str)) = false := by decide +kernel
theorem nd_NoCausec : (("NoCause" : Str) == ("__classdict__" : Str)) = false := by decide +kernel
theorem nd_NoCauses : (("NoCauses" : Str) == ("__debug__" : Str)) = false := by decide +kernel
theorem nd_NoCausesc : (("NoCauses" : Str) == ("__classdict__" : Str)) = false := by decide +kernel
theorem nd_NoChange : (("NoChange" : Str) == ("__debug__" : Str)) = false := by decide +kernel
theorem nd_NoChangec : (("NoChange" : Str) == ("__classdict__" : Str)) = false := by decide +kernel
theorem nd_NoChanges : (("NoChanges" : Str) == ("__debug__" : Str)) = false := by decide +kernel
theorem nd_NoChangesc : (("NoChanges" : Str) == ("__classdict__" : Str)) = false := by decide +kernel
theorem nd_NoClaim : (("NoClaim" : Str) == ("__debug__" : Str)) = false := by decide +kernel
theorem nd_NoClaimc : (("NoClaim" : Str) == ("__classdict__" : Str)) = false := by decide +kernel
theorem nd_NoCosts : (("NoCosts" : Str) == ("__debug__" : Str)) = false := by decide +kernel
theorem nd_NoCostsc : (("NoCosts" : Str) == ("__classdict__" : Str)) = false := by decide +kernel
theorem nd_NoHistory : (("NoHistory" : Str) == ("__debug__" : Str)) = false := by decide +kernel
theorem nd_NoHistoryc : (("NoHistory" : Str) == ("__classdict__" : Str)) = false := by decide +kernel
theorem nd_NoJournal : (("NoJournal" : Str) == ("__debug__" : Str)) = false := by decide +kernel
theorem nd_NoJournalc : (("NoJournal" : Str) == ("__classdict__" : Str)) = false := by decide +kernel
theorem nd_NoLie : (("NoLie" : Str) == ("__debug__" : Str)) = false := by decide +kernel
theorem nd_NoLiec : (("NoLie" : Str) == ("__classdict__" : Str)) = false := by decide +kernel
theorem nd_NoLimit : (("NoLimit" : Str) == ("__debug__" : Str)) = false := by decide +kernel
theorem nd_NoLimitc : (("NoLimit" : Str) == ("__classdict__" : Str)) = false := by decide +kernel
theorem nd_NoNumber : (("NoNumber" : Str) == ("__debug__" : Str)) = false := by decide +kernel
theorem nd_NoNumberc : (("NoNumber" : Str) == ("__classdict__" : Str)) = false := by decide +kernel
theorem nd_NoOperation : (("NoOperation" : Str) == ("__debug__" : Str)) = false := by decide +kernel
theorem nd_NoOperationc : (("NoOperation" : Str) == ("__classdict__" : Str)) = false := by decide +kernel
theorem nd_NoOrder : (("NoOrder" : Str) == ("__debug__" : Str)) = false := by decide +kernel
theorem nd_NoOrderc : (("NoOrder" : Str) == ("__classdict__" : Str)) = false := by decide +kernel
theorem nd_NoPlan : (("NoPlan" : Str) == ("__debug__" : Str)) = false := by decide +kernel
theorem nd_NoPlanc : (("NoPlan" : Str) == ("__classdict__" : Str)) = false := by decide +kernel
theorem nd_NoState : (("NoState" : Str) == ("__debug__" : Str)) = false := by decide +kernel
theorem nd_NoStatec : (("NoState" : Str) == ("__classdict__" : Str)) = false := by decide +kernel
theorem nd_NoSuspects : (("NoSuspects" : Str) == ("__debug__" : Str)) = false := by decide +kernel
theorem nd_NoSuspectsc : (("NoSuspects" : Str) == ("__classdict__" : Str)) = false := by decide +kernel
theorem nd_NoTest : (("NoTest" : Str) == ("__debug__" : Str)) = false := by decide +kernel
theorem nd_NoTestc : (("NoTest" : Str) == ("__classdict__" : Str)) = false := by decide +kernel
theorem nd_NoText : (("NoText" : Str) == ("__debug__" : Str)) = false := by decide +kernel
theorem nd_NoTextc : (("NoText" : Str) == ("__classdict__" : Str)) = false := by decide +kernel
theorem nd_NoTheory : (("NoTheory" : Str) == ("__debug__" : Str)) = false := by decide +kernel
theorem nd_NoTheoryc : (("NoTheory" : Str) == ("__classdict__" : Str)) = false := by decide +kernel
theorem nd_NoVersion : (("NoVersion" : Str) == ("__debug__" : Str)) = false := by decide +kernel
theorem nd_NoVersionc : (("NoVersion" : Str) == ("__classdict__" : Str)) = false := by decide +kernel
theorem nd_NothingLeft : (("NothingLeft" : Str) == ("__debug__" : Str)) = false := by decide +kernel
theorem nd_NothingLeftc : (("NothingLeft" : Str) == ("__classdict__" : Str)) = false := by decide +kernel
theorem nd_TooMany : (("TooMany" : Str) == ("__debug__" : Str)) = false := by decide +kernel
theorem nd_TooManyc : (("TooMany" : Str) == ("__classdict__" : Str)) = false := by decide +kernel
theorem nd_ValueError : (("ValueError" : Str) == ("__debug__" : Str)) = false := by decide +kernel
theorem nd_ValueErrorc : (("ValueError" : Str) == ("__classdict__" : Str)) = false := by decide +kernel
theorem nd__law_begun : (("_law_begun" : Str) == ("__debug__" : Str)) = false := by decide +kernel
theorem nd__law_begunc : (("_law_begun" : Str) == ("__classdict__" : Str)) = false := by decide +kernel
theorem nd__law_draw : (("_law_draw" : Str) == ("__debug__" : Str)) = false := by decide +kernel
theorem nd__law_drawc : (("_law_draw" : Str) == ("__classdict__" : Str)) = false := by decide +kernel
theorem nd__law_error : (("_law_error" : Str) == ("__debug__" : Str)) = false := by decide +kernel
theorem nd__law_errorc : (("_law_error" : Str) == ("__classdict__" : Str)) = false := by decide +kernel
theorem nd__law_errors : (("_law_errors" : Str) == ("__debug__" : Str)) = false := by decide +kernel
theorem nd__law_errorsc : (("_law_errors" : Str) == ("__classdict__" : Str)) = false := by decide +kernel
theorem nd__law_field : (("_law_field" : Str) == ("__debug__" : Str)) = false := by decide +kernel
theorem nd__law_fieldc : (("_law_field" : Str) == ("__classdict__" : Str)) = false := by decide +kernel
theorem nd__law_found : (("_law_found" : Str) == ("__debug__" : Str)) = false := by decide +kernel
theorem nd__law_foundc : (("_law_found" : Str) == ("__classdict__" : Str)) = false := by decide +kernel
theorem nd__law_great : (("_law_great" : Str) == ("__debug__" : Str)) = false := by decide +kernel
theorem nd__law_greatc : (("_law_great" : Str) == ("__classdict__" : Str)) = false := by decide +kernel
theorem nd__law_k : (("_law_k" : Str) == ("__debug__" : Str)) = false := by decide +kernel
theorem nd__law_kc : (("_law_k" : Str) == ("__classdict__" : Str)) = false := by decide +kernel
theorem nd__law_kinds : (("_law_kinds" : Str) == ("__debug__" : Str)) = false := by decide +kernel
theorem nd__law_kindsc : (("_law_kinds" : Str) == ("__classdict__" : Str)) = false := by decide +kernel
theorem nd__law_lump : (("_law_lump" : Str) == ("__debug__" : Str)) = false := by decide +kernel
theorem nd__law_lumpc : (("_law_lump" : Str) == ("__classdict__" : Str)) = false := by decide +kernel
theorem nd__law_made : (("_law_made" : Str) == ("__debug__" : Str)) = false := by decide +kernel
theorem nd__law_madec : (("_law_made" : Str) == ("__classdict__" : Str)) = false := by decide +kernel
theorem nd__law_many : (("_law_many" : Str) == ("__debug__" : Str)) = false := by decide +kernel
theorem nd__law_manyc : (("_law_many" : Str) == ("__classdict__" : Str)) = false := by decide +kernel
theorem nd__law_mixed : (("_law_mixed" : Str) == ("__debug__" : Str)) = false := by decide +kernel
theorem nd__law_mixedc : (("_law_mixed" : Str) == ("__classdict__" : Str)) = false := by decide +kernel
theorem nd__law_next : (("_law_next" : Str) == ("__debug__" : Str)) = false := by decide +kernel
theorem nd__law_nextc : (("_law_next" : Str) == ("__classdict__" : Str)) = false := by decide +kernel
theorem nd__law_pick : (("_law_pick" : Str) == ("__debug__" : Str)) = false := by decide +kernel
theorem nd__law_pickc : (("_law_pick" : Str) == ("__classdict__" : Str)) = false := by decide +kernel
theorem nd__law_place : (("_law_place" : Str) == ("__debug__" : Str)) = false := by decide +kernel
theorem nd__law_placec : (("_law_place" : Str) == ("__classdict__" : Str)) = false := by decide +kernel
theorem nd__law_plain : (("_law_plain" : Str) == ("__debug__" : Str)) = false := by decide +kernel
theorem nd__law_plainc : (("_law_plain" : Str) == ("__classdict__" : Str)) = false := by decide +kernel
theorem nd__law_script : (("_law_script" : Str) == ("__debug__" : Str)) = false := by decide +kernel
theorem nd__law_scriptc : (("_law_script" : Str) == ("__classdict__" : Str)) = false := by decide +kernel
theorem nd__law_some : (("_law_some" : Str) == ("__debug__" : Str)) = false := by decide +kernel
theorem nd__law_somec : (("_law_some" : Str) == ("__classdict__" : Str)) = false := by decide +kernel
theorem nd__law_spot : (("_law_spot" : Str) == ("__debug__" : Str)) = false := by decide +kernel
theorem nd__law_spotc : (("_law_spot" : Str) == ("__classdict__" : Str)) = false := by decide +kernel
theorem nd__law_turn : (("_law_turn" : Str) == ("__debug__" : Str)) = false := by decide +kernel
theorem nd__law_turnc : (("_law_turn" : Str) == ("__classdict__" : Str)) = false := by decide +kernel
theorem nd__law_value : (("_law_value" : Str) == ("__debug__" : Str)) = false := by decide +kernel
theorem nd__law_valuec : (("_law_value" : Str) == ("__classdict__" : Str)) = false := by decide +kernel
theorem nd__law_with_fields : (("_law_with_fields" : Str) == ("__debug__" : Str)) = false := by decide +kernel
theorem nd__law_with_fieldsc : (("_law_with_fields" : Str) == ("__classdict__" : Str)) = false := by decide +kernel
theorem nd__law_word : (("_law_word" : Str) == ("__debug__" : Str)) = false := by decide +kernel
theorem nd__law_wordc : (("_law_word" : Str) == ("__classdict__" : Str)) = false := by decide +kernel
theorem nd_abs : (("abs" : Str) == ("__debug__" : Str)) = false := by decide +kernel
theorem nd_absc : (("abs" : Str) == ("__classdict__" : Str)) = false := by decide +kernel
theorem nd_int : (("int" : Str) == ("__debug__" : Str)) = false := by decide +kernel
theorem nd_intc : (("int" : Str) == ("__classdict__" : Str)) = false := by decide +kernel
theorem nd_len : (("len" : Str) == ("__debug__" : Str)) = false := by decide +kernel
theorem nd_lenc : (("len" : Str) == ("__classdict__" : Str)) = false := by decide +kernel
theorem nd_repr : (("repr" : Str) == ("__debug__" : Str)) = false := by decide +kernel
theorem nd_reprc : (("repr" : Str) == ("__classdict__" : Str)) = false := by decide +kernel
theorem xl_NoHistory : xi_NoHistory.scope.names.lookup ("at" : Str) = some .local := by decide +kernel
theorem xmk_NoHistory {P : Program} {w : World} {K : PySem.W.Frag} {mg : Str → Option Value} {base : Heap} (h : Hd P K mg base) : XMk (gm K) P w mg base 1 (He.ga K "NoHistory") "at" "at" okFmt :=
  xmk_of (Γ := gm K) (k := 0) (d := xi_NoHistory) h.pr.1 h.pr.2 (h.xi _ (List.mem_of_getElem? (i := 0) rfl)) (h.xb _ (List.mem_of_getElem? (i := 0) rfl)) rfl (NdefX.nscope_by (by decide +kernel)) (by decide +kernel) (fr_super h) rfl rfl (by decide +kernel) (by decide +kernel) (fun _ => rfl) (fun _ => ⟨_, rfl⟩)
    (fun cc cda A outer s H E hg hr => pe_msg3 rfl hg (by have := hr.un; omega) rfl (.inl xl_NoHistory) (by decide +kernel) (by decide +kernel) (by decide))
    (fun _ _ _ _ _ _ us hl => match us, hl with | [_, _], _ => rfl) (fun _ _ _ _ _ _ _ _ => rfl)
theorem xl_NoVersion : xi_NoVersion.scope.names.lookup ("version" : Str) = some .local := by decide +kernel
theorem xmk_NoVersion {P : Program} {w : World} {K : PySem.W.Frag} {mg : Str → Option Value} {base : Heap} (h : Hd P K mg base) : XMk (gm K) P w mg base 1 (He.ga K "NoVersion") "version" "version" fmtY :=
  xmk_of (Γ := gm K) (k := 0) (d := xi_NoVersion) h.pr.1 h.pr.2 (h.xi _ (List.mem_of_getElem? (i := 1) rfl)) (h.xb _ (List.mem_of_getElem? (i := 1) rfl)) rfl (NdefX.nscope_by (by decide +kernel)) (by decide +kernel) (fr_super h) rfl rfl (by decide +kernel) (by decide +kernel) (fun _ => rfl) (fun _ => ⟨_, rfl⟩)
    (fun _ _ _ _ _ _ _ _ _ => pe_msg1)
    (fun _ _ _ _ _ _ us hl => match us, hl with | [_, _], _ => rfl) (fun _ _ _ _ _ _ _ _ => rfl)
theorem xl_NoChange : xi_NoChange.scope.names.lookup ("change" : Str) = some .local := by decide +kernel
theorem xmk_NoChange {P : Program} {w : World} {K : PySem.W.Frag} {mg : Str → Option Value} {base : Heap} (h : Hd P K mg base) : XMk (gm K) P w mg base 1 (He.ga K "NoChange") "change" "change" fmtY :=
  xmk_of (Γ := gm K) (k := 0) (d := xi_NoChange) h.pr.1 h.pr.2 (h.xi _ (List.mem_of_getElem? (i := 2) rfl)) (h.xb _ (List.mem_of_getElem? (i := 2) rfl)) rfl (NdefX.nscope_by (by decide +kernel)) (by decide +kernel) (fr_super h) rfl rfl (by decide +kernel) (by decide +kernel) (fun _ => rfl) (fun _ => ⟨_, rfl⟩)
    (fun _ _ _ _ _ _ _ _ _ => pe_msg1)
    (fun _ _ _ _ _ _ us hl => match us, hl with | [_, _], _ => rfl) (fun _ _ _ _ _ _ _ _ => rfl)
theorem xl_NoTest : xi_NoTest.scope.names.lookup ("at" : Str) = some .local := by decide +kernel
theorem xmk_NoTest {P : Program} {w : World} {K : PySem.W.Frag} {mg : Str → Option Value} {base : Heap} (h : Hd P K mg base) : XMk (gm K) P w mg base 1 (He.ga K "NoTest") "at" "at" okFmt :=
  xmk_of (Γ := gm K) (k := 0) (d := xi_NoTest) h.pr.1 h.pr.2 (h.xi _ (List.mem_of_getElem? (i := 3) rfl)) (h.xb _ (List.mem_of_getElem? (i := 3) rfl)) rfl (NdefX.nscope_by (by decide +kernel)) (by decide +kernel) (fr_super h) rfl rfl (by decide +kernel) (by decide +kernel) (fun _ => rfl) (fun _ => ⟨_, rfl⟩)
    (fun cc cda A outer s H E hg hr => pe_msg3 rfl hg (by have := hr.un; omega) rfl (.inl xl_NoTest) (by decide +kernel) (by decide +kernel) (by decide))
    (fun _ _ _ _ _ _ us hl => match us, hl with | [_, _], _ => rfl) (fun _ _ _ _ _ _ _ _ => rfl)
theorem xl_Cheaper : xi_Cheaper.scope.names.lookup ("least" : Str) = some .local := by decide +kernel
theorem xmk_Cheaper {P : Program} {w : World} {K : PySem.W.Frag} {mg : Str → Option Value} {base : Heap} (h : Hd P K mg base) : XMk (gm K) P w mg base 1 (He.ga K "Cheaper") "least" "least" okFmt :=
  xmk_of (Γ := gm K) (k := 0) (d := xi_Cheaper) h.pr.1 h.pr.2 (h.xi _ (List.mem_of_getElem? (i := 4) rfl)) (h.xb _ (List.mem_of_getElem? (i := 4) rfl)) rfl (NdefX.nscope_by (by decide +kernel)) (by decide +kernel) (fr_super h) rfl rfl (by decide +kernel) (by decide +kernel) (fun _ => rfl) (fun _ => ⟨_, rfl⟩)
    (fun cc cda A outer s H E hg hr => pe_msg2 rfl hg (by have := hr.un; omega) rfl (.inl xl_Cheaper) (by decide +kernel) (by decide +kernel) (by decide))
    (fun _ _ _ _ _ _ us hl => match us, hl with | [_, _], _ => rfl) (fun _ _ _ _ _ _ _ _ => rfl)
theorem xl_TooMany : xi_TooMany.scope.names.lookup ("most" : Str) = some .local := by decide +kernel
theorem xmk_TooMany {P : Program} {w : World} {K : PySem.W.Frag} {mg : Str → Option Value} {base : Heap} (h : Hd P K mg base) : XMk (gm K) P w mg base 1 (He.ga K "TooMany") "most" "most" okFmt :=
  xmk_of (Γ := gm K) (k := 0) (d := xi_TooMany) h.pr.1 h.pr.2 (h.xi _ (List.mem_of_getElem? (i := 5) rfl)) (h.xb _ (List.mem_of_getElem? (i := 5) rfl)) rfl (NdefX.nscope_by (by decide +kernel)) (by decide +kernel) (fr_super h) rfl rfl (by decide +kernel) (by decide +kernel) (fun _ => rfl) (fun _ => ⟨_, rfl⟩)
    (fun cc cda A outer s H E hg hr => pe_msg2 rfl hg (by have := hr.un; omega) rfl (.inl xl_TooMany) (by decide +kernel) (by decide +kernel) (by decide))
    (fun _ _ _ _ _ _ us hl => match us, hl with | [_, _], _ => rfl) (fun _ _ _ _ _ _ _ _ => rfl)
theorem xl_NoOperation : xi_NoOperation.scope.names.lookup ("at" : Str) = some .local := by decide +kernel
theorem xmk_NoOperation {P : Program} {w : World} {K : PySem.W.Frag} {mg : Str → Option Value} {base : Heap} (h : Hd P K mg base) : XMk (gm K) P w mg base 1 (He.ga K "NoOperation") "at" "at" okFmt :=
  xmk_of (Γ := gm K) (k := 0) (d := xi_NoOperation) h.pr.1 h.pr.2 (h.xi _ (List.mem_of_getElem? (i := 6) rfl)) (h.xb _ (List.mem_of_getElem? (i := 6) rfl)) rfl (NdefX.nscope_by (by decide +kernel)) (by decide +kernel) (fr_super h) rfl rfl (by decide +kernel) (by decide +kernel) (fun _ => rfl) (fun _ => ⟨_, rfl⟩)
    (fun cc cda A outer s H E hg hr => pe_msg3 rfl hg (by have := hr.un; omega) rfl (.inl xl_NoOperation) (by decide +kernel) (by decide +kernel) (by decide))
    (fun _ _ _ _ _ _ us hl => match us, hl with | [_, _], _ => rfl) (fun _ _ _ _ _ _ _ _ => rfl)
theorem xl_NoJournal : xi_NoJournal.scope.names.lookup ("at" : Str) = some .local := by decide +kernel
theorem xmk_NoJournal {P : Program} {w : World} {K : PySem.W.Frag} {mg : Str → Option Value} {base : Heap} (h : Hd P K mg base) : XMk (gm K) P w mg base 1 (He.ga K "NoJournal") "at" "at" okFmt :=
  xmk_of (Γ := gm K) (k := 0) (d := xi_NoJournal) h.pr.1 h.pr.2 (h.xi _ (List.mem_of_getElem? (i := 7) rfl)) (h.xb _ (List.mem_of_getElem? (i := 7) rfl)) rfl (NdefX.nscope_by (by decide +kernel)) (by decide +kernel) (fr_super h) rfl rfl (by decide +kernel) (by decide +kernel) (fun _ => rfl) (fun _ => ⟨_, rfl⟩)
    (fun cc cda A outer s H E hg hr => pe_msg3 rfl hg (by have := hr.un; omega) rfl (.inl xl_NoJournal) (by decide +kernel) (by decide +kernel) (by decide))
    (fun _ _ _ _ _ _ us hl => match us, hl with | [_, _], _ => rfl) (fun _ _ _ _ _ _ _ _ => rfl)
theorem xl_NoText : xi_NoText.scope.names.lookup ("row" : Str) = some .local := by decide +kernel
theorem xmk_NoText {P : Program} {w : World} {K : PySem.W.Frag} {mg : Str → Option Value} {base : Heap} (h : Hd P K mg base) : XMk (gm K) P w mg base 1 (He.ga K "NoText") "row" "row" okFmt :=
  xmk_of (Γ := gm K) (k := 0) (d := xi_NoText) h.pr.1 h.pr.2 (h.xi _ (List.mem_of_getElem? (i := 8) rfl)) (h.xb _ (List.mem_of_getElem? (i := 8) rfl)) rfl (NdefX.nscope_by (by decide +kernel)) (by decide +kernel) (fr_super h) rfl rfl (by decide +kernel) (by decide +kernel) (fun _ => rfl) (fun _ => ⟨_, rfl⟩)
    (fun cc cda A outer s H E hg hr => pe_msg3 rfl hg (by have := hr.un; omega) rfl (.inl xl_NoText) (by decide +kernel) (by decide +kernel) (by decide))
    (fun _ _ _ _ _ _ us hl => match us, hl with | [_, _], _ => rfl) (fun _ _ _ _ _ _ _ _ => rfl)
noncomputable section
variable {P : Program} {w : World} {K : PySem.W.Frag} {mg : Str → Option Value} {base : Heap}
theorem fng_bad {Γ : Gm} {k n : Nat} {f : Addr} {fd : FuncData} {ps : List Str} : FnG P w Γ.K mg base k f fd ps (spZ Γ n fun _ _ => .bad) := ⟨fun vs H Q E h => (let ⟨_, _, _, _, _, _, z⟩ := h; z.elim), fun A outer s H args us vs Q E _ _ _ _ _ h => (let ⟨_, _, _, _, _, _, z⟩ := h; z.elim)⟩
def c_law_begun_1 : FE := fLc true (fiAny (fName 0)) (fgName 2) (fT (fBin oGe (fCB oAbs (fACons (fName 2) (fANil))) (fBin oPow (fC (.int 10)) (fC (.int 18))))) (fBin oFdiv (fCB oAbs (fACons (fName 2) (fANil))) (fBin oPow (fC (.int 10)) (fC (.int 18)))) [2]
def c_law_begun_2 : FE := fLc true (fiAny (fName 0)) (fgName 2) (fYes) (fBin oMod (fCB oInt1 (fACons (fCB oAbs (fACons (fName 2) (fANil))) (fANil))) (fBin oPow (fC (.int 10)) (fC (.int 18)))) [2]
def S_law_begun : FS := fSeq (fSet 1 c_law_begun_1)
 (fRet (fDisp true [((.inr "digits"), fC (.int 0)), ((.inr "great"), fName 1), ((.inr "lumps"), c_law_begun_2), ((.inr "turn"), fC (.int 0))]))
def F_law_begun : FF := fBodyK 3 0 (S_law_begun)
theorem sc_law_begun : FnScope ["_law_script", "_law_great", "_law_lump"] ["_law_script"] d_law_begun.scope := ⟨rfl, rfl, rfl, by decide +kernel, rfl, by decide +kernel, by decide +kernel⟩
theorem og_law_begun (h : Hd P K mg base) : ∃ fd, FnG P w K mg base (1 + 1) (d_law_begun.at_ K) fd ["_law_script"] (spZ (gm K) 1 (F_law_begun)) ∧ FunD K d_law_begun.name d_law_begun.qual d_law_begun.params d_law_begun.body d_law_begun.scope (d_law_begun.dvs K) (d_law_begun.kws K) (d_law_begun.at_ K) fd := by
  obtain ⟨fd, F⟩ := h.cz.a.def_ 0 (d := d_law_begun) rfl
  refine ⟨fd, ?_, F⟩
  have F2 : FunD (gm K).K d_law_begun.name d_law_begun.qual d_law_begun.params d_law_begun.body d_law_begun.scope (d_law_begun.dvs K) (d_law_begun.kws K) (d_law_begun.at_ K) fd := F
  have G0 := fn_okK (P := P) (w := w) (mg := mg) (base := base) (Γ := gm K) (k := 1) (s := S_law_begun) F2 sc_law_begun
  have G1 := G0 (fun W cdv A outer st H E c po => by
    unfold S_law_begun c_law_begun_2 c_law_begun_1
    exact (zs_cons (zs_setLc (live := true) c (i := 1) rfl rfl (sw_true rfl rfl rfl rfl) (zi_any c (ze_name (i := 0) rfl (Or.inl rfl) nd__law_script nd__law_scriptc)) (blkOk_by (own := [("_law_lump", 2)]) rfl) (tg_name (i := 2) (by simp)) (fun s1 H1 C1 l1 q1 => pg_name (Cz.nd (Cz.blk c s1 H1 _ _ q1)) (i := 2) rfl (Or.inl rfl) (Or.inr rfl)) (fun s1 H1 C1 l1 q1 => zts_one (zt_cmp (Cz.blk c s1 H1 _ _ q1) rfl (ze_blt call_abs oAbs_ok (by rfl) (fr_abs h) bt_abs (za_cons (ze_name (i := 2) rfl (Or.inl rfl) nd__law_lump nd__law_lumpc) za_nil rfl) (by decide) nd_abs rfl rfl) (ze_pow ze_int ze_int) rfl)) (fun s1 H1 C1 l1 q1 => (ze_fdiv (ze_blt call_abs oAbs_ok (by rfl) (fr_abs h) bt_abs (za_cons (ze_name (i := 2) rfl (Or.inl rfl) nd__law_lump nd__law_lumpc) za_nil rfl) (by decide) nd_abs rfl rfl) (ze_pow ze_int ze_int))) (fun _ => rfl))
 (zs_one (zs_ret (ze_disp (live := true) (Prs.cons (key := (.inr "digits")) ze_str ze_int (Prs.cons (key := (.inr "great")) ze_str (ze_name (i := 1) rfl (Or.inl rfl) nd__law_great nd__law_greatc) (Prs.cons (key := (.inr "lumps")) ze_str (ze_lc (live := true) c (zi_any c (ze_name (i := 0) rfl (Or.inl rfl) nd__law_script nd__law_scriptc)) (blkOk_by (own := [("_law_lump", 2)]) rfl) (tg_name (i := 2) (by simp)) (fun s1 H1 C1 l1 q1 => pg_name (Cz.nd (Cz.blk c s1 H1 _ _ q1)) (i := 2) rfl (Or.inl rfl) (Or.inr rfl)) (fun s1 H1 C1 l1 q1 => zts_nil) (fun s1 H1 C1 l1 q1 => (ze_mod (ze_bty call_int1 oInt1_ok (by rfl) (fr_int h) bt_int (za_cons (ze_blt call_abs oAbs_ok (by rfl) (fr_abs h) bt_abs (za_cons (ze_name (i := 2) rfl (Or.inl rfl) nd__law_lump nd__law_lumpc) za_nil rfl) (by decide) nd_abs rfl rfl) za_nil rfl) (by decide) nd_int rfl rfl) (ze_pow ze_int ze_int))) (fun _ => rfl)) (Prs.cons (key := (.inr "turn")) ze_str ze_int Prs.nil)))) (by simp) (by simp))))))
  exact G1
theorem ok_law_begun (h : Hd P K mg base) : FnZ (gm K) P w mg base (1 + 1) (d_law_begun.at_ K) 1 F_law_begun [] := by
  obtain ⟨fd, G, F⟩ := og_law_begun h
  exact ⟨⟨fd, ["_law_script"], [], [], G, F.bindsN (ps := ["_law_script"]) fun _ _ _ _ _ _ us hl => match us, hl with | [_], _ => rfl, .nil, fun _ => IsL.nil⟩, F.kp⟩
def t_law_next_1 : FT := fAndT (fT (fBin (oEq false) (fBin oIx (fName 0) (fC (.str "digits"))) (fC (.int 0)))) (fT (fBin (oEq true) (fBin oIx (fName 0) (fC (.str "great"))) (fLst (fANil))))
def b_law_next_2 : FS := fPut (fName 0) (fC (.str "digits")) (fBM "list" oPopAt (fBin oIx (fName 0) (fC (.str "great"))) (fACons (fC (.int 0)) (fANil)))
def i_law_next_3 : FS := fIfS (fT (fBin oGt (fBin oIx (fName 0) (fC (.str "digits"))) (fC (.int 0))))
 (fSeq (fSet 2 (fBin oMod (fCB oInt1 (fACons (fBin oIx (fName 0) (fC (.str "digits"))) (fANil))) (fName 1)))
 (fSeq (fPut (fName 0) (fC (.str "digits")) (fBin oFdiv (fBin oIx (fName 0) (fC (.str "digits"))) (fName 1)))
 (fRet (fName 2))))
 (fNext)
def i_law_next_4 : FS := fIfS (fT (fBin (oEq true) (fBin oIx (fName 0) (fC (.str "lumps"))) (fLst (fANil))))
 (fSet 4 (fBin oIx (fBin oIx (fName 0) (fC (.str "lumps"))) (fBin oMod (fCB oInt1 (fACons (fName 3) (fANil))) (fCB oLen (fACons (fBin oIx (fName 0) (fC (.str "lumps"))) (fANil))))))
 (fNext)
def S_law_next : FS := fSeq (fWh t_law_next_1 b_law_next_2 70)
 (fSeq (i_law_next_3)
 (fSeq (fAugK (fName 0) (fC (.str "turn")) (fC (.int 1)))
 (fSeq (fSet 3 (fBin oIx (fName 0) (fC (.str "turn"))))
 (fSeq (fSet 4 (fC (.int 0)))
 (fSeq (i_law_next_4)
 (fSeq (fSet 5 (fBin oMod (fCB oInt1 (fACons (fBin oPow (fBin oAdd (fBin oMod (fCB oInt1 (fACons (fName 4) (fANil))) (fC (.int 2147483629))) (fBin oMul (fC (.int 40009)) (fName 3))) (fC (.int 3))) (fANil))) (fC (.int 2147483647))))
 (fRet (fBin oMod (fCB oInt1 (fACons (fBin oFdiv (fBin oMod (fCB oInt1 (fACons (fBin oPow (fBin oAdd (fName 5) (fBin oMul (fC (.int 104729)) (fName 3))) (fC (.int 5))) (fANil))) (fC (.int 2147483629))) (fC (.int 11))) (fANil))) (fName 1)))))))))
def F_law_next : FF := fBody 6 (S_law_next)
theorem sc_law_next : FnScope ["_law_draw", "_law_many", "_law_found", "_law_turn", "_law_lump", "_law_mixed"] ["_law_draw", "_law_many"] d_law_next.scope := ⟨rfl, rfl, rfl, by decide +kernel, rfl, by decide +kernel, by decide +kernel⟩
theorem og_law_next (h : Hd P K mg base) : ∃ fd, FnG P w K mg base (1 + 1) (d_law_next.at_ K) fd ["_law_draw", "_law_many"] (spZ (gm K) 2 (F_law_next)) ∧ FunD K d_law_next.name d_law_next.qual d_law_next.params d_law_next.body d_law_next.scope (d_law_next.dvs K) (d_law_next.kws K) (d_law_next.at_ K) fd := by
  obtain ⟨fd, F⟩ := h.cz.a.def_ 1 (d := d_law_next) rfl
  refine ⟨fd, ?_, F⟩
  have F2 : FunD (gm K).K d_law_next.name d_law_next.qual d_law_next.params d_law_next.body d_law_next.scope (d_law_next.dvs K) (d_law_next.kws K) (d_law_next.at_ K) fd := F
  have G0 := fn_ok (P := P) (w := w) (mg := mg) (base := base) (Γ := gm K) (k := 1) (s := S_law_next) F2 sc_law_next
  have G1 := G0 (fun W cdv A outer st H E c po => by
    unfold S_law_next i_law_next_4 i_law_next_3 b_law_next_2 t_law_next_1
    exact (zs_cons (zs_while (n := 70) po (PW.pt (zt_and (zt_cmp c rfl (ze_ix c (ze_name (i := 0) rfl (Or.inl rfl) nd__law_draw nd__law_drawc) ze_str (fun _ _ => rfl)) ze_int rfl) (pw_and1 (zt_cmp c rfl (ze_ix c (ze_name (i := 0) rfl (Or.inl rfl) nd__law_draw nd__law_drawc) ze_str (fun _ _ => rfl)) (ze_lst za_nil) rfl)))) (zs_one (zs_put c (ze_name (i := 0) rfl (Or.inl rfl) nd__law_draw nd__law_drawc) ze_str (ze_bm PySem.F.plainAttrs_list PySem.F.slot_list_pop PySem.F.type_list_pop c mt_popAt oPopAt_ok (ze_ix c (ze_name (i := 0) rfl (Or.inl rfl) nd__law_draw nd__law_drawc) ze_str (fun _ _ => rfl)) (za_cons ze_int za_nil rfl) rfl rfl rfl rfl rfl) rfl)))
 (zs_cons (zs_if (zt_cmp c rfl (ze_ix c (ze_name (i := 0) rfl (Or.inl rfl) nd__law_draw nd__law_drawc) ze_str (fun _ _ => rfl)) ze_int rfl)
 (zs_cons (zs_set c (i := 2) rfl (Or.inl rfl) (ze_mod (ze_bty call_int1 oInt1_ok (by rfl) (fr_int h) bt_int (za_cons (ze_ix c (ze_name (i := 0) rfl (Or.inl rfl) nd__law_draw nd__law_drawc) ze_str (fun _ _ => rfl)) za_nil rfl) (by decide) nd_int rfl rfl) (ze_name (i := 1) rfl (Or.inl rfl) nd__law_many nd__law_manyc)) rfl (Or.inl rfl))
 (zs_cons (zs_put c (ze_name (i := 0) rfl (Or.inl rfl) nd__law_draw nd__law_drawc) ze_str (ze_fdiv (ze_ix c (ze_name (i := 0) rfl (Or.inl rfl) nd__law_draw nd__law_drawc) ze_str (fun _ _ => rfl)) (ze_name (i := 1) rfl (Or.inl rfl) nd__law_many nd__law_manyc)) rfl)
 (zs_one (zs_ret (ze_name (i := 2) rfl (Or.inl rfl) nd__law_found nd__law_foundc)))))
 zs_nil)
 (zs_cons (zs_augK c (ze_name (i := 0) rfl (Or.inl rfl) nd__law_draw nd__law_drawc) ze_str ze_int (fun _ _ _ => rfl))
 (zs_cons (zs_set c (i := 3) rfl (Or.inl rfl) (ze_ix c (ze_name (i := 0) rfl (Or.inl rfl) nd__law_draw nd__law_drawc) ze_str (fun _ _ => rfl)) rfl (Or.inl rfl))
 (zs_cons (zs_set c (i := 4) rfl (Or.inl rfl) ze_int rfl (Or.inl rfl))
 (zs_cons (zs_if (zt_cmp c rfl (ze_ix c (ze_name (i := 0) rfl (Or.inl rfl) nd__law_draw nd__law_drawc) ze_str (fun _ _ => rfl)) (ze_lst za_nil) rfl)
 (zs_one (zs_set c (i := 4) rfl (Or.inl rfl) (ze_ix c (ze_ix c (ze_name (i := 0) rfl (Or.inl rfl) nd__law_draw nd__law_drawc) ze_str (fun _ _ => rfl)) (ze_mod (ze_bty call_int1 oInt1_ok (by rfl) (fr_int h) bt_int (za_cons (ze_name (i := 3) rfl (Or.inl rfl) nd__law_turn nd__law_turnc) za_nil rfl) (by decide) nd_int rfl rfl) (ze_blt call_lenA oLen_ok (by rfl) (fr_len h) bt_len (za_cons (ze_ix c (ze_name (i := 0) rfl (Or.inl rfl) nd__law_draw nd__law_drawc) ze_str (fun _ _ => rfl)) za_nil rfl) (by decide) nd_len rfl rfl)) (fun _ _ => rfl)) rfl (Or.inl rfl)))
 zs_nil)
 (zs_cons (zs_set c (i := 5) rfl (Or.inl rfl) (ze_mod (ze_bty call_int1 oInt1_ok (by rfl) (fr_int h) bt_int (za_cons (ze_pow (ze_add c (ze_mod (ze_bty call_int1 oInt1_ok (by rfl) (fr_int h) bt_int (za_cons (ze_name (i := 4) rfl (Or.inl rfl) nd__law_lump nd__law_lumpc) za_nil rfl) (by decide) nd_int rfl rfl) ze_int) (ze_mul ze_int (ze_name (i := 3) rfl (Or.inl rfl) nd__law_turn nd__law_turnc))) ze_int) za_nil rfl) (by decide) nd_int rfl rfl) ze_int) rfl (Or.inl rfl))
 (zs_one (zs_ret (ze_mod (ze_bty call_int1 oInt1_ok (by rfl) (fr_int h) bt_int (za_cons (ze_fdiv (ze_mod (ze_bty call_int1 oInt1_ok (by rfl) (fr_int h) bt_int (za_cons (ze_pow (ze_add c (ze_name (i := 5) rfl (Or.inl rfl) nd__law_mixed nd__law_mixedc) (ze_mul ze_int (ze_name (i := 3) rfl (Or.inl rfl) nd__law_turn nd__law_turnc))) ze_int) za_nil rfl) (by decide) nd_int rfl rfl) ze_int) ze_int) za_nil rfl) (by decide) nd_int rfl rfl) (ze_name (i := 1) rfl (Or.inl rfl) nd__law_many nd__law_manyc))))))))))))
  exact G1
theorem ok_law_next (h : Hd P K mg base) : FnZ (gm K) P w mg base (1 + 1) (d_law_next.at_ K) 2 F_law_next [] := by
  obtain ⟨fd, G, F⟩ := og_law_next h
  exact ⟨⟨fd, ["_law_draw", "_law_many"], [], [], G, F.bindsN (ps := ["_law_draw", "_law_many"]) fun _ _ _ _ _ _ us hl => match us, hl with | [_, _], _ => rfl, .nil, fun _ => IsL.nil⟩, F.kp⟩
def S_law_pick : FS := fRet (fBin oIx (fName 1) (fCall 2 F_law_next [] (fACons (fName 0) (fACons (fCB oLen (fACons (fName 1) (fANil))) (fANil)))))
def F_law_pick : FF := fBody 2 (S_law_pick)
theorem sc_law_pick : FnScope ["_law_draw", "_law_some"] ["_law_draw", "_law_some"] d_law_pick.scope := ⟨rfl, rfl, rfl, by decide +kernel, rfl, by decide +kernel, by decide +kernel⟩
theorem og_law_pick (h : Hd P K mg base) : ∃ fd, FnG P w K mg base (3 + 1) (d_law_pick.at_ K) fd ["_law_draw", "_law_some"] (spZ (gm K) 2 (F_law_pick)) ∧ FunD K d_law_pick.name d_law_pick.qual d_law_pick.params d_law_pick.body d_law_pick.scope (d_law_pick.dvs K) (d_law_pick.kws K) (d_law_pick.at_ K) fd := by
  obtain ⟨fd, F⟩ := h.cz.a.def_ 2 (d := d_law_pick) rfl
  refine ⟨fd, ?_, F⟩
  have F2 : FunD (gm K).K d_law_pick.name d_law_pick.qual d_law_pick.params d_law_pick.body d_law_pick.scope (d_law_pick.dvs K) (d_law_pick.kws K) (d_law_pick.at_ K) fd := F
  have G0 := fn_ok (P := P) (w := w) (mg := mg) (base := base) (Γ := gm K) (k := 3) (s := S_law_pick) F2 sc_law_pick
  have G1 := G0 (fun W cdv A outer st H E c po => by
    unfold S_law_pick
    exact (zs_one (zs_ret (ze_ix c (ze_name (i := 1) rfl (Or.inl rfl) nd__law_some nd__law_somec) (ze_call c ((ok_law_next h).up (by omega)) (by rfl) (gl__law_next h) (za_cons (ze_name (i := 0) rfl (Or.inl rfl) nd__law_draw nd__law_drawc) (za_cons (ze_blt call_lenA oLen_ok (by rfl) (fr_len h) bt_len (za_cons (ze_name (i := 1) rfl (Or.inl rfl) nd__law_some nd__law_somec) za_nil rfl) (by decide) nd_len rfl rfl) za_nil rfl) rfl) nd__law_next rfl rfl) (fun _ _ => rfl)))))
  exact G1
theorem ok_law_pick (h : Hd P K mg base) : FnZ (gm K) P w mg base (3 + 1) (d_law_pick.at_ K) 2 F_law_pick [] := by
  obtain ⟨fd, G, F⟩ := og_law_pick h
  exact ⟨⟨fd, ["_law_draw", "_law_some"], [], [], G, F.bindsN (ps := ["_law_draw", "_law_some"]) fun _ _ _ _ _ _ us hl => match us, hl with | [_, _], _ => rfl, .nil, fun _ => IsL.nil⟩, F.kp⟩
def S_law_with_fields : FS := fSeq (fSet 1 (fLstL (fACons (fTup (fACons (fXNew "NoHistory" "at" okFmt (fName 0)) (fACons (fXFld "at" (fXNew "NoHistory" "at" okFmt (fName 0))) (fANil)))) (fACons (fTup (fACons (fXNew "NoHistory" "at" okFmt (fName 0)) (fACons (fXFld "at" (fXNew "NoHistory" "at" okFmt (fName 0))) (fANil)))) (fANil)))))
 (fSeq (fDrop (fBM "list" oAppend (fName 1) (fACons (fTup (fACons (fXNew "NoVersion" "version" fmtY (fName 0)) (fACons (fXFld "version" (fXNew "NoVersion" "version" fmtY (fName 0))) (fANil)))) (fANil))))
 (fSeq (fDrop (fBM "list" oAppend (fName 1) (fACons (fTup (fACons (fXNew "NoVersion" "version" fmtY (fName 0)) (fACons (fXFld "version" (fXNew "NoVersion" "version" fmtY (fName 0))) (fANil)))) (fANil))))
 (fSeq (fDrop (fBM "list" oAppend (fName 1) (fACons (fTup (fACons (fXNew "NoChange" "change" fmtY (fName 0)) (fACons (fXFld "change" (fXNew "NoChange" "change" fmtY (fName 0))) (fANil)))) (fANil))))
 (fSeq (fDrop (fBM "list" oAppend (fName 1) (fACons (fTup (fACons (fXNew "NoChange" "change" fmtY (fName 0)) (fACons (fXFld "change" (fXNew "NoChange" "change" fmtY (fName 0))) (fANil)))) (fANil))))
 (fSeq (fSet 1 (fBin oAdd (fName 1) (fLst (fACons (fTup (fACons (fXNew "NoTest" "at" okFmt (fName 0)) (fACons (fXFld "at" (fXNew "NoTest" "at" okFmt (fName 0))) (fANil)))) (fACons (fTup (fACons (fXNew "NoTest" "at" okFmt (fName 0)) (fACons (fXFld "at" (fXNew "NoTest" "at" okFmt (fName 0))) (fANil)))) (fANil))))))
 (fSeq (fSet 1 (fBin oAdd (fName 1) (fLst (fACons (fTup (fACons (fXNew "Cheaper" "least" okFmt (fName 0)) (fACons (fXFld "least" (fXNew "Cheaper" "least" okFmt (fName 0))) (fANil)))) (fACons (fTup (fACons (fXNew "Cheaper" "least" okFmt (fName 0)) (fACons (fXFld "least" (fXNew "Cheaper" "least" okFmt (fName 0))) (fANil)))) (fANil))))))
 (fSeq (fSet 1 (fBin oAdd (fName 1) (fLst (fACons (fTup (fACons (fXNew "TooMany" "most" okFmt (fName 0)) (fACons (fXFld "most" (fXNew "TooMany" "most" okFmt (fName 0))) (fANil)))) (fACons (fTup (fACons (fXNew "TooMany" "most" okFmt (fName 0)) (fACons (fXFld "most" (fXNew "TooMany" "most" okFmt (fName 0))) (fANil)))) (fANil))))))
 (fSeq (fSet 1 (fBin oAdd (fName 1) (fLst (fACons (fTup (fACons (fXNew "NoOperation" "at" okFmt (fName 0)) (fACons (fXFld "at" (fXNew "NoOperation" "at" okFmt (fName 0))) (fANil)))) (fACons (fTup (fACons (fXNew "NoOperation" "at" okFmt (fName 0)) (fACons (fXFld "at" (fXNew "NoOperation" "at" okFmt (fName 0))) (fANil)))) (fANil))))))
 (fSeq (fSet 1 (fBin oAdd (fName 1) (fLst (fACons (fTup (fACons (fXNew "NoJournal" "at" okFmt (fName 0)) (fACons (fXFld "at" (fXNew "NoJournal" "at" okFmt (fName 0))) (fANil)))) (fACons (fTup (fACons (fXNew "NoJournal" "at" okFmt (fName 0)) (fACons (fXFld "at" (fXNew "NoJournal" "at" okFmt (fName 0))) (fANil)))) (fANil))))))
 (fRet (fBin oAdd (fName 1) (fLst (fACons (fTup (fACons (fXNew "NoText" "row" okFmt (fName 0)) (fACons (fXFld "row" (fXNew "NoText" "row" okFmt (fName 0))) (fANil)))) (fACons (fTup (fACons (fXNew "NoText" "row" okFmt (fName 0)) (fACons (fXFld "row" (fXNew "NoText" "row" okFmt (fName 0))) (fANil)))) (fANil)))))))))))))))
def F_law_with_fields : FF := fBody 2 (S_law_with_fields)
theorem sc_law_with_fields : FnScope ["_law_value", "_law_found"] ["_law_value"] d_law_with_fields.scope := ⟨rfl, rfl, rfl, by decide +kernel, rfl, by decide +kernel, by decide +kernel⟩
theorem og_law_with_fields (h : Hd P K mg base) : ∃ fd, FnG P w K mg base (2 + 1) (d_law_with_fields.at_ K) fd ["_law_value"] (spZ (gm K) 1 (F_law_with_fields)) ∧ FunD K d_law_with_fields.name d_law_with_fields.qual d_law_with_fields.params d_law_with_fields.body d_law_with_fields.scope (d_law_with_fields.dvs K) (d_law_with_fields.kws K) (d_law_with_fields.at_ K) fd := by
  obtain ⟨fd, F⟩ := h.cz.a.def_ 3 (d := d_law_with_fields) rfl
  refine ⟨fd, ?_, F⟩
  have F2 : FunD (gm K).K d_law_with_fields.name d_law_with_fields.qual d_law_with_fields.params d_law_with_fields.body d_law_with_fields.scope (d_law_with_fields.dvs K) (d_law_with_fields.kws K) (d_law_with_fields.at_ K) fd := F
  have G0 := fn_ok (P := P) (w := w) (mg := mg) (base := base) (Γ := gm K) (k := 2) (s := S_law_with_fields) F2 sc_law_with_fields
  have G1 := G0 (fun W cdv A outer st H E c po => by
    unfold S_law_with_fields
    exact (zs_cons (zs_set c (i := 1) rfl (Or.inl rfl) (ze_lstL (za_cons (ze_tup (za_cons (ze_mkX c rfl ((xmk_NoHistory h).up (by omega)) (by rfl) (gl_NoHistory h) (ze_name (i := 0) rfl (Or.inl rfl) nd__law_value nd__law_valuec) nd_NoHistory rfl) (za_cons (ze_xfld c (xa_at h) (ze_mkX c rfl ((xmk_NoHistory h).up (by omega)) (by rfl) (gl_NoHistory h) (ze_name (i := 0) rfl (Or.inl rfl) nd__law_value nd__law_valuec) nd_NoHistory rfl) rfl) za_nil rfl) rfl)) (za_cons (ze_tup (za_cons (ze_mkXK c rfl ((xmk_NoHistory h).up (by omega)) (by rfl) (gl_NoHistory h) (ze_name (i := 0) rfl (Or.inl rfl) nd__law_value nd__law_valuec) nd_NoHistory rfl rfl rfl) (za_cons (ze_xfld c (xa_at h) (ze_mkXK c rfl ((xmk_NoHistory h).up (by omega)) (by rfl) (gl_NoHistory h) (ze_name (i := 0) rfl (Or.inl rfl) nd__law_value nd__law_valuec) nd_NoHistory rfl rfl rfl) rfl) za_nil rfl) rfl)) za_nil rfl) rfl)) rfl (Or.inl rfl))
 (zs_cons (zs_expr (ze_bm PySem.F.plainAttrs_list PySem.F.slot_list_append PySem.F.type_list_append c mt_append oAppend_ok (ze_name (i := 1) rfl (Or.inl rfl) nd__law_found nd__law_foundc) (za_cons (ze_tup (za_cons (ze_mkX c rfl ((xmk_NoVersion h).up (by omega)) (by rfl) (gl_NoVersion h) (ze_name (i := 0) rfl (Or.inl rfl) nd__law_value nd__law_valuec) nd_NoVersion rfl) (za_cons (ze_xfld c (xa_version h) (ze_mkX c rfl ((xmk_NoVersion h).up (by omega)) (by rfl) (gl_NoVersion h) (ze_name (i := 0) rfl (Or.inl rfl) nd__law_value nd__law_valuec) nd_NoVersion rfl) rfl) za_nil rfl) rfl)) za_nil rfl) rfl rfl rfl rfl rfl) rfl)
 (zs_cons (zs_expr (ze_bm PySem.F.plainAttrs_list PySem.F.slot_list_append PySem.F.type_list_append c mt_append oAppend_ok (ze_name (i := 1) rfl (Or.inl rfl) nd__law_found nd__law_foundc) (za_cons (ze_tup (za_cons (ze_mkXK c rfl ((xmk_NoVersion h).up (by omega)) (by rfl) (gl_NoVersion h) (ze_name (i := 0) rfl (Or.inl rfl) nd__law_value nd__law_valuec) nd_NoVersion rfl rfl rfl) (za_cons (ze_xfld c (xa_version h) (ze_mkXK c rfl ((xmk_NoVersion h).up (by omega)) (by rfl) (gl_NoVersion h) (ze_name (i := 0) rfl (Or.inl rfl) nd__law_value nd__law_valuec) nd_NoVersion rfl rfl rfl) rfl) za_nil rfl) rfl)) za_nil rfl) rfl rfl rfl rfl rfl) rfl)
 (zs_cons (zs_expr (ze_bm PySem.F.plainAttrs_list PySem.F.slot_list_append PySem.F.type_list_append c mt_append oAppend_ok (ze_name (i := 1) rfl (Or.inl rfl) nd__law_found nd__law_foundc) (za_cons (ze_tup (za_cons (ze_mkX c rfl ((xmk_NoChange h).up (by omega)) (by rfl) (gl_NoChange h) (ze_name (i := 0) rfl (Or.inl rfl) nd__law_value nd__law_valuec) nd_NoChange rfl) (za_cons (ze_xfld c (xa_change h) (ze_mkX c rfl ((xmk_NoChange h).up (by omega)) (by rfl) (gl_NoChange h) (ze_name (i := 0) rfl (Or.inl rfl) nd__law_value nd__law_valuec) nd_NoChange rfl) rfl) za_nil rfl) rfl)) za_nil rfl) rfl rfl rfl rfl rfl) rfl)
 (zs_cons (zs_expr (ze_bm PySem.F.plainAttrs_list PySem.F.slot_list_append PySem.F.type_list_append c mt_append oAppend_ok (ze_name (i := 1) rfl (Or.inl rfl) nd__law_found nd__law_foundc) (za_cons (ze_tup (za_cons (ze_mkXK c rfl ((xmk_NoChange h).up (by omega)) (by rfl) (gl_NoChange h) (ze_name (i := 0) rfl (Or.inl rfl) nd__law_value nd__law_valuec) nd_NoChange rfl rfl rfl) (za_cons (ze_xfld c (xa_change h) (ze_mkXK c rfl ((xmk_NoChange h).up (by omega)) (by rfl) (gl_NoChange h) (ze_name (i := 0) rfl (Or.inl rfl) nd__law_value nd__law_valuec) nd_NoChange rfl rfl rfl) rfl) za_nil rfl) rfl)) za_nil rfl) rfl rfl rfl rfl rfl) rfl)
 (zs_cons (zs_set c (i := 1) rfl (Or.inl rfl) (ze_add c (ze_name (i := 1) rfl (Or.inl rfl) nd__law_found nd__law_foundc) (ze_lst (za_cons (ze_tup (za_cons (ze_mkX c rfl ((xmk_NoTest h).up (by omega)) (by rfl) (gl_NoTest h) (ze_name (i := 0) rfl (Or.inl rfl) nd__law_value nd__law_valuec) nd_NoTest rfl) (za_cons (ze_xfld c (xa_at h) (ze_mkX c rfl ((xmk_NoTest h).up (by omega)) (by rfl) (gl_NoTest h) (ze_name (i := 0) rfl (Or.inl rfl) nd__law_value nd__law_valuec) nd_NoTest rfl) rfl) za_nil rfl) rfl)) (za_cons (ze_tup (za_cons (ze_mkXK c rfl ((xmk_NoTest h).up (by omega)) (by rfl) (gl_NoTest h) (ze_name (i := 0) rfl (Or.inl rfl) nd__law_value nd__law_valuec) nd_NoTest rfl rfl rfl) (za_cons (ze_xfld c (xa_at h) (ze_mkXK c rfl ((xmk_NoTest h).up (by omega)) (by rfl) (gl_NoTest h) (ze_name (i := 0) rfl (Or.inl rfl) nd__law_value nd__law_valuec) nd_NoTest rfl rfl rfl) rfl) za_nil rfl) rfl)) za_nil rfl) rfl))) rfl (Or.inl rfl))
 (zs_cons (zs_set c (i := 1) rfl (Or.inl rfl) (ze_add c (ze_name (i := 1) rfl (Or.inl rfl) nd__law_found nd__law_foundc) (ze_lst (za_cons (ze_tup (za_cons (ze_mkX c rfl ((xmk_Cheaper h).up (by omega)) (by rfl) (gl_Cheaper h) (ze_name (i := 0) rfl (Or.inl rfl) nd__law_value nd__law_valuec) nd_Cheaper rfl) (za_cons (ze_xfld c (xa_least h) (ze_mkX c rfl ((xmk_Cheaper h).up (by omega)) (by rfl) (gl_Cheaper h) (ze_name (i := 0) rfl (Or.inl rfl) nd__law_value nd__law_valuec) nd_Cheaper rfl) rfl) za_nil rfl) rfl)) (za_cons (ze_tup (za_cons (ze_mkXK c rfl ((xmk_Cheaper h).up (by omega)) (by rfl) (gl_Cheaper h) (ze_name (i := 0) rfl (Or.inl rfl) nd__law_value nd__law_valuec) nd_Cheaper rfl rfl rfl) (za_cons (ze_xfld c (xa_least h) (ze_mkXK c rfl ((xmk_Cheaper h).up (by omega)) (by rfl) (gl_Cheaper h) (ze_name (i := 0) rfl (Or.inl rfl) nd__law_value nd__law_valuec) nd_Cheaper rfl rfl rfl) rfl) za_nil rfl) rfl)) za_nil rfl) rfl))) rfl (Or.inl rfl))
 (zs_cons (zs_set c (i := 1) rfl (Or.inl rfl) (ze_add c (ze_name (i := 1) rfl (Or.inl rfl) nd__law_found nd__law_foundc) (ze_lst (za_cons (ze_tup (za_cons (ze_mkX c rfl ((xmk_TooMany h).up (by omega)) (by rfl) (gl_TooMany h) (ze_name (i := 0) rfl (Or.inl rfl) nd__law_value nd__law_valuec) nd_TooMany rfl) (za_cons (ze_xfld c (xa_most h) (ze_mkX c rfl ((xmk_TooMany h).up (by omega)) (by rfl) (gl_TooMany h) (ze_name (i := 0) rfl (Or.inl rfl) nd__law_value nd__law_valuec) nd_TooMany rfl) rfl) za_nil rfl) rfl)) (za_cons (ze_tup (za_cons (ze_mkXK c rfl ((xmk_TooMany h).up (by omega)) (by rfl) (gl_TooMany h) (ze_name (i := 0) rfl (Or.inl rfl) nd__law_value nd__law_valuec) nd_TooMany rfl rfl rfl) (za_cons (ze_xfld c (xa_most h) (ze_mkXK c rfl ((xmk_TooMany h).up (by omega)) (by rfl) (gl_TooMany h) (ze_name (i := 0) rfl (Or.inl rfl) nd__law_value nd__law_valuec) nd_TooMany rfl rfl rfl) rfl) za_nil rfl) rfl)) za_nil rfl) rfl))) rfl (Or.inl rfl))
 (zs_cons (zs_set c (i := 1) rfl (Or.inl rfl) (ze_add c (ze_name (i := 1) rfl (Or.inl rfl) nd__law_found nd__law_foundc) (ze_lst (za_cons (ze_tup (za_cons (ze_mkX c rfl ((xmk_NoOperation h).up (by omega)) (by rfl) (gl_NoOperation h) (ze_name (i := 0) rfl (Or.inl rfl) nd__law_value nd__law_valuec) nd_NoOperation rfl) (za_cons (ze_xfld c (xa_at h) (ze_mkX c rfl ((xmk_NoOperation h).up (by omega)) (by rfl) (gl_NoOperation h) (ze_name (i := 0) rfl (Or.inl rfl) nd__law_value nd__law_valuec) nd_NoOperation rfl) rfl) za_nil rfl) rfl)) (za_cons (ze_tup (za_cons (ze_mkXK c rfl ((xmk_NoOperation h).up (by omega)) (by rfl) (gl_NoOperation h) (ze_name (i := 0) rfl (Or.inl rfl) nd__law_value nd__law_valuec) nd_NoOperation rfl rfl rfl) (za_cons (ze_xfld c (xa_at h) (ze_mkXK c rfl ((xmk_NoOperation h).up (by omega)) (by rfl) (gl_NoOperation h) (ze_name (i := 0) rfl (Or.inl rfl) nd__law_value nd__law_valuec) nd_NoOperation rfl rfl rfl) rfl) za_nil rfl) rfl)) za_nil rfl) rfl))) rfl (Or.inl rfl))
 (zs_cons (zs_set c (i := 1) rfl (Or.inl rfl) (ze_add c (ze_name (i := 1) rfl (Or.inl rfl) nd__law_found nd__law_foundc) (ze_lst (za_cons (ze_tup (za_cons (ze_mkX c rfl ((xmk_NoJournal h).up (by omega)) (by rfl) (gl_NoJournal h) (ze_name (i := 0) rfl (Or.inl rfl) nd__law_value nd__law_valuec) nd_NoJournal rfl) (za_cons (ze_xfld c (xa_at h) (ze_mkX c rfl ((xmk_NoJournal h).up (by omega)) (by rfl) (gl_NoJournal h) (ze_name (i := 0) rfl (Or.inl rfl) nd__law_value nd__law_valuec) nd_NoJournal rfl) rfl) za_nil rfl) rfl)) (za_cons (ze_tup (za_cons (ze_mkXK c rfl ((xmk_NoJournal h).up (by omega)) (by rfl) (gl_NoJournal h) (ze_name (i := 0) rfl (Or.inl rfl) nd__law_value nd__law_valuec) nd_NoJournal rfl rfl rfl) (za_cons (ze_xfld c (xa_at h) (ze_mkXK c rfl ((xmk_NoJournal h).up (by omega)) (by rfl) (gl_NoJournal h) (ze_name (i := 0) rfl (Or.inl rfl) nd__law_value nd__law_valuec) nd_NoJournal rfl rfl rfl) rfl) za_nil rfl) rfl)) za_nil rfl) rfl))) rfl (Or.inl rfl))
 (zs_one (zs_ret (ze_add c (ze_name (i := 1) rfl (Or.inl rfl) nd__law_found nd__law_foundc) (ze_lst (za_cons (ze_tup (za_cons (ze_mkX c rfl ((xmk_NoText h).up (by omega)) (by rfl) (gl_NoText h) (ze_name (i := 0) rfl (Or.inl rfl) nd__law_value nd__law_valuec) nd_NoText rfl) (za_cons (ze_xfld c (xa_row h) (ze_mkX c rfl ((xmk_NoText h).up (by omega)) (by rfl) (gl_NoText h) (ze_name (i := 0) rfl (Or.inl rfl) nd__law_value nd__law_valuec) nd_NoText rfl) rfl) za_nil rfl) rfl)) (za_cons (ze_tup (za_cons (ze_mkXK c rfl ((xmk_NoText h).up (by omega)) (by rfl) (gl_NoText h) (ze_name (i := 0) rfl (Or.inl rfl) nd__law_value nd__law_valuec) nd_NoText rfl rfl rfl) (za_cons (ze_xfld c (xa_row h) (ze_mkXK c rfl ((xmk_NoText h).up (by omega)) (by rfl) (gl_NoText h) (ze_name (i := 0) rfl (Or.inl rfl) nd__law_value nd__law_valuec) nd_NoText rfl rfl rfl) rfl) za_nil rfl) rfl)) za_nil rfl) rfl))))))))))))))))
  exact G1
theorem ok_law_with_fields (h : Hd P K mg base) : FnZ (gm K) P w mg base (2 + 1) (d_law_with_fields.at_ K) 1 F_law_with_fields [] := by
  obtain ⟨fd, G, F⟩ := og_law_with_fields h
  exact ⟨⟨fd, ["_law_value"], [], [], G, F.bindsN (ps := ["_law_value"]) fun _ _ _ _ _ _ us hl => match us, hl with | [_], _ => rfl, .nil, fun _ => IsL.nil⟩, F.kp⟩
def S_law_plain : FS := fSeq (fSet 1 (fLst (fACons (fX0 "NoOrder" (fName 0)) (fACons (fX0 "NoCause" (fName 0)) (fACons (fX0 "NoTheory" (fName 0)) (fACons (fX0 "NoCase" (fName 0)) (fACons (fX0 "NoCosts" (fName 0)) (fACons (fX0 "NoLie" (fName 0)) (fACons (fX0 "NoLimit" (fName 0)) (fANil))))))))))
 (fSeq (fSet 1 (fBin oAdd (fName 1) (fLst (fACons (fX0 "NoCauses" (fName 0)) (fACons (fX0 "NoClaim" (fName 0)) (fACons (fX0 "NoChanges" (fName 0)) (fACons (fX0 "NoSuspects" (fName 0)) (fACons (fX0 "NoState" (fName 0)) (fACons (fX0 "NoPlan" (fName 0)) (fANil))))))))))
 (fRet (fBin oAdd (fName 1) (fLst (fACons (fX0 "NoNumber" (fName 0)) (fACons (fX0 "NothingLeft" (fName 0)) (fANil)))))))
def F_law_plain : FF := fBody 2 (S_law_plain)
theorem sc_law_plain : FnScope ["_law_word", "_law_found"] ["_law_word"] d_law_plain.scope := ⟨rfl, rfl, rfl, by decide +kernel, rfl, by decide +kernel, by decide +kernel⟩
theorem og_law_plain (h : Hd P K mg base) : ∃ fd, FnG P w K mg base (1 + 1) (d_law_plain.at_ K) fd ["_law_word"] (spZ (gm K) 1 (F_law_plain)) ∧ FunD K d_law_plain.name d_law_plain.qual d_law_plain.params d_law_plain.body d_law_plain.scope (d_law_plain.dvs K) (d_law_plain.kws K) (d_law_plain.at_ K) fd := by
  obtain ⟨fd, F⟩ := h.cz.a.def_ 4 (d := d_law_plain) rfl
  refine ⟨fd, ?_, F⟩
  have F2 : FunD (gm K).K d_law_plain.name d_law_plain.qual d_law_plain.params d_law_plain.body d_law_plain.scope (d_law_plain.dvs K) (d_law_plain.kws K) (d_law_plain.at_ K) fd := F
  have G0 := fn_ok (P := P) (w := w) (mg := mg) (base := base) (Γ := gm K) (k := 1) (s := S_law_plain) F2 sc_law_plain
  have G1 := G0 (fun W cdv A outer st H E c po => by
    unfold S_law_plain
    exact (zs_cons (zs_set c (i := 1) rfl (Or.inl rfl) (ze_lst (za_cons (ze_mk0 c rfl (exb_NoOrder h) (by rfl) (gl_NoOrder h) (ze_name (i := 0) rfl (Or.inl rfl) nd__law_word nd__law_wordc) nd_NoOrder rfl) (za_cons (ze_mk0 c rfl (exb_NoCause h) (by rfl) (gl_NoCause h) (ze_name (i := 0) rfl (Or.inl rfl) nd__law_word nd__law_wordc) nd_NoCause rfl) (za_cons (ze_mk0 c rfl (exb_NoTheory h) (by rfl) (gl_NoTheory h) (ze_name (i := 0) rfl (Or.inl rfl) nd__law_word nd__law_wordc) nd_NoTheory rfl) (za_cons (ze_mk0 c rfl (exb_NoCase h) (by rfl) (gl_NoCase h) (ze_name (i := 0) rfl (Or.inl rfl) nd__law_word nd__law_wordc) nd_NoCase rfl) (za_cons (ze_mk0 c rfl (exb_NoCosts h) (by rfl) (gl_NoCosts h) (ze_name (i := 0) rfl (Or.inl rfl) nd__law_word nd__law_wordc) nd_NoCosts rfl) (za_cons (ze_mk0 c rfl (exb_NoLie h) (by rfl) (gl_NoLie h) (ze_name (i := 0) rfl (Or.inl rfl) nd__law_word nd__law_wordc) nd_NoLie rfl) (za_cons (ze_mk0 c rfl (exb_NoLimit h) (by rfl) (gl_NoLimit h) (ze_name (i := 0) rfl (Or.inl rfl) nd__law_word nd__law_wordc) nd_NoLimit rfl) za_nil rfl) rfl) rfl) rfl) rfl) rfl) rfl)) rfl (Or.inl rfl))
 (zs_cons (zs_set c (i := 1) rfl (Or.inl rfl) (ze_add c (ze_name (i := 1) rfl (Or.inl rfl) nd__law_found nd__law_foundc) (ze_lst (za_cons (ze_mk0 c rfl (exb_NoCauses h) (by rfl) (gl_NoCauses h) (ze_name (i := 0) rfl (Or.inl rfl) nd__law_word nd__law_wordc) nd_NoCauses rfl) (za_cons (ze_mk0 c rfl (exb_NoClaim h) (by rfl) (gl_NoClaim h) (ze_name (i := 0) rfl (Or.inl rfl) nd__law_word nd__law_wordc) nd_NoClaim rfl) (za_cons (ze_mk0 c rfl (exb_NoChanges h) (by rfl) (gl_NoChanges h) (ze_name (i := 0) rfl (Or.inl rfl) nd__law_word nd__law_wordc) nd_NoChanges rfl) (za_cons (ze_mk0 c rfl (exb_NoSuspects h) (by rfl) (gl_NoSuspects h) (ze_name (i := 0) rfl (Or.inl rfl) nd__law_word nd__law_wordc) nd_NoSuspects rfl) (za_cons (ze_mk0 c rfl (exb_NoState h) (by rfl) (gl_NoState h) (ze_name (i := 0) rfl (Or.inl rfl) nd__law_word nd__law_wordc) nd_NoState rfl) (za_cons (ze_mk0 c rfl (exb_NoPlan h) (by rfl) (gl_NoPlan h) (ze_name (i := 0) rfl (Or.inl rfl) nd__law_word nd__law_wordc) nd_NoPlan rfl) za_nil rfl) rfl) rfl) rfl) rfl) rfl))) rfl (Or.inl rfl))
 (zs_one (zs_ret (ze_add c (ze_name (i := 1) rfl (Or.inl rfl) nd__law_found nd__law_foundc) (ze_lst (za_cons (ze_mk0 c rfl (exb_NoNumber h) (by rfl) (gl_NoNumber h) (ze_name (i := 0) rfl (Or.inl rfl) nd__law_word nd__law_wordc) nd_NoNumber rfl) (za_cons (ze_mk0 c rfl (exb_NothingLeft h) (by rfl) (gl_NothingLeft h) (ze_name (i := 0) rfl (Or.inl rfl) nd__law_word nd__law_wordc) nd_NothingLeft rfl) za_nil rfl) rfl))))))))
  exact G1
theorem ok_law_plain (h : Hd P K mg base) : FnZ (gm K) P w mg base (1 + 1) (d_law_plain.at_ K) 1 F_law_plain [] := by
  obtain ⟨fd, G, F⟩ := og_law_plain h
  exact ⟨⟨fd, ["_law_word"], [], [], G, F.bindsN (ps := ["_law_word"]) fun _ _ _ _ _ _ us hl => match us, hl with | [_], _ => rfl, .nil, fun _ => IsL.nil⟩, F.kp⟩
def S_law_kinds : FS := fSeq (fSet 1 (fLst (fACons (fIsi (tbX krl) [(.own "NoHistory")] (fName 0)) (fACons (fIsi (tbX krl) [(.own "NoVersion")] (fName 0)) (fACons (fIsi (tbX krl) [(.own "NoChange")] (fName 0)) (fANil))))))
 (fSeq (fSet 1 (fBin oAdd (fName 1) (fLst (fACons (fIsi (tbX krl) [(.own "NoTest")] (fName 0)) (fACons (fIsi (tbX krl) [(.own "Cheaper")] (fName 0)) (fACons (fIsi (tbX krl) [(.own "TooMany")] (fName 0)) (fANil)))))))
 (fSeq (fSet 1 (fBin oAdd (fName 1) (fLst (fACons (fIsi (tbX krl) [(.own "NoOperation")] (fName 0)) (fACons (fIsi (tbX krl) [(.own "NoJournal")] (fName 0)) (fACons (fIsi (tbX krl) [(.own "NoText")] (fName 0)) (fANil)))))))
 (fSeq (fSet 1 (fBin oAdd (fName 1) (fLst (fACons (fIsi (tbX krl) [(.own "NoOrder")] (fName 0)) (fACons (fIsi (tbX krl) [(.own "NoCause")] (fName 0)) (fACons (fIsi (tbX krl) [(.own "NoTheory")] (fName 0)) (fANil)))))))
 (fSeq (fSet 1 (fBin oAdd (fName 1) (fLst (fACons (fIsi (tbX krl) [(.own "NoCase")] (fName 0)) (fACons (fIsi (tbX krl) [(.own "NoCosts")] (fName 0)) (fACons (fIsi (tbX krl) [(.own "NoLie")] (fName 0)) (fANil)))))))
 (fSeq (fSet 1 (fBin oAdd (fName 1) (fLst (fACons (fIsi (tbX krl) [(.own "NoLimit")] (fName 0)) (fACons (fIsi (tbX krl) [(.own "NoCauses")] (fName 0)) (fACons (fIsi (tbX krl) [(.own "NoClaim")] (fName 0)) (fANil)))))))
 (fSeq (fSet 1 (fBin oAdd (fName 1) (fLst (fACons (fIsi (tbX krl) [(.own "NoChanges")] (fName 0)) (fACons (fIsi (tbX krl) [(.own "NoSuspects")] (fName 0)) (fACons (fIsi (tbX krl) [(.own "NoState")] (fName 0)) (fANil)))))))
 (fRet (fBin oAdd (fName 1) (fLst (fACons (fIsi (tbX krl) [(.own "NoPlan")] (fName 0)) (fACons (fIsi (tbX krl) [(.own "NoNumber")] (fName 0)) (fACons (fIsi (tbX krl) [(.own "NothingLeft")] (fName 0)) (fANil)))))))))))))
def F_law_kinds : FF := fBody 2 (S_law_kinds)
theorem sc_law_kinds : FnScope ["_law_error", "_law_found"] ["_law_error"] d_law_kinds.scope := ⟨rfl, rfl, rfl, by decide +kernel, rfl, by decide +kernel, by decide +kernel⟩
theorem og_law_kinds (h : Hd P K mg base) : ∃ fd, FnG P w K mg base (1 + 1) (d_law_kinds.at_ K) fd ["_law_error"] (spZ (gm K) 1 (F_law_kinds)) ∧ FunD K d_law_kinds.name d_law_kinds.qual d_law_kinds.params d_law_kinds.body d_law_kinds.scope (d_law_kinds.dvs K) (d_law_kinds.kws K) (d_law_kinds.at_ K) fd := by
  obtain ⟨fd, F⟩ := h.cz.a.def_ 5 (d := d_law_kinds) rfl
  refine ⟨fd, ?_, F⟩
  have F2 : FunD (gm K).K d_law_kinds.name d_law_kinds.qual d_law_kinds.params d_law_kinds.body d_law_kinds.scope (d_law_kinds.dvs K) (d_law_kinds.kws K) (d_law_kinds.at_ K) fd := F
  have G0 := fn_ok (P := P) (w := w) (mg := mg) (base := base) (Γ := gm K) (k := 1) (s := S_law_kinds) F2 sc_law_kinds
  have G1 := G0 (fun W cdv A outer st H E c po => by
    unfold S_law_kinds
    exact (zs_cons (zs_set c (i := 1) rfl (Or.inl rfl) (ze_lst (za_cons (ze_isi c (tbx h) (by rfl) (fr_isinstance h) (ze_name (i := 0) rfl (Or.inl rfl) nd__law_error nd__law_errorc) (cref_own (by rfl) (gl_NoHistory h) rfl nd_NoHistory) rfl rfl rfl) (za_cons (ze_isi c (tbx h) (by rfl) (fr_isinstance h) (ze_name (i := 0) rfl (Or.inl rfl) nd__law_error nd__law_errorc) (cref_own (by rfl) (gl_NoVersion h) rfl nd_NoVersion) rfl rfl rfl) (za_cons (ze_isi c (tbx h) (by rfl) (fr_isinstance h) (ze_name (i := 0) rfl (Or.inl rfl) nd__law_error nd__law_errorc) (cref_own (by rfl) (gl_NoChange h) rfl nd_NoChange) rfl rfl rfl) za_nil rfl) rfl) rfl)) rfl (Or.inl rfl))
 (zs_cons (zs_set c (i := 1) rfl (Or.inl rfl) (ze_add c (ze_name (i := 1) rfl (Or.inl rfl) nd__law_found nd__law_foundc) (ze_lst (za_cons (ze_isi c (tbx h) (by rfl) (fr_isinstance h) (ze_name (i := 0) rfl (Or.inl rfl) nd__law_error nd__law_errorc) (cref_own (by rfl) (gl_NoTest h) rfl nd_NoTest) rfl rfl rfl) (za_cons (ze_isi c (tbx h) (by rfl) (fr_isinstance h) (ze_name (i := 0) rfl (Or.inl rfl) nd__law_error nd__law_errorc) (cref_own (by rfl) (gl_Cheaper h) rfl nd_Cheaper) rfl rfl rfl) (za_cons (ze_isi c (tbx h) (by rfl) (fr_isinstance h) (ze_name (i := 0) rfl (Or.inl rfl) nd__law_error nd__law_errorc) (cref_own (by rfl) (gl_TooMany h) rfl nd_TooMany) rfl rfl rfl) za_nil rfl) rfl) rfl))) rfl (Or.inl rfl))
 (zs_cons (zs_set c (i := 1) rfl (Or.inl rfl) (ze_add c (ze_name (i := 1) rfl (Or.inl rfl) nd__law_found nd__law_foundc) (ze_lst (za_cons (ze_isi c (tbx h) (by rfl) (fr_isinstance h) (ze_name (i := 0) rfl (Or.inl rfl) nd__law_error nd__law_errorc) (cref_own (by rfl) (gl_NoOperation h) rfl nd_NoOperation) rfl rfl rfl) (za_cons (ze_isi c (tbx h) (by rfl) (fr_isinstance h) (ze_name (i := 0) rfl (Or.inl rfl) nd__law_error nd__law_errorc) (cref_own (by rfl) (gl_NoJournal h) rfl nd_NoJournal) rfl rfl rfl) (za_cons (ze_isi c (tbx h) (by rfl) (fr_isinstance h) (ze_name (i := 0) rfl (Or.inl rfl) nd__law_error nd__law_errorc) (cref_own (by rfl) (gl_NoText h) rfl nd_NoText) rfl rfl rfl) za_nil rfl) rfl) rfl))) rfl (Or.inl rfl))
 (zs_cons (zs_set c (i := 1) rfl (Or.inl rfl) (ze_add c (ze_name (i := 1) rfl (Or.inl rfl) nd__law_found nd__law_foundc) (ze_lst (za_cons (ze_isi c (tbx h) (by rfl) (fr_isinstance h) (ze_name (i := 0) rfl (Or.inl rfl) nd__law_error nd__law_errorc) (cref_own (by rfl) (gl_NoOrder h) rfl nd_NoOrder) rfl rfl rfl) (za_cons (ze_isi c (tbx h) (by rfl) (fr_isinstance h) (ze_name (i := 0) rfl (Or.inl rfl) nd__law_error nd__law_errorc) (cref_own (by rfl) (gl_NoCause h) rfl nd_NoCause) rfl rfl rfl) (za_cons (ze_isi c (tbx h) (by rfl) (fr_isinstance h) (ze_name (i := 0) rfl (Or.inl rfl) nd__law_error nd__law_errorc) (cref_own (by rfl) (gl_NoTheory h) rfl nd_NoTheory) rfl rfl rfl) za_nil rfl) rfl) rfl))) rfl (Or.inl rfl))
 (zs_cons (zs_set c (i := 1) rfl (Or.inl rfl) (ze_add c (ze_name (i := 1) rfl (Or.inl rfl) nd__law_found nd__law_foundc) (ze_lst (za_cons (ze_isi c (tbx h) (by rfl) (fr_isinstance h) (ze_name (i := 0) rfl (Or.inl rfl) nd__law_error nd__law_errorc) (cref_own (by rfl) (gl_NoCase h) rfl nd_NoCase) rfl rfl rfl) (za_cons (ze_isi c (tbx h) (by rfl) (fr_isinstance h) (ze_name (i := 0) rfl (Or.inl rfl) nd__law_error nd__law_errorc) (cref_own (by rfl) (gl_NoCosts h) rfl nd_NoCosts) rfl rfl rfl) (za_cons (ze_isi c (tbx h) (by rfl) (fr_isinstance h) (ze_name (i := 0) rfl (Or.inl rfl) nd__law_error nd__law_errorc) (cref_own (by rfl) (gl_NoLie h) rfl nd_NoLie) rfl rfl rfl) za_nil rfl) rfl) rfl))) rfl (Or.inl rfl))
 (zs_cons (zs_set c (i := 1) rfl (Or.inl rfl) (ze_add c (ze_name (i := 1) rfl (Or.inl rfl) nd__law_found nd__law_foundc) (ze_lst (za_cons (ze_isi c (tbx h) (by rfl) (fr_isinstance h) (ze_name (i := 0) rfl (Or.inl rfl) nd__law_error nd__law_errorc) (cref_own (by rfl) (gl_NoLimit h) rfl nd_NoLimit) rfl rfl rfl) (za_cons (ze_isi c (tbx h) (by rfl) (fr_isinstance h) (ze_name (i := 0) rfl (Or.inl rfl) nd__law_error nd__law_errorc) (cref_own (by rfl) (gl_NoCauses h) rfl nd_NoCauses) rfl rfl rfl) (za_cons (ze_isi c (tbx h) (by rfl) (fr_isinstance h) (ze_name (i := 0) rfl (Or.inl rfl) nd__law_error nd__law_errorc) (cref_own (by rfl) (gl_NoClaim h) rfl nd_NoClaim) rfl rfl rfl) za_nil rfl) rfl) rfl))) rfl (Or.inl rfl))
 (zs_cons (zs_set c (i := 1) rfl (Or.inl rfl) (ze_add c (ze_name (i := 1) rfl (Or.inl rfl) nd__law_found nd__law_foundc) (ze_lst (za_cons (ze_isi c (tbx h) (by rfl) (fr_isinstance h) (ze_name (i := 0) rfl (Or.inl rfl) nd__law_error nd__law_errorc) (cref_own (by rfl) (gl_NoChanges h) rfl nd_NoChanges) rfl rfl rfl) (za_cons (ze_isi c (tbx h) (by rfl) (fr_isinstance h) (ze_name (i := 0) rfl (Or.inl rfl) nd__law_error nd__law_errorc) (cref_own (by rfl) (gl_NoSuspects h) rfl nd_NoSuspects) rfl rfl rfl) (za_cons (ze_isi c (tbx h) (by rfl) (fr_isinstance h) (ze_name (i := 0) rfl (Or.inl rfl) nd__law_error nd__law_errorc) (cref_own (by rfl) (gl_NoState h) rfl nd_NoState) rfl rfl rfl) za_nil rfl) rfl) rfl))) rfl (Or.inl rfl))
 (zs_one (zs_ret (ze_add c (ze_name (i := 1) rfl (Or.inl rfl) nd__law_found nd__law_foundc) (ze_lst (za_cons (ze_isi c (tbx h) (by rfl) (fr_isinstance h) (ze_name (i := 0) rfl (Or.inl rfl) nd__law_error nd__law_errorc) (cref_own (by rfl) (gl_NoPlan h) rfl nd_NoPlan) rfl rfl rfl) (za_cons (ze_isi c (tbx h) (by rfl) (fr_isinstance h) (ze_name (i := 0) rfl (Or.inl rfl) nd__law_error nd__law_errorc) (cref_own (by rfl) (gl_NoNumber h) rfl nd_NoNumber) rfl rfl rfl) (za_cons (ze_isi c (tbx h) (by rfl) (fr_isinstance h) (ze_name (i := 0) rfl (Or.inl rfl) nd__law_error nd__law_errorc) (cref_own (by rfl) (gl_NothingLeft h) rfl nd_NothingLeft) rfl rfl rfl) za_nil rfl) rfl) rfl)))))))))))))
  exact G1
theorem ok_law_kinds (h : Hd P K mg base) : FnZ (gm K) P w mg base (1 + 1) (d_law_kinds.at_ K) 1 F_law_kinds [] := by
  obtain ⟨fd, G, F⟩ := og_law_kinds h
  exact ⟨⟨fd, ["_law_error"], [], [], G, F.bindsN (ps := ["_law_error"]) fun _ _ _ _ _ _ us hl => match us, hl with | [_], _ => rfl, .nil, fun _ => IsL.nil⟩, F.kp⟩

def c_law_1 : FE := fLc false (fiAny (fName 4)) (fgTup [7, 9]) (fT (fBin (oEq true) (fCB oReprX (fACons (fName 9) (fANil))) (fCB oReprX (fACons (fName 3) (fANil))))) (fName 9) [7, 9]
def i_law_2 : FS := fIfS (fT (fBin (oEq true) (c_law_1) (fLst (fANil))))
 (fRet (fC (.bl false)))
 (fNext)
def c_law_3 : FE := fLc false (fiAny (fName 4)) (fgTup [7, 9]) (fYes) (fName 7) [7, 9]
def i_law_4 : FS := fIfS (fOrT (fNotT (fTr (fIsi (tbX krl) [(.own "BlameError")] (fName 7)))) (fNotT (fTr (fIsi (tbX krl) [(.ty "ValueError")] (fName 7)))))
 (fRet (fC (.bl false)))
 (fNext)
def c_law_5 : FE := fLc false (fiRng1 (fACons (fC (.int 24)) (fANil))) (fgName 10) (fYes) (fBin (oEq false) (fName 10) (fName 8)) [10]
def i_law_6 : FS := fIfS (fT (fBin (oEq true) (fCall 1 F_law_kinds [] (fACons (fName 7) (fANil))) (c_law_5)))
 (fRet (fC (.bl false)))
 (fNext)
def b_law_7 : FS := fSeq (i_law_4)
 (fSeq (fSet 8 (fIf (fT (fBin oLt (fName 6) (fC (.int 18)))) (fBin oFdiv (fName 6) (fC (.int 2))) (fBin oSub (fName 6) (fC (.int 9)))))
 (i_law_6))
def b_law_8 : FS := fSeq (fSet 3 (fCall 2 F_law_pick [] (fACons (fName 1) (fACons (fLst (fACons (fC (.int 0)) (fACons (fC (.int 1)) (fACons (fUn oNeg (fC (.int 1))) (fACons (fC (.bl true)) (fACons (fC .non) (fACons (fC (.str "a")) (fACons (fTup (fANil)) (fACons (fTup (fACons (fC (.str "a")) (fACons (fC (.int 0)) (fANil)))) (fACons (fBin oPow (fC (.int 10)) (fC (.int 30))) (fACons (fC (.int 5)) (fACons (fC (.str "")) (fACons (fTup (fACons (fC (.str "b")) (fACons (fC (.str "a")) (fANil)))) (fANil)))))))))))))) (fANil)))))
 (fSeq (fSet 4 (fCall 1 F_law_with_fields [] (fACons (fName 3) (fANil))))
 (fSeq (i_law_2)
 (fSeq (fSet 5 (fBin oAdd (c_law_3) (fCall 1 F_law_plain [] (fACons (fCall 2 F_law_pick [] (fACons (fName 1) (fACons (fLst (fACons (fC (.str "")) (fACons (fC (.str "wrong")) (fACons (fC (.str "a longer message")) (fANil))))) (fANil)))) (fANil)))))
 (fForS (fiEnumA (fACons (fName 5) (fANil))) (fgTup [6, 7])
 b_law_7))))
def S_law : FS := fSeq (fSet 1 (fCall 1 F_law_begun [] (fACons (fName 0) (fANil))))
 (fSeq (fForS (fiRng1 (fACons (fC (.int 3)) (fANil))) (fgName 2)
 b_law_8)
 (fRet (fC (.bl true))))
def F_law : FF := fBody 11 (S_law)
theorem sc_law : FnScope ["_law_script", "_law_draw", "_law_turn", "_law_value", "_law_made", "_law_errors", "_law_spot", "_law_error", "_law_place", "_law_field", "_law_k"] ["_law_script"] d_law.scope := ⟨rfl, rfl, rfl, by decide +kernel, rfl, by decide +kernel, by decide +kernel⟩
theorem og_law (h : Hd P K mg base) : ∃ fd, FnG P w K mg base (5 + 1) (d_law.at_ K) fd ["_law_script"] (spZ (gm K) 1 (F_law)) ∧ FunD K d_law.name d_law.qual d_law.params d_law.body d_law.scope (d_law.dvs K) (d_law.kws K) (d_law.at_ K) fd := by
  obtain ⟨fd, F⟩ := h.cz.a.def_ 6 (d := d_law) rfl
  refine ⟨fd, ?_, F⟩
  have F2 : FunD (gm K).K d_law.name d_law.qual d_law.params d_law.body d_law.scope (d_law.dvs K) (d_law.kws K) (d_law.at_ K) fd := F
  have G0 := fn_ok (P := P) (w := w) (mg := mg) (base := base) (Γ := gm K) (k := 5) (s := S_law) F2 sc_law
  have G1 := G0 (fun W cdv A outer st H E c po => by
    unfold S_law b_law_8 b_law_7 i_law_6 c_law_5 i_law_4 c_law_3 i_law_2 c_law_1
    exact (zs_cons (zs_set c (i := 1) rfl (Or.inl rfl) (ze_call c ((ok_law_begun h).up (by omega)) (by rfl) (gl__law_begun h) (za_cons (ze_name (i := 0) rfl (Or.inl rfl) nd__law_script nd__law_scriptc) za_nil rfl) nd__law_begun rfl rfl) rfl (Or.inl rfl))
 (zs_cons (zs_for (fun _ _ _ _ _ _ z => by cases z) c po (zi_rng1 (by rfl) (fr_range h) (za_cons ze_int za_nil rfl) rfl) (zg_name (Cz.nd c) (i := 2) rfl (Or.inl rfl) (Or.inl rfl))
 (zs_cons (zs_set c (i := 3) rfl (Or.inr rfl) (ze_call c ((ok_law_pick h).up (by omega)) (by rfl) (gl__law_pick h) (za_cons (ze_name (i := 1) rfl (Or.inl rfl) nd__law_draw nd__law_drawc) (za_cons (ze_lst (za_cons ze_int (za_cons ze_int (za_cons (ze_neg ze_int) (za_cons ze_bl (za_cons ze_non (za_cons ze_str (za_cons (ze_tup za_nil) (za_cons (ze_tup (za_cons ze_str (za_cons ze_int za_nil rfl) rfl)) (za_cons (ze_pow ze_int ze_int) (za_cons ze_int (za_cons ze_str (za_cons (ze_tup (za_cons ze_str (za_cons ze_str za_nil rfl) rfl)) za_nil rfl) rfl) rfl) rfl) rfl) rfl) rfl) rfl) rfl) rfl) rfl) rfl)) za_nil rfl) rfl) nd__law_pick rfl rfl) rfl (Or.inl rfl))
 (zs_cons (zs_set c (i := 4) rfl (Or.inl rfl) (ze_call c ((ok_law_with_fields h).up (by omega)) (by rfl) (gl__law_with_fields h) (za_cons (ze_name (i := 3) rfl (Or.inr (Or.inl rfl)) nd__law_value nd__law_valuec) za_nil rfl) nd__law_with_fields rfl rfl) rfl (Or.inl rfl))
 (zs_cons (zs_if (zt_cmp c rfl (ze_lc (live := false) c (zi_any c (ze_name (i := 4) rfl (Or.inl rfl) nd__law_made nd__law_madec)) (blkOk_by (own := [("_law_error", 7), ("_law_field", 9)]) rfl) (tg_tup (is := [7, 9]) (by simp)) (fun s1 H1 C1 l1 q1 => pg_tupN (Cz.blk c s1 H1 _ _ q1) (Nms.cons rfl (Or.inl rfl) (Or.inr rfl) (Nms.cons rfl (Or.inl rfl) (Or.inr rfl) Nms.nil))) (fun s1 H1 C1 l1 q1 => zts_one (zt_cmp (Cz.blk c s1 H1 _ _ q1) rfl (ze_blt (call_reprM (Cz.blk c s1 H1 _ _ q1)) oReprX_ok (by rfl) (fr_repr h) bt_repr (za_cons (ze_name (i := 9) rfl (Or.inl rfl) nd__law_field nd__law_fieldc) za_nil rfl) (by decide) nd_repr rfl rfl) (ze_blt (call_reprM (Cz.blk c s1 H1 _ _ q1)) oReprX_ok (by rfl) (fr_repr h) bt_repr (za_cons (ze_name (i := 3) rfl (Or.inr (Or.inl rfl)) nd__law_value nd__law_valuec) za_nil rfl) (by decide) nd_repr rfl rfl) rfl)) (fun s1 H1 C1 l1 q1 => (ze_name (i := 9) rfl (Or.inl rfl) nd__law_field nd__law_fieldc)) (fun _ => rfl)) (ze_lst za_nil) rfl)
 (zs_one (zs_ret ze_bl))
 zs_nil)
 (zs_cons (zs_set c (i := 5) rfl (Or.inl rfl) (ze_add c (ze_lc (live := false) c (zi_any c (ze_name (i := 4) rfl (Or.inl rfl) nd__law_made nd__law_madec)) (blkOk_by (own := [("_law_error", 7), ("_law_field", 9)]) rfl) (tg_tup (is := [7, 9]) (by simp)) (fun s1 H1 C1 l1 q1 => pg_tupN (Cz.blk c s1 H1 _ _ q1) (Nms.cons rfl (Or.inl rfl) (Or.inr rfl) (Nms.cons rfl (Or.inl rfl) (Or.inr rfl) Nms.nil))) (fun s1 H1 C1 l1 q1 => zts_nil) (fun s1 H1 C1 l1 q1 => (ze_name (i := 7) rfl (Or.inl rfl) nd__law_error nd__law_errorc)) (fun _ => rfl)) (ze_call c ((ok_law_plain h).up (by omega)) (by rfl) (gl__law_plain h) (za_cons (ze_call c ((ok_law_pick h).up (by omega)) (by rfl) (gl__law_pick h) (za_cons (ze_name (i := 1) rfl (Or.inl rfl) nd__law_draw nd__law_drawc) (za_cons (ze_lst (za_cons ze_str (za_cons ze_str (za_cons ze_str za_nil rfl) rfl) rfl)) za_nil rfl) rfl) nd__law_pick rfl rfl) za_nil rfl) nd__law_plain rfl rfl)) rfl (Or.inl rfl))
 (zs_one (zs_for (fgTup_ne _) c po (zi_enumA c (by rfl) (fr_enumerate h) (za_cons (ze_name (i := 5) rfl (Or.inl rfl) nd__law_errors nd__law_errorsc) za_nil rfl) rfl) (zg_tup c (Nms.cons rfl (Or.inl rfl) (Or.inl rfl) (Nms.cons rfl (Or.inl rfl) (Or.inl rfl) Nms.nil)))
 (zs_cons (zs_if (PW.pt (zt_or (zt_not (zt_truth c (ze_isi c (tbx h) (by rfl) (fr_isinstance h) (ze_name (i := 7) rfl (Or.inl rfl) nd__law_error nd__law_errorc) (cref_own (by rfl) (gl_BlameError h) rfl nd_BlameError) rfl rfl rfl) (fun _ => rfl))) (pw_or1 (zt_not (zt_truth c (ze_isi c (tbx h) (by rfl) (fr_isinstance h) (ze_name (i := 7) rfl (Or.inl rfl) nd__law_error nd__law_errorc) (cref_ty (by rfl) (fr_ValueError h) bt_ValueError (by decide) nd_ValueError) rfl rfl rfl) (fun _ => rfl))))))
 (zs_one (zs_ret ze_bl))
 zs_nil)
 (zs_cons (zs_set c (i := 8) rfl (Or.inr rfl) (ze_if (zt_cmp c rfl (ze_name (i := 6) rfl (Or.inl rfl) nd__law_spot nd__law_spotc) ze_int rfl) (ze_fdiv (ze_name (i := 6) rfl (Or.inl rfl) nd__law_spot nd__law_spotc) ze_int) (ze_sub (ze_name (i := 6) rfl (Or.inl rfl) nd__law_spot nd__law_spotc) ze_int)) rfl (Or.inl rfl))
 (zs_one (zs_if (zt_cmp c rfl (ze_call c ((ok_law_kinds h).up (by omega)) (by rfl) (gl__law_kinds h) (za_cons (ze_name (i := 7) rfl (Or.inl rfl) nd__law_error nd__law_errorc) za_nil rfl) nd__law_kinds rfl rfl) (ze_lc (live := false) c (zi_rng1 (by rfl) (fr_range h) (za_cons ze_int za_nil rfl) rfl) (blkOk_by (own := [("_law_k", 10)]) rfl) (tg_name (i := 10) (by simp)) (fun s1 H1 C1 l1 q1 => pg_name (Cz.nd (Cz.blk c s1 H1 _ _ q1)) (i := 10) rfl (Or.inl rfl) (Or.inr rfl)) (fun s1 H1 C1 l1 q1 => zts_nil) (fun s1 H1 C1 l1 q1 => (ze_cmp (Cz.blk c s1 H1 _ _ q1) rfl (ze_name (i := 10) rfl (Or.inl rfl) nd__law_k nd__law_kc) (ze_name (i := 8) rfl (Or.inr (Or.inl rfl)) nd__law_place nd__law_placec) rfl)) (fun _ => rfl)) rfl)
 (zs_one (zs_ret ze_bl))
 zs_nil)))) (fun _ => rfl))))))) (fun _ => rfl))
 (zs_one (zs_ret ze_bl)))))
  exact G1
theorem ok_law (h : Hd P K mg base) : FnZ (gm K) P w mg base (5 + 1) (d_law.at_ K) 1 F_law [] := by
  obtain ⟨fd, G, F⟩ := og_law h
  exact ⟨⟨fd, ["_law_script"], [], [], G, F.bindsN (ps := ["_law_script"]) fun _ _ _ _ _ _ us hl => match us, hl with | [_], _ => rfl, .nil, fun _ => IsL.nil⟩, F.kp⟩
end
end Zl
set_option Elab.async false
set_option linter.all false
set_option maxRecDepth 100000
set_option maxHeartbeats 4000000
namespace Zl
open PySem PySem.Spec L2
open PyProof.Rows hiding St
/-! # a calculus of weakest preconditions over the evaluator -/
def Wp {a b : Type} (r : R (a × b)) (K : a → b → Prop) : Prop := match r with
  | .ok p => K p.1 p.2
  | _ => False
section
variable {a b c d : Type}
@[simp] theorem wp_ok {x : a} {y : b} {K : a → b → Prop} : Wp (.ok (x, y)) K = K x y := (rfl)
theorem wp_okp {p : a × b} {K : a → b → Prop} : Wp (.ok p) K = K p.1 p.2 := rfl
@[simp] theorem wp_bad {K : a → b → Prop} : Wp .bad K = False := (rfl)
theorem wp_bind {r : R (a × b)} {k : a × b → R (c × d)} {K : c → d → Prop} : Wp (r.bind k) K = Wp r fun x y => Wp (k (x, y)) K := by
  cases r <;> rfl
@[simp ↓] theorem wp_at {r : R (a × b)} {ρ : Rho} {K : a → b → Prop} : Wp (r.at ρ) K = Wp r K := by
  cases r <;> rfl
@[simp ↓] theorem wp_noex {r : R (a × b)} {K : a → b → Prop} : Wp r.noex K = Wp r K := by
  cases r <;> rfl
theorem Wp.mono {r : R (a × b)} {K K' : a → b → Prop} (h : Wp r K) (m : ∀ x y, K x y → K' x y) : Wp r K' := by
  cases r with
  | ok p => exact m _ _ h
  | ex e ρ μ => exact h
  | bad => exact h
theorem Wp.elim {r : R (a × b)} {K : a → b → Prop} (h : Wp r K) : ∃ x y, r = .ok (x, y) ∧ K x y := by
  cases r with
  | ok p => exact ⟨p.1, p.2, rfl, h⟩
  | ex e ρ μ => exact False.elim h
  | bad => exact False.elim h
theorem wp_eq {r : R (a × b)} {x : a} {y : b} (h : Wp r fun x' y' => x' = x ∧ y' = y) : r = .ok (x, y) := by
  obtain ⟨x', y', e, h1, h2⟩ := h.elim
  rw [e, h1, h2]
theorem wp_of {r : R (a × b)} {x : a} {y : b} (e : r = .ok (x, y)) {K : a → b → Prop} (h : K x y) : Wp r K := by
  rw [e]
  exact h
end
def vD (ds : List D) : List Val := ds.map Val.d
abbrev KE := Val → Mu → Prop
abbrev KA := List Val → Mu → Prop
abbrev KT := Bool → Mu → Prop
abbrev KI := List D → Mu → Prop
abbrev KS := Fl → Rho × Mu → Prop
section
variable {ρ : Rho} {μ : Mu} {K : KE} {k : KA} {t : KT} {J : KI} {S : KS}
/-! statements -/
def kSeq (g : FS) (S : KS) : KS := fun l p => match l with
  | .nx => Wp (g p.1 p.2) S
  | l => S l p
@[simp ↓] theorem w_Seq {f g : FS} : Wp (fSeq f g ρ μ) S = Wp (f ρ μ) (kSeq g S) := by
  show Wp ((f ρ μ).bind fun p => match p.1 with
  | .nx => g p.2.1 p.2.2
  | _ => .ok p) S = _
  rw [wp_bind]
  congr 1
  funext l p
  cases l <;> rfl
@[simp] theorem k_Seq_nx {g : FS} {p : Rho × Mu} : kSeq g S .nx p = Wp (g p.1 p.2) S := (rfl)
@[simp] theorem k_Seq_rt {g : FS} {v : Val} {p : Rho × Mu} : kSeq g S (.rt v) p = S (.rt v) p := (rfl)
@[simp] theorem k_Seq_bk {g : FS} {p : Rho × Mu} : kSeq g S .bk p = S .bk p := (rfl)
@[simp] theorem k_Seq_ct {g : FS} {p : Rho × Mu} : kSeq g S .ct p = S .ct p := (rfl)
def kIfS (f g : FS) (ρ : Rho) (S : KS) : KT := fun b μ => if b = true then Wp (f ρ μ) S else Wp (g ρ μ) S
@[simp ↓] theorem w_IfS {c : FT} {f g : FS} : Wp (fIfS c f g ρ μ) S = Wp (c ρ μ) (kIfS f g ρ S) := by
  show Wp ((c ρ μ).bind fun p => if p.1 = true then f ρ p.2 else g ρ p.2) S = _
  rw [wp_bind]
  congr 1
  funext b p
  cases b <;> rfl
@[simp] theorem k_IfS_t {f g : FS} : kIfS f g ρ S true μ = Wp (f ρ μ) S := (rfl)
@[simp] theorem k_IfS_f {f g : FS} : kIfS f g ρ S false μ = Wp (g ρ μ) S := (rfl)
def kRet (ρ : Rho) (S : KS) : KE := fun v μ => S (.rt v) (ρ, μ)
@[simp ↓] theorem w_Ret {f : FE} : Wp (fRet f ρ μ) S = Wp (f ρ μ) (kRet ρ S) := wp_bind
@[simp] theorem k_Ret {v : Val} : kRet ρ S v μ = S (.rt v) (ρ, μ) := (rfl)
@[simp ↓] theorem w_RetN : Wp (fRetN ρ μ) S = S (.rt (.d .non)) (ρ, μ) := (rfl)
@[simp ↓] theorem w_Next : Wp (fNext ρ μ) S = S .nx (ρ, μ) := (rfl)
@[simp ↓] theorem w_Brk : Wp (fBrk ρ μ) S = S .bk (ρ, μ) := (rfl)
@[simp ↓] theorem w_Cnt : Wp (fCnt ρ μ) S = S .ct (ρ, μ) := (rfl)
def kSet (i : Nat) (ρ : Rho) (S : KS) : KE := fun v μ => S .nx (ρ.set i v, μ)
@[simp ↓] theorem w_Set {i : Nat} {f : FE} : Wp (fSet i f ρ μ) S = Wp (f ρ μ) (kSet i ρ S) := wp_bind
@[simp] theorem k_Set {i : Nat} {v : Val} : kSet i ρ S v μ = S .nx (ρ.set i v, μ) := (rfl)
def kDrop (ρ : Rho) (S : KS) : KE := fun v μ => S .nx (ρ, μ)
@[simp ↓] theorem w_Drop {f : FE} : Wp (fDrop f ρ μ) S = Wp (f ρ μ) (kDrop ρ S) := wp_bind
@[simp] theorem k_Drop {v : Val} : kDrop ρ S v μ = S .nx (ρ, μ) := (rfl)
def kPar (i j : Nat) (ρ : Rho) (S : KS) : KA := fun l μ => match l with
  | [v, w] => S .nx ((ρ.set i v).set j w, μ)
  | _ => False
@[simp ↓] theorem w_Par {i j : Nat} {g : FA} : Wp (fPar i j g ρ μ) S = Wp (g ρ μ) (kPar i j ρ S) := by
  show Wp ((g ρ μ).bind fun p => match p.1 with
  | [v, w] => .ok (.nx, (ρ.set i v).set j w, p.2)
  | _ => .bad) S = _
  rw [wp_bind]
  congr 1
  funext l μ
  unfold kPar
  simp only
  split
  · rfl
  · rfl
@[simp] theorem k_Par {i j : Nat} {v w : Val} : kPar i j ρ S [v, w] μ = S .nx ((ρ.set i v).set j w, μ) := (rfl)
def kPar3 (i j m : Nat) (ρ : Rho) (S : KS) : KA := fun l μ => match l with
  | [v, w, u] => S .nx (((ρ.set i v).set j w).set m u, μ)
  | _ => False
@[simp ↓] theorem w_Par3 {i j m : Nat} {g : FA} : Wp (fPar3 i j m g ρ μ) S = Wp (g ρ μ) (kPar3 i j m ρ S) := by
  show Wp ((g ρ μ).bind fun p => match p.1 with
  | [v, w, u] => .ok (.nx, ((ρ.set i v).set j w).set m u, p.2)
  | _ => .bad) S = _
  rw [wp_bind]
  congr 1
  funext l μ
  unfold kPar3
  simp only
  split
  · rfl
  · rfl
@[simp] theorem k_Par3 {i j m : Nat} {v w u : Val} : kPar3 i j m ρ S [v, w, u] μ = S .nx (((ρ.set i v).set j w).set m u, μ) := (rfl)
def kParC (is : List Nat) (ρ : Rho) (S : KS) : KA := fun l μ => if l.length = is.length ∧ is.length ≤ 100 then S .nx (setVals is l ρ, μ) else False
@[simp ↓] theorem w_ParC {is : List Nat} {g : FA} : Wp (fParC is g ρ μ) S = Wp (g ρ μ) (kParC is ρ S) := by
  show Wp ((g ρ μ).bind fun p => if p.1.length = is.length ∧ is.length ≤ 100 then .ok (.nx, setVals is p.1 ρ, p.2) else .bad) S = _
  rw [wp_bind]
  congr 1
  funext l μ
  unfold kParC
  simp only
  split <;> rfl
@[simp] theorem k_ParC {is : List Nat} {l : List Val} : kParC is ρ S l μ = (if l.length = is.length ∧ is.length ≤ 100 then S .nx (setVals is l ρ, μ) else False) := (rfl)
def kAsg (g : FG) (ρ : Rho) (S : KS) : KE := fun v μ => Wp (g v ρ μ) fun ρ μ => S .nx (ρ, μ)
@[simp ↓] theorem w_Asg {f : FE} {g : FG} : Wp (fAsg f g ρ μ) S = Wp (f ρ μ) (kAsg g ρ S) := by
  show Wp ((f ρ μ).bind fun p => (g p.1 ρ p.2).bind fun q => .ok (.nx, q.1, q.2)) S = _
  rw [wp_bind]
  congr 1
  funext v μ
  exact wp_bind
@[simp] theorem k_Asg {g : FG} {v : Val} : kAsg g ρ S v μ = Wp (g v ρ μ) fun ρ μ => S .nx (ρ, μ) := (rfl)
def kFor (g : FG) (body : FS) (ρ : Rho) (S : KS) : KI := fun ds μ => Wp (fFor g body ds ρ μ) S
@[simp ↓] theorem w_ForS {it : FI} {g : FG} {body : FS} : Wp (fForS it g body ρ μ) S = Wp (it ρ μ) (kFor g body ρ S) := wp_bind
@[simp] theorem k_For {g : FG} {body : FS} {ds : List D} : kFor g body ρ S ds μ = Wp (fFor g body ds ρ μ) S := (rfl)
def kPut1 (fo fi : FE) (ρ : Rho) (S : KS) : KE := fun v μ => Wp (fo ρ μ) fun o μ => Wp (fi ρ μ) fun i μ => match putD ρ.n0 μ o i v with
  | some μ' => S .nx (ρ, μ')
  | none => False
def kPut2 (fi : FE) (v : Val) (ρ : Rho) (S : KS) : KE := fun o μ => Wp (fi ρ μ) fun i μ => match putD ρ.n0 μ o i v with
  | some μ' => S .nx (ρ, μ')
  | none => False
def kPut3 (v o : Val) (ρ : Rho) (S : KS) : KE := fun i μ => match putD ρ.n0 μ o i v with
  | some μ' => S .nx (ρ, μ')
  | none => False
@[simp ↓] theorem w_Put {fo fi fv : FE} : Wp (fPut fo fi fv ρ μ) S = Wp (fv ρ μ) (kPut1 fo fi ρ S) := by
  show Wp ((fv ρ μ).bind fun p => (fo ρ p.2).bind fun q => (fi ρ q.2).bind fun r => match putD ρ.n0 r.2 q.1 r.1 p.1 with
  | some μ' => .ok (.nx, ρ, μ')
  | none => .bad) S = _
  rw [wp_bind]
  congr 1
  funext v μ
  unfold kPut1
  simp only
  rw [wp_bind]
  congr 1
  funext o μ
  simp only
  rw [wp_bind]
  congr 1
  funext i μ
  simp only
  cases putD ρ.n0 μ o i v <;> rfl
@[simp] theorem k_Put1 {fo fi : FE} {v : Val} : kPut1 fo fi ρ S v μ = Wp (fo ρ μ) (kPut2 fi v ρ S) := (rfl)
@[simp] theorem k_Put2 {fi : FE} {o v : Val} : kPut2 fi v ρ S o μ = Wp (fi ρ μ) (kPut3 v o ρ S) := (rfl)
@[simp] theorem k_Put3 {i o v : Val} : kPut3 v o ρ S i μ = (match putD ρ.n0 μ o i v with
  | some μ' => S .nx (ρ, μ')
  | none => False) := (rfl)
def kSetF1 (x : Str) (fo : FE) (ρ : Rho) (S : KS) : KE := fun v μ => Wp (fo ρ μ) fun o μ => match o with
  | .own k => (match μ[k]? with
    | some (.ins c ns vs) => if okW ρ.n0 k v = true ∧ ns.length < 1000 then S .nx (ρ, μ.set k (.ins c (putP ns vs x v).1 (putP ns vs x v).2)) else False
    | _ => False)
  | _ => False
def kSetF2 (x : Str) (v : Val) (ρ : Rho) (S : KS) : KE := fun o μ => match o with
  | .own k => (match μ[k]? with
    | some (.ins c ns vs) => if okW ρ.n0 k v = true ∧ ns.length < 1000 then S .nx (ρ, μ.set k (.ins c (putP ns vs x v).1 (putP ns vs x v).2)) else False
    | _ => False)
  | _ => False
@[simp ↓] theorem w_SetF {x : Str} {fo fv : FE} : Wp (fSetF x fo fv ρ μ) S = Wp (fv ρ μ) (kSetF1 x fo ρ S) := by
  show Wp ((fv ρ μ).bind fun p => (fo ρ p.2).bind fun q => match q.1 with
  | .own k => (match q.2[k]? with
    | some (.ins c ns vs) => if okW ρ.n0 k p.1 = true ∧ ns.length < 1000 then .ok (.nx, ρ, q.2.set k (.ins c (putP ns vs x p.1).1 (putP ns vs x p.1).2)) else .bad
    | _ => .bad)
  | _ => .bad) S = _
  rw [wp_bind]
  congr 1
  funext v μ
  unfold kSetF1
  simp only
  rw [wp_bind]
  congr 1
  funext o μ
  simp only
  cases o with
  | d x => rfl
  | own k =>
    simp only
    cases μ[k]? with
    | none => rfl
    | some c => cases c <;> first | rfl | (simp only; split <;> rfl)
@[simp] theorem k_SetF1 {x : Str} {fo : FE} {v : Val} : kSetF1 x fo ρ S v μ = Wp (fo ρ μ) (kSetF2 x v ρ S) := (rfl)
theorem k_SetF2 {x : Str} {v : Val} {k : Nat} {c : Str} {ns : List Str} {vs : List Val} (e : μ[k]? = some (.ins c ns vs)) (ho : okW ρ.n0 k v = true) (hn : ns.length < 1000) (h : S .nx (ρ, μ.set k (.ins c (putP ns vs x v).1 (putP ns vs x v).2))) : kSetF2 x v ρ S (.own k) μ := by
  unfold kSetF2
  simp only [e]
  rw [if_pos ⟨ho, hn⟩]
  exact h
/-! tests -/
def kT (t : KT) : KE := fun v μ => match v with
  | .d (.bl b) => t b μ
  | _ => False
@[simp ↓] theorem w_T {f : FE} : Wp (fT f ρ μ) t = Wp (f ρ μ) (kT t) := by
  show Wp ((f ρ μ).bind fun p => match p.1 with
  | .d (.bl b) => .ok (b, p.2)
  | _ => .bad) t = _
  rw [wp_bind]
  congr 1
  funext v μ
  unfold kT
  simp only
  split
  · rfl
  · rfl
@[simp] theorem k_T {b : Bool} : kT t (.d (.bl b)) μ = t b μ := (rfl)
def kTr (t : KT) : KE := fun v μ => match truV μ v with
  | some b => t b μ
  | none => False
@[simp ↓] theorem w_Tr {f : FE} : Wp (fTr f ρ μ) t = Wp (f ρ μ) (kTr t) := by
  show Wp ((f ρ μ).bind fun p => match truV p.2 p.1 with
  | some b => .ok (b, p.2)
  | none => .bad) t = _
  rw [wp_bind]
  congr 1
  funext v μ
  unfold kTr
  simp only
  cases truV μ v <;> rfl
@[simp] theorem k_Tr {v : Val} : kTr t v μ = (match truV μ v with
  | some b => t b μ
  | none => False) := (rfl)
def kAndT (g : FT) (ρ : Rho) (t : KT) : KT := fun b μ => if b = true then Wp (g ρ μ) t else t false μ
@[simp ↓] theorem w_AndT {f g : FT} : Wp (fAndT f g ρ μ) t = Wp (f ρ μ) (kAndT g ρ t) := by
  show Wp ((f ρ μ).bind fun p => if p.1 = true then g ρ p.2 else .ok (false, p.2)) t = _
  rw [wp_bind]
  congr 1
  funext b μ
  cases b <;> rfl
@[simp] theorem k_AndT_t {g : FT} : kAndT g ρ t true μ = Wp (g ρ μ) t := (rfl)
@[simp] theorem k_AndT_f {g : FT} : kAndT g ρ t false μ = t false μ := (rfl)
def kOrT (g : FT) (ρ : Rho) (t : KT) : KT := fun b μ => if b = true then t true μ else Wp (g ρ μ) t
@[simp ↓] theorem w_OrT {f g : FT} : Wp (fOrT f g ρ μ) t = Wp (f ρ μ) (kOrT g ρ t) := by
  show Wp ((f ρ μ).bind fun p => if p.1 = true then .ok (true, p.2) else g ρ p.2) t = _
  rw [wp_bind]
  congr 1
  funext b μ
  cases b <;> rfl
@[simp] theorem k_OrT_t {g : FT} : kOrT g ρ t true μ = t true μ := (rfl)
@[simp] theorem k_OrT_f {g : FT} : kOrT g ρ t false μ = Wp (g ρ μ) t := (rfl)
def kNotT (t : KT) : KT := fun b μ => t (!b) μ
@[simp ↓] theorem w_NotT {f : FT} : Wp (fNotT f ρ μ) t = Wp (f ρ μ) (kNotT t) := wp_bind
@[simp] theorem k_NotT {b : Bool} : kNotT t b μ = t (!b) μ := (rfl)
@[simp ↓] theorem w_Yes : Wp (fYes ρ μ) t = t true μ := (rfl)
/-! expressions -/
def kBin2 (o : Val → Val → Mu → R (Val × Mu)) (v : Val) (K : KE) : KE := fun w μ => Wp (o v w μ) K
def kBin1 (o : Val → Val → Mu → R (Val × Mu)) (g : FE) (ρ : Rho) (K : KE) : KE := fun v μ => Wp (g ρ μ) (kBin2 o v K)
@[simp ↓] theorem w_Bin {o : Val → Val → Mu → R (Val × Mu)} {f g : FE} : Wp (fBin o f g ρ μ) K = Wp (f ρ μ) (kBin1 o g ρ K) := by
  show Wp ((f ρ μ).bind fun p => (g ρ p.2).bind fun q => o p.1 q.1 q.2) K = _
  rw [wp_bind]
  congr 1
  funext v μ
  exact wp_bind
@[simp] theorem k_Bin1 {o : Val → Val → Mu → R (Val × Mu)} {g : FE} {v : Val} : kBin1 o g ρ K v μ = Wp (g ρ μ) (kBin2 o v K) := (rfl)
@[simp] theorem k_Bin2 {o : Val → Val → Mu → R (Val × Mu)} {v w : Val} : kBin2 o v K w μ = Wp (o v w μ) K := (rfl)
def kUn (o : Val → Mu → R (Val × Mu)) (K : KE) : KE := fun v μ => Wp (o v μ) K
@[simp ↓] theorem w_Un {o : Val → Mu → R (Val × Mu)} {f : FE} : Wp (fUn o f ρ μ) K = Wp (f ρ μ) (kUn o K) := wp_bind
@[simp] theorem k_Un {o : Val → Mu → R (Val × Mu)} {v : Val} : kUn o K v μ = Wp (o v μ) K := (rfl)
@[simp ↓] theorem w_C {x : D} : Wp (fC x ρ μ) K = K (.d x) μ := (rfl)
def kIf (f g : FE) (ρ : Rho) (K : KE) : KT := fun b μ => if b = true then Wp (f ρ μ) K else Wp (g ρ μ) K
@[simp ↓] theorem w_If {c : FT} {f g : FE} : Wp (fIf c f g ρ μ) K = Wp (c ρ μ) (kIf f g ρ K) := by
  show Wp ((c ρ μ).bind fun p => if p.1 = true then f ρ p.2 else g ρ p.2) K = _
  rw [wp_bind]
  congr 1
  funext b μ
  cases b <;> rfl
@[simp] theorem k_If_t {f g : FE} : kIf f g ρ K true μ = Wp (f ρ μ) K := (rfl)
@[simp] theorem k_If_f {f g : FE} : kIf f g ρ K false μ = Wp (g ρ μ) K := (rfl)
def kAndV (g : FE) (ρ : Rho) (K : KE) : KE := fun v μ => match v with
  | .d (.bl true) => Wp (g ρ μ) K
  | .d (.bl false) => K (.d (.bl false)) μ
  | _ => False
@[simp ↓] theorem w_AndV {f g : FE} : Wp (fAndV f g ρ μ) K = Wp (f ρ μ) (kAndV g ρ K) := by
  show Wp ((f ρ μ).bind fun p => match p.1 with
  | .d (.bl true) => g ρ p.2
  | .d (.bl false) => .ok (.d (.bl false), p.2)
  | _ => .bad) K = _
  rw [wp_bind]
  congr 1
  funext v μ
  unfold kAndV
  simp only
  rcases v with x | k
  · cases x with
    | bl b => cases b <;> rfl
    | _ => rfl
  · rfl
@[simp] theorem k_AndV_t {g : FE} : kAndV g ρ K (.d (.bl true)) μ = Wp (g ρ μ) K := (rfl)
@[simp] theorem k_AndV_f {g : FE} : kAndV g ρ K (.d (.bl false)) μ = K (.d (.bl false)) μ := (rfl)
def kOrV (g : FE) (ρ : Rho) (K : KE) : KE := fun v μ => match v with
  | .d (.bl true) => K (.d (.bl true)) μ
  | .d (.bl false) => Wp (g ρ μ) K
  | _ => False
@[simp ↓] theorem w_OrV {f g : FE} : Wp (fOrV f g ρ μ) K = Wp (f ρ μ) (kOrV g ρ K) := by
  show Wp ((f ρ μ).bind fun p => match p.1 with
  | .d (.bl true) => .ok (.d (.bl true), p.2)
  | .d (.bl false) => g ρ p.2
  | _ => .bad) K = _
  rw [wp_bind]
  congr 1
  funext v μ
  unfold kOrV
  simp only
  rcases v with x | k
  · cases x with
    | bl b => cases b <;> rfl
    | _ => rfl
  · rfl
@[simp] theorem k_OrV_t {g : FE} : kOrV g ρ K (.d (.bl true)) μ = K (.d (.bl true)) μ := (rfl)
@[simp] theorem k_OrV_f {g : FE} : kOrV g ρ K (.d (.bl false)) μ = Wp (g ρ μ) K := (rfl)
def kChain3 (o' : Val → Val → Mu → R (Val × Mu)) (h : FE) (w : Val) (ρ : Rho) (K : KE) : KE := fun r μ => match r with
  | .d (.bl true) => Wp (h ρ μ) (kBin2 o' w K)
  | .d (.bl false) => K (.d (.bl false)) μ
  | _ => False
def kChain2 (o o' : Val → Val → Mu → R (Val × Mu)) (h : FE) (v : Val) (ρ : Rho) (K : KE) : KE := fun w μ => Wp (o v w μ) (kChain3 o' h w ρ K)
def kChain1 (o o' : Val → Val → Mu → R (Val × Mu)) (g h : FE) (ρ : Rho) (K : KE) : KE := fun v μ => Wp (g ρ μ) (kChain2 o o' h v ρ K)
@[simp ↓] theorem w_Chain {o o' : Val → Val → Mu → R (Val × Mu)} {f g h : FE} : Wp (fChain o o' f g h ρ μ) K = Wp (f ρ μ) (kChain1 o o' g h ρ K) := by
  show Wp ((f ρ μ).bind fun p => (g ρ p.2).bind fun q => (o p.1 q.1 q.2).bind fun r => match r.1 with
  | .d (.bl true) => (h ρ r.2).bind fun s => o' q.1 s.1 s.2
  | .d (.bl false) => .ok (.d (.bl false), r.2)
  | _ => .bad) K = _
  rw [wp_bind]
  congr 1
  funext v μ
  simp only
  rw [wp_bind]
  unfold kChain1
  congr 1
  funext w μ
  simp only
  rw [wp_bind]
  unfold kChain2
  congr 1
  funext r μ
  unfold kChain3
  simp only
  rcases r with x | k
  · cases x with
    | bl b => cases b <;> first | rfl | exact wp_bind
    | _ => rfl
  · rfl
@[simp] theorem k_Chain1 {o o' : Val → Val → Mu → R (Val × Mu)} {g h : FE} {v : Val} : kChain1 o o' g h ρ K v μ = Wp (g ρ μ) (kChain2 o o' h v ρ K) := (rfl)
@[simp] theorem k_Chain2 {o o' : Val → Val → Mu → R (Val × Mu)} {h : FE} {v w : Val} : kChain2 o o' h v ρ K w μ = Wp (o v w μ) (kChain3 o' h w ρ K) := (rfl)
@[simp] theorem k_Chain3_t {o' : Val → Val → Mu → R (Val × Mu)} {h : FE} {w : Val} : kChain3 o' h w ρ K (.d (.bl true)) μ = Wp (h ρ μ) (kBin2 o' w K) := (rfl)
@[simp] theorem k_Chain3_f {o' : Val → Val → Mu → R (Val × Mu)} {h : FE} {w : Val} : kChain3 o' h w ρ K (.d (.bl false)) μ = K (.d (.bl false)) μ := (rfl)
/-! arguments -/
@[simp ↓] theorem w_ANil : Wp (fANil ρ μ) k = k [] μ := (rfl)
def kACons2 (v : Val) (k : KA) : KA := fun vs μ => k (v :: vs) μ
def kACons1 (g : FA) (ρ : Rho) (k : KA) : KE := fun v μ => Wp (g ρ μ) (kACons2 v k)
@[simp ↓] theorem w_ACons {f : FE} {g : FA} : Wp (fACons f g ρ μ) k = Wp (f ρ μ) (kACons1 g ρ k) := by
  show Wp ((f ρ μ).bind fun p => (g ρ p.2).bind fun q => .ok (p.1 :: q.1, q.2)) k = _
  rw [wp_bind]
  congr 1
  funext v μ
  exact wp_bind
@[simp] theorem k_ACons1 {g : FA} {v : Val} : kACons1 g ρ k v μ = Wp (g ρ μ) (kACons2 v k) := (rfl)
@[simp] theorem k_ACons2 {v : Val} {vs : List Val} : kACons2 v k vs μ = k (v :: vs) μ := (rfl)
def kAStar (g : FA) (ρ : Rho) (k : KA) : KE := fun v μ => match seqV μ v with
  | some ds => Wp (g ρ μ) fun vs μ => k (vD ds ++ vs) μ
  | none => False
@[simp ↓] theorem w_AStar {f : FE} {g : FA} : Wp (fAStar f g ρ μ) k = Wp (f ρ μ) (kAStar g ρ k) := by
  show Wp ((f ρ μ).bind fun p => match seqV p.2 p.1 with
  | some ds => (g ρ p.2).bind fun q => .ok (ds.map Val.d ++ q.1, q.2)
  | none => .bad) k = _
  rw [wp_bind]
  congr 1
  funext v μ
  unfold kAStar
  simp only
  cases seqV μ v with
  | none => rfl
  | some ds => exact wp_bind
theorem k_AStar {g : FA} {v : Val} : kAStar g ρ k v μ = (match seqV μ v with
  | some ds => Wp (g ρ μ) fun vs μ => k (vD ds ++ vs) μ
  | none => False) := (rfl)
def kTup (K : KE) : KA := fun vs μ => match dsOf vs with
  | some ds => if ds.length ≤ 1000 then K (.d (.tup ds)) μ else False
  | none => False
@[simp ↓] theorem w_Tup {g : FA} : Wp (fTup g ρ μ) K = Wp (g ρ μ) (kTup K) := by
  show Wp ((g ρ μ).bind fun q => match dsOf q.1 with
  | some ds => if ds.length ≤ 1000 then .ok (.d (.tup ds), q.2) else .bad
  | none => .bad) K = _
  rw [wp_bind]
  congr 1
  funext vs μ
  unfold kTup
  simp only
  cases dsOf vs with
  | none => rfl
  | some ds => simp only; split <;> rfl
@[simp] theorem k_Tup {vs : List Val} : kTup K vs μ = (match dsOf vs with
  | some ds => if ds.length ≤ 1000 then K (.d (.tup ds)) μ else False
  | none => False) := (rfl)
def kLst (K : KE) : KA := fun vs μ => match dsOf vs with
  | some ds => if ds.length ≤ 1000 then K (.d (.lst ds)) μ else False
  | none => False
@[simp ↓] theorem w_Lst {g : FA} : Wp (fLst g ρ μ) K = Wp (g ρ μ) (kLst K) := by
  show Wp ((g ρ μ).bind fun q => match dsOf q.1 with
  | some ds => if ds.length ≤ 1000 then .ok (.d (.lst ds), q.2) else .bad
  | none => .bad) K = _
  rw [wp_bind]
  congr 1
  funext vs μ
  unfold kLst
  simp only
  cases dsOf vs with
  | none => rfl
  | some ds => simp only; split <;> rfl
@[simp] theorem k_Lst {vs : List Val} : kLst K vs μ = (match dsOf vs with
  | some ds => if ds.length ≤ 1000 then K (.d (.lst ds)) μ else False
  | none => False) := (rfl)
def kLstL (K : KE) : KA := fun vs μ => if vs.length ≤ 1000 then K (.own μ.length) (μ ++ [.lst vs]) else False
@[simp ↓] theorem w_LstL {g : FA} : Wp (fLstL g ρ μ) K = Wp (g ρ μ) (kLstL K) := by
  show Wp ((g ρ μ).bind fun q => if q.1.length ≤ 1000 then .ok (.own q.2.length, q.2 ++ [.lst q.1]) else .bad) K = _
  rw [wp_bind]
  congr 1
  funext vs μ
  unfold kLstL
  simp only
  split <;> rfl
@[simp] theorem k_LstL {vs : List Val} : kLstL K vs μ = (if vs.length ≤ 1000 then K (.own μ.length) (μ ++ [.lst vs]) else False) := (rfl)
@[simp ↓] theorem w_Dict0f : Wp (fDict0 false false ρ μ) K = K (.d (.dK [] [])) μ := (rfl)
@[simp ↓] theorem w_Dict0tt : Wp (fDict0 true true ρ μ) K = K (.own μ.length) (μ ++ [.dT [] []]) := (rfl)
@[simp ↓] theorem w_Dict0tf : Wp (fDict0 true false ρ μ) K = K (.own μ.length) (μ ++ [.dK [] []]) := (rfl)
def kCB (o : List Val → Mu → R (Val × Mu)) (K : KE) : KA := fun vs μ => Wp (o vs μ) K
@[simp ↓] theorem w_CB {o : List Val → Mu → R (Val × Mu)} {g : FA} : Wp (fCB o g ρ μ) K = Wp (g ρ μ) (kCB o K) := wp_bind
@[simp] theorem k_CB {o : List Val → Mu → R (Val × Mu)} {vs : List Val} : kCB o K vs μ = Wp (o vs μ) K := (rfl)
def kIsi (tb : KTb) (ks : List Kd) (K : KE) : KE := fun v μ => match (kindV μ v).bind fun k => isAny tb k ks with
  | some b => K (.d (.bl b)) μ
  | none => False
@[simp ↓] theorem w_Isi {tb : KTb} {ks : List Kd} {f : FE} : Wp (fIsi tb ks f ρ μ) K = Wp (f ρ μ) (kIsi tb ks K) := by
  show Wp ((f ρ μ).bind fun p => match (kindV p.2 p.1).bind fun k => isAny tb k ks with
  | some b => .ok (.d (.bl b), p.2)
  | none => .bad) K = _
  rw [wp_bind]
  congr 1
  funext v μ
  unfold kIsi
  simp only
  cases ((kindV μ v).bind fun k => isAny tb k ks) <;> rfl
@[simp] theorem k_Isi {tb : KTb} {ks : List Kd} {v : Val} : kIsi tb ks K v μ = (match (kindV μ v).bind fun k => isAny tb k ks with
  | some b => K (.d (.bl b)) μ
  | none => False) := (rfl)
def kCall (n : Nat) (Fn : FF) (dd : List D) (K : KE) : KA := fun vs μ => if vs.length + dd.length = n then Wp (Fn (vs ++ dd.map Val.d) μ) K else False
@[simp ↓] theorem w_Call {n : Nat} {Fn : FF} {dd : List D} {g : FA} : Wp (fCall n Fn dd g ρ μ) K = Wp (g ρ μ) (kCall n Fn dd K) := by
  show Wp ((g ρ μ).bind fun p => if p.1.length + dd.length = n then (Fn (p.1 ++ dd.map Val.d) p.2).at ρ else .bad) K = _
  rw [wp_bind]
  congr 1
  funext vs μ
  unfold kCall
  simp only
  split
  · exact wp_at
  · rfl
@[simp] theorem k_Call {n : Nat} {Fn : FF} {dd : List D} {vs : List Val} : kCall n Fn dd K vs μ = (if vs.length + dd.length = n then Wp (Fn (vs ++ dd.map Val.d) μ) K else False) := (rfl)
def kCallK (n m : Nat) (Fn : FF) (is : List Nat) (K : KE) : KA := fun vs μ => if vs.length = m ∧ (pick is vs).length = n then Wp (Fn (pick is vs) μ) K else False
@[simp ↓] theorem w_CallK {n m : Nat} {Fn : FF} {is : List Nat} {g : FA} : Wp (fCallK n m Fn is g ρ μ) K = Wp (g ρ μ) (kCallK n m Fn is K) := by
  show Wp ((g ρ μ).bind fun p => if p.1.length = m ∧ (pick is p.1).length = n then (Fn (pick is p.1) p.2).at ρ else .bad) K = _
  rw [wp_bind]
  congr 1
  funext vs μ
  unfold kCallK
  simp only
  split
  · exact wp_at
  · rfl
@[simp] theorem k_CallK {n m : Nat} {Fn : FF} {is : List Nat} {vs : List Val} : kCallK n m Fn is K vs μ = (if vs.length = m ∧ (pick is vs).length = n then Wp (Fn (pick is vs) μ) K else False) := (rfl)
def kMethA (n : Nat) (Fn : FF) (v : Val) (K : KE) : KA := fun vs μ => if vs.length + 1 = n then Wp (Fn (v :: vs) μ) K else False
def kMeth (m : Str) (Δ : MT) (g : FA) (ρ : Rho) (K : KE) : KE := fun v μ => match insV μ v with
  | some (k, ns, _) => if m ∈ ns then False else (match Δ k with
    | some (n, Fn) => Wp (g ρ μ) (kMethA n Fn v K)
    | none => False)
  | none => False
@[simp ↓] theorem w_Meth {m : Str} {Δ : MT} {f : FE} {g : FA} : Wp (fMeth m Δ f g ρ μ) K = Wp (f ρ μ) (kMeth m Δ g ρ K) := by
  show Wp ((f ρ μ).bind fun p => match insV p.2 p.1 with
  | some (k, ns, _) => if m ∈ ns then .bad else (match Δ k with
    | some (n, Fn) => (g ρ p.2).bind fun q => if q.1.length + 1 = n then (Fn (p.1 :: q.1) q.2).at ρ else .bad
    | none => .bad)
  | none => .bad) K = _
  rw [wp_bind]
  congr 1
  funext v μ
  unfold kMeth
  simp only
  cases insV μ v with
  | none => rfl
  | some p =>
    obtain ⟨k, ns, vs⟩ := p
    simp only
    split
    · rfl
    · cases Δ k with
      | none => rfl
      | some q =>
        obtain ⟨n, Fn⟩ := q
        simp only
        rw [wp_bind]
        congr 1
        funext vs μ
        unfold kMethA
        simp only
        split
        · exact wp_at
        · rfl
theorem k_Meth {m : Str} {Δ : MT} {g : FA} {v : Val} {c : Str} {ns : List Str} {vs : List Val} {n : Nat} {Fn : FF} (e : insV μ v = some (c, ns, vs)) (hm : decide (m ∈ ns) = false) (hd : Δ c = some (n, Fn)) : kMeth m Δ g ρ K v μ = Wp (g ρ μ) (kMethA n Fn v K) := by
  unfold kMeth
  simp only [e, hd]
  rw [if_neg (by simpa using hm)]
@[simp] theorem k_MethA {n : Nat} {Fn : FF} {v : Val} {vs : List Val} : kMethA n Fn v K vs μ = (if vs.length + 1 = n then Wp (Fn (v :: vs) μ) K else False) := (rfl)
def kFld (x : Str) (K : KE) : KE := fun v μ => match insV μ v with
  | some (_, ns, vs) => (match getF ns vs x with
    | some v => K v μ
    | none => False)
  | none => False
@[simp ↓] theorem w_Fld {x : Str} {f : FE} : Wp (fFld x f ρ μ) K = Wp (f ρ μ) (kFld x K) := by
  show Wp ((f ρ μ).bind fun p => match insV p.2 p.1 with
  | some (_, ns, vs) => (match getF ns vs x with
    | some v => .ok (v, p.2)
    | none => .bad)
  | none => .bad) K = _
  rw [wp_bind]
  congr 1
  funext v μ
  unfold kFld
  simp only
  cases insV μ v with
  | none => rfl
  | some p =>
    obtain ⟨k, ns, vs⟩ := p
    simp only
    cases getF ns vs x <;> rfl
theorem k_Fld {x : Str} {v u : Val} {c : Str} {ns : List Str} {vs : List Val} (e : insV μ v = some (c, ns, vs)) (h : getF ns vs x = some u) : kFld x K v μ = K u μ := by
  unfold kFld
  simp only [e, h]
def kProp (Δ : MT) (K : KE) : KE := fun v μ => match insV μ v with
  | some (k, _, _) => (match Δ k with
    | some (n, Fn) => if n = 1 then Wp (Fn [v] μ) K else False
    | none => False)
  | none => False
@[simp ↓] theorem w_Prop {Δ : MT} {f : FE} : Wp (fProp Δ f ρ μ) K = Wp (f ρ μ) (kProp Δ K) := by
  show Wp ((f ρ μ).bind fun p => match insV p.2 p.1 with
  | some (k, _, _) => (match Δ k with
    | some (n, Fn) => if n = 1 then (Fn [p.1] p.2).noex else .bad
    | none => .bad)
  | none => .bad) K = _
  rw [wp_bind]
  congr 1
  funext v μ
  unfold kProp
  simp only
  cases insV μ v with
  | none => rfl
  | some p =>
    obtain ⟨k, ns, vs⟩ := p
    simp only
    cases Δ k with
    | none => rfl
    | some q =>
      obtain ⟨n, Fn⟩ := q
      simp only
      split
      · exact wp_noex
      · rfl
theorem k_Prop {Δ : MT} {v : Val} {c : Str} {ns : List Str} {vs : List Val} {Fn : FF} (e : insV μ v = some (c, ns, vs)) (h : Δ c = some (1, Fn)) : kProp Δ K v μ = Wp (Fn [v] μ) K := by
  unfold kProp
  simp only [e, h, if_true]
def kBM2 (o : Nat → Val → List Val → Mu → R (Val × Mu)) (v : Val) (ρ : Rho) (K : KE) : KA := fun vs μ => Wp (o ρ.n0 v vs μ) K
def kBM (T : String) (o : Nat → Val → List Val → Mu → R (Val × Mu)) (g : FA) (ρ : Rho) (K : KE) : KE := fun v μ => if tyB T μ v = true then Wp (g ρ μ) (kBM2 o v ρ K) else False
@[simp ↓] theorem w_BM {T : String} {o : Nat → Val → List Val → Mu → R (Val × Mu)} {f : FE} {g : FA} : Wp (fBM T o f g ρ μ) K = Wp (f ρ μ) (kBM T o g ρ K) := by
  show Wp ((f ρ μ).bind fun p => if tyB T p.2 p.1 = true then (g ρ p.2).bind fun q => o ρ.n0 p.1 q.1 q.2 else .bad) K = _
  rw [wp_bind]
  congr 1
  funext v μ
  unfold kBM
  simp only
  split
  · exact wp_bind
  · rfl
@[simp] theorem k_BM {T : String} {o : Nat → Val → List Val → Mu → R (Val × Mu)} {g : FA} {v : Val} : kBM T o g ρ K v μ = (if tyB T μ v = true then Wp (g ρ μ) (kBM2 o v ρ K) else False) := (rfl)
@[simp] theorem k_BM2 {o : Nat → Val → List Val → Mu → R (Val × Mu)} {v : Val} {vs : List Val} : kBM2 o v ρ K vs μ = Wp (o ρ.n0 v vs μ) K := (rfl)
def kSl2 (hi : Option FE) (v : Val) (ρ : Rho) (K : KE) : Option Int → Mu → Prop := fun l μ => Wp (fPart hi ρ μ) fun u μ => Wp (oCut l u v μ) K
def kSl3 (l : Option Int) (v : Val) (K : KE) : Option Int → Mu → Prop := fun u μ => Wp (oCut l u v μ) K
def kSl (lo hi : Option FE) (ρ : Rho) (K : KE) : KE := fun v μ => Wp (fPart lo ρ μ) (kSl2 hi v ρ K)
@[simp ↓] theorem w_Sl {f : FE} {lo hi : Option FE} : Wp (fSl f lo hi ρ μ) K = Wp (f ρ μ) (kSl lo hi ρ K) := by
  show Wp ((f ρ μ).bind fun p => (fPart lo ρ p.2).bind fun l => (fPart hi ρ l.2).bind fun u => oCut l.1 u.1 p.1 u.2) K = _
  rw [wp_bind]
  congr 1
  funext v μ
  unfold kSl
  simp only
  rw [wp_bind]
  congr 1
  funext l μ
  exact wp_bind
@[simp] theorem k_Sl {lo hi : Option FE} {v : Val} : kSl lo hi ρ K v μ = Wp (fPart lo ρ μ) (kSl2 hi v ρ K) := (rfl)
@[simp] theorem k_Sl2 {hi : Option FE} {v : Val} {l : Option Int} : kSl2 hi v ρ K l μ = Wp (fPart hi ρ μ) (kSl3 l v K) := (rfl)
@[simp] theorem k_Sl3 {v : Val} {l u : Option Int} : kSl3 l v K u μ = Wp (oCut l u v μ) K := (rfl)
def kPart (P : Option Int → Mu → Prop) : KE := fun v μ => match v with
  | .d (.int i) => P (some i) μ
  | _ => False
@[simp ↓] theorem w_Part0 {P : Option Int → Mu → Prop} : Wp (fPart none ρ μ) P = P none μ := (rfl)
@[simp ↓] theorem w_Part {f : FE} {P : Option Int → Mu → Prop} : Wp (fPart (some f) ρ μ) P = Wp (f ρ μ) (kPart P) := by
  show Wp ((f ρ μ).bind fun p => match p.1 with
    | .d (.int i) => .ok (some i, p.2)
    | _ => .bad) P = _
  rw [wp_bind]
  congr 1
  funext v μ
  unfold kPart
  simp only
  split
  · rfl
  · rfl
@[simp] theorem k_Part {P : Option Int → Mu → Prop} {i : Int} : kPart P (.d (.int i)) μ = P (some i) μ := (rfl)
def kSortLen (K : KE) : KE := fun v μ => match lstV μ v with
  | some ds => if ds.all isTup = true ∧ ds.length ≤ 100000 then K (.d (.lst (sortLenD ds))) μ else False
  | none => False
@[simp ↓] theorem w_SortLen {f : FE} : Wp (fSortLen f ρ μ) K = Wp (f ρ μ) (kSortLen K) := by
  show Wp ((f ρ μ).bind fun p => match lstV p.2 p.1 with
  | some ds => if ds.all isTup = true ∧ ds.length ≤ 100000 then .ok (.d (.lst (sortLenD ds)), p.2) else .bad
  | none => .bad) K = _
  rw [wp_bind]
  congr 1
  funext v μ
  unfold kSortLen
  simp only
  cases lstV μ v with
  | none => rfl
  | some ds => simp only; split <;> rfl
@[simp] theorem k_SortLen {v : Val} : kSortLen K v μ = (match lstV μ v with
  | some ds => if ds.all isTup = true ∧ ds.length ≤ 100000 then K (.d (.lst (sortLenD ds))) μ else False
  | none => False) := (rfl)
/-! making an object -/
def kMk (n : Nat) (live : Bool) (K : KE) : KE := fun v μ => match v with
  | .d .non => if live = true then K (.own n) μ else (match treeV 40 n μ (.own n) with
      | some x => K (.d x) (μ.take n)
      | none => False)
  | _ => False
def kMake (c : Str) (n : Nat) (Fi : FF) (dd : List D) (live : Bool) (K : KE) : KA := fun vs μ => if vs.length + dd.length + 1 = n then Wp (Fi (.own μ.length :: (vs ++ dd.map Val.d)) (μ ++ [.ins c [] []])) (kMk μ.length live K) else False
@[simp ↓] theorem w_Make {c : Str} {n : Nat} {Fi : FF} {dd : List D} {live : Bool} {g : FA} : Wp (fMake c n Fi dd live g ρ μ) K = Wp (g ρ μ) (kMake c n Fi dd live K) := by
  show Wp ((g ρ μ).bind fun p => if p.1.length + dd.length + 1 = n then (match Fi (.own p.2.length :: (p.1 ++ dd.map Val.d)) (p.2 ++ [.ins c [] []]) with
  | .ok q => (match q.1 with
    | .d .non => if live = true then .ok (.own p.2.length, q.2) else (match treeV 40 p.2.length q.2 (.own p.2.length) with
      | some x => .ok (.d x, q.2.take p.2.length)
      | none => .bad)
    | _ => .bad)
  | .ex e _ m => .ex e ρ (m.take p.2.length)
  | .bad => .bad) else .bad) K = _
  rw [wp_bind]
  congr 1
  funext vs μ
  unfold kMake
  simp only
  split
  · cases Fi (.own μ.length :: (vs ++ dd.map Val.d)) (μ ++ [.ins c [] []]) with
    | ok q =>
      simp only [wp_okp]
      unfold kMk
      split
      · split
        · rfl
        · split <;> simp_all
      · simp
    | ex e r m => rfl
    | bad => rfl
  · rfl
@[simp] theorem k_Make {c : Str} {n : Nat} {Fi : FF} {dd : List D} {live : Bool} {vs : List Val} : kMake c n Fi dd live K vs μ = (if vs.length + dd.length + 1 = n then Wp (Fi (.own μ.length :: (vs ++ dd.map Val.d)) (μ ++ [.ins c [] []])) (kMk μ.length live K) else False) := (rfl)
@[simp] theorem k_Mk_t {n : Nat} : kMk n true K (.d .non) μ = K (.own n) μ := (rfl)
theorem k_Mk_f {n : Nat} {x : D} (e : treeV 40 n μ (.own n) = some x) : kMk n false K (.d .non) μ = K (.d x) (μ.take n) := by
  unfold kMk
  simp [e]
/-! bodies -/
def kBody (n : Nat) (K : KE) : KS := fun l p => match l with
  | .nx => K (.d .non) (p.2.take n)
  | .rt v => (match closeV n p.2 v with
    | some w => K w (p.2.take n)
    | none => False)
  | _ => False
theorem w_Body {N : Nat} {body : FS} {as : List Val} : Wp (fBody N body as μ) K = Wp (body (startR μ.length N as) μ) (kBody μ.length K) := by
  unfold fBody
  cases body (startR μ.length N as) μ with
  | ok p =>
    obtain ⟨l, ρ, m⟩ := p
    simp only [wp_okp]
    cases l with
    | rt v =>
      simp only [kBody]
      cases closeV μ.length m v <;> rfl
    | _ => rfl
  | ex e r m => rfl
  | bad => rfl
@[simp] theorem k_Body_nx {n : Nat} {ρ : Rho} : kBody n K .nx (ρ, μ) = K (.d .non) (μ.take n) := (rfl)
@[simp] theorem k_Body_rt {n : Nat} {ρ : Rho} {x : D} : kBody n K (.rt (.d x)) (ρ, μ) = K (.d x) (μ.take n) := (rfl)
theorem k_Body_own {n j : Nat} {ρ : Rho} {w : Val} (e : closeV n μ (.own j) = some w) : kBody n K (.rt (.own j)) (ρ, μ) = K w (μ.take n) := by
  unfold kBody
  simp only [e]
def kBodyK (K : KE) : KS := fun l p => match l with
  | .nx => K (.d .non) p.2
  | .rt v => K v p.2
  | _ => False
theorem w_BodyK {N off : Nat} {body : FS} {as : List Val} : Wp (fBodyK N off body as μ) K = Wp (body (startR (μ.length - off) N as) μ) (kBodyK K) := by
  unfold fBodyK
  cases body (startR (μ.length - off) N as) μ with
  | ok p =>
    obtain ⟨l, ρ, m⟩ := p
    cases l <;> rfl
  | ex e r m => rfl
  | bad => rfl
@[simp] theorem k_BodyK_nx {ρ : Rho} : kBodyK K .nx (ρ, μ) = K (.d .non) μ := (rfl)
@[simp] theorem k_BodyK_rt {ρ : Rho} {v : Val} : kBodyK K (.rt v) (ρ, μ) = K v μ := (rfl)
/-! comprehensions, iterators, loops -/
def kLc (live : Bool) (g : FG) (t : FT) (el : FE) (ρ : Rho) (K : KE) : KI := fun ds μ => Wp ((lcGo g t el ds ρ μ).bind fun q => lcFin live q) K
@[simp ↓] theorem w_Lc {live : Bool} {it : FI} {g : FG} {t : FT} {el : FE} {own : List Nat} : Wp (fLc live it g t el own ρ μ) K = Wp (it ρ μ) (kLc live g t el (ρ.wipe own) K) := wp_bind
def kDc (live : Bool) (g : FG) (t : FT) (fk fv : FE) (ρ : Rho) (K : KE) : KI := fun ds μ => Wp ((dcGo g t fk fv ds ρ μ [] []).bind fun q => dcFin live q) K
@[simp ↓] theorem w_Dc {live : Bool} {it : FI} {g : FG} {t : FT} {fk fv : FE} {own : List Nat} : Wp (fDc live it g t fk fv own ρ μ) K = Wp (it ρ μ) (kDc live g t fk fv (ρ.wipe own) K) := wp_bind
def kiAny (J : KI) : KE := fun v μ => match v with
  | .d (.lst ds) => J ds μ
  | .d (.scr ns) => J (ns.map D.int) μ
  | .d (.tup ds) => J ds μ
  | .d (.kt ds) => J ds μ
  | .d (.str z) => J (signsD z) μ
  | _ => False
@[simp ↓] theorem w_iAny {f : FE} : Wp (fiAny f ρ μ) J = Wp (f ρ μ) (kiAny J) := by
  show Wp ((f ρ μ).bind fun p => match p.1 with
  | .d (.lst ds) => .ok (ds, p.2)
  | .d (.scr ns) => .ok (ns.map D.int, p.2)
  | .d (.tup ds) => .ok (ds, p.2)
  | .d (.kt ds) => .ok (ds, p.2)
  | .d (.str z) => .ok (signsD z, p.2)
  | _ => .bad) J = _
  rw [wp_bind]
  congr 1
  funext v μ
  unfold kiAny
  simp only
  rcases v with x | k
  · cases x <;> rfl
  · rfl
@[simp] theorem ki_lst {ds : List D} : kiAny J (.d (.lst ds)) μ = J ds μ := (rfl)
@[simp] theorem ki_scr {ns : List Int} : kiAny J (.d (.scr ns)) μ = J (ns.map D.int) μ := (rfl)
@[simp] theorem ki_tup {ds : List D} : kiAny J (.d (.tup ds)) μ = J ds μ := (rfl)
@[simp] theorem ki_kt {ds : List D} : kiAny J (.d (.kt ds)) μ = J ds μ := (rfl)
@[simp] theorem ki_str {z : Str} : kiAny J (.d (.str z)) μ = J (signsD z) μ := (rfl)
def kiRng1 (J : KI) : KA := fun vs μ => match vs with
  | [.d (.int j)] => if -(2 ^ 62) ≤ j ∧ j < 2 ^ 62 then J (rngD 0 j.toNat) μ else False
  | _ => False
@[simp ↓] theorem w_iRng1 {g : FA} : Wp (fiRng1 g ρ μ) J = Wp (g ρ μ) (kiRng1 J) := by
  show Wp ((g ρ μ).bind fun p => match p.1 with
  | [.d (.int j)] => if -(2 ^ 62) ≤ j ∧ j < 2 ^ 62 then .ok (rngD 0 j.toNat, p.2) else .bad
  | _ => .bad) J = _
  rw [wp_bind]
  congr 1
  funext vs μ
  unfold kiRng1
  simp only
  split
  · split <;> rfl
  · rfl
theorem ki_rng {j : Int} (h : -(2 ^ 62) ≤ j ∧ j < 2 ^ 62) : kiRng1 J [.d (.int j)] μ = J (rngD 0 j.toNat) μ := by
  unfold kiRng1
  simp only
  rw [if_pos h]
@[simp] theorem ki_rngN {j : Nat} : kiRng1 J [.d (.int j)] μ = if j < 2 ^ 62 then J (rngD 0 j) μ else False := by
  unfold kiRng1
  simp only
  by_cases h : j < 2 ^ 62
  · rw [if_pos (by omega), if_pos h]; simp
  · rw [if_neg (by omega), if_neg h]
def kiEnumA (J : KI) : KA := fun vs μ => match vs with
  | [.d (.lst ds)] => J (enumD 0 ds) μ
  | [.d (.tup ds)] => J (enumD 0 ds) μ
  | _ => False
@[simp ↓] theorem w_iEnumA {g : FA} : Wp (fiEnumA g ρ μ) J = Wp (g ρ μ) (kiEnumA J) := by
  show Wp ((g ρ μ).bind fun p => match p.1 with
  | [.d (.lst ds)] => .ok (enumD 0 ds, p.2)
  | [.d (.tup ds)] => .ok (enumD 0 ds, p.2)
  | _ => .bad) J = _
  rw [wp_bind]
  congr 1
  funext vs μ
  unfold kiEnumA
  simp only
  split <;> rfl
@[simp] theorem ki_enl {ds : List D} : kiEnumA J [.d (.lst ds)] μ = J (enumD 0 ds) μ := (rfl)
@[simp] theorem ki_ent {ds : List D} : kiEnumA J [.d (.tup ds)] μ = J (enumD 0 ds) μ := (rfl)
/-! targets -/
@[simp ↓] theorem w_gName {i : Nat} {v : Val} {K : Rho → Mu → Prop} : Wp (fgName i v ρ μ) K = K (ρ.set i v) μ := (rfl)
theorem w_gTup {is : List Nat} {ds : List D} {K : Rho → Mu → Prop} (h : ds.length = is.length) : Wp (fgTup is (.d (.tup ds)) ρ μ) K = K (setAll is ds ρ) μ := by
  show Wp (if ds.length = is.length then .ok (setAll is ds ρ, μ) else .bad) K = _
  rw [if_pos h]
  rfl
@[simp] theorem setAll_nil : setAll [] [] ρ = ρ := (rfl)
@[simp] theorem setAll_cons {i : Nat} {is : List Nat} {d : D} {ds : List D} : setAll (i :: is) (d :: ds) ρ = setAll is ds (ρ.set i (.d d)) := (rfl)
@[simp] theorem setVals_nil : setVals [] [] ρ = ρ := (rfl)
@[simp] theorem setVals_cons {i : Nat} {is : List Nat} {d : Val} {ds : List Val} : setVals (i :: is) (d :: ds) ρ = setVals is ds (ρ.set i d) := (rfl)
end
/-- a loop by its invariant -/
theorem wp_for {g : FG} {body : FS} {S : KS} (I : Nat → Rho → Mu → Prop) : ∀ {ds : List D} {ρ : Rho} {μ : Mu} (k : Nat), I k ρ μ →
    (∀ (i : Nat) d ρ μ, ds[i]? = some d → I (k + i) ρ μ → Wp (g (.d d) ρ μ) fun ρ μ => Wp (body ρ μ) fun l p => l = .nx ∧ I (k + i + 1) p.1 p.2) →
    (∀ ρ μ, I (k + ds.length) ρ μ → S .nx (ρ, μ)) → Wp (fFor g body ds ρ μ) S
  | [], ρ, μ, k, h, _, he => he ρ μ h
  | d :: ds, ρ, μ, k, h, hs, he => by
    obtain ⟨ρ1, μ1, e1, h1⟩ := (hs 0 d ρ μ rfl h).elim
    obtain ⟨l, q, e2, h2, h3⟩ := h1.elim
    subst h2
    obtain ⟨ρ2, μ2⟩ := q
    simp only [fFor, e1, R.bind_ok, e2]
    refine wp_for I (ds := ds) (k + 1) h3 (fun i d ρ μ hi hI => ?_) fun ρ μ hI => he ρ μ ?_
    · have := hs (i + 1) d ρ μ (by simpa using hi) (by rw [show k + (i + 1) = k + 1 + i by omega]; exact hI)
      rw [show k + (i + 1) + 1 = k + 1 + i + 1 by omega] at this
      exact this
    · rw [show k + (d :: ds).length = k + 1 + ds.length by simp; omega]
      exact hI
/-- a loop over the items, its invariant by what is done -/
theorem wp_forL {g : FG} {body : FS} {S : KS} {ds : List D} {ρ : Rho} {μ : Mu} (I : List D → Rho → Mu → Prop) (h : I [] ρ μ)
    (hs : ∀ (pre : List D) d post ρ μ, ds = pre ++ d :: post → I pre ρ μ → Wp (g (.d d) ρ μ) fun ρ μ => Wp (body ρ μ) fun l p => l = .nx ∧ I (pre ++ [d]) p.1 p.2)
    (he : ∀ ρ μ, I ds ρ μ → S .nx (ρ, μ)) : Wp (fFor g body ds ρ μ) S := by
  refine wp_for (fun i ρ μ => I (ds.take i) ρ μ) 0 (by simpa using h) (fun i d ρ μ hi hI => ?_) fun ρ μ hI => he ρ μ (by simpa using hI)
  have hl : i < ds.length := (List.getElem?_eq_some_iff.mp hi).1
  have hd : ds[i] = d := (List.getElem?_eq_some_iff.mp hi).2
  have e : ds = ds.take i ++ d :: ds.drop (i + 1) := by
    rw [← hd, List.getElem_cons_drop, List.take_append_drop]
  have e2 : ds.take (0 + i + 1) = ds.take i ++ [d] := by
    rw [Nat.zero_add, List.take_succ, hi]
    rfl
  simp only [e2]
  exact hs (ds.take i) d (ds.drop (i + 1)) ρ μ e (by simpa using hI)
/-- a while loop by an invariant with a measure -/
theorem wp_wh {c : FT} {body : FS} {S : KS} (I : Nat → Rho → Mu → Prop) : ∀ {f : Nat} {ρ : Rho} {μ : Mu} (m : Nat), m < f → I m ρ μ →
    (∀ m ρ μ, I m ρ μ → Wp (c ρ μ) fun b μ' => if b = true then Wp (body ρ μ') fun l p => l = .nx ∧ ∃ m', m' < m ∧ I m' p.1 p.2 else S .nx (ρ, μ')) → Wp (fWh c body f ρ μ) S
  | 0, ρ, μ, m, hm, _, _ => absurd hm (Nat.not_lt_zero _)
  | f + 1, ρ, μ, m, hm, h, hs => by
    obtain ⟨b, μ1, e1, h1⟩ := (hs m ρ μ h).elim
    simp only [fWh, e1, R.bind_ok]
    cases b with
    | false => exact h1
    | true =>
      rw [if_pos rfl] at h1
      obtain ⟨l, q, e2, h2, m', hm', h3⟩ := Wp.elim h1
      subst h2
      obtain ⟨ρ2, μ2⟩ := q
      simp only [e2, R.bind_ok, if_true]
      exact wp_wh I (f := f) m' (by omega) h3 hs
/-- a comprehension over data that changes nothing -/
theorem lcGo_pw {g : FG} {t : FT} {el : FE} {ρ : Rho} {μ : Mu} (p : D → Bool) (v : D → Val) : ∀ ds : List D, (∀ d ∈ ds, Wp (g (.d d) ρ μ) fun ρ' μ' => μ' = μ ∧ Wp (t ρ' μ) fun b μ' => b = p d ∧ μ' = μ ∧ (p d = true → Wp (el ρ' μ) fun w μ' => w = v d ∧ μ' = μ)) → lcGo g t el ds ρ μ = .ok ((ds.filter p).map v, μ)
  | [], _ => rfl
  | d :: ds, h => by
    have ih := lcGo_pw p v ds fun d hd => h d (List.mem_cons_of_mem _ hd)
    obtain ⟨ρ1, μ1, e1, h1, h2⟩ := (h d (List.mem_cons_self ..)).elim
    subst h1
    obtain ⟨b, μ2, e2, h3, h4, h5⟩ := h2.elim
    subst h4
    simp only [lcGo, e1, R.noex_ok, R.bind_ok, e2]
    cases hp : p d with
    | false => simp [h3, hp, ih]
    | true =>
      obtain ⟨w, μ3, e3, h6, h7⟩ := (h5 hp).elim
      subst h7
      simp [h3, hp, ih, e3, h6]
theorem dsOf_mapd {ds : List D} : dsOf (ds.map Val.d) = some ds := by
  induction ds with
  | nil => rfl
  | cons d ds ih => simp [dsOf, ih]
theorem dsOf_mapf {α : Type} {f : α → D} {ds : List α} : dsOf (ds.map fun x => Val.d (f x)) = some (ds.map f) := by
  induction ds with
  | nil => rfl
  | cons d ds ih => simp [dsOf, ih]
theorem k_lc {g : FG} {t : FT} {el : FE} {ρ : Rho} {μ : Mu} {K : KE} {ds : List D} (p : D → Bool) (v : D → D) (hl : ds.length < 1000000)
    (h : ∀ d ∈ ds, Wp (g (.d d) ρ μ) fun ρ' μ' => μ' = μ ∧ Wp (t ρ' μ) fun b μ' => b = p d ∧ μ' = μ ∧ (p d = true → Wp (el ρ' μ) fun w μ' => w = .d (v d) ∧ μ' = μ))
    (hk : K (.d (.lst ((ds.filter p).map v))) μ) : kLc false g t el ρ K ds μ := by
  have e := lcGo_pw p (fun d => Val.d (v d)) ds h
  have hl2 : (ds.filter p).length < 1000000 := Nat.lt_of_le_of_lt (List.length_filter_le ..) hl
  unfold kLc
  simp only [e, R.bind_ok, lcFin, List.length_map, hl2, if_true, dsOf_mapf]
  exact hk
theorem k_lcL {g : FG} {t : FT} {el : FE} {ρ : Rho} {μ : Mu} {K : KE} {ds : List D} (p : D → Bool) (v : D → Val) (hl : ds.length < 1000000)
    (h : ∀ d ∈ ds, Wp (g (.d d) ρ μ) fun ρ' μ' => μ' = μ ∧ Wp (t ρ' μ) fun b μ' => b = p d ∧ μ' = μ ∧ (p d = true → Wp (el ρ' μ) fun w μ' => w = v d ∧ μ' = μ))
    (hk : K (.own μ.length) (μ ++ [.lst ((ds.filter p).map v)])) : kLc true g t el ρ K ds μ := by
  have e := lcGo_pw p v ds h
  have hl2 : (ds.filter p).length < 1000000 := Nat.lt_of_le_of_lt (List.length_filter_le ..) hl
  unfold kLc
  simp only [e, R.bind_ok, lcFin, List.length_map, hl2, if_true]
  exact hk
/-- each item by a value, no test -/
theorem k_lcA {α : Type} {g : FG} {el : FE} {ρ : Rho} {μ : Mu} {K : KE} {xs : List α} (en : α → D) (v : α → D) (hl : xs.length < 1000000)
    (h : ∀ x ∈ xs, Wp (g (.d (en x)) ρ μ) fun ρ' μ' => μ' = μ ∧ Wp (el ρ' μ) fun w μ' => w = .d (v x) ∧ μ' = μ)
    (hk : K (.d (.lst (xs.map v))) μ) : kLc false g fYes el ρ K (xs.map en) μ := by
  have key : ∀ ys : List α, (∀ x ∈ ys, x ∈ xs) → lcGo g fYes el (ys.map en) ρ μ = .ok (ys.map fun x => Val.d (v x), μ) := by
    intro ys
    induction ys with
    | nil => intro _; rfl
    | cons y ys ih =>
      intro hy
      obtain ⟨ρ1, μ1, e1, h1, h2⟩ := (h y (hy y (List.mem_cons_self ..))).elim
      subst h1
      obtain ⟨w, μ2, e2, h3, h4⟩ := h2.elim
      subst h4
      subst h3
      have ih := ih fun x hx => hy x (List.mem_cons_of_mem _ hx)
      simp only [List.map_cons, lcGo, e1, R.noex_ok, R.bind_ok, fYes, if_true, e2, ih]
  unfold kLc
  simp only [key xs fun _ h => h, R.bind_ok, lcFin, List.length_map, hl, if_true, dsOf_mapf]
  exact hk
/-- items that pass a test, as they are -/
theorem k_lcF {α : Type} {g : FG} {t : FT} {el : FE} {ρ : Rho} {μ : Mu} {K : KE} {xs : List α} (en : α → D) (p : α → Bool) (v : α → D) (hl : xs.length < 1000000)
    (h : ∀ x ∈ xs, Wp (g (.d (en x)) ρ μ) fun ρ' μ' => μ' = μ ∧ Wp (t ρ' μ) fun b μ' => b = p x ∧ μ' = μ ∧ (p x = true → Wp (el ρ' μ) fun w μ' => w = .d (v x) ∧ μ' = μ))
    (hk : K (.d (.lst ((xs.filter p).map v))) μ) : kLc false g t el ρ K (xs.map en) μ := by
  have key : ∀ ys : List α, (∀ x ∈ ys, x ∈ xs) → lcGo g t el (ys.map en) ρ μ = .ok ((ys.filter p).map fun x => Val.d (v x), μ) := by
    intro ys
    induction ys with
    | nil => intro _; rfl
    | cons y ys ih =>
      intro hy
      obtain ⟨ρ1, μ1, e1, h1, h2⟩ := (h y (hy y (List.mem_cons_self ..))).elim
      subst h1
      obtain ⟨b, μ2, e2, h3, h4, h5⟩ := h2.elim
      subst h4
      have ih := ih fun x hx => hy x (List.mem_cons_of_mem _ hx)
      simp only [List.map_cons, lcGo, e1, R.noex_ok, R.bind_ok, e2]
      cases hp : p y with
      | false => simp [h3, hp, ih]
      | true =>
        obtain ⟨w, μ3, e3, h6, h7⟩ := (h5 hp).elim
        subst h7
        simp [h3, hp, e3, h6, ih]
  have hl2 : (xs.filter p).length < 1000000 := Nat.lt_of_le_of_lt (List.length_filter_le ..) hl
  unfold kLc
  simp only [key xs fun _ h => h, R.bind_ok, lcFin, List.length_map, hl2, if_true, dsOf_mapf]
  exact hk
def kAugK3 (q i : Val) (a : Int) (ρ : Rho) (S : KS) : KE := fun p μ => match p with
    | .d (.int b) => (match putD ρ.n0 μ q i (.d (.int (a + b))) with
      | some μ' => S .nx (ρ, μ')
      | none => False)
    | _ => False
def kAugK2 (q : Val) (fv : FE) (ρ : Rho) (S : KS) : KE := fun i μ => match dGet μ q i with
  | some (some (.d (.int a))) => Wp (fv ρ μ) (kAugK3 q i a ρ S)
  | _ => False
def kAugK1 (fi fv : FE) (ρ : Rho) (S : KS) : KE := fun q μ => Wp (fi ρ μ) (kAugK2 q fv ρ S)
@[simp ↓] theorem w_AugK {ρ : Rho} {μ : Mu} {S : KS} {fo fi fv : FE} : Wp (fAugK fo fi fv ρ μ) S = Wp (fo ρ μ) (kAugK1 fi fv ρ S) := by
  show Wp ((fo ρ μ).bind fun q => (fi ρ q.2).bind fun r => match dGet r.2 q.1 r.1 with
  | some (some (.d (.int a))) => (fv ρ r.2).bind fun p => (match p.1 with
    | .d (.int b) => (match putD ρ.n0 p.2 q.1 r.1 (.d (.int (a + b))) with
      | some μ' => .ok (.nx, ρ, μ')
      | none => .bad)
    | _ => .bad)
  | _ => .bad) S = _
  rw [wp_bind]
  congr 1
  funext q μ
  simp only
  rw [wp_bind]
  unfold kAugK1
  congr 1
  funext i μ
  unfold kAugK2
  simp only
  rcases hg : dGet μ q i with _ | _ | (x | k)
  · rfl
  · rfl
  · cases x with
    | int a =>
      simp only
      rw [wp_bind]
      congr 1
      funext p μ
      unfold kAugK3
      simp only
      rcases p with x | k
      · cases x with
        | int b =>
          simp only
          cases putD ρ.n0 μ q i (.d (.int (a + b))) <;> rfl
        | _ => rfl
      · rfl
    | _ => rfl
  · rfl
@[simp] theorem k_AugK1 {ρ : Rho} {μ : Mu} {S : KS} {fi fv : FE} {q : Val} : kAugK1 fi fv ρ S q μ = Wp (fi ρ μ) (kAugK2 q fv ρ S) := (rfl)
@[simp] theorem k_AugK2 {ρ : Rho} {μ : Mu} {S : KS} {fv : FE} {q i : Val} : kAugK2 q fv ρ S i μ = (match dGet μ q i with
  | some (some (.d (.int a))) => Wp (fv ρ μ) (kAugK3 q i a ρ S)
  | _ => False) := rfl
@[simp] theorem k_AugK3 {ρ : Rho} {μ : Mu} {S : KS} {q i : Val} {a b : Int} : kAugK3 q i a ρ S (.d (.int b)) μ = (match putD ρ.n0 μ q i (.d (.int (a + b))) with
      | some μ' => S .nx (ρ, μ')
      | none => False) := rfl
def kAug (i : Nat) (a : Int) (ρ : Rho) (S : KS) : KE := fun p μ => match p with
    | .d (.int b) => S .nx (ρ.set i (.d (.int (a + b))), μ)
    | _ => False
theorem w_Aug {ρ : Rho} {μ : Mu} {S : KS} {i : Nat} {fv : FE} {a : Int} (e : ρ.s[i]? = some (some (.d (.int a)))) : Wp (fAug i fv ρ μ) S = Wp (fv ρ μ) (kAug i a ρ S) := by
  show Wp (match ρ.s[i]? with
  | some (some v) => (fv ρ μ).bind fun p => (match v, p.1 with
    | .d (.int a), .d (.int b) => .ok (.nx, ρ.set i (.d (.int (a + b))), p.2)
    | _, _ => .bad)
  | _ => .bad) S = _
  rw [e]
  simp only
  rw [wp_bind]
  congr 1
  funext p μ
  unfold kAug
  rcases p with x | k
  · cases x <;> rfl
  · rfl
@[simp] theorem k_Aug {ρ : Rho} {μ : Mu} {S : KS} {i : Nat} {a b : Int} : kAug i a ρ S (.d (.int b)) μ = S .nx (ρ.set i (.d (.int (a + b))), μ) := (rfl)
/-- the same with a word for the end -/
theorem wp_wh2 {c : FT} {body : FS} {S : KS} {f : Nat} {ρ : Rho} {μ : Mu} (I : Nat → Rho → Mu → Prop) (E : Rho → Mu → Prop) (m : Nat) (hm : m < f) (h : I m ρ μ)
    (hs : ∀ m ρ μ, I m ρ μ → Wp (c ρ μ) fun b μ' => if b = true then Wp (body ρ μ') fun l p => l = .nx ∧ ∃ m', m' < m ∧ I m' p.1 p.2 else E ρ μ')
    (he : ∀ ρ μ, E ρ μ → S .nx (ρ, μ)) : Wp (fWh c body f ρ μ) S :=
  wp_wh I m hm h fun m ρ μ hI => (hs m ρ μ hI).mono fun b μ' hb => by
    cases b with
    | true => exact hb
    | false => exact he _ _ hb
/-! loops with opaque words -/
def kNx (I : Rho → Mu → Prop) : KS := fun l p => l = .nx ∧ I p.1 p.2
@[simp] theorem k_Nx {I : Rho → Mu → Prop} {ρ : Rho} {μ : Mu} : kNx I .nx (ρ, μ) = I ρ μ := by
  unfold kNx
  simp
def kBdG (body : FS) (S : KS) : Rho → Mu → Prop := fun ρ μ => Wp (body ρ μ) S
@[simp] theorem k_BdG {body : FS} {S : KS} {ρ : Rho} {μ : Mu} : kBdG body S ρ μ = Wp (body ρ μ) S := (rfl)
def kBdG' (el : FE) (K : KE) : Rho → Mu → Prop := fun ρ μ => Wp (el ρ μ) K
@[simp] theorem k_BdG' {el : FE} {K : KE} {ρ : Rho} {μ : Mu} : kBdG' el K ρ μ = Wp (el ρ μ) K := (rfl)
theorem wp_forI {g : FG} {body : FS} {S : KS} {ds : List D} {ρ : Rho} {μ : Mu} (I : Nat → Rho → Mu → Prop) (h : I 0 ρ μ)
    (hs : ∀ (i : Nat) d ρ μ, ds[i]? = some d → I i ρ μ → Wp (g (.d d) ρ μ) (kBdG body (kNx (I (i + 1)))))
    (he : ∀ ρ μ, I ds.length ρ μ → S .nx (ρ, μ)) : Wp (fFor g body ds ρ μ) S :=
  wp_for I 0 h (fun i d ρ μ hi hI => by
    rw [Nat.zero_add] at hI ⊢
    exact hs i d ρ μ hi hI) fun ρ μ hI => he ρ μ (by rwa [Nat.zero_add] at hI)
theorem wp_forP {g : FG} {body : FS} {S : KS} {ds : List D} {ρ : Rho} {μ : Mu} (I : List D → Rho → Mu → Prop) (h : I [] ρ μ)
    (hs : ∀ (pre : List D) d post ρ μ, ds = pre ++ d :: post → I pre ρ μ → Wp (g (.d d) ρ μ) (kBdG body (kNx (I (pre ++ [d])))))
    (he : ∀ ρ μ, I ds ρ μ → S .nx (ρ, μ)) : Wp (fFor g body ds ρ μ) S := wp_forL I h hs he
def kWh (body : FS) (I E : Rho → Mu → Prop) (ρ : Rho) : KT := fun b μ => if b = true then Wp (body ρ μ) (kNx I) else E ρ μ
@[simp] theorem k_Wh_t {body : FS} {I E : Rho → Mu → Prop} {ρ : Rho} {μ : Mu} : kWh body I E ρ true μ = Wp (body ρ μ) (kNx I) := (rfl)
@[simp] theorem k_Wh_f {body : FS} {I E : Rho → Mu → Prop} {ρ : Rho} {μ : Mu} : kWh body I E ρ false μ = E ρ μ := (rfl)
theorem wp_whI {c : FT} {body : FS} {S : KS} {f : Nat} {ρ : Rho} {μ : Mu} (I : Nat → Rho → Mu → Prop) (E : Rho → Mu → Prop) (m : Nat) (hm : m < f) (h : I m ρ μ)
    (hs : ∀ m ρ μ, I m ρ μ → Wp (c ρ μ) (kWh body (fun ρ μ => ∃ m', m' < m ∧ I m' ρ μ) E ρ))
    (he : ∀ ρ μ, E ρ μ → S .nx (ρ, μ)) : Wp (fWh c body f ρ μ) S := wp_wh2 I E m hm h hs he
end Zl
set_option Elab.async false
set_option linter.all false
set_option maxRecDepth 100000
set_option maxHeartbeats 4000000
namespace Zl
open PySem PySem.Spec L2
open PyProof.Rows hiding St
/-! # plain laws: unfolding -/
def nmR (μ : Mu) : Option (Option Val) → R (Val × Mu)
  | some (some (.d x)) => .ok (.d x, μ)
  | some (some (.own k)) => (match μ[k]? with
    | some (.fz x) => .ok (.d x, μ)
    | some .gone => .bad
    | some _ => .ok (.own k, μ)
    | none => .bad)
  | _ => .bad
theorem ap_name {n0 : Nat} {s : List (Option Val)} {i : Nat} {μ : Mu} : fName i ⟨n0, s⟩ μ = nmR μ s[i]? := by
  show (match s[i]? with
    | some (some v) => (match rdV μ v with
      | some w => R.ok (w, μ)
      | none => .bad)
    | _ => .bad) = _
  rcases s[i]? with _ | _ | v
  · rfl
  · rfl
  · cases v with
    | d x => rfl
    | own k =>
      show (match (match μ[k]? with
        | some (.fz x) => some (.d x)
        | some .gone => none
        | some _ => some (.own k)
        | none => none : Option Val) with
        | some w => R.ok (w, μ)
        | none => .bad) = (match μ[k]? with
        | some (.fz x) => .ok (.d x, μ)
        | some .gone => .bad
        | some _ => .ok (.own k, μ)
        | none => .bad)
      rcases μ[k]? with _ | c
      · rfl
      · cases c <;> rfl
@[simp] theorem nm_d {μ : Mu} {x : D} : nmR μ (some (some (.d x))) = .ok (.d x, μ) := (rfl)
theorem nm_own {μ : Mu} {k : Nat} : nmR μ (some (some (.own k))) = (match μ[k]? with
    | some (.fz x) => .ok (.d x, μ)
    | some .gone => .bad
    | some _ => .ok (.own k, μ)
    | none => .bad) := rfl
theorem filter_all {α : Type} {p : α → Bool} {l : List α} (h : ∀ x ∈ l, p x = true) : l.filter p = l := List.filter_eq_self.mpr h
section
variable {ρ : Rho} {μ : Mu}
@[simp] theorem ap_nameS (n0 : Nat) (s : List (Option Val)) (i : Nat) : fName i ⟨n0, s⟩ μ = nmR μ s[i]? := ap_name
@[simp] theorem ap_set (n0 : Nat) (s : List (Option Val)) (i : Nat) (v : Val) : Rho.set ⟨n0, s⟩ i v = ⟨n0, s.set i (some v)⟩ := (rfl)
@[simp] theorem ap_wipe (n0 : Nat) (s : List (Option Val)) (vs : List Nat) : Rho.wipe ⟨n0, s⟩ vs = ⟨n0, wipeS s vs⟩ := (rfl)
@[simp] theorem wipe_nil (s : List (Option Val)) : wipeS s [] = s := (rfl)
@[simp] theorem wipe_cons (s : List (Option Val)) (v : Nat) (vs : List Nat) : wipeS s (v :: vs) = (wipeS s vs).set v none := (rfl)
end
/-- letters and changes -/
def LetC (c : Nat) : Prop := 97 ≤ c ∧ c < 123
def Chg (x : Str) : Prop := 1 ≤ x.length ∧ x.length ≤ 6 ∧ ∀ c ∈ x.cps.toList, LetC c
theorem letter_in : ∀ c : Nat, 97 ≤ c → c < 123 → (Builtin.Str.occurrences ("abcdefghijklmnopqrstuvwxyz" : Str) (⟨#[c]⟩ : Str) 0 (("abcdefghijklmnopqrstuvwxyz" : Str)).length 1).isEmpty = false := by
  have h : ∀ k ∈ List.range 26, (Builtin.Str.occurrences ("abcdefghijklmnopqrstuvwxyz" : Str) (⟨#[97 + k]⟩ : Str) 0 (("abcdefghijklmnopqrstuvwxyz" : Str)).length 1).isEmpty = false := by decide +kernel
  intro c h1 h2
  have := h (c - 97) (List.mem_range.mpr (by omega))
  rwa [Nat.add_sub_cancel' h1] at this
@[simp] theorem kb1 : kitB "int" "int" = some true := by rfl
@[simp] theorem kb2 : kitB "int" "bool" = some false := by rfl
@[simp] theorem kb3 : kitB "str" "str" = some true := by rfl
@[simp] theorem kb4 : kitB "tuple" "tuple" = some true := by rfl
@[simp] theorem kb5 : kitB "tuple" "list" = some false := by rfl
@[simp] theorem kb6 : kitB "list" "list" = some true := by rfl
section
variable {μ : Mu}
@[simp] theorem tru_d (x : D) : truV μ (.d x) = truD x := (rfl)
@[simp] theorem truD_bl (b : Bool) : truD (.bl b) = some b := (rfl)
@[simp] theorem oLe_i (i j : Int) : oLe (.d (.int i)) (.d (.int j)) μ = .ok (.d (.bl (decide (i ≤ j))), μ) := (rfl)
@[simp] theorem oLt_i (i j : Int) : oLt (.d (.int i)) (.d (.int j)) μ = .ok (.d (.bl (decide (i < j))), μ) := (rfl)
@[simp] theorem oGt_i (i j : Int) : oGt (.d (.int i)) (.d (.int j)) μ = .ok (.d (.bl (decide (j < i))), μ) := (rfl)
@[simp] theorem oGe_i (i j : Int) : oGe (.d (.int i)) (.d (.int j)) μ = .ok (.d (.bl (decide (j ≤ i))), μ) := (rfl)
@[simp] theorem oAdd_i (i j : Int) : oAdd (.d (.int i)) (.d (.int j)) μ = .ok (.d (.int (i + j)), μ) := (rfl)
@[simp] theorem oSub_i (i j : Int) : oSub (.d (.int i)) (.d (.int j)) μ = .ok (.d (.int (i - j)), μ) := (rfl)
@[simp] theorem oEq_i (n : Bool) (i j : Int) : oEq n (.d (.int i)) (.d (.int j)) μ = .ok (.d (.bl (if n then !decide (i = j) else decide (i = j))), μ) := by
  have e : (i == j) = decide (i = j) := rfl
  simp [oEq, pyV, D.py, SeqAt.shaped, PyData.canLay0, PyData.depth, PyData.eqv, e]
theorem blsD_f {α : Type} (f : α → Bool) (l : List α) : blsD (l.map fun d => .bl (f d)) = some (l.map f) := by
  induction l with
  | nil => rfl
  | cons d ds ih => simp [blsD, ih]
@[simp] theorem filter_tt {α : Type} (l : List α) : l.filter (fun _ => true) = l := filter_all fun _ _ => rfl
theorem oAll_map {α : Type} (f : α → Bool) (l : List α) : oAll [.d (.lst (l.map fun d => .bl (f d)))] μ = .ok (.d (.bl (l.all f)), μ) := by
  simp [oAll, lstV, blsD_f]
theorem oAny_map {α : Type} (f : α → Bool) (l : List α) : oAny [.d (.lst (l.map fun d => .bl (f d)))] μ = .ok (.d (.bl (l.any f)), μ) := by
  simp [oAny, lstV, blsD_f]
end
theorem mem_signs {x : Str} {d : D} (h : d ∈ signsD x) : ∃ c ∈ x.cps.toList, d = .str ⟨#[c]⟩ := by
  obtain ⟨c, hc, e⟩ := List.mem_map.mp h
  exact ⟨c, hc, e.symm⟩
structure Ver where
  ups : List Nat
  deed : Option (Bool × Str)
def actW (b : Bool) : Str := if b then "apply" else "revert"
def actD : Option (Bool × Str) → D
  | none => .non
  | some (b, w) => .tup [.str (actW b), .str w]
def natD (n : Nat) : D := .int n
def verD (v : Ver) : D := .tup [.tup (v.ups.map natD), actD v.deed]
inductive UpsOk (n : Nat) : List Nat → Prop where
  | none : UpsOk n []
  | one {a : Nat} (h : a < n) : UpsOk n [a]
  | two {a b : Nat} (h : a < b) (hb : b < n) : UpsOk n [a, b]
def DeedOk (a : Option (Bool × Str)) : Prop := ∀ b w, a = some (b, w) → Chg w
structure VerOk (n : Nat) (v : Ver) : Prop where
  ups : UpsOk n v.ups
  deed : DeedOk v.deed
theorem Chg.ok {x : Str} (h : Chg x) : PyData.strOk x = true := by
  obtain ⟨_, _, h3⟩ := h
  unfold PyData.strOk
  rw [← Array.all_toList, List.all_eq_true]
  intro c hc
  have := h3 c hc
  unfold LetC at this
  simp
  omega
section
variable {μ : Mu}
@[simp] theorem lenV_d (x : D) : lenV μ (.d x) = lenD x := (rfl)
@[simp] theorem oLen_d (x : D) : oLen [.d x] μ = (match lenD x with
    | some n => .ok (.d (.int (n : Int)), μ)
    | none => .bad) := rfl
@[simp] theorem lenD_tup (ds : List D) : lenD (.tup ds) = some ds.length := (rfl)
@[simp] theorem lenD_lst (ds : List D) : lenD (.lst ds) = some ds.length := (rfl)
theorem oIx_tup {ds : List D} {i : Int} {x : D} (h : atI ds i = some x) : oIx (.d (.tup ds)) (.d (.int i)) μ = .ok (.d x, μ) := by
  simp [oIx, seqV, h]
theorem oIx_lst {ds : List D} {i : Int} {x : D} (h : atI ds i = some x) : oIx (.d (.lst ds)) (.d (.int i)) μ = .ok (.d x, μ) := by
  simp [oIx, seqV, lstV, h]
@[simp] theorem ix0 {a : D} {r : List D} : oIx (.d (.tup (a :: r))) (.d (.int 0)) μ = .ok (.d a, μ) := oIx_tup (by simp [atI, ixN])
@[simp] theorem ix1 {a b : D} {r : List D} : oIx (.d (.tup (a :: b :: r))) (.d (.int 1)) μ = .ok (.d b, μ) := oIx_tup (by
  simp [atI, ixN]
  split
  · rfl
  · omega)
@[simp] theorem ix2 {a b c : D} {r : List D} : oIx (.d (.tup (a :: b :: c :: r))) (.d (.int 2)) μ = .ok (.d c, μ) := oIx_tup (by
  simp [atI, ixN]
  split
  · rfl
  · omega)
@[simp] theorem ix3 {a b c d : D} {r : List D} : oIx (.d (.tup (a :: b :: c :: d :: r))) (.d (.int 3)) μ = .ok (.d d, μ) := oIx_tup (by
  simp [atI, ixN]
  split
  · rfl
  · omega)
@[simp] theorem kind_d (x : D) : kindV μ (.d x) = kindD x := (rfl)
@[simp] theorem isN_d (n : Bool) (x : D) : oIsN n (.d x) μ = (match x with
  | .non => .ok (.d (.bl (!n)), μ)
  | .obj _ => .bad
  | _ => .ok (.d (.bl n), μ)) := by
  cases x <;> rfl
@[simp] theorem oNot_bl (b : Bool) : oNot (.d (.bl b)) μ = .ok (.d (.bl (!b)), μ) := (rfl)
end
structure OkD (k : Nat) (d : D) : Prop where
  py : D.py d = some (pyOf d)
  lay : (pyOf d).canLay0 = true
  dep : (pyOf d).depth ≤ k
theorem OkD.mono {k k' : Nat} {d : D} (h : OkD k d) (hk : k ≤ k') : OkD k' d := ⟨h.py, h.lay, Nat.le_trans h.dep hk⟩
theorem OkD.shaped {k : Nat} {d : D} (h : OkD k d) (hk : k ≤ 64) : SeqAt.shaped (pyOf d) = true := by
  have := h.dep
  simp [SeqAt.shaped, h.lay]
  omega
theorem okd_int {k : Nat} (i : Int) : OkD k (.int i) := ⟨rfl, by simp [pyOf, D.py, PyData.canLay0], by simp [pyOf, D.py, PyData.depth]⟩
theorem okd_non {k : Nat} : OkD k .non := ⟨rfl, by simp [pyOf, D.py, PyData.canLay0], by simp [pyOf, D.py, PyData.depth]⟩
theorem okd_str {k : Nat} {x : Str} (h : PyData.strOk x = true) : OkD k (.str x) := ⟨rfl, by simp [pyOf, D.py, PyData.canLay0, h], by simp [pyOf, D.py, PyData.depth]⟩
theorem okL {k : Nat} : ∀ {ds : List D}, (∀ d ∈ ds, OkD k d) → D.pyL ds = some (ds.map pyOf) ∧ PyData.canLayAll0 (ds.map pyOf) = true ∧ PyData.depthAll (ds.map pyOf) ≤ k
  | [], _ => ⟨rfl, by simp [PyData.canLayAll0], by simp [PyData.depthAll]⟩
  | d :: ds, h => by
    obtain ⟨a, b, c⟩ := okL fun d hd => h d (List.mem_cons_of_mem _ hd)
    have h0 := h d (List.mem_cons_self ..)
    refine ⟨?_, ?_, ?_⟩
    · simp [D.pyL, h0.py, a]
    · simp [PyData.canLayAll0, h0.lay, b]
    · have := h0.dep
      simp [PyData.depthAll]
      omega
theorem py_tup {k : Nat} {ds : List D} (h : ∀ d ∈ ds, OkD k d) : pyOf (.tup ds) = .tuple (ds.map pyOf) := by simp [pyOf, D.py, (okL h).1]
theorem py_lst {k : Nat} {ds : List D} (h : ∀ d ∈ ds, OkD k d) : pyOf (.lst ds) = .list (ds.map pyOf) := by simp [pyOf, D.py, (okL h).1]
theorem okd_tup {k : Nat} {ds : List D} (h : ∀ d ∈ ds, OkD k d) : OkD (k + 1) (.tup ds) := by
  obtain ⟨a, b, c⟩ := okL h
  refine ⟨by rw [py_tup h]; simp [D.py, a], ?_, ?_⟩
  · simp [py_tup h, PyData.canLay0, b]
  · simp [py_tup h, PyData.depth]; omega
theorem okd_lst {k : Nat} {ds : List D} (h : ∀ d ∈ ds, OkD k d) : OkD (k + 1) (.lst ds) := by
  obtain ⟨a, b, c⟩ := okL h
  refine ⟨by rw [py_lst h]; simp [D.py, a], ?_, ?_⟩
  · simp [py_lst h, PyData.canLay0, b]
  · simp [py_lst h, PyData.depth]; omega
mutual
theorem eqv_self : ∀ p : PyData, p.canLay0 = true → PyData.eqv p p = true
  | .none, _ => by simp [PyData.eqv]
  | .bool _, _ => by simp [PyData.eqv]
  | .int _, _ => by simp [PyData.eqv]
  | .str _, _ => by simp [PyData.eqv]
  | .list xs, h => by
    simp only [PyData.canLay0] at h
    simp [PyData.eqv, eqvAll_self xs h]
  | .tuple xs, h => by
    simp only [PyData.canLay0] at h
    simp [PyData.eqv, eqvAll_self xs h]
  | .dict _, h => by simp [PyData.canLay0] at h
theorem eqvAll_self : ∀ ps : List PyData, PyData.canLayAll0 ps = true → PyData.eqvAll ps ps = true
  | [], _ => by simp [PyData.eqvAll]
  | p :: ps, h => by
    simp only [PyData.canLayAll0, Bool.and_eq_true] at h
    simp [PyData.eqvAll, eqv_self p h.1, eqvAll_self ps h.2]
end
section
variable {μ : Mu} {k : Nat}
theorem oEq_self {d : D} (n : Bool) (h : OkD k d) (hk : k ≤ 64) : oEq n (.d d) (.d d) μ = .ok (.d (.bl (!n)), μ) := by
  simp [oEq, pyV, h.py, h.shaped hk, eqv_self _ h.lay]
theorem oEq_str {x y : Str} (n : Bool) (h : PyData.strOk x = true) (h' : PyData.strOk y = true) : oEq n (.d (.str x)) (.d (.str y)) μ = .ok (.d (.bl (if n then !decide (x = y) else decide (x = y))), μ) := by
  have e : (x == y) = decide (x = y) := rfl
  have a := (okd_str (k := 0) h).shaped (by omega)
  have b := (okd_str (k := 0) h').shaped (by omega)
  simp only [pyOf, D.py, Option.getD_some] at a b
  simp [oEq, pyV, D.py, a, b, PyData.eqv, e]
theorem shaped_nilL : SeqAt.shaped (.list []) = true := by simp [SeqAt.shaped, PyData.canLay0, PyData.canLayAll0, PyData.depth, PyData.depthAll]
theorem shaped_nilT : SeqAt.shaped (.tuple []) = true := by simp [SeqAt.shaped, PyData.canLay0, PyData.canLayAll0, PyData.depth, PyData.depthAll]
theorem oEq_nilL {ds : List D} (n : Bool) (h : ∀ d ∈ ds, OkD k d) (hk : k < 64) : oEq n (.d (.lst ds)) (.d (.lst [])) μ = .ok (.d (.bl (if n then !ds.isEmpty else ds.isEmpty)), μ) := by
  have a := (okd_lst h).shaped (by omega)
  have b := (okd_lst h).py
  simp only [py_lst h] at a b
  have e : PyData.eqvAll (ds.map pyOf) [] = ds.isEmpty := by cases ds <;> simp [PyData.eqvAll]
  have e2 : D.py (.lst []) = some (.list []) := by simp [D.py, D.pyL]
  simp [oEq, pyV, b, a, shaped_nilL, PyData.eqv, e, e2]
theorem oEq_nilT {ds : List D} (n : Bool) (h : ∀ d ∈ ds, OkD k d) (hk : k < 64) : oEq n (.d (.tup ds)) (.d (.tup [])) μ = .ok (.d (.bl (if n then !ds.isEmpty else ds.isEmpty)), μ) := by
  have a := (okd_tup h).shaped (by omega)
  have b := (okd_tup h).py
  simp only [py_tup h] at a b
  have e : PyData.eqvAll (ds.map pyOf) [] = ds.isEmpty := by cases ds <;> simp [PyData.eqvAll]
  have e2 : D.py (.tup []) = some (.tuple []) := by simp [D.py, D.pyL]
  simp [oEq, pyV, b, a, shaped_nilT, PyData.eqv, e, e2]
/-- membership of a datum in a row -/
theorem oIn_row {v w : Val} {es : List D} {d : D} (n : Bool) (hv : ∀ x, v ≠ .d (.str x) ∨ ∀ y, w ≠ .d (.str y)) (hw : seqV μ w = some es) (hd : pyV μ v = some (pyOf d)) (h1 : OkD k d) (h2 : ∀ e ∈ es, OkD k e) (hk : k < 64) :
    oIn n v w μ = .ok (.d (.bl (if n then !(es.any fun e => PyData.eqv (pyOf e) (pyOf d)) else es.any fun e => PyData.eqv (pyOf e) (pyOf d))), μ) := by
  have a := h1.shaped (by omega)
  have b := (okd_lst h2).shaped (by omega)
  have c := (okd_tup h2).shaped (by omega)
  rw [py_lst h2] at b
  rw [py_tup h2] at c
  have e := (okL h2).1
  have key : ((match seqV μ w with
    | some es => (match pyV μ v, D.pyL es with
      | some p, some ps => if SeqAt.shaped p = true ∧ SeqAt.shaped (.list ps) = true ∧ SeqAt.shaped (.tuple ps) = true then .ok (.d (.bl (if n then !(ps.any fun z => PyData.eqv z p) else ps.any fun z => PyData.eqv z p)), μ) else .bad
      | _, _ => .bad)
    | none => (match dGet μ w v with
      | some o => .ok (.d (.bl (if n then !o.isSome else o.isSome)), μ)
      | none => .bad)) : R (Val × Mu)) = .ok (.d (.bl (if n then !(es.any fun e => PyData.eqv (pyOf e) (pyOf d)) else es.any fun e => PyData.eqv (pyOf e) (pyOf d))), μ) := by
    simp [hw, hd, e, a, b, c, List.any_map, Function.comp_def]
  rw [← key]
  unfold oIn
  split
  · rename_i i j
    rcases hv i with h | h
    · exact absurd rfl h
    · exact absurd rfl (h j)
  · rfl
theorem any_strs {x : Str} {ws : List Str} : ((ws.map D.str).any fun e => PyData.eqv (pyOf e) (pyOf (.str x))) = decide (x ∈ ws) := by
  induction ws with
  | nil => rfl
  | cons w ws ih =>
    simp only [List.map_cons, List.any_cons, ih]
    simp only [pyOf, D.py, Option.getD_some, PyData.eqv]
    by_cases e : w = x
    · subst e; simp
    · have : ¬ x = w := fun h => e h.symm
      simp [e, this]
theorem any_nats {x : Nat} {ws : List Nat} : ((ws.map natD).any fun e => PyData.eqv (pyOf e) (pyOf (.int x))) = decide (x ∈ ws) := by
  induction ws with
  | nil => rfl
  | cons w ws ih =>
    simp only [List.map_cons, List.any_cons, ih]
    simp only [natD, pyOf, D.py, Option.getD_some, PyData.eqv]
    by_cases e : w = x
    · subst e; simp
    · have : ¬ x = w := fun h => e h.symm
      have h2 : ¬ (w : Int) = (x : Int) := by omega
      simp [e, this, h2]
theorem okd_strs {ws : List Str} (h : ∀ w ∈ ws, PyData.strOk w = true) : ∀ d ∈ ws.map D.str, OkD k d := by
  intro d hd
  obtain ⟨w, hw, e⟩ := List.mem_map.mp hd
  subst e
  exact okd_str (h w hw)
theorem okd_nats {ws : List Nat} : ∀ d ∈ ws.map natD, OkD k d := by
  intro d hd
  obtain ⟨w, hw, e⟩ := List.mem_map.mp hd
  subst e
  exact okd_int _
theorem oIn_strT {x : Str} {ws : List Str} (n : Bool) (hx : PyData.strOk x = true) (h : ∀ w ∈ ws, PyData.strOk w = true) : oIn n (.d (.str x)) (.d (.tup (ws.map D.str))) μ = .ok (.d (.bl (if n then !decide (x ∈ ws) else decide (x ∈ ws))), μ) := by
  rw [oIn_row (k := 0) n (fun _ => .inr fun _ e => by cases e) rfl rfl (okd_str hx) (okd_strs h) (by omega), any_strs]
theorem oIn_strL {x : Str} {ws : List Str} (n : Bool) (hx : PyData.strOk x = true) (h : ∀ w ∈ ws, PyData.strOk w = true) : oIn n (.d (.str x)) (.d (.lst (ws.map D.str))) μ = .ok (.d (.bl (if n then !decide (x ∈ ws) else decide (x ∈ ws))), μ) := by
  rw [oIn_row (k := 0) n (fun _ => .inr fun _ e => by cases e) rfl rfl (okd_str hx) (okd_strs h) (by omega), any_strs]
theorem oIn_natL {x : Nat} {ws : List Nat} (n : Bool) : oIn n (.d (.int x)) (.d (.lst (ws.map natD))) μ = .ok (.d (.bl (if n then !decide (x ∈ ws) else decide (x ∈ ws))), μ) := by
  rw [oIn_row (k := 0) (d := .int x) n (fun _ => .inr fun _ e => by cases e) rfl rfl (okd_int _) okd_nats (by omega), any_nats]
end
theorem strOk_act (b : Bool) : PyData.strOk (actW b) = true := by cases b <;> decide +kernel
@[simp] theorem tb_ty (a b : String) : tbB (.ty a) (.ty b) = kitB a b := (rfl)
@[simp] theorem kind_tup (ds : List D) : kindD (.tup ds) = some (.ty "tuple") := (rfl)
@[simp] theorem kind_lst (ds : List D) : kindD (.lst ds) = some (.ty "list") := (rfl)
@[simp] theorem kind_str (x : Str) : kindD (.str x) = some (.ty "str") := (rfl)
@[simp] theorem kind_int (x : Int) : kindD (.int x) = some (.ty "int") := (rfl)
@[simp] theorem any_nil (tb : KTb) (k : Kd) : isAny tb k [] = some false := (rfl)
@[simp] theorem any_cons (tb : KTb) (k c : Kd) (cs : List Kd) : isAny tb k (c :: cs) = (match tb k c with
    | some true => some true
    | some false => isAny tb k cs
    | none => none) := rfl
@[simp] theorem dsOf_nil : dsOf [] = some [] := (rfl)
@[simp] theorem dsOf_c (x : D) (r : List Val) : dsOf (.d x :: r) = (dsOf r).map (x :: ·) := (rfl)
structure Draw where
  gs : List Int
  ls : List Int
  d : Int
  t : Int
def ivals (l : List Int) : List Val := l.map fun i => .d (.int i)
def drw (w : Draw) : Mu := [.lst (ivals w.gs), .lst (ivals w.ls), .dK [.inr "digits", .inr "great", .inr "lumps", .inr "turn"] [.d (.int w.d), .own 0, .own 1, .d (.int w.t)]]
structure DrOk (n : Nat) (w : Draw) : Prop where
  gs : w.gs.length ≤ 63
  t0 : 0 ≤ w.t
  tn : w.t ≤ n
theorem DrOk.mono {n n' : Nat} {w : Draw} (h : DrOk n w) (hn : n ≤ n') : DrOk n' w := ⟨h.gs, h.t0, by have := h.tn; omega⟩
@[simp] theorem drw_len (w : Draw) : (drw w).length = 3 := (rfl)
theorem n1 : ¬ ("digits" : Str) = "great" := by decide +kernel
theorem k1 : ((.inr "digits" : Key) = .inr "great") = False := by simp [n1]
theorem n2 : ¬ ("digits" : Str) = "lumps" := by decide +kernel
theorem k2 : ((.inr "digits" : Key) = .inr "lumps") = False := by simp [n2]
theorem n3 : ¬ ("digits" : Str) = "turn" := by decide +kernel
theorem k3 : ((.inr "digits" : Key) = .inr "turn") = False := by simp [n3]
theorem n4 : ¬ ("great" : Str) = "lumps" := by decide +kernel
theorem k4 : ((.inr "great" : Key) = .inr "lumps") = False := by simp [n4]
theorem n5 : ¬ ("great" : Str) = "turn" := by decide +kernel
theorem k5 : ((.inr "great" : Key) = .inr "turn") = False := by simp [n5]
theorem n6 : ¬ ("lumps" : Str) = "turn" := by decide +kernel
theorem k6 : ((.inr "lumps" : Key) = .inr "turn") = False := by simp [n6]
theorem dsOf_ivals (l : List Int) : dsOf (ivals l) = some (l.map D.int) := dsOf_mapf
section
variable {w : Draw} {r : Mu}
theorem dr_get0 : (drw w ++ r)[0]? = some (.lst (ivals w.gs)) := rfl
theorem dr_get1 : (drw w ++ r)[1]? = some (.lst (ivals w.ls)) := rfl
theorem dr_get2 : (drw w ++ r)[2]? = some (.dK [.inr "digits", .inr "great", .inr "lumps", .inr "turn"] [.d (.int w.d), .own 0, .own 1, .d (.int w.t)]) := rfl
@[simp] theorem dr_nm0 : nmR (drw w ++ r) (some (some (.own 0))) = .ok (.own 0, drw w ++ r) := by simp [nm_own, dr_get0]
@[simp] theorem dr_nm2 : nmR (drw w ++ r) (some (some (.own 2))) = .ok (.own 2, drw w ++ r) := by rw [nm_own, dr_get2]
@[simp] theorem dr_digits : oIx (.own 2) (.d (.str "digits")) (drw w ++ r) = .ok (.d (.int w.d), drw w ++ r) := by
  simp only [oIx, seqV, lstV, dGet, dKV, dr_get2, keyV, keyD, Option.map, getK, if_true]
@[simp] theorem dr_great : oIx (.own 2) (.d (.str "great")) (drw w ++ r) = .ok (.own 0, drw w ++ r) := by
  simp only [oIx, seqV, lstV, dGet, dKV, dr_get2, keyV, keyD, Option.map, getK, if_true, k1, if_false]
@[simp] theorem dr_lumps : oIx (.own 2) (.d (.str "lumps")) (drw w ++ r) = .ok (.own 1, drw w ++ r) := by
  simp only [oIx, seqV, lstV, dGet, dKV, dr_get2, keyV, keyD, Option.map, getK, if_true, k2, k4, if_false]
@[simp] theorem dr_turn : oIx (.own 2) (.d (.str "turn")) (drw w ++ r) = .ok (.d (.int w.t), drw w ++ r) := by
  simp only [oIx, seqV, lstV, dGet, dKV, dr_get2, keyV, keyD, Option.map, getK, if_true, k3, k5, k6, if_false]
@[simp] theorem dr_gTurn : dGet (drw w ++ r) (.own 2) (.d (.str "turn")) = some (some (.d (.int w.t))) := by
  simp only [dGet, dKV, dr_get2, keyV, keyD, Option.map, getK, if_true, k3, k5, k6, if_false]
theorem okd_ints {k : Nat} {l : List Int} : ∀ d ∈ l.map D.int, OkD k d := by
  intro d hd
  obtain ⟨w, hw, e⟩ := List.mem_map.mp hd
  subst e
  exact okd_int _
theorem lstV_0 : lstV (drw w ++ r) (.own 0) = some (w.gs.map D.int) := by simp only [lstV, dr_get0, dsOf_ivals]
theorem lstV_1 : lstV (drw w ++ r) (.own 1) = some (w.ls.map D.int) := by simp only [lstV, dr_get1, dsOf_ivals]
theorem oEq_own {μ : Mu} {k j : Nat} {ds : List D} (n : Bool) (e : lstV μ (.own j) = some ds) (h : ∀ d ∈ ds, OkD k d) (hk : k < 64) : oEq n (.own j) (.d (.lst [])) μ = .ok (.d (.bl (if n then !ds.isEmpty else ds.isEmpty)), μ) := by
  have e2 := (okd_lst h).py
  have a := oEq_nilL (μ := μ) n h hk
  rw [← a]
  unfold oEq
  have : pyV μ (.own j) = pyV μ (.d (.lst ds)) := by
    simp [pyV, e, D.py, (okL h).1]
  rw [this]
@[simp] theorem dr_ne0 (n : Bool) : oEq n (.own 0) (.d (.lst [])) (drw w ++ r) = .ok (.d (.bl (if n then !w.gs.isEmpty else w.gs.isEmpty)), drw w ++ r) := by
  rw [oEq_own (k := 0) n lstV_0 okd_ints (by omega)]
  simp
@[simp] theorem dr_ne1 (n : Bool) : oEq n (.own 1) (.d (.lst [])) (drw w ++ r) = .ok (.d (.bl (if n then !w.ls.isEmpty else w.ls.isEmpty)), drw w ++ r) := by
  rw [oEq_own (k := 0) n lstV_1 okd_ints (by omega)]
  simp
@[simp] theorem dr_put (n0 : Nat) (x : Int) : putD n0 (drw w ++ r) (.own 2) (.d (.str "digits")) (.d (.int x)) = some (drw { w with d := x } ++ r) := by
  simp [putD, dr_get2, keyV, keyD, okW, putKs, repK, k1, k2, k3]
  simp [drw, n1, n2, n3, n5, n6, Ne.symm n1, Ne.symm n2, Ne.symm n3]
@[simp] theorem dr_putT (n0 : Nat) (x : Int) : putD n0 (drw w ++ r) (.own 2) (.d (.str "turn")) (.d (.int x)) = some (drw { w with t := x } ++ r) := by
  simp [putD, dr_get2, keyV, keyD, okW, putKs, repK, k1, k2, k3]
  simp [drw, n1, n2, n3, n5, n6, Ne.symm n1, Ne.symm n2, Ne.symm n3]
@[simp] theorem dr_ty0 : tyB "list" (drw w ++ r) (.own 0) = true := by simp [tyB, dr_get0]
theorem dr_pop (n0 : Nat) {g : Int} {gs : List Int} (h : w.gs = g :: gs) : oPopAt n0 (.own 0) [.d (.int 0)] (drw w ++ r) = .ok (.d (.int g), drw { w with gs := gs } ++ r) := by
  have e : seqIndex? 0 (ivals (g :: gs)).length = some 0 := by simp [seqIndex?, ivals]
  simp [oPopAt, dr_get0, h, e]
  simp [ivals, drw]
@[simp] theorem dr_len1 : lenV (drw w ++ r) (.own 1) = some w.ls.length := by simp [lenV, dr_get1, ivals]
end
section
variable {μ : Mu}
@[simp] theorem oInt1_i (i : Int) : oInt1 [.d (.int i)] μ = .ok (.d (.int i), μ) := (rfl)
@[simp] theorem oInt1_b (b : Bool) : oInt1 [.d (.bl b)] μ = .ok (.d (.int (if b then 1 else 0)), μ) := (rfl)
theorem oMod_i (i : Int) {j : Int} (h : 0 < j) : oMod (.d (.int i)) (.d (.int j)) μ = .ok (.d (.int (i % j)), μ) := by simp [oMod, oInt, h]
theorem oFdiv_i (i : Int) {j : Int} (h : 0 < j) (h2 : j < 2 ^ 64) : oFdiv (.d (.int i)) (.d (.int j)) μ = .ok (.d (.int (i / j)), μ) := by
  unfold oFdiv oInt
  simp only [decide_eq_true_eq]
  rw [if_pos ⟨h, h2⟩]
theorem oPow_i {i : Int} {j : Int} (h : 0 ≤ j ∧ j ≤ 1000000) (h2 : i.natAbs < 2 ^ 64) : oPow (.d (.int i)) (.d (.int j)) μ = .ok (.d (.int (i ^ j.toNat)), μ) := by
  unfold oPow oInt
  simp only [decide_eq_true_eq]
  rw [if_pos ⟨h.1, h.2, h2⟩]
theorem oMul_i {i j : Int} (h : -(2 ^ 64) < i ∧ i < 2 ^ 64) : oMul (.d (.int i)) (.d (.int j)) μ = .ok (.d (.int (i * j)), μ) := by
  unfold oMul
  simp only
  rw [if_pos (.inl h)]
end

@[simp] theorem drw_take (w : Draw) (r : Mu) : List.take (3 + r.length) (drw w ++ r) = drw w ++ r := List.take_of_length_le (by simp)
theorem dr_lump {w : Draw} {r : Mu} {i : Int} (h0 : 0 ≤ i) (h : i < w.ls.length) : ∃ z, oIx (.own 1) (.d (.int i)) (drw w ++ r) = .ok (.d (.int z), drw w ++ r) := by
  have hi : i.toNat < w.ls.length := by omega
  refine ⟨w.ls[i.toNat], ?_⟩
  have e : atI (w.ls.map D.int) i = some (.int w.ls[i.toNat]) := by
    simp [atI, ixN, h0, h]
  simp [oIx, seqV, lstV_1, e]
theorem atI_ok {α : Type} {l : List α} {z : Int} (h0 : 0 ≤ z) (h : z < l.length) : ∃ x ∈ l, atI l z = some x := by
  have hz : z.toNat < l.length := by omega
  exact ⟨l[z.toNat], List.getElem_mem hz, by simp [atI, ixN, h0, h]⟩
section
variable {w : Draw} {r q : Mu} {c c' : Cell}
theorem up_get : (drw w ++ (r ++ c :: q))[3 + r.length]? = some c := by
  rw [List.getElem?_append_right (by simp), drw_len, Nat.add_sub_cancel_left, List.getElem?_append_right (Nat.le_refl _), Nat.sub_self]
  rfl
theorem up_set : (drw w ++ (r ++ c :: q)).set (3 + r.length) c' = drw w ++ (r ++ c' :: q) := by
  rw [List.set_append_right _ _ (by simp), drw_len, Nat.add_sub_cancel_left, List.set_append_right _ _ (Nat.le_refl _), Nat.sub_self]
  rfl
theorem up_get1 {d : Cell} : (drw w ++ (r ++ d :: c :: q))[3 + r.length + 1]? = some c := by
  rw [List.getElem?_append_right (by simp; omega), drw_len, List.getElem?_append_right (by omega), show 3 + r.length + 1 - 3 - r.length = 1 by omega]
  rfl
theorem up_set1 {d : Cell} : (drw w ++ (r ++ d :: c :: q)).set (3 + r.length + 1) c' = drw w ++ (r ++ d :: c' :: q) := by
  rw [List.set_append_right _ _ (by simp; omega), drw_len, List.set_append_right _ _ (by omega), show 3 + r.length + 1 - 3 - r.length = 1 by omega]
  rfl
@[simp] theorem up_take : List.take (3 + r.length) (drw w ++ (r ++ q)) = drw w ++ r := by
  rw [← List.append_assoc]
  exact List.take_left' (by simp)
@[simp] theorem up_nm {vs : List Val} : nmR (drw w ++ (r ++ .lst vs :: q)) (some (some (.own (3 + r.length)))) = .ok (.own (3 + r.length), drw w ++ (r ++ .lst vs :: q)) := by
  rw [nm_own, up_get]
@[simp] theorem up_nm1 {vs : List Val} {d : Cell} : nmR (drw w ++ (r ++ d :: .lst vs :: q)) (some (some (.own (3 + r.length + 1)))) = .ok (.own (3 + r.length + 1), drw w ++ (r ++ d :: .lst vs :: q)) := by
  rw [nm_own, up_get1]
theorem up_lst {ds : List D} : lstV (drw w ++ (r ++ .lst (ds.map Val.d) :: q)) (.own (3 + r.length)) = some ds := by
  simp only [lstV, up_get, dsOf_mapd]
theorem up_lst1 {ds : List D} {d : Cell} : lstV (drw w ++ (r ++ d :: .lst (ds.map Val.d) :: q)) (.own (3 + r.length + 1)) = some ds := by
  simp only [lstV, up_get1, dsOf_mapd]
@[simp] theorem up_len {vs : List Val} : lenV (drw w ++ (r ++ .lst vs :: q)) (.own (3 + r.length)) = some vs.length := by simp only [lenV, up_get]
@[simp] theorem up_ty {vs : List Val} : tyB "list" (drw w ++ (r ++ .lst vs :: q)) (.own (3 + r.length)) = true := by
  simp only [tyB, up_get]
  decide
@[simp] theorem up_ty1 {vs : List Val} {d : Cell} : tyB "list" (drw w ++ (r ++ d :: .lst vs :: q)) (.own (3 + r.length + 1)) = true := by
  simp only [tyB, up_get1]
  decide
theorem up_app {n0 : Nat} {vs : List Val} {x : D} (h : vs.length < 1000000) : oAppend n0 (.own (3 + r.length)) [.d x] (drw w ++ (r ++ .lst vs :: q)) = .ok (.d .non, drw w ++ (r ++ .lst (vs ++ [.d x]) :: q)) := by
  simp only [oAppend, up_get, okW]
  rw [if_pos ⟨trivial, h⟩, up_set]
theorem up_app1 {n0 : Nat} {vs : List Val} {x : D} {d : Cell} (h : vs.length < 1000000) : oAppend n0 (.own (3 + r.length + 1)) [.d x] (drw w ++ (r ++ d :: .lst vs :: q)) = .ok (.d .non, drw w ++ (r ++ d :: .lst (vs ++ [.d x]) :: q)) := by
  simp only [oAppend, up_get1, okW]
  rw [if_pos ⟨trivial, h⟩, up_set1]
end
theorem mapM_d {f n0 : Nat} {μ : Mu} : ∀ ds : List D, (ds.map Val.d).mapM (treeV (f + 1) n0 μ) = some ds
  | [] => rfl
  | d :: ds => by
    have ih := mapM_d (f := f) (n0 := n0) (μ := μ) ds
    simp [List.mapM_cons, treeV, ih]
theorem close_lst {n0 k : Nat} {μ : Mu} {ds : List D} (h : ¬ k < n0) (e : μ[k]? = some (.lst (ds.map Val.d))) : closeV n0 μ (.own k) = some (.d (.lst ds)) := by
  simp only [closeV, if_neg h]
  have : treeV 40 n0 μ (.own k) = some (.lst ds) := by
    rw [show (40 : Nat) = 38 + 1 + 1 from rfl, treeV, if_neg h]
    simp only [e, mapM_d, Option.map]
  rw [this]
  rfl
theorem pop_ok {n0 k : Nat} {μ : Mu} {vs : List Val} {z : Int} (e : μ[k]? = some (.lst vs)) (h0 : 0 ≤ z) (h : z < vs.length) (hl : vs.length < 1000000) :
    ∃ v, vs[z.toNat]? = some v ∧ oPopAt n0 (.own k) [.d (.int z)] μ = .ok (v, μ.set k (.lst (vs.eraseIdx z.toNat))) := by
  have hz : z.toNat < vs.length := by omega
  have e2 : seqIndex? z vs.length = some z.toNat := by
    unfold seqIndex?
    have h0' : ¬ z < 0 := by omega
    simp [h0, h, h0']
  refine ⟨vs[z.toNat], List.getElem?_eq_getElem hz, ?_⟩
  simp only [oPopAt, e, e2, List.getElem?_eq_getElem hz]
  rw [if_pos ⟨by omega, by omega⟩]
@[simp] theorem oLen_own {k : Nat} {μ : Mu} : oLen [.own k] μ = (match lenV μ (.own k) with
    | some n => .ok (.d (.int (n : Int)), μ)
    | none => .bad) := rfl
theorem erase_map {α β : Type} (f : α → β) : ∀ (l : List α) (i : Nat), (l.map f).eraseIdx i = (l.eraseIdx i).map f
  | [], _ => by simp
  | a :: l, 0 => rfl
  | a :: l, i + 1 => by simp [erase_map f l i]
theorem erase_perm {α : Type} : ∀ (l : List α) (i : Nat) (h : i < l.length), (l[i] :: l.eraseIdx i).Perm l
  | [], _, h => by simp at h
  | a :: l, 0, _ => List.Perm.refl _
  | a :: l, i + 1, h => by
    have ih := erase_perm l i (by simpa using h)
    simp only [List.eraseIdx_cons_succ, List.getElem_cons_succ]
    exact (List.Perm.swap a _ _).trans (List.Perm.cons a ih)
def chr1 (c : Nat) : Str := ⟨#[c]⟩
theorem nodup_len {α : Type} [BEq α] [LawfulBEq α] : ∀ {l m : List α}, l.Nodup → (∀ x ∈ l, x ∈ m) → l.length ≤ m.length
  | [], _, _, _ => Nat.zero_le _
  | a :: l, m, h, s => by
    have ha := s a (List.mem_cons_self ..)
    have hn := List.nodup_cons.mp h
    have ih := nodup_len (m := m.erase a) hn.2 fun x hx => by
      have : x ≠ a := fun e => hn.1 (e ▸ hx)
      exact (List.mem_erase_of_ne this).mpr (s x (List.mem_cons_of_mem _ hx))
    rw [List.length_erase_of_mem ha] at ih
    have : 0 < m.length := List.length_pos_of_mem ha
    simp
    omega
theorem empty_cps : ("" : Str).cps.toList = [] := by decide +kernel
theorem str_app_cps (a b : Str) : (a ++ b).cps.toList = a.cps.toList ++ b.cps.toList := by
  show (a.cps ++ b.cps).toList = _
  simp
theorem sjoin_chr : ∀ cs : List Nat, (Str.join "" (cs.map chr1)).cps.toList = cs
  | [] => by simp only [List.map_nil, Str.join]; rfl
  | [c] => rfl
  | c :: d :: cs => by
    have ih := sjoin_chr (d :: cs)
    simp only [List.map_cons, Str.join] at ih ⊢
    rw [str_app_cps, str_app_cps, ih, empty_cps]
    rfl
theorem join_chr (cs : List Nat) : (Txt.join "" (cs.map chr1)).cps.toList = cs := by
  have e : Txt.join "" (cs.map chr1) = Str.join "" (cs.map chr1) := StrLaws.glued_eq_join _ _
  rw [e]
  exact sjoin_chr cs
theorem chg_of {x : Str} {cs : List Nat} (e : x.cps.toList = cs) (h0 : 1 ≤ cs.length) (h1 : cs.length ≤ 6) (h : ∀ c ∈ cs, LetC c) : Chg x := by
  have hl : x.length = cs.length := by rw [← e]; simp [Str.length]
  exact ⟨by omega, by omega, by rw [e]; exact h⟩
theorem join_chg {cs : List Nat} (h0 : 1 ≤ cs.length) (h1 : cs.length ≤ 6) (h : ∀ c ∈ cs, LetC c) : Chg (Txt.join "" (cs.map chr1)) := chg_of (join_chr cs) h0 h1 h
def cut5 (x : Str) : Str := cutS x none (some 5)
theorem cut5_cps (x : Str) : (cut5 x).cps.toList = x.cps.toList.take 5 := by
  have e : HT.sIx x.length x.length (some (5 : Int)) = min 5 x.length := HT.sIx_nat x.length x.length 5
  have e0 : HT.sIx x.length 0 none = 0 := rfl
  simp only [cut5, cutS, e, e0, List.drop_zero, Nat.sub_zero]
  have : x.length = x.cps.toList.length := by simp [Str.length]
  rw [this, ← List.take_eq_take_min]
def tryW (x : Str) (c : Nat) : Str := cut5 x ++ chr1 c
theorem try_cps (x : Str) (c : Nat) : (tryW x c).cps.toList = x.cps.toList.take 5 ++ [c] := by
  unfold tryW
  rw [str_app_cps, cut5_cps]
  rfl
theorem try_chg {x : Str} (h : Chg x) {c : Nat} (hc : LetC c) : Chg (tryW x c) := by
  obtain ⟨h1, h2, h3⟩ := h
  refine chg_of (try_cps x c) (by simp) (by simp; omega) fun d hd => ?_
  rcases List.mem_append.mp hd with hd | hd
  · exact h3 d (List.mem_of_mem_take hd)
  · simp at hd
    exact hd ▸ hc
def letters : List Nat := List.range' 97 26
theorem letters_cps : ("abcdefghijklmnopqrstuvwxyz" : Str).cps.toList = letters := by decide +kernel
theorem letC {c : Nat} (h : c ∈ letters) : LetC c := by
  unfold letters at h
  rw [List.mem_range'_1] at h
  exact ⟨h.1, by omega⟩
theorem str_ext {a b : Str} (h : a.cps.toList = b.cps.toList) : a = b := by
  cases a
  cases b
  simp only [Str.mk.injEq]
  exact Array.toList_inj.mp h
theorem map_nodup {α β : Type} {f : α → β} (hf : ∀ x y, f x = f y → x = y) : ∀ {l : List α}, l.Nodup → (l.map f).Nodup
  | [], _ => by simp
  | a :: l, h => by
    have hn := List.nodup_cons.mp h
    refine List.nodup_cons.mpr ⟨fun hm => ?_, map_nodup hf hn.2⟩
    obtain ⟨b, hb, e⟩ := List.mem_map.mp hm
    exact hn.1 (hf _ _ e ▸ hb)
theorem tries_nodup (x : Str) : (letters.map (tryW x)).Nodup := map_nodup (fun c d e => by
  have := congrArg (fun s : Str => s.cps.toList) e
  simp only [try_cps] at this
  simpa using this) (by decide +kernel)
theorem tries_free {x : Str} {found : List Str} (h : found.length < 26) : ((x :: letters.map (tryW x)).filter fun l => !decide (l ∈ found)) ≠ [] := by
  intro e
  have hs : ∀ y ∈ letters.map (tryW x), y ∈ found := fun y hy => by
    have := List.filter_eq_nil_iff.mp e y (List.mem_cons_of_mem _ hy)
    simpa using this
  have := nodup_len (tries_nodup x) hs
  simp [letters] at this
  omega

theorem rngD_mem {k : Nat} {d : D} (h : d ∈ rngD 0 k) : ∃ i : Nat, i < k ∧ d = .int i := by
  obtain ⟨i, hi, e⟩ := List.mem_map.mp h
  exact ⟨i, List.mem_range.mp hi, by rw [← e]; simp⟩
@[simp] theorem rngD_len (k : Nat) : (rngD 0 k).length = k := by simp [rngD]
def ownW : List Str := ["a", "b", "ab", "fix", "none", "apply", "passes", "lie", "cost", "zzzzzz"]
theorem ownW_chg : ∀ x ∈ ownW, Chg x := by
  intro x hx
  have : ∀ x ∈ ownW, (1 ≤ x.length ∧ x.length ≤ 6 ∧ ∀ c ∈ x.cps.toList, 97 ≤ c ∧ c < 123) := by decide +kernel
  exact this x hx

def strsV (ws : List Str) : List Val := ws.map fun x => .d (.str x)
theorem strsV_eq (ws : List Str) : strsV ws = (ws.map D.str).map Val.d := by simp [strsV]
abbrev letS : Str := "abcdefghijklmnopqrstuvwxyz"
theorem signs_let : signsD letS = letters.map fun c => .str (chr1 c) := by
  unfold signsD
  rw [letters_cps]
  rfl
theorem oIn_strO {μ : Mu} {x : Str} {j : Nat} {ws : List Str} (n : Bool) (e : lstV μ (.own j) = some (ws.map D.str)) (hx : PyData.strOk x = true) (h : ∀ w ∈ ws, PyData.strOk w = true) : oIn n (.d (.str x)) (.own j) μ = .ok (.d (.bl (if n then !decide (x ∈ ws) else decide (x ∈ ws))), μ) := by
  rw [oIn_row (k := 0) n (fun _ => .inr fun _ e => by cases e) (show seqV μ (.own j) = some (ws.map D.str) from e) rfl (okd_str hx) (okd_strs h) (by omega), any_strs]
end Zl
set_option Elab.async false
set_option linter.all false
set_option maxRecDepth 100000
set_option maxHeartbeats 4000000
namespace Zl
open PySem PySem.Spec L2
open PyProof.Rows hiding St
/-! # the draw -/
theorem oFdiv_k {μ : Mu} (i : Int) {j : Int} (h : 0 < j) (h2 : j < 18446744073709551616) : oFdiv (.d (.int i)) (.d (.int j)) μ = .ok (.d (.int (i / j)), μ) := oFdiv_i i h h2
theorem oPow_3 {μ : Mu} {i : Int} (h2 : i.natAbs < 18446744073709551616) : oPow (.d (.int i)) (.d (.int 3)) μ = .ok (.d (.int (i ^ 3)), μ) := oPow_i (j := 3) (by omega) h2
theorem oPow_5 {μ : Mu} {i : Int} (h2 : i.natAbs < 18446744073709551616) : oPow (.d (.int i)) (.d (.int 5)) μ = .ok (.d (.int (i ^ 5)), μ) := oPow_i (j := 5) (by omega) h2
theorem mix_lt (y : Int) {k t : Int} (hk : k = 2147483629 ∨ k = 2147483647) {c : Int} (hc : c = 40009 ∨ c = 104729) (t0 : 0 ≤ t) (t1 : t ≤ 1000000) : (y % k + c * t).natAbs < 18446744073709551616 := by
  rcases hk with rfl | rfl <;> rcases hc with rfl | rfl <;> omega
theorem mix_lt0 {t : Int} (t0 : 0 ≤ t) (t1 : t ≤ 1000000) : (40009 * t).natAbs < 18446744073709551616 := by omega
theorem next_wp {n : Nat} {w : Draw} (h : DrOk n w) (hn : n < 1000000) {m : Int} (m0 : 0 < m) (m1 : m < 1000000) (r : Mu) {K : KE}
    (hk : ∀ z w', 0 ≤ z → z < m → DrOk (n + 1) w' → K (.d (.int z)) (drw w' ++ r)) : Wp (F_law_next [.own 2, .d (.int m)] (drw w ++ r)) K := by
  have ht0 : 0 ≤ w.t := h.t0
  have htn : w.t ≤ n := h.tn
  unfold F_law_next
  rw [w_Body]
  simp [S_law_next, startR]
  refine wp_wh2 (fun g ρ μ => ∃ w1 : Draw, ρ = ⟨3 + r.length, [some (.own 2), some (.d (.int m)), none, none, none, none]⟩ ∧ μ = drw w1 ++ r ∧ w1.gs.length = g ∧ g ≤ 63 ∧ w1.t = w.t)
    (fun ρ μ => ∃ w1 : Draw, ρ = ⟨3 + r.length, [some (.own 2), some (.d (.int m)), none, none, none, none]⟩ ∧ μ = drw w1 ++ r ∧ w1.gs.length ≤ 63 ∧ w1.t = w.t) w.gs.length (by have := h.gs; omega) ⟨w, rfl, rfl, rfl, h.gs, rfl⟩ ?_ ?_
  · rintro g ρ μ ⟨w1, rfl, rfl, hg, hg2, ht⟩
    by_cases hd : w1.d = 0
    · cases hgs : w1.gs with
      | nil =>
        simp [t_law_next_1, b_law_next_2, hd, hgs]
        exact ⟨w1, rfl, by simp [hgs], ht⟩
      | cons x gs =>
        simp [t_law_next_1, b_law_next_2, hd, hgs, dr_pop _ hgs]
        exact ⟨gs.length, by rw [← hg, hgs]; simp, _, rfl, rfl, by rw [hgs] at hg; simp at hg; omega, ht⟩
    · simp [t_law_next_1, hd]
      exact ⟨w1, rfl, by omega, ht⟩
  · rintro ρ μ ⟨w1, rfl, rfl, hg, ht⟩
    by_cases hd : 0 < w1.d
    · simp [i_law_next_3, hd, oMod_i, oFdiv_k, m0, show m < 18446744073709551616 by omega]
      exact hk _ _ (Int.emod_nonneg _ (by omega)) (Int.emod_lt_of_pos _ m0) ⟨hg, by simp [ht]; omega, by simp [ht]; omega⟩
    · have t0 : 0 ≤ w1.t + 1 := by omega
      have t1 : w1.t + 1 ≤ 1000000 := by omega
      have fin : ∀ z : Int, K (.d (.int (z % m))) (drw { w1 with t := w1.t + 1 } ++ r) := fun z => hk _ _ (Int.emod_nonneg _ (by omega)) (Int.emod_lt_of_pos _ m0) ⟨hg, by simp [ht]; omega, by simp [ht]; omega⟩
      have b1 : ∀ z : Int, ((z % 2147483629 + 40009 * (w1.t + 1)) : Int).natAbs < 18446744073709551616 := fun z => mix_lt z (.inl rfl) (.inl rfl) t0 t1
      have b2 : ∀ y : Int, ((y % 2147483647 + 104729 * (w1.t + 1)) : Int).natAbs < 18446744073709551616 := fun z => mix_lt z (.inr rfl) (.inr rfl) t0 t1
      have b3 := mix_lt0 t0 t1
      by_cases hl : w1.ls.isEmpty = true
      · simp [i_law_next_3, hd, i_law_next_4, hl, oMod_i, oMul_i, oFdiv_k, oPow_3, oPow_5, m0, b1, b2, b3]
        exact fin _
      · have hl' : w1.ls.isEmpty = false := by simpa using hl
        have hp : (0 : Int) < w1.ls.length := by
          cases hh : w1.ls with
          | nil => simp [hh] at hl'
          | cons a b => simp
        obtain ⟨z, e2⟩ := dr_lump (w := { w1 with t := w1.t + 1 }) (r := r) (Int.emod_nonneg (w1.t + 1) (by omega : (w1.ls.length : Int) ≠ 0)) (Int.emod_lt_of_pos (w1.t + 1) hp)
        have q1 := oMod_i (μ := drw { w1 with t := w1.t + 1 } ++ r) (w1.t + 1) hp
        simp [i_law_next_3, hd, i_law_next_4, hl', q1, oMod_i, oMul_i, oFdiv_k, oPow_3, oPow_5, m0, b1, b2, oLen, e2]
        exact fin _

theorem pick_wp {n : Nat} {w : Draw} (h : DrOk n w) (hn : n < 1000000) {ds : List D} (hd : ds ≠ []) (hl : ds.length < 1000000) (r : Mu) {K : KE}
    (hk : ∀ x w', x ∈ ds → DrOk (n + 1) w' → K (.d x) (drw w' ++ r)) : Wp (F_law_pick [.own 2, .d (.lst ds)] (drw w ++ r)) K := by
  have hp : 0 < ds.length := List.length_pos_iff.mpr hd
  unfold F_law_pick
  rw [w_Body]
  simp [S_law_pick, startR]
  refine next_wp h hn (by omega) (by omega) r fun z w' h0 h1 ok => ?_
  obtain ⟨x, hx, ex⟩ := atI_ok h0 h1
  simp [oIx_lst ex]
  exact hk x w' hx ok
theorem pick_wpS {n : Nat} {w : Draw} (h : DrOk n w) (hn : n < 1000000) {s : Str} (hd : 0 < s.length) (hl : s.length < 1000000) (r : Mu) {K : KE}
    (hk : ∀ c w', c ∈ s.cps.toList → DrOk (n + 1) w' → K (.d (.str ⟨#[c]⟩)) (drw w' ++ r)) : Wp (F_law_pick [.own 2, .d (.str s)] (drw w ++ r)) K := by
  have hs : s.length ≤ sizeLine := by unfold sizeLine; omega
  have hsz : s.length = s.cps.toList.length := by simp [Str.length]
  unfold F_law_pick
  rw [w_Body]
  simp [S_law_pick, startR, lenD, hs]
  refine next_wp h hn (by omega) (by omega) r fun z w' h0 h1 ok => ?_
  rw [hsz] at h1
  obtain ⟨x, hx, ex⟩ := atI_ok h0 h1
  simp [oIx, hs, ex]
  exact hk x w' hx ok
end Zl
set_option Elab.async false
set_option linter.all false
set_option maxRecDepth 100000
set_option maxHeartbeats 4000000
namespace Zl
open PySem PySem.Spec L2
open PyProof.Rows hiding St
/-! # own cells, whatever stands below them -/
@[simp] theorem vD_len (ds : List D) : (vD ds).length = ds.length := by simp [vD]
@[simp] theorem vD_snoc (ds : List D) (x : D) : vD ds ++ [.d x] = vD (ds ++ [x]) := by simp [vD]
theorem vD_nil : ([] : List Val) = vD [] := rfl
@[simp] theorem vD_ds (ds : List D) : dsOf (vD ds) = some ds := dsOf_mapd
@[simp] theorem dsOf_mapD (ds : List D) : dsOf (ds.map Val.d) = some ds := dsOf_mapd
@[simp] theorem vD_all (ds : List D) (n0 k : Nat) : (vD ds).all (okW n0 k) = true := by
  rw [List.all_eq_true]
  intro v hv
  obtain ⟨d, _, rfl⟩ := List.mem_map.mp hv
  rfl
section
variable {l r : Mu} {n : Nat} {c : Cell}
@[simp] theorem gR (h : l.length ≤ n) : (l ++ r)[n]? = r[n - l.length]? := List.getElem?_append_right h
@[simp] theorem gL (h : n < l.length) : (l ++ r)[n]? = l[n]? := List.getElem?_append_left h
@[simp] theorem sR (h : l.length ≤ n) : (l ++ r).set n c = l ++ r.set (n - l.length) c := List.set_append_right _ _ h
@[simp] theorem tLe : (l ++ r).take l.length = l := List.take_left' rfl
@[simp high] theorem dr_c0 {w : Draw} : (drw w)[0]? = some (.lst (ivals w.gs)) := (rfl)
@[simp high] theorem dr_c1 {w : Draw} : (drw w)[1]? = some (.lst (ivals w.ls)) := (rfl)
@[simp high] theorem dr_c2 {w : Draw} : (drw w)[2]? = some (.dK [.inr "digits", .inr "great", .inr "lumps", .inr "turn"] [.d (.int w.d), .own 0, .own 1, .d (.int w.t)]) := (rfl)
@[simp] theorem tDr {w : Draw} : (drw w ++ r).take 3 = drw w := List.take_left' rfl
end
section
variable {μ : Mu} {k n0 : Nat}
@[simp] theorem nm_ownS : nmR μ (some (some (.own k))) = (match μ[k]? with
    | some (.fz x) => .ok (.d x, μ)
    | some .gone => .bad
    | some _ => .ok (.own k, μ)
    | none => .bad) := nm_own
@[simp] theorem lstV_own : lstV μ (.own k) = (match μ[k]? with
    | some (.lst vs) => dsOf vs
    | _ => none) := (rfl)
@[simp] theorem lstV_d {x : D} : lstV μ (.d x) = (match x with
    | .lst ds => some ds
    | _ => none) := by cases x <;> rfl
@[simp] theorem seqV_own : seqV μ (.own k) = lstV μ (.own k) := (rfl)
@[simp] theorem seqV_tup {ds : List D} : seqV μ (.d (.tup ds)) = some ds := (rfl)
@[simp] theorem seqV_lst {ds : List D} : seqV μ (.d (.lst ds)) = some ds := (rfl)
@[simp] theorem rowV_own : rowV μ (.own k) = lstV μ (.own k) := (rfl)
@[simp] theorem rowV_lst {ds : List D} : rowV μ (.d (.lst ds)) = some ds := (rfl)
@[simp] theorem rowV_tup {ds : List D} : rowV μ (.d (.tup ds)) = some ds := (rfl)
@[simp] theorem rowV_scr {ns : List Int} : rowV μ (.d (.scr ns)) = some (ns.map D.int) := (rfl)
@[simp] theorem dKV_own : dKV μ (.own k) = (match μ[k]? with
    | some (.dK ks vs) => some (ks, vs)
    | _ => none) := (rfl)
@[simp] theorem dKV_dK {ks : List Key} {ds : List D} : dKV μ (.d (.dK ks ds)) = some (ks, vD ds) := (rfl)
@[simp] theorem dKV_lst {ds : List D} : dKV μ (.d (.lst ds)) = none := (rfl)
@[simp] theorem dTV_own : dTV μ (.own k) = (match μ[k]? with
    | some (.dT ks vs) => some (ks, vs)
    | _ => none) := (rfl)
@[simp] theorem lenV_own : lenV μ (.own k) = (match μ[k]? with
    | some (.lst vs) => some vs.length
    | some (.dK ks _) => some ks.length
    | some (.dT ks _) => some ks.length
    | _ => none) := (rfl)
@[simp] theorem tyB_own {T : String} : tyB T μ (.own k) = (match μ[k]? with
    | some (.lst _) => T == "list"
    | some (.dK _ _) => T == "dict"
    | some (.dT _ _) => T == "dict"
    | _ => false) := (rfl)
@[simp] theorem tyB_str {T : String} {x : Str} : tyB T μ (.d (.str x)) = (T == "str") := (rfl)
@[simp] theorem insV_own : insV μ (.own k) = (match μ[k]? with
    | some (.ins c ns vs) => some (c, ns, vs)
    | _ => none) := (rfl)
@[simp] theorem insV_d {c : Str} {ns : List Str} {ds : List D} : insV μ (.d (.ins c ns ds)) = some (c, ns, vD ds) := (rfl)
@[simp] theorem okW_d {x : D} : okW n0 k (.d x) = true := (rfl)
@[simp] theorem app_own {v : Val} : oAppend n0 (.own k) [v] μ = (match μ[k]? with
    | some (.lst vs) => if okW n0 k v = true ∧ vs.length < 1000000 then .ok (.d .non, μ.set k (.lst (vs ++ [v]))) else .bad
    | _ => .bad) := (rfl)
theorem upd_own {v : Val} : oUpdate n0 (.own k) [v] μ = (match μ[k]?, dKV μ v with
    | some (.dK ks vs), some (js, ws) => if isOwn k v = false ∧ ks.length + js.length < 1000000 ∧ ws.all (okW n0 k) = true then .ok (.d .non, μ.set k (.dK (mergeKs ks vs js ws).1 (mergeKs ks vs js ws).2)) else .bad
    | _, _ => .bad) := (rfl)
@[simp] theorem isOwn_d {x : D} : isOwn k (.d x) = false := (rfl)
@[simp] theorem oTuple_lst {ds : List D} : oTuple [.d (.lst ds)] μ = .ok (.d (.tup ds), μ) := (rfl)
@[simp] theorem oTuple_tup {ds : List D} : oTuple [.d (.tup ds)] μ = .ok (.d (.tup ds), μ) := (rfl)
@[simp] theorem oTuple_own : oTuple [.own k] μ = (match lstV μ (.own k) with
    | some ds => .ok (.d (.tup ds), μ)
    | none => .bad) := (rfl)
@[simp] theorem oList_d {x : D} : oList [.d x] μ = (match rowV μ (.d x) with
    | some ds => .ok (.d (.lst ds), μ)
    | none => (match dKV μ (.d x) with
      | some (ks, _) => .ok (.d (.lst (ks.map keyD1)), μ)
      | none => .bad)) := (rfl)
@[simp] theorem oList_own : oList [.own k] μ = (match rowV μ (.own k) with
    | some ds => .ok (.d (.lst ds), μ)
    | none => (match dKV μ (.own k) with
      | some (ks, _) => .ok (.d (.lst (ks.map keyD1)), μ)
      | none => .bad)) := (rfl)
@[simp] theorem oListL_v {v : Val} : oListL [v] μ = (match rowV μ v with
    | some ds => .ok (.own μ.length, μ ++ [.lst (vD ds)])
    | none => .bad) := (rfl)
end
/-- what a live list becomes when its def ends -/
theorem cl_lst {n0 k : Nat} {μ : Mu} {ds : List D} (h : n0 ≤ k) (e : μ[k]? = some (.lst (vD ds))) : closeV n0 μ (.own k) = some (.d (.lst ds)) := close_lst (by omega) e
theorem k_Body_lst {n j : Nat} {ρ : Rho} {μ : Mu} {K : KE} {ds : List D} (h : n ≤ j) (e : μ[j]? = some (.lst (vD ds))) (hk : K (.d (.lst ds)) (μ.take n)) : kBody n K (.rt (.own j)) (ρ, μ) := by
  rw [k_Body_own (cl_lst h e)]
  exact hk
end Zl
set_option Elab.async false
set_option linter.all false
set_option maxRecDepth 100000
set_option maxHeartbeats 4000000
namespace Zl
open PySem PySem.Spec L2 PySem.W
open PyProof.Rows hiding St
/-! # the law -/
theorem ten18 {μ : Mu} : oPow (.d (.int 10)) (.d (.int 18)) μ = .ok (.d (.int 1000000000000000000), μ) := by
  rw [oPow_i (by omega) (by decide)]
  rfl
def kDisp2 (k : Key) (v : Val) (Q : List Key × List Val → Mu → Prop) : List Key × List Val → Mu → Prop := fun q μ => Q (k :: q.1, v :: q.2) μ
def kDisp1 (k : Key) (r : List (Key × FE)) (ρ : Rho) (Q : List Key × List Val → Mu → Prop) : KE := fun v μ => Wp (dispGo r ρ μ) (kDisp2 k v Q)
@[simp ↓] theorem w_disp0 {ρ : Rho} {μ : Mu} {Q : List Key × List Val → Mu → Prop} : Wp (dispGo [] ρ μ) Q = Q ([], []) μ := (rfl)
@[simp ↓] theorem w_disp1 {k : Key} {f : FE} {r : List (Key × FE)} {ρ : Rho} {μ : Mu} {Q : List Key × List Val → Mu → Prop} : Wp (dispGo ((k, f) :: r) ρ μ) Q = Wp (f ρ μ) (kDisp1 k r ρ Q) := by
  show Wp ((f ρ μ).bind fun p => (dispGo r ρ p.2).bind fun q => .ok ((k :: q.1.1, p.1 :: q.1.2), q.2)) Q = _
  rw [wp_bind]
  congr 1
  funext v μ
  exact wp_bind
@[simp] theorem k_disp1 {k : Key} {r : List (Key × FE)} {ρ : Rho} {μ : Mu} {Q : List Key × List Val → Mu → Prop} {v : Val} : kDisp1 k r ρ Q v μ = Wp (dispGo r ρ μ) (kDisp2 k v Q) := (rfl)
@[simp] theorem k_disp2 {k : Key} {μ : Mu} {Q : List Key × List Val → Mu → Prop} {v : Val} {q : List Key × List Val} : kDisp2 k v Q q μ = Q (k :: q.1, v :: q.2) μ := (rfl)
def kDispL (K : KE) : List Key × List Val → Mu → Prop := fun q μ => K (.own μ.length) (μ ++ [.dK (mergeKs [] [] q.1 q.2).1 (mergeKs [] [] q.1 q.2).2])
@[simp ↓] theorem w_DispL {fs : List (Key × FE)} {ρ : Rho} {μ : Mu} {K : KE} : Wp (fDisp true fs ρ μ) K = Wp (dispGo fs ρ μ) (kDispL K) := wp_bind
@[simp] theorem k_dispL {K : KE} {q : List Key × List Val} {μ : Mu} : kDispL K q μ = K (.own μ.length) (μ ++ [.dK (mergeKs [] [] q.1 q.2).1 (mergeKs [] [] q.1 q.2).2]) := (rfl)
theorem disp4 {a b c d : Val} : mergeKs [] [] [.inr "digits", .inr "great", .inr "lumps", .inr "turn"] [a, b, c, d] = (([.inr "digits", .inr "great", .inr "lumps", .inr "turn"] : List Key), [a, b, c, d]) := by
  simp [mergeKs, putKs, n1, n2, n3, n4, n5, n6, Ne.symm n1, Ne.symm n2, Ne.symm n3, Ne.symm n4, Ne.symm n5, Ne.symm n6]
theorem ivals_map (p : Int → Bool) (v : Int → Int) (P : D → Bool) (V : D → Val) (hP : ∀ i, P (.int i) = p i) (hV : ∀ i, V (.int i) = .d (.int (v i))) (ns : List Int) : ((ns.map D.int).filter P).map V = ivals ((ns.filter p).map v) := by
  induction ns with
  | nil => rfl
  | cons i ns ih =>
    rw [List.map_cons, List.filter_cons, List.filter_cons, hP]
    by_cases h : p i = true
    · rw [if_pos h, if_pos h, List.map_cons, List.map_cons, hV, ih]
      rfl
    · rw [if_neg h, if_neg h, ih]
def absI (i : Int) : Int := if i < 0 then -i else i
theorem begun_ok {ns : List Int} (hl : ns.length ≤ 63) {K : KE} (hK : ∀ w, DrOk 0 w → K (.own 2) (drw w)) : Wp (F_law_begun [.d (.scr ns)] []) K := by
  unfold F_law_begun
  rw [w_BodyK]
  have hf : ∀ j μ, oFdiv (.d (.int j)) (.d (.int 1000000000000000000)) μ = .ok (.d (.int (j / 1000000000000000000)), μ) := fun j μ => oFdiv_i j (by omega) (by omega)
  have hm : ∀ j μ, oMod (.d (.int j)) (.d (.int 1000000000000000000)) μ = .ok (.d (.int (j % 1000000000000000000)), μ) := fun j μ => oMod_i j (by omega)
  have ha : ∀ j μ, oAbs [.d (.int j)] μ = .ok (.d (.int (absI j)), μ) := fun j μ => rfl
  simp [S_law_begun, startR, c_law_begun_1]
  refine k_lcL (fun d => match d with | .int i => decide (1000000000000000000 ≤ absI i) | _ => false) (fun d => match d with | .int i => .d (.int (absI i / 1000000000000000000)) | _ => .d .non) (by simp; omega) (fun d hd => ?_) ?_
  · obtain ⟨i, hi, rfl⟩ := List.mem_map.mp hd
    simp [ha, ten18, hf]
  · rw [ivals_map (fun i => decide (1000000000000000000 ≤ absI i)) (fun i => absI i / 1000000000000000000) _ _ (fun _ => rfl) (fun _ => rfl)]
    generalize hgs : (ns.filter fun i => decide (1000000000000000000 ≤ absI i)).map (fun i => absI i / 1000000000000000000) = gs
    have hgl : gs.length ≤ 63 := by
      have := List.length_filter_le (fun i => decide (1000000000000000000 ≤ absI i)) ns
      rw [← hgs, List.length_map]
      omega
    simp [c_law_begun_2]
    refine k_lcL (fun _ => true) (fun d => match d with | .int i => .d (.int (absI i % 1000000000000000000)) | _ => .d .non) (by simp; omega) (fun d hd => ?_) ?_
    · obtain ⟨i, hi, rfl⟩ := List.mem_map.mp hd
      simp [ha, ten18, hm]
    · rw [ivals_map (fun _ => true) (fun i => absI i % 1000000000000000000) _ _ (fun _ => rfl) (fun _ => rfl)]
      simp [disp4]
      exact hK ⟨gs, ns.map fun i => absI i % 1000000000000000000, 0, 0⟩ ⟨hgl, Int.le_refl _, Int.le_refl _⟩
end Zl
set_option Elab.async false
set_option linter.all false
set_option maxRecDepth 100000
set_option maxHeartbeats 4000000
namespace Zl
open PySem PySem.Spec L2 PySem.W
open PyProof.Rows hiding St
/-! # exceptions as values: the calculus -/
section
variable {ρ : Rho} {μ : Mu} {K : KE}
def kXNew (cn fld : Str) (fmt : D → Bool) (K : KE) : KE := fun v μ => Wp (xv cn fld fmt v μ) K
@[simp ↓] theorem w_XNew {cn fld : Str} {fmt : D → Bool} {f : FE} : Wp (fXNew cn fld fmt f ρ μ) K = Wp (f ρ μ) (kXNew cn fld fmt K) := wp_bind
@[simp] theorem k_XNew {cn fld : Str} {fmt : D → Bool} {z : D} : kXNew cn fld fmt K (.d z) μ = if fmt z = true then K (.d (.exc cn [fld] [z])) μ else False := by
  show Wp (if fmt z = true then .ok (.d (.exc cn [fld] [z]), μ) else .bad) K = _
  split <;> rfl
def kX0 (cn : Str) (K : KE) : KE := fun _ μ => K (.d (.exc cn [] [])) μ
@[simp ↓] theorem w_X0 {cn : Str} {f : FE} : Wp (fX0 cn f ρ μ) K = Wp (f ρ μ) (kX0 cn K) := wp_bind
@[simp] theorem k_X0 {cn : Str} {v : Val} : kX0 cn K v μ = K (.d (.exc cn [] [])) μ := (rfl)
def kXFld (x : Str) (K : KE) : KE := fun v μ => match v with
  | .d (.exc _ ns ds) => (match getF ns (ds.map Val.d) x with
    | some w => K w μ
    | none => False)
  | _ => False
@[simp ↓] theorem w_XFld {x : Str} {f : FE} : Wp (fXFld x f ρ μ) K = Wp (f ρ μ) (kXFld x K) := by
  show Wp ((f ρ μ).bind fun p => match p.1 with
  | .d (.exc _ ns ds) => (match getF ns (ds.map Val.d) x with
    | some w => .ok (w, p.2)
    | none => .bad)
  | _ => .bad) K = _
  rw [wp_bind]
  congr 1
  funext v μ
  unfold kXFld
  simp only
  rcases v with z | k
  · cases z with
    | exc c ns ds => simp only; cases getF ns (ds.map Val.d) x <;> rfl
    | _ => rfl
  · rfl
@[simp] theorem k_XFld {x cn : Str} {z : D} : kXFld x K (.d (.exc cn [x] [z])) μ = K (.d z) μ := by
  show (match getF [x] [Val.d z] x with
    | some w => K w μ
    | none => False) = _
  have : getF [x] [Val.d z] x = some (.d z) := by simp [getF]
  rw [this]
end
@[simp] theorem fmtY_t {z : D} : fmtY z = true := (rfl)
@[simp] theorem oAdd_ll {μ : Mu} {a b : List D} : oAdd (.d (.lst a)) (.d (.lst b)) μ = (if a.length + b.length ≤ sizeLine then .ok (.d (.lst (a ++ b)), μ) else .bad) := (rfl)
@[simp] theorem oAdd_ol {μ : Mu} {k : Nat} {b : List D} : oAdd (.own k) (.d (.lst b)) μ = (match lstV μ (.own k) with
    | some a => if a.length + b.length ≤ sizeLine then .ok (.d (.lst (a ++ b)), μ) else .bad
    | none => .bad) := by
  show (match lstV μ (.own k), lstV μ (.d (.lst b)) with
    | some a, some b => if a.length + b.length ≤ sizeLine then R.ok (Val.d (.lst (a ++ b)), μ) else R.bad
    | _, _ => R.bad) = _
  have e : lstV μ (.d (.lst b)) = some b := rfl
  rw [e]
  cases lstV μ (.own k) <;> rfl
def xe (c f : Str) (v : D) : D := .tup [.exc c [f] [v], v]
@[irreducible] def prs : List (Str × Str) := [("NoHistory", "at"), ("NoHistory", "at"), ("NoVersion", "version"), ("NoVersion", "version"), ("NoChange", "change"), ("NoChange", "change"), ("NoTest", "at"), ("NoTest", "at"), ("Cheaper", "least"), ("Cheaper", "least"),
  ("TooMany", "most"), ("TooMany", "most"), ("NoOperation", "at"), ("NoOperation", "at"), ("NoJournal", "at"), ("NoJournal", "at"), ("NoText", "row"), ("NoText", "row")]
@[irreducible] def lf (v : D) : List D := prs.map fun p => xe p.1 p.2 v
theorem withF {v : D} (hv : okFmt v = true) (μ : Mu) : F_law_with_fields [.d v] μ = .ok (.d (.lst (lf v)), μ) := by
  apply wp_eq
  unfold F_law_with_fields
  rw [w_Body]
  simp [S_law_with_fields, startR, hv, sizeLine_eq, lf, prs, xe]
@[irreducible] def lp : List Str := ["NoOrder", "NoCause", "NoTheory", "NoCase", "NoCosts", "NoLie", "NoLimit", "NoCauses", "NoClaim", "NoChanges", "NoSuspects", "NoState", "NoPlan", "NoNumber", "NothingLeft"]
theorem plainF {m : Str} (μ : Mu) : F_law_plain [.d (.str m)] μ = .ok (.d (.lst (lp.map fun c => .exc c [] [])), μ) := by
  apply wp_eq
  unfold F_law_plain
  rw [w_Body]
  simp [S_law_plain, startR, sizeLine_eq, lp]
def cls24 : List Str := ["NoHistory", "NoVersion", "NoChange", "NoTest", "Cheaper", "TooMany", "NoOperation", "NoJournal", "NoText", "NoOrder", "NoCause", "NoTheory", "NoCase", "NoCosts", "NoLie", "NoLimit", "NoCauses", "NoClaim", "NoChanges", "NoSuspects", "NoState", "NoPlan", "NoNumber", "NothingLeft"]
theorem tb24 : (cls24.all fun c => cls24.all fun n => decide (tbX krl (.own c) (.own n) = some (decide (c = n)))) = true := by decide +kernel
theorem tb_at {c n : Str} (hc : c ∈ cls24) (hn : n ∈ cls24) : tbX krl (.own c) (.own n) = some (decide (c = n)) := of_decide_eq_true (List.all_eq_true.mp (List.all_eq_true.mp tb24 c hc) n hn)
theorem tbase : (cls24.all fun c => decide (tbX krl (.own c) (.own "BlameError") = some true) && decide (tbX krl (.own c) (.ty "ValueError") = some true)) = true := by decide +kernel
theorem any_one (tb : KTb) (k c : Kd) : isAny tb k [c] = tb k c := by
  show (match tb k c with
    | some true => some true
    | some false => some false
    | none => none) = _
  cases tb k c with
  | none => rfl
  | some b => cases b <;> rfl
@[simp] theorem kind_exc {c : Str} {ns : List Str} {ds : List D} : kindD (.exc c ns ds) = some (.own c) := (rfl)
theorem kindsF {c : Str} (hc : c ∈ cls24) {ns : List Str} {ds : List D} (μ : Mu) : F_law_kinds [.d (.exc c ns ds)] μ = .ok (.d (.lst (cls24.map fun n => .bl (decide (c = n)))), μ) := by
  have hh : ∀ n ∈ cls24, tbX krl (.own c) (.own n) = some (decide (c = n)) := fun n hn => tb_at hc hn
  simp only [cls24, List.forall_mem_cons] at hh
  apply wp_eq
  unfold F_law_kinds
  rw [w_Body]
  simp [S_law_kinds, startR, sizeLine_eq, cls24, any_one, -any_cons, hh]
end Zl
set_option Elab.async false
set_option linter.all false
set_option maxRecDepth 100000
set_option maxHeartbeats 4000000
namespace Zl
open PySem PySem.Spec L2 PySem.W
open PyProof.Rows hiding St
theorem w_with {v : D} (hv : okFmt v = true) {μ : Mu} {K : KE} : Wp (F_law_with_fields [.d v] μ) K = K (.d (.lst (lf v))) μ := by rw [withF hv, wp_ok]
theorem w_plain {m : Str} {μ : Mu} {K : KE} : Wp (F_law_plain [.d (.str m)] μ) K = K (.d (.lst (lp.map fun c => .exc c [] []))) μ := by rw [plainF, wp_ok]
theorem w_kinds {c : Str} (hc : c ∈ cls24) {ns : List Str} {ds : List D} {μ : Mu} {K : KE} : Wp (F_law_kinds [.d (.exc c ns ds)] μ) K = K (.d (.lst (cls24.map fun n => .bl (decide (c = n))))) μ := by rw [kindsF hc, wp_ok]
theorem pow30 {μ : Mu} : oPow (.d (.int 10)) (.d (.int 30)) μ = .ok (.d (.int 1000000000000000000000000000000), μ) := by
  rw [oPow_i (by omega) (by decide)]
  rfl
theorem neg1 {μ : Mu} : oNeg (.d (.int 1)) μ = .ok (.d (.int (-1)), μ) := rfl
def vals : List D := [.int 0, .int 1, .int (-1), .bl true, .non, .str "a", .tup [], .tup [.str "a", .int 0], .int 1000000000000000000000000000000, .int 5, .str "", .tup [.str "b", .str "a"]]
theorem rx_int {i : Int} (h : i.natAbs.log2 < 1920) (μ : Mu) : oReprX [.d (.int i)] μ = .ok (.d (.str (toString i)), μ) := by
  show (if i.natAbs.log2 < 1920 then R.ok (Val.d (.str (toString i)), μ) else R.bad) = _
  rw [if_pos h]
theorem rx_tup {ds : List D} (h : okRepr (.tup ds) = true) (μ : Mu) : oReprX [.d (.tup ds)] μ = .ok (.d (.str (pyOf (.tup ds)).shown), μ) := by
  show (if okRepr (.tup ds) = true then R.ok (Val.d (.str (pyOf (.tup ds)).shown), μ) else R.bad) = _
  rw [if_pos h]
theorem rx_str {x : Str} (h : (reprText x).length ≤ 1000000) (μ : Mu) : oReprX [.d (.str x)] μ = .ok (.d (.str (reprText x)), μ) := by
  show (if (reprText x).length ≤ 1000000 then R.ok (Val.d (.str (reprText x)), μ) else R.bad) = _
  rw [if_pos h]
theorem vals_ok : ∀ v ∈ vals, okFmt v = true ∧ ∃ s : Str, PyData.strOk s = true ∧ ∀ μ, oReprX [.d v] μ = .ok (.d (.str s), μ) := by
  intro v hv
  simp only [vals, List.mem_cons, List.not_mem_nil, or_false] at hv
  rcases hv with rfl | rfl | rfl | rfl | rfl | rfl | rfl | rfl | rfl | rfl | rfl | rfl
  · exact ⟨by decide +kernel, _, by decide +kernel, rx_int (by decide +kernel)⟩
  · exact ⟨by decide +kernel, _, by decide +kernel, rx_int (by decide +kernel)⟩
  · exact ⟨by decide +kernel, _, by decide +kernel, rx_int (by decide +kernel)⟩
  · exact ⟨by decide +kernel, "True", by decide +kernel, fun _ => rfl⟩
  · exact ⟨by decide +kernel, "None", by decide +kernel, fun _ => rfl⟩
  · exact ⟨by decide +kernel, _, by decide +kernel, rx_str (by decide +kernel)⟩
  · exact ⟨by decide +kernel, _, by decide +kernel, rx_tup (by decide +kernel)⟩
  · exact ⟨by decide +kernel, _, by decide +kernel, rx_tup (by decide +kernel)⟩
  · exact ⟨by decide +kernel, _, by decide +kernel, rx_int (by decide +kernel)⟩
  · exact ⟨by decide +kernel, _, by decide +kernel, rx_int (by decide +kernel)⟩
  · exact ⟨by decide +kernel, _, by decide +kernel, rx_str (by decide +kernel)⟩
  · exact ⟨by decide +kernel, _, by decide +kernel, rx_tup (by decide +kernel)⟩
@[irreducible] def errs (v : D) : List D := (prs.map fun p => D.exc p.1 [p.2] [v]) ++ lp.map fun c => .exc c [] []
def pl (i : Nat) : Nat := if i < 18 then i / 2 else i - 9
def nms : List Str := prs.map (·.1) ++ lp
theorem nms_at : ((List.range 33).all fun i => decide (nms[i]? = cls24[pl i]?)) = true := by decide +kernel
theorem bls_at : ((List.range 24).all fun k => match cls24[k]? with
  | some c => decide ((cls24.map fun n => decide (c = n)) = (List.range 24).map fun (j : Nat) => decide ((j : Int) = (k : Int)))
  | none => false) = true := by decide +kernel
theorem errs_at {v d : D} {i : Nat} (h : (errs v)[i]? = some d) : i < 33 ∧ ∃ c ns ds, d = .exc c ns ds ∧ c ∈ cls24 ∧ cls24[pl i]? = some c := by
  have hl : (errs v).length = 33 := by simp [errs, prs, lp]
  have hi : i < 33 := by rw [← hl]; exact (List.getElem?_eq_some_iff.mp h).1
  have hn : ∀ d, (errs v)[i]? = some d → ∃ c ns ds, d = .exc c ns ds ∧ nms[i]? = some c := by
    intro d h
    unfold errs at h
    unfold nms
    by_cases h1 : i < 18
    · rw [List.getElem?_append_left (by simpa [prs] using h1)] at h ⊢
      rw [List.getElem?_map] at h ⊢
      cases q : prs[i]? with
      | none => rw [q] at h; cases h
      | some p => rw [q] at h; cases h; exact ⟨_, _, _, rfl, rfl⟩
    · rw [List.getElem?_append_right (by simp [prs]; omega)] at h ⊢
      rw [List.getElem?_map] at h
      simp only [List.length_map] at h ⊢
      cases q : lp[i - prs.length]? with
      | none => rw [q] at h; cases h
      | some p => rw [q] at h; cases h; exact ⟨_, _, _, rfl, rfl⟩
  obtain ⟨c, ns, ds, e, e2⟩ := hn d h
  have e3 := of_decide_eq_true (List.all_eq_true.mp nms_at i (List.mem_range.mpr hi))
  rw [e2] at e3
  exact ⟨hi, c, ns, ds, e, List.mem_of_getElem? e3.symm, e3.symm⟩
theorem base_at {c : Str} (hc : c ∈ cls24) : tbX krl (.own c) (.own "BlameError") = some true ∧ tbX krl (.own c) (.ty "ValueError") = some true := by
  obtain ⟨h1, h2⟩ := He.ba (List.all_eq_true.mp tbase c hc)
  exact ⟨of_decide_eq_true h1, of_decide_eq_true h2⟩
theorem rng24 : rngD 0 24 = (List.range 24).map fun (j : Nat) => D.int (j : Int) := by rfl
theorem one_turn {v : D} {i : Nat} {d : D} {w : Draw} {r : Mu} {s0 s2 s3 s4 s5 s6 s7 s8 s9 s10 : Option Val} {S : KS} (hd : (enumD 0 (errs v))[i]? = some d)
    (hS : ∀ s6 s7 s8 s10, S .nx (⟨0, [s0, some (.own 2), s2, s3, s4, s5, s6, s7, s8, s9, s10]⟩, drw w ++ r)) :
    Wp (fgTup [6, 7] (.d d) ⟨0, [s0, some (.own 2), s2, s3, s4, s5, s6, s7, s8, s9, s10]⟩ (drw w ++ r)) (kBdG b_law_7 S) := by
  rw [Zl.enumD_get] at hd
  cases q : (errs v)[i]? with
  | none => rw [q] at hd; cases hd
  | some e =>
    rw [q] at hd
    cases hd
    obtain ⟨hi, c, ns, ds, rfl, hc, hp⟩ := errs_at q
    obtain ⟨b1, b2⟩ := base_at hc
    rw [w_gTup rfl]
    have hpl : pl i < 24 := by
      rcases Nat.lt_or_ge (pl i) 24 with h | h
      · exact h
      · rw [List.getElem?_eq_none (by simpa [cls24] using h)] at hp; cases hp
    have hbl := List.all_eq_true.mp bls_at (pl i) (List.mem_range.mpr hpl)
    rw [hp] at hbl
    have hbl := of_decide_eq_true hbl
    have hlist : cls24.map (fun n => D.bl (decide (c = n))) = (List.range 24).map fun (j : Nat) => D.bl (decide ((j : Int) = ((pl i : Nat) : Int))) := by
      have := congrArg (List.map D.bl) hbl
      simpa [List.map_map, Function.comp_def] using this
    have hok : ∀ d ∈ (cls24.map fun n => D.bl (decide (c = n))), OkD 0 d := fun d hd => by
      obtain ⟨n, _, rfl⟩ := List.mem_map.mp hd
      exact ⟨rfl, by simp [pyOf, D.py, PyData.canLay0], by simp [pyOf, D.py, PyData.depth]⟩
    have fin : ∀ s8 : Option Val, s8 = some (.d (.int ((pl i : Nat) : Int))) → ∀ s10, Wp (i_law_6 ⟨0, [s0, some (.own 2), s2, s3, s4, s5, some (.d (.int ((0 + i : Nat) : Int))), some (.d (.exc c ns ds)), s8, s9, s10]⟩ (drw w ++ r)) S := by
      rintro _ rfl s10
      simp [i_law_6, w_kinds hc, c_law_5]
      rw [show (Val.d (D.int 24)) = Val.d (D.int ((24 : Nat) : Int)) from rfl, ki_rngN, if_pos (by omega), rng24]
      refine k_lcA (fun (j : Nat) => D.int (j : Int)) (fun (j : Nat) => D.bl (decide ((j : Int) = ((pl i : Nat) : Int)))) (by simp) (fun j hj => ?_) ?_
      · simp
      · rw [← hlist, k_Bin2, oEq_self true (okd_lst hok) (by omega)]
        simp
        exact hS _ _ _ _
    simp [b_law_7, i_law_4, any_one, -any_cons, b1, b2]
    by_cases h18 : i < 18
    · have e1 : decide ((i : Int) < 18) = true := by simp; omega
      rw [e1]
      simp [oFdiv_i]
      have e2 : ((i : Int) / 2) = ((pl i : Nat) : Int) := by unfold pl; rw [if_pos h18]; omega
      rw [e2]
      simpa using fin _ rfl s10
    · have e1 : decide ((i : Int) < 18) = false := by simp; omega
      rw [e1]
      simp
      have e2 : ((i : Int) - 9) = ((pl i : Nat) : Int) := by unfold pl; rw [if_neg h18]; omega
      rw [e2]
      simpa using fin _ rfl s10
theorem pick_strs {n : Nat} {w : Draw} (h : DrOk n w) (hn : n < 1000000) {ds : List Str} (hd : ds ≠ []) (hl : ds.length < 1000000) (r : Mu) {K : KE}
    (hk : ∀ x w', DrOk (n + 1) w' → K (.d (.str x)) (drw w' ++ r)) : Wp (F_law_pick [.own 2, .d (.lst (ds.map D.str))] (drw w ++ r)) K :=
  pick_wp h hn (by simpa using hd) (by simpa using hl) r fun x w' hx ok => by
    obtain ⟨y, _, rfl⟩ := List.mem_map.mp hx
    exact hk y w' ok
theorem turn_wp {n : Nat} {w : Draw} (hd : DrOk n w) (hn : n + 10 < 1000000) (r : Mu) {s0 s2 s3 s4 s5 s6 s7 s8 s9 s10 : Option Val} {S : KS}
    (hS : ∀ (w' : Draw) (s3 s4 s5 s6 s7 s8 s9 s10 : Option Val), DrOk (n + 2) w' → S .nx (⟨0, [s0, some (.own 2), s2, s3, s4, s5, s6, s7, s8, s9, s10]⟩, drw w' ++ r)) :
    Wp (b_law_8 ⟨0, [s0, some (.own 2), s2, s3, s4, s5, s6, s7, s8, s9, s10]⟩ (drw w ++ r)) S := by
  simp [b_law_8, pow30, neg1]
  refine pick_wp hd (by omega) (by simp) (by simp) r fun v w1 hv ok1 => ?_
  obtain ⟨hf, s, hs, hr⟩ := vals_ok v hv
  simp [w_with hf, i_law_2, c_law_1]
  refine k_lc (fun _ => false) (fun d => d) (by simp [lf, prs]) (fun d hd => ?_) ?_
  · unfold lf at hd
    obtain ⟨p, _, rfl⟩ := List.mem_map.mp hd
    unfold xe
    rw [w_gTup rfl]
    simp [hr, oEq_str true hs hs]
  · have en := fun μ => oEq_nilL (μ := μ) (k := 0) (ds := []) true (fun d hd => by cases hd) (by omega)
    have ef : List.filter (fun _ => false) (lf v) = [] := List.filter_eq_nil_iff.mpr fun _ _ z => by cases z
    simp [en, ef, c_law_3]
    refine k_lc (fun _ => true) (fun d => match d with | .tup (e :: _) => e | _ => .non) (by simp [lf, prs]) (fun d hd => ?_) ?_
    · unfold lf at hd
      obtain ⟨p, _, rfl⟩ := List.mem_map.mp hd
      unfold xe
      rw [w_gTup rfl]
      simp
    · simp
      have hmap : (lf v).map (fun d => match d with | .tup (e :: _) => e | _ => .non) = prs.map fun p => D.exc p.1 [p.2] [v] := by simp [lf, xe]
      have hh := @pick_strs (n + 1) w1 ok1 (by omega) ["", "wrong", "a longer message"] (by simp) (by simp) r
      simp only [List.map_cons, List.map_nil] at hh
      generalize F_law_pick [.own 2, .d (.lst [.str "", .str "wrong", .str "a longer message"])] (drw w1 ++ r) = X at hh ⊢
      refine hh fun x w2 ok2 => ?_
      clear hh
      simp only [k_ACons1, w_ANil, k_ACons2, k_Call, List.length_cons, List.length_nil, List.map_nil, List.append_nil, w_plain, k_Bin2, hmap, oAdd_ll, if_true]
      have hln : (List.map (fun p => D.exc p.fst [p.snd] [v]) prs).length + (List.map (fun c => D.exc c [] []) lp).length ≤ sizeLine := by
        rw [List.length_map, List.length_map, sizeLine_eq]
        simp [prs, lp]
      rw [if_pos hln, wp_ok]
      have he : List.map (fun p => D.exc p.fst [p.snd] [v]) prs ++ List.map (fun c => D.exc c [] []) lp = errs v := by simp only [errs]
      rw [he]
      simp
      obtain ⟨I, hI⟩ : ∃ I : Nat → Rho → Mu → Prop, I = fun _ ρ μ => ∃ s6 s7 s8 s10 : Option Val, ρ = ⟨0, [s0, some (.own 2), s2, some (.d v), some (.d (.lst (lf v))), some (.d (.lst (errs v))), s6, s7, s8, s9, s10]⟩ ∧ μ = drw w2 ++ r := ⟨_, rfl⟩
      refine wp_forI I (by rw [hI]; exact ⟨_, _, _, _, rfl, rfl⟩) ?_ ?_
      · intro i d ρ μ hi hh
        rw [hI] at hh
        obtain ⟨s6, s7, s8, s10, rfl, rfl⟩ := hh
        refine one_turn hi fun s6 s7 s8 s10 => ?_
        simp
        rw [hI]
        exact ⟨_, _, _, _, rfl, rfl⟩
      · intro ρ μ hh
        rw [hI] at hh
        obtain ⟨s6, s7, s8, s10, rfl, rfl⟩ := hh
        exact hS _ _ _ _ _ _ _ _ _ ok2
theorem law_plain (ns : List Int) (hl : ns.length ≤ 63) : F_law [.d (.scr ns)] [] = .ok (.d (.bl true), []) := by
  apply wp_eq
  unfold F_law
  rw [w_Body]
  simp [S_law, startR]
  have hh := @begun_ok ns hl
  generalize F_law_begun [.d (.scr ns)] [] = X at hh ⊢
  refine hh fun w ok => ?_
  simp
  rw [show Val.d (.int 3) = .d (.int ((3 : Nat) : Int)) from rfl, ki_rngN, if_pos (by omega)]
  obtain ⟨I, hI⟩ : ∃ I : Nat → Rho → Mu → Prop, I = fun i ρ μ => ∃ (w : Draw) (s2 s3 s4 s5 s6 s7 s8 s9 s10 : Option Val), ρ = ⟨0, [some (.d (.scr ns)), some (.own 2), s2, s3, s4, s5, s6, s7, s8, s9, s10]⟩ ∧ μ = drw w ++ [] ∧ DrOk (2 * i) w := ⟨_, rfl⟩
  simp
  refine wp_forI I (by rw [hI]; exact ⟨w, none, none, none, none, none, none, none, none, none, rfl, by simp, ok⟩) ?_ ?_
  · intro i d ρ μ hi hh
    rw [hI] at hh
    obtain ⟨w1, s2, s3, s4, s5, s6, s7, s8, s9, s10, rfl, rfl, ok1⟩ := hh
    have hik : i < 3 := by
      have := (List.getElem?_eq_some_iff.mp hi).1
      simpa using this
    simp
    refine turn_wp ok1 (by omega) [] fun w2 s3 s4 s5 s6 s7 s8 s9 s10 ok2 => ?_
    simp
    rw [hI]
    exact ⟨w2, _, _, _, _, _, _, _, _, _, rfl, by simp, ok2.mono (by omega)⟩
  · intro ρ μ hh
    rw [hI] at hh
    obtain ⟨w1, s2, s3, s4, s5, s6, s7, s8, s9, s10, rfl, rfl, ok1⟩ := hh
    simp
end Zl
set_option Elab.async false
set_option linter.all false
set_option maxRecDepth 100000
set_option maxHeartbeats 0
namespace Zl
open PySem PySem.Spec L2 PySem.W
open PyProof.Rows hiding St
abbrev Rw : PySem.W.OpenRow := PySem.W.OpenLaw.row PySem.Challenge.rw_mergeblame_k96_errors_with_their_fields
def topNames : List PySem.Str := (["__name__", "BlameError", "NoHistory", "NoVersion", "NoChange", "NoTest", "Cheaper", "TooMany", "NoOperation", "NoJournal", "NoText", "NoOrder", "NoCause", "NoTheory", "NoCase", "NoCosts", "NoLie", "NoLimit", "NoCauses", "NoClaim", "NoChanges", "NoSuspects", "NoState", "NoPlan", "NoNumber", "NothingLeft"] : List PySem.Str) ++ (["_law_begun", "_law_next", "_law_pick", "_law_with_fields", "_law_plain", "_law_kinds"] : List PySem.Str)
abbrev hk : PySem.W.Hook := hookZX 7 fa fnl prl (tfl.map (·.1)) exK xil
def ob (s : PySem.W.SharedT) : AlZX := obsZX 7 fa fnl prl (tfl.map (·.1)) exK xil (HandSHeadRun.getT s)
theorem ob_eq (s : PySem.W.SharedT) : ob s = hk.obs s.abs := obsZX_eq (HandSHeadRun.getT_eq s)
theorem run (w : World) : HandSHeadRun.RunEq Rw (PySem.W.view Rw.prog [33]) hk ob 6000 topNames w := by
  intro os
  kernel_rfl
end Zl
set_option Elab.async false
set_option linter.all false
set_option maxRecDepth 100000
set_option maxHeartbeats 0
namespace Zl
open PySem PySem.Spec L2 PySem.W
open PyProof.Rows hiding St
abbrev csT (K : PySem.W.Frag) : List (Addr × Addr) := tfl.map fun p => He.cT K p.1
theorem tabsK_of {K : PySem.W.Frag} {mg : Str → Option Value} {base h0 : Heap} (c : SaysZT fa fnl prl (tfl.map (·.1)) exK h0 K) (T : ∀ p ∈ csT K, LamX.TabB base mg p.1 p.2) : TabsK K mg base tfl :=
  ⟨fun p hp => T _ (List.mem_map.mpr ⟨p, hp, rfl⟩), by have := c.nd; rw [List.map_map] at this; exact this⟩
theorem facts_ok {P : Program} {w : World} {K : PySem.W.Frag} {h0 : Heap} {mg : Str → Option Value} {f : Addr} (X : K.In h0) (G : h0.Ns mainGlobals mg) (hfa : mg ("law" : Str) = some (.ref f)) (c : SaysZT fa fnl prl (tfl.map (·.1)) exK h0 K) (cx : ∀ d ∈ xil, xiW K d = d.val) (pr : P.main.file = file ∧ (P.main.scope.names.lookup ("super" : Str)).isSome = false) :
    ∃ fd : FuncData, (∀ (s : Shared) (v : Value), BindsTo s fd ⟨[v], []⟩ [("_law_script", v)]) ∧ ∀ base : Heap, K.In base → base.Ns mainGlobals mg → (∀ p ∈ csT K, LamX.TabB base mg p.1 p.2) → FnG P w K mg base 200 f fd ["_law_script"] (spZ (gm K) 1 F_law) := by
  obtain ⟨fd, F⟩ := c.z.a.def_ (fnl.length - 1) (d := d_law) rfl
  have ef : f = d_law.at_ K := by
    have e1 := He.glo_ok X G (c.z.a.fact 39 (f := .glo "law") rfl)
    rw [hfa] at e1
    injection e1 with e1
    injection e1
  subst ef
  refine ⟨fd, fun s v => FunD.bindsA (ps := ["_law_script"]) F (fun _ _ _ _ _ _ us hl => match us, hl with | [_], _ => rfl) s [v] rfl, fun base _ _ T => ?_⟩
  have h : Hd P K mg base := ⟨c.z, ⟨h0, X, G⟩, tabsK_of c T, (He.ba c.more).1, List.all_eq_true.mp (He.ba c.more).2, cx, pr⟩
  obtain ⟨fd2, G2, F2⟩ := og_law (P := P) (w := w) h
  have ef : fd2 = fd := by
    obtain ⟨oc, od, dV, kV, doc, pm, an, cdv, ct, osl, e1, lk, _⟩ := F.ex
    obtain ⟨oc2, od2, dV2, kV2, doc2, pm2, an2, cdv2, ct2, osl2, e2, lk2, _⟩ := F2.ex
    rw [lk] at lk2
    injection lk2 with z
    injection z with z z2 z3
    injection z3 with z4
    exact z4.symm
  rw [ef] at G2
  exact G2.mono (by omega)
end Zl
open PySem PySem.W PySem.Calls PyProof.Rows in
theorem holds_of (plain : ∀ ns : List Int, ns.length ≤ 63 → (∀ z ∈ ns, Builtin.Int.intBits z ≤ 1048576) → Zl.F_law [.d (.scr ns)] [] = .ok (.d (.bl true), [])) : PySem.Challenge.rw_mergeblame_k96_errors_with_their_fields.Holds := by
  w_on; o_law
  refine HandSHeadRun.head_any (r := OpenLaw.row PySem.Challenge.rw_mergeblame_k96_errors_with_their_fields) (q := view (OpenLaw.row PySem.Challenge.rw_mergeblame_k96_errors_with_their_fields).prog [33]) (H := Zl.hk) (ob := Zl.ob) (M := 6000) (loose := Zl.topNames) (d := HandSHeadRun.topDef (OpenLaw.row PySem.Challenge.rw_mergeblame_k96_errors_with_their_fields).prog 33) (kwd := []) Zl.ob_eq
    (by kernel_rfl) (fun s => by kernel_rfl) Zl.run (by kernel_rfl) (by kernel_rfl) (by kernel_rfl) (by rfl) (by first | assumption | decide +kernel) (by decide +kernel) ⟨rfl, rfl, rfl, rfl, rfl, by decide +kernel⟩ ?hw ?hc
  case hw => w_witness2
  case hc =>
    refine Zl.walk_ofGT (l := PySem.Challenge.rw_mergeblame_k96_errors_with_their_fields) (n := 63) (k := 200) (x := "_law_script") rfl (by decide) (by kernel_rfl) ⟨rfl, by decide, by decide⟩ ?F
    intro w mg fa h Y G hmg0
    obtain ⟨K, KX, c, cx⟩ := Y
    have hmg : mg ("law" : PySem.Str) = some (.ref fa) := by
      have e : (HandSHeadRun.topDef (OpenLaw.row PySem.Challenge.rw_mergeblame_k96_errors_with_their_fields).prog 33).name = ("law" : PySem.Str) := by kernel_rfl
      rw [← e]
      exact hmg0
    obtain ⟨fd, hb, hF⟩ := Zl.facts_ok (P := (PySem.Challenge.rw_mergeblame_k96_errors_with_their_fields).prog) (w := w) KX G hmg c cx ⟨rfl, by decide +kernel⟩
    have mem : ∀ {p : Addr × Addr}, p ∈ Zl.csT K → ∃ r ∈ Zl.tfl.map (·.1), p = He.cT K r := fun hp => by
      obtain ⟨r, hr, e⟩ := List.mem_map.mp hp
      exact ⟨r.1, List.mem_map.mpr ⟨r, hr, rfl⟩, e.symm⟩
    refine ⟨K, fd, Zl.spZ (Zl.gm K) 1 Zl.F_law, Zl.csT K, KX, fun p hp => ?_, fun p hp => ?_, fun p hp => ?_, hb, fun H a ns h1 h2 hT hS => Zl.prom_T (fun p hp => ?_) H a ns (plain ns h1 h2) hT hS, hF⟩
    · obtain ⟨r, hr, rfl⟩ := mem hp
      exact c.empty r hr
    · obtain ⟨r, hr, rfl⟩ := mem hp
      exact c.out r hr
    · obtain ⟨r, hr, rfl⟩ := mem hp
      exact PySem.W.codeHd_of_K KX (c.hd r hr)
    · obtain ⟨r, hr, rfl⟩ := List.mem_map.mp (show p ∈ Zl.tbOf K Zl.tfl from hp)
      exact List.mem_map.mpr ⟨He.cT K r.1, List.mem_map.mpr ⟨r, hr, rfl⟩, rfl⟩
theorem PySem.Challenge.cw_mergeblame_k96_errors_with_their_fields_holds : PySem.Challenge.rw_mergeblame_k96_errors_with_their_fields.Holds :=
  holds_of fun ns h1 h2 => Zl.law_plain ns h1
