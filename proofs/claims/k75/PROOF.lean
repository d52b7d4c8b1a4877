import PyProof.Rows.All
import Wide.All
import OpenK.AllK
import Wide.FinOn
import HandS.ForMost
import HandS.Exc
import HandS.WordsExc
import HandS.CallSlots
import HandS.Defaults
import HandS.Lambda
import HandS.Wide
import HandS.TupAny
import HandS.TupMul
import HandS.Deep
import HandS.IsInst
import HandS.Conv
import HandS.More
import HandS.SortInts
import HandS.TupLen
import HandS.Property
import HandS.ExcOwn
import HandS.DictComp
import HandS.AnyAll
import KE.SortData
import KE.SortKeyHeap
import KE.KDictSum
import HandS.Star
import KE.DataMinMax
import KE.GoesMore
import PyProof.Draws
import PyProof.ReprRoads
import HandS.RaiseMore
import HandS.EndBits
import HandS.HeadEnd
import HandS.HeadHook2
import HandS.Style
import HandS.HeadNt
import HandS.Head0
import HandS.Head1
import HandS.Head2
import HandS.Nested
import HandS.NestedK
import KE.DataMinKey
import HandS.HeadHook4
import HandS.EndTab
import PySem.Challenge.RW_mergeblame_k75_halving
set_option Elab.async false
set_option linter.all false
set_option maxRecDepth 100000
set_option maxHeartbeats 4000000
namespace Zl
open PySem PySem.Spec L2
open PyProof.Rows hiding St

/-! ## data that never changes, values, cells -/
inductive D where
  | non | bl (b : Bool) | int (i : Int) | str (x : Str)
  | tup (ds : List D) | lst (ds : List D)
  | dK (ks : List Key) (ds : List D) | dT (ks : List (List Key)) (ds : List D)
  | ins (c : Str) (ns : List Str) (ds : List D)
  | obj (x : Str)
  | scr (ns : List Int)
  | kt (ds : List D)
  deriving Inhabited

inductive Val where
  | d (x : D) | own (k : Nat)
  deriving Inhabited

inductive Cell where
  | gone
  | fz (x : D)
  | lst (vs : List Val)
  | dK (ks : List Key) (vs : List Val)
  | dT (ks : List (List Key)) (vs : List Val)
  | ins (c : Str) (ns : List Str) (vs : List Val)
  deriving Inhabited
abbrev Mu := List Cell
/-- a frame: the cells from n0 on are its own; its slots -/
structure Rho where
  n0 : Nat
  s : List (Option Val)

structure Err where
  c : Str
  ns : List Str
  ds : List D
inductive R (a : Type) where
  | ok (x : a)
  | ex (e : Err) (r : Rho) (m : Mu)
  | bad
def R.bind {a b : Type} (r : R a) (k : a → R b) : R b := match r with
  | .ok x => k x
  | .ex e r m => .ex e r m
  | .bad => .bad
@[simp] theorem R.bind_ok {a b : Type} (x : a) (k : a → R b) : (R.ok x).bind k = k x := rfl
@[simp] theorem R.bind_bad {a b : Type} (k : a → R b) : (R.bad : R a).bind k = .bad := rfl
@[simp] theorem R.bind_ex {a b : Type} (e : Err) (r : Rho) (m : Mu) (k : a → R b) : (R.ex e r m : R a).bind k = .ex e r m := rfl

/-- the program's objects: the written part, the classes and the functions by their tags -/
structure Gm where
  K : PySem.W.Frag
  cl : Str → Option Addr
  fn : Str → Option Addr
  xc : Str → Option Addr
  tb : List (Addr × Str) := []

/-! V stands for a datum in the frozen heap F -/
mutual
def Is (Γ : Gm) (F : Hp) : V → D → Prop
  | v, .non => v = .non
  | v, .bl b => v = .bl b
  | v, .int i => v = .int i
  | v, .str x => v = .str x
  | v, .tup ds => ∃ a vs, v = .ref a ∧ F a = some (.tup vs) ∧ IsL Γ F vs ds
  | v, .kt ds => ∃ a vs, v = .ref a ∧ SqT Γ.K F a vs ∧ IsL Γ F vs ds
  | v, .lst ds => ∃ a vs, v = .ref a ∧ F a = some (.lst vs) ∧ IsL Γ F vs ds
  | v, .scr ns => ∃ a, v = .ref a ∧ SqL Γ.K F a (ns.map V.int)
  | v, .dK ks ds => ∃ a kvs, v = .ref a ∧ F a = some (.dK kvs) ∧ kvs.map (·.1) = ks ∧ IsL Γ F (kvs.map (·.2)) ds
  | v, .dT ks ds => ∃ a kvs, v = .ref a ∧ F a = some (.dT kvs) ∧ kvs.map (·.1) = ks ∧ IsL Γ F (kvs.map (·.2)) ds
  | v, .ins c ns ds => ∃ a C dx fs, v = .ref a ∧ Γ.cl c = some C ∧ F a = some (.ins C dx fs) ∧ fs.map (·.1) = ns ∧ IsL Γ F (fs.map (·.2)) ds
  | v, .obj x => ∃ a, v = .ref a ∧ Γ.fn x = some a
def IsL (Γ : Gm) (F : Hp) : List V → List D → Prop
  | vs, [] => vs = []
  | vs, d :: ds => ∃ v r, vs = v :: r ∧ Is Γ F v d ∧ IsL Γ F r ds
end

theorem Same.seqT {K : PySem.W.Frag} {H H' : Hp} {a : Addr} {xs : List V} (e : Same H H') (h : SqT K H a xs) : SqT K H' a xs := by
  rcases h with (h | ⟨o, h⟩) | h
  · exact .inl (.inl (e _ _ h))
  · exact .inl (.inr ⟨o, e _ _ h⟩)
  · exact .inr h

mutual
theorem Is.mono {Γ : Gm} {F F' : Hp} (h : Same F F') : ∀ (d : D) (v : V), Is Γ F v d → Is Γ F' v d
  | .non, v, x => by unfold Is at x ⊢; exact x
  | .bl b, v, x => by unfold Is at x ⊢; exact x
  | .int i, v, x => by unfold Is at x ⊢; exact x
  | .str i, v, x => by unfold Is at x ⊢; exact x
  | .tup ds, v, x => by
    unfold Is at x ⊢
    obtain ⟨a, vs, e, s, l⟩ := x
    exact ⟨a, vs, e, h _ _ s, IsL.mono h ds vs l⟩
  | .kt ds, v, x => by
    unfold Is at x ⊢
    obtain ⟨a, vs, e, s, l⟩ := x
    exact ⟨a, vs, e, Same.seqT h s, IsL.mono h ds vs l⟩
  | .lst ds, v, x => by
    unfold Is at x ⊢
    obtain ⟨a, vs, e, s, l⟩ := x
    exact ⟨a, vs, e, h _ _ s, IsL.mono h ds vs l⟩
  | .scr ns, v, x => by
    unfold Is at x ⊢
    obtain ⟨a, e, s⟩ := x
    exact ⟨a, e, h.seq s⟩
  | .dK ks ds, v, x => by
    unfold Is at x ⊢
    obtain ⟨a, kvs, e, s, k, l⟩ := x
    exact ⟨a, kvs, e, h _ _ s, k, IsL.mono h ds _ l⟩
  | .dT ks ds, v, x => by
    unfold Is at x ⊢
    obtain ⟨a, kvs, e, s, k, l⟩ := x
    exact ⟨a, kvs, e, h _ _ s, k, IsL.mono h ds _ l⟩
  | .ins c ns ds, v, x => by
    unfold Is at x ⊢
    obtain ⟨a, C, dx, fs, e, ec, s, k, l⟩ := x
    exact ⟨a, C, dx, fs, e, ec, h _ _ s, k, IsL.mono h ds _ l⟩
  | .obj c, v, x => by unfold Is at x ⊢; exact x
theorem IsL.mono {Γ : Gm} {F F' : Hp} (h : Same F F') : ∀ (ds : List D) (vs : List V), IsL Γ F vs ds → IsL Γ F' vs ds
  | [], vs, x => by unfold IsL at x ⊢; exact x
  | d :: ds, vs, x => by
    unfold IsL at x ⊢
    obtain ⟨v, r, e, a, b⟩ := x
    exact ⟨v, r, e, Is.mono h d v a, IsL.mono h ds r b⟩
end
section
variable {Γ : Gm} {F : Hp}
theorem IsL.nil : IsL Γ F [] [] := by unfold IsL; rfl
theorem IsL.cons {v : V} {d : D} {vs : List V} {ds : List D} (h : Is Γ F v d) (t : IsL Γ F vs ds) : IsL Γ F (v :: vs) (d :: ds) := by unfold IsL; exact ⟨v, vs, rfl, h, t⟩
theorem IsL.length : ∀ {ds : List D} {vs : List V}, IsL Γ F vs ds → vs.length = ds.length
  | [], vs, h => by unfold IsL at h; rw [h]; rfl
  | d :: ds, vs, h => by
    unfold IsL at h
    obtain ⟨v, r, e, _, t⟩ := h
    rw [e, List.length_cons, List.length_cons, IsL.length t]
theorem IsL.get : ∀ {ds : List D} {vs : List V} {i : Nat} {d : D}, IsL Γ F vs ds → ds[i]? = some d → ∃ v, vs[i]? = some v ∧ Is Γ F v d
  | [], _, _, _, _, e => by simp at e
  | d :: ds, vs, i, d', h, e => by
    unfold IsL at h
    obtain ⟨v, r, ev, h1, t⟩ := h
    subst ev
    cases i with
    | zero => simp at e; subst e; exact ⟨v, rfl, h1⟩
    | succ i =>
      obtain ⟨w, q, z⟩ := IsL.get (i := i) t (by simpa using e)
      exact ⟨w, by simpa using q, z⟩
theorem IsL.getV : ∀ {ds : List D} {vs : List V} {i : Nat} {v : V}, IsL Γ F vs ds → vs[i]? = some v → ∃ d, ds[i]? = some d ∧ Is Γ F v d
  | [], vs, _, _, h, e => by unfold IsL at h; subst h; simp at e
  | d :: ds, vs, i, v', h, e => by
    unfold IsL at h
    obtain ⟨v, r, ev, h1, t⟩ := h
    subst ev
    cases i with
    | zero => simp at e; subst e; exact ⟨d, rfl, h1⟩
    | succ i =>
      obtain ⟨w, q, z⟩ := IsL.getV (i := i) t (by simpa using e)
      exact ⟨w, by simpa using q, z⟩
theorem IsL.append : ∀ {ds es : List D} {vs ws : List V}, IsL Γ F vs ds → IsL Γ F ws es → IsL Γ F (vs ++ ws) (ds ++ es)
  | [], _, vs, _, h, h2 => by unfold IsL at h; subst h; exact h2
  | d :: ds, es, vs, ws, h, h2 => by
    unfold IsL at h
    obtain ⟨v, r, ev, h1, t⟩ := h
    subst ev
    exact IsL.cons h1 (IsL.append t h2)
theorem IsL.take : ∀ {ds : List D} {vs : List V} (n : Nat), IsL Γ F vs ds → IsL Γ F (vs.take n) (ds.take n)
  | [], vs, n, h => by unfold IsL at h; subst h; simp; exact IsL.nil
  | d :: ds, vs, n, h => by
    unfold IsL at h
    obtain ⟨v, r, ev, h1, t⟩ := h
    subst ev
    cases n with
    | zero => exact IsL.nil
    | succ n => exact IsL.cons h1 (IsL.take n t)
theorem IsL.drop : ∀ {ds : List D} {vs : List V} (n : Nat), IsL Γ F vs ds → IsL Γ F (vs.drop n) (ds.drop n)
  | [], vs, n, h => by unfold IsL at h; subst h; simp; exact IsL.nil
  | d :: ds, vs, n, h => by
    cases n with
    | zero => exact h
    | succ n =>
      unfold IsL at h
      obtain ⟨v, r, ev, h1, t⟩ := h
      subst ev
      exact IsL.drop n t
theorem IsL.reverse : ∀ {ds : List D} {vs : List V}, IsL Γ F vs ds → IsL Γ F vs.reverse ds.reverse
  | [], vs, h => by unfold IsL at h; subst h; exact IsL.nil
  | d :: ds, vs, h => by
    unfold IsL at h
    obtain ⟨v, r, ev, h1, t⟩ := h
    subst ev
    rw [List.reverse_cons, List.reverse_cons]
    exact IsL.append (IsL.reverse t) (IsL.cons h1 IsL.nil)
theorem IsL.eraseIdx : ∀ {ds : List D} {vs : List V} (n : Nat), IsL Γ F vs ds → IsL Γ F (vs.eraseIdx n) (ds.eraseIdx n)
  | [], vs, n, h => by unfold IsL at h; subst h; simp; exact IsL.nil
  | d :: ds, vs, n, h => by
    unfold IsL at h
    obtain ⟨v, r, ev, h1, t⟩ := h
    subst ev
    cases n with
    | zero => exact t
    | succ n => exact IsL.cons h1 (IsL.eraseIdx n t)
theorem IsL.inv {d : D} {ds : List D} {vs : List V} (h : IsL Γ F vs (d :: ds)) : ∃ v r, vs = v :: r ∧ Is Γ F v d ∧ IsL Γ F r ds := by unfold IsL at h; exact h
theorem IsL.inv0 {vs : List V} (h : IsL Γ F vs []) : vs = [] := by unfold IsL at h; exact h
end

/-! ## the ghost: frozen heap, the cells' addresses -/
structure Gh where
  F : Hp
  al : List Addr
  ts : List Nat
def VRel (Γ : Gm) (G : Gh) (u : V) : Val → Prop
  | .d x => Is Γ G.F u x
  | .own k => ∃ a, G.al[k]? = some a ∧ u = .ref a
def VRelL (Γ : Gm) (G : Gh) : List V → List Val → Prop := Paired (VRel Γ G)

def CRel (Γ : Gm) (G : Gh) (H : Hp) (a : Addr) : Cell → Prop
  | .gone => True
  | .fz x => Is Γ G.F (.ref a) x
  | .lst vs => G.F a = none ∧ ∃ us, H a = some (.lst us) ∧ VRelL Γ G us vs
  | .dK ks vs => G.F a = none ∧ ∃ kus, H a = some (.dK kus) ∧ kus.map (·.1) = ks ∧ VRelL Γ G (kus.map (·.2)) vs
  | .dT ks vs => G.F a = none ∧ ∃ kus, H a = some (.dT kus) ∧ kus.map (·.1) = ks ∧ VRelL Γ G (kus.map (·.2)) vs
  | .ins c ns vs => G.F a = none ∧ ∃ C dx fus, Γ.cl c = some C ∧ H a = some (.ins C dx fus) ∧ fus.map (·.1) = ns ∧ VRelL Γ G (fus.map (·.2)) vs

def Cell.vals : Cell → List Val
  | .lst vs => vs
  | .dK _ vs => vs
  | .dT _ vs => vs
  | .ins _ _ vs => vs
  | _ => []
/-- the cells below t name cells below t -/
def Clo (t : Nat) (μ : Mu) : Prop := ∀ (k : Nat) c j, k < t → μ[k]? = some c → Val.own j ∈ c.vals → j < t
/-- the tables of code objects, apart from all data -/
def TabZ (Γ : Gm) (G : Gh) (H : Hp) : Prop := ∀ p ∈ Γ.tb, G.F p.1 = none ∧ p.1 ∉ G.al ∧ ∃ ps : Array Value, H p.1 = some (.tbl ps) ∧ TriplesOk ps.toList ∧ ∀ (pos : Pos) (cv : Value), codeAmong pos ps.toList = some cv → ∃ c, cv = .ref c ∧ H c = some (LamX.CodeO c p.2) ∧ c ∉ G.al
structure RepM (Γ : Gm) (G : Gh) (μ : Mu) (H : Hp) : Prop where
  sub : Same G.F H
  len : G.al.length = μ.length
  nd : G.al.Nodup
  cells : ∀ (k : Nat) a c, G.al[k]? = some a → μ[k]? = some c → CRel Γ G H a c
  there : ∀ a ∈ G.al, ∃ o, H a = some o
  clo : ∀ t ∈ G.ts, t ≤ μ.length ∧ Clo t μ
  tabs : TabZ Γ G H
structure Rep (Γ : Gm) (G : Gh) (ρ : Rho) (μ : Mu) (σ : St) (H : Hp) : Prop extends RepM Γ G μ H where
  slots : ∀ (i : Nat) v, ρ.s[i]? = some (some v) → ∃ u, σ[i]? = some (some u) ∧ VRel Γ G u v
  rl : ρ.s.length = σ.length
  n0 : ρ.n0 ∈ G.ts
  top : ∀ t ∈ G.ts, t ≤ ρ.n0

/-- how the ghosts and heaps go on -/
structure Step (G : Gh) (H : Hp) (G' : Gh) (H' : Hp) : Prop where
  fz : Same G.F G'.F
  al : ∃ r, G'.al = G.al ++ r
  ts : G'.ts = G.ts
  keep : ∀ a o, H a = some o → (∀ ps, o ≠ .tbl ps) → a ∉ G.al → H' a = some o
  newF : ∀ a, G.F a = none → G'.F a ≠ none → H a = none ∨ a ∈ G.al
  newA : ∀ a, a ∈ G'.al → a ∉ G.al → H a = none
  there : ∀ a o, H a = some o → ∃ o', H' a = some o'

theorem Step.refl (G : Gh) (H : Hp) : Step G H G H := ⟨fun _ _ h => h, ⟨[], by simp⟩, rfl, fun _ _ h _ _ => h, fun _ h n => absurd h n, fun _ h n => absurd h n, fun _ o h => ⟨o, h⟩⟩
theorem Step.trans {G G1 G2 : Gh} {H H1 H2 : Hp} (p : Step G H G1 H1) (q : Step G1 H1 G2 H2) : Step G H G2 H2 := by
  obtain ⟨r1, e1⟩ := p.al
  obtain ⟨r2, e2⟩ := q.al
  have back : ∀ a, H1 a = none → H a = none := fun a h => by
    cases e : H a with
    | none => rfl
    | some o => obtain ⟨o', e'⟩ := p.there a o e; rw [h] at e'; cases e'
  have old : ∀ a, a ∈ G1.al → H a = none ∨ a ∈ G.al := fun a h => by
    by_cases z : a ∈ G.al
    · exact .inr z
    · exact .inl (p.newA a h z)
  refine ⟨fun a o h => q.fz a o (p.fz a o h), ⟨r1 ++ r2, by rw [e2, e1, List.append_assoc]⟩, q.ts.trans p.ts, fun a o h nt n => ?_, fun a h n => ?_, fun a h n => ?_, fun a o h => ?_⟩
  · by_cases z : a ∈ G1.al
    · rcases old a z with w | w
      · rw [h] at w; cases w
      · exact absurd w n
    · exact q.keep a o (p.keep a o h nt n) nt z
  · by_cases z : G1.F a = none
    · rcases q.newF a z n with w | w
      · exact .inl (back a w)
      · exact old a w
    · exact p.newF a h z
  · by_cases z : a ∈ G1.al
    · exact p.newA a z n
    · exact back a (q.newA a h z)
  · obtain ⟨o', e'⟩ := p.there a o h
    exact q.there a o' e'

def TabO (o : HO) : Prop := (∃ ps, o = .tbl ps) ∨ ∃ c q, o = LamX.CodeO c q
theorem TabO.lst {us : List V} : ¬ TabO (.lst us) := by rintro (⟨_, e⟩ | ⟨_, _, e⟩) <;> first | cases e | (unfold LamX.CodeO at e; cases e)
theorem TabO.dK {us : List (Key × V)} : ¬ TabO (.dK us) := by rintro (⟨_, e⟩ | ⟨_, _, e⟩) <;> first | cases e | (unfold LamX.CodeO at e; cases e)
/-- nothing but new objects, own ones or loose data changed -/
theorem TabZ.go {Γ : Gm} {G G' : Gh} {H H' : Hp} (h : TabZ Γ G H) (k : ∀ a o, H a = some o → TabO o → a ∉ G.al → H' a = some o) (hF : ∀ a o, a ∉ G.al → H a = some o → TabO o → G.F a = none → G'.F a = none) (hA : ∀ a ∈ G'.al, a ∈ G.al ∨ ∀ o, H a = some o → ¬ TabO o) : TabZ Γ G' H' := by
  intro p hp
  obtain ⟨h1, h2, ps, h3, h4, h5⟩ := h p hp
  refine ⟨hF _ _ h2 h3 (.inl ⟨_, rfl⟩) h1, fun z => ?_, ps, k _ _ h3 (.inl ⟨_, rfl⟩) h2, h4, fun pos cv e => ?_⟩
  · rcases hA _ z with q | q
    · exact h2 q
    · exact q _ h3 (.inl ⟨_, rfl⟩)
  · obtain ⟨c, e1, e2, e3⟩ := h5 pos cv e
    refine ⟨c, e1, k _ _ e2 (.inr ⟨_, _, rfl⟩) e3, fun z => ?_⟩
    rcases hA _ z with q | q
    · exact e3 q
    · exact q _ e2 (.inr ⟨_, _, rfl⟩)
theorem no_tab {H : Hp} {a : Addr} (h : H a = none) : ∀ o, H a = some o → ¬ TabO o := fun o e => by rw [h] at e; cases e
theorem VRel.mono {Γ : Gm} {G G' : Gh} {H H' : Hp} (s : Step G H G' H') {u : V} : ∀ {v : Val}, VRel Γ G u v → VRel Γ G' u v
  | .d x, h => Is.mono s.fz x u h
  | .own k, h => by
    obtain ⟨a, e, z⟩ := h
    obtain ⟨r, q⟩ := s.al
    refine ⟨a, ?_, z⟩
    rw [q, List.getElem?_append_left (List.getElem?_eq_some_iff.mp e).1]
    exact e
theorem VRelL.mono {Γ : Gm} {G G' : Gh} {H H' : Hp} (s : Step G H G' H') : ∀ {us : List V} {vs : List Val}, VRelL Γ G us vs → VRelL Γ G' us vs
  | _, _, .nil => .nil
  | _, _, .cons h t => .cons (VRel.mono s h) (VRelL.mono s t)

/-! ## readings -/
def ErrRel (Γ : Gm) (G : Gh) (H : Hp) (cls : Value) (dx : Option Addr) (e : Err) : Prop :=
  ∃ C, Γ.xc e.c = some C ∧ cls = .ref C ∧ (e.ns = [] → dx = none) ∧ (e.ns ≠ [] → ∃ d fs, dx = some d ∧ H d = some (.xd fs) ∧ G.F d = none ∧ d ∉ G.al ∧ fs.map (·.1) = e.ns ∧ IsL Γ G.F (fs.map (·.2)) e.ds)

abbrev WF : WX := fun _ _ _ _ => False
/-- what is wanted of an outcome -/
def Post (Γ : Gm) (W : WX) (G : Gh) (ρ : Rho) (σ : St) (H : Hp) (Q : VK) : R (Val × Mu) → Prop
  | .ok p => ∀ u G' H', Step G H G' H' → Rep Γ G' ρ p.2 σ H' → VRel Γ G' u p.1 → Q u H'
  | .ex e r m => ∀ cls dx G' H', Step G H G' H' → Rep Γ G' r m σ H' → ErrRel Γ G' H' cls dx e → W cls dx σ H'
  | .bad => False
abbrev FE := Rho → Mu → R (Val × Mu)
def tZ (Γ : Gm) (W : WX) (f : FE) : TE := fun σ H Q => ∃ G ρ μ, Rep Γ G ρ μ σ H ∧ Post Γ W G ρ σ H Q (f ρ μ)

theorem Post.step {Γ : Gm} {W : WX} {G G1 : Gh} {ρ : Rho} {σ : St} {H H1 : Hp} {Q : VK} (s : Step G H G1 H1) : ∀ {r : R (Val × Mu)}, Post Γ W G ρ σ H Q r → Post Γ W G1 ρ σ H1 Q r
  | .ok p, h => fun u G' H' z => h u G' H' (s.trans z)
  | .ex e r m, h => fun c d G' H' z => h c d G' H' (s.trans z)
  | .bad, h => h
theorem Post.imp {Γ : Gm} {W : WX} {G : Gh} {ρ : Rho} {σ : St} {H : Hp} {Q Q' : VK} (q : ∀ u H', Q u H' → Q' u H') : ∀ {r : R (Val × Mu)}, Post Γ W G ρ σ H Q r → Post Γ W G ρ σ H Q' r
  | .ok p, h => fun u G' H' a b c => q _ _ (h u G' H' a b c)
  | .ex e r m, h => h
  | .bad, h => h
/-- one evaluation, then the rest -/
theorem Post.bind {Γ : Gm} {W : WX} {G : Gh} {ρ : Rho} {σ : St} {H : Hp} {Q : VK} {Q1 : VK} {k : Val × Mu → R (Val × Mu)} : ∀ {r : R (Val × Mu)}, Post Γ W G ρ σ H Q (r.bind k) →
    (∀ u v μ1 G1 H1, Step G H G1 H1 → Rep Γ G1 ρ μ1 σ H1 → VRel Γ G1 u v → Post Γ W G1 ρ σ H1 Q (k (v, μ1)) → Q1 u H1) → Post Γ W G ρ σ H Q1 r
  | .ok p, h, f => fun u G1 H1 s R v => f u p.1 p.2 G1 H1 s R v (Post.step s h)
  | .ex e r m, h, f => h
  | .bad, h, f => h
theorem PE.imp {X : Cx} {e : Expr} {t t' : TE} (h : PE X e t) (i : ∀ σ H Q, t' σ H Q → t σ H Q) : PE X e t' := ⟨fun pins s σ H Q I q => h.run pins s σ H Q I (i σ H Q q)⟩
theorem PT.imp {X : Cx} {e : Expr} {t t' : TT} (h : PT X e t) (i : ∀ σ H Q, t' σ H Q → t σ H Q) : PT X e t' := ⟨fun pins s σ H Q I q => h.run pins s σ H Q I (i σ H Q q)⟩
theorem PA.imp {X : Cx} {e : List Expr} {t t' : TA} (h : PA X e t) (i : ∀ σ H Q, t' σ H Q → t σ H Q) : PA X e t' := ⟨fun pos pins s σ H Q I q => h.run pos pins s σ H Q I (i σ H Q q)⟩
theorem PS.imp {X : Cx} {e : Stmt} {t t' : TS} (h : PS X e t) (i : ∀ D σ H, t' D σ H → t D σ H) : PS X e t' := ⟨fun pins s σ H D I q => h.run pins s σ H D I (i D σ H q)⟩
theorem PSs.imp {X : Cx} {e : List Stmt} {t t' : TS} (h : PSs X e t) (i : ∀ D σ H, t' D σ H → t D σ H) : PSs X e t' := ⟨fun pins s σ H D I q => h.run pins s σ H D I (i D σ H q)⟩
end Zl
set_option Elab.async false
set_option linter.all false
set_option maxRecDepth 100000
set_option maxHeartbeats 4000000
namespace Zl
open PySem PySem.Spec L2
open PyProof.Rows hiding St

/-! ## new objects -/
theorem Paired.imp {α β : Type} {P Q : α → β → Prop} (f : ∀ a b, P a b → Q a b) : ∀ {l : List α} {m : List β}, Paired P l m → Paired Q l m
  | _, _, .nil => .nil
  | _, _, .cons h t => .cons (f _ _ h) (Paired.imp f t)
theorem same_upd {H : Hp} {p : Addr} {o : HO} (h : H p = none) : Same H (upd H p o) := fun b u e => by rw [upd_ne (ne_of_none e h)]; exact e
section
variable {Γ : Gm} {G : Gh} {ρ : Rho} {μ : Mu} {σ : St} {H : Hp} {p : Addr} {o : HO}
theorem RepM.notin (R : RepM Γ G μ H) (hp : H p = none) : p ∉ G.al := fun h => by
  obtain ⟨o, e⟩ := R.there p h
  rw [hp] at e; cases e
theorem RepM.Fnone (R : RepM Γ G μ H) (hp : H p = none) : G.F p = none := by
  cases e : G.F p with
  | none => rfl
  | some o => rw [R.sub p o e] at hp; cases hp
/-- one step of the relation of a cell: the ghost's F grows off the cell's place, H is kept at it -/
theorem CRel.mono {Γ : Gm} {G G' : Gh} {H H' : Hp} {a : Addr} (hF : Same G.F G'.F) (hn : G.F a = none → G'.F a = none) (hA : ∃ r, G'.al = G.al ++ r) (hH : H' a = H a) : ∀ {c : Cell}, CRel Γ G H a c → CRel Γ G' H' a c := by
  have hv : ∀ {u : V} {v : Val}, VRel Γ G u v → VRel Γ G' u v := fun {u v} h => by
    cases v with
    | d x => exact Is.mono hF x u h
    | own k =>
      obtain ⟨a, e, z⟩ := h
      obtain ⟨r, q⟩ := hA
      refine ⟨a, ?_, z⟩
      rw [q, List.getElem?_append_left (List.getElem?_eq_some_iff.mp e).1]
      exact e
  have hl : ∀ {us : List V} {vs : List Val}, VRelL Γ G us vs → VRelL Γ G' us vs := fun h => Paired.imp (fun _ _ z => hv z) h
  intro c h
  cases c with
  | gone => trivial
  | fz x => exact Is.mono hF x _ h
  | lst vs =>
    obtain ⟨n, us, e, r⟩ := h
    exact ⟨hn n, us, by rw [hH]; exact e, hl r⟩
  | dK ks vs =>
    obtain ⟨n, us, e, k, r⟩ := h
    exact ⟨hn n, us, by rw [hH]; exact e, k, hl r⟩
  | dT ks vs =>
    obtain ⟨n, us, e, k, r⟩ := h
    exact ⟨hn n, us, by rw [hH]; exact e, k, hl r⟩
  | ins c ns vs =>
    obtain ⟨n, C, dx, us, e, q, k, r⟩ := h
    exact ⟨hn n, C, dx, us, e, by rw [hH]; exact q, k, hl r⟩
theorem mem_ne {a p : Addr} {l : List Addr} (h : a ∈ l) (n : p ∉ l) : a ≠ p := fun e => n (e ▸ h)
/-- an object of no matter -/
theorem RepM.other (R : RepM Γ G μ H) (hp : H p = none) : RepM Γ G μ (upd H p o) :=
  ⟨fun a u e => same_upd hp a u (R.sub a u e), R.len, R.nd, fun k a c e1 e2 => CRel.mono (fun _ _ h => h) (fun n => n) ⟨[], by simp⟩ (upd_ne (mem_ne (List.mem_of_getElem? e1) (R.notin hp))) (R.cells k a c e1 e2),
    fun a h => by obtain ⟨u, e⟩ := R.there a h; exact ⟨u, same_upd hp a u e⟩, R.clo, R.tabs.go (fun a u e _ _ => same_upd hp a u e) (fun _ _ _ _ _ h => h) fun a z => .inl z⟩
theorem Step.other (hp : H p = none) : Step G H G (upd H p o) :=
  ⟨fun _ _ h => h, ⟨[], by simp⟩, rfl, fun a u e _ _ => same_upd hp a u e, fun a h n => absurd h n, fun a h n => absurd h n, fun a u e => ⟨u, same_upd hp a u e⟩⟩
/-- a frozen new object -/
abbrev Gh.fzn (G : Gh) (p : Addr) (o : HO) : Gh := ⟨upd G.F p o, G.al, G.ts⟩
theorem RepM.fzNew (R : RepM Γ G μ H) (hp : H p = none) : RepM Γ (G.fzn p o) μ (upd H p o) := by
  have nF := R.Fnone hp
  refine ⟨fun a u e => ?_, R.len, R.nd, fun k a c e1 e2 => ?_, fun a h => by obtain ⟨u, e⟩ := R.there a h; exact ⟨u, same_upd hp a u e⟩, R.clo, R.tabs.go (fun a u e _ _ => same_upd hp a u e) (fun a u _ e _ h => by show upd G.F p o a = none; rw [upd_ne (ne_of_none e hp)]; exact h) fun a z => .inl z⟩
  · by_cases z : a = p
    · have e' : upd G.F p o a = some u := e
      rw [z, upd_same] at e'
      rw [z, upd_same]
      exact e'
    · rw [upd_ne z]
      have e' : upd G.F p o a = some u := e
      rw [upd_ne z] at e'
      exact R.sub a u e'
  · have z := mem_ne (List.mem_of_getElem? e1) (R.notin hp)
    exact CRel.mono (G' := G.fzn p o) (same_upd nF) (fun n => by show upd G.F p o a = none; rw [upd_ne z]; exact n) ⟨[], by simp⟩ (upd_ne z) (R.cells k a c e1 e2)
theorem RepM.stepFz (R : RepM Γ G μ H) (hp : H p = none) : Step G H (G.fzn p o) (upd H p o) := by
  have nF := R.Fnone hp
  refine ⟨same_upd nF, ⟨[], by simp⟩, rfl, fun a u e _ _ => same_upd hp a u e, fun a h n => ?_, fun a h n => absurd h n, fun a u e => ⟨u, same_upd hp a u e⟩⟩
  by_cases z : a = p
  · exact .inl (z ▸ hp)
  · have n' : upd G.F p o a ≠ none := n
    rw [upd_ne z] at n'
    exact absurd h n'
/-- a live new object -/
abbrev Gh.lvn (G : Gh) (p : Addr) : Gh := ⟨G.F, G.al ++ [p], G.ts⟩
theorem RepM.stepLv (hp : H p = none) : Step G H (G.lvn p) (upd H p o) :=
  ⟨fun _ _ h => h, ⟨[p], rfl⟩, rfl, fun a u e _ _ => same_upd hp a u e, fun a h n => absurd h n, fun a h n => by
    rcases List.mem_append.mp h with z | z
    · exact absurd z n
    · rw [List.mem_singleton.mp z]; exact hp, fun a u e => ⟨u, same_upd hp a u e⟩⟩
theorem RepM.lvNew (R : RepM Γ G μ H) (hp : H p = none) {c : Cell} (hc : CRel Γ (G.lvn p) (upd H p o) p c) : RepM Γ (G.lvn p) (μ ++ [c]) (upd H p o) := by
  refine ⟨fun a u e => same_upd hp a u (R.sub a u e), by simp [R.len], ?_, fun k a c' e1 e2 => ?_, fun a h => ?_, fun t ht => ?_, R.tabs.go (fun a u e _ _ => same_upd hp a u e) (fun _ _ _ _ _ h => h) fun a z => (List.mem_append.mp z).imp id fun q => by rw [List.mem_singleton.mp q]; exact no_tab hp⟩
  · refine List.nodup_append.mpr ⟨R.nd, by simp, fun a h b hb => ?_⟩
    rw [List.mem_singleton.mp hb]
    exact mem_ne h (R.notin hp)
  · by_cases hk : k < G.al.length
    · have e1' : G.al[k]? = some a := by
        have q : (G.al ++ [p])[k]? = some a := e1
        rwa [List.getElem?_append_left hk] at q
      have e2' : μ[k]? = some c' := by rwa [List.getElem?_append_left (by rw [← R.len]; exact hk)] at e2
      exact CRel.mono (G := G) (G' := G.lvn p) (fun _ _ h => h) (fun n => n) ⟨[p], by rfl⟩ (upd_ne (mem_ne (List.mem_of_getElem? e1') (R.notin hp))) (R.cells k a c' e1' e2')
    · have q : (G.al ++ [p])[k]? = some a := e1
      have hk2 : k = G.al.length := by
        have := (List.getElem?_eq_some_iff.mp q).1
        simp at this
        omega
      subst hk2
      rw [List.getElem?_append_right (Nat.le_refl _)] at q
      rw [R.len, List.getElem?_append_right (Nat.le_refl _)] at e2
      simp at q e2
      subst q e2
      exact hc
  · rcases List.mem_append.mp h with z | z
    · obtain ⟨u, e⟩ := R.there a z; exact ⟨u, same_upd hp a u e⟩
    · rw [List.mem_singleton.mp z]; exact ⟨o, upd_same⟩
  · obtain ⟨h1, h2⟩ := R.clo t ht
    refine ⟨by rw [List.length_append]; omega, fun k c' j hk e m => h2 k c' j hk ?_ m⟩
    rwa [List.getElem?_append_left (by omega)] at e
/-- a live object changes -/
theorem RepM.write (R : RepM Γ G μ H) {k : Nat} (e1 : G.al[k]? = some p) (hF : G.F p = none) {c : Cell} (hc : CRel Γ G (upd H p o) p c) (hv : ∀ t ∈ G.ts, k < t → ∀ j, Val.own j ∈ c.vals → j < t) : RepM Γ G (μ.set k c) (upd H p o) := by
  have off : ∀ b u, G.F b = some u → b ≠ p := fun b u e z => by rw [z, hF] at e; cases e
  refine ⟨fun a u e => by rw [upd_ne (off a u e)]; exact R.sub a u e, by simp [R.len], R.nd, fun j a c' h1 h2 => ?_, fun a h => ?_, fun t ht => ?_, R.tabs.go (fun a u e _ n => by rw [upd_ne (mem_ne (a := p) (List.mem_of_getElem? e1) n).symm]; exact e) (fun _ _ _ _ _ h => h) fun a z => .inl z⟩
  · by_cases hj : j = k
    · subst hj
      rw [e1] at h1
      cases h1
      rw [List.getElem?_set_self (by rw [← R.len]; exact (List.getElem?_eq_some_iff.mp e1).1)] at h2
      cases h2
      exact hc
    · rw [List.getElem?_set_ne (Ne.symm hj)] at h2
      have ne : a ≠ p := fun z => hj (by subst z; exact (List.getElem_inj R.nd).mp ((List.getElem?_eq_some_iff.mp h1).2.trans (List.getElem?_eq_some_iff.mp e1).2.symm))
      exact CRel.mono (fun _ _ h => h) (fun n => n) ⟨[], by simp⟩ (upd_ne ne) (R.cells j a c' h1 h2)
  · by_cases z : a = p
    · rw [z]; exact ⟨o, upd_same⟩
    · obtain ⟨u, e⟩ := R.there a h; exact ⟨u, by rw [upd_ne z]; exact e⟩
  · obtain ⟨h1, h2⟩ := R.clo t ht
    refine ⟨by rw [List.length_set]; exact h1, fun j c' i hj e m => ?_⟩
    by_cases z : j = k
    · rw [z, List.getElem?_set_self (by rw [← R.len]; exact (List.getElem?_eq_some_iff.mp e1).1)] at e
      have e := Option.some.inj e
      rw [← e] at m
      exact hv t ht (by omega) i m
    · rw [List.getElem?_set_ne (Ne.symm z)] at e
      exact h2 j c' i hj e m
theorem Step.write {k : Nat} (e1 : G.al[k]? = some p) : Step G H G (upd H p o) :=
  ⟨fun _ _ h => h, ⟨[], by simp⟩, rfl, fun a u e _ n => by rw [upd_ne (mem_ne (a := p) (List.mem_of_getElem? e1) n).symm]; exact e, fun a h n => absurd h n, fun a h n => absurd h n, fun a u e => by
    by_cases z : a = p
    · rw [z]; exact ⟨o, upd_same⟩
    · exact ⟨u, by rw [upd_ne z]; exact e⟩⟩
theorem slots_step {G' : Gh} {H' : Hp} (s : Step G H G' H') (h : ∀ (i : Nat) v, ρ.s[i]? = some (some v) → ∃ u, σ[i]? = some (some u) ∧ VRel Γ G u v) : ∀ (i : Nat) v, ρ.s[i]? = some (some v) → ∃ u, σ[i]? = some (some u) ∧ VRel Γ G' u v :=
  fun i v e => let ⟨u, a, b⟩ := h i v e; ⟨u, a, VRel.mono s b⟩
theorem Rep.go (R : Rep Γ G ρ μ σ H) {G' : Gh} {H' : Hp} {μ' : Mu} (s : Step G H G' H') (m : RepM Γ G' μ' H') : Rep Γ G' ρ μ' σ H' := ⟨m, slots_step s R.slots, R.rl, by rw [s.ts]; exact R.n0, by rw [s.ts]; exact R.top⟩
end

/-! ## flat answers -/
section
variable {Γ : Gm} {W : WX} {G : Gh} {ρ : Rho} {μ : Mu} {σ : St} {H : Hp} {Q : VK}
theorem Post.here {v : Val} {u : V} (R : Rep Γ G ρ μ σ H) (h : Post Γ W G ρ σ H Q (.ok (v, μ))) (r : VRel Γ G u v) : Q u H := h u G H (Step.refl G H) R r
theorem Post.non (R : Rep Γ G ρ μ σ H) (h : Post Γ W G ρ σ H Q (.ok (.d .non, μ))) : Q .non H := Post.here R h (by show Is Γ _ _ _; unfold Is; rfl)
theorem Post.int {i : Int} (R : Rep Γ G ρ μ σ H) (h : Post Γ W G ρ σ H Q (.ok (.d (.int i), μ))) : Q (.int i) H := Post.here R h (by show Is Γ _ _ _; unfold Is; rfl)
theorem Post.bl {i : Bool} (R : Rep Γ G ρ μ σ H) (h : Post Γ W G ρ σ H Q (.ok (.d (.bl i), μ))) : Q (.bl i) H := Post.here R h (by show Is Γ _ _ _; unfold Is; rfl)
theorem Post.str {i : Str} (R : Rep Γ G ρ μ σ H) (h : Post Γ W G ρ σ H Q (.ok (.d (.str i), μ))) : Q (.str i) H := Post.here R h (by show Is Γ _ _ _; unfold Is; rfl)
/-- a new list, a new tuple of data -/
theorem Post.lst {ds : List D} {us : List V} (R : Rep Γ G ρ μ σ H) (h : Post Γ W G ρ σ H Q (.ok (.d (.lst ds), μ))) (l : IsL Γ G.F us ds) : ∀ p, H p = none → Q (.ref p) (upd H p (.lst us)) := fun p hp =>
  have s := R.toRepM.stepFz (o := .lst us) hp
  h (.ref p) _ _ s (R.go s (R.toRepM.fzNew hp)) (by show Is Γ (upd G.F p (.lst us)) _ _; unfold Is; exact ⟨p, us, rfl, upd_same, IsL.mono s.fz _ _ l⟩)
theorem Post.tup {ds : List D} {us : List V} (R : Rep Γ G ρ μ σ H) (h : Post Γ W G ρ σ H Q (.ok (.d (.tup ds), μ))) (l : IsL Γ G.F us ds) : ∀ p, H p = none → Q (.ref p) (upd H p (.tup us)) := fun p hp =>
  have s := R.toRepM.stepFz (o := .tup us) hp
  h (.ref p) _ _ s (R.go s (R.toRepM.fzNew hp)) (by show Is Γ (upd G.F p (.tup us)) _ _; unfold Is; exact ⟨p, us, rfl, upd_same, IsL.mono s.fz _ _ l⟩)
/-- a new live list -/
theorem Post.lstL {vs : List Val} {us : List V} (R : Rep Γ G ρ μ σ H) (h : Post Γ W G ρ σ H Q (.ok (.own μ.length, μ ++ [.lst vs]))) (l : VRelL Γ G us vs) : ∀ p, H p = none → Q (.ref p) (upd H p (.lst us)) := fun p hp =>
  have s : Step G H (G.lvn p) (upd H p (.lst us)) := RepM.stepLv hp
  have m := R.toRepM.lvNew (o := .lst us) (c := .lst vs) hp ⟨R.toRepM.Fnone hp, us, upd_same, VRelL.mono s l⟩
  h (.ref p) _ _ s (R.go s m) ⟨p, by show (G.al ++ [p])[μ.length]? = _; rw [← R.len]; simp, rfl⟩
end

/-! ## what a value is -/
section
variable {Γ : Gm} {G : Gh} {μ : Mu} {H : Hp} {u : V}
theorem VRel.non_ (r : VRel Γ G u (.d .non)) : u = .non := by have r : Is Γ G.F u _ := r; unfold Is at r; exact r
theorem VRel.int_ {i : Int} (r : VRel Γ G u (.d (.int i))) : u = .int i := by have r : Is Γ G.F u _ := r; unfold Is at r; exact r
theorem VRel.bl_ {i : Bool} (r : VRel Γ G u (.d (.bl i))) : u = .bl i := by have r : Is Γ G.F u _ := r; unfold Is at r; exact r
theorem VRel.str_ {i : Str} (r : VRel Γ G u (.d (.str i))) : u = .str i := by have r : Is Γ G.F u _ := r; unfold Is at r; exact r
theorem VRel.lst_ (R : RepM Γ G μ H) {ds : List D} (r : VRel Γ G u (.d (.lst ds))) : ∃ a us, u = .ref a ∧ H a = some (.lst us) ∧ IsL Γ G.F us ds := by
  have r : Is Γ G.F u _ := r
  unfold Is at r
  obtain ⟨a, us, e, h, l⟩ := r
  exact ⟨a, us, e, R.sub _ _ h, l⟩
theorem VRel.tupH (R : RepM Γ G μ H) {ds : List D} (r : VRel Γ G u (.d (.tup ds))) : ∃ a us, u = .ref a ∧ H a = some (.tup us) ∧ IsL Γ G.F us ds := by
  have r : Is Γ G.F u _ := r
  unfold Is at r
  obtain ⟨a, us, e, h, l⟩ := r
  exact ⟨a, us, e, R.sub _ _ h, l⟩
theorem VRel.tup_ (R : RepM Γ G μ H) {ds : List D} (r : VRel Γ G u (.d (.tup ds))) : ∃ a us, u = .ref a ∧ SqT Γ.K H a us ∧ IsL Γ G.F us ds :=
  let ⟨a, us, e, h, l⟩ := VRel.tupH R r
  ⟨a, us, e, SqT.of h, l⟩
theorem VRel.kt_ (R : RepM Γ G μ H) {ds : List D} (r : VRel Γ G u (.d (.kt ds))) : ∃ a us, u = .ref a ∧ SqT Γ.K H a us ∧ IsL Γ G.F us ds := by
  have r : Is Γ G.F u _ := r
  unfold Is at r
  obtain ⟨a, us, e, h, l⟩ := r
  exact ⟨a, us, e, Same.seqT R.sub h, l⟩
/-- the items of a tuple -/
def tupV : Val → Option (List D)
  | .d (.tup ds) => some ds
  | .d (.kt ds) => some ds
  | _ => none
theorem tupV_ok (R : RepM Γ G μ H) {v : Val} {ds : List D} (r : VRel Γ G u v) (e : tupV v = some ds) : ∃ a us, u = .ref a ∧ SqT Γ.K H a us ∧ IsL Γ G.F us ds := by
  cases v with
  | d x =>
    cases x with
    | tup es => cases e; exact VRel.tup_ R r
    | kt es => cases e; exact VRel.kt_ R r
    | _ => cases e
  | own k => cases e
/-- data of values -/
def dsOf : List Val → Option (List D)
  | [] => some []
  | .d x :: r => (dsOf r).map (x :: ·)
  | .own _ :: _ => none
theorem dsOf_ok : ∀ {us : List V} {vs : List Val} {ds : List D}, VRelL Γ G us vs → dsOf vs = some ds → IsL Γ G.F us ds
  | _, _, _, .nil, e => by cases e; exact IsL.nil
  | _, .d x :: r, _, .cons h t, e => by
    unfold dsOf at e
    cases q : dsOf r with
    | none => rw [q] at e; cases e
    | some es =>
      rw [q] at e
      cases e
      exact IsL.cons h (dsOf_ok t q)
  | _, .own _ :: _, _, .cons h t, e => by cases e
theorem relOf : ∀ {ds : List D} {us : List V}, IsL Γ G.F us ds → VRelL Γ G us (ds.map Val.d)
  | [], us, h => by rw [h.inv0]; exact .nil
  | d :: ds, us, h => by
    obtain ⟨v, r, e, a, b⟩ := h.inv
    subst e
    exact .cons a (relOf b)
/-- the items of a list, frozen or live -/
def lstV (μ : Mu) : Val → Option (List D)
  | .d (.lst ds) => some ds
  | .own k => (match μ[k]? with
    | some (.lst vs) => dsOf vs
    | _ => none)
  | _ => none
theorem lstV_ok (R : RepM Γ G μ H) {v : Val} {ds : List D} (r : VRel Γ G u v) (e : lstV μ v = some ds) : ∃ a us, u = .ref a ∧ H a = some (.lst us) ∧ IsL Γ G.F us ds := by
  cases v with
  | d x =>
    cases x with
    | lst es => cases e; exact VRel.lst_ R r
    | _ => cases e
  | own k =>
    obtain ⟨a, ha, ea⟩ := r
    unfold lstV at e
    cases q : μ[k]? with
    | none => simp only [q] at e; cases e
    | some c =>
      simp only [q] at e
      cases c with
      | lst vs =>
        obtain ⟨n, us, h, l⟩ := R.cells k a _ ha q
        exact ⟨a, us, ea, h, dsOf_ok l e⟩
      | _ => cases e
/-- .. of a list or a tuple -/
def seqV (μ : Mu) : Val → Option (List D)
  | .d (.tup ds) => some ds
  | .d (.kt ds) => some ds
  | v => lstV μ v
theorem seqV_ok (R : RepM Γ G μ H) {v : Val} {ds : List D} (r : VRel Γ G u v) (e : seqV μ v = some ds) : ∃ a us, u = .ref a ∧ (SqL Γ.K H a us ∨ SqT Γ.K H a us) ∧ IsL Γ G.F us ds := by
  have lst : lstV μ v = some ds → ∃ a us, u = .ref a ∧ (SqL Γ.K H a us ∨ SqT Γ.K H a us) ∧ IsL Γ G.F us ds := fun e =>
    let ⟨a, us, h1, h2, h3⟩ := lstV_ok R r e
    ⟨a, us, h1, .inl (SqL.of h2), h3⟩
  cases v with
  | d x =>
    cases x with
    | tup es =>
      cases e
      obtain ⟨a, us, h1, h2, h3⟩ := VRel.tup_ R r
      exact ⟨a, us, h1, .inr h2, h3⟩
    | kt es =>
      cases e
      obtain ⟨a, us, h1, h2, h3⟩ := VRel.kt_ R r
      exact ⟨a, us, h1, .inr h2, h3⟩
    | _ => exact lst e
  | own k => exact lst e
end

/-! ## two operands -/
section
variable {Γ : Gm} {W : WX} {X : Cx}
def fBin (o : Val → Val → Mu → R (Val × Mu)) (f g : FE) : FE := fun ρ μ => (f ρ μ).bind fun p => (g ρ p.2).bind fun q => o p.1 q.1 q.2
def fUn (o : Val → Mu → R (Val × Mu)) (f : FE) : FE := fun ρ μ => (f ρ μ).bind fun p => o p.1 p.2
/-- an operator's reading, by values -/
def Op2 (Γ : Gm) (W : WX) (r : R2) (o : Val → Val → Mu → R (Val × Mu)) : Prop := ∀ (G : Gh) (ρ : Rho) (μ : Mu) (σ : St) (H : Hp) (Q : VK) (x y : V) (v w : Val), Rep Γ G ρ μ σ H → VRel Γ G x v → VRel Γ G y w → Post Γ W G ρ σ H Q (o v w μ) → r x y H Q
def Op1 (Γ : Gm) (W : WX) (r : V → Hp → VK → Prop) (o : Val → Mu → R (Val × Mu)) : Prop := ∀ (G : Gh) (ρ : Rho) (μ : Mu) (σ : St) (H : Hp) (Q : VK) (x : V) (v : Val), Rep Γ G ρ μ σ H → VRel Γ G x v → Post Γ W G ρ σ H Q (o v μ) → r x H Q
theorem tZ_bin {r : R2} {o : Val → Val → Mu → R (Val × Mu)} {f g : FE} (h : Op2 Γ W r o) (σ : St) (H : Hp) (Q : VK) (t : tZ Γ W (fBin o f g) σ H Q) : tOp r (tZ Γ W f) (tZ Γ W g) σ H Q := by
  obtain ⟨G, ρ, μ, R, p⟩ := t
  refine ⟨G, ρ, μ, R, Post.bind p fun x v μ1 G1 H1 s1 R1 r1 p1 => ⟨G1, ρ, μ1, R1, Post.bind p1 fun y w μ2 G2 H2 s2 R2 r2 p2 => ?_⟩⟩
  exact h G2 ρ μ2 σ H2 Q x y v w R2 (VRel.mono s2 r1) r2 p2
theorem tZ_un {r : V → Hp → VK → Prop} {o : Val → Mu → R (Val × Mu)} {f : FE} (h : Op1 Γ W r o) (σ : St) (H : Hp) (Q : VK) (t : tZ Γ W (fUn o f) σ H Q) : tUn r (tZ Γ W f) σ H Q := by
  obtain ⟨G, ρ, μ, R, p⟩ := t
  exact ⟨G, ρ, μ, R, Post.bind p fun x v μ1 G1 H1 s1 R1 r1 p1 => h G1 ρ μ1 σ H1 Q x v R1 r1 p1⟩
end

/-! ## names, constants -/
section
variable {Γ : Gm} {W : WX} {X : Cx} {pos : Pos}
/-- a cell that is frozen is read as its datum -/
def rdV (μ : Mu) : Val → Option Val
  | .d x => some (.d x)
  | .own k => (match μ[k]? with
    | some (.fz x) => some (.d x)
    | some .gone => none
    | some _ => some (.own k)
    | none => none)
theorem rdV_ok {G : Gh} {μ : Mu} {H : Hp} (R : RepM Γ G μ H) {u : V} {v w : Val} (r : VRel Γ G u v) (e : rdV μ v = some w) : VRel Γ G u w := by
  cases v with
  | d x => cases e; exact r
  | own k =>
    unfold rdV at e
    cases q : μ[k]? with
    | none => simp only [q] at e; cases e
    | some c =>
      simp only [q] at e
      cases c with
      | fz x =>
        cases e
        obtain ⟨a, ha, ea⟩ := r
        subst ea
        exact R.cells k a _ ha q
      | gone => cases e
      | _ => cases e; exact r
def fName (i : Nat) : FE := fun ρ μ => match ρ.s[i]? with
  | some (some v) => (match rdV μ v with
    | some w => .ok (w, μ)
    | none => .bad)
  | _ => .bad
theorem ze_name {i : Nat} {x : Str} (hN : X.N[i]? = some x) (hv : Vis X.env.scope x) (hd : (x == ("__debug__" : Str)) = false) (hcd : (x == ("__classdict__" : Str)) = false) : PE X (.Name x pos) (tZ Γ W (fName i)) := by
  refine PE.imp (pe_var hN hv hd hcd) fun σ H Q t => ?_
  obtain ⟨G, ρ, μ, R, p⟩ := t
  unfold fName at p
  cases e : ρ.s[i]? with
  | none => simp only [e] at p; exact p.elim
  | some o =>
    cases o with
    | none => simp only [e] at p; exact p.elim
    | some v =>
      simp only [e] at p
      obtain ⟨u, hu, r⟩ := R.slots i v e
      cases q : rdV μ v with
      | none => simp only [q] at p; exact p.elim
      | some w =>
        simp only [q] at p
        exact ⟨u, hu, Post.here R p (rdV_ok R.toRepM r q)⟩
def fC (x : D) : FE := fun _ μ => .ok (.d x, μ)
theorem ze_int {i : Int} {j} : PE X (.Constant (.int i) j pos) (tZ Γ W (fC (.int i))) := PE.imp pe_int fun σ H Q ⟨G, ρ, μ, R, p⟩ => Post.int R p
theorem ze_bl {b : Bool} {j} : PE X (.Constant (.bool b) j pos) (tZ Γ W (fC (.bl b))) := PE.imp pe_bl fun σ H Q ⟨G, ρ, μ, R, p⟩ => Post.bl R p
theorem ze_non {j} : PE X (.Constant .none j pos) (tZ Γ W (fC .non)) := PE.imp pe_non fun σ H Q ⟨G, ρ, μ, R, p⟩ => Post.non R p
theorem ze_str {x : Str} {j} : PE X (.Constant (.str x) j pos) (tZ Γ W (fC (.str x))) := PE.imp pe_str fun σ H Q ⟨G, ρ, μ, R, p⟩ => Post.str R p
/-- a module's constant that is no object -/
theorem ze_glob {x : Str} {v : V} {u : Value} {d : D} (hg : Gl X x) (hm : X.mg x = some u) (r : RelV v u) (hd : (x == ("__debug__" : Str)) = false) (hv : ∀ F, Is Γ F v d) : PE X (.Name x pos) (tZ Γ W (fC d)) :=
  PE.imp (pe_glob hg hm r hd) fun σ H Q ⟨G, ρ, μ, R, p⟩ => Post.here R p (hv _)
end
end Zl
set_option Elab.async false
set_option linter.all false
set_option maxRecDepth 100000
set_option maxHeartbeats 4000000
namespace Zl
open PySem PySem.Spec L2
open PyProof.Rows hiding St

theorem Op2.mk {Γ : Gm} {W : WX} {r : R2} {o : Val → Val → Mu → R (Val × Mu)} (h : ∀ (G : Gh) (ρ : Rho) (μ : Mu) (σ : St) (H : Hp) (Q : VK) (x y : V) (v w : Val), Rep Γ G ρ μ σ H → VRel Γ G x v → VRel Γ G y w → Post Γ W G ρ σ H Q (o v w μ) → r x y H Q) : Op2 Γ W r o := h

/-! ## arithmetic -/
def oAdd : Val → Val → Mu → R (Val × Mu)
  | .d (.int i), .d (.int j), μ => .ok (.d (.int (i + j)), μ)
  | .d (.str i), .d (.str j), μ => if i.length + j.length ≤ sizeLine then .ok (.d (.str (i ++ j)), μ) else .bad
  | .d (.tup a), .d (.tup b), μ => if a.length + b.length ≤ sizeLine then .ok (.d (.tup (a ++ b)), μ) else .bad
  | v, w, μ => (match lstV μ v, lstV μ w with
    | some a, some b => if a.length + b.length ≤ sizeLine then .ok (.d (.lst (a ++ b)), μ) else .bad
    | _, _ => .bad)
section
variable {Γ : Gm} {W : WX}
abbrev rAddA (K : PySem.W.Frag) : R2 := fun x y H Q => (∃ i j, x = .int i ∧ y = .int j ∧ Q (.int (i + j)) H) ∨ ((∃ i j, x = .str i ∧ y = .str j ∧ i.length + j.length ≤ sizeLine ∧ Q (.str (i ++ j)) H) ∨ (rCatA K x y H Q ∨ rCat x y H Q))
theorem op_addA {X : Cx} : OpR X (binaryOp .Add) (rAddA X.K) := op_add.or (op_add_str.or (op_catA.or op_cat))
theorem oAdd_lst {G : Gh} {ρ : Rho} {μ : Mu} {σ : St} {H : Hp} {Q : VK} {x y : V} {v w : Val} (R : Rep Γ G ρ μ σ H) (rx : VRel Γ G x v) (ry : VRel Γ G y w)
    (p : Post Γ W G ρ σ H Q (match lstV μ v, lstV μ w with
    | some a, some b => if a.length + b.length ≤ sizeLine then .ok (.d (.lst (a ++ b)), μ) else .bad
    | _, _ => .bad)) : rCat x y H Q := by
  cases e1 : lstV μ v with
  | none => simp only [e1] at p; exact p.elim
  | some a =>
    cases e2 : lstV μ w with
    | none => simp only [e1, e2] at p; exact p.elim
    | some b =>
      simp only [e1, e2] at p
      by_cases hz : a.length + b.length ≤ sizeLine
      · rw [if_pos hz] at p
        obtain ⟨l, us, h1, h2, h3⟩ := lstV_ok R.toRepM rx e1
        obtain ⟨m, ws, k1, k2, k3⟩ := lstV_ok R.toRepM ry e2
        exact ⟨l, m, us, ws, h1, k1, h2, k2, by rw [h3.length, k3.length]; exact hz, Post.lst R p (h3.append k3)⟩
      · rw [if_neg hz] at p; exact p.elim
theorem Post.oldT {G : Gh} {ρ : Rho} {μ : Mu} {σ : St} {H : Hp} {Q : VK} {a : Addr} {us : List V} {ds : List D} (R : Rep Γ G ρ μ σ H) (h : Post Γ W G ρ σ H Q (.ok (.d (.tup ds), μ))) (r : VRel Γ G (.ref a) (.d (.tup ds))) : Q (.ref a) H := Post.here R h r
theorem oAdd_ok : Op2 Γ W (rAddA Γ.K) oAdd := by
  intro G ρ μ σ H Q x y v w R rx ry p
  unfold oAdd at p
  split at p
  · exact .inl ⟨_, _, rx.int_, ry.int_, Post.int R p⟩
  · rename_i i j
    split at p
    · rename_i hz
      exact .inr (.inl ⟨i, j, rx.str_, ry.str_, hz, Post.str R p⟩)
    · exact p.elim
  · rename_i a b
    split at p
    · rename_i hz
      obtain ⟨l, us, h1, h2, h3⟩ := VRel.tup_ R.toRepM rx
      obtain ⟨m, ws, k1, k2, k3⟩ := VRel.tup_ R.toRepM ry
      refine .inr (.inr (.inl ⟨l, m, us, ws, h1, k1, h2, k2, by rw [h3.length, k3.length]; exact hz, fun e => ?_, fun _ e => ?_, fun _ _ => Post.tup R p (h3.append k3)⟩))
      · have ea : a = [] := by have := h3.length; rw [e] at this; exact List.length_eq_zero_iff.mp this.symm
        subst ea
        exact Post.here R p (by rw [← k1]; simpa using ry)
      · have eb : b = [] := by have := k3.length; rw [e] at this; exact List.length_eq_zero_iff.mp this.symm
        subst eb
        exact Post.here R p (by rw [← h1]; simpa using rx)
    · exact p.elim
  · exact .inr (.inr (.inr (oAdd_lst R rx ry p)))

/-- an operator upon ints -/
def oInt (c : Int → Int → Bool) (g : Int → Int → Int) : Val → Val → Mu → R (Val × Mu)
  | .d (.int i), .d (.int j), μ => if c i j = true then .ok (.d (.int (g i j)), μ) else .bad
  | _, _, _ => .bad
theorem oInt_ok {C : Int → Int → Prop} {c : Int → Int → Bool} {g : Int → Int → Int} (h : ∀ i j, c i j = true → C i j) : Op2 Γ W (rI C fun i j => .int (g i j)) (oInt c g) := by
  intro G ρ μ σ H Q x y v w R rx ry p
  unfold oInt at p
  split at p
  · rename_i i j
    split at p
    · rename_i hc
      exact ⟨i, j, rx.int_, ry.int_, h _ _ hc, Post.int R p⟩
    · exact p.elim
  · exact p.elim
def oInt0 (g : Int → Int → Int) : Val → Val → Mu → R (Val × Mu)
  | .d (.int i), .d (.int j), μ => .ok (.d (.int (g i j)), μ)
  | _, _, _ => .bad
theorem oInt0_ok {g : Int → Int → Int} : Op2 Γ W (rI0 fun i j => .int (g i j)) (oInt0 g) := by
  intro G ρ μ σ H Q x y v w R rx ry p
  unfold oInt0 at p
  split at p
  · exact ⟨_, _, rx.int_, ry.int_, Post.int R p⟩
  · exact p.elim
def oSub := oInt0 fun i j => i - j
/-- a * b: ints below 2 ^ 64 on one side; a list by an int -/
def oMul : Val → Val → Mu → R (Val × Mu)
  | .d (.int i), .d (.int j), μ => if (-(2 ^ 64) < i ∧ i < 2 ^ 64) ∨ (-(2 ^ 64) < j ∧ j < 2 ^ 64) then .ok (.d (.int (i * j)), μ) else .bad
  | v, .d (.int j), μ => (match lstV μ v with
    | some a => if -(2 ^ 63) ≤ j ∧ j < 2 ^ 63 ∧ a.length * j.toNat ≤ sizeLine then .ok (.d (.lst (List.replicate j.toNat a).flatten), μ) else .bad
    | none => .bad)
  | _, _, _ => .bad
abbrev rMulA : R2 := fun x y H Q => (rI CMul fun i j => .int (i * j)) x y H Q ∨ rRep x y H Q
theorem op_mulA {X : Cx} : OpR X (binaryOp .Mult) rMulA := op_mul.or op_rep
theorem IsL.rep {F : Hp} {us : List V} {ds : List D} (h : IsL Γ F us ds) : ∀ n : Nat, IsL Γ F (List.replicate n us).flatten (List.replicate n ds).flatten
  | 0 => IsL.nil
  | n + 1 => by rw [List.replicate_succ, List.replicate_succ, List.flatten_cons, List.flatten_cons]; exact h.append (IsL.rep h n)
theorem oMul_ok : Op2 Γ W rMulA oMul := by
  intro G ρ μ σ H Q x y v w R rx ry p
  unfold oMul at p
  split at p
  · rename_i i j
    split at p
    · rename_i hc
      exact .inl ⟨i, j, rx.int_, ry.int_, hc, Post.int R p⟩
    · exact p.elim
  · rename_i j hn
    cases e1 : lstV μ v with
    | none => simp only [e1] at p; exact p.elim
    | some a =>
      simp only [e1] at p
      split at p
      · rename_i hc
        obtain ⟨l, us, h1, h2, h3⟩ := lstV_ok R.toRepM rx e1
        exact .inr ⟨l, j, us, h1, ry.int_, h2, hc.1, hc.2.1, by rw [h3.length]; exact hc.2.2, Post.lst R p (h3.rep _)⟩
      · exact p.elim
  · exact p.elim
def oMod := oInt (fun _ j => decide (0 < j)) fun i j => i % j
theorem oMod_ok : Op2 Γ W (rI (fun _ j => 0 < j) fun i j => .int (i % j)) oMod := oInt_ok fun _ _ h => of_decide_eq_true h
def oFdiv := oInt (fun _ j => decide (0 < j ∧ j < 2 ^ 64)) fun i j => i / j
theorem oFdiv_ok : Op2 Γ W (rI CDivW fun i j => .int (i / j)) oFdiv := oInt_ok fun i j h => by
  have h := of_decide_eq_true h
  exact wide_div (b := 64) h.1 (by omega) (by decide) (by decide)
def oPow := oInt (fun i j => decide (0 ≤ j ∧ j ≤ 1000000 ∧ i.natAbs < 2 ^ 64)) fun i j => i ^ j.toNat
theorem oPow_ok : Op2 Γ W (rI CPow fun i j => .int (i ^ j.toNat)) oPow := oInt_ok fun i j h => show 0 ≤ j ∧ j ≤ 1000000 ∧ i.natAbs < 2 ^ 64 from of_decide_eq_true h
theorem oSub_ok : Op2 Γ W (rI0 fun i j => .int (i - j)) oSub := oInt0_ok
def oNeg : Val → Mu → R (Val × Mu)
  | .d (.int i), μ => .ok (.d (.int (-i)), μ)
  | _, _ => .bad
theorem oNeg_ok : Op1 Γ W (rU fun i => .int (-i)) oNeg := by
  intro G ρ μ σ H Q x v R rx p
  unfold oNeg at p
  split at p
  · exact ⟨_, rx.int_, Post.int R p⟩
  · exact p.elim
end

/-! ## comparisons -/
mutual
def D.py : D → Option PyData
  | .non => some .none
  | .bl b => some (.bool b)
  | .int i => some (.int i)
  | .str x => some (.str x)
  | .tup ds => (D.pyL ds).map .tuple
  | .lst ds => (D.pyL ds).map .list
  | .dK _ _ => none
  | .dT _ _ => none
  | .ins _ _ _ => none
  | .obj _ => none
  | .scr _ => none
  | .kt ds => (D.pyL ds).map .tuple
def D.pyL : List D → Option (List PyData)
  | [] => some []
  | d :: ds => (D.py d).bind fun p => (D.pyL ds).map (p :: ·)
end
section
variable {Γ : Gm} {W : WX}
mutual
theorem D.dp {F H : Hp} (s : Same F H) : ∀ (d : D) (v : V) (p : PyData), Is Γ F v d → d.py = some p → Dp Γ.K H v p
  | .non, v, p, h, e => by unfold Is at h; unfold D.py at e; cases e; subst h; exact .non
  | .bl b, v, p, h, e => by unfold Is at h; unfold D.py at e; cases e; subst h; exact .bl b
  | .int b, v, p, h, e => by unfold Is at h; unfold D.py at e; cases e; subst h; exact .int b
  | .str b, v, p, h, e => by unfold Is at h; unfold D.py at e; cases e; subst h; exact .str b
  | .tup ds, v, p, h, e => by
    unfold Is at h
    unfold D.py at e
    obtain ⟨a, vs, rfl, q, l⟩ := h
    cases z : D.pyL ds with
    | none => rw [z] at e; cases e
    | some ps => rw [z] at e; cases e; exact .tup (SqT.of (s _ _ q)) (D.dpL s ds vs ps l z)
  | .kt ds, v, p, h, e => by
    unfold Is at h
    unfold D.py at e
    obtain ⟨a, vs, rfl, q, l⟩ := h
    cases z : D.pyL ds with
    | none => rw [z] at e; cases e
    | some ps => rw [z] at e; cases e; exact .tup (Same.seqT s q) (D.dpL s ds vs ps l z)
  | .lst ds, v, p, h, e => by
    unfold Is at h
    unfold D.py at e
    obtain ⟨a, vs, rfl, q, l⟩ := h
    cases z : D.pyL ds with
    | none => rw [z] at e; cases e
    | some ps => rw [z] at e; cases e; exact .lst (SqL.of (s _ _ q)) (D.dpL s ds vs ps l z)
  | .dK _ _, v, p, h, e => by unfold D.py at e; cases e
  | .dT _ _, v, p, h, e => by unfold D.py at e; cases e
  | .ins _ _ _, v, p, h, e => by unfold D.py at e; cases e
  | .obj _, v, p, h, e => by unfold D.py at e; cases e
  | .scr _, v, p, h, e => by unfold D.py at e; cases e
theorem D.dpL {F H : Hp} (s : Same F H) : ∀ (ds : List D) (vs : List V) (ps : List PyData), IsL Γ F vs ds → D.pyL ds = some ps → DpAll Γ.K H vs ps
  | [], vs, ps, h, e => by unfold D.pyL at e; cases e; rw [h.inv0]; exact .nil
  | d :: ds, vs, ps, h, e => by
    obtain ⟨v, r, rfl, h1, h2⟩ := h.inv
    unfold D.pyL at e
    cases z : D.py d with
    | none => rw [z] at e; cases e
    | some p =>
      rw [z] at e
      cases y : D.pyL ds with
      | none => rw [y] at e; cases e
      | some q => rw [y] at e; cases e; exact .cons (D.dp s d v p h1 z) (D.dpL s ds r q h2 y)
end
def pyV (μ : Mu) : Val → Option PyData
  | .d x => x.py
  | .own k => (lstV μ (.own k)).bind fun ds => (D.pyL ds).map .list
theorem pyV_ok {G : Gh} {μ : Mu} {H : Hp} (R : RepM Γ G μ H) {u : V} {v : Val} {p : PyData} (r : VRel Γ G u v) (e : pyV μ v = some p) : Dp Γ.K H u p := by
  cases v with
  | d x => exact D.dp R.sub x u p r e
  | own k =>
    unfold pyV at e
    cases z : lstV μ (.own k) with
    | none => simp only [z] at e; cases e
    | some ds =>
      simp only [z, Option.bind_some] at e
      obtain ⟨a, us, rfl, h2, h3⟩ := lstV_ok R r z
      cases y : D.pyL ds with
      | none => rw [y] at e; cases e
      | some q => rw [y] at e; cases e; exact .lst (SqL.of h2) (D.dpL R.sub ds us q h3 y)
def oEq (neg : Bool) (v w : Val) (μ : Mu) : R (Val × Mu) := match pyV μ v, pyV μ w with
  | some p, some q => if SeqAt.shaped p = true ∧ SeqAt.shaped q = true then .ok (.d (.bl (if neg then !PyData.eqv p q else PyData.eqv p q)), μ) else .bad
  | _, _ => .bad
theorem oEq_ok : Op2 Γ W (rEqD Γ.K) (oEq false) := by
  intro G ρ μ σ H Q x y v w R rx ry p
  unfold oEq at p
  split at p
  · rename_i a b e1 e2
    split at p
    · rename_i hs
      exact ⟨a, b, pyV_ok R.toRepM rx e1, pyV_ok R.toRepM ry e2, hs.1, hs.2, Post.bl R p⟩
    · exact p.elim
  · exact p.elim
theorem oNe_ok : Op2 Γ W (rNeD Γ.K) (oEq true) := by
  intro G ρ μ σ H Q x y v w R rx ry p
  unfold oEq at p
  split at p
  · rename_i a b e1 e2
    split at p
    · rename_i hs
      exact ⟨a, b, pyV_ok R.toRepM rx e1, pyV_ok R.toRepM ry e2, hs.1, hs.2, Post.bl R p⟩
    · exact p.elim
  · exact p.elim
/-- an order of ints or of texts -/
def oOrd (f : Int → Int → Bool) (g : List Nat → List Nat → Bool) : Val → Val → Mu → R (Val × Mu)
  | .d (.int i), .d (.int j), μ => .ok (.d (.bl (f i j)), μ)
  | .d (.str i), .d (.str j), μ => .ok (.d (.bl (g i.cps.toList j.cps.toList)), μ)
  | _, _, _ => .bad
theorem oOrd_ok {f : Int → Int → Bool} {g : List Nat → List Nat → Bool} : Op2 Γ W (fun x y H Q => (rI0 fun i j => .bl (f i j)) x y H Q ∨ (∃ i j, x = .str i ∧ y = .str j ∧ Q (.bl (g i.cps.toList j.cps.toList)) H)) (oOrd f g) := by
  intro G ρ μ σ H Q x y v w R rx ry p
  unfold oOrd at p
  split at p
  · exact .inl ⟨_, _, rx.int_, ry.int_, Post.bl R p⟩
  · exact .inr ⟨_, _, rx.str_, ry.str_, Post.bl R p⟩
  · exact p.elim
abbrev oLt := oOrd (fun i j => decide (i < j)) (fun i j => decide (i < j))
abbrev oLe := oOrd (fun i j => decide (i ≤ j)) (fun i j => !decide (j < i))
abbrev oGt := oOrd (fun i j => decide (j < i)) (fun i j => decide (j < i))
abbrev oGe := oOrd (fun i j => decide (j ≤ i)) (fun i j => !decide (i < j))
end
end Zl
set_option Elab.async false
set_option linter.all false
set_option maxRecDepth 100000
set_option maxHeartbeats 4000000
namespace Zl
open PySem PySem.Spec L2
open PyProof.Rows hiding St

/-! ## in, not in -/
section
variable {X : Cx}
abbrev rInTD (K : PySem.W.Frag) (neg : Bool) : R2 := fun x y H Q => ∃ d ds, Dp K H x d ∧ Dp K H y (.tuple ds) ∧ SeqAt.shaped d = true ∧ SeqAt.shaped (.tuple ds) = true ∧ Q (.bl (if neg then !(ds.any fun z => PyData.eqv z d) else ds.any fun z => PyData.eqv z d)) H
theorem op_inTD (hu : X.A.units + 65 < cLine) : OpR X (compareOp .In) (rInTD X.K false) := by
  intro pins s σ H x y v u Q I rx ry h
  obtain ⟨d, ds, hd, he, sd, se, q⟩ := h
  obtain ⟨as, r1⟩ := Dp.reads I d x v hd rx
  obtain ⟨bs, r2⟩ := Dp.reads I (.tuple ds) y u he ry
  exact SeqAt.in_tuple_reads r2 r1 (SeqAt.canLay_of_shaped se) (SeqAt.canLay_of_shaped sd) (room_in_shaped sd hu) ⟨.bl _, H, I, rfl, q⟩
theorem op_notInTD (hu : X.A.units + 65 < cLine) : OpR X (compareOp .NotIn) (rInTD X.K true) := by
  intro pins s σ H x y v u Q I rx ry h
  obtain ⟨d, ds, hd, he, sd, se, q⟩ := h
  obtain ⟨as, r1⟩ := Dp.reads I d x v hd rx
  obtain ⟨bs, r2⟩ := Dp.reads I (.tuple ds) y u he ry
  exact SeqAt.notIn_tuple_reads r2 r1 (SeqAt.canLay_of_shaped se) (SeqAt.canLay_of_shaped sd) (room_in_shaped sd hu) ⟨.bl _, H, I, rfl, q⟩
theorem op_inDict (hu : X.A.units + 1 < cLine) : OpR X (compareOp .In) (fun y x H Q => ∃ a o, x = .ref a ∧ DGet H a y o ∧ Q (.bl o.isSome) H) := by
  intro pins s σ H y x iv u Q I ry rx h
  obtain ⟨a, o, ex, g, q⟩ := h
  subst ex
  obtain rfl : u = Value.ref a := rx
  exact d_in hu I g ry fun s3 I3 => ⟨.bl o.isSome, H, I3, rfl, q⟩
theorem op_notInDict (hu : X.A.units + 1 < cLine) : OpR X (compareOp .NotIn) (fun y x H Q => ∃ a o, x = .ref a ∧ DGet H a y o ∧ Q (.bl (!o.isSome)) H) := by
  intro pins s σ H y x iv u Q I ry rx h
  obtain ⟨a, o, ex, g, q⟩ := h
  subst ex
  obtain rfl : u = Value.ref a := rx
  exact d_notIn hu I g ry fun s3 I3 => ⟨.bl (!o.isSome), H, I3, rfl, q⟩
end
/-- keys of data -/
def keyD : D → Option Key
  | .int i => some (.inl i)
  | .str x => some (.inr x)
  | _ => none
def keysD : List D → Option (List Key)
  | [] => some []
  | d :: r => (keyD d).bind fun k => (keysD r).map (k :: ·)
def keyV : Val → Option Key
  | .d x => keyD x
  | _ => none
def dKV (μ : Mu) : Val → Option (List Key × List Val)
  | .d (.dK ks ds) => some (ks, ds.map Val.d)
  | .own k => (match μ[k]? with
    | some (.dK ks vs) => some (ks, vs)
    | _ => none)
  | _ => none
def dTV (μ : Mu) : Val → Option (List (List Key) × List Val)
  | .d (.dT ks ds) => some (ks, ds.map Val.d)
  | .own k => (match μ[k]? with
    | some (.dT ks vs) => some (ks, vs)
    | _ => none)
  | _ => none
def getK {κ : Type} [DecidableEq κ] : List κ → List Val → κ → Option Val
  | k :: ks, v :: vs, j => if k = j then some v else getK ks vs j
  | _, _, _ => none
section
variable {Γ : Gm} {G : Gh} {μ : Mu} {H : Hp} {u : V}
theorem keyD_ok {F : Hp} {d : D} {k : Key} (h : Is Γ F u d) (e : keyD d = some k) : u = kV k := by
  cases d with
  | int i => cases e; unfold Is at h; exact h
  | str i => cases e; unfold Is at h; exact h
  | _ => cases e
theorem keysD_ok {F : Hp} : ∀ {ds : List D} {ks : List Key} {us : List V}, IsL Γ F us ds → keysD ds = some ks → us = ks.map kV
  | [], ks, us, h, e => by cases e; rw [h.inv0]; rfl
  | d :: r, ks, us, h, e => by
    obtain ⟨v, w, rfl, h1, h2⟩ := h.inv
    unfold keysD at e
    cases q : keyD d with
    | none => rw [q] at e; cases e
    | some k =>
      rw [q] at e
      cases z : keysD r with
      | none => rw [z] at e; cases e
      | some js => rw [z] at e; cases e; rw [keyD_ok h1 q, keysD_ok h2 z]; rfl
theorem dKV_ok (R : RepM Γ G μ H) {v : Val} {ks : List Key} {vs : List Val} (r : VRel Γ G u v) (e : dKV μ v = some (ks, vs)) : ∃ a kus, u = .ref a ∧ H a = some (.dK kus) ∧ kus.map (·.1) = ks ∧ VRelL Γ G (kus.map (·.2)) vs := by
  cases v with
  | d x =>
    cases x with
    | dK js es =>
      cases e
      have r : Is Γ G.F u _ := r
      unfold Is at r
      obtain ⟨a, kus, h1, h2, h3, h4⟩ := r
      exact ⟨a, kus, h1, R.sub _ _ h2, h3, relOf h4⟩
    | _ => cases e
  | own k =>
    obtain ⟨a, ha, ea⟩ := r
    unfold dKV at e
    cases q : μ[k]? with
    | none => simp only [q] at e; cases e
    | some c =>
      simp only [q] at e
      cases c with
      | dK js ws =>
        cases e
        obtain ⟨n, kus, h, l, w⟩ := R.cells k a _ ha q
        exact ⟨a, kus, ea, h, l, w⟩
      | _ => cases e
theorem dTV_ok (R : RepM Γ G μ H) {v : Val} {ks : List (List Key)} {vs : List Val} (r : VRel Γ G u v) (e : dTV μ v = some (ks, vs)) : ∃ a kus, u = .ref a ∧ H a = some (.dT kus) ∧ kus.map (·.1) = ks ∧ VRelL Γ G (kus.map (·.2)) vs := by
  cases v with
  | d x =>
    cases x with
    | dT js es =>
      cases e
      have r : Is Γ G.F u _ := r
      unfold Is at r
      obtain ⟨a, kus, h1, h2, h3, h4⟩ := r
      exact ⟨a, kus, h1, R.sub _ _ h2, h3, relOf h4⟩
    | _ => cases e
  | own k =>
    obtain ⟨a, ha, ea⟩ := r
    unfold dTV at e
    cases q : μ[k]? with
    | none => simp only [q] at e; cases e
    | some c =>
      simp only [q] at e
      cases c with
      | dT js ws =>
        cases e
        obtain ⟨n, kus, h, l, w⟩ := R.cells k a _ ha q
        exact ⟨a, kus, ea, h, l, w⟩
      | _ => cases e
theorem getK_ok {κ : Type} [DecidableEq κ] : ∀ {kus : List (κ × V)} {vs : List Val} {j : κ}, VRelL Γ G (kus.map (·.2)) vs → (∀ v, getK (kus.map (·.1)) vs j = some v → ∃ w, valV kus j = some w ∧ VRel Γ G w v) ∧ (getK (kus.map (·.1)) vs j = none → valV kus j = none)
  | [], vs, j, h => by
    have h : VRelL Γ G [] vs := h
    cases h
    exact ⟨fun v e => (by cases e), fun _ => rfl⟩
  | p :: kus, vs, j, h => by
    cases h with
    | cons h t =>
      rename_i v vs
      obtain ⟨i1, i2⟩ := getK_ok (j := j) t
      by_cases q : p.1 = j
      · refine ⟨fun w e => ?_, fun e => ?_⟩
        · have e' : (if p.1 = j then some v else getK (kus.map (·.1)) vs j) = some w := e
          rw [if_pos q] at e'
          cases e'
          exact ⟨p.2, by unfold valV; simp [q], h⟩
        · have e' : (if p.1 = j then some v else getK (kus.map (·.1)) vs j) = none := e
          rw [if_pos q] at e'
          cases e'
      · have ev : valV (p :: kus) j = valV kus j := by unfold valV; simp [q]
        refine ⟨fun w e => ?_, fun e => ?_⟩
        · have e' : (if p.1 = j then some v else getK (kus.map (·.1)) vs j) = some w := e
          rw [if_neg q] at e'
          rw [ev]; exact i1 w e'
        · have e' : (if p.1 = j then some v else getK (kus.map (·.1)) vs j) = none := e
          rw [if_neg q] at e'
          rw [ev]; exact i2 e'
end
/-- what a dict holds at a key -/
def dGet (μ : Mu) (d y : Val) : Option (Option Val) := match dKV μ d with
  | some (ks, vs) => (keyV y).map fun k => getK ks vs k
  | none => (match dTV μ d with
    | some (ks, vs) => (match y with
      | .d (.tup es) => (keysD es).map fun k => getK ks vs k
      | _ => none)
    | none => none)
section
variable {Γ : Gm} {G : Gh} {μ : Mu} {H : Hp} {x y : V}
theorem dGet_ok (R : RepM Γ G μ H) {v w : Val} {o : Option Val} (rx : VRel Γ G x v) (ry : VRel Γ G y w) (e : dGet μ v w = some o) :
    ∃ a r, x = .ref a ∧ DGet H a y r ∧ (∀ z, o = some z → ∃ u, r = some u ∧ VRel Γ G u z) ∧ (o = none → r = none) := by
  unfold dGet at e
  cases q : dKV μ v with
  | some p =>
    obtain ⟨ks, vs⟩ := p
    simp only [q] at e
    cases z : keyV w with
    | none => rw [z] at e; cases e
    | some k =>
      rw [z] at e
      cases e
      have ey : y = kV k := by
        cases w with
        | d d => exact keyD_ok ry z
        | own _ => cases z
      obtain ⟨a, kus, ex, ha, hk, hr⟩ := dKV_ok R rx q
      subst hk
      obtain ⟨g1, g2⟩ := getK_ok (j := k) hr
      exact ⟨a, valV kus k, ex, by rw [ey]; exact DGet.k ha, g1, g2⟩
  | none =>
    simp only [q] at e
    cases q2 : dTV μ v with
    | none => simp only [q2] at e; cases e
    | some p =>
      obtain ⟨ks, vs⟩ := p
      simp only [q2] at e
      cases w with
      | own _ => cases e
      | d d =>
        cases d with
        | tup es =>
          simp only at e
          cases z : keysD es with
          | none => rw [z] at e; cases e
          | some k =>
            rw [z] at e
            cases e
            obtain ⟨b, us, ey, hb, hl⟩ := VRel.tupH R ry
            have eu := keysD_ok hl z
            obtain ⟨a, kus, ex, ha, hk, hr⟩ := dTV_ok R rx q2
            subst hk
            obtain ⟨g1, g2⟩ := getK_ok (j := k) hr
            exact ⟨a, valV kus k, ex, by rw [ey]; exact DGet.t ha (by rw [hb, eu]), g1, g2⟩
        | _ => cases e
end
section
variable {Γ : Gm} {W : WX} {X : Cx}
/-- in: a sign or text in a text; a datum in a list, a tuple; a key in a dict -/
def oIn (neg : Bool) (v w : Val) (μ : Mu) : R (Val × Mu) := match v, w with
  | .d (.str i), .d (.str j) => .ok (.d (.bl (if neg then !(!(Builtin.Str.occurrences j i 0 j.length 1).isEmpty) else !(Builtin.Str.occurrences j i 0 j.length 1).isEmpty)), μ)
  | v, w => (match seqV μ w with
    | some es => (match pyV μ v, D.pyL es with
      | some p, some ps => if SeqAt.shaped p = true ∧ SeqAt.shaped (.list ps) = true ∧ SeqAt.shaped (.tuple ps) = true then .ok (.d (.bl (if neg then !(ps.any fun z => PyData.eqv z p) else ps.any fun z => PyData.eqv z p)), μ) else .bad
      | _, _ => .bad)
    | none => (match dGet μ w v with
      | some o => .ok (.d (.bl (if neg then !o.isSome else o.isSome)), μ)
      | none => .bad))
abbrev rInA (K : PySem.W.Frag) (neg : Bool) : R2 := fun x y H Q => (∃ i j, x = .str i ∧ y = .str j ∧ Q (.bl (if neg then !(!(Builtin.Str.occurrences j i 0 j.length 1).isEmpty) else !(Builtin.Str.occurrences j i 0 j.length 1).isEmpty)) H) ∨
  ((∃ d ds, Dp K H x d ∧ Dp K H y (.list ds) ∧ SeqAt.shaped d = true ∧ SeqAt.shaped (.list ds) = true ∧ Q (.bl (if neg then !(ds.any fun z => PyData.eqv z d) else ds.any fun z => PyData.eqv z d)) H) ∨
  (rInTD K neg x y H Q ∨ ∃ a o, y = .ref a ∧ DGet H a x o ∧ Q (.bl (if neg then !o.isSome else o.isSome)) H))
theorem op_inA (hu : X.A.units + 65 < cLine) : OpR X (compareOp .In) (rInA X.K false) := op_in_str.or ((op_inD hu).or ((op_inTD hu).or (op_inDict (by omega))))
theorem op_notInA (hu : X.A.units + 65 < cLine) : OpR X (compareOp .NotIn) (rInA X.K true) := op_notIn_str.or ((op_notInD hu).or ((op_notInTD hu).or (op_notInDict (by omega))))
theorem oIn_ok {neg : Bool} : Op2 Γ W (rInA Γ.K neg) (oIn neg) := by
  intro G ρ μ σ H Q x y v w R rx ry p
  unfold oIn at p
  split at p
  · exact .inl ⟨_, _, rx.str_, ry.str_, Post.bl R p⟩
  · cases e : seqV μ w with
    | some es =>
      simp only [e] at p
      cases e1 : pyV μ v with
      | none => simp only [e1] at p; exact p.elim
      | some a =>
        cases e2 : D.pyL es with
        | none => simp only [e1, e2] at p; exact p.elim
        | some ps =>
          simp only [e1, e2] at p
          split at p
          · rename_i hs
            obtain ⟨l, us, h1, h2, h3⟩ := seqV_ok R.toRepM ry e
            have dl := D.dpL R.toRepM.sub es us ps h3 e2
            have dv := pyV_ok R.toRepM rx e1
            subst h1
            rcases h2 with h2 | h2
            · exact .inr (.inl ⟨a, ps, dv, .lst h2 dl, hs.1, hs.2.1, Post.bl R p⟩)
            · exact .inr (.inr (.inl ⟨a, ps, dv, .tup h2 dl, hs.1, hs.2.2, Post.bl R p⟩))
          · exact p.elim
    | none =>
      simp only [e] at p
      cases e1 : dGet μ w v with
      | none => simp only [e1] at p; exact p.elim
      | some o =>
        simp only [e1] at p
        obtain ⟨a, r, ex, g, g1, g2⟩ := dGet_ok R.toRepM ry rx e1
        have er : r.isSome = o.isSome := by
          cases o with
          | none => rw [g2 rfl]; rfl
          | some z => obtain ⟨u, h, _⟩ := g1 z rfl; rw [h]; rfl
        refine .inr (.inr (.inr ⟨a, r, ex, g, ?_⟩))
        rw [er]
        exact Post.bl R p

/-! ## items -/
theorem ix_dict (hu : X.A.units + 1 < cLine) : IxR X (fun x y H Q => ∃ a v, x = .ref a ∧ DGet H a y (some v) ∧ Q v H) := by
  intro value slice pins s σ H x y o i Q I rx ry h hs
  obtain ⟨a, v, ex, g, q⟩ := h
  subst ex
  obtain rfl : o = Value.ref a := rx
  have hT := dict_typeIs I g
  have h₂ : wpAny (model X.prog X.w) X.A (getItem (.ref a) i) (EP X pins σ Q) X.xe s := d_getItem hu I g ry fun w' s3 I3 rw' => ⟨v, H, I3, rw', q⟩
  unfold subscriptTail
  refine wpAny_bind ?_
  rw [getitemInPython_of_ne hT.not_modules]
  refine wpAny_bind (wpAny_specialOf hT PySem.F.slot_dict_getitem.lookup ?_)
  have fin : wpAny (model X.prog X.w) X.A (subscripted slice false (.ref a) i) (fun r s₃ => wpAny (model X.prog X.w) X.A (letTemporaryGo value (.ref a) r >>= fun _ => pure r) (EP X pins σ Q) X.xe s₃) X.xe s := by
    rw [hs]
    exact wpAny_operating (wpAny_mono h₂ (fun r s₃ h₃ => wpAny_bind (wpAny_letTemporaryGo (wpAny_pure h₃))) fun _ _ x => x)
  first
    | exact wpAny_pure (wpAny_bind fin)
    | exact wpAny_bind (wpAny_pure (wpAny_bind fin))
    | exact wpAny_bind fin
/-- an item: of a list, a tuple, a text, a dict -/
def oIx (v w : Val) (μ : Mu) : R (Val × Mu) := match v, w with
  | .d (.str z), .d (.int i) => if z.length ≤ sizeLine then (match atI z.cps.toList i with
    | some c => .ok (.d (.str ⟨#[c]⟩), μ)
    | none => .bad) else .bad
  | v, w => (match seqV μ v with
    | some ds => (match w with
      | .d (.int i) => (match atI ds i with
        | some x => .ok (.d x, μ)
        | none => .bad)
      | _ => .bad)
    | none => (match dGet μ v w with
      | some (some z) => .ok (z, μ)
      | _ => .bad))
abbrev rIxA (K : PySem.W.Frag) : R2 := fun x y H Q => rIx K x y H Q ∨ ∃ a v, x = .ref a ∧ DGet H a y (some v) ∧ Q v H
theorem ix_all (hu : X.A.units + 1 < cLine) : IxR X (rIxA X.K) := ix_seq.or (ix_dict hu)
theorem atI_IsL {F : Hp} {us : List V} {ds : List D} {i : Int} {d : D} (h : IsL Γ F us ds) (e : atI ds i = some d) : ∃ u, atI us i = some u ∧ Is Γ F u d := by
  unfold atI at e ⊢
  rw [h.length]
  cases q : ixN ds.length i with
  | none => rw [q] at e; cases e
  | some j =>
    rw [q] at e
    exact h.get (show ds[j]? = some d from e)
theorem oIx_ok : Op2 Γ W (rIxA Γ.K) oIx := by
  intro G ρ μ σ H Q x y v w R rx ry p
  unfold oIx at p
  split at p
  · rename_i z i
    split at p
    · rename_i hz
      split at p
      · rename_i c e
        exact .inl (.inr (.inr ⟨z, i, c, rx.str_, ry.int_, hz, e, Post.str R p⟩))
      · exact p.elim
    · exact p.elim
  · cases e : seqV μ v with
    | some ds =>
      simp only [e] at p
      split at p
      · rename_i i _
        split at p
        · rename_i d ed
          obtain ⟨l, us, h1, h2, h3⟩ := seqV_ok R.toRepM rx e
          obtain ⟨u, hu, hd⟩ := atI_IsL h3 ed
          rcases h2 with h2 | h2
          · exact .inl (.inl ⟨l, us, i, u, h1, ry.int_, h2, hu, Post.here R p hd⟩)
          · exact .inl (.inr (.inl ⟨l, us, i, u, h1, ry.int_, h2, hu, Post.here R p hd⟩))
        · exact p.elim
      · exact p.elim
    | none =>
      simp only [e] at p
      cases e1 : dGet μ v w with
      | none => simp only [e1] at p; exact p.elim
      | some o =>
        cases o with
        | none => simp only [e1] at p; exact p.elim
        | some z =>
          simp only [e1] at p
          obtain ⟨a, r, ex, g, g1, g2⟩ := dGet_ok R.toRepM rx ry e1
          obtain ⟨u, hu, hd⟩ := g1 z rfl
          subst hu
          exact .inr ⟨a, u, ex, g, Post.here R p hd⟩

/-! ## slices -/
def cutD (xs : List D) (lo hi : Option Int) : List D := (xs.drop (HT.sIx xs.length 0 lo)).take (HT.sIx xs.length xs.length hi - HT.sIx xs.length 0 lo)
theorem cut_IsL {F : Hp} {us : List V} {ds : List D} (h : IsL Γ F us ds) (lo hi : Option Int) : IsL Γ F (cutV us lo hi) (cutD ds lo hi) := by
  unfold cutV cutD
  rw [h.length]
  exact (h.drop _).take _
end
end Zl
set_option Elab.async false
set_option linter.all false
set_option maxRecDepth 100000
set_option maxHeartbeats 4000000
namespace Zl
open PySem PySem.Spec L2
open PyProof.Rows hiding St

/-! ## argument lists -/
def PostA (Γ : Gm) (W : WX) (G : Gh) (ρ : Rho) (σ : St) (H : Hp) (Q : List V → Hp → Prop) : R (List Val × Mu) → Prop
  | .ok p => ∀ us G' H', Step G H G' H' → Rep Γ G' ρ p.2 σ H' → VRelL Γ G' us p.1 → Q us H'
  | .ex e r m => ∀ cls dx G' H', Step G H G' H' → Rep Γ G' r m σ H' → ErrRel Γ G' H' cls dx e → W cls dx σ H'
  | .bad => False
abbrev FA := Rho → Mu → R (List Val × Mu)
def tZA (Γ : Gm) (W : WX) (f : FA) : TA := fun σ H Q => ∃ G ρ μ, Rep Γ G ρ μ σ H ∧ PostA Γ W G ρ σ H Q (f ρ μ)
theorem PostA.step {Γ : Gm} {W : WX} {G G1 : Gh} {ρ : Rho} {σ : St} {H H1 : Hp} {Q : List V → Hp → Prop} (s : Step G H G1 H1) : ∀ {r : R (List Val × Mu)}, PostA Γ W G ρ σ H Q r → PostA Γ W G1 ρ σ H1 Q r
  | .ok p, h => fun u G' H' z => h u G' H' (s.trans z)
  | .ex e r m, h => fun c d G' H' z => h c d G' H' (s.trans z)
  | .bad, h => h
def fANil : FA := fun _ μ => .ok ([], μ)
def fACons (f : FE) (g : FA) : FA := fun ρ μ => (f ρ μ).bind fun p => (g ρ p.2).bind fun q => .ok (p.1 :: q.1, q.2)
section
variable {Γ : Gm} {W : WX} {X : Cx}
/-- an argument's outcome, then the others' -/
theorem Post.bindA {G : Gh} {ρ : Rho} {σ : St} {H : Hp} {Q : List V → Hp → Prop} {Q1 : VK} {k : Val × Mu → R (List Val × Mu)} : ∀ {r : R (Val × Mu)}, PostA Γ W G ρ σ H Q (r.bind k) →
    (∀ u v μ1 G1 H1, Step G H G1 H1 → Rep Γ G1 ρ μ1 σ H1 → VRel Γ G1 u v → PostA Γ W G1 ρ σ H1 Q (k (v, μ1)) → Q1 u H1) → Post Γ W G ρ σ H Q1 r
  | .ok p, h, f => fun u G1 H1 s R v => f u p.1 p.2 G1 H1 s R v (PostA.step s h)
  | .ex e r m, h, f => h
  | .bad, h, f => h
theorem PostA.bindA {G : Gh} {ρ : Rho} {σ : St} {H : Hp} {Q Q1 : List V → Hp → Prop} {k : List Val × Mu → R (List Val × Mu)} : ∀ {r : R (List Val × Mu)}, PostA Γ W G ρ σ H Q (r.bind k) →
    (∀ u v μ1 G1 H1, Step G H G1 H1 → Rep Γ G1 ρ μ1 σ H1 → VRelL Γ G1 u v → PostA Γ W G1 ρ σ H1 Q (k (v, μ1)) → Q1 u H1) → PostA Γ W G ρ σ H Q1 r
  | .ok p, h, f => fun u G1 H1 s R v => f u p.1 p.2 G1 H1 s R v (PostA.step s h)
  | .ex e r m, h, f => h
  | .bad, h, f => h
theorem PostA.bind {G : Gh} {ρ : Rho} {σ : St} {H : Hp} {Q : VK} {Q1 : List V → Hp → Prop} {k : List Val × Mu → R (Val × Mu)} : ∀ {r : R (List Val × Mu)}, Post Γ W G ρ σ H Q (r.bind k) →
    (∀ u v μ1 G1 H1, Step G H G1 H1 → Rep Γ G1 ρ μ1 σ H1 → VRelL Γ G1 u v → Post Γ W G1 ρ σ H1 Q (k (v, μ1)) → Q1 u H1) → PostA Γ W G ρ σ H Q1 r
  | .ok p, h, f => fun u G1 H1 s R v => f u p.1 p.2 G1 H1 s R v (Post.step s h)
  | .ex e r m, h, f => h
  | .bad, h, f => h
theorem za_nil : PA X [] (tZA Γ W fANil) := PA.imp pa_nil fun σ H Q ⟨G, ρ, μ, R, p⟩ => p [] G H (Step.refl G H) R .nil
theorem za_cons {e : Expr} {es : List Expr} {f : FE} {g : FA} (ha : PE X e (tZ Γ W f)) (hr : PA X es (tZA Γ W g)) (hs : starEach (e :: es) X.env = (false, eval e X.env) :: starEach es X.env) : PA X (e :: es) (tZA Γ W (fACons f g)) := by
  refine PA.imp (pa_cons ha hr hs) fun σ H Q t => ?_
  obtain ⟨G, ρ, μ, R, p⟩ := t
  refine ⟨G, ρ, μ, R, Post.bindA p fun x v μ1 G1 H1 s1 R1 r1 p1 => ⟨G1, ρ, μ1, R1, PostA.bindA p1 fun us vs μ2 G2 H2 s2 R2 r2 p2 => ?_⟩⟩
  exact p2 (x :: us) G2 H2 (Step.refl _ _) R2 (.cons (VRel.mono s2 r1) r2)

/-! ## displays -/
def fTup (g : FA) : FE := fun ρ μ => (g ρ μ).bind fun q => match dsOf q.1 with
  | some ds => if ds.length ≤ 1000 then .ok (.d (.tup ds), q.2) else .bad
  | none => .bad
def fLst (g : FA) : FE := fun ρ μ => (g ρ μ).bind fun q => match dsOf q.1 with
  | some ds => if ds.length ≤ 1000 then .ok (.d (.lst ds), q.2) else .bad
  | none => .bad
def fLstL (g : FA) : FE := fun ρ μ => (g ρ μ).bind fun q => if q.1.length ≤ 1000 then .ok (.own q.2.length, q.2 ++ [.lst q.1]) else .bad
theorem small_line {n : Nat} (h : n ≤ 1000) : n ≤ sizeLine := Nat.le_trans h (by decide)
theorem ze_tup {es : List Expr} {g : FA} {k : Nat} {pos : Pos} (h : PA X es (tZA Γ W g)) : PE X (.Tuple es k pos) (tZ Γ W (fTup g)) := by
  refine PE.imp (pe_tup h) fun σ H Q t => ?_
  obtain ⟨G, ρ, μ, R, p⟩ := t
  refine ⟨G, ρ, μ, R, PostA.bind p fun us vs μ1 G1 H1 s1 R1 r1 p1 => ?_⟩
  simp only at p1
  split at p1
  · rename_i ds e
    split at p1
    · rename_i hz
      have l := dsOf_ok r1 e
      exact ⟨by rw [l.length]; exact small_line hz, Post.tup R1 p1 l⟩
    · exact p1.elim
  · exact p1.elim
theorem ze_lst {es : List Expr} {g : FA} {pos : Pos} (h : PA X es (tZA Γ W g)) : PE X (.List es pos) (tZ Γ W (fLst g)) := by
  refine PE.imp (pe_lst h) fun σ H Q t => ?_
  obtain ⟨G, ρ, μ, R, p⟩ := t
  refine ⟨G, ρ, μ, R, PostA.bind p fun us vs μ1 G1 H1 s1 R1 r1 p1 => ?_⟩
  simp only at p1
  split at p1
  · rename_i ds e
    split at p1
    · rename_i hz
      have l := dsOf_ok r1 e
      exact ⟨by rw [l.length]; exact small_line hz, Post.lst R1 p1 l⟩
    · exact p1.elim
  · exact p1.elim
theorem ze_lstL {es : List Expr} {g : FA} {pos : Pos} (h : PA X es (tZA Γ W g)) : PE X (.List es pos) (tZ Γ W (fLstL g)) := by
  refine PE.imp (pe_lst h) fun σ H Q t => ?_
  obtain ⟨G, ρ, μ, R, p⟩ := t
  refine ⟨G, ρ, μ, R, PostA.bind p fun us vs μ1 G1 H1 s1 R1 r1 p1 => ?_⟩
  simp only at p1
  split at p1
  · rename_i hz
    exact ⟨by rw [Paired.length r1]; exact small_line hz, Post.lstL R1 p1 r1⟩
  · exact p1.elim

/-! ## the context of a rule -/
structure Cz (Γ : Gm) (W : WX) (X : Cx) (lv : Nat) : Prop where
  K : X.K = Γ.K
  nd : X.N.Nodup
  calm : X.calm = true
  room : Room lv X.A
  gd : X.A.guards = some []
  tk : Takes X W
theorem Cz.hu {lv : Nat} (c : Cz Γ W X lv) : X.A.units + 65 < cLine := by have := c.room.un; omega

section
variable {lv : Nat} {a b : Expr} {f g : FE} {pos : Pos}
theorem ze_add (c : Cz Γ W X lv) (ha : PE X a (tZ Γ W f)) (hb : PE X b (tZ Γ W g)) : PE X (.BinOp a .Add b pos) (tZ Γ W (fBin oAdd f g)) := PE.imp (pe_op op_addA ha hb) (tZ_bin (by rw [c.K]; exact oAdd_ok))
theorem ze_sub (ha : PE X a (tZ Γ W f)) (hb : PE X b (tZ Γ W g)) : PE X (.BinOp a .Sub b pos) (tZ Γ W (fBin oSub f g)) := PE.imp (pe_op op_sub ha hb) (tZ_bin oSub_ok)
theorem ze_mul (ha : PE X a (tZ Γ W f)) (hb : PE X b (tZ Γ W g)) : PE X (.BinOp a .Mult b pos) (tZ Γ W (fBin oMul f g)) := PE.imp (pe_op op_mulA ha hb) (tZ_bin oMul_ok)
theorem ze_mod (ha : PE X a (tZ Γ W f)) (hb : PE X b (tZ Γ W g)) : PE X (.BinOp a .Mod b pos) (tZ Γ W (fBin oMod f g)) := PE.imp (pe_op op_mod ha hb) (tZ_bin oMod_ok)
theorem ze_fdiv (ha : PE X a (tZ Γ W f)) (hb : PE X b (tZ Γ W g)) : PE X (.BinOp a .FloorDiv b pos) (tZ Γ W (fBin oFdiv f g)) := PE.imp (pe_op op_fdivW ha hb) (tZ_bin oFdiv_ok)
theorem ze_pow (ha : PE X a (tZ Γ W f)) (hb : PE X b (tZ Γ W g)) : PE X (.BinOp a .Pow b pos) (tZ Γ W (fBin oPow f g)) := PE.imp (pe_op op_pow ha hb) (tZ_bin oPow_ok)
theorem ze_neg (ha : PE X a (tZ Γ W f)) : PE X (.UnaryOp .USub a pos) (tZ Γ W (fUn oNeg f)) := PE.imp (pe_un un_neg ha) (tZ_un oNeg_ok)

/-! ## comparisons by their operator -/
def oCmp : CmpOp → Option (Val → Val → Mu → R (Val × Mu))
  | .Eq => some (oEq false)
  | .NotEq => some (oEq true)
  | .Lt => some oLt
  | .LtE => some oLe
  | .Gt => some oGt
  | .GtE => some oGe
  | .In => some (oIn false)
  | .NotIn => some (oIn true)
  | _ => none
theorem oCmp_ok (c : Cz Γ W X lv) : ∀ {op : CmpOp} {o : Val → Val → Mu → R (Val × Mu)}, oCmp op = some o → ∃ r : R2, OpR X (compareOp op) r ∧ Op2 Γ W r o := by
  have hu := c.hu
  intro op o e
  cases op <;> cases e
  · exact ⟨_, op_eqD (by omega), by rw [c.K]; exact oEq_ok⟩
  · exact ⟨_, op_neD (by omega), by rw [c.K]; exact oNe_ok⟩
  · exact ⟨_, op_lt.or op_lt_str, oOrd_ok⟩
  · exact ⟨_, op_le.or op_le_str, oOrd_ok⟩
  · exact ⟨_, op_gt.or op_gt_str, oOrd_ok⟩
  · exact ⟨_, op_ge.or op_ge_str, oOrd_ok⟩
  · exact ⟨_, op_inA hu, by rw [c.K]; exact oIn_ok⟩
  · exact ⟨_, op_notInA hu, by rw [c.K]; exact oIn_ok⟩
theorem ze_cmp (c : Cz Γ W X lv) {op : CmpOp} {o : Val → Val → Mu → R (Val × Mu)} (e : oCmp op = some o) (ha : PE X a (tZ Γ W f)) (hb : PE X b (tZ Γ W g)) (hm : behindInMarks op b = false) : PE X (.Compare a [op] [b] pos) (tZ Γ W (fBin o f g)) := by
  obtain ⟨r, h1, h2⟩ := oCmp_ok c e
  exact PE.imp (pe_cmpR h1 ha hb hm) (tZ_bin h2)
/-- a test -/
abbrev FT := Rho → Mu → R (Bool × Mu)
def PostT (Γ : Gm) (W : WX) (G : Gh) (ρ : Rho) (σ : St) (H : Hp) (Q : Bool → Hp → Prop) : R (Bool × Mu) → Prop
  | .ok p => ∀ G' H', Step G H G' H' → Rep Γ G' ρ p.2 σ H' → Q p.1 H'
  | .ex e r m => ∀ cls dx G' H', Step G H G' H' → Rep Γ G' r m σ H' → ErrRel Γ G' H' cls dx e → W cls dx σ H'
  | .bad => False
def tZT (Γ : Gm) (W : WX) (f : FT) : TT := fun σ H Q => ∃ G ρ μ, Rep Γ G ρ μ σ H ∧ PostT Γ W G ρ σ H Q (f ρ μ)
theorem PostT.step {G G1 : Gh} {ρ : Rho} {σ : St} {H H1 : Hp} {Q : Bool → Hp → Prop} (s : Step G H G1 H1) : ∀ {r : R (Bool × Mu)}, PostT Γ W G ρ σ H Q r → PostT Γ W G1 ρ σ H1 Q r
  | .ok p, h => fun G' H' z => h G' H' (s.trans z)
  | .ex e r m, h => fun c d G' H' z => h c d G' H' (s.trans z)
  | .bad, h => h
theorem Post.bindT {G : Gh} {ρ : Rho} {σ : St} {H : Hp} {Q : Bool → Hp → Prop} {Q1 : VK} {k : Val × Mu → R (Bool × Mu)} : ∀ {r : R (Val × Mu)}, PostT Γ W G ρ σ H Q (r.bind k) →
    (∀ u v μ1 G1 H1, Step G H G1 H1 → Rep Γ G1 ρ μ1 σ H1 → VRel Γ G1 u v → PostT Γ W G1 ρ σ H1 Q (k (v, μ1)) → Q1 u H1) → Post Γ W G ρ σ H Q1 r
  | .ok p, h, f => fun u G1 H1 s R v => f u p.1 p.2 G1 H1 s R v (PostT.step s h)
  | .ex e r m, h, f => h
  | .bad, h, f => h
theorem PostT.bindT {G : Gh} {ρ : Rho} {σ : St} {H : Hp} {Q Q1 : Bool → Hp → Prop} {k : Bool × Mu → R (Bool × Mu)} : ∀ {r : R (Bool × Mu)}, PostT Γ W G ρ σ H Q (r.bind k) →
    (∀ b μ1 G1 H1, Step G H G1 H1 → Rep Γ G1 ρ μ1 σ H1 → PostT Γ W G1 ρ σ H1 Q (k (b, μ1)) → Q1 b H1) → PostT Γ W G ρ σ H Q1 r
  | .ok p, h, f => fun G1 H1 s R => f p.1 p.2 G1 H1 s R (PostT.step s h)
  | .ex e r m, h, f => h
  | .bad, h, f => h
theorem PostT.bind {G : Gh} {ρ : Rho} {σ : St} {H : Hp} {Q : VK} {Q1 : Bool → Hp → Prop} {k : Bool × Mu → R (Val × Mu)} : ∀ {r : R (Bool × Mu)}, Post Γ W G ρ σ H Q (r.bind k) →
    (∀ b μ1 G1 H1, Step G H G1 H1 → Rep Γ G1 ρ μ1 σ H1 → Post Γ W G1 ρ σ H1 Q (k (b, μ1)) → Q1 b H1) → PostT Γ W G ρ σ H Q1 r
  | .ok p, h, f => fun G1 H1 s R => f p.1 p.2 G1 H1 s R (Post.step s h)
  | .ex e r m, h, f => h
  | .bad, h, f => h
theorem PostT.here {G : Gh} {ρ : Rho} {μ : Mu} {σ : St} {H : Hp} {Q : Bool → Hp → Prop} {b : Bool} (R : Rep Γ G ρ μ σ H) (h : PostT Γ W G ρ σ H Q (.ok (b, μ))) : Q b H := h G H (Step.refl G H) R
/-- a value that is a bool, as a test -/
def fT (f : FE) : FT := fun ρ μ => (f ρ μ).bind fun p => match p.1 with
  | .d (.bl b) => .ok (b, p.2)
  | _ => .bad
theorem fT_ok {σ : St} {H : Hp} {Q : Bool → Hp → Prop} (t : tZT Γ W (fT f) σ H Q) : tZ Γ W f σ H fun x H' => ∃ k, x = .bl k ∧ Q k H' := by
  obtain ⟨G, ρ, μ, R, p⟩ := t
  refine ⟨G, ρ, μ, R, Post.bindT p fun u v μ1 G1 H1 s1 R1 r1 p1 => ?_⟩
  simp only at p1
  split at p1
  · exact ⟨_, r1.bl_, PostT.here R1 p1⟩
  · exact p1.elim
theorem zt_cmp (c : Cz Γ W X lv) {op : CmpOp} {o : Val → Val → Mu → R (Val × Mu)} (e : oCmp op = some o) (ha : PE X a (tZ Γ W f)) (hb : PE X b (tZ Γ W g)) (hm : behindInMarks op b = false) : PT X (.Compare a [op] [b] pos) (tZT Γ W (fT (fBin o f g))) := by
  obtain ⟨r, h1, h2⟩ := oCmp_ok c e
  exact PT.imp (pt_cmpR h1 ha hb hm) fun σ H Q t => tZ_bin h2 σ H _ (fT_ok t)
/-- is None -/
def oIsN (neg : Bool) (v : Val) (μ : Mu) : R (Val × Mu) := match v with
  | .d .non => .ok (.d (.bl (!neg)), μ)
  | .d (.obj _) => .bad
  | _ => .ok (.d (.bl neg), μ)
theorem Is.ne_non {F : Hp} {u : V} {d : D} (h : Is Γ F u d) (n : d ≠ .non) : u ≠ .non := by
  cases d with
  | non => exact absurd rfl n
  | bl b => unfold Is at h; rw [h]; exact fun z => by cases z
  | int b => unfold Is at h; rw [h]; exact fun z => by cases z
  | str b => unfold Is at h; rw [h]; exact fun z => by cases z
  | tup b => unfold Is at h; obtain ⟨a, _, e, _⟩ := h; rw [e]; exact fun z => by cases z
  | kt b => unfold Is at h; obtain ⟨a, _, e, _⟩ := h; rw [e]; exact fun z => by cases z
  | lst b => unfold Is at h; obtain ⟨a, _, e, _⟩ := h; rw [e]; exact fun z => by cases z
  | dK b c => unfold Is at h; obtain ⟨a, _, e, _⟩ := h; rw [e]; exact fun z => by cases z
  | dT b c => unfold Is at h; obtain ⟨a, _, e, _⟩ := h; rw [e]; exact fun z => by cases z
  | ins b c e => unfold Is at h; obtain ⟨a, _, _, _, e, _⟩ := h; rw [e]; exact fun z => by cases z
  | obj b => unfold Is at h; obtain ⟨a, e, _⟩ := h; rw [e]; exact fun z => by cases z
  | scr b => unfold Is at h; obtain ⟨a, e, _⟩ := h; rw [e]; exact fun z => by cases z
theorem oIsN_ok {neg : Bool} : Op1 Γ W (fun x H Q => Q (.bl (if neg then !decide (x = .non) else decide (x = .non))) H) (oIsN neg) := by
  intro G ρ μ σ H Q x v R rx p
  unfold oIsN at p
  split at p
  · have e := rx.non_
    subst e
    have q := Post.bl R p
    cases neg <;> exact q
  · exact p.elim
  · rename_i h1 h2
    have ne : x ≠ .non := by
      cases v with
      | own k => obtain ⟨a, _, e⟩ := rx; rw [e]; exact fun z => by cases z
      | d d => exact Is.ne_non rx fun z => h1 (by rw [z])
    rw [decide_eq_false ne]
    have q := Post.bl R p
    cases neg <;> exact q
theorem ze_isN {j pos'} (ha : PE X a (tZ Γ W f)) : PE X (.Compare a [.Is] [.Constant .none j pos'] pos) (tZ Γ W (fUn (oIsN false) f)) :=
  PE.imp (pe_cmp (pc_isN ha) rfl) fun σ H Q t => tZ_un oIsN_ok σ H Q t
theorem ze_notN {j pos'} (ha : PE X a (tZ Γ W f)) : PE X (.Compare a [.IsNot] [.Constant .none j pos'] pos) (tZ Γ W (fUn (oIsN true) f)) :=
  PE.imp (pe_cmp (pc_notN ha) rfl) fun σ H Q t => tZ_un oIsN_ok σ H Q t
theorem zt_isN {j pos'} (ha : PE X a (tZ Γ W f)) : PT X (.Compare a [.Is] [.Constant .none j pos'] pos) (tZT Γ W (fT (fUn (oIsN false) f))) :=
  PT.imp (pt_cmp (pc_isN ha) rfl) fun σ H Q t => tZ_un oIsN_ok σ H _ (fT_ok t)
theorem zt_notN {j pos'} (ha : PE X a (tZ Γ W f)) : PT X (.Compare a [.IsNot] [.Constant .none j pos'] pos) (tZT Γ W (fT (fUn (oIsN true) f))) :=
  PT.imp (pt_cmp (pc_notN ha) rfl) fun σ H Q t => tZ_un oIsN_ok σ H _ (fT_ok t)
/-- a chain of two -/
def fChain (o o' : Val → Val → Mu → R (Val × Mu)) (f g h : FE) : FE := fun ρ μ => (f ρ μ).bind fun p => (g ρ p.2).bind fun q => (o p.1 q.1 q.2).bind fun r => match r.1 with
  | .d (.bl true) => (h ρ r.2).bind fun s => o' q.1 s.1 s.2
  | .d (.bl false) => .ok (.d (.bl false), r.2)
  | _ => .bad
end
end
end Zl
set_option Elab.async false
set_option linter.all false
set_option maxRecDepth 100000
set_option maxHeartbeats 4000000
namespace Zl
open PySem PySem.Spec L2
open PyProof.Rows hiding St
section
variable {Γ : Gm} {W : WX} {X : Cx} {lv : Nat} {a b d e : Expr} {f g h : FE} {pos : Pos} {rest : List Expr}

theorem chain_ok {r r' : R2} {o o' : Val → Val → Mu → R (Val × Mu)} (h1 : Op2 Γ W r o) (h2 : Op2 Γ W r' o') (σ : St) (H : Hp) (Q : VK) (t : tZ Γ W (fChain o o' f g h) σ H Q) : tChain r r' (tZ Γ W f) (tZ Γ W g) (tZ Γ W h) σ H Q := by
  obtain ⟨G, ρ, μ, R, p⟩ := t
  refine ⟨G, ρ, μ, R, Post.bind p fun x v μ1 G1 H1 s1 R1 r1 p1 => ⟨G1, ρ, μ1, R1, Post.bind p1 fun y w μ2 G2 H2 s2 R2 r2 p2 => ?_⟩⟩
  refine h1 G2 ρ μ2 σ H2 _ x y v w R2 (VRel.mono s2 r1) r2 (Post.bind p2 fun z b μ3 G3 H3 s3 R3 r3 p3 => ?_)
  simp only at p3
  split at p3
  · refine ⟨true, r3.bl_, ?_⟩
    rw [if_pos rfl]
    exact ⟨G3, ρ, μ3, R3, Post.bind p3 fun u c μ4 G4 H4 s4 R4 r4 p4 => h2 G4 ρ μ4 σ H4 Q y u w c R4 (VRel.mono s4 (VRel.mono s3 r2)) r4 p4⟩
  · refine ⟨false, r3.bl_, ?_⟩
    rw [if_neg Bool.false_ne_true]
    exact Post.bl R3 p3
  · exact p3.elim
theorem ze_chain (c : Cz Γ W X lv) {op op' : CmpOp} {o o' : Val → Val → Mu → R (Val × Mu)} (e1 : oCmp op = some o) (e2 : oCmp op' = some o') (ha : PE X a (tZ Γ W f)) (hb : PE X b (tZ Γ W g)) (hd : PE X d (tZ Γ W h)) (hm : lastMarks [op, op'] [b, d] = false) :
    PE X (.Compare a [op, op'] [b, d] pos) (tZ Γ W (fChain o o' f g h)) := by
  obtain ⟨r, h1, h2⟩ := oCmp_ok c e1
  obtain ⟨r', h1', h2'⟩ := oCmp_ok c e2
  exact PE.imp (pe_chain h1 h1' ha hb hd hm) (chain_ok h2 h2')
theorem zt_chain (c : Cz Γ W X lv) {op op' : CmpOp} {o o' : Val → Val → Mu → R (Val × Mu)} (e1 : oCmp op = some o) (e2 : oCmp op' = some o') (ha : PE X a (tZ Γ W f)) (hb : PE X b (tZ Γ W g)) (hd : PE X d (tZ Γ W h)) (hm : lastMarks [op, op'] [b, d] = false) :
    PT X (.Compare a [op, op'] [b, d] pos) (tZT Γ W (fT (fChain o o' f g h))) := by
  obtain ⟨r, h1, h2⟩ := oCmp_ok c e1
  obtain ⟨r', h1', h2'⟩ := oCmp_ok c e2
  exact PT.imp (pt_chain h1 h1' ha hb hd hm) fun σ H Q t => chain_ok h2 h2' σ H _ (fT_ok t)

/-! ## truth -/
def truD : D → Option Bool
  | .non => some false
  | .bl b => some b
  | .int i => some (i != 0)
  | .str z => if z.length ≤ sizeLine then some ((z.length : Int) != 0) else none
  | .tup ds => some (!ds.isEmpty)
  | .kt ds => some (!ds.isEmpty)
  | .lst ds => some (!ds.isEmpty)
  | .dK ks _ => some (!ks.isEmpty)
  | .scr ns => some (!ns.isEmpty)
  | _ => none
def truV (μ : Mu) : Val → Option Bool
  | .d x => truD x
  | .own k => (match μ[k]? with
    | some (.lst vs) => some (!vs.isEmpty)
    | some (.dK ks _) => some (!ks.isEmpty)
    | _ => none)
def fTr (f : FE) : FT := fun ρ μ => (f ρ μ).bind fun p => match truV p.2 p.1 with
  | some b => .ok (b, p.2)
  | none => .bad
theorem isEmpty_len {α β : Type} {l : List α} {m : List β} (h : l.length = m.length) : l.isEmpty = m.isEmpty := by
  cases l <;> cases m <;> simp_all
theorem truV_ok {G : Gh} {μ : Mu} {H : Hp} {u : V} {v : Val} {k : Bool} (R : RepM Γ G μ H) (r : VRel Γ G u v) (e : truV μ v = some k) : TruV Γ.K u H k := by
  cases v with
  | d x =>
    have e : truD x = some k := e
    cases x with
    | non => rw [r.non_]; cases e; rfl
    | bl b => rw [r.bl_]; cases e; rfl
    | int i => rw [r.int_]; cases e; rfl
    | str z =>
      rw [r.str_]
      have e : (if z.length ≤ sizeLine then some ((z.length : Int) != 0) else none) = some k := e
      by_cases hz : z.length ≤ sizeLine
      · rw [if_pos hz] at e
        cases e
        exact ⟨hz, rfl⟩
      · rw [if_neg hz] at e; cases e
    | tup ds =>
      cases e
      obtain ⟨a, us, ea, h1, h2⟩ := VRel.tup_ R r
      subst ea
      exact .inr (.inl ⟨us, h1, by rw [isEmpty_len h2.length]⟩)
    | kt ds =>
      cases e
      obtain ⟨a, us, ea, h1, h2⟩ := VRel.kt_ R r
      subst ea
      exact .inr (.inl ⟨us, h1, by rw [isEmpty_len h2.length]⟩)
    | lst ds =>
      cases e
      obtain ⟨a, us, ea, h1, h2⟩ := VRel.lst_ R r
      subst ea
      exact .inl ⟨us, SqL.of h1, by rw [isEmpty_len h2.length]⟩
    | dK ks ds =>
      cases e
      have r : Is Γ G.F u _ := r
      unfold Is at r
      obtain ⟨a, kvs, ea, h1, h2, h3⟩ := r
      subst ea
      exact .inr (.inr ⟨kvs, R.sub _ _ h1, by rw [← h2]; cases kvs <;> rfl⟩)
    | scr ns =>
      cases e
      have r : Is Γ G.F u _ := r
      unfold Is at r
      obtain ⟨a, ea, h1⟩ := r
      subst ea
      exact .inl ⟨_, R.sub.seq h1, by cases ns <;> rfl⟩
    | dT _ _ => cases e
    | ins _ _ _ => cases e
    | obj _ => cases e
  | own j =>
    obtain ⟨a, ha, ea⟩ := r
    subst ea
    unfold truV at e
    cases q : μ[j]? with
    | none => simp only [q] at e; cases e
    | some c =>
      simp only [q] at e
      cases c with
      | lst vs =>
        cases e
        obtain ⟨n, us, h, l⟩ := R.cells j a _ ha q
        exact .inl ⟨us, SqL.of h, by rw [isEmpty_len (Paired.length l)]⟩
      | dK ks vs =>
        cases e
        obtain ⟨n, us, h, l, _⟩ := R.cells j a _ ha q
        exact .inr (.inr ⟨us, h, by rw [← l]; cases us <;> rfl⟩)
      | _ => cases e
theorem zt_truth (c : Cz Γ W X lv) (ha : PE X a (tZ Γ W f)) (he : ∀ whole, isTrue a X.env whole = (do let v ← whole; standAt a.pos; holding [v] (truthy v))) : PT X a (tZT Γ W (fTr f)) := by
  refine PT.imp (pt_truth ha he) fun σ H Q t => ?_
  obtain ⟨G, ρ, μ, R, p⟩ := t
  refine ⟨G, ρ, μ, R, Post.bindT p fun u v μ1 G1 H1 s1 R1 r1 p1 => ?_⟩
  simp only at p1
  split at p1
  · rename_i k e
    exact ⟨k, by rw [c.K]; exact truV_ok R1.toRepM r1 e, PostT.here R1 p1⟩
  · exact p1.elim

/-! ## and, or, not, if-else -/
def fAndT (f g : FT) : FT := fun ρ μ => (f ρ μ).bind fun p => if p.1 = true then g ρ p.2 else .ok (false, p.2)
def fOrT (f g : FT) : FT := fun ρ μ => (f ρ μ).bind fun p => if p.1 = true then .ok (true, p.2) else g ρ p.2
def fNotT (f : FT) : FT := fun ρ μ => (f ρ μ).bind fun p => .ok (!p.1, p.2)
theorem zt_and {s t : FT} (ha : PT X a (tZT Γ W s)) (hb : PW X (.BoolOp .And (b :: rest) pos) (tZT Γ W t)) : PW X (.BoolOp .And (a :: b :: rest) pos) (tZT Γ W (fAndT s t)) := by
  refine ⟨fun wh pins st σ H Q I q => (pw_and ha hb).run wh pins st σ H Q I ?_⟩
  obtain ⟨G, ρ, μ, R, p⟩ := q
  refine ⟨G, ρ, μ, R, PostT.bindT p fun k μ1 G1 H1 s1 R1 p1 => ?_⟩
  cases k with
  | true => rw [if_pos rfl]; exact ⟨G1, ρ, μ1, R1, p1⟩
  | false => rw [if_neg Bool.false_ne_true]; exact PostT.here R1 p1
theorem zt_or {s t : FT} (ha : PT X a (tZT Γ W s)) (hb : PW X (.BoolOp .Or (b :: rest) pos) (tZT Γ W t)) : PW X (.BoolOp .Or (a :: b :: rest) pos) (tZT Γ W (fOrT s t)) := by
  refine ⟨fun wh pins st σ H Q I q => (pw_or ha hb).run wh pins st σ H Q I ?_⟩
  obtain ⟨G, ρ, μ, R, p⟩ := q
  refine ⟨G, ρ, μ, R, PostT.bindT p fun k μ1 G1 H1 s1 R1 p1 => ?_⟩
  cases k with
  | true => rw [if_pos rfl]; exact PostT.here R1 p1
  | false => rw [if_neg Bool.false_ne_true]; exact ⟨G1, ρ, μ1, R1, p1⟩
theorem zt_not {s : FT} (ha : PT X a (tZT Γ W s)) : PT X (.UnaryOp .Not a pos) (tZT Γ W (fNotT s)) := by
  refine PT.imp (pt_not ha) fun σ H Q q => ?_
  obtain ⟨G, ρ, μ, R, p⟩ := q
  exact ⟨G, ρ, μ, R, PostT.bindT p fun k μ1 G1 H1 s1 R1 p1 => PostT.here R1 p1⟩
/-- as values: bools ahead of the last -/
def fAndV (f g : FE) : FE := fun ρ μ => (f ρ μ).bind fun p => match p.1 with
  | .d (.bl true) => g ρ p.2
  | .d (.bl false) => .ok (.d (.bl false), p.2)
  | _ => .bad
def fOrV (f g : FE) : FE := fun ρ μ => (f ρ μ).bind fun p => match p.1 with
  | .d (.bl true) => .ok (.d (.bl true), p.2)
  | .d (.bl false) => g ρ p.2
  | _ => .bad
def oNot : Val → Mu → R (Val × Mu)
  | .d (.bl k), μ => .ok (.d (.bl (!k)), μ)
  | _, _ => .bad
theorem ze_one {op} (ha : PE X a (tZ Γ W f)) : PE X (.BoolOp op [a] pos) (tZ Γ W f) := pe_one ha
theorem ze_and (ha : PE X a (tZ Γ W f)) (hb : PE X (.BoolOp .And (b :: rest) pos) (tZ Γ W g)) : PE X (.BoolOp .And (a :: b :: rest) pos) (tZ Γ W (fAndV f g)) := by
  refine PE.imp (pe_and ha hb) fun σ H Q t => ?_
  obtain ⟨G, ρ, μ, R, p⟩ := t
  refine ⟨G, ρ, μ, R, Post.bind p fun u v μ1 G1 H1 s1 R1 r1 p1 => ?_⟩
  simp only at p1
  split at p1
  · exact ⟨true, r1.bl_, by rw [if_pos rfl]; exact ⟨G1, ρ, μ1, R1, p1⟩⟩
  · exact ⟨false, r1.bl_, by rw [if_neg Bool.false_ne_true]; exact Post.bl R1 p1⟩
  · exact p1.elim
theorem ze_or (ha : PE X a (tZ Γ W f)) (hb : PE X (.BoolOp .Or (b :: rest) pos) (tZ Γ W g)) : PE X (.BoolOp .Or (a :: b :: rest) pos) (tZ Γ W (fOrV f g)) := by
  refine PE.imp (pe_or ha hb) fun σ H Q t => ?_
  obtain ⟨G, ρ, μ, R, p⟩ := t
  refine ⟨G, ρ, μ, R, Post.bind p fun u v μ1 G1 H1 s1 R1 r1 p1 => ?_⟩
  simp only at p1
  split at p1
  · exact ⟨true, r1.bl_, by rw [if_pos rfl]; exact Post.bl R1 p1⟩
  · exact ⟨false, r1.bl_, by rw [if_neg Bool.false_ne_true]; exact ⟨G1, ρ, μ1, R1, p1⟩⟩
  · exact p1.elim
theorem ze_not (ha : PE X a (tZ Γ W f)) : PE X (.UnaryOp .Not a pos) (tZ Γ W (fUn oNot f)) := by
  refine PE.imp (pe_not ha) fun σ H Q t => ?_
  obtain ⟨G, ρ, μ, R, p⟩ := t
  refine ⟨G, ρ, μ, R, Post.bind p fun u v μ1 G1 H1 s1 R1 r1 p1 => ?_⟩
  cases v with
  | own k => exact p1.elim
  | d d =>
    cases d with
    | bl k => exact ⟨_, r1.bl_, Post.bl R1 p1⟩
    | _ => exact p1.elim
def fIf (s : FT) (f g : FE) : FE := fun ρ μ => (s ρ μ).bind fun p => if p.1 = true then f ρ p.2 else g ρ p.2
theorem ze_if {s : FT} (hc : PT X e (tZT Γ W s)) (ha : PE X a (tZ Γ W f)) (hb : PE X b (tZ Γ W g)) : PE X (.IfExp e a b pos) (tZ Γ W (fIf s f g)) := by
  refine PE.imp (pe_ifExp hc ha hb) fun σ H Q t => ?_
  obtain ⟨G, ρ, μ, R, p⟩ := t
  refine ⟨G, ρ, μ, R, PostT.bind p fun k μ1 G1 H1 s1 R1 p1 => ?_⟩
  cases k with
  | true => rw [if_pos rfl]; exact ⟨G1, ρ, μ1, R1, p1⟩
  | false => rw [if_neg Bool.false_ne_true]; exact ⟨G1, ρ, μ1, R1, p1⟩

/-! ## items, slices -/
theorem ze_ix (c : Cz Γ W X lv) (ha : PE X a (tZ Γ W f)) (hb : PE X b (tZ Γ W g)) (hs : PlainIx b) : PE X (.Subscript a b pos) (tZ Γ W (fBin oIx f g)) :=
  PE.imp (pe_ix (ix_all (by have := c.hu; omega)) ha hb hs) (tZ_bin (by rw [c.K]; exact oIx_ok))
def oCut (lo hi : Option Int) : Val → Mu → R (Val × Mu)
  | .d (.str z), μ => if z.length ≤ sizeLine then .ok (.d (.str (cutS z lo hi)), μ) else .bad
  | .d (.tup ds), μ => .ok (.d (.tup (cutD ds lo hi)), μ)
  | v, μ => (match lstV μ v with
    | some ds => .ok (.d (.lst (cutD ds lo hi)), μ)
    | none => .bad)
abbrev rSlZ (K : PySem.W.Frag) : V → Option Int → Option Int → Hp → VK → Prop := fun x lo hi H Q => rSlS x lo hi H Q ∨ (rSlA K x lo hi H Q ∨ rSlL K x lo hi H Q)
theorem sl_all : SlR X (rSlZ X.K) := sl_str.or (sl_tupA.or sl_list)
theorem cutD_whole {ds : List D} {lo hi : Option Int} (h : HT.sIx ds.length 0 lo = 0 ∧ HT.sIx ds.length ds.length hi = ds.length) : cutD ds lo hi = ds := by
  unfold cutD; rw [h.1, h.2]; simp
theorem oCut_ok {lo hi : Option Int} : Op1 Γ W (fun x H Q => rSlZ Γ.K x lo hi H Q) (oCut lo hi) := by
  intro G ρ μ σ H Q x v R rx p
  unfold oCut at p
  split at p
  · split at p
    · rename_i hz
      exact .inl ⟨_, rx.str_, hz, Post.str R p⟩
    · exact p.elim
  · rename_i ds
    obtain ⟨l, us, h1, h2, h3⟩ := VRel.tup_ R.toRepM rx
    refine .inr (.inl ⟨l, us, h1, h2, fun w => ?_, fun _ => Post.tup R p (cut_IsL h3 lo hi)⟩)
    rw [h3.length] at w
    rw [cutD_whole w] at p
    exact Post.here R p (by rw [← h1]; exact rx)
  · split at p
    · rename_i ds e
      obtain ⟨l, us, h1, h2, h3⟩ := lstV_ok R.toRepM rx e
      exact .inr (.inr ⟨l, us, h1, SqL.of h2, Post.lst R p (cut_IsL h3 lo hi)⟩)
    · exact p.elim
/-- a part of a slice -/
abbrev FO := Rho → Mu → R (Option Int × Mu)
def fPart : Option FE → FO
  | none => fun _ μ => .ok (none, μ)
  | some f => fun ρ μ => (f ρ μ).bind fun p => match p.1 with
    | .d (.int i) => .ok (some i, p.2)
    | _ => .bad
def fSl (f : FE) (lo hi : Option FE) : FE := fun ρ μ => (f ρ μ).bind fun p => (fPart lo ρ p.2).bind fun l => (fPart hi ρ l.2).bind fun u => oCut l.1 u.1 p.1 u.2
def tZO (Γ : Gm) (W : WX) : Option FE → TO
  | none => tNoPart
  | some f => tPart (tZ Γ W f)
theorem part_ok {lo : Option FE} {G : Gh} {ρ : Rho} {μ : Mu} {σ : St} {H : Hp} {Q : VK} {Q1 : Option Int → Hp → Prop} {k : Option Int × Mu → R (Val × Mu)} (R : Rep Γ G ρ μ σ H) (p : Post Γ W G ρ σ H Q ((fPart lo ρ μ).bind k))
    (n : ∀ i μ1 G1 H1, Step G H G1 H1 → Rep Γ G1 ρ μ1 σ H1 → Post Γ W G1 ρ σ H1 Q (k (i, μ1)) → Q1 i H1) : tZO Γ W lo σ H Q1 := by
  cases lo with
  | none => exact n none μ G H (Step.refl G H) R p
  | some f =>
    have hb : ∀ (r : Zl.R (Val × Mu)) (m : Val × Mu → Zl.R (Option Int × Mu)), (r.bind m).bind k = r.bind fun q => (m q).bind k := fun r m => by cases r <;> rfl
    have p' : Post Γ W G ρ σ H Q ((f ρ μ).bind fun q => (match q.1 with
      | .d (.int i) => Zl.R.ok (some i, q.2)
      | _ => .bad).bind k) := by
      have p2 : Post Γ W G ρ σ H Q (((f ρ μ).bind fun q => (match q.1 with
        | .d (.int i) => Zl.R.ok (some i, q.2)
        | _ => .bad)).bind k) := p
      rw [hb] at p2
      exact p2
    refine ⟨G, ρ, μ, R, Post.bind p' fun u v μ1 G1 H1 s1 R1 r1 p1 => ?_⟩
    simp only at p1
    split at p1
    · exact ⟨_, r1.int_, n _ μ1 G1 H1 s1 R1 p1⟩
    · exact p1.elim
theorem zo_none : PO X none (tZO Γ W none) := po_none
theorem zo_some {x : Expr} (h : PE X x (tZ Γ W f)) : PO X (some x) (tZO Γ W (some f)) := po_some h
theorem ze_sl (c : Cz Γ W X lv) {lo hi : Option Expr} {l u : Option FE} {p2} (ha : PE X a (tZ Γ W f)) (hl : PO X lo (tZO Γ W l)) (hu : PO X hi (tZO Γ W u)) : PE X (.Subscript a (.Slice lo hi none p2) pos) (tZ Γ W (fSl f l u)) := by
  refine PE.imp (pe_slice sl_all ha hl hu) fun σ H Q t => ?_
  obtain ⟨G, ρ, μ, R, p⟩ := t
  refine ⟨G, ρ, μ, R, Post.bind p fun x v μ1 G1 H1 s1 R1 r1 p1 => part_ok R1 p1 fun i μ2 G2 H2 s2 R2 p2 => part_ok R2 p2 fun j μ3 G3 H3 s3 R3 p3 => ?_⟩
  rw [c.K]
  exact oCut_ok G3 ρ μ3 σ H3 Q x v R3 (VRel.mono s3 (VRel.mono s2 r1)) p3
end
end Zl
set_option Elab.async false
set_option linter.all false
set_option maxRecDepth 100000
set_option maxHeartbeats 4000000
namespace Zl
open PySem PySem.Spec L2
open PyProof.Rows hiding St

inductive Fl where
  | nx | rt (v : Val) | bk | ct
abbrev FS := Rho → Mu → R (Fl × Rho × Mu)
def PostS (Γ : Gm) (W : WX) (G : Gh) (H : Hp) (D : Ends) : R (Fl × Rho × Mu) → Prop
  | .ok p => ∀ G' σ' H', Step G H G' H' → Rep Γ G' p.2.1 p.2.2 σ' H' → (match p.1 with
    | .nx => D.nx σ' H'
    | .rt v => ∀ u, VRel Γ G' u v → D.rt u H'
    | .bk => D.bk σ' H'
    | .ct => D.ct σ' H')
  | .ex e r m => ∀ cls dx G' σ' H', Step G H G' H' → Rep Γ G' r m σ' H' → ErrRel Γ G' H' cls dx e → W cls dx σ' H'
  | .bad => False
def tZS (Γ : Gm) (W : WX) (f : FS) : TS := fun D σ H => ∃ G ρ μ, Rep Γ G ρ μ σ H ∧ PostS Γ W G H D (f ρ μ)
theorem PostS.step {Γ : Gm} {W : WX} {G G1 : Gh} {H H1 : Hp} {D : Ends} (s : Step G H G1 H1) : ∀ {r : R (Fl × Rho × Mu)}, PostS Γ W G H D r → PostS Γ W G1 H1 D r
  | .ok p, h => fun G' σ' H' z => h G' σ' H' (s.trans z)
  | .ex e r m, h => fun c d G' σ' H' z => h c d G' σ' H' (s.trans z)
  | .bad, h => h
section
variable {Γ : Gm} {W : WX} {X : Cx} {lv : Nat} {a b e : Expr} {f g : FE} {pos : Pos}
/-- an expression's outcome ahead of the rest of a statement -/
theorem Post.bindS {G : Gh} {ρ : Rho} {σ : St} {H : Hp} {D : Ends} {Q1 : VK} {k : Val × Mu → R (Fl × Rho × Mu)} : ∀ {r : R (Val × Mu)}, PostS Γ W G H D (r.bind k) →
    (∀ u v μ1 G1 H1, Step G H G1 H1 → Rep Γ G1 ρ μ1 σ H1 → VRel Γ G1 u v → PostS Γ W G1 H1 D (k (v, μ1)) → Q1 u H1) → Post Γ W G ρ σ H Q1 r
  | .ok p, h, f => fun u G1 H1 s R v => f u p.1 p.2 G1 H1 s R v (PostS.step s h)
  | .ex e r m, h, f => fun c d G' H' z R => h c d G' σ H' z R
  | .bad, h, f => h
theorem PostA.bindS {G : Gh} {ρ : Rho} {σ : St} {H : Hp} {D : Ends} {Q1 : List V → Hp → Prop} {k : List Val × Mu → R (Fl × Rho × Mu)} : ∀ {r : R (List Val × Mu)}, PostS Γ W G H D (r.bind k) →
    (∀ u v μ1 G1 H1, Step G H G1 H1 → Rep Γ G1 ρ μ1 σ H1 → VRelL Γ G1 u v → PostS Γ W G1 H1 D (k (v, μ1)) → Q1 u H1) → PostA Γ W G ρ σ H Q1 r
  | .ok p, h, f => fun u G1 H1 s R v => f u p.1 p.2 G1 H1 s R v (PostS.step s h)
  | .ex e r m, h, f => fun c d G' H' z R => h c d G' σ H' z R
  | .bad, h, f => h
theorem PostT.bindS {G : Gh} {ρ : Rho} {σ : St} {H : Hp} {D : Ends} {Q1 : Bool → Hp → Prop} {k : Bool × Mu → R (Fl × Rho × Mu)} : ∀ {r : R (Bool × Mu)}, PostS Γ W G H D (r.bind k) →
    (∀ b μ1 G1 H1, Step G H G1 H1 → Rep Γ G1 ρ μ1 σ H1 → PostS Γ W G1 H1 D (k (b, μ1)) → Q1 b H1) → PostT Γ W G ρ σ H Q1 r
  | .ok p, h, f => fun G1 H1 s R => f p.1 p.2 G1 H1 s R (PostS.step s h)
  | .ex e r m, h, f => fun c d G' H' z R => h c d G' σ H' z R
  | .bad, h, f => h
theorem PostS.nx {G : Gh} {ρ : Rho} {μ : Mu} {σ : St} {H : Hp} {D : Ends} (R : Rep Γ G ρ μ σ H) (h : PostS Γ W G H D (.ok (.nx, ρ, μ))) : D.nx σ H := h G σ H (Step.refl G H) R
theorem PostS.rt {G : Gh} {ρ : Rho} {μ : Mu} {σ : St} {H : Hp} {D : Ends} {u : V} {v : Val} (R : Rep Γ G ρ μ σ H) (h : PostS Γ W G H D (.ok (.rt v, ρ, μ))) (r : VRel Γ G u v) : D.rt u H := h G σ H (Step.refl G H) R u r

def Rho.set (ρ : Rho) (i : Nat) (v : Val) : Rho := ⟨ρ.n0, ρ.s.set i (some v)⟩
theorem Rep.set {G : Gh} {ρ : Rho} {μ : Mu} {σ : St} {H : Hp} {i : Nat} {u : V} {v : Val} (R : Rep Γ G ρ μ σ H) (r : VRel Γ G u v) : Rep Γ G (ρ.set i v) μ (σ.set i (some u)) H := by
  refine ⟨R.toRepM, fun j w e => ?_, by simp [Rho.set, R.rl], R.n0, R.top⟩
  have e : (ρ.s.set i (some v))[j]? = some (some w) := e
  by_cases h : j = i
  · subst h
    have hl : j < ρ.s.length := by
      have := (List.getElem?_eq_some_iff.mp e).1
      simpa using this
    rw [List.getElem?_set_self hl] at e
    cases e
    exact ⟨u, List.getElem?_set_self (by rw [← R.rl]; exact hl), r⟩
  · rw [List.getElem?_set_ne (Ne.symm h)] at e
    obtain ⟨w', h1, h2⟩ := R.slots j w e
    exact ⟨w', by rw [List.getElem?_set_ne (Ne.symm h)]; exact h1, h2⟩

/-! ## blocks and small statements -/
def fNext : FS := fun ρ μ => .ok (.nx, ρ, μ)
def fSeq (f g : FS) : FS := fun ρ μ => (f ρ μ).bind fun p => match p.1 with
  | .nx => g p.2.1 p.2.2
  | _ => .ok p
def fBrk : FS := fun ρ μ => .ok (.bk, ρ, μ)
def fCnt : FS := fun ρ μ => .ok (.ct, ρ, μ)
def fDrop (f : FE) : FS := fun ρ μ => (f ρ μ).bind fun p => .ok (.nx, ρ, p.2)
def fRet (f : FE) : FS := fun ρ μ => (f ρ μ).bind fun p => .ok (.rt p.1, ρ, p.2)
def fRetN : FS := fun ρ μ => .ok (.rt (.d .non), ρ, μ)
def fIfS (c : FT) (f g : FS) : FS := fun ρ μ => (c ρ μ).bind fun p => if p.1 = true then f ρ p.2 else g ρ p.2
def fSet (i : Nat) (f : FE) : FS := fun ρ μ => (f ρ μ).bind fun p => .ok (.nx, ρ.set i p.1, p.2)
def fBad : FS := fun _ _ => .bad
theorem zs_nil : PSs X [] (tZS Γ W fNext) := PSs.imp pss_nil fun D σ H ⟨G, ρ, μ, R, p⟩ => PostS.nx R p
theorem seq_ok {s t : FS} {D : Ends} {σ : St} {H : Hp} (q : tZS Γ W (fSeq s t) D σ H) : tSeq (tZS Γ W s) (tZS Γ W t) D σ H := by
  obtain ⟨G, ρ, μ, R, p⟩ := q
  refine ⟨G, ρ, μ, R, ?_⟩
  unfold fSeq at p
  cases e : s ρ μ with
  | bad => rw [e] at p; exact p
  | ex a b c => rw [e] at p; exact p
  | ok r =>
    rw [e, Zl.R.bind_ok] at p
    intro G' σ' H' st R'
    obtain ⟨fl, ρ1, μ1⟩ := r
    cases fl with
    | nx => exact ⟨G', ρ1, μ1, R', PostS.step st p⟩
    | rt v => exact p G' σ' H' st R'
    | bk => exact p G' σ' H' st R'
    | ct => exact p G' σ' H' st R'
theorem zs_cons {st : Stmt} {rest : List Stmt} {s t : FS} (h1 : PS X st (tZS Γ W s)) (h2 : PSs X rest (tZS Γ W t)) : PSs X (st :: rest) (tZS Γ W (fSeq s t)) := PSs.imp (pss_cons h1 h2) fun D σ H q => seq_ok q
theorem zs_one {st : Stmt} {s : FS} (h1 : PS X st (tZS Γ W s)) : PSs X [st] (tZS Γ W s) := pss_one h1
theorem zs_bad {st : Stmt} : PS X st (tZS Γ W fBad) := PS.imp ps_never fun D σ H ⟨G, ρ, μ, R, p⟩ => p
theorem zs_pass : PS X (.Pass pos) (tZS Γ W fNext) := PS.imp ps_pass fun D σ H ⟨G, ρ, μ, R, p⟩ => PostS.nx R p
theorem zs_break : PS X (.Break pos) (tZS Γ W fBrk) := PS.imp ps_break fun D σ H ⟨G, ρ, μ, R, p⟩ => p G σ H (Step.refl G H) R
theorem zs_continue : PS X (.Continue pos) (tZS Γ W fCnt) := PS.imp ps_continue fun D σ H ⟨G, ρ, μ, R, p⟩ => p G σ H (Step.refl G H) R
theorem zs_expr (he : PE X e (tZ Γ W f)) (hs : swapsWith e none pos.line X.env = pure false) : PS X (.Expr e pos) (tZS Γ W (fDrop f)) :=
  PS.imp (ps_expr he hs) fun D σ H ⟨G, ρ, μ, R, p⟩ => ⟨G, ρ, μ, R, Post.bindS p fun u v μ1 G1 H1 s1 R1 r1 p1 => PostS.nx R1 p1⟩
theorem zs_ret (he : PE X e (tZ Γ W f)) : PS X (.Return (some e) pos) (tZS Γ W (fRet f)) :=
  PS.imp (ps_ret he) fun D σ H ⟨G, ρ, μ, R, p⟩ => ⟨G, ρ, μ, R, Post.bindS p fun u v μ1 G1 H1 s1 R1 r1 p1 => PostS.rt R1 p1 r1⟩
theorem zs_retN : PS X (.Return none pos) (tZS Γ W fRetN) := PS.imp ps_retN fun D σ H ⟨G, ρ, μ, R, p⟩ => PostS.rt R p (by show Is Γ _ _ _; unfold Is; rfl)
theorem zs_if {s t : FS} {c : FT} {x y : List Stmt} (hc : PT X e (tZT Γ W c)) (ha : PSs X x (tZS Γ W s)) (hb : PSs X y (tZS Γ W t)) : PS X (.If e x y pos) (tZS Γ W (fIfS c s t)) := by
  refine PS.imp (ps_if hc ha hb) fun D σ H q => ?_
  obtain ⟨G, ρ, μ, R, p⟩ := q
  refine ⟨G, ρ, μ, R, PostT.bindS p fun k μ1 G1 H1 s1 R1 p1 => ?_⟩
  cases k with
  | true => rw [if_pos rfl]; exact ⟨G1, ρ, μ1, R1, p1⟩
  | false => rw [if_neg Bool.false_ne_true]; exact ⟨G1, ρ, μ1, R1, p1⟩
theorem asg_ok {i : Nat} {D : Ends} {σ : St} {H : Hp} (q : tZS Γ W (fSet i f) D σ H) : tAsg (tZ Γ W f) (gName i) D σ H := by
  obtain ⟨G, ρ, μ, R, p⟩ := q
  exact ⟨G, ρ, μ, R, Post.bindS p fun u v μ1 G1 H1 s1 R1 r1 p1 => PostS.nx (R1.set r1) p1⟩
theorem zs_set (c : Cz Γ W X lv) {i : Nat} {x : Str} {pos' : Pos} (hi : X.N[i]? = some x) (hx : Loc X.env.scope x) (he : PE X e (tZ Γ W f)) (hs : swapsWith e (some (.Name x pos')) pos.line X.env = pure false) (hf : X.fn x = true ∨ X.env.scope.names.lookup x = some .local) :
    PS X (.Assign [.Name x pos'] e pos) (tZS Γ W (fSet i f)) := PS.imp (ps_set c.nd hi hx he hs hf) fun D σ H q => asg_ok q

/-! ## targets -/
abbrev FG := Val → Rho → Mu → R (Rho × Mu)
def PostG (Γ : Gm) (W : WX) (G : Gh) (H : Hp) (Q : St → Hp → Prop) : R (Rho × Mu) → Prop
  | .ok p => ∀ G' σ' H', Step G H G' H' → Rep Γ G' p.1 p.2 σ' H' → Q σ' H'
  | .ex _ _ _ => False
  | .bad => False
def tZG (Γ : Gm) (W : WX) (g : FG) : TG := fun v σ H Q => ∃ G ρ μ w, Rep Γ G ρ μ σ H ∧ VRel Γ G v w ∧ PostG Γ W G H Q (g w ρ μ)
def fgName (i : Nat) : FG := fun v ρ μ => .ok (ρ.set i v, μ)
theorem zg_name (nd : X.N.Nodup) {i : Nat} {x : Str} (hi : X.N[i]? = some x) (hx : Loc X.env.scope x) (hf : X.fn x = true ∨ X.env.scope.names.lookup x = some .local) : PG X (.Name x pos) (tZG Γ W (fgName i)) := by
  refine ⟨fun pins s σ H v u Q I r t => (pg_name nd hi hx hf).run pins s σ H v u Q I r ?_⟩
  obtain ⟨G, ρ, μ, w, R, rw', p⟩ := t
  exact p G _ H (Step.refl G H) (R.set rw')
/-- names alone, side by side -/
def setAll : List Nat → List D → Rho → Rho
  | i :: is, d :: ds, ρ => setAll is ds (ρ.set i (.d d))
  | _, _, ρ => ρ
def fgTup (is : List Nat) : FG := fun v ρ μ => match tupV v with
  | some ds => if ds.length = is.length then .ok (setAll is ds ρ, μ) else .bad
  | none => .bad
/-- the names of a tuple target, by their slots -/
inductive Nms (X : Cx) : List Expr → List Nat → Prop where
  | nil : Nms X [] []
  | cons {i : Nat} {x : Str} {p : Pos} {es : List Expr} {is : List Nat} (hi : X.N[i]? = some x) (hx : Loc X.env.scope x) (hf : X.fn x = true ∨ X.env.scope.names.lookup x = some .local) (t : Nms X es is) : Nms X (.Name x p :: es) (i :: is)
theorem Nms.each {es : List Expr} {is : List Nat} (n : Nms X es is) : (assignEach es X.env).length = is.length ∧ (assignEach es X.env).findIdx? (·.1) = none := by
  induction n with
  | nil => exact ⟨rfl, rfl⟩
  | cons hi hx hf t ih =>
    rename_i i x p es is
    have e : assignEach (Expr.Name x p :: es) X.env = (false, assign (.Name x p) X.env) :: assignEach es X.env := by rfl
    rw [e]
    exact ⟨by simp [ih.1], by rw [List.findIdx?_cons]; simp [ih.2]⟩
def gsNames : List Nat → TGs
  | [] => gNil
  | i :: is => gCons (gName i) (gsNames is)
theorem Nms.pgs (nd : X.N.Nodup) {es : List Expr} {is : List Nat} (n : Nms X es is) : PGs X es (gsNames is) := by
  induction n with
  | nil => exact pgs_nil
  | cons hi hx hf t ih => exact pgs_cons (pg_name nd hi hx hf) ih (by rfl)
theorem setAll_ok : ∀ {is : List Nat} {ds : List D} {us : List V} {G : Gh} {ρ : Rho} {μ : Mu} {σ : St} {H : Hp} {Q : St → Hp → Prop}, ds.length = is.length → Rep Γ G ρ μ σ H → IsL Γ G.F us ds →
    (∀ σ', Rep Γ G (setAll is ds ρ) μ σ' H → Q σ' H) → gsNames is us σ H Q
  | [], ds, us, G, ρ, μ, σ, H, Q, hl, R, l, q => by
    have e : ds = [] := List.length_eq_zero_iff.mp hl
    subst e
    exact ⟨l.inv0, q σ R⟩
  | i :: is, [], us, _, _, _, _, _, _, hl, _, _, _ => by simp at hl
  | i :: is, d :: ds, us, G, ρ, μ, σ, H, Q, hl, R, l, q => by
    obtain ⟨v, r, e, h1, h2⟩ := l.inv
    exact ⟨v, r, e, setAll_ok (by simpa using hl) (R.set (v := .d d) h1) h2 q⟩
theorem zg_tup (c : Cz Γ W X lv) {es : List Expr} {is : List Nat} {k : Nat} (n : Nms X es is) : PG X (.Tuple es k pos) (tZG Γ W (fgTup is)) := by
  obtain ⟨h1, h2⟩ := n.each
  refine ⟨fun pins s σ H v u Q I r t => (pg_tup c.calm (n.pgs c.nd) h1 h2).run pins s σ H v u Q I r ?_⟩
  obtain ⟨G, ρ, μ, w, R, rw', p⟩ := t
  unfold fgTup at p
  cases e : tupV w with
  | none => simp only [e] at p; exact p.elim
  | some ds =>
    simp only [e] at p
    by_cases hl : ds.length = is.length
    · rw [if_pos hl] at p
      obtain ⟨a, us, ea, hs, l⟩ := tupV_ok R.toRepM rw' e
      exact ⟨a, us, ea, by rw [c.K]; exact hs, by rw [l.length, hl], setAll_ok hl R l fun σ' R' => p G σ' H (Step.refl G H) R'⟩
    · rw [if_neg hl] at p; exact p.elim
/-- target = value -/
def fAsg (f : FE) (g : FG) : FS := fun ρ μ => (f ρ μ).bind fun p => (g p.1 ρ p.2).bind fun q => .ok (.nx, q.1, q.2)
theorem asgG_ok {t : FG} {D : Ends} {σ : St} {H : Hp} (ht : ∀ v ρ μ e r m, t v ρ μ ≠ .ex e r m) (q : tZS Γ W (fAsg f t) D σ H) : tAsg (tZ Γ W f) (tZG Γ W t) D σ H := by
  obtain ⟨G, ρ, μ, R, p⟩ := q
  refine ⟨G, ρ, μ, R, Post.bindS p fun u v μ1 G1 H1 s1 R1 r1 p1 => ⟨G1, ρ, μ1, v, R1, r1, ?_⟩⟩
  simp only at p1
  cases e : t v ρ μ1 with
  | bad => rw [e] at p1; exact p1
  | ex a b c => exact absurd e (ht _ _ _ _ _ _)
  | ok r => rw [e] at p1; exact fun G' σ' H' s R' => p1 G' σ' H' s R'
theorem fgTup_ne (is : List Nat) : ∀ v ρ μ e r m, fgTup is v ρ μ ≠ .ex e r m := by
  intro v ρ μ e r m h
  unfold fgTup at h
  split at h
  · split at h <;> cases h
  · cases h
theorem zs_unpack (c : Cz Γ W X lv) {es : List Expr} {is : List Nat} {k : Nat} {tp : Pos} (n : Nms X es is) (he : PE X e (tZ Γ W f)) (hs : swapsWithSole [.Tuple es k tp] e pos.line X.env = pure false) (hw : swappedStores [.Tuple es k tp] e X.env = pure none) :
    PS X (.Assign [.Tuple es k tp] e pos) (tZS Γ W (fAsg f (fgTup is))) :=
  PS.imp (ps_asg he (zg_tup c n) hs hw (by rfl)) fun D σ H q => asgG_ok (fgTup_ne is) q
/-- a, b = x, y (two local names) -/
def fPar (i j : Nat) (g : FA) : FS := fun ρ μ => (g ρ μ).bind fun p => match p.1 with
  | [v, w] => .ok (.nx, (ρ.set i v).set j w, p.2)
  | _ => .bad
theorem zs_par (c : Cz Γ W X lv) {i j : Nat} {x y : Str} {t : FA} {px py pt : Pos} {kt k2 pt2} (hi : X.N[i]? = some x) (hj : X.N[j]? = some y) (hij : i ≠ j)
    (hx : X.env.scope.names.lookup x = some .local) (hy : X.env.scope.names.lookup y = some .local) (ha : PA X [a, b] (tZA Γ W t))
    (hw : swappedStores [.Tuple [.Name x px, .Name y py] kt pt] (.Tuple [a, b] k2 pt2) X.env = pure (some [x, y])) :
    PS X (.Assign [.Tuple [.Name x px, .Name y py] kt pt] (.Tuple [a, b] k2 pt2) pos) (tZS Γ W (fPar i j t)) := by
  refine PS.imp (ps_par c.calm c.nd hi hj hij hx hy ha hw) fun D σ H q => ?_
  obtain ⟨G, ρ, μ, R, p⟩ := q
  refine ⟨G, ρ, μ, R, PostA.bindS p fun us vs μ1 G1 H1 s1 R1 r1 p1 => ?_⟩
  simp only at p1
  split at p1
  · cases r1 with
    | cons h1 r1 =>
      cases r1 with
      | cons h2 r1 =>
        cases r1
        exact ⟨_, _, rfl, PostS.nx ((R1.set h1).set h2) p1⟩
  · exact p1.elim
end
end Zl
set_option Elab.async false
set_option linter.all false
set_option maxRecDepth 100000
set_option maxHeartbeats 4000000
namespace Zl
open PySem PySem.Spec L2
open PyProof.Rows hiding St

/-! ## what is walked -/
structure ItOk (Γ : Gm) (J : It) (ds : List D) (F0 : Hp) : Prop where
  go : ∀ (i : Nat) F H, Same F0 F → Same F H → i < ds.length → J.go i H
  stop : ∀ (i : Nat) F H, Same F0 F → Same F H → ds.length ≤ i → J.stop i H
  yld : ∀ (i : Nat) F H x H' d, Same F0 F → Same F H → ds[i]? = some d → J.yld i H x H' → (H' = H ∧ Is Γ F x d) ∨ ∃ p o, H p = none ∧ H' = upd H p o ∧ Is Γ (upd F p o) x d
abbrev FI := Rho → Mu → R (List D × Mu)
def PostI (Γ : Gm) (W : WX) (G : Gh) (ρ : Rho) (σ : St) (H : Hp) (Q : It → Hp → Prop) : R (List D × Mu) → Prop
  | .ok p => ∀ J G' H', Step G H G' H' → Rep Γ G' ρ p.2 σ H' → ItOk Γ J p.1 G'.F → Q J H'
  | .ex e r m => ∀ cls dx G' H', Step G H G' H' → Rep Γ G' r m σ H' → ErrRel Γ G' H' cls dx e → W cls dx σ H'
  | .bad => False
def tZI (Γ : Gm) (W : WX) (f : FI) : TI := fun σ H Q => ∃ G ρ μ, Rep Γ G ρ μ σ H ∧ PostI Γ W G ρ σ H Q (f ρ μ)
section
variable {Γ : Gm} {W : WX} {X : Cx} {lv : Nat} {a b e : Expr} {f g : FE} {pos : Pos}
theorem PI.imp {X : Cx} {tg e : Expr} {t t' : TI} (h : PI X tg e t) (i : ∀ σ H Q, t' σ H Q → t σ H Q) : PI X tg e t' := ⟨fun pins s σ H Q I q => h.run pins s σ H Q I (i σ H Q q)⟩
theorem PostI.step {G G1 : Gh} {ρ : Rho} {σ : St} {H H1 : Hp} {Q : It → Hp → Prop} (s : Step G H G1 H1) : ∀ {r : R (List D × Mu)}, PostI Γ W G ρ σ H Q r → PostI Γ W G1 ρ σ H1 Q r
  | .ok p, h => fun J G' H' z => h J G' H' (s.trans z)
  | .ex e r m, h => fun c d G' H' z => h c d G' H' (s.trans z)
  | .bad, h => h
theorem Post.bindI {G : Gh} {ρ : Rho} {σ : St} {H : Hp} {Q : It → Hp → Prop} {Q1 : VK} {k : Val × Mu → R (List D × Mu)} : ∀ {r : R (Val × Mu)}, PostI Γ W G ρ σ H Q (r.bind k) →
    (∀ u v μ1 G1 H1, Step G H G1 H1 → Rep Γ G1 ρ μ1 σ H1 → VRel Γ G1 u v → PostI Γ W G1 ρ σ H1 Q (k (v, μ1)) → Q1 u H1) → Post Γ W G ρ σ H Q1 r
  | .ok p, h, f => fun u G1 H1 s R v => f u p.1 p.2 G1 H1 s R v (PostI.step s h)
  | .ex e r m, h, f => h
  | .bad, h, f => h
theorem PostA.bindI {G : Gh} {ρ : Rho} {σ : St} {H : Hp} {Q : It → Hp → Prop} {Q1 : List V → Hp → Prop} {k : List Val × Mu → R (List D × Mu)} : ∀ {r : R (List Val × Mu)}, PostI Γ W G ρ σ H Q (r.bind k) →
    (∀ u v μ1 G1 H1, Step G H G1 H1 → Rep Γ G1 ρ μ1 σ H1 → VRelL Γ G1 u v → PostI Γ W G1 ρ σ H1 Q (k (v, μ1)) → Q1 u H1) → PostA Γ W G ρ σ H Q1 r
  | .ok p, h, f => fun u G1 H1 s R v => f u p.1 p.2 G1 H1 s R v (PostI.step s h)
  | .ex e r m, h, f => h
  | .bad, h, f => h
theorem PostI.here {G : Gh} {ρ : Rho} {μ : Mu} {σ : St} {H : Hp} {Q : It → Hp → Prop} {ds : List D} {J : It} (R : Rep Γ G ρ μ σ H) (h : PostI Γ W G ρ σ H Q (.ok (ds, μ))) (j : ItOk Γ J ds G.F) : Q J H := h J G H (Step.refl G H) R j


/-- J's ways for a list at a whose items are us -/
theorem itl_ok {F : Hp} {al : Addr} {us : List V} {ds : List D} (h : F al = some (.lst us)) (l : IsL Γ F us ds) : ItOk Γ (Itl Γ.K al) ds F := by
  refine ⟨fun i F' H s s' hi => ?_, fun i F' H s s' hi => ⟨us, SqL.of (s' _ _ (s _ _ h)), by rw [l.length]; exact hi⟩, fun i F' H x H' d s s' hd y => .inl ?_⟩
  · have hi' : i < us.length := by rw [l.length]; exact hi
    exact ⟨us, us[i], SqL.of (s' _ _ (s _ _ h)), List.getElem?_eq_getElem hi'⟩
  · obtain ⟨e, y⟩ := y
    obtain ⟨v, hv, iv⟩ := l.get hd
    have q := y us (SqL.of (s' _ _ (s _ _ h)))
    rw [hv] at q
    cases q
    exact ⟨e, Is.mono s _ _ iv⟩
theorem itt_ok {F : Hp} {al : Addr} {us : List V} {ds : List D} (h : SqT Γ.K F al us) (l : IsL Γ F us ds) : ItOk Γ (Itt Γ.K al) ds F := by
  refine ⟨fun i F' H s s' hi => ?_, fun i F' H s s' hi => ⟨us, Same.seqT s' (Same.seqT s h), by rw [l.length]; exact hi⟩, fun i F' H x H' d s s' hd y => .inl ?_⟩
  · have hi' : i < us.length := by rw [l.length]; exact hi
    exact ⟨us, us[i], Same.seqT s' (Same.seqT s h), List.getElem?_eq_getElem hi'⟩
  · obtain ⟨e, y⟩ := y
    obtain ⟨v, hv, iv⟩ := l.get hd
    have q := y us (Same.seqT s' (Same.seqT s h))
    rw [hv] at q
    cases q
    exact ⟨e, Is.mono s _ _ iv⟩
/-- a list, a list of the script, a tuple: by the static choice -/
def fiList (f : FE) : FI := fun ρ μ => (f ρ μ).bind fun p => match p.1 with
  | .d (.lst ds) => .ok (ds, p.2)
  | .d (.scr ns) => .ok (ns.map D.int, p.2)
  | _ => .bad
def fiTup (f : FE) : FI := fun ρ μ => (f ρ μ).bind fun p => match tupV p.1 with
  | some ds => .ok (ds, p.2)
  | none => .bad
theorem is_ints {F : Hp} : ∀ ns : List Int, IsL Γ F (ns.map V.int) (ns.map D.int)
  | [] => IsL.nil
  | n :: ns => IsL.cons (by unfold Is; rfl) (is_ints ns)
theorem scr_ok {F : Hp} {al : Addr} {ns : List Int} (h : SqL Γ.K F al (ns.map V.int)) : ItOk Γ (Itl Γ.K al) (ns.map D.int) F := by
  refine ⟨fun i F' H s s' hi => ?_, fun i F' H s s' hi => ⟨_, s'.seq (s.seq h), by simpa using hi⟩, fun i F' H x H' d s s' hd y => .inl ?_⟩
  · have hi' : i < (ns.map V.int).length := by simpa using hi
    exact ⟨_, (ns.map V.int)[i], s'.seq (s.seq h), List.getElem?_eq_getElem hi'⟩
  · obtain ⟨e, y⟩ := y
    obtain ⟨v, hv, iv⟩ := (is_ints (Γ := Γ) (F := F') ns).get hd
    have q := y _ (s'.seq (s.seq h))
    rw [hv] at q
    cases q
    exact ⟨e, iv⟩
theorem zi_list {tg : Expr} (c : Cz Γ W X lv) (he : PE X e (tZ Γ W f)) : PI X tg e (tZI Γ W (fiList f)) := by
  refine PI.imp (pi_list he) fun σ H Q t => ?_
  obtain ⟨G, ρ, μ, R, p⟩ := t
  refine ⟨G, ρ, μ, R, Post.bindI p fun u v μ1 G1 H1 s1 R1 r1 p1 => ?_⟩
  simp only at p1
  rw [c.K]
  split at p1
  · have r : Is Γ G1.F u _ := r1
    unfold Is at r
    obtain ⟨a, us, ea, h, l⟩ := r
    exact ⟨a, ea, ⟨us, SqL.of (R1.sub _ _ h)⟩, PostI.here R1 p1 (itl_ok h l)⟩
  · have r : Is Γ G1.F u _ := r1
    unfold Is at r
    obtain ⟨a, ea, h⟩ := r
    exact ⟨a, ea, ⟨_, R1.sub.seq h⟩, PostI.here R1 p1 (scr_ok h)⟩
  · exact p1.elim
theorem zi_tup {tg : Expr} (c : Cz Γ W X lv) (he : PE X e (tZ Γ W f)) : PI X tg e (tZI Γ W (fiTup f)) := by
  refine PI.imp (pi_tup he) fun σ H Q t => ?_
  obtain ⟨G, ρ, μ, R, p⟩ := t
  refine ⟨G, ρ, μ, R, Post.bindI p fun u v μ1 G1 H1 s1 R1 r1 p1 => ?_⟩
  simp only at p1
  rw [c.K]
  split at p1
  · rename_i ds ed
    have key : ∃ a us, u = .ref a ∧ SqT Γ.K G1.F a us ∧ IsL Γ G1.F us ds := by
      cases v with
      | d x =>
        have r : Is Γ G1.F u _ := r1
        cases x with
        | tup es => cases ed; unfold Is at r; obtain ⟨a, us, ea, h, l⟩ := r; exact ⟨a, us, ea, SqT.of h, l⟩
        | kt es => cases ed; unfold Is at r; exact r
        | _ => cases ed
      | own k => cases ed
    obtain ⟨a, us, ea, h, l⟩ := key
    exact ⟨a, ea, ⟨us, Same.seqT R1.sub h⟩, PostI.here R1 p1 (itt_ok h l)⟩
  · exact p1.elim
/-- range(n), range(a, b) -/
def rngD (lo : Int) (n : Nat) : List D := (List.range n).map fun (i : Nat) => D.int (lo + i)
theorem rng_ok {F : Hp} (lo : Int) (n : Nat) : ItOk Γ (Itr lo n) (rngD lo n) F := by
  refine ⟨fun i F' H s s' hi => show i < n by simpa [rngD] using hi, fun i F' H s s' hi => show n ≤ i by simpa [rngD] using hi, fun i F' H x H' d s s' hd y => .inl ?_⟩
  obtain ⟨e, y⟩ := y
  refine ⟨e, ?_⟩
  rw [y]
  unfold rngD at hd
  rw [List.getElem?_map] at hd
  cases q : (List.range n)[i]? with
  | none => rw [q] at hd; cases hd
  | some j =>
    rw [q] at hd
    cases hd
    have hj : i = j := by
      have h1 := (List.getElem?_eq_some_iff.mp q)
      obtain ⟨h1, h2⟩ := h1
      simpa using h2
    subst hj
    unfold Is; rfl
def fiRng1 (g : FA) : FI := fun ρ μ => (g ρ μ).bind fun p => match p.1 with
  | [.d (.int j)] => if -(2 ^ 62) ≤ j ∧ j < 2 ^ 62 then .ok (rngD 0 j.toNat, p.2) else .bad
  | _ => .bad
def fiRng2 (g : FA) : FI := fun ρ μ => (g ρ μ).bind fun p => match p.1 with
  | [.d (.int i), .d (.int j)] => if -(2 ^ 62) ≤ i ∧ i < 2 ^ 62 ∧ -(2 ^ 62) ≤ j ∧ j < 2 ^ 62 then .ok (rngD i (j - i).toNat, p.2) else .bad
  | _ => .bad
theorem zi_rng1 {tg : Expr} {t : FA} {p : Pos} (hg : Gl X "range") (hm : X.mg "range" = none) (ha : PA X [a] (tZA Γ W t)) (hs : starEach [a] X.env = [(false, eval a X.env)]) : PI X tg (.Call (.Name "range" p) [a] [] pos) (tZI Γ W (fiRng1 t)) := by
  refine PI.imp (pi_range1 hg hm ha hs) fun σ H Q q => ?_
  obtain ⟨G, ρ, μ, R, p⟩ := q
  refine ⟨G, ρ, μ, R, PostA.bindI p fun us vs μ1 G1 H1 s1 R1 r1 p1 => ?_⟩
  simp only at p1
  split at p1
  · split at p1
    · rename_i hz
      cases r1 with
      | cons h1 r1 =>
        cases r1
        exact ⟨_, by rw [h1.int_], hz.1, hz.2, PostI.here R1 p1 (rng_ok 0 _)⟩
    · exact p1.elim
  · exact p1.elim
theorem zi_rng2 {tg : Expr} {t : FA} {p : Pos} (hg : Gl X "range") (hm : X.mg "range" = none) (ha : PA X [a, b] (tZA Γ W t)) (hs : starEach [a, b] X.env = [(false, eval a X.env), (false, eval b X.env)]) (hs2 : starEach [b] X.env = [(false, eval b X.env)]) : PI X tg (.Call (.Name "range" p) [a, b] [] pos) (tZI Γ W (fiRng2 t)) := by
  refine PI.imp (pi_range2 hg hm ha hs hs2) fun σ H Q q => ?_
  obtain ⟨G, ρ, μ, R, p⟩ := q
  refine ⟨G, ρ, μ, R, PostA.bindI p fun us vs μ1 G1 H1 s1 R1 r1 p1 => ?_⟩
  simp only at p1
  split at p1
  · split at p1
    · rename_i hz
      cases r1 with
      | cons h1 r1 =>
        cases r1 with
        | cons h2 r1 =>
          cases r1
          exact ⟨_, _, by rw [h1.int_, h2.int_], hz, PostI.here R1 p1 (rng_ok _ _)⟩
    · exact p1.elim
  · exact p1.elim
/-- the signs of a text -/
def signsD (z : Str) : List D := z.cps.toList.map fun c => D.str ⟨#[c]⟩
def fiStr (f : FE) : FI := fun ρ μ => (f ρ μ).bind fun p => match p.1 with
  | .d (.str z) => .ok (signsD z, p.2)
  | _ => .bad
theorem zi_str {tg : Expr} (he : PE X e (tZ Γ W f)) : PI X tg e (tZI Γ W (fiStr f)) := by
  refine PI.imp (pi_str he) fun σ H Q t => ?_
  obtain ⟨G, ρ, μ, R, p⟩ := t
  refine ⟨G, ρ, μ, R, Post.bindI p fun u v μ1 G1 H1 s1 R1 r1 p1 => ?_⟩
  simp only at p1
  split at p1
  · rename_i z
    refine ⟨z, r1.str_, PostI.here R1 p1 ⟨fun i F H s s' hi => show i < z.cps.size by simpa [signsD] using hi, fun i F H s s' hi => show z.cps.size ≤ i by simpa [signsD] using hi, fun i F H x H' d s s' hd y => .inl ?_⟩⟩
    obtain ⟨e, c, hc, ex⟩ := y
    refine ⟨e, ?_⟩
    have hd' : (z.cps.toList.map fun c => D.str ⟨#[c]⟩)[i]? = some d := hd
    rw [List.getElem?_map, Array.getElem?_toList, hc] at hd'
    cases hd'
    rw [ex]
    unfold Is; rfl
  · exact p1.elim
/-- enumerate(a list) -/
def enumD (k : Nat) : List D → List D
  | [] => []
  | d :: ds => .tup [.int (k : Int), d] :: enumD (k + 1) ds
theorem enumD_length : ∀ (ds : List D) (k : Nat), (enumD k ds).length = ds.length
  | [], _ => rfl
  | _ :: ds, k => by rw [enumD, List.length_cons, List.length_cons, enumD_length ds]
theorem enumD_get : ∀ (ds : List D) (k i : Nat), (enumD k ds)[i]? = (ds[i]?).map fun d => D.tup [.int ((k + i : Nat) : Int), d]
  | [], _, _ => by simp [enumD]
  | d :: ds, k, 0 => by simp [enumD]
  | d :: ds, k, i + 1 => by
    rw [enumD, List.getElem?_cons_succ, List.getElem?_cons_succ, enumD_get ds (k + 1) i]
    have e : k + 1 + i = k + (i + 1) := by omega
    rw [e]
def fiEnum (g : FA) : FI := fun ρ μ => (g ρ μ).bind fun p => match p.1 with
  | [.d (.lst ds)] => .ok (enumD 0 ds, p.2)
  | _ => .bad
theorem ite_ok {F : Hp} {al : Addr} {us : List V} {ds : List D} (h : F al = some (.lst us)) (l : IsL Γ F us ds) : ItOk Γ (Ite Γ.K al) (enumD 0 ds) F := by
  refine ⟨fun i F' H s s' hi => ?_, fun i F' H s s' hi => ⟨us, SqL.of (s' _ _ (s _ _ h)), by rw [l.length]; rw [enumD_length] at hi; exact hi⟩, fun i F' H x H' d s s' hd y => .inr ?_⟩
  · rw [enumD_length] at hi
    have hi' : i < us.length := by rw [l.length]; exact hi
    exact ⟨us, us[i], SqL.of (s' _ _ (s _ _ h)), List.getElem?_eq_getElem hi'⟩
  · obtain ⟨T, z, ex, hT, eH, y⟩ := y
    rw [enumD_get] at hd
    cases q : ds[i]? with
    | none => rw [q] at hd; cases hd
    | some d0 =>
      rw [q] at hd
      cases hd
      obtain ⟨v, hv, iv⟩ := l.get q
      have w := y us (SqL.of (s' _ _ (s _ _ h)))
      rw [hv] at w
      cases w
      refine ⟨T, _, hT, eH, ?_⟩
      have nF : F' T = none := by
        cases e : F' T with
        | none => rfl
        | some o => rw [s' T o e] at hT; cases hT
      unfold Is
      exact ⟨T, _, ex, upd_same, IsL.cons (by unfold Is; simp) (IsL.cons (Is.mono (same_upd nF) _ _ (Is.mono s _ _ iv)) IsL.nil)⟩
theorem zi_enum {es : List Expr} {kk : Nat} {tp p : Pos} {t : FA} (c : Cz Γ W X lv) (hg : Gl X "enumerate") (hm : X.mg "enumerate" = none) (ha : PA X [a] (tZA Γ W t)) (hs : starEach [a] X.env = [(false, eval a X.env)]) :
    PI X (.Tuple es kk tp) (.Call (.Name "enumerate" p) [a] [] pos) (tZI Γ W (fiEnum t)) := by
  refine PI.imp (pi_enum hg hm ha hs) fun σ H Q q => ?_
  obtain ⟨G, ρ, μ, R, p⟩ := q
  refine ⟨G, ρ, μ, R, PostA.bindI p fun us vs μ1 G1 H1 s1 R1 r1 p1 => ?_⟩
  simp only at p1
  split at p1
  · cases r1 with
    | cons h1 r1 =>
      cases r1
      have r : Is Γ G1.F _ _ := h1
      unfold Is at r
      obtain ⟨al, us, ea, h, l⟩ := r
      exact ⟨al, us, by rw [ea], SqL.of (R1.sub _ _ h), by rw [c.K]; exact PostI.here R1 p1 (ite_ok h l)⟩
  · exact p1.elim
/-- zip of two lists -/
def zipD : List D → List D → List D
  | d :: ds, e :: es => .tup [d, e] :: zipD ds es
  | _, _ => []
theorem zipD_length : ∀ (ds es : List D), (zipD ds es).length = min ds.length es.length
  | [], es => by simp [zipD]
  | _ :: _, [] => by simp [zipD]
  | d :: ds, e :: es => by rw [zipD, List.length_cons, zipD_length ds es, List.length_cons, List.length_cons]; omega
theorem zipD_get : ∀ (ds es : List D) (i : Nat) (x : D), (zipD ds es)[i]? = some x → ∃ d e, ds[i]? = some d ∧ es[i]? = some e ∧ x = .tup [d, e]
  | [], _, _, _, h => by simp [zipD] at h
  | _ :: _, [], _, _, h => by simp [zipD] at h
  | d :: ds, e :: es, 0, x, h => by simp [zipD] at h; exact ⟨d, e, rfl, rfl, h.symm⟩
  | d :: ds, e :: es, i + 1, x, h => by
    rw [zipD, List.getElem?_cons_succ] at h
    obtain ⟨d', e', h1, h2, h3⟩ := zipD_get ds es i x h
    exact ⟨d', e', by simpa using h1, by simpa using h2, h3⟩
def fiZip (g : FA) : FI := fun ρ μ => (g ρ μ).bind fun p => match p.1 with
  | [.d (.lst ds), .d (.lst es)] => .ok (zipD ds es, p.2)
  | _ => .bad
theorem itz_ok {F : Hp} {al bl : Addr} {us ws : List V} {ds es : List D} (h : F al = some (.lst us)) (l : IsL Γ F us ds) (h' : F bl = some (.lst ws)) (l' : IsL Γ F ws es) : ItOk Γ (Itz Γ.K al bl) (zipD ds es) F := by
  refine ⟨fun i F' H s s' hi => ?_, fun i F' H s s' hi => ⟨us, ws, SqL.of (s' _ _ (s _ _ h)), SqL.of (s' _ _ (s _ _ h')), by rw [l.length, l'.length]; rw [zipD_length] at hi; omega⟩, fun i F' H x H' d s s' hd y => .inr ?_⟩
  · rw [zipD_length] at hi
    have hi' : i < us.length := by rw [l.length]; omega
    have hi2 : i < ws.length := by rw [l'.length]; omega
    exact ⟨us, ws, us[i], ws[i], SqL.of (s' _ _ (s _ _ h)), SqL.of (s' _ _ (s _ _ h')), List.getElem?_eq_getElem hi', List.getElem?_eq_getElem hi2⟩
  · obtain ⟨T, z, z', ex, hT, eH, y, y'⟩ := y
    obtain ⟨d1, e1, q1, q2, ed⟩ := zipD_get ds es i d hd
    obtain ⟨v, hv, iv⟩ := l.get q1
    obtain ⟨v', hv', iv'⟩ := l'.get q2
    have w := y us (SqL.of (s' _ _ (s _ _ h)))
    have w' := y' ws (SqL.of (s' _ _ (s _ _ h')))
    rw [hv] at w
    rw [hv'] at w'
    cases w
    cases w'
    refine ⟨T, _, hT, eH, ?_⟩
    have nF : F' T = none := by
      cases e : F' T with
      | none => rfl
      | some o => rw [s' T o e] at hT; cases hT
    rw [ed]
    unfold Is
    exact ⟨T, _, ex, upd_same, IsL.cons (Is.mono (same_upd nF) _ _ (Is.mono s _ _ iv)) (IsL.cons (Is.mono (same_upd nF) _ _ (Is.mono s _ _ iv')) IsL.nil)⟩
theorem zi_zip {es : List Expr} {kk : Nat} {tp p : Pos} {t : FA} (c : Cz Γ W X lv) (hg : Gl X "zip") (hm : X.mg "zip" = none) (ha : PA X [a, b] (tZA Γ W t))
    (hs : starEach [a, b] X.env = (false, eval a X.env) :: starEach [b] X.env) (hpl : (backTo pos (starEach [b] X.env)).any (·.1) = false) :
    PI X (.Tuple es kk tp) (.Call (.Name "zip" p) [a, b] [] pos) (tZI Γ W (fiZip t)) := by
  refine PI.imp (pi_zip hg hm ha hs hpl) fun σ H Q q => ?_
  obtain ⟨G, ρ, μ, R, p⟩ := q
  refine ⟨G, ρ, μ, R, PostA.bindI p fun us vs μ1 G1 H1 s1 R1 r1 p1 => ?_⟩
  simp only at p1
  split at p1
  · cases r1 with
    | cons h1 r1 =>
      cases r1 with
      | cons h2 r1 =>
        cases r1
        have r : Is Γ G1.F _ _ := h1
        unfold Is at r
        obtain ⟨al, us, ea, h, l⟩ := r
        have r' : Is Γ G1.F _ _ := h2
        unfold Is at r'
        obtain ⟨bl, ws, eb, h', l'⟩ := r'
        exact ⟨al, bl, us, ws, by rw [ea, eb], SqL.of (R1.sub _ _ h), SqL.of (R1.sub _ _ h'), by rw [c.K]; exact PostI.here R1 p1 (itz_ok h l h' l')⟩
  · exact p1.elim

/-! ## for, while -/
def fFor (g : FG) (body : FS) : List D → Rho → Mu → R (Fl × Rho × Mu)
  | [], ρ, μ => .ok (.nx, ρ, μ)
  | d :: ds, ρ, μ => (g (.d d) ρ μ).bind fun q => (body q.1 q.2).bind fun p => match p.1 with
    | .nx => fFor g body ds p.2.1 p.2.2
    | .ct => fFor g body ds p.2.1 p.2.2
    | .bk => .ok (.nx, p.2.1, p.2.2)
    | .rt v => .ok (.rt v, p.2.1, p.2.2)
def fForS (it : FI) (g : FG) (body : FS) : FS := fun ρ μ => (it ρ μ).bind fun p => fFor g body p.1 ρ p.2
theorem postI_bindS {G : Gh} {ρ : Rho} {σ : St} {H : Hp} {D' : Ends} {Q1 : It → Hp → Prop} {k : List D × Mu → R (Fl × Rho × Mu)} : ∀ {r : R (List D × Mu)}, PostS Γ W G H D' (r.bind k) →
    (∀ J ds μ1 G1 H1, Step G H G1 H1 → Rep Γ G1 ρ μ1 σ H1 → ItOk Γ J ds G1.F → PostS Γ W G1 H1 D' (k (ds, μ1)) → Q1 J H1) → PostI Γ W G ρ σ H Q1 r
  | .ok p, h, f => fun J G1 H1 s R j => f J p.1 p.2 G1 H1 s R j (PostS.step s h)
  | .ex e r m, h, f => fun c d G' H' z R => h c d G' σ H' z R
  | .bad, h, f => h
theorem zs_for {it : FI} {gt : FG} {s : FS} {tg iter : Expr} {body : List Stmt} (hgt : ∀ v ρ μ e r m, gt v ρ μ ≠ .ex e r m) (c : Cz Γ W X lv) (po : PassesOwn (model X.prog X.w) X.A X.env X.xe) (hi : PI X tg iter (tZI Γ W it)) (hg : PG X tg (tZG Γ W gt)) (hb : PSs X body (tZS Γ W s))
    (hs : ∀ x, foldedSetIterable iter X.env x = pure x) : PS X (.For tg iter body [] pos) (tZS Γ W (fForS it gt s)) := by
  refine PS.imp (ps_for po c.calm hi hg hb hs) fun D' σ H q => ?_
  obtain ⟨G, ρ, μ, R, p⟩ := q
  refine ⟨G, ρ, μ, R, postI_bindS p fun J ds μ1 G1 H1 s1 R1 j p1 => ?_⟩
  refine ⟨fun i m σ H => m = ds.length - i ∧ i ≤ ds.length ∧ ∃ G ρ μ, Rep Γ G ρ μ σ H ∧ Same G1.F G.F ∧ PostS Γ W G H D' (fFor gt s (ds.drop i) ρ μ), ⟨ds.length, by simp, Nat.zero_le _, G1, ρ, μ1, R1, fun _ _ h => h, by simpa using p1⟩, ?_⟩
  rintro i m σ2 H2 ⟨rfl, hi2, G2, ρ2, μ2, R2, sF, p2⟩
  by_cases hlt : i < ds.length
  · refine .inr ⟨j.go i G2.F H2 sF R2.sub hlt, fun σ' H' => ∃ G ρ μ, Rep Γ G ρ μ σ' H' ∧ Same G1.F G.F ∧ PostS Γ W G H' D' (fFor gt s (ds.drop (i + 1)) ρ μ), fun σ' H' n => ⟨ds.length - (i + 1), by omega, rfl, hlt, n⟩, fun x H3 y => ?_⟩
    have hdrop : ds.drop i = ds[i] :: ds.drop (i + 1) := List.drop_eq_getElem_cons hlt
    have hget : ds[i]? = some ds[i] := List.getElem?_eq_getElem hlt
    rw [hdrop] at p2
    have key : ∃ G3, Step G2 H2 G3 H3 ∧ Rep Γ G3 ρ2 μ2 σ2 H3 ∧ Is Γ G3.F x ds[i] := by
      rcases j.yld i G2.F H2 x H3 _ sF R2.sub hget y with ⟨e, h⟩ | ⟨p, o, hp, e, h⟩
      · subst e; exact ⟨G2, Step.refl _ _, R2, h⟩
      · subst e
        have st := R2.toRepM.stepFz (o := o) hp
        exact ⟨_, st, R2.go st (R2.toRepM.fzNew hp), h⟩
    obtain ⟨G3, st3, R3, hx⟩ := key
    have p3 := PostS.step st3 p2
    have p3 : PostS Γ W G3 H3 D' ((gt (.d ds[i]) ρ2 μ2).bind fun q => (s q.1 q.2).bind fun p => match p.1 with
      | .nx => fFor gt s (ds.drop (i + 1)) p.2.1 p.2.2
      | .ct => fFor gt s (ds.drop (i + 1)) p.2.1 p.2.2
      | .bk => .ok (.nx, p.2.1, p.2.2)
      | .rt v => .ok (.rt v, p.2.1, p.2.2)) := p3
    refine ⟨G3, ρ2, μ2, .d ds[i], R3, hx, ?_⟩
    cases eg : gt (.d ds[i]) ρ2 μ2 with
    | bad => rw [eg] at p3; exact p3
    | ex a b c => exact absurd eg (hgt _ _ _ _ _ _)
    | ok q =>
      rw [eg, Zl.R.bind_ok] at p3
      intro G4 σ4 H4 st4 R4
      refine ⟨G4, q.1, q.2, R4, ?_⟩
      have p4 := PostS.step st4 p3
      cases es : s q.1 q.2 with
      | bad => rw [es] at p4; exact p4
      | ex a b c => rw [es] at p4; exact p4
      | ok r =>
        rw [es, Zl.R.bind_ok] at p4
        intro G5 σ5 H5 st5 R5
        have sF5 : Same G1.F G5.F := fun a o h => st5.fz a o (st4.fz a o (st3.fz a o (sF a o h)))
        obtain ⟨fl, ρ5, μ5⟩ := r
        have p5 := PostS.step st5 p4
        cases fl with
        | nx => exact ⟨G5, ρ5, μ5, R5, sF5, p5⟩
        | ct => exact ⟨G5, ρ5, μ5, R5, sF5, p5⟩
        | bk => exact PostS.nx (W := W) R5 (show PostS Γ W G5 H5 D' (.ok (.nx, ρ5, μ5)) from p5)
        | rt v => exact fun u r => PostS.rt (W := W) R5 (show PostS Γ W G5 H5 D' (.ok (.rt v, ρ5, μ5)) from p5) r
  · have e : i = ds.length := by omega
    subst e
    rw [List.drop_length] at p2
    exact .inl ⟨j.stop _ G2.F H2 sF R2.sub (Nat.le_refl _), PostS.nx R2 p2⟩
def fWh (c : FT) (body : FS) : Nat → Rho → Mu → R (Fl × Rho × Mu)
  | 0, _, _ => .bad
  | n + 1, ρ, μ => (c ρ μ).bind fun q => if q.1 = true then (body ρ q.2).bind fun p => (match p.1 with
    | .nx => fWh c body n p.2.1 p.2.2
    | .ct => fWh c body n p.2.1 p.2.2
    | .bk => .ok (.nx, p.2.1, p.2.2)
    | .rt v => .ok (.rt v, p.2.1, p.2.2)) else .ok (.nx, ρ, q.2)
theorem zs_while {t : FT} {s : FS} {n : Nat} {body : List Stmt} (po : PassesOwn (model X.prog X.w) X.A X.env X.xe) (hc : PT X e (tZT Γ W t)) (hb : PSs X body (tZS Γ W s)) : PS X (.While e body [] pos) (tZS Γ W (fWh t s n)) := by
  refine PS.imp (ps_while po hc hb) fun D' σ H q => ?_
  obtain ⟨G, ρ, μ, R, p⟩ := q
  refine ⟨fun m σ H => ∃ G ρ μ, Rep Γ G ρ μ σ H ∧ PostS Γ W G H D' (fWh t s m ρ μ), ⟨n, G, ρ, μ, R, p⟩, ?_⟩
  rintro m σ2 H2 ⟨G2, ρ2, μ2, R2, p2⟩
  cases m with
  | zero => exact p2.elim
  | succ m =>
    refine ⟨G2, ρ2, μ2, R2, PostT.bindS p2 fun k μ3 G3 H3 st3 R3 p3 => ?_⟩
    cases k with
    | false =>
      rw [if_neg Bool.false_ne_true]
      rw [if_neg Bool.false_ne_true] at p3
      exact PostS.nx R3 p3
    | true =>
      rw [if_pos rfl]
      rw [if_pos rfl] at p3
      refine ⟨fun σ' H' => ∃ G ρ μ, Rep Γ G ρ μ σ' H' ∧ PostS Γ W G H' D' (fWh t s m ρ μ), fun σ' H' n => ⟨m, Nat.lt_succ_self _, n⟩, G3, ρ2, μ3, R3, ?_⟩
      simp only at p3
      cases es : s ρ2 μ3 with
      | bad => rw [es] at p3; exact p3
      | ex a b c => rw [es] at p3; exact p3
      | ok r =>
        rw [es, Zl.R.bind_ok] at p3
        intro G5 σ5 H5 st5 R5
        obtain ⟨fl, ρ5, μ5⟩ := r
        have p5 := PostS.step st5 p3
        cases fl with
        | nx => exact ⟨G5, ρ5, μ5, R5, p5⟩
        | ct => exact ⟨G5, ρ5, μ5, R5, p5⟩
        | bk => exact PostS.nx (W := W) R5 (show PostS Γ W G5 H5 D' (.ok (.nx, ρ5, μ5)) from p5)
        | rt v => exact fun u r => PostS.rt (W := W) R5 (show PostS Γ W G5 H5 D' (.ok (.rt v, ρ5, μ5)) from p5) r
end
end Zl
set_option Elab.async false
set_option linter.all false
set_option maxRecDepth 100000
set_option maxHeartbeats 4000000
namespace Zl
open PySem PySem.Spec L2
open PyProof.Rows hiding St

def R.noex {a : Type} : R a → R a
  | .ok x => .ok x
  | _ => .bad
@[simp] theorem R.noex_ok {a : Type} (x : a) : (R.ok x).noex = .ok x := rfl
@[simp] theorem R.noex_bad {a : Type} : (R.bad : R a).noex = .bad := rfl
@[simp] theorem R.noex_ex {a : Type} (e : Err) (r : Rho) (m : Mu) : (R.ex e r m : R a).noex = .bad := rfl

def wipeS (s : List (Option Val)) : List Nat → List (Option Val)
  | [] => s
  | v :: vs => (wipeS s vs).set v none
def Rho.wipe (ρ : Rho) (vs : List Nat) : Rho := ⟨ρ.n0, wipeS ρ.s vs⟩
section
variable {Γ : Gm} {W : WX} {X : Cx} {lv : Nat}
theorem wipeS_some {s : List (Option Val)} {i : Nat} {x : Val} : ∀ {vs : List Nat}, (wipeS s vs)[i]? = some (some x) → s[i]? = some (some x) ∧ i ∉ vs
  | [], h => ⟨h, by simp⟩
  | v :: vs, h => by
    unfold wipeS at h
    by_cases hi : v = i
    · subst hi
      by_cases hv : v < (wipeS s vs).length
      · rw [List.getElem?_set_self hv] at h; cases h
      · rw [List.getElem?_eq_none (by simpa using hv)] at h; cases h
    · rw [List.getElem?_set_ne hi] at h
      obtain ⟨h1, h2⟩ := wipeS_some h
      exact ⟨h1, by simp only [List.mem_cons, not_or]; exact ⟨fun e => hi e.symm, h2⟩⟩
theorem wipeS_length (s : List (Option Val)) : ∀ vs : List Nat, (wipeS s vs).length = s.length
  | [] => rfl
  | v :: vs => by unfold wipeS; rw [List.length_set, wipeS_length s vs]
theorem wipe_off {σ : St} {i : Nat} : ∀ {vs : List Nat}, i ∉ vs → (wipe σ vs)[i]? = σ[i]?
  | [], _ => rfl
  | v :: vs, h => by
    simp only [List.mem_cons, not_or] at h
    unfold wipe
    rw [List.getElem?_set_ne (fun e => h.1 e.symm)]
    exact wipe_off h.2
theorem wipe_on {σ : St} {i : Nat} : ∀ {vs : List Nat}, i ∈ vs → (wipe σ vs)[i]? = if i < σ.length then some none else none
  | [], h => by cases h
  | v :: vs, h => by
    unfold wipe
    by_cases e : v = i
    · subst e
      by_cases hv : v < σ.length
      · rw [if_pos hv, List.getElem?_set_self (by rw [wipe_length]; exact hv)]
      · rw [if_neg hv, List.getElem?_eq_none (by rw [List.length_set, wipe_length]; omega)]
    · rw [List.getElem?_set_ne e]
      rcases List.mem_cons.mp h with z | z
      · exact absurd z.symm e
      · exact wipe_on z
theorem wipe_set {σ : St} {i : Nat} {o : Option V} {vs : List Nat} (h : i ∈ vs) : wipe (σ.set i o) vs = wipe σ vs := by
  refine List.ext_getElem? fun j => ?_
  by_cases hj : j ∈ vs
  · rw [wipe_on hj, wipe_on hj, List.length_set]
  · rw [wipe_off hj, wipe_off hj, List.getElem?_set_ne (fun e => hj (by rw [← e]; exact h))]
theorem wipe_wipe {σ : St} {vs : List Nat} : wipe (wipe σ vs) vs = wipe σ vs := by
  refine List.ext_getElem? fun j => ?_
  by_cases hj : j ∈ vs
  · rw [wipe_on hj, wipe_on hj, wipe_length]
  · rw [wipe_off hj]
theorem VRel.lvn {G : Gh} {p : Addr} {u : V} : ∀ {v : Val}, VRel Γ G u v → VRel Γ (G.lvn p) u v
  | .d x, h => h
  | .own k, h => by
    obtain ⟨a, e, z⟩ := h
    exact ⟨a, by show (G.al ++ [p])[k]? = _; rw [List.getElem?_append_left (List.getElem?_eq_some_iff.mp e).1]; exact e, z⟩
theorem Rep.wipe {G : Gh} {ρ : Rho} {μ : Mu} {σ : St} {H : Hp} (R : Rep Γ G ρ μ σ H) (vs : List Nat) : Rep Γ G (ρ.wipe vs) μ (L2.wipe σ vs) H := by
  refine ⟨R.toRepM, fun i v e => ?_, ?_, R.n0, R.top⟩
  · obtain ⟨h1, h2⟩ := wipeS_some (vs := vs) e
    obtain ⟨u, a, b⟩ := R.slots i v h1
    exact ⟨u, by rw [wipe_off h2]; exact a, b⟩
  · show (wipeS ρ.s vs).length = _
    rw [wipeS_length, wipe_length]; exact R.rl

/-- a comprehension's target -/
def TgOk (Γ : Gm) (vs : List Nat) (g : TG) (t : FG) : Prop := ∀ (G : Gh) (ρ : Rho) (μ : Mu) (σ : St) (H : Hp) (x : V) (d : D) (q : Rho × Mu) (Q : St → Hp → Prop), Rep Γ G ρ μ σ H → Is Γ G.F x d → t (.d d) ρ μ = .ok q →
  (∀ σ', Rep Γ G q.1 q.2 σ' H → wipe σ' vs = wipe σ vs → Q σ' H) → g x σ H Q
theorem tg_name {vs : List Nat} {i : Nat} (h : i ∈ vs) : TgOk Γ vs (gName i) (fgName i) := by
  intro G ρ μ σ H x d q Q R r e k
  cases e
  exact k _ (R.set (v := .d d) r) (wipe_set h)
theorem setAll_wipe : ∀ {is vs : List Nat} {ds : List D} {us : List V} {G : Gh} {ρ : Rho} {μ : Mu} {σ : St} {H : Hp} {Q : St → Hp → Prop}, (∀ i ∈ is, i ∈ vs) → ds.length = is.length → Rep Γ G ρ μ σ H → IsL Γ G.F us ds →
    (∀ σ', Rep Γ G (setAll is ds ρ) μ σ' H → wipe σ' vs = wipe σ vs → Q σ' H) → gsNames is us σ H Q
  | [], vs, ds, us, G, ρ, μ, σ, H, Q, hv, hl, R, l, q => by
    have e : ds = [] := List.length_eq_zero_iff.mp hl
    subst e
    exact ⟨l.inv0, q σ R rfl⟩
  | i :: is, _, [], us, _, _, _, _, _, _, _, hl, _, _, _ => by simp at hl
  | i :: is, vs, d :: ds, us, G, ρ, μ, σ, H, Q, hv, hl, R, l, q => by
    obtain ⟨v, r, e, h1, h2⟩ := l.inv
    exact ⟨v, r, e, setAll_wipe (fun j hj => hv j (List.mem_cons_of_mem _ hj)) (by simpa using hl) (R.set (v := .d d) h1) h2 fun σ' R' w => q σ' R' (w.trans (wipe_set (hv i List.mem_cons_self)))⟩
theorem tg_tup {vs is : List Nat} (h : ∀ i ∈ is, i ∈ vs) : TgOk Γ vs (gTup Γ.K is.length (gsNames is)) (fgTup is) := by
  intro G ρ μ σ H x d q Q R r e k
  unfold fgTup at e
  cases z : tupV (.d d) with
  | none => simp only [z] at e; cases e
  | some ds =>
    simp only [z] at e
    by_cases hl : ds.length = is.length
    · rw [if_pos hl] at e
      cases e
      obtain ⟨a, us, ea, hs, l⟩ := tupV_ok (v := .d d) R.toRepM r z
      exact ⟨a, us, ea, hs, by rw [l.length, hl], setAll_wipe h hl R l k⟩
    · rw [if_neg hl] at e; cases e

def fYes : FT := fun _ μ => .ok (true, μ)
theorem zts_nil : PTs X [] (tZT Γ W fYes) := ⟨fun pins s σ H Q I ⟨G, ρ, μ, R, p⟩ => pts_nil.run pins s σ H Q I (PostT.here R p)⟩
theorem zts_one {c : Expr} {t : FT} (h : PT X c (tZT Γ W t)) : PTs X [c] (tZT Γ W t) := pts_one h

/-! ## list comprehensions -/
def lcGo (g : FG) (t : FT) (el : FE) : List D → Rho → Mu → R (List Val × Mu)
  | [], _, μ => .ok ([], μ)
  | d :: ds, ρ, μ => (g (.d d) ρ μ).noex.bind fun q => (t q.1 q.2).noex.bind fun b => if b.1 = true then
      (el q.1 b.2).noex.bind fun p => (lcGo g t el ds ρ p.2).bind fun r => .ok (p.1 :: r.1, r.2)
    else lcGo g t el ds ρ b.2
/-- what becomes of the list that was made: data, or a live list -/
def lcFin (live : Bool) (q : List Val × Mu) : R (Val × Mu) := if q.1.length < 1000000 then (if live = true then .ok (.own q.2.length, q.2 ++ [.lst q.1]) else (match dsOf q.1 with
  | some ds => .ok (.d (.lst ds), q.2)
  | none => .bad)) else .bad
def fLc (live : Bool) (it : FI) (g : FG) (t : FT) (el : FE) (vs : List Nat) : FE := fun ρ μ => (it ρ μ).bind fun p => (lcGo g t el p.1 (ρ.wipe vs) p.2).bind fun q => lcFin live q
theorem postI_bind {G : Gh} {ρ : Rho} {σ : St} {H : Hp} {Q : VK} {Q1 : It → Hp → Prop} {k : List D × Mu → R (Val × Mu)} : ∀ {r : R (List D × Mu)}, Post Γ W G ρ σ H Q (r.bind k) →
    (∀ J ds μ1 G1 H1, Step G H G1 H1 → Rep Γ G1 ρ μ1 σ H1 → ItOk Γ J ds G1.F → Post Γ W G1 ρ σ H1 Q (k (ds, μ1)) → Q1 J H1) → PostI Γ W G ρ σ H Q1 r
  | .ok p, h, f => fun J G1 H1 s R j => f J p.1 p.2 G1 H1 s R j (Post.step s h)
  | .ex e r m, h, f => h
  | .bad, h, f => h
/-- a tracked object of nobody's becomes frozen -/
theorem RepM.fzOld {G : Gh} {μ : Mu} {H : Hp} {p : Addr} {o : HO} (R : RepM Γ G μ H) (hp : H p = some o) (hF : G.F p = none) (ha : p ∉ G.al) (ht : ¬ TabO o) : RepM Γ (G.fzn p o) μ H := by
  refine ⟨fun a u e => ?_, R.len, R.nd, fun k a c e1 e2 => ?_, R.there, R.clo, R.tabs.go (fun _ _ e _ _ => e) (fun a u _ e t h => by
    show upd G.F p o a = none
    rw [upd_ne fun z => by rw [z, hp] at e; cases e; exact ht t]
    exact h) fun a z => .inl z⟩
  · by_cases z : a = p
    · have e' : upd G.F p o a = some u := e
      rw [z, upd_same] at e'
      rw [z, hp]; exact e'
    · have e' : upd G.F p o a = some u := e
      rw [upd_ne z] at e'
      exact R.sub a u e'
  · have z := mem_ne (List.mem_of_getElem? e1) ha
    exact CRel.mono (G' := G.fzn p o) (same_upd hF) (fun n => by show upd G.F p o a = none; rw [upd_ne z]; exact n) ⟨[], by simp⟩ rfl (R.cells k a c e1 e2)
theorem Step.fzOld {G G1 : Gh} {H H1 : Hp} {p : Addr} {o : HO} (s : Step G H G1 H1) (h0 : H p = none) (hF : G1.F p = none) : Step G H (G1.fzn p o) H1 := by
  refine ⟨fun a u e => same_upd hF a u (s.fz a u e), s.al, s.ts, s.keep, fun a h n => ?_, s.newA, s.there⟩
  by_cases z : a = p
  · exact .inl (z ▸ h0)
  · have n' : upd G1.F p o a ≠ none := n
    rw [upd_ne z] at n'
    exact s.newF a h n'
/-- .. or live -/
theorem RepM.lvOld {G : Gh} {μ : Mu} {H : Hp} {p : Addr} {o : HO} (R : RepM Γ G μ H) (hp : H p = some o) (ha : p ∉ G.al) (ht : ¬ TabO o) {c : Cell} (hc : CRel Γ (G.lvn p) H p c) : RepM Γ (G.lvn p) (μ ++ [c]) H := by
  refine ⟨R.sub, by simp [R.len], ?_, fun k a c' e1 e2 => ?_, fun a h => ?_, fun t ht => ?_, R.tabs.go (fun _ _ e _ _ => e) (fun _ _ _ _ _ h => h) fun a z => (List.mem_append.mp z).imp id fun q => by rw [List.mem_singleton.mp q]; intro u e t; rw [hp] at e; cases e; exact ht t⟩
  · refine List.nodup_append.mpr ⟨R.nd, by simp, fun a h b hb => ?_⟩
    rw [List.mem_singleton.mp hb]
    exact mem_ne h ha
  · by_cases hk : k < G.al.length
    · have e1' : G.al[k]? = some a := by
        have q : (G.al ++ [p])[k]? = some a := e1
        rwa [List.getElem?_append_left hk] at q
      have e2' : μ[k]? = some c' := by rwa [List.getElem?_append_left (by rw [← R.len]; exact hk)] at e2
      exact CRel.mono (G := G) (G' := G.lvn p) (fun _ _ h => h) (fun n => n) ⟨[p], by rfl⟩ rfl (R.cells k a c' e1' e2')
    · have q : (G.al ++ [p])[k]? = some a := e1
      have hk2 : k = G.al.length := by
        have := (List.getElem?_eq_some_iff.mp q).1
        simp at this
        omega
      subst hk2
      rw [List.getElem?_append_right (Nat.le_refl _)] at q
      rw [R.len, List.getElem?_append_right (Nat.le_refl _)] at e2
      simp at q e2
      subst q e2
      exact hc
  · rcases List.mem_append.mp h with z | z
    · exact R.there a z
    · rw [List.mem_singleton.mp z]; exact ⟨o, hp⟩
  · obtain ⟨h1, h2⟩ := R.clo t ht
    refine ⟨by rw [List.length_append]; omega, fun k c' j hk e m => h2 k c' j hk ?_ m⟩
    rwa [List.getElem?_append_left (by omega)] at e
theorem Step.lvOld {G G1 : Gh} {H H1 : Hp} {p : Addr} (s : Step G H G1 H1) (h0 : H p = none) : Step G H (G1.lvn p) H1 := by
  obtain ⟨r, e⟩ := s.al
  refine ⟨s.fz, ⟨r ++ [p], by show G1.al ++ [p] = _; rw [e, List.append_assoc]⟩, s.ts, s.keep, s.newF, fun a h n => ?_, s.there⟩
  rcases List.mem_append.mp h with z | z
  · exact s.newA a z n
  · rw [List.mem_singleton.mp z]; exact h0
theorem lc_ok {live : Bool} {it : FI} {gt : FG} {t : FT} {el : FE} {vs : List Nat} {g : TG} (hg : TgOk Γ vs g gt) (σ : St) (H : Hp) (Q : VK) (q : tZ Γ W (fLc live it gt t el vs) σ H Q) : tLc (tZI Γ W it) g (tZT Γ WF t) (tZ Γ WF el) vs σ H Q := by
  obtain ⟨G, ρ, μ, R, p⟩ := q
  refine ⟨G, ρ, μ, R, postI_bind p fun J ds μ1 G1 H1 s1 R1 j p1 => ?_⟩
  intro P hP
  have nF := R1.toRepM.Fnone hP
  have nA := R1.toRepM.notin hP
  -- the invariant
  refine ⟨fun i m H2 => m = ds.length - i ∧ i ≤ ds.length ∧ ∃ G2 μ2 acc us, Rep Γ G2 ρ μ2 σ H2 ∧ Step G1 H1 G2 H2 ∧ H2 P = some (.lst us) ∧ G2.F P = none ∧ P ∉ G2.al ∧ VRelL Γ G2 us acc ∧
    Post Γ W G1 ρ σ H1 Q ((lcGo gt t el (ds.drop i) (ρ.wipe vs) μ2).bind fun q => lcFin live (acc ++ q.1, q.2)), ⟨ds.length, by simp, Nat.zero_le _, G1, μ1, [], [], R1.go (Step.other hP) (R1.toRepM.other hP), Step.other hP, upd_same, nF, nA, .nil, by simpa using p1⟩, ?_⟩
  rintro i m H2 ⟨rfl, hi, G2, μ2, acc, us, R2, st2, hP2, nF2, nA2, rel, p2⟩
  by_cases hlt : i < ds.length
  · refine .inr ⟨j.go i G2.F H2 st2.fz R2.sub hlt, fun H' => ∃ G2 μ2 acc us, Rep Γ G2 ρ μ2 σ H' ∧ Step G1 H1 G2 H' ∧ H' P = some (.lst us) ∧ G2.F P = none ∧ P ∉ G2.al ∧ VRelL Γ G2 us acc ∧
      Post Γ W G1 ρ σ H1 Q ((lcGo gt t el (ds.drop (i + 1)) (ρ.wipe vs) μ2).bind fun q => lcFin live (acc ++ q.1, q.2)), fun H' n => ⟨ds.length - (i + 1), by omega, rfl, hlt, n⟩, fun x H3 y => ?_⟩
    have hget : ds[i]? = some ds[i] := List.getElem?_eq_getElem hlt
    rw [List.drop_eq_getElem_cons hlt] at p2
    -- facts of P behind a step
    have keepP : ∀ {G' H'}, Step G2 H2 G' H' → H' P = some (.lst us) ∧ G'.F P = none ∧ P ∉ G'.al := fun {G' H'} s => by
      refine ⟨s.keep P _ hP2 (fun _ z => by cases z) nA2, ?_, fun z => ?_⟩
      · cases e : G'.F P with
        | none => rfl
        | some o =>
          rcases s.newF P nF2 (by rw [e]; exact fun z => by cases z) with z | z
          · rw [hP2] at z; cases z
          · exact absurd z nA2
      · have := s.newA P z nA2
        rw [hP2] at this; cases this
    have key : ∃ G3, Step G2 H2 G3 H3 ∧ Rep Γ G3 ρ μ2 σ H3 ∧ Is Γ G3.F x ds[i] := by
      rcases j.yld i G2.F H2 x H3 _ st2.fz R2.sub hget y with ⟨e, h⟩ | ⟨p, o, hp, e, h⟩
      · subst e; exact ⟨G2, Step.refl _ _, R2, h⟩
      · subst e
        have st := R2.toRepM.stepFz (o := o) hp
        exact ⟨_, st, R2.go st (R2.toRepM.fzNew hp), h⟩
    obtain ⟨G3, st3, R3, hx⟩ := key
    have p3 : Post Γ W G1 ρ σ H1 Q (((gt (.d ds[i]) (ρ.wipe vs) μ2).noex.bind fun q => (t q.1 q.2).noex.bind fun b => if b.1 = true then
      (el q.1 b.2).noex.bind fun p => (lcGo gt t el (ds.drop (i + 1)) (ρ.wipe vs) p.2).bind fun r => .ok (p.1 :: r.1, r.2)
      else lcGo gt t el (ds.drop (i + 1)) (ρ.wipe vs) b.2).bind fun q => lcFin live (acc ++ q.1, q.2)) := p2
    cases eg : gt (.d ds[i]) (ρ.wipe vs) μ2 with
    | bad => rw [eg] at p3; exact p3.elim
    | ex a b c => rw [eg] at p3; exact p3.elim
    | ok q =>
      rw [eg, Zl.R.noex_ok, Zl.R.bind_ok] at p3
      refine hg G3 (ρ.wipe vs) μ2 (wipe σ vs) H3 x ds[i] q _ (R3.wipe vs) hx eg fun σ3 R3' hw => ⟨hw.trans wipe_wipe, G3, q.1, q.2, R3', ?_⟩
      have R3m : Rep Γ G3 ρ q.2 σ H3 := ⟨R3'.toRepM, R3.slots, R3.rl, R3.n0, R3.top⟩
      cases et : t q.1 q.2 with
      | bad => rw [et] at p3; exact p3.elim
      | ex a b c => rw [et] at p3; exact p3.elim
      | ok b =>
        rw [et, Zl.R.noex_ok, Zl.R.bind_ok] at p3
        intro G4 H4 st4 R4
        have R4m : Rep Γ G4 ρ b.2 σ H4 := ⟨R4.toRepM, slots_step st4 R3m.slots, R3m.rl, by rw [st4.ts]; exact R3m.n0, by rw [st4.ts]; exact R3m.top⟩
        cases hb : b.1 with
        | false =>
          rw [hb, if_neg Bool.false_ne_true] at p3
          rw [if_neg Bool.false_ne_true]
          obtain ⟨k1, k2, k3⟩ := keepP (st3.trans st4)
          exact ⟨G4, b.2, acc, us, R4m, st2.trans (st3.trans st4), k1, k2, k3, VRelL.mono (st3.trans st4) rel, p3⟩
        | true =>
          rw [hb, if_pos rfl] at p3
          rw [if_pos rfl]
          refine ⟨G4, q.1, b.2, R4, ?_⟩
          cases ee : el q.1 b.2 with
          | bad => rw [ee] at p3; exact p3.elim
          | ex a b c => rw [ee] at p3; exact p3.elim
          | ok r =>
            rw [ee, Zl.R.noex_ok, Zl.R.bind_ok] at p3
            intro u G5 H5 st5 R5 ru
            have st25 := st3.trans (st4.trans st5)
            obtain ⟨k1, k2, k3⟩ := keepP st25
            have R5m : Rep Γ G5 ρ r.2 σ H5 := ⟨R5.toRepM, slots_step st5 R4m.slots, R4m.rl, by rw [st5.ts]; exact R4m.n0, by rw [st5.ts]; exact R4m.top⟩
            -- the list grows
            have stW : Step G5 H5 G5 H5 := Step.refl _ _
            have lenOk : us.length < sizeLine := by
              -- the outcome is bounded: else lcFin is bad
              have hlen : us.length = acc.length := Paired.length rel
              cases er : lcGo gt t el (ds.drop (i + 1)) (ρ.wipe vs) r.2 with
              | bad => rw [er] at p3; exact p3.elim
              | ex a b c =>
                exfalso
                have : ∀ (ds : List D) (ρ : Rho) (μ : Mu) e r m, lcGo gt t el ds ρ μ ≠ .ex e r m := by
                  intro ds
                  induction ds with
                  | nil => intro ρ μ e r m h; cases h
                  | cons d ds ih =>
                    intro ρ μ e r m h
                    unfold lcGo at h
                    cases e1 : gt (.d d) ρ μ with
                    | bad => rw [e1] at h; cases h
                    | ex a b c => rw [e1] at h; cases h
                    | ok q =>
                      rw [e1, Zl.R.noex_ok, Zl.R.bind_ok] at h
                      cases e2 : t q.1 q.2 with
                      | bad => rw [e2] at h; cases h
                      | ex a b c => rw [e2] at h; cases h
                      | ok b =>
                        rw [e2, Zl.R.noex_ok, Zl.R.bind_ok] at h
                        split at h
                        · cases e3 : el q.1 b.2 with
                          | bad => rw [e3] at h; cases h
                          | ex a b c => rw [e3] at h; cases h
                          | ok p =>
                            rw [e3, Zl.R.noex_ok, Zl.R.bind_ok] at h
                            cases e4 : lcGo gt t el ds ρ p.2 with
                            | bad => rw [e4] at h; cases h
                            | ok _ => rw [e4] at h; cases h
                            | ex a b c => exact ih _ _ _ _ _ e4
                        · exact ih _ _ _ _ _ h
                exact this _ _ _ _ _ _ er
              | ok z =>
                rw [er, Zl.R.bind_ok, Zl.R.bind_ok] at p3
                unfold lcFin at p3
                by_cases hz : (acc ++ (r.1 :: z.1)).length < 1000000
                · rw [List.length_append, List.length_cons] at hz
                  have : (1000000 : Nat) ≤ sizeLine := by decide
                  omega
                · rw [if_neg hz] at p3; exact p3.elim
            refine ⟨us, k1, lenOk, ?_⟩
            -- a write at P, nobody's
            have hP5 : ∀ a, a ≠ P → upd H5 P (.lst (us ++ [u])) a = H5 a := fun a z => upd_ne z
            have R6 : RepM Γ G5 r.2 (upd H5 P (.lst (us ++ [u]))) := by
              refine ⟨fun a o e => ?_, R5.len, R5.nd, fun k a c e1 e2 => CRel.mono (fun _ _ h => h) (fun n => n) ⟨[], by simp⟩ (hP5 a (mem_ne (List.mem_of_getElem? e1) k3)) (R5.cells k a c e1 e2), fun a h => ?_, R5.clo, R5.tabs.go (fun a u e t _ => by rw [hP5 a fun z => by rw [z, k1] at e; cases e; exact TabO.lst t]; exact e) (fun _ _ _ _ _ h => h) fun a z => .inl z⟩
              · have z : a ≠ P := fun z => by rw [z, k2] at e; cases e
                rw [hP5 a z]; exact R5.sub a o e
              · obtain ⟨o, e⟩ := R5.there a h
                exact ⟨o, by rw [hP5 a (mem_ne h k3)]; exact e⟩
            have st6 : Step G1 H1 G5 (upd H5 P (.lst (us ++ [u]))) := by
              have s := st2.trans st25
              refine ⟨s.fz, s.al, s.ts, fun a o e nt n => ?_, s.newF, s.newA, fun a o e => ?_⟩
              · have z : a ≠ P := fun z => by rw [z, hP] at e; cases e
                rw [hP5 a z]; exact s.keep a o e nt n
              · have z : a ≠ P := fun z => by rw [z, hP] at e; cases e
                rw [hP5 a z]; exact s.there a o e
            refine ⟨G5, r.2, acc ++ [r.1], us ++ [u], ⟨R6, R5m.slots, R5m.rl, R5m.n0, R5m.top⟩, st6, upd_same, k2, k3, ?_, ?_⟩
            · have h1 := VRelL.mono st25 rel
              have app : ∀ {a : List V} {b : List Val}, VRelL Γ G5 a b → VRelL Γ G5 (a ++ [u]) (b ++ [r.1]) := fun {a b} h => by
                unfold VRelL at h ⊢
                induction h with
                | nil => exact .cons ru .nil
                | cons h t ih => exact .cons h ih
              exact app h1
            · cases er : lcGo gt t el (ds.drop (i + 1)) (ρ.wipe vs) r.2 with
              | bad => rw [er] at p3; exact p3.elim
              | ex a b c => rw [er] at p3; exact p3
              | ok z =>
                rw [er, Zl.R.bind_ok, Zl.R.bind_ok] at p3
                rw [Zl.R.bind_ok, List.append_assoc]
                exact p3
  · have e : i = ds.length := by omega
    subst e
    rw [List.drop_length] at p2
    refine .inl ⟨j.stop _ G2.F H2 st2.fz R2.sub (Nat.le_refl _), ?_⟩
    have p3 : Post Γ W G1 ρ σ H1 Q (lcFin live (acc, μ2)) := by
      have q : Post Γ W G1 ρ σ H1 Q (lcFin live (acc ++ [], μ2)) := p2
      rwa [List.append_nil] at q
    unfold lcFin at p3
    split at p3
    · cases live with
      | true =>
        rw [if_pos rfl] at p3
        have st := st2.lvOld hP
        refine p3 (.ref P) (G2.lvn P) H2 st ⟨R2.toRepM.lvOld (c := .lst acc) hP2 nA2 TabO.lst ⟨nF2, us, hP2, Paired.imp (fun _ _ h => VRel.lvn h) rel⟩, slots_step st R1.slots, R1.rl, by rw [st.ts]; exact R1.n0, by rw [st.ts]; exact R1.top⟩ ⟨P, ?_, rfl⟩
        show (G2.al ++ [P])[μ2.length]? = _
        rw [← R2.len]; simp
      | false =>
        rw [if_neg Bool.false_ne_true] at p3
        cases ed : dsOf acc with
        | none => simp only [ed] at p3; exact p3.elim
        | some xs =>
          simp only [ed] at p3
          have l := dsOf_ok rel ed
          have st := st2.fzOld (o := .lst us) hP nF2
          refine p3 (.ref P) (G2.fzn P (.lst us)) H2 st ⟨R2.toRepM.fzOld hP2 nF2 nA2 TabO.lst, slots_step st R1.slots, R1.rl, by rw [st.ts]; exact R1.n0, by rw [st.ts]; exact R1.top⟩ ?_
          show Is Γ (upd G2.F P (.lst us)) _ _
          unfold Is
          exact ⟨P, us, rfl, upd_same, IsL.mono (same_upd nF2) _ _ l⟩
    · exact p3.elim
theorem Cz.blk (c : Cz Γ W X lv) (s : Shared) (H : Hp) (scope : Scope) (ce : Env) (fp : List Addr) : Cz Γ WF (X.blk s H scope ce fp) lv := ⟨c.K, c.nd, c.calm, c.room, c.gd, takes0⟩
variable {elt tg iter : Expr} {ifs : List Expr} {scope : Scope} {own : List (Str × Nat)} {pos : Pos} {live : Bool} {it : FI} {gt : FG} {t : FT} {el : FE} {g : TG}
theorem ze_lc (c : Cz Γ W X lv) (hi : PI X tg iter (tZI Γ W it)) (ok : BlkOk X.N X.env.scope scope own) (hgt : TgOk Γ (own.map (·.2)) g gt)
    (hg : ∀ (s : Shared) (H : Hp) (C : Addr) (cl : List (Str × Addr)) (fp : List Addr), PG (X.blk s H scope (compEnvC scope cl C X.env) fp) tg g) (ht : ∀ (s : Shared) (H : Hp) (C : Addr) (cl : List (Str × Addr)) (fp : List Addr), PTs (X.blk s H scope (compEnvC scope cl C X.env) fp) ifs (tZT Γ WF t))
    (he : ∀ (s : Shared) (H : Hp) (C : Addr) (cl : List (Str × Addr)) (fp : List Addr), PE (X.blk s H scope (compEnvC scope cl C X.env) fp) elt (tZ Γ WF el)) (hs : ∀ x, foldedSetIterable iter X.env x = pure x) :
    PE X (.ListComp elt [⟨tg, iter, ifs, 0⟩] scope pos) (tZ Γ W (fLc live it gt t el (own.map (·.2)))) := PE.imp (pe_lc c.calm c.nd hi ok hg ht he hs) fun σ H Q q => lc_ok hgt σ H Q q
theorem zs_setLc (c : Cz Γ W X lv) {i : Nat} {y : Str} {py spos : Pos} (hy : X.N[i]? = some y) (hyl : X.env.scope.names.lookup y = some .local)
    (hsw : swapsWith (.ListComp elt [⟨tg, iter, ifs, 0⟩] scope pos) (some (.Name y py)) spos.line X.env = pure true) (hi : PI X tg iter (tZI Γ W it)) (ok : BlkOk X.N X.env.scope scope own) (hgt : TgOk Γ (own.map (·.2)) g gt)
    (hg : ∀ (s : Shared) (H : Hp) (C : Addr) (cl : List (Str × Addr)) (fp : List Addr), PG (X.blk s H scope (compEnvC scope cl C X.env) fp) tg g) (ht : ∀ (s : Shared) (H : Hp) (C : Addr) (cl : List (Str × Addr)) (fp : List Addr), PTs (X.blk s H scope (compEnvC scope cl C X.env) fp) ifs (tZT Γ WF t))
    (he : ∀ (s : Shared) (H : Hp) (C : Addr) (cl : List (Str × Addr)) (fp : List Addr), PE (X.blk s H scope (compEnvC scope cl C X.env) fp) elt (tZ Γ WF el)) (hs : ∀ x, foldedSetIterable iter X.env x = pure x) :
    PS X (.Assign [.Name y py] (.ListComp elt [⟨tg, iter, ifs, 0⟩] scope pos) spos) (tZS Γ W (fSet i (fLc live it gt t el (own.map (·.2))))) := by
  refine PS.imp (ps_setLc c.calm c.nd hy hyl hsw hi ok hg ht he hs) fun D σ H q => ?_
  obtain ⟨G, ρ, μ, R, p⟩ := q
  exact lc_ok hgt σ H _ ⟨G, ρ, μ, R, Post.bindS p fun u v μ1 G1 H1 s1 R1 r1 p1 => PostS.nx (R1.set r1) p1⟩
end
end Zl
set_option Elab.async false
set_option linter.all false
set_option maxRecDepth 100000
set_option maxHeartbeats 4000000
namespace Zl
open PySem PySem.Spec L2
open PyProof.Rows hiding St

abbrev FF := List Val → Mu → R (Val × Mu)
def PostF (Γ : Gm) (G : Gh) (H : Hp) (Q : VK) (E : XK) : R (Val × Mu) → Prop
  | .ok p => ∀ u G' H', Step G H G' H' → RepM Γ G' p.2 H' → VRel Γ G' u p.1 → Q u H'
  | .ex e _ m => ∀ cls dx G' H', Step G H G' H' → RepM Γ G' m H' → ErrRel Γ G' H' cls dx e → E cls dx H'
  | .bad => False
/-- a def's promise: it is this function -/
def spZ (Γ : Gm) (n : Nat) (F : FF) : Sp := fun vs H Q E => vs.length = n ∧ ∃ G μ as, RepM Γ G μ H ∧ VRelL Γ G vs as ∧ PostF Γ G H Q E (F as μ)

/-! ## what a frame leaves -/
def Gh.push (G : Gh) (t : Nat) : Gh := ⟨G.F, G.al, t :: G.ts⟩
section
variable {Γ : Gm} {G : Gh} {μ : Mu} {H : Hp}
theorem CRel.vals : ∀ {c : Cell} {a : Addr}, CRel Γ G H a c → ∀ j, Val.own j ∈ c.vals → j < G.al.length := by
  have key : ∀ {us : List V} {vs : List Val}, VRelL Γ G us vs → ∀ j, Val.own j ∈ vs → j < G.al.length := fun {us vs} h => by
    unfold VRelL at h
    induction h with
    | nil => intro j hj; cases hj
    | cons h t ih =>
      intro j hj
      rcases List.mem_cons.mp hj with e | e
      · subst e
        obtain ⟨a, ha, _⟩ := h
        exact (List.getElem?_eq_some_iff.mp ha).1
      · exact ih j e
  intro c a h j hj
  cases c with
  | gone => cases hj
  | fz x => cases hj
  | lst vs => obtain ⟨_, us, _, r⟩ := h; exact key r j hj
  | dK ks vs => obtain ⟨_, us, _, _, r⟩ := h; exact key r j hj
  | dT ks vs => obtain ⟨_, us, _, _, r⟩ := h; exact key r j hj
  | ins c ns vs => obtain ⟨_, _, _, us, _, _, _, r⟩ := h; exact key r j hj
theorem RepM.pushTop (R : RepM Γ G μ H) : RepM Γ (G.push μ.length) μ H := by
  refine ⟨R.sub, R.len, R.nd, R.cells, R.there, fun t ht => ?_, R.tabs.go (fun _ _ e _ _ => e) (fun _ _ _ _ _ h => h) fun _ z => .inl z⟩
  rcases List.mem_cons.mp ht with e | e
  · subst e
    refine ⟨Nat.le_refl _, fun k c j hk e m => ?_⟩
    have hk' : k < G.al.length := by rw [R.len]; exact hk
    have := CRel.vals (R.cells k G.al[k] c (List.getElem?_eq_getElem hk') e) j m
    rwa [R.len] at this
  · exact R.clo t e
theorem Step.push {G' : Gh} {H' : Hp} {t : Nat} (s : Step (G.push t) H G' H') : ∃ ts, G'.ts = t :: ts ∧ Step G H ⟨G'.F, G'.al, ts⟩ H' := ⟨G.ts, s.ts, s.fz, s.al, rfl, s.keep, s.newF, s.newA, s.there⟩

/-- the datum that a cell's graph makes, no cell below n0 in it -/
def treeV : Nat → Nat → Mu → Val → Option D
  | 0, _, _, _ => none
  | _ + 1, _, _, .d x => some x
  | f + 1, n0, μ, .own k => if k < n0 then none else (match μ[k]? with
    | some (.fz x) => some x
    | some (.lst vs) => (vs.mapM (treeV f n0 μ)).map D.lst
    | some (.dK ks vs) => (vs.mapM (treeV f n0 μ)).map (D.dK ks)
    | some (.dT ks vs) => (vs.mapM (treeV f n0 μ)).map (D.dT ks)
    | some (.ins c ns vs) => (vs.mapM (treeV f n0 μ)).map (D.ins c ns)
    | _ => none)
def Gh.close (G : Gh) (H : Hp) (t : Nat) (ts : List Nat) : Gh := ⟨fun a => match G.F a with
  | some o => some o
  | none => if a ∈ G.al.drop t then H a else none, G.al.take t, ts⟩
theorem close_same (R : RepM Γ G μ H) (t : Nat) (ts : List Nat) : Same G.F (G.close H t ts).F ∧ Same (G.close H t ts).F H := by
  refine ⟨fun a o e => ?_, fun a o e => ?_⟩
  · show (match G.F a with
      | some o => some o
      | none => if a ∈ G.al.drop t then H a else none) = some o
    rw [e]
  · have e' : (match G.F a with
      | some o => some o
      | none => if a ∈ G.al.drop t then H a else none) = some o := e
    cases q : G.F a with
    | some u => rw [q] at e'; cases e'; exact R.sub a _ q
    | none =>
      rw [q] at e'
      have e2 : (if a ∈ G.al.drop t then H a else none) = some o := e'
      by_cases hm : a ∈ G.al.drop t
      · rw [if_pos hm] at e2; exact e2
      · rw [if_neg hm] at e2; cases e2
theorem mapM_rel {f : Val → Option D} {P : V → D → Prop} : ∀ {us : List V} {vs : List Val} {ds : List D}, VRelL Γ G us vs → (∀ u v d, VRel Γ G u v → f v = some d → P u d) → vs.mapM f = some ds → Paired P us ds
  | _, _, ds, .nil, _, e => by
    simp at e; subst e; exact .nil
  | _, v :: vs, ds, .cons h t, k, e => by
    rw [List.mapM_cons] at e
    cases q : f v with
    | none => rw [q] at e; cases e
    | some d =>
      rw [q] at e
      cases q2 : vs.mapM f with
      | none => rw [q2] at e; cases e
      | some es =>
        rw [q2] at e
        cases e
        exact .cons (k _ _ _ h q) (mapM_rel t k q2)
theorem isL_of {F : Hp} : ∀ {us : List V} {ds : List D}, Paired (Is Γ F) us ds → IsL Γ F us ds
  | _, _, .nil => IsL.nil
  | _, _, .cons h t => IsL.cons h (isL_of t)
theorem tree_ok (R : RepM Γ G μ H) (t : Nat) (ts : List Nat) : ∀ (f : Nat) (u : V) (v : Val) (d : D), VRel Γ G u v → treeV f t μ v = some d → Is Γ (G.close H t ts).F u d
  | 0, _, _, _, _, e => by cases e
  | f + 1, u, .d x, d, r, e => by
    cases e
    exact Is.mono (close_same R t ts).1 _ _ r
  | f + 1, u, .own k, d, r, e => by
    obtain ⟨a, ha, ea⟩ := r
    have e' : (if k < t then none else (match μ[k]? with
      | some (.fz x) => some x
      | some (.lst vs) => (vs.mapM (treeV f t μ)).map D.lst
      | some (.dK ks vs) => (vs.mapM (treeV f t μ)).map (D.dK ks)
      | some (.dT ks vs) => (vs.mapM (treeV f t μ)).map (D.dT ks)
      | some (.ins c ns vs) => (vs.mapM (treeV f t μ)).map (D.ins c ns)
      | _ => none)) = some d := e
    split at e'
    · cases e'
    · rename_i hk
      have hmem : a ∈ G.al.drop t := List.mem_of_getElem? (i := k - t) (by rw [List.getElem?_drop, show t + (k - t) = k by omega]; exact ha)
      have at_ : ∀ o, G.F a = none → H a = some o → (G.close H t ts).F a = some o := fun o n h => by
        show (match G.F a with
          | some o => some o
          | none => if a ∈ G.al.drop t then H a else none) = some o
        rw [n]
        show (if a ∈ G.al.drop t then H a else none) = some o
        rw [if_pos hmem]; exact h
      cases q : μ[k]? with
      | none => simp only [q] at e'; cases e'
      | some c =>
        simp only [q] at e'
        have rc := R.cells k a c ha q
        have sub : ∀ {us : List V} {vs : List Val} {ds : List D}, VRelL Γ G us vs → vs.mapM (treeV f t μ) = some ds → IsL Γ (G.close H t ts).F us ds := fun r e => isL_of (mapM_rel r (fun u v d h q => tree_ok R t ts f u v d h q) e)
        cases c with
        | gone => cases e'
        | fz x =>
          cases e'
          rw [ea]
          exact Is.mono (close_same R t ts).1 _ _ rc
        | lst vs =>
          obtain ⟨n, us, h, rl⟩ := rc
          simp only at e'
          cases z : vs.mapM (treeV f t μ) with
          | none => rw [z] at e'; cases e'
          | some ds => rw [z] at e'; cases e'; unfold Is; exact ⟨a, us, ea, at_ _ n h, sub rl z⟩
        | dK ks vs =>
          obtain ⟨n, us, h, hk, rl⟩ := rc
          simp only at e'
          cases z : vs.mapM (treeV f t μ) with
          | none => rw [z] at e'; cases e'
          | some ds => rw [z] at e'; cases e'; unfold Is; exact ⟨a, us, ea, at_ _ n h, hk, sub rl z⟩
        | dT ks vs =>
          obtain ⟨n, us, h, hk, rl⟩ := rc
          simp only at e'
          cases z : vs.mapM (treeV f t μ) with
          | none => rw [z] at e'; cases e'
          | some ds => rw [z] at e'; cases e'; unfold Is; exact ⟨a, us, ea, at_ _ n h, hk, sub rl z⟩
        | ins c ns vs =>
          obtain ⟨n, C, dx, us, hc, h, hk, rl⟩ := rc
          simp only at e'
          cases z : vs.mapM (treeV f t μ) with
          | none => rw [z] at e'; cases e'
          | some ds => rw [z] at e'; cases e'; unfold Is; exact ⟨a, C, dx, us, ea, hc, at_ _ n h, hk, sub rl z⟩
theorem nodup_drop {l : List Addr} (h : l.Nodup) {t : Nat} {a : Addr} (h1 : a ∈ l.take t) : a ∉ l.drop t := fun h2 => by
  have h' : (l.take t ++ l.drop t).Nodup := by rw [List.take_append_drop]; exact h
  obtain ⟨_, _, d⟩ := List.nodup_append.mp h'
  exact d a h1 a h2 rfl
/-- the frame's cells go -/
theorem RepM.trunc (R : RepM Γ G μ H) {t : Nat} (ht : t ∈ G.ts) (ts : List Nat) (hts : ∀ s ∈ ts, s ∈ G.ts ∧ s ≤ t) : RepM Γ (G.close H t ts) (μ.take t) H := by
  obtain ⟨htl, hclo⟩ := R.clo t ht
  obtain ⟨s1, s2⟩ := close_same R t ts
  refine ⟨s2, by show (G.al.take t).length = _; rw [List.length_take, List.length_take, R.len], R.nd.sublist (List.take_sublist _ _), fun k a c e1 e2 => ?_, fun a h => R.there a (List.mem_of_mem_take h), fun s hs => ?_, R.tabs.go (fun _ _ e _ _ => e) (fun a o n _ _ h => by
    show (match G.F a with
        | some o => some o
        | none => if a ∈ G.al.drop t then H a else none) = none
    rw [h]
    show (if a ∈ G.al.drop t then H a else none) = none
    rw [if_neg fun z => n (List.mem_of_mem_drop z)]) fun _ z => .inl (List.mem_of_mem_take z)⟩
  · have e1 : (G.al.take t)[k]? = some a := e1
    have hk : k < t := by
      have := (List.getElem?_eq_some_iff.mp e2).1
      rw [List.length_take] at this
      omega
    rw [List.getElem?_take_of_lt hk] at e1 e2
    have rc := R.cells k a c e1 e2
    have hn : G.F a = none → (G.close H t ts).F a = none := fun n => by
      show (match G.F a with
        | some o => some o
        | none => if a ∈ G.al.drop t then H a else none) = none
      rw [n]
      show (if a ∈ G.al.drop t then H a else none) = none
      rw [if_neg (nodup_drop R.nd (List.mem_of_getElem? (i := k) (by rw [List.getElem?_take_of_lt hk]; exact e1)))]
    have hv : ∀ {u : V} {v : Val}, v ∈ c.vals → VRel Γ G u v → VRel Γ (G.close H t ts) u v := fun {u v} hm h => by
      cases v with
      | d x => exact Is.mono s1 _ _ h
      | own j =>
        obtain ⟨b, hb, eb⟩ := h
        have hj := hclo k c j hk e2 hm
        exact ⟨b, by show (G.al.take t)[j]? = _; rw [List.getElem?_take_of_lt hj]; exact hb, eb⟩
    have hl : ∀ {us : List V} {vs : List Val}, (∀ v ∈ vs, v ∈ c.vals) → VRelL Γ G us vs → VRelL Γ (G.close H t ts) us vs := fun {us vs} hm h => by
      unfold VRelL at h ⊢
      induction h with
      | nil => exact .nil
      | cons h t ih => exact .cons (hv (hm _ List.mem_cons_self) h) (ih fun v hv => hm v (List.mem_cons_of_mem _ hv))
    cases c with
    | gone => trivial
    | fz x => exact Is.mono s1 _ _ rc
    | lst vs => obtain ⟨n, us, h, r⟩ := rc; exact ⟨hn n, us, h, hl (fun _ h => h) r⟩
    | dK ks vs => obtain ⟨n, us, h, k', r⟩ := rc; exact ⟨hn n, us, h, k', hl (fun _ h => h) r⟩
    | dT ks vs => obtain ⟨n, us, h, k', r⟩ := rc; exact ⟨hn n, us, h, k', hl (fun _ h => h) r⟩
    | ins c ns vs => obtain ⟨n, C, dx, us, hc, h, k', r⟩ := rc; exact ⟨hn n, C, dx, us, hc, h, k', hl (fun _ h => h) r⟩
  · obtain ⟨h1, h2⟩ := hts s hs
    obtain ⟨h3, h4⟩ := R.clo s h1
    refine ⟨by rw [List.length_take]; omega, fun k c j hk e m => h4 k c j hk ?_ m⟩
    rw [List.getElem?_take_of_lt (by omega)] at e
    exact e
/-- .. from the entry -/
theorem Step.trunc {G0 : Gh} {H0 : Hp} (R : RepM Γ G μ H) (s : Step G0 H0 G H) {ts : List Nat} (hts : ts = G0.ts) : Step G0 H0 (G.close H G0.al.length ts) H := by
  obtain ⟨r, e⟩ := s.al
  refine ⟨fun a o h => (close_same R _ ts).1 a o (s.fz a o h), ⟨[], by show G.al.take _ = _; rw [e]; simp⟩, hts, s.keep, fun a h n => ?_, fun a h n => ?_, s.there⟩
  · cases q : G.F a with
    | some o => exact s.newF a h (by rw [q]; exact fun z => by cases z)
    | none =>
      have n' : (match G.F a with
        | some o => some o
        | none => if a ∈ G.al.drop G0.al.length then H a else none) ≠ none := n
      rw [q] at n'
      by_cases hm : a ∈ G.al.drop G0.al.length
      · have : a ∉ G0.al := fun z => nodup_drop R.nd (t := G0.al.length) (by rw [e]; simpa using z) hm
        exact .inl (s.newA a (List.mem_of_mem_drop hm) this)
      · exact absurd (if_neg hm) n'
  · have h' : a ∈ G.al.take G0.al.length := h
    rw [e] at h'
    simp at h'
    exact absurd h' n
/-- .. on the way -/
theorem ErrRel.close {cls : Value} {dx : Option Addr} {e : Err} (R : RepM Γ G μ H) {t : Nat} {ts : List Nat} (h : ErrRel Γ G H cls dx e) : ErrRel Γ (G.close H t ts) H cls dx e := by
  obtain ⟨C, h1, h2, h3, h4⟩ := h
  refine ⟨C, h1, h2, h3, fun n => ?_⟩
  obtain ⟨d, fs, k1, k2, k3, k4, k5, k6⟩ := h4 n
  refine ⟨d, fs, k1, k2, ?_, fun z => k4 (List.mem_of_mem_take z), k5, IsL.mono (close_same R t ts).1 _ _ k6⟩
  show (match G.F d with
    | some o => some o
    | none => if d ∈ G.al.drop t then H d else none) = none
  rw [k3]
  show (if d ∈ G.al.drop t then H d else none) = none
  rw [if_neg (fun z => k4 (List.mem_of_mem_drop z))]
end

/-! ## defs that are called where no guard stands -/
structure FnG (P : Program) (w : World) (K : PySem.W.Frag) (mg : Str → Option Value) (base : Heap) (k : Nat) (f : Addr) (fd : FuncData) (ps : List Str) (sp : Sp) : Prop where
  len : ∀ vs H Q E, sp vs H Q E → vs.length = ps.length
  run : ∀ (A : Around) (outer : List Env) (s : Shared) (H : Hp) (args : Args) (us : List Value) (vs : List V) (Q : VK) (E : XK), Room k A → A.guards = some [] → Env0 P w K mg base A outer s H → BindsTo s fd args (ps.zip us) → Vals vs us → sp vs H Q E →
    codeAny (model P w) A (.call (.ref f) args) (CR (L2.CX P w) outer P w H s Q E) s
theorem FnG.mono {P : Program} {w : World} {K : PySem.W.Frag} {mg : Str → Option Value} {base : Heap} {j k : Nat} {f : Addr} {fd : FuncData} {ps : List Str} {sp : Sp} (F : FnG P w K mg base j f fd ps sp) (h : j ≤ k) : FnG P w K mg base k f fd ps sp :=
  ⟨F.len, fun A outer s H args us vs Q E hr => F.run A outer s H args us vs Q E (hr.mono h)⟩
section
variable {P : Program} {w : World} {K : PySem.W.Frag} {mg : Str → Option Value} {base : Heap} {x qual : Str} {params : Arguments} {body : List Stmt} {scope : Scope} {dvs : List V} {kws : List (Str × V)} {f : Addr} {fd : FuncData}
theorem fng_of {N ps : List Str} {k : Nat} {sp : Sp} (F : FunD K x qual params body scope dvs kws f fd) (S : FnScope N ps scope) (len : ∀ vs H Q E, sp vs H Q E → vs.length = ps.length)
    (hb : ∀ (cdv : Value) (A : Around) (outer : List Env) (s : Shared) (H : Hp) (vs : List V) (Q : VK) (E : XK), Room k (A.deeper (envOfC qual scope s.heap.objs.size f cdv)) → A.guards = some [] → sp vs H Q E →
      ∃ t, PSs (cxOf (L2.CX P w) P w K mg base N qual scope f cdv A outer s H E) body t ∧ t { nx := fun _ H' => Q .non H', rt := Q } (L2.start N vs) H) : FnG P w K mg base (k + 1) f fd ps sp := by
  obtain ⟨oc, od, dV, kV, doc, pm, an, cdv, ct, osl, rfl, lk, hcd, _, _⟩ := F.ex
  refine ⟨len, fun A outer s H args us vs Q E hr hg e0 bnd r hsp => ?_⟩
  have KX : K.In s.heap := e0.mod.kin.keeps fun b o e => (e0.bs b o e).1
  have lim : s.heap.NoLimit := e0.mod.nolimit.keeps fun b o e => (e0.bs b o e).1
  refine codeAny_call_function hr.depth (KX _ _ lk) rfl S.co S.gen rfl (PySem.W.codeRec_of KX hcd) (bnd _ _ _ _ ?_)
  refine wpAny_newFunctionEnv_cells S.kind (fun y hy => ?_) fun env he s1 z => ?_
  · rcases S.par y.1 (List.of_mem_zip (a := y.1) (b := y.2) hy).1 with q | q
    · exact Or.inl q
    · exact Or.inr ⟨q, PySem.W.cellsFrom_some _ _ _ (Or.inl q)⟩
  · subst he
    refine ⟨lim.keeps z.toInCall.keep, codeAny_func ?_⟩
    obtain ⟨t, ht, hq⟩ := hb cdv A outer s H vs Q E (hr.deeper _) hg hsp
    refine wpAny_mono (ht.run [] s1 (L2.start N vs) H _ (inv_start S hr.hd e0 (len _ _ _ _ hsp) r z) hq) (fun fl s' out => ?_) fun e s' out => out
    cases fl with
    | ret u => obtain ⟨v, σ', H', J, rv, q⟩ := out; exact ⟨v, H', J.os, J.bare, J.base, J.hok, rv, q⟩
    | next => obtain ⟨σ', H', J, q⟩ := out; exact ⟨V.non, H', J.os, J.bare, J.base, J.hok, rfl, q⟩
    | brk => obtain ⟨_, _, _, q⟩ := out; exact q.elim
    | cont => obtain ⟨_, _, _, q⟩ := out; exact q.elim
end
section
variable {X : Cx} {k : Nat} {f C pa : Addr} {fd : FuncData} {ps : List Str} {sp : Sp} {dvs : List V} {ds : List Value} {pins : List (Addr × Obj)} {σ : St} {H : Hp} {s : Shared} {Q : VK} {us : List Value} {vs : List V} {E : XK}
/-- from a call's end to the expression's -/
theorem back_to (hx : PassesAt (L2.CX X.prog X.w) X σ E) (I : Inv X pins σ H s) {r : Result} {s' : Shared} (h : CR (L2.CX X.prog X.w) X.stack X.prog X.w H s Q E r s') : (∃ u, r = .ok (.ret u) ∧ EP X pins σ Q u s') ∨ ∃ e, r = .error e ∧ X.xe e s' := by
  cases r with
  | error e => exact Or.inr ⟨e, rfl, hx pins H s e s' I h⟩
  | ok fl =>
    cases fl with
    | ret u => exact Or.inl ⟨u, rfl, I.after h⟩
    | next => exact h.elim
    | brk => exact h.elim
    | cont => exact h.elim
theorem fng_run (F : FnG X.prog X.w X.K X.mg X.base k f fd ps sp) (hr : Room k X.A) (hg : X.A.guards = some []) (hb : Binds X.K fd ps ds) (hd : Vals dvs ds) (hx : PassesAt (L2.CX X.prog X.w) X σ E)
    (I : Inv X pins σ H s) (r : Vals vs us) (h : sp (vs ++ dvs) H Q E) : wpAny (model X.prog X.w) X.A (call (.ref f) us) (EP X pins σ Q) X.xe s := by
  have all : Vals (vs ++ dvs) (us ++ ds) := r.append hd
  have n : (us ++ ds).length = ps.length := all.length.symm.trans (F.len _ _ _ _ h)
  refine wpAny_call (codeAny_mono (F.run X.A X.stack s H ⟨us, []⟩ (us ++ ds) (vs ++ dvs) Q E hr hg I.env0 (hb s us I.kIn n) all h) fun q s' out => ?_)
  rcases back_to hx I out with ⟨u, rfl, z⟩ | ⟨e, rfl, z⟩
  · exact z
  · exact z
/-- with keywords -/
theorem fng_runK {ks : List Str} {m : Nat} {g : List Value → List Value → List Value} {gV : List V → List V → List V} {ws : List Value} {zs : List V} (F : FnG X.prog X.w X.K X.mg X.base k f fd ps sp) (hr : Room k X.A) (hg : X.A.guards = some []) (hb : KBn X.K fd ps m ks g gV) (hx : PassesAt (L2.CX X.prog X.w) X σ E)
    (I : Inv X pins σ H s) (r : Vals vs us) (rz : Vals zs ws) (l1 : vs.length = m) (l2 : zs.length = ks.length) (h : sp (gV vs zs) H Q E) : wpAny (model X.prog X.w) X.A (call (.ref f) us (ks.zip ws)) (EP X pins σ Q) X.xe s := by
  refine wpAny_call (codeAny_mono (F.run X.A X.stack s H ⟨us, ks.zip ws⟩ (g us ws) (gV vs zs) Q E hr hg I.env0 (hb.to s us ws I.kIn (r.length.symm.trans l1) (rz.length.symm.trans l2)) (hb.rel r rz) h) fun q s' out => ?_)
  rcases back_to hx I out with ⟨u, rfl, z⟩ | ⟨e, rfl, z⟩
  · exact z
  · exact z
/-- a new instance -/
theorem fng_make (M : Mk X.K C f) (F : FnG X.prog X.w X.K X.mg X.base k f fd ps sp) (hr : Room (k + 1) X.A) (hg : X.A.guards = some []) (hb : Binds X.K fd ps ds) (hd : Vals dvs ds) (hx : PassesAt (L2.CX X.prog X.w) X σ E) (I : Inv X pins σ H s) (r : Vals vs us)
    (h : ∀ x dx, H x = none → H dx = none → dx ≠ x → sp (.ref x :: (vs ++ dvs)) (upd (upd H dx (.own x)) x (.ins C dx [])) (fun v H2 => v = .non ∧ Q (.ref x) H2) E) : wpAny (model X.prog X.w) X.A (call (.ref C) us) (EP X pins σ Q) X.xe s := by
  have new := h (s.heap.objs.size + 1) s.heap.objs.size (I.hok.fresh (Nat.le_succ _)) (I.hok.fresh (Nat.le_refl _)) (Nat.ne_of_lt (Nat.lt_succ_self _))
  have J := Inv.made (C := C) I
  have all : Vals (V.ref (s.heap.objs.size + 1) :: (vs ++ dvs)) (Value.ref (s.heap.objs.size + 1) :: (us ++ ds)) := .cons rfl (r.append hd)
  have n : (Value.ref (s.heap.objs.size + 1) :: us ++ ds).length = ps.length := all.length.symm.trans (F.len _ _ _ _ new)
  refine wpAny_call (make_map (f := f) I.kIn M.makes M.init (beq_iff_eq.mp M.fn) (codeAny_mono (F.run _ X.stack _ _ ⟨_ :: us, []⟩ (_ :: (us ++ ds)) _ _ E (hr.make C us []) (by first | exact hg | (simpa [Around.under, Code.guards, Code.isGuard, guardIds, pushGuards] using hg)) (J.env0.make C us []) (hb _ (_ :: us) J.kIn n) all new) fun q s' out => ?_))
  rcases back_to hx J out with ⟨u, rfl, v, H', J', rv, ev, z⟩ | ⟨e, rfl, z⟩
  · subst ev
    exact ⟨rv, V.ref (s.heap.objs.size + 1), H', J', rfl, z⟩
  · exact z
/-- a property's getter, which raises nothing -/
theorem fng_prop {a dx : Addr} {fs : List (Str × V)} {n : Str} {b : Bool} {E' : Value → Shared → Prop} (I : Inv X pins σ H s) (ea : H a = some (.ins C dx fs)) (c : Cls X.K C) (hp : PropOf X.K C n pa f) (F : FnG X.prog X.w X.K X.mg X.base k f fd ps sp) (hr : Room (k + 1) X.A) (hg : X.A.guards = some []) (hb : Binds X.K fd ps [])
    (h : sp [.ref a] H Q E0) : wpAny (model X.prog X.w) X.A (getAttr (.ref a) n b) (EP X pins σ Q) E' s := by
  obtain ⟨mA, O, _, _, _, _⟩ := ins_get I.hok ea
  obtain ⟨od, J, _⟩ := O.look
  obtain ⟨rest, hrec⟩ := hp.rec_
  have there : (PySem.W.clsIn X.K C).isSome = true := by
    obtain ⟨cd, e, _⟩ := PySem.W.any_some c.hd
    rw [e]; rfl
  refine PySem.W.get_bind I.kIn J (PySem.W.plainGet_of (c.get n)).1 (PySem.W.findObj_data there hp.at_ hp.get hp.tak) (PySem.W.plainGet_of (c.get n)).2 (wpAny_call (PySem.W.prop_get (s := { s with toks := s.toks + 1 }) I.kIn hrec ?_))
  have I1 := I.tok (s.toks + 1)
  refine codeAny_mono (F.run X.A.in1 X.stack { s with toks := s.toks + 1 } H ⟨[.ref a], []⟩ ([Value.ref a] ++ []) [V.ref a] Q E0 hr.in1 hg I1.env0.in1 (hb _ [.ref a] I1.kIn ((F.len _ _ _ _ h).symm ▸ rfl)) (.cons (show RelV (V.ref a) (Value.ref a) from rfl) .nil) h) fun q s' out => ?_
  cases q with
  | error er =>
    obtain ⟨_, _, _, _, _, _, _, _, _, _, _, _, z⟩ := (show L2.CX X.prog X.w X.stack H { s with toks := s.toks + 1 } E0 er s' from out)
    exact z.elim
  | ok fl =>
    cases fl with
    | ret u =>
      obtain ⟨v, H', J', rv, z⟩ := I1.after out
      show wpAny _ _ (handedOut u) _ _ _
      rw [PySem.W.handedOut_of (handed_of rv)]
      exact wpAny_pure ⟨v, H', J', rv, z⟩
    | next => exact out.elim
    | brk => exact out.elim
    | cont => exact out.elim
end

/-! ## bodies -/
def startR (n0 N : Nat) (as : List Val) : Rho := ⟨n0, as.map some ++ List.replicate (N - as.length) none⟩
def closeV (n0 : Nat) (μ : Mu) : Val → Option Val
  | .d x => some (.d x)
  | .own k => if k < n0 then some (.own k) else (treeV 40 n0 μ (.own k)).map .d
/-- a def's body, its own cells forgotten -/
def fBody (N : Nat) (body : FS) : FF := fun as μ => match body (startR μ.length N as) μ with
  | .ok p => (match p.1 with
    | .nx => .ok (.d .non, p.2.2.take μ.length)
    | .rt v => (match closeV μ.length p.2.2 v with
      | some w => .ok (w, p.2.2.take μ.length)
      | none => .bad)
    | _ => .bad)
  | .ex e r m => .ex e r (m.take μ.length)
  | .bad => .bad
section
variable {P : Program} {w : World} {Γ : Gm} {mg : Str → Option Value} {base : Heap}
theorem start_rep {G : Gh} {μ : Mu} {H : Hp} {vs : List V} {as : List Val} {N : List Str} {n0 : Nat} (R : RepM Γ G μ H) (r : VRelL Γ G vs as) (hn : n0 ∈ G.ts) (ht : ∀ t ∈ G.ts, t ≤ n0) (hl : vs.length ≤ N.length) : Rep Γ G (startR n0 N.length as) μ (start N vs) H := by
  have hlen : vs.length = as.length := Paired.length r
  refine ⟨R, fun i v e => ?_, ?_, hn, ht⟩
  · have e : (as.map some ++ List.replicate (N.length - as.length) none)[i]? = some (some v) := e
    have hi : i < as.length := by
      by_cases hi : i < as.length
      · exact hi
      · rw [List.getElem?_append_right (by simpa using hi), List.getElem?_replicate] at e
        split at e <;> cases e
    rw [List.getElem?_append_left (by simpa using hi), List.getElem?_map] at e
    have key : ∀ {us : List V} {xs : List Val} (j : Nat), VRelL Γ G us xs → ∀ x, xs[j]? = some x → ∃ u, us[j]? = some u ∧ VRel Γ G u x := by
      intro us xs j h
      unfold VRelL at h
      induction h generalizing j with
      | nil => intro x e; simp at e
      | cons h t ih =>
        intro x e
        cases j with
        | zero => simp at e; subst e; exact ⟨_, rfl, h⟩
        | succ j => obtain ⟨u, q, z⟩ := ih j x (by simpa using e); exact ⟨u, by simpa using q, z⟩
    cases q : as[i]? with
    | none => rw [q] at e; cases e
    | some y =>
      rw [q] at e
      cases e
      obtain ⟨u, h1, h2⟩ := key i r _ q
      refine ⟨u, ?_, h2⟩
      unfold L2.start
      rw [List.getElem?_append_left (by simpa using (List.getElem?_eq_some_iff.mp h1).1), List.getElem?_map, h1]; rfl
  · unfold startR L2.start
    simp [hlen]
/-- a def's context -/
abbrev XC (P : Program) (w : World) (Γ : Gm) (mg : Str → Option Value) (base : Heap) (N : List Str) (qual : Str) (scope : Scope) (f : Addr) (cdv : Value) (A : Around) (outer : List Env) (st : Shared) (H : Hp) (E : XK) : Cx := cxOf (L2.CX P w) P w Γ.K mg base N qual scope f cdv A outer st H E
/-- THE RULE for a def -/
theorem fn_ok {x qual : Str} {params : Arguments} {body : List Stmt} {scope : Scope} {dvs : List V} {kws : List (Str × V)} {f : Addr} {fd : FuncData} {N ps : List Str} {k : Nat} {s : FS}
    (F : FunD Γ.K x qual params body scope dvs kws f fd) (S : FnScope N ps scope)
    (hb : ∀ (W : WX) (cdv : Value) (A : Around) (outer : List Env) (st : Shared) (H : Hp) (E : XK), Cz Γ W (XC P w Γ mg base N qual scope f cdv A outer st H E) k → PassesOwn (model P w) (XC P w Γ mg base N qual scope f cdv A outer st H E).A (XC P w Γ mg base N qual scope f cdv A outer st H E).env (XC P w Γ mg base N qual scope f cdv A outer st H E).xe → PSs (XC P w Γ mg base N qual scope f cdv A outer st H E) body (tZS Γ W s)) :
    FnG P w Γ.K mg base (k + 1) f fd ps (spZ Γ ps.length (fBody N.length s)) := by
  refine fng_of F S (fun vs H Q E h => h.1) fun cdv A outer st H vs Q E hr hgd h => ?_
  obtain ⟨hl, G, μ, as, R, r, p⟩ := h
  have hpl : ps.length ≤ N.length := by have := congrArg List.length S.pre; rw [List.length_take] at this; omega
  let X := cxOf (L2.CX P w) P w Γ.K mg base N qual scope f cdv A outer st H E
  have tk : Takes X (fun cls d _ H => E cls d H) := takes_of rfl rfl rfl rfl
  have po : PassesOwn (model X.prog X.w) X.A X.env X.xe := passes_of rfl
  refine ⟨tZS Γ (fun cls d _ H => E cls d H) s, hb _ cdv A outer st H E ⟨rfl, S.nd, rfl, hr, hgd, tk⟩ po, ?_⟩
  have R1 := R.pushTop
  have R2 : Rep Γ (G.push μ.length) (startR μ.length N.length as) μ (start N vs) H := by
    refine start_rep R1 ?_ List.mem_cons_self (fun t ht => ?_) (by rw [hl]; exact hpl)
    · exact Paired.imp (fun u v h => by cases v <;> exact h) r
    · rcases List.mem_cons.mp ht with e | e
      · rw [e]; exact Nat.le_refl _
      · exact (R.clo t e).1
  refine ⟨G.push μ.length, startR μ.length N.length as, μ, R2, ?_⟩
  have fin : ∀ {G' : Gh} {μ' : Mu} {H' : Hp}, Step (G.push μ.length) H G' H' → RepM Γ G' μ' H' → Step G H (G'.close H' μ.length G.ts) H' ∧ RepM Γ (G'.close H' μ.length G.ts) (μ'.take μ.length) H' := fun {G' μ' H'} st R' => by
    obtain ⟨ts, e, st2⟩ := st.push
    have ets : ts = G.ts := by
      have := st.ts
      rw [e] at this
      exact (List.cons.inj this).2
    have R2' : RepM Γ ⟨G'.F, G'.al, ts⟩ μ' H' := ⟨R'.sub, R'.len, R'.nd, fun k a c e1 e2 => CRel.mono (G := G') (G' := ⟨G'.F, G'.al, ts⟩) (fun _ _ h => h) (fun n => n) ⟨[], by simp⟩ rfl (R'.cells k a c e1 e2), R'.there, fun t ht => R'.clo t (by rw [e]; exact List.mem_cons_of_mem _ (show t ∈ ts from ht)), R'.tabs.go (fun _ _ e _ _ => e) (fun _ _ _ _ _ h => h) fun _ z => .inl z⟩
    have s3 := Step.trunc R2' st2 ets
    have ec : ∀ t, Gh.close ⟨G'.F, G'.al, ts⟩ H' t ts = G'.close H' t G.ts := fun t => by rw [ets]; rfl
    rw [ec, R.len] at s3
    refine ⟨s3, R'.trunc (by rw [e]; exact List.mem_cons_self) G.ts fun s hs => ⟨by rw [e, ets]; exact List.mem_cons_of_mem _ hs, (R.clo s hs).1⟩⟩
  unfold fBody at p
  cases e : s (startR μ.length N.length as) μ with
  | bad => rw [e] at p; exact p
  | ex er rr m =>
    rw [e] at p
    intro cls dx G' σ' H' st R' er'
    obtain ⟨s3, R3⟩ := fin st R'.toRepM
    exact p cls dx _ H' s3 R3 (ErrRel.close R'.toRepM er')
  | ok q =>
    rw [e] at p
    intro G' σ' H' st R'
    obtain ⟨s3, R3⟩ := fin st R'.toRepM
    obtain ⟨fl, ρ', μ'⟩ := q
    cases fl with
    | nx => exact p .non _ H' s3 R3 (by show Is Γ _ _ _; unfold Is; rfl)
    | rt v =>
      intro u hu
      simp only at p
      cases ec : closeV μ.length μ' v with
      | none => simp only [ec] at p; exact p.elim
      | some v' =>
        simp only [ec] at p
        refine p u _ H' s3 R3 ?_
        cases v with
        | d x => cases ec; exact Is.mono (close_same R'.toRepM _ _).1 _ _ hu
        | own j =>
          have ec : (if j < μ.length then some (Val.own j) else (treeV 40 μ.length μ' (.own j)).map .d) = some v' := ec
          by_cases hj : j < μ.length
          · rw [if_pos hj] at ec
            cases ec
            obtain ⟨a, ha, ea⟩ := hu
            exact ⟨a, by show (G'.al.take μ.length)[j]? = _; rw [List.getElem?_take_of_lt hj]; exact ha, ea⟩
          · rw [if_neg hj] at ec
            cases et : treeV 40 μ.length μ' (.own j) with
            | none => rw [et] at ec; cases ec
            | some d => rw [et] at ec; cases ec; exact tree_ok R'.toRepM _ _ 40 u (.own j) d hu et
    | bk => exact p.elim
    | ct => exact p.elim
end
end Zl
set_option Elab.async false
set_option linter.all false
set_option maxRecDepth 100000
set_option maxHeartbeats 4000000
namespace Zl
open PySem PySem.Spec L2
open PyProof.Rows hiding St

def R.at {a : Type} (ρ : Rho) : R a → R a
  | .ex e _ m => .ex e ρ m
  | r => r
@[simp] theorem R.at_ok {a : Type} (ρ : Rho) (x : a) : (R.ok x).at ρ = .ok x := rfl
@[simp] theorem R.at_bad {a : Type} (ρ : Rho) : (R.bad : R a).at ρ = .bad := rfl
@[simp] theorem R.at_ex {a : Type} (ρ : Rho) (e : Err) (r : Rho) (m : Mu) : (R.ex e r m : R a).at ρ = .ex e ρ m := rfl

section
variable {Γ : Gm} {W : WX} {X : Cx} {lv : Nat}
theorem post_fn {G : Gh} {ρ : Rho} {μ : Mu} {σ : St} {H : Hp} {Q : VK} {r : R (Val × Mu)} (R : Rep Γ G ρ μ σ H) (p : Post Γ W G ρ σ H Q (r.at ρ)) : PostF Γ G H Q (WE W σ) r := by
  cases r with
  | bad => exact p
  | ok q => exact fun u G' H' st R' v => p u G' H' st (R.go st R') v
  | ex e r m => exact fun cls dx G' H' st R' er => p cls dx G' H' st (R.go st R') er
theorem rel_app {G : Gh} {us ws : List V} {vs xs : List Val} (h : VRelL Γ G us vs) (h' : VRelL Γ G ws xs) : VRelL Γ G (us ++ ws) (vs ++ xs) := by
  unfold VRelL at h h' ⊢
  induction h with
  | nil => exact h'
  | cons h t ih => exact .cons h ih

/-! ## f(a, ..) -/
def fCall (n : Nat) (Fn : FF) (dd : List D) (g : FA) : FE := fun ρ μ => (g ρ μ).bind fun p => if p.1.length + dd.length = n then (Fn (p.1 ++ dd.map Val.d) p.2).at ρ else .bad
/-- a def that is known: by its name's value f -/
structure FnZ (Γ : Gm) (P : Program) (w : World) (mg : Str → Option Value) (base : Heap) (lv : Nat) (f : Addr) (n : Nat) (Fn : FF) (dd : List D) : Prop where
  ex : ∃ fd ps ds dvs, FnG P w Γ.K mg base lv f fd ps (spZ Γ n Fn) ∧ Binds Γ.K fd ps ds ∧ Vals dvs ds ∧ (∀ F, IsL Γ F dvs dd)
  kp : PySem.W.keepIn Γ.K (.ref f) = true
section
variable {x m : Str} {p pos apos : Pos} {e o : Expr} {es : List Expr} {f : Addr} {n : Nat} {Fn : FF} {dd : List D} {g : FA} {fe : FE}
theorem ze_call (c : Cz Γ W X lv) (F : FnZ Γ X.prog X.w X.mg X.base lv f n Fn dd) (hg : Gl X x) (hm : X.mg x = some (.ref f)) (ha : PA X (e :: es) (tZA Γ W g)) (hdb : (x == ("__debug__" : Str)) = false)
    (he : starEach (e :: es) X.env = (false, eval e X.env) :: starEach es X.env) (hpl : (backTo pos (starEach es X.env)).any (·.1) = false) : PE X (.Call (.Name x p) (e :: es) [] pos) (tZ Γ W (fCall n Fn dd g)) := by
  obtain ⟨fd, ps, ds, dvs, h1, h2, h3, h4⟩ := F.ex
  have kp := F.kp
  rw [← c.K] at h1 h2 kp
  refine ⟨fun pins s σ H Q I t => ?_⟩
  obtain ⟨G, ρ, μ, R, p⟩ := t
  refine wpAny_Call_Name_kw (ld_glob I hg hm ?_ hdb)
  refine PySem.W.callWith_K (h₀ := X.base) I.ok.mod.kin kp (thn (ha.run pos pins s σ H (fun us H1 => spZ Γ n Fn (us ++ dvs) H1 Q (WE W σ)) I ⟨G, ρ, μ, R, PostA.bind p fun us vs μ1 G1 H1 s1 R1 r1 p1 => ?_⟩) fun us s1 ⟨vs, H1, I1, r, q⟩ => ⟨I1.kIn, ?_⟩) he hpl
  · simp only at p1
    split at p1
    · rename_i hl
      refine ⟨?_, G1, μ1, vs ++ dd.map Val.d, R1.toRepM, rel_app r1 (relOf (h4 _)), post_fn R1 p1⟩
      rw [List.length_append, Paired.length r1, (h4 G1.F).length]; exact hl
    · exact p1.elim
  · exact fng_run h1 c.room c.gd h2 h3 (passAt c.tk σ) I1 r q
/-- f() -/
theorem ze_call0 (c : Cz Γ W X lv) (F : FnZ Γ X.prog X.w X.mg X.base lv f n Fn dd) (hg : Gl X x) (hm : X.mg x = some (.ref f)) (hdb : (x == ("__debug__" : Str)) = false) : PE X (.Call (.Name x p) [] [] pos) (tZ Γ W (fCall n Fn dd fANil)) := by
  obtain ⟨fd, ps, ds, dvs, h1, h2, h3, h4⟩ := F.ex
  have kp := F.kp
  rw [← c.K] at h1 h2 kp
  refine ⟨fun pins s σ H Q I h => ?_⟩
  refine wpAny_Call_Name_kw (ld_glob I hg hm ?_ hdb)
  refine PySem.W.callWith_K0 I.kIn kp (fng_run (us := []) (vs := []) h1 c.room c.gd h2 h3 (passAt c.tk σ) I .nil ?_)
  obtain ⟨G, ρ, μ, R, p⟩ := h
  unfold fCall at p
  rw [fANil, Zl.R.bind_ok] at p
  split at p
  · rename_i hl
    refine ⟨?_, G, μ, _, R.toRepM, relOf (h4 _), post_fn R p⟩
    rw [List.nil_append, (h4 G.F).length]; simpa using hl
  · exact p.elim

/-! ## o.m(a, ..) of an instance -/
def insV (μ : Mu) : Val → Option (Str × List Str × List Val)
  | .d (.ins c ns ds) => some (c, ns, ds.map Val.d)
  | .own k => (match μ[k]? with
    | some (.ins c ns vs) => some (c, ns, vs)
    | _ => none)
  | _ => none
theorem insV_ok {G : Gh} {μ : Mu} {H : Hp} {u : V} (R : RepM Γ G μ H) {v : Val} {k : Str} {ns : List Str} {vs : List Val} (r : VRel Γ G u v) (e : insV μ v = some (k, ns, vs)) :
    ∃ a C dx fus, u = .ref a ∧ Γ.cl k = some C ∧ H a = some (.ins C dx fus) ∧ fus.map (·.1) = ns ∧ VRelL Γ G (fus.map (·.2)) vs := by
  cases v with
  | d x =>
    cases x with
    | ins c ms ds =>
      cases e
      have r : Is Γ G.F u _ := r
      unfold Is at r
      obtain ⟨a, C, dx, fs, h1, h2, h3, h4, h5⟩ := r
      exact ⟨a, C, dx, fs, h1, h2, R.sub _ _ h3, h4, relOf h5⟩
    | _ => cases e
  | own j =>
    obtain ⟨a, ha, ea⟩ := r
    unfold insV at e
    cases q : μ[j]? with
    | none => simp only [q] at e; cases e
    | some c =>
      simp only [q] at e
      cases c with
      | ins c ms ws =>
        cases e
        obtain ⟨n, C, dx, fus, h1, h2, h3, h4⟩ := R.cells j a _ ha q
        exact ⟨a, C, dx, fus, ea, h1, h2, h3, h4⟩
      | _ => cases e
theorem lookup_none {α : Type} : ∀ {l : List (Str × α)} {m : Str}, m ∉ l.map (·.1) → l.lookup m = none
  | [], _, _ => rfl
  | (k, v) :: l, m, h => by
    rw [List.lookup_cons]
    have h1 : (m == k) = false := by
      rw [beq_eq_false_iff_ne]
      intro e
      exact h (by rw [e]; exact List.mem_cons_self)
    rw [h1]
    exact lookup_none fun z => h (List.mem_cons_of_mem _ z)
/-- the methods called so: by the class's tag -/
abbrev MT := Str → Option (Nat × FF)
def fMeth (m : Str) (Δ : MT) (f : FE) (g : FA) : FE := fun ρ μ => (f ρ μ).bind fun p => match insV p.2 p.1 with
  | some (k, ns, _) => if m ∈ ns then .bad else (match Δ k with
    | some (n, Fn) => (g ρ p.2).bind fun q => if q.1.length + 1 = n then (Fn (p.1 :: q.1) q.2).at ρ else .bad
    | none => .bad)
  | none => .bad
structure MtZ (Γ : Gm) (P : Program) (w : World) (mg : Str → Option Value) (base : Heap) (lv : Nat) (m : Str) (Δ : MT) : Prop where
  ex : ∀ k n Fn C, Δ k = some (n, Fn) → Γ.cl k = some C → ∃ f fd ps, Cls Γ.K C ∧ Meth Γ.K C m f ∧ FnG P w Γ.K mg base lv f fd ps (spZ Γ n Fn) ∧ Binds Γ.K fd ps []
theorem ze_meth {pl : Sem Bool} (c : Cz Γ W X lv) {Δ : MT} (F : MtZ Γ X.prog X.w X.mg X.base lv m Δ) (ho : PE X o (tZ Γ W fe)) (ha : PA X (e :: es) (tZA Γ W g))
    (hst : starEach (e :: es) X.env = (false, eval e X.env) :: starEach es X.env) (hpl : (backTo pos (starEach es X.env)).any (·.1) = false)
    (ht : eval (.Call (.Attribute o m apos) (e :: es) [] pos) X.env = (do
      let ov ← eval o X.env
      standAt apos.atName
      let (f, first) ← holding [ov] (getMethod ov m pl)
      callWith pos f first (backTo pos (starEach (e :: es) X.env)) (backToKw pos (keywordEach [] X.env)))) :
    PE X (.Call (.Attribute o m apos) (e :: es) [] pos) (tZ Γ W (fMeth m Δ fe g)) := by
  refine ⟨fun pins s σ H Q I h => ?_⟩
  obtain ⟨G, ρ, μ, R, p⟩ := h
  refine PySem.W.methodCall_KW (pl := pl) (thn (ho.run pins s σ H (fun x H1 => ∃ a k C dx fus n Fn v μ1 G1, x = .ref a ∧ Γ.cl k = some C ∧ H1 a = some (.ins C dx fus) ∧ fus.lookup m = none ∧ Δ k = some (n, Fn) ∧ Rep Γ G1 ρ μ1 σ H1 ∧ VRel Γ G1 (.ref a) v ∧
      Post Γ W G1 ρ σ H1 Q ((g ρ μ1).bind fun q => if q.1.length + 1 = n then (Fn (v :: q.1) q.2).at ρ else .bad)) I ⟨G, ρ, μ, R, Post.bind p fun u v μ1 G1 H1 s1 R1 r1 p1 => ?_⟩) fun u s1 ⟨x, H1, I1, rx, a, k, C, dx, fus, n, Fn, v, μ1, G1, ex, hC, ea, lk, hD, R1, rv, p1⟩ => ?_) ht
  · simp only at p1
    cases ei : insV μ1 v with
    | none => simp only [ei] at p1; exact p1.elim
    | some t =>
      obtain ⟨k, ns, vs⟩ := t
      simp only [ei] at p1
      split at p1
      · exact p1.elim
      · rename_i hm
        cases hD : Δ k with
        | none => simp only [hD] at p1; exact p1.elim
        | some q =>
          obtain ⟨n, Fn⟩ := q
          simp only [hD] at p1
          obtain ⟨a, C, dx, fus, h1, h2, h3, h4, h5⟩ := insV_ok R1.toRepM r1 ei
          exact ⟨a, k, C, dx, fus, n, Fn, v, μ1, G1, h1, h2, h3, lookup_none (by rw [h4]; exact hm), hD, R1, by rw [← h1]; exact r1, p1⟩
  · subst ex
    obtain rfl : u = Value.ref a := rx
    obtain ⟨f, fd, ps, hc, hm, hF, hb⟩ := F.ex k n Fn C hD hC
    rw [← c.K] at hc hm hF hb
    refine getmeth_ok I1 ea hc hm lk ?_
    refine PySem.W.callWith_K (first := [.ref a]) (h₀ := X.base) I.ok.mod.kin hm.kp (thn (ha.run pos pins s1 σ H1 (fun us H2 => spZ Γ n Fn (.ref a :: us) H2 Q (WE W σ)) I1 ⟨G1, ρ, μ1, R1, PostA.bind p1 fun us vs μ2 G2 H2 s2 R2 r2 p2 => ?_⟩) fun us s2 ⟨vs, H2, I2, r, q2⟩ => ⟨I2.kIn, ?_⟩) hst hpl
    · simp only at p2
      split at p2
      · rename_i hl
        refine ⟨?_, G2, μ2, v :: vs, R2.toRepM, .cons (VRel.mono s2 rv) r2, post_fn R2 p2⟩
        rw [List.length_cons, Paired.length r2]; exact hl
      · exact p2.elim
    · exact fng_run (us := .ref a :: us) (vs := .ref a :: vs) hF c.room c.gd hb .nil (passAt c.tk σ) I2 (.cons rfl r) (by rw [List.append_nil]; exact q2)
/-- o.m() -/
theorem ze_meth0 {pl : Sem Bool} (c : Cz Γ W X lv) {Δ : MT} (F : MtZ Γ X.prog X.w X.mg X.base lv m Δ) (ho : PE X o (tZ Γ W fe))
    (ht : eval (.Call (.Attribute o m apos) [] [] pos) X.env = (do
      let ov ← eval o X.env
      standAt apos.atName
      let (f, first) ← holding [ov] (getMethod ov m pl)
      callWith pos f first (backTo pos (starEach [] X.env)) (backToKw pos (keywordEach [] X.env)))) :
    PE X (.Call (.Attribute o m apos) [] [] pos) (tZ Γ W (fMeth m Δ fe fANil)) := by
  refine ⟨fun pins s σ H Q I h => ?_⟩
  obtain ⟨G, ρ, μ, R, p⟩ := h
  refine PySem.W.methodCall_KW (pl := pl) (thn (ho.run pins s σ H (fun x H1 => ∃ a k C dx fus n Fn v μ1 G1, x = .ref a ∧ Γ.cl k = some C ∧ H1 a = some (.ins C dx fus) ∧ fus.lookup m = none ∧ Δ k = some (n, Fn) ∧ Rep Γ G1 ρ μ1 σ H1 ∧ VRel Γ G1 (.ref a) v ∧
      Post Γ W G1 ρ σ H1 Q (if 0 + 1 = n then (Fn [v] μ1).at ρ else .bad)) I ⟨G, ρ, μ, R, Post.bind p fun u v μ1 G1 H1 s1 R1 r1 p1 => ?_⟩) fun u s1 ⟨x, H1, I1, rx, a, k, C, dx, fus, n, Fn, v, μ1, G1, ex, hC, ea, lk, hD, R1, rv, p1⟩ => ?_) ht
  · simp only at p1
    cases ei : insV μ1 v with
    | none => simp only [ei] at p1; exact p1.elim
    | some t =>
      obtain ⟨k, ns, vs⟩ := t
      simp only [ei] at p1
      split at p1
      · exact p1.elim
      · rename_i hm
        cases hD : Δ k with
        | none => simp only [hD] at p1; exact p1.elim
        | some q =>
          obtain ⟨n, Fn⟩ := q
          simp only [hD] at p1
          obtain ⟨a, C, dx, fus, h1, h2, h3, h4, h5⟩ := insV_ok R1.toRepM r1 ei
          exact ⟨a, k, C, dx, fus, n, Fn, v, μ1, G1, h1, h2, h3, lookup_none (by rw [h4]; exact hm), hD, R1, by rw [← h1]; exact r1, p1⟩
  · subst ex
    obtain rfl : u = Value.ref a := rx
    obtain ⟨f, fd, ps, hc, hm, hF, hb⟩ := F.ex k n Fn C hD hC
    rw [← c.K] at hc hm hF hb
    refine getmeth_ok I1 ea hc hm lk ?_
    refine PySem.W.callWith_K0 (first := [.ref a]) I1.kIn hm.kp (fng_run (us := [.ref a]) (vs := [.ref a]) hF c.room c.gd hb .nil (passAt c.tk σ) I1 (.cons rfl .nil) ?_)
    split at p1
    · rename_i hl
      refine ⟨by simpa using hl, G1, μ1, [v], R1.toRepM, .cons rv .nil, post_fn R1 p1⟩
    · exact p1.elim

/-! ## fields and properties -/
def getF : List Str → List Val → Str → Option Val
  | n :: ns, v :: vs, x => if x = n then some v else getF ns vs x
  | _, _, _ => none
theorem getF_ok {G : Gh} : ∀ {fus : List (Str × V)} {vs : List Val} {x : Str} {v : Val}, VRelL Γ G (fus.map (·.2)) vs → getF (fus.map (·.1)) vs x = some v → ∃ u, fus.lookup x = some u ∧ VRel Γ G u v
  | [], vs, x, v, h, e => by cases vs <;> cases e
  | q :: fus, vs, x, v, h, e => by
    cases h with
    | cons h t =>
      rename_i w ws
      have e' : (if x = q.1 then some w else getF (fus.map (·.1)) ws x) = some v := e
      rw [List.lookup_cons]
      by_cases c : x = q.1
      · rw [if_pos c] at e'
        cases e'
        have hb : (x == q.1) = true := by rw [c]; exact beq_self_eq_true _
        rw [hb]
        exact ⟨q.2, rfl, h⟩
      · rw [if_neg c] at e'
        have hb : (x == q.1) = false := beq_eq_false_iff_ne.mpr c
        rw [hb]
        exact getF_ok t e'
def fFld (x : Str) (f : FE) : FE := fun ρ μ => (f ρ μ).bind fun p => match insV p.2 p.1 with
  | some (_, ns, vs) => (match getF ns vs x with
    | some v => .ok (v, p.2)
    | none => .bad)
  | none => .bad
theorem ze_fld (c : Cz Γ W X lv) (hA : ∀ k C, Γ.cl k = some C → Cls Γ.K C ∧ NoAttr Γ.K C x) (ho : PE X o (tZ Γ W fe)) (hb : attributeBase o x X.env (eval o X.env) = eval o X.env) : PE X (.Attribute o x pos) (tZ Γ W (fFld x fe)) := by
  refine PE.imp (pe_fld ho hb) fun σ H Q t => ?_
  obtain ⟨G, ρ, μ, R, p⟩ := t
  refine ⟨G, ρ, μ, R, Post.bind p fun u v μ1 G1 H1 s1 R1 r1 p1 => ?_⟩
  simp only at p1
  cases ei : insV μ1 v with
  | none => simp only [ei] at p1; exact p1.elim
  | some t =>
    obtain ⟨k, ns, vs⟩ := t
    simp only [ei] at p1
    cases eg : getF ns vs x with
    | none => simp only [eg] at p1; exact p1.elim
    | some z =>
      simp only [eg] at p1
      obtain ⟨a, C, dx, fus, h1, h2, h3, h4, h5⟩ := insV_ok R1.toRepM r1 ei
      subst h4
      obtain ⟨y, k1, k2⟩ := getF_ok h5 eg
      obtain ⟨q1, q2⟩ := hA _ _ h2
      exact ⟨a, C, dx, fus, y, h1, h3, by rw [c.K]; exact q1, by rw [c.K]; exact q2, k1, Post.here R1 p1 k2⟩
def fProp (Δ : MT) (f : FE) : FE := fun ρ μ => (f ρ μ).bind fun p => match insV p.2 p.1 with
  | some (k, _, _) => (match Δ k with
    | some (n, Fn) => if n = 1 then (Fn [p.1] p.2).noex else .bad
    | none => .bad)
  | none => .bad
structure PrZ (Γ : Gm) (P : Program) (w : World) (mg : Str → Option Value) (base : Heap) (lv : Nat) (m : Str) (Δ : MT) : Prop where
  ex : ∀ k n Fn C, Δ k = some (n, Fn) → Γ.cl k = some C → ∃ f pa fd ps, Cls Γ.K C ∧ PropOf Γ.K C m pa f ∧ FnG P w Γ.K mg base lv f fd ps (spZ Γ n Fn) ∧ Binds Γ.K fd ps []
theorem ze_prop (c : Cz Γ W X (lv + 1)) {Δ : MT} (F : PrZ Γ X.prog X.w X.mg X.base lv x Δ) (ho : PE X o (tZ Γ W fe)) (hb : attributeBase o x X.env (eval o X.env) = eval o X.env) : PE X (.Attribute o x pos) (tZ Γ W (fProp Δ fe)) := by
  refine ⟨fun pins s σ H Q I h => ?_⟩
  obtain ⟨G, ρ, μ, R, p⟩ := h
  refine attr_of hb (thn (ho.run pins s σ H (fun x H1 => ∃ a k C dx fus Fn, x = .ref a ∧ Γ.cl k = some C ∧ H1 a = some (.ins C dx fus) ∧ Δ k = some (1, Fn) ∧ spZ Γ 1 Fn [.ref a] H1 Q E0) I ⟨G, ρ, μ, R, Post.bind p fun u v μ1 G1 H1 s1 R1 r1 p1 => ?_⟩) fun u s1 ⟨y, H1, I1, rx, a, k, C, dx, fus, Fn, ex, hC, ea, hD, q⟩ => ?_)
  · simp only at p1
    cases ei : insV μ1 v with
    | none => simp only [ei] at p1; exact p1.elim
    | some t =>
      obtain ⟨k, ns, vs⟩ := t
      simp only [ei] at p1
      cases hD : Δ k with
      | none => simp only [hD] at p1; exact p1.elim
      | some q =>
        obtain ⟨n, Fn⟩ := q
        simp only [hD] at p1
        split at p1
        · rename_i hn
          subst hn
          obtain ⟨a, C, dx, fus, h1, h2, h3, h4, h5⟩ := insV_ok R1.toRepM r1 ei
          refine ⟨a, k, C, dx, fus, Fn, h1, h2, h3, hD, rfl, G1, μ1, [v], R1.toRepM, .cons (by rw [← h1]; exact r1) .nil, ?_⟩
          cases ef : Fn [v] μ1 with
          | bad => rw [ef] at p1; exact p1.elim
          | ex _ _ _ => rw [ef] at p1; exact p1.elim
          | ok z => rw [ef] at p1; exact fun u G' H' st R' v => p1 u G' H' st (R1.go st R') v
        · exact p1.elim
  · subst ex
    obtain rfl : u = Value.ref a := rx
    obtain ⟨f, pa, fd, ps, hc, hp, hF, hb⟩ := F.ex k 1 Fn C hD hC
    rw [← c.K] at hc hp hF hb
    exact fng_prop I1 ea hc hp hF c.room c.gd hb q
end
end
end Zl
set_option Elab.async false
set_option linter.all false
set_option maxRecDepth 100000
set_option maxHeartbeats 4000000
namespace Zl
open PySem PySem.Spec L2
open PyProof.Rows hiding St

/-! ## a def that keeps its cells (a maker of live things); an __init__ -/
def fBodyK (N : Nat) (off : Nat) (body : FS) : FF := fun as μ => match body (startR (μ.length - off) N as) μ with
  | .ok p => (match p.1 with
    | .nx => .ok (.d .non, p.2.2)
    | .rt v => .ok (v, p.2.2)
    | _ => .bad)
  | .ex e r m => .ex e r m
  | .bad => .bad
/-- the promise of an __init__: the new object's cell is the last one -/
def spI (Γ : Gm) (n : Nat) (F : FF) : Sp := fun vs H Q E => vs.length = n ∧ ∃ G μ as, RepM Γ G μ H ∧ VRelL Γ G vs as ∧ (μ.length - 1 ∈ G.ts ∧ ∀ t ∈ G.ts, t ≤ μ.length - 1) ∧ PostF Γ G H Q E (F as μ)
section
variable {P : Program} {w : World} {Γ : Gm} {mg : Str → Option Value} {base : Heap}
theorem fn_okI {x qual : Str} {params : Arguments} {body : List Stmt} {scope : Scope} {dvs : List V} {kws : List (Str × V)} {f : Addr} {fd : FuncData} {N ps : List Str} {k : Nat} {s : FS}
    (F : FunD Γ.K x qual params body scope dvs kws f fd) (S : FnScope N ps scope)
    (hb : ∀ (W : WX) (cdv : Value) (A : Around) (outer : List Env) (st : Shared) (H : Hp) (E : XK), Cz Γ W (XC P w Γ mg base N qual scope f cdv A outer st H E) k → PassesOwn (model P w) (XC P w Γ mg base N qual scope f cdv A outer st H E).A (XC P w Γ mg base N qual scope f cdv A outer st H E).env (XC P w Γ mg base N qual scope f cdv A outer st H E).xe → PSs (XC P w Γ mg base N qual scope f cdv A outer st H E) body (tZS Γ W s)) :
    FnG P w Γ.K mg base (k + 1) f fd ps (spI Γ ps.length (fBodyK N.length 1 s)) := by
  refine fng_of F S (fun vs H Q E h => h.1) fun cdv A outer st H vs Q E hr hgd h => ?_
  obtain ⟨hl, G, μ, as, R, r, ⟨ht1, ht2⟩, p⟩ := h
  have hpl : ps.length ≤ N.length := by have := congrArg List.length S.pre; rw [List.length_take] at this; omega
  let X := cxOf (L2.CX P w) P w Γ.K mg base N qual scope f cdv A outer st H E
  have tk : Takes X (fun cls d _ H => E cls d H) := takes_of rfl rfl rfl rfl
  have po : PassesOwn (model X.prog X.w) X.A X.env X.xe := passes_of rfl
  refine ⟨tZS Γ (fun cls d _ H => E cls d H) s, hb _ cdv A outer st H E ⟨rfl, S.nd, rfl, hr, hgd, tk⟩ po, ?_⟩
  refine ⟨G, startR (μ.length - 1) N.length as, μ, start_rep R r ht1 ht2 (by rw [hl]; exact hpl), ?_⟩
  unfold fBodyK at p
  cases e : s (startR (μ.length - 1) N.length as) μ with
  | bad => rw [e] at p; exact p
  | ex er rr m =>
    rw [e] at p
    exact fun cls dx G' σ' H' st R' er' => p cls dx G' H' st R'.toRepM er'
  | ok q =>
    rw [e] at p
    intro G' σ' H' st R'
    obtain ⟨fl, ρ', μ'⟩ := q
    cases fl with
    | nx => exact p .non G' H' st R'.toRepM (by show Is Γ _ _ _; unfold Is; rfl)
    | rt v => exact fun u hu => p u G' H' st R'.toRepM hu
    | bk => exact p.elim
    | ct => exact p.elim
theorem RepM.pop {G : Gh} {μ : Mu} {H : Hp} {ts : List Nat} (R : RepM Γ G μ H) (h : ∀ t ∈ ts, t ∈ G.ts) : RepM Γ ⟨G.F, G.al, ts⟩ μ H :=
  ⟨R.sub, R.len, R.nd, fun k a c e1 e2 => CRel.mono (G := G) (G' := ⟨G.F, G.al, ts⟩) (fun _ _ h => h) (fun n => n) ⟨[], by simp⟩ rfl (R.cells k a c e1 e2), R.there, fun t ht => R.clo t (h t ht), R.tabs.go (fun _ _ e _ _ => e) (fun _ _ _ _ _ h => h) fun _ z => .inl z⟩
/-- a def whose new cells stay -/
theorem fn_okK {x qual : Str} {params : Arguments} {body : List Stmt} {scope : Scope} {dvs : List V} {kws : List (Str × V)} {f : Addr} {fd : FuncData} {N ps : List Str} {k : Nat} {s : FS}
    (F : FunD Γ.K x qual params body scope dvs kws f fd) (S : FnScope N ps scope)
    (hb : ∀ (W : WX) (cdv : Value) (A : Around) (outer : List Env) (st : Shared) (H : Hp) (E : XK), Cz Γ W (XC P w Γ mg base N qual scope f cdv A outer st H E) k → PassesOwn (model P w) (XC P w Γ mg base N qual scope f cdv A outer st H E).A (XC P w Γ mg base N qual scope f cdv A outer st H E).env (XC P w Γ mg base N qual scope f cdv A outer st H E).xe → PSs (XC P w Γ mg base N qual scope f cdv A outer st H E) body (tZS Γ W s)) :
    FnG P w Γ.K mg base (k + 1) f fd ps (spZ Γ ps.length (fBodyK N.length 0 s)) := by
  refine fng_of F S (fun vs H Q E h => h.1) fun cdv A outer st H vs Q E hr hgd h => ?_
  obtain ⟨hl, G, μ, as, R, r, p⟩ := h
  have hpl : ps.length ≤ N.length := by have := congrArg List.length S.pre; rw [List.length_take] at this; omega
  let X := cxOf (L2.CX P w) P w Γ.K mg base N qual scope f cdv A outer st H E
  have tk : Takes X (fun cls d _ H => E cls d H) := takes_of rfl rfl rfl rfl
  have po : PassesOwn (model X.prog X.w) X.A X.env X.xe := passes_of rfl
  refine ⟨tZS Γ (fun cls d _ H => E cls d H) s, hb _ cdv A outer st H E ⟨rfl, S.nd, rfl, hr, hgd, tk⟩ po, ?_⟩
  have R1 := R.pushTop
  have R2 : Rep Γ (G.push μ.length) (startR μ.length N.length as) μ (L2.start N vs) H := by
    refine start_rep R1 ?_ List.mem_cons_self (fun t ht => ?_) (by rw [hl]; exact hpl)
    · exact Paired.imp (fun u v h => by cases v <;> exact h) r
    · rcases List.mem_cons.mp ht with e | e
      · rw [e]; exact Nat.le_refl _
      · exact (R.clo t e).1
  refine ⟨G.push μ.length, startR μ.length N.length as, μ, R2, ?_⟩
  have fin : ∀ {G' : Gh} {μ' : Mu} {H' : Hp}, Step (G.push μ.length) H G' H' → RepM Γ G' μ' H' → Step G H ⟨G'.F, G'.al, G.ts⟩ H' ∧ RepM Γ ⟨G'.F, G'.al, G.ts⟩ μ' H' := fun {G' μ' H'} st R' =>
    ⟨⟨st.fz, st.al, rfl, st.keep, st.newF, st.newA, st.there⟩, R'.pop fun t ht => by rw [st.ts]; exact List.mem_cons_of_mem _ ht⟩
  have vr : ∀ {G' : Gh} {u : V} {v : Val}, VRel Γ G' u v → VRel Γ ⟨G'.F, G'.al, G.ts⟩ u v := fun {G' u v} h => by cases v <;> exact h
  unfold fBodyK at p
  rw [Nat.sub_zero] at p
  cases e : s (startR μ.length N.length as) μ with
  | bad => rw [e] at p; exact p
  | ex er rr m =>
    rw [e] at p
    intro cls dx G' σ' H' st R' er'
    obtain ⟨s3, R3⟩ := fin st R'.toRepM
    exact p cls dx _ H' s3 R3 er'
  | ok q =>
    rw [e] at p
    intro G' σ' H' st R'
    obtain ⟨s3, R3⟩ := fin st R'.toRepM
    obtain ⟨fl, ρ', μ'⟩ := q
    cases fl with
    | nx => exact p .non _ H' s3 R3 (by show Is Γ _ _ _; unfold Is; rfl)
    | rt v => exact fun u hu => p u _ H' s3 R3 (vr hu)
    | bk => exact p.elim
    | ct => exact p.elim
end

/-! ## C(a, ..) -/
/-- live: the instance stays live; else it is frozen -/
def fMake (k : Str) (n : Nat) (Fi : FF) (dd : List D) (live : Bool) (g : FA) : FE := fun ρ μ => (g ρ μ).bind fun p => if p.1.length + dd.length + 1 = n then (match Fi (.own p.2.length :: (p.1 ++ dd.map Val.d)) (p.2 ++ [.ins k [] []]) with
  | .ok q => (match q.1 with
    | .d .non => if live = true then .ok (.own p.2.length, q.2) else (match treeV 40 p.2.length q.2 (.own p.2.length) with
      | some x => .ok (.d x, q.2.take p.2.length)
      | none => .bad)
    | _ => .bad)
  | .ex e _ m => .ex e ρ (m.take p.2.length)
  | .bad => .bad) else .bad
structure MkZ (Γ : Gm) (P : Program) (w : World) (mg : Str → Option Value) (base : Heap) (lv : Nat) (k : Str) (C : Addr) (n : Nat) (Fi : FF) (dd : List D) : Prop where
  cl : Γ.cl k = some C
  ex : ∃ f fd ps ds dvs, Mk Γ.K C f ∧ FnG P w Γ.K mg base lv f fd ps (spI Γ n Fi) ∧ Binds Γ.K fd ps ds ∧ Vals dvs ds ∧ (∀ F, IsL Γ F dvs dd)
section
variable {Γ : Gm} {W : WX} {X : Cx} {lv : Nat} {x : Str} {p pos : Pos} {e : Expr} {es : List Expr} {C : Addr} {n : Nat} {k : Str} {Fi : FF} {dd : List D} {g : FA} {live : Bool}
/-- the promise of __init__ at a new instance -/
theorem make_sp {G : Gh} {ρ : Rho} {μ : Mu} {σ : St} {H : Hp} {Q : VK} {vs : List V} {as : List Val} {dvs : List V} (hC : Γ.cl k = some C) (hdd : ∀ F, IsL Γ F dvs dd) (R : Rep Γ G ρ μ σ H) (r : VRelL Γ G vs as)
    (p : Post Γ W G ρ σ H Q (if as.length + dd.length + 1 = n then (match Fi (.own μ.length :: (as ++ dd.map Val.d)) (μ ++ [.ins k [] []]) with
      | .ok q => (match q.1 with
        | .d .non => if live = true then .ok (.own μ.length, q.2) else (match treeV 40 μ.length q.2 (.own μ.length) with
          | some x => .ok (.d x, q.2.take μ.length)
          | none => .bad)
        | _ => .bad)
      | .ex e _ m => .ex e ρ (m.take μ.length)
      | .bad => .bad) else .bad)) (x dx : Addr) (hx : H x = none) (hdx : H dx = none) (ne : dx ≠ x) :
    spI Γ n Fi (.ref x :: (vs ++ dvs)) (upd (upd H dx (.own x)) x (.ins C dx [])) (fun v H2 => v = .non ∧ Q (.ref x) H2) (WE W σ) := by
  split at p
  · rename_i hl
    have R1 : RepM Γ (G.push μ.length) μ (upd H dx (.own x)) := (R.toRepM.other hdx).pushTop
    have hx1 : upd H dx (.own x) x = none := by rw [upd_ne ne.symm]; exact hx
    have R2 : RepM Γ ((G.push μ.length).lvn x) (μ ++ [.ins k [] []]) (upd (upd H dx (.own x)) x (.ins C dx [])) := R1.lvNew hx1 ⟨R.toRepM.Fnone hx, C, dx, [], hC, upd_same, rfl, .nil⟩
    have st : Step G H ⟨G.F, G.al ++ [x], G.ts⟩ (upd (upd H dx (.own x)) x (.ins C dx [])) := (Step.other hdx).trans (RepM.stepLv (G := G) hx1)
    have vx : VRel Γ ((G.push μ.length).lvn x) (.ref x) (.own μ.length) := ⟨x, by show (G.al ++ [x])[μ.length]? = _; rw [← R.toRepM.len]; simp, rfl⟩
    have up : ∀ {us : List V} {vs : List Val}, VRelL Γ G us vs → VRelL Γ ((G.push μ.length).lvn x) us vs := fun h => Paired.imp (fun u v h => VRel.lvn (G := G.push μ.length) (by cases v <;> exact h)) h
    refine ⟨?_, (G.push μ.length).lvn x, μ ++ [.ins k [] []], .own μ.length :: (as ++ dd.map Val.d), R2, .cons vx (rel_app (up r) (up (relOf (hdd G.F)))), ⟨?_, fun t ht => ?_⟩, ?_⟩
    · rw [List.length_cons, List.length_append, Paired.length r, (hdd G.F).length]; exact hl
    · show (μ ++ [Cell.ins k [] []]).length - 1 ∈ μ.length :: G.ts
      simp
    · rw [List.length_append, List.length_singleton, Nat.add_sub_cancel]
      rcases List.mem_cons.mp (show t ∈ μ.length :: G.ts from ht) with e | e
      · rw [e]; exact Nat.le_refl _
      · exact (R.toRepM.clo t e).1
    · -- from the outcome of __init__ to the call's
      have back : ∀ {G' : Gh} {H' : Hp} {μ' : Mu}, Step ((G.push μ.length).lvn x) (upd (upd H dx (.own x)) x (.ins C dx [])) G' H' → RepM Γ G' μ' H' →
          Step G H ⟨G'.F, G'.al, G.ts⟩ H' ∧ RepM Γ ⟨G'.F, G'.al, G.ts⟩ μ' H' ∧ Step G H (G'.close H' μ.length G.ts) H' ∧ RepM Γ (G'.close H' μ.length G.ts) (μ'.take μ.length) H' := fun {G' H' μ'} s R' => by
        have s1 : Step ⟨G.F, G.al ++ [x], G.ts⟩ (upd (upd H dx (.own x)) x (.ins C dx [])) ⟨G'.F, G'.al, G.ts⟩ H' := ⟨s.fz, s.al, rfl, s.keep, s.newF, s.newA, s.there⟩
        have s2 := st.trans s1
        have tsE : G'.ts = μ.length :: G.ts := s.ts
        have Rp : RepM Γ ⟨G'.F, G'.al, G.ts⟩ μ' H' := R'.pop fun t ht => by rw [tsE]; exact List.mem_cons_of_mem _ ht
        have s3 := s2.trunc Rp rfl
        rw [R.toRepM.len] at s3
        exact ⟨s2, Rp, s3, R'.trunc (by rw [tsE]; exact List.mem_cons_self) G.ts fun s hs => ⟨by rw [tsE]; exact List.mem_cons_of_mem _ hs, (R.toRepM.clo s hs).1⟩⟩
      cases ef : Fi (.own μ.length :: (as ++ dd.map Val.d)) (μ ++ [.ins k [] []]) with
      | bad => rw [ef] at p; exact p
      | ex er rr m =>
        rw [ef] at p
        intro cls d0 G' H' s R' er'
        obtain ⟨s2, Rp, s3, R3⟩ := back s R'
        exact p cls d0 _ H' s3 (R.go s3 R3) (ErrRel.close R' er')
      | ok q =>
        rw [ef] at p
        obtain ⟨v, μ'⟩ := q
        intro u G' H' s R' hu
        obtain ⟨s2, Rp, s3, R3⟩ := back s R'
        simp only at p
        split at p
        · have eu : u = .non := VRel.non_ hu
          refine ⟨eu, ?_⟩
          have vx' : VRel Γ G' (.ref x) (.own μ.length) := VRel.mono s vx
          cases live with
          | true =>
            rw [if_pos rfl] at p
            exact p (.ref x) _ H' s2 (R.go s2 Rp) vx'
          | false =>
            rw [if_neg Bool.false_ne_true] at p
            cases et : treeV 40 μ.length μ' (.own μ.length) with
            | none => simp only [et] at p; exact p.elim
            | some d => simp only [et] at p; exact p (.ref x) _ H' s3 (R.go s3 R3) (tree_ok R' _ _ 40 _ _ d vx' et)
        · exact p.elim
  · exact p.elim
theorem ze_make (c : Cz Γ W X (lv + 1)) (M : MkZ Γ X.prog X.w X.mg X.base lv k C n Fi dd) (hg : Gl X x) (hm : X.mg x = some (.ref C)) (ha : PA X (e :: es) (tZA Γ W g)) (hdb : (x == ("__debug__" : Str)) = false)
    (he : starEach (e :: es) X.env = (false, eval e X.env) :: starEach es X.env) (hpl : (backTo pos (starEach es X.env)).any (·.1) = false) : PE X (.Call (.Name x p) (e :: es) [] pos) (tZ Γ W (fMake k n Fi dd live g)) := by
  obtain ⟨f, fd, ps, ds, dvs, h0, h1, h2, h3, h4⟩ := M.ex
  rw [← c.K] at h0 h1 h2
  refine ⟨fun pins s σ H Q I h => ?_⟩
  obtain ⟨G, ρ, μ, R, q⟩ := h
  refine wpAny_Call_Name_kw (ld_glob I hg hm ?_ hdb)
  refine PySem.W.callWith_K (h₀ := X.base) I.ok.mod.kin h0.kp (thn (ha.run pos pins s σ H (fun vs H1 => ∀ x dx, H1 x = none → H1 dx = none → dx ≠ x → spI Γ n Fi (.ref x :: (vs ++ dvs)) (upd (upd H1 dx (.own x)) x (.ins C dx [])) (fun v H2 => v = .non ∧ Q (.ref x) H2) (WE W σ)) I
    ⟨G, ρ, μ, R, PostA.bind q fun us vs μ1 G1 H1 s1 R1 r1 p1 => fun x dx hx hdx ne => make_sp M.cl h4 R1 r1 p1 x dx hx hdx ne⟩) fun us s1 ⟨vs, H1, I1, r, q⟩ => ⟨I1.kIn, ?_⟩) he hpl
  exact fng_make h0 h1 c.room c.gd h2 h3 (passAt c.tk σ) I1 r q
theorem ze_make0 (c : Cz Γ W X (lv + 1)) (M : MkZ Γ X.prog X.w X.mg X.base lv k C n Fi dd) (hg : Gl X x) (hm : X.mg x = some (.ref C)) (hdb : (x == ("__debug__" : Str)) = false) : PE X (.Call (.Name x p) [] [] pos) (tZ Γ W (fMake k n Fi dd live fANil)) := by
  obtain ⟨f, fd, ps, ds, dvs, h0, h1, h2, h3, h4⟩ := M.ex
  rw [← c.K] at h0 h1 h2
  refine ⟨fun pins s σ H Q I h => ?_⟩
  obtain ⟨G, ρ, μ, R, q⟩ := h
  refine wpAny_Call_Name_kw (ld_glob I hg hm ?_ hdb)
  exact PySem.W.callWith_K0 I.kIn h0.kp (fng_make (us := []) (vs := []) h0 h1 c.room c.gd h2 h3 (passAt c.tk σ) I .nil fun x dx hx hdx ne => make_sp (as := []) M.cl h4 R .nil q x dx hx hdx ne)
end
end Zl
set_option Elab.async false
set_option linter.all false
set_option maxRecDepth 100000
set_option maxHeartbeats 4000000
namespace Zl
open PySem PySem.Spec L2
open PyProof.Rows hiding St

/-! ## live objects change -/
/-- may the cell k hold this value? -/
def okW (n0 k : Nat) : Val → Bool
  | .d _ => true
  | .own j => decide (n0 ≤ k ∨ j < k)
def putP : List Str → List Val → Str → Val → List Str × List Val
  | n :: ns, v :: vs, x, w => if n = x then (n :: ns, w :: vs) else let r := putP ns vs x w; (n :: r.1, v :: r.2)
  | _, _, x, w => ([x], [w])
def repK {κ : Type} [DecidableEq κ] : List κ → List Val → κ → Val → List Val
  | j :: ks, w :: vs, k, v => (if j = k then v else w) :: repK ks vs k v
  | _, _, _, _ => []
def putKs {κ : Type} [DecidableEq κ] (ks : List κ) (vs : List Val) (k : κ) (v : Val) : List κ × List Val := if k ∈ ks then (ks, repK ks vs k v) else (ks ++ [k], vs ++ [v])
section
variable {Γ : Gm} {W : WX} {X : Cx} {lv : Nat} {G : Gh} {ρ : Rho} {μ : Mu} {σ : St} {H : Hp}
theorem putP_ok : ∀ {fus : List (Str × V)} {vs : List Val} {x : Str} {u : V} {w : Val}, VRelL Γ G (fus.map (·.2)) vs → VRel Γ G u w →
    (putF x u fus).map (·.1) = (putP (fus.map (·.1)) vs x w).1 ∧ VRelL Γ G ((putF x u fus).map (·.2)) (putP (fus.map (·.1)) vs x w).2
  | [], vs, x, u, w, h, r => by
    have h : VRelL Γ G [] vs := h
    cases h
    exact ⟨rfl, .cons r .nil⟩
  | q :: fus, vs, x, u, w, h, r => by
    cases h with
    | cons h t =>
      rename_i y ys
      obtain ⟨g, z⟩ := q
      obtain ⟨i1, i2⟩ := putP_ok (x := x) t r
      show (List.map (·.1) (if g = x then (g, u) :: fus else (g, z) :: putF x u fus) = (if g = x then (g :: fus.map (·.1), w :: ys) else (g :: (putP (fus.map (·.1)) ys x w).1, y :: (putP (fus.map (·.1)) ys x w).2)).1) ∧
        VRelL Γ G (List.map (·.2) (if g = x then (g, u) :: fus else (g, z) :: putF x u fus)) (if g = x then (g :: fus.map (·.1), w :: ys) else (g :: (putP (fus.map (·.1)) ys x w).1, y :: (putP (fus.map (·.1)) ys x w).2)).2
      by_cases c : g = x
      · rw [if_pos c, if_pos c]
        exact ⟨rfl, .cons r t⟩
      · rw [if_neg c, if_neg c]
        exact ⟨by rw [List.map_cons, i1], .cons h i2⟩
theorem repK_ok {κ : Type} [DecidableEq κ] : ∀ {kus : List (κ × V)} {vs : List Val} {k : κ} {u : V} {w : Val}, VRelL Γ G (kus.map (·.2)) vs → VRel Γ G u w →
    VRelL Γ G ((kus.map fun kv => if kv.1 = k then (kv.1, u) else kv).map (·.2)) (repK (kus.map (·.1)) vs k w)
  | [], vs, k, u, w, h, r => by
    have h : VRelL Γ G [] vs := h
    cases h
    exact .nil
  | q :: kus, vs, k, u, w, h, r => by
    cases h with
    | cons h t =>
      rename_i y ys
      obtain ⟨g, z⟩ := q
      refine .cons ?_ (repK_ok t r)
      show VRel Γ G (if g = k then (g, u) else (g, z)).2 (if g = k then w else y)
      by_cases c : g = k
      · rw [if_pos c, if_pos c]; exact r
      · rw [if_neg c, if_neg c]; exact h
theorem putKs_ok {κ : Type} [DecidableEq κ] {kus : List (κ × V)} {vs : List Val} {k : κ} {u : V} {w : Val} (h : VRelL Γ G (kus.map (·.2)) vs) (r : VRel Γ G u w) :
    (putK kus k u).map (·.1) = (putKs (kus.map (·.1)) vs k w).1 ∧ VRelL Γ G ((putK kus k u).map (·.2)) (putKs (kus.map (·.1)) vs k w).2 := by
  unfold putK putKs
  have e : (kus.any fun kv => decide (kv.1 = k)) = decide (k ∈ kus.map (·.1)) := by
    rw [Bool.eq_iff_iff]
    simp [List.any_eq_true]
  by_cases c : k ∈ kus.map (·.1)
  · rw [if_pos c, if_pos (by rw [e]; exact decide_eq_true c)]
    refine ⟨?_, repK_ok h r⟩
    rw [List.map_map]
    refine List.map_congr_left fun q _ => ?_
    show (if q.1 = k then (q.1, u) else q).1 = q.1
    split <;> rfl
  · rw [if_neg c, if_neg (by rw [e, decide_eq_false c]; exact Bool.false_ne_true)]
    refine ⟨by rw [List.map_append]; rfl, ?_⟩
    rw [List.map_append]
    exact rel_app h (.cons r .nil)
theorem putP_vals : ∀ {ns : List Str} {vs : List Val} {x : Str} {w : Val} {j : Nat}, Val.own j ∈ (putP ns vs x w).2 → Val.own j ∈ vs ∨ w = .own j
  | [], vs, x, w, j, h => by
    have h : Val.own j ∈ [w] := h
    exact .inr (List.mem_singleton.mp h).symm
  | n :: ns, [], x, w, j, h => by
    have h : Val.own j ∈ [w] := h
    exact .inr (List.mem_singleton.mp h).symm
  | n :: ns, v :: vs, x, w, j, h => by
    have h : Val.own j ∈ (if n = x then (n :: ns, w :: vs) else (n :: (putP ns vs x w).1, v :: (putP ns vs x w).2)).2 := h
    by_cases c : n = x
    · rw [if_pos c] at h
      rcases List.mem_cons.mp h with e | e
      · exact .inr e.symm
      · exact .inl (List.mem_cons_of_mem _ e)
    · rw [if_neg c] at h
      rcases List.mem_cons.mp h with e | e
      · exact .inl (by rw [e]; exact List.mem_cons_self)
      · rcases putP_vals e with z | z
        · exact .inl (List.mem_cons_of_mem _ z)
        · exact .inr z
theorem repK_vals {κ : Type} [DecidableEq κ] : ∀ {ks : List κ} {vs : List Val} {x : κ} {w : Val} {j : Nat}, Val.own j ∈ repK ks vs x w → Val.own j ∈ vs ∨ w = .own j
  | [], vs, x, w, j, h => by cases h
  | n :: ns, [], x, w, j, h => by cases h
  | n :: ns, v :: vs, x, w, j, h => by
    have h : Val.own j ∈ (if n = x then w else v) :: repK ns vs x w := h
    rcases List.mem_cons.mp h with e | e
    · by_cases c : n = x
      · rw [if_pos c] at e; exact .inr e.symm
      · rw [if_neg c] at e; exact .inl (by rw [e]; exact List.mem_cons_self)
    · rcases repK_vals e with z | z
      · exact .inl (List.mem_cons_of_mem _ z)
      · exact .inr z
theorem putKs_vals {κ : Type} [DecidableEq κ] {ks : List κ} {vs : List Val} {x : κ} {w : Val} {j : Nat} (h : Val.own j ∈ (putKs ks vs x w).2) : Val.own j ∈ vs ∨ w = .own j := by
  unfold putKs at h
  split at h
  · exact repK_vals h
  · rcases List.mem_append.mp h with e | e
    · exact .inl e
    · exact .inr (List.mem_singleton.mp e).symm
/-- a cell is written: its new values are old ones of it, or w -/
theorem Rep.write (R : Rep Γ G ρ μ σ H) {k : Nat} {a : Addr} {o : HO} {c c' : Cell} {w : Val} (e1 : G.al[k]? = some a) (hF : G.F a = none) (ec : μ[k]? = some c) (hv : ∀ j, Val.own j ∈ c'.vals → Val.own j ∈ c.vals ∨ w = .own j) (hw : okW ρ.n0 k w = true)
    (hc : CRel Γ G (upd H a o) a c') : Step G H G (upd H a o) ∧ Rep Γ G ρ (μ.set k c') σ (upd H a o) := by
  have st : Step G H G (upd H a o) := Step.write e1
  refine ⟨st, R.go st (R.toRepM.write e1 hF hc fun t ht hk j hj => ?_)⟩
  rcases hv j hj with z | z
  · exact (R.clo t ht).2 k c j hk ec z
  · subst z
    have hw : (ρ.n0 ≤ k ∨ j < k) := of_decide_eq_true hw
    have := R.top t ht
    omega
/-- the value written is off H's change -/
theorem vrel_any {H1 : Hp} {us : List V} {vs : List Val} (h : VRelL Γ G us vs) : VRelL Γ G us vs := h

/-! ### o.f = e -/
def fSetF (x : Str) (fo fv : FE) : FS := fun ρ μ => (fv ρ μ).bind fun p => (fo ρ p.2).bind fun q => match q.1 with
  | .own k => (match q.2[k]? with
    | some (.ins c ns vs) => if okW ρ.n0 k p.1 = true ∧ ns.length < 1000 then .ok (.nx, ρ, q.2.set k (.ins c (putP ns vs x p.1).1 (putP ns vs x p.1).2)) else .bad
    | _ => .bad)
  | _ => .bad
theorem zs_setF {x : Str} {o e : Expr} {pos pos' : Pos} {fo fv : FE} (c : Cz Γ W X lv) (hA : ∀ k C, Γ.cl k = some C → Cls Γ.K C ∧ NoAttr Γ.K C x) (ho : PE X o (tZ Γ W fo)) (hv : PE X e (tZ Γ W fv)) (hs : swapsWith e (some (.Attribute o x pos')) pos.line X.env = pure false) :
    PS X (.Assign [.Attribute o x pos'] e pos) (tZS Γ W (fSetF x fo fv)) := by
  refine PS.imp (ps_fld ho hv hs) fun D σ H t => ?_
  obtain ⟨G, ρ, μ, R, p⟩ := t
  refine ⟨G, ρ, μ, R, Post.bindS p fun u v μ1 G1 H1 s1 R1 r1 p1 => ⟨G1, ρ, μ1, R1, Post.bindS p1 fun y w μ2 G2 H2 s2 R2 r2 p2 => ?_⟩⟩
  simp only at p2
  split at p2
  · rename_i k
    split at p2
    · rename_i cc ns vs ek
      split at p2
      · rename_i hz
        obtain ⟨a, ha, ey⟩ := r2
        obtain ⟨n, C, dx, fus, h1, h2, h3, h4⟩ := R2.cells k a _ ha ek
        subst h3
        obtain ⟨q1, q2⟩ := hA _ _ h1
        obtain ⟨i1, i2⟩ := putP_ok (x := x) h4 (VRel.mono s2 r1)
        obtain ⟨st, R3⟩ := Rep.write (o := .ins C dx (putF x u fus)) R2 ha n ek (w := v) (c' := .ins cc (putP (fus.map (·.1)) vs x v).1 (putP (fus.map (·.1)) vs x v).2) (fun j hj => putP_vals hj) hz.1 ⟨n, C, dx, _, h1, upd_same, i1, i2⟩
        exact ⟨a, C, dx, fus, ey, h2, by rw [c.K]; exact q1, by rw [c.K]; exact q2, by simpa using hz.2, PostS.nx (W := W) R3 (PostS.step st p2)⟩
      · exact p2.elim
    · exact p2.elim
  · exact p2.elim

/-! ### d[k] = e, d[k] += e -/
def putD (n0 : Nat) (μ : Mu) (d y v : Val) : Option Mu := match d with
  | .own k => (match μ[k]? with
    | some (.dK ks vs) => (keyV y).bind fun j => if okW n0 k v = true ∧ ks.length < 1000000 then some (μ.set k (.dK (putKs ks vs j v).1 (putKs ks vs j v).2)) else none
    | some (.dT ks vs) => (match y with
      | .d (.tup es) => (keysD es).bind fun j => if okW n0 k v = true ∧ ks.length < 1000000 then some (μ.set k (.dT (putKs ks vs j v).1 (putKs ks vs j v).2)) else none
      | _ => none)
    | _ => none)
  | _ => none
theorem line_big : (1000000 : Nat) ≤ sizeLine := by decide
theorem putD_ok {x y u : V} {d yv v : Val} {μ' : Mu} (R : Rep Γ G ρ μ σ H) (rx : VRel Γ G x d) (ry : VRel Γ G y yv) (rv : VRel Γ G u v) (e : putD ρ.n0 μ d yv v = some μ') :
    ∃ a H', x = .ref a ∧ DPut H a y u H' ∧ Step G H G H' ∧ Rep Γ G ρ μ' σ H' := by
  unfold putD at e
  split at e
  · rename_i k
    obtain ⟨a, ha, ex⟩ := rx
    split at e
    · rename_i ks vs ek
      cases q : keyV yv with
      | none => rw [q] at e; cases e
      | some j =>
        rw [q, Option.bind_some] at e
        split at e
        · rename_i hz
          cases e
          obtain ⟨n, kus, h1, h2, h3⟩ := R.cells k a _ ha ek
          subst h2
          have ey : y = kV j := by
            cases yv with
            | d x => exact keyD_ok ry q
            | own _ => cases q
          obtain ⟨i1, i2⟩ := putKs_ok (k := j) h3 rv
          obtain ⟨st, R3⟩ := Rep.write (o := .dK (putK kus j u)) R ha n ek (w := v) (c' := .dK (putKs (kus.map (·.1)) vs j v).1 (putKs (kus.map (·.1)) vs j v).2) (fun i hi => putKs_vals hi) hz.1 ⟨n, _, upd_same, i1, i2⟩
          exact ⟨a, _, ex, by rw [ey]; exact DPut.k h1 (Nat.lt_of_lt_of_le (by simpa using hz.2) line_big), st, R3⟩
        · cases e
    · rename_i ks vs ek
      split at e
      · rename_i es
        cases q : keysD es with
        | none => rw [q] at e; cases e
        | some j =>
          rw [q, Option.bind_some] at e
          split at e
          · rename_i hz
            cases e
            obtain ⟨n, kus, h1, h2, h3⟩ := R.cells k a _ ha ek
            subst h2
            obtain ⟨b, us, ey, hb, hl⟩ := VRel.tupH R.toRepM ry
            have eu := keysD_ok hl q
            obtain ⟨i1, i2⟩ := putKs_ok (k := j) h3 rv
            obtain ⟨st, R3⟩ := Rep.write (o := .dT (putK kus j u)) R ha n ek (w := v) (c' := .dT (putKs (kus.map (·.1)) vs j v).1 (putKs (kus.map (·.1)) vs j v).2) (fun i hi => putKs_vals hi) hz.1 ⟨n, _, upd_same, i1, i2⟩
            exact ⟨a, _, ex, by rw [ey]; exact DPut.t h1 (by rw [hb, eu]) (Nat.lt_of_lt_of_le (by simpa using hz.2) line_big), st, R3⟩
          · cases e
      · cases e
    · cases e
  · cases e
def fPut (fo fi fv : FE) : FS := fun ρ μ => (fv ρ μ).bind fun p => (fo ρ p.2).bind fun q => (fi ρ q.2).bind fun r => match putD ρ.n0 r.2 q.1 r.1 p.1 with
  | some μ' => .ok (.nx, ρ, μ')
  | none => .bad
theorem zs_put {o i e : Expr} {pos pos' : Pos} {fo fi fv : FE} (c : Cz Γ W X lv) (ho : PE X o (tZ Γ W fo)) (hi : PE X i (tZ Γ W fi)) (hv : PE X e (tZ Γ W fv)) (hs : swapsWith e (some (.Subscript o i pos')) pos.line X.env = pure false) :
    PS X (.Assign [.Subscript o i pos'] e pos) (tZS Γ W (fPut fo fi fv)) := by
  refine PS.imp (ps_dput (by have := c.hu; omega) ho hi hv hs) fun D σ H t => ?_
  obtain ⟨G, ρ, μ, R, p⟩ := t
  refine ⟨G, ρ, μ, R, Post.bindS p fun u v μ1 G1 H1 s1 R1 r1 p1 => ⟨G1, ρ, μ1, R1, Post.bindS p1 fun x w μ2 G2 H2 s2 R2 r2 p2 => ⟨G2, ρ, μ2, R2, Post.bindS p2 fun y z μ3 G3 H3 s3 R3 r3 p3 => ?_⟩⟩⟩
  simp only at p3
  cases ep : putD ρ.n0 μ3 w z v with
  | none => simp only [ep] at p3; exact p3.elim
  | some μ' =>
    simp only [ep] at p3
    obtain ⟨a, H', ex, hp, st, R4⟩ := putD_ok R3 (VRel.mono s3 r2) r3 (VRel.mono s3 (VRel.mono s2 r1)) ep
    exact ⟨a, H', ex, hp, PostS.nx (W := W) R4 (PostS.step st p3)⟩
/-- d[k] += e (ints) -/
def fAugK (fo fi fv : FE) : FS := fun ρ μ => (fo ρ μ).bind fun q => (fi ρ q.2).bind fun r => match dGet r.2 q.1 r.1 with
  | some (some (.d (.int a))) => (fv ρ r.2).bind fun p => (match p.1 with
    | .d (.int b) => (match putD ρ.n0 p.2 q.1 r.1 (.d (.int (a + b))) with
      | some μ' => .ok (.nx, ρ, μ')
      | none => .bad)
    | _ => .bad)
  | _ => .bad
theorem zs_augK {o i e : Expr} {pos pos' : Pos} {fo fi fv : FE} (c : Cz Γ W X lv) (ho : PE X o (tZ Γ W fo)) (hi : PE X i (tZ Γ W fi)) (hv : PE X e (tZ Γ W fv))
    (ha : ∀ ov iv new, augStore i ov iv new = (do holding [new, ov, iv] (setItem ov iv new); release [new, ov, iv] []; pure .next)) : PS X (.AugAssign (.Subscript o i pos') .Add e pos) (tZS Γ W (fAugK fo fi fv)) := by
  refine PS.imp (ps_daug (by have := c.hu; omega) ho hi hv in_add ha) fun D σ H t => ?_
  obtain ⟨G, ρ, μ, R, p⟩ := t
  refine ⟨G, ρ, μ, R, Post.bindS p fun x w μ2 G2 H2 s2 R2 r2 p2 => ⟨G2, ρ, μ2, R2, Post.bindS p2 fun y z μ3 G3 H3 s3 R3 r3 p3 => ?_⟩⟩
  simp only at p3
  split at p3
  · rename_i aa eg
    obtain ⟨a, r, ex, g, g1, g2⟩ := dGet_ok R3.toRepM (VRel.mono s3 r2) r3 eg
    obtain ⟨u, hu, hd⟩ := g1 _ rfl
    subst hu
    refine ⟨a, u, ex, g, G3, ρ, μ3, R3, Post.bindS p3 fun b v μ4 G4 H4 s4 R4 r4 p4 => ?_⟩
    simp only at p4
    split at p4
    · rename_i bb
      cases ep : putD ρ.n0 μ4 w z (.d (.int (aa + bb))) with
      | none => simp only [ep] at p4; exact p4.elim
      | some μ' =>
        simp only [ep] at p4
        obtain ⟨a', H', ex', hp, st, R5⟩ := putD_ok (u := .int (aa + bb)) R4 (VRel.mono s4 (VRel.mono s3 r2)) (VRel.mono s4 r3) (by show Is Γ _ _ _; unfold Is; rfl) ep
        have e2 : a' = a := by rw [ex] at ex'; cases ex'; rfl
        subst e2
        exact ⟨aa, bb, VRel.int_ hd, r4.int_, H', hp, PostS.nx (W := W) R5 (PostS.step st p4)⟩
    · exact p4.elim
  · exact p3.elim

/-! ### name += e (ints, texts) -/
def fAug (i : Nat) (fv : FE) : FS := fun ρ μ => match ρ.s[i]? with
  | some (some v) => (fv ρ μ).bind fun p => (match v, p.1 with
    | .d (.int a), .d (.int b) => .ok (.nx, ρ.set i (.d (.int (a + b))), p.2)
    | _, _ => .bad)
  | _ => .bad
theorem zs_aug (c : Cz Γ W X lv) {i : Nat} {x : Str} {e : Expr} {fv : FE} {pos pos' : Pos} (hi : X.N[i]? = some x) (hx : Loc X.env.scope x) (he : PE X e (tZ Γ W fv)) (hf : X.fn x = true ∨ X.env.scope.names.lookup x = some .local) :
    PS X (.AugAssign (.Name x pos') .Add e pos) (tZS Γ W (fAug i fv)) := by
  refine PS.imp (ps_aug c.nd hi hx he ip_add hf) fun D σ H t => ?_
  obtain ⟨G, ρ, μ, R, p⟩ := t
  unfold fAug at p
  cases e1 : ρ.s[i]? with
  | none => simp only [e1] at p; exact p.elim
  | some o =>
    cases o with
    | none => simp only [e1] at p; exact p.elim
    | some v =>
      simp only [e1] at p
      obtain ⟨u, hu, r⟩ := R.slots i v e1
      refine ⟨u, hu, G, ρ, μ, R, Post.bindS p fun y w μ2 G2 H2 s2 R2 r2 p2 => ?_⟩
      simp only at p2
      split at p2
      · exact ⟨_, _, r.int_, r2.int_, PostS.nx (W := W) (R2.set (by show Is Γ _ _ _; unfold Is; rfl)) p2⟩
      · exact p2.elim
end
end Zl
set_option Elab.async false
set_option linter.all false
set_option maxRecDepth 100000
set_option maxHeartbeats 4000000
namespace Zl
open PySem PySem.Spec L2
open PyProof.Rows hiding St

/-! ## calls of built-in functions -/
def CB (Γ : Gm) (W : WX) (r : List V → Hp → VK → Prop) (o : List Val → Mu → R (Val × Mu)) : Prop := ∀ (G : Gh) (ρ : Rho) (μ : Mu) (σ : St) (H : Hp) (Q : VK) (us : List V) (vs : List Val), Rep Γ G ρ μ σ H → VRelL Γ G us vs → Post Γ W G ρ σ H Q (o vs μ) → r us H Q
def fCB (o : List Val → Mu → R (Val × Mu)) (g : FA) : FE := fun ρ μ => (g ρ μ).bind fun p => o p.1 p.2
section
variable {Γ : Gm} {W : WX} {X : Cx} {lv : Nat} {r r' : List V → Hp → VK → Prop} {o : List Val → Mu → R (Val × Mu)} {g : FA} {x : Str} {p pos : Pos} {e : Expr} {es : List Expr} {fid T : String}
theorem tZ_cb (h : CB Γ W r o) (σ : St) (H : Hp) (Q : VK) (t : tZ Γ W (fCB o g) σ H Q) : tCB r (tZA Γ W g) σ H Q := by
  obtain ⟨G, ρ, μ, R, p⟩ := t
  exact ⟨G, ρ, μ, R, PostA.bind p fun us vs μ1 G1 H1 s1 R1 r1 p1 => h G1 ρ μ1 σ H1 Q us vs R1 r1 p1⟩
theorem ze_blt (hc : CallR X (.builtin fid) r) (h : CB Γ W r o) (hg : Gl X x) (hm : X.mg x = none) (hv : bootBuiltins x = some (.builtin fid)) (ha : PA X (e :: es) (tZA Γ W g)) (hn : x ≠ "__name__") (hdb : (x == ("__debug__" : Str)) = false)
    (he : starEach (e :: es) X.env = (false, eval e X.env) :: starEach es X.env) (hpl : (backTo pos (starEach es X.env)).any (·.1) = false) : PE X (.Call (.Name x p) (e :: es) [] pos) (tZ Γ W (fCB o g)) :=
  PE.imp (pe_callB hc hg hm hv ha hn hdb he hpl) (tZ_cb h)
theorem ze_bty (hc : CallR X (.type T) r) (h : CB Γ W r o) (hg : Gl X x) (hm : X.mg x = none) (hv : bootBuiltins x = some (.type T)) (ha : PA X (e :: es) (tZA Γ W g)) (hn : x ≠ "__name__") (hdb : (x == ("__debug__" : Str)) = false)
    (he : starEach (e :: es) X.env = (false, eval e X.env) :: starEach es X.env) (hpl : (backTo pos (starEach es X.env)).any (·.1) = false) : PE X (.Call (.Name x p) (e :: es) [] pos) (tZ Γ W (fCB o g)) :=
  PE.imp (pe_callTy hc hg hm hv ha hn hdb he hpl) (tZ_cb h)

/-! ### len -/
def lenD : D → Option Nat
  | .str z => if z.length ≤ sizeLine then some z.length else none
  | .tup ds => some ds.length
  | .kt ds => some ds.length
  | .lst ds => some ds.length
  | .scr ns => some ns.length
  | .dK ks _ => some ks.length
  | .dT ks _ => some ks.length
  | _ => none
def lenV (μ : Mu) : Val → Option Nat
  | .d x => lenD x
  | .own k => (match μ[k]? with
    | some (.lst vs) => some vs.length
    | some (.dK ks _) => some ks.length
    | some (.dT ks _) => some ks.length
    | _ => none)
def oLen : List Val → Mu → R (Val × Mu)
  | [v], μ => (match lenV μ v with
    | some n => .ok (.d (.int (n : Int)), μ)
    | none => .bad)
  | _, _ => .bad
abbrev rLenA (K : PySem.W.Frag) : List V → Hp → VK → Prop := fun xs H Q => (∃ x n, xs = [x] ∧ LenV K x H n ∧ Q (.int n) H) ∨ ((∃ a kvs, xs = [V.ref a] ∧ H a = some (.dK kvs) ∧ Q (.int kvs.length) H) ∨ rLenT xs H Q)
theorem call_lenA : CallR X (.builtin "len") (rLenA X.K) := call_len.or (call_lenD.or call_len_dT)
theorem oLen_ok : CB Γ W (rLenA Γ.K) oLen := by
  intro G ρ μ σ H Q us vs R r p
  unfold oLen at p
  split at p
  · rename_i v
    cases r with
    | cons h t =>
      cases t
      cases e : lenV μ v with
      | none => simp only [e] at p; exact p.elim
      | some n =>
        simp only [e] at p
        have q := Post.int R p
        cases v with
        | own k =>
          obtain ⟨a, ha, ea⟩ := h
          subst ea
          unfold lenV at e
          cases z : μ[k]? with
          | none => simp only [z] at e; cases e
          | some c =>
            simp only [z] at e
            cases c with
            | lst ws =>
              cases e
              obtain ⟨_, us, h, l⟩ := R.cells k a _ ha z
              exact .inl ⟨_, us.length, rfl, Or.inl ⟨us, SqL.of h, rfl⟩, by rw [Paired.length l]; exact q⟩
            | dK ks ws =>
              cases e
              obtain ⟨_, kus, h, l, _⟩ := R.cells k a _ ha z
              refine .inr (.inl ⟨a, kus, rfl, h, ?_⟩)
              have el : kus.length = ks.length := by rw [← l, List.length_map]
              rw [el]; exact q
            | dT ks ws =>
              cases e
              obtain ⟨_, kus, h, l, _⟩ := R.cells k a _ ha z
              refine .inr (.inr ⟨a, kus, rfl, h, ?_⟩)
              have el : kus.length = ks.length := by rw [← l, List.length_map]
              rw [el]; exact q
            | _ => cases e
        | d x =>
          have e : lenD x = some n := e
          cases x with
          | str z =>
            have e : (if z.length ≤ sizeLine then some z.length else none) = some n := e
            split at e
            · rename_i hz
              cases e
              exact .inl ⟨V.str z, _, by rw [h.str_], ⟨hz, rfl⟩, q⟩
            · cases e
          | tup ds =>
            cases e
            obtain ⟨a, us, ea, h1, h2⟩ := VRel.tup_ R.toRepM h
            exact .inl ⟨V.ref a, _, by rw [ea], Or.inr ⟨us, h1, h2.length.symm⟩, q⟩
          | kt ds =>
            cases e
            obtain ⟨a, us, ea, h1, h2⟩ := VRel.kt_ R.toRepM h
            exact .inl ⟨V.ref a, _, by rw [ea], Or.inr ⟨us, h1, h2.length.symm⟩, q⟩
          | lst ds =>
            cases e
            obtain ⟨a, us, ea, h1, h2⟩ := VRel.lst_ R.toRepM h
            exact .inl ⟨V.ref a, _, by rw [ea], Or.inl ⟨us, SqL.of h1, h2.length.symm⟩, q⟩
          | scr ns =>
            cases e
            have r : Is Γ G.F _ _ := h
            unfold Is at r
            obtain ⟨a, ea, h1⟩ := r
            exact .inl ⟨V.ref a, _, by rw [ea], Or.inl ⟨_, R.sub.seq h1, by rw [List.length_map]⟩, q⟩
          | dK ks ds =>
            cases e
            have r : Is Γ G.F _ _ := h
            unfold Is at r
            obtain ⟨a, kvs, ea, h1, h2, h3⟩ := r
            refine .inr (.inl ⟨a, kvs, by rw [ea], R.sub _ _ h1, ?_⟩)
            have el : kvs.length = ks.length := by rw [← h2, List.length_map]
            rw [el]; exact q
          | dT ks ds =>
            cases e
            have r : Is Γ G.F _ _ := h
            unfold Is at r
            obtain ⟨a, kvs, ea, h1, h2, h3⟩ := r
            refine .inr (.inr ⟨a, kvs, by rw [ea], R.sub _ _ h1, ?_⟩)
            have el : kvs.length = ks.length := by rw [← h2, List.length_map]
            rw [el]; exact q
          | _ => cases e
  · exact p.elim

/-! ### abs, int, bool, str, max, min, sum, any, all -/
def oAbs : List Val → Mu → R (Val × Mu)
  | [.d (.int i)], μ => .ok (.d (.int (if i < 0 then -i else i)), μ)
  | _, _ => .bad
theorem oAbs_ok : CB Γ W (fun xs H Q => ∃ i, xs = [.int i] ∧ Q (.int (if i < 0 then -i else i)) H) oAbs := by
  intro G ρ μ σ H Q us vs R r p
  unfold oAbs at p
  split at p
  · cases r with
    | cons h t => cases t; exact ⟨_, by rw [h.int_], Post.int R p⟩
  · exact p.elim
def oInt1 : List Val → Mu → R (Val × Mu)
  | [.d (.int i)], μ => .ok (.d (.int i), μ)
  | [.d (.bl k)], μ => .ok (.d (.int (if k then 1 else 0)), μ)
  | _, _ => .bad
theorem oInt1_ok : CB Γ W (fun xs H Q => (∃ i, xs = [.int i] ∧ Q (.int i) H) ∨ ∃ k, xs = [.bl k] ∧ Q (.int (if k then 1 else 0)) H) oInt1 := by
  intro G ρ μ σ H Q us vs R r p
  unfold oInt1 at p
  split at p
  · cases r with
    | cons h t => cases t; exact .inl ⟨_, by rw [h.int_], Post.int R p⟩
  · cases r with
    | cons h t => cases t; exact .inr ⟨_, by rw [h.bl_], Post.int R p⟩
  · exact p.elim
def oStr1 : List Val → Mu → R (Val × Mu)
  | [.d (.int i)], μ => if i.natAbs.log2 < 1920 then .ok (.d (.str (toString i)), μ) else .bad
  | [.d (.str a)], μ => .ok (.d (.str a), μ)
  | _, _ => .bad
theorem oStr1_ok : CB Γ W (fun xs H Q => (∃ i, xs = [.int i] ∧ i.natAbs.log2 < 1920 ∧ Q (.str (toString i)) H) ∨ ∃ a, xs = [.str a] ∧ Q (.str a) H) oStr1 := by
  intro G ρ μ σ H Q us vs R r p
  unfold oStr1 at p
  split at p
  · split at p
    · rename_i hz
      cases r with
      | cons h t => cases t; exact .inl ⟨_, by rw [h.int_], hz, Post.str R p⟩
    · exact p.elim
  · cases r with
    | cons h t => cases t; exact .inr ⟨_, by rw [h.str_], Post.str R p⟩
  · exact p.elim
/-- the ints of a row of data -/
def intsD : List D → Option (List Int)
  | [] => some []
  | .int i :: r => (intsD r).map (i :: ·)
  | _ :: _ => none
theorem intsD_ok {F : Hp} : ∀ {ds : List D} {ns : List Int} {us : List V}, IsL Γ F us ds → intsD ds = some ns → us = ns.map V.int
  | [], ns, us, h, e => by cases e; rw [h.inv0]; rfl
  | d :: r, ns, us, h, e => by
    obtain ⟨v, w, rfl, h1, h2⟩ := h.inv
    cases d with
    | int i =>
      have e : (intsD r).map (i :: ·) = some ns := e
      cases z : intsD r with
      | none => rw [z] at e; cases e
      | some js =>
        rw [z] at e
        cases e
        unfold Is at h1
        rw [h1, intsD_ok h2 z]; rfl
    | _ => cases e
theorem intsD_eq : ∀ {ds : List D} {ns : List Int}, intsD ds = some ns → ds = ns.map D.int
  | [], _, e => by cases e; rfl
  | d :: r, ns, e => by
    cases d with
    | int i =>
      have e : (intsD r).map (i :: ·) = some ns := e
      cases z : intsD r with
      | none => rw [z] at e; cases e
      | some js => rw [z] at e; cases e; rw [intsD_eq z]; rfl
    | _ => cases e
theorem intsD_map : ∀ (ns : List Int), intsD (ns.map D.int) = some ns
  | [] => rfl
  | n :: ns => by show (intsD (ns.map D.int)).map (n :: ·) = _; rw [intsD_map ns]; rfl
def blsD : List D → Option (List Bool)
  | [] => some []
  | .bl i :: r => (blsD r).map (i :: ·)
  | _ :: _ => none
theorem blsD_ok {F : Hp} : ∀ {ds : List D} {ns : List Bool} {us : List V}, IsL Γ F us ds → blsD ds = some ns → us = ns.map V.bl
  | [], ns, us, h, e => by cases e; rw [h.inv0]; rfl
  | d :: r, ns, us, h, e => by
    obtain ⟨v, w, rfl, h1, h2⟩ := h.inv
    cases d with
    | bl i =>
      have e : (blsD r).map (i :: ·) = some ns := e
      cases z : blsD r with
      | none => rw [z] at e; cases e
      | some js =>
        rw [z] at e
        cases e
        unfold Is at h1
        rw [h1, blsD_ok h2 z]; rfl
    | _ => cases e
theorem blsD_map : ∀ (ns : List Bool), blsD (ns.map D.bl) = some ns
  | [] => rfl
  | n :: ns => by show (blsD (ns.map D.bl)).map (n :: ·) = _; rw [blsD_map ns]; rfl
def strsD : List D → Option (List Str)
  | [] => some []
  | .str i :: r => (strsD r).map (i :: ·)
  | _ :: _ => none
theorem strsD_ok {F : Hp} : ∀ {ds : List D} {ns : List Str} {us : List V}, IsL Γ F us ds → strsD ds = some ns → us = ns.map V.str
  | [], ns, us, h, e => by cases e; rw [h.inv0]; rfl
  | d :: r, ns, us, h, e => by
    obtain ⟨v, w, rfl, h1, h2⟩ := h.inv
    cases d with
    | str i =>
      have e : (strsD r).map (i :: ·) = some ns := e
      cases z : strsD r with
      | none => rw [z] at e; cases e
      | some js =>
        rw [z] at e
        cases e
        unfold Is at h1
        rw [h1, strsD_ok h2 z]; rfl
    | _ => cases e
theorem strsD_map : ∀ (ns : List Str), strsD (ns.map D.str) = some ns
  | [] => rfl
  | n :: ns => by show (strsD (ns.map D.str)).map (n :: ·) = _; rw [strsD_map ns]; rfl
theorem strsD_eq : ∀ {ds : List D} {ns : List Str}, strsD ds = some ns → ds = ns.map D.str
  | [], _, e => by cases e; rfl
  | d :: r, ns, e => by
    cases d with
    | str i =>
      have e : (strsD r).map (i :: ·) = some ns := e
      cases z : strsD r with
      | none => rw [z] at e; cases e
      | some js => rw [z] at e; cases e; rw [strsD_eq z]; rfl
    | _ => cases e
def maxI : List Int → Int
  | [] => 0
  | [i] => i
  | i :: r => max i (maxI r)
def minI : List Int → Int
  | [] => 0
  | [i] => i
  | i :: r => min i (minI r)
theorem maxI_mem : ∀ {ns : List Int}, ns ≠ [] → maxI ns ∈ ns
  | [], h => absurd rfl h
  | [i], _ => by simp [maxI]
  | i :: j :: r, _ => by
    have ih := maxI_mem (ns := j :: r) (by simp)
    show max i (maxI (j :: r)) ∈ _
    rcases Int.le_total i (maxI (j :: r)) with h | h
    · rw [Int.max_eq_right h]; exact List.mem_cons_of_mem _ ih
    · rw [Int.max_eq_left h]; exact List.mem_cons_self
theorem maxI_le : ∀ {ns : List Int} {y : Int}, y ∈ ns → y ≤ maxI ns
  | [], _, h => by cases h
  | [i], y, h => by rw [List.mem_singleton.mp h]; exact Int.le_refl _
  | i :: j :: r, y, h => by
    show y ≤ max i (maxI (j :: r))
    rcases List.mem_cons.mp h with e | e
    · subst e; exact Int.le_max_left _ _
    · exact Int.le_trans (maxI_le e) (Int.le_max_right _ _)
theorem minI_mem : ∀ {ns : List Int}, ns ≠ [] → minI ns ∈ ns
  | [], h => absurd rfl h
  | [i], _ => by simp [minI]
  | i :: j :: r, _ => by
    have ih := minI_mem (ns := j :: r) (by simp)
    show min i (minI (j :: r)) ∈ _
    rcases Int.le_total i (minI (j :: r)) with h | h
    · rw [Int.min_eq_left h]; exact List.mem_cons_self
    · rw [Int.min_eq_right h]; exact List.mem_cons_of_mem _ ih
theorem minI_le : ∀ {ns : List Int} {y : Int}, y ∈ ns → minI ns ≤ y
  | [], _, h => by cases h
  | [i], y, h => by rw [List.mem_singleton.mp h]; exact Int.le_refl _
  | i :: j :: r, y, h => by
    show min i (minI (j :: r)) ≤ y
    rcases List.mem_cons.mp h with e | e
    · subst e; exact Int.min_le_left _ _
    · exact Int.le_trans (Int.min_le_right _ _) (minI_le e)
def oMax : List Val → Mu → R (Val × Mu)
  | [.d (.int i), .d (.int j)], μ => .ok (.d (.int (if j > i then j else i)), μ)
  | [v], μ => (match (lstV μ v).bind intsD with
    | some (n :: ns) => .ok (.d (.int (maxI (n :: ns))), μ)
    | _ => .bad)
  | _, _ => .bad
def oMin : List Val → Mu → R (Val × Mu)
  | [.d (.int i), .d (.int j)], μ => .ok (.d (.int (if j < i then j else i)), μ)
  | [v], μ => (match (lstV μ v).bind intsD with
    | some (n :: ns) => .ok (.d (.int (minI (n :: ns))), μ)
    | _ => .bad)
  | _, _ => .bad
theorem lstV_ints {G : Gh} {μ : Mu} {H : Hp} {u : V} {v : Val} {ns : List Int} (R : RepM Γ G μ H) (r : VRel Γ G u v) (e : (lstV μ v).bind intsD = some ns) : ∃ a, u = .ref a ∧ SqL Γ.K H a (ns.map V.int) := by
  cases q : lstV μ v with
  | none => rw [q] at e; cases e
  | some ds =>
    rw [q] at e
    obtain ⟨a, us, h1, h2, h3⟩ := lstV_ok R r q
    exact ⟨a, h1, by rw [← intsD_ok h3 e]; exact SqL.of h2⟩
theorem lstV_bls {G : Gh} {μ : Mu} {H : Hp} {u : V} {v : Val} {ns : List Bool} (R : RepM Γ G μ H) (r : VRel Γ G u v) (e : (lstV μ v).bind blsD = some ns) : ∃ a, u = .ref a ∧ SqL Γ.K H a (ns.map V.bl) := by
  cases q : lstV μ v with
  | none => rw [q] at e; cases e
  | some ds =>
    rw [q] at e
    obtain ⟨a, us, h1, h2, h3⟩ := lstV_ok R r q
    exact ⟨a, h1, by rw [← blsD_ok h3 e]; exact SqL.of h2⟩
theorem oMax_ok : CB Γ W (fun xs H Q => (∃ i j, xs = [.int i, .int j] ∧ Q (.int (if j > i then j else i)) H) ∨ rMax Γ.K xs H Q) oMax := by
  intro G ρ μ σ H Q us vs R r p
  unfold oMax at p
  split at p
  · cases r with
    | cons h t =>
      cases t with
      | cons h2 t => cases t; exact .inl ⟨_, _, by rw [h.int_, h2.int_], Post.int R p⟩
  · cases r with
    | cons h t =>
      cases t
      split at p
      · rename_i n ns e
        obtain ⟨a, ea, hs⟩ := lstV_ints R.toRepM h e
        refine .inr ⟨a, _, by rw [ea], hs, Nat.succ_pos _, fun m hm hle => ?_⟩
        have em : m = maxI (n :: ns) := Int.le_antisymm (maxI_le hm) (hle _ (maxI_mem (by simp)))
        rw [em]
        exact Post.int R p
      · exact p.elim
  · exact p.elim
theorem oMin_ok : CB Γ W (fun xs H Q => (∃ i j, xs = [.int i, .int j] ∧ Q (.int (if j < i then j else i)) H) ∨ rMin Γ.K xs H Q) oMin := by
  intro G ρ μ σ H Q us vs R r p
  unfold oMin at p
  split at p
  · cases r with
    | cons h t =>
      cases t with
      | cons h2 t => cases t; exact .inl ⟨_, _, by rw [h.int_, h2.int_], Post.int R p⟩
  · cases r with
    | cons h t =>
      cases t
      split at p
      · rename_i n ns e
        obtain ⟨a, ea, hs⟩ := lstV_ints R.toRepM h e
        refine .inr ⟨a, _, by rw [ea], hs, Nat.succ_pos _, fun m hm hle => ?_⟩
        have em : m = minI (n :: ns) := Int.le_antisymm (hle _ (minI_mem (by simp))) (minI_le hm)
        rw [em]
        exact Post.int R p
      · exact p.elim
  · exact p.elim
def oSum : List Val → Mu → R (Val × Mu)
  | [v], μ => (match (lstV μ v).bind intsD with
    | some ns => .ok (.d (.int ns.sum), μ)
    | _ => .bad)
  | _, _ => .bad
theorem oSum_ok : CB Γ W (rSum Γ.K) oSum := by
  intro G ρ μ σ H Q us vs R r p
  unfold oSum at p
  split at p
  · cases r with
    | cons h t =>
      cases t
      split at p
      · rename_i ns e
        obtain ⟨a, ea, hs⟩ := lstV_ints R.toRepM h e
        exact ⟨a, _, by rw [ea], hs, Post.int R p⟩
      · exact p.elim
  · exact p.elim
def oAny : List Val → Mu → R (Val × Mu)
  | [v], μ => (match (lstV μ v).bind blsD with
    | some bs => .ok (.d (.bl (bs.any id)), μ)
    | _ => .bad)
  | _, _ => .bad
def oAll : List Val → Mu → R (Val × Mu)
  | [v], μ => (match (lstV μ v).bind blsD with
    | some bs => .ok (.d (.bl (bs.all id)), μ)
    | _ => .bad)
  | _, _ => .bad
theorem oAny_ok : CB Γ W (rAny Γ.K) oAny := by
  intro G ρ μ σ H Q us vs R r p
  unfold oAny at p
  split at p
  · cases r with
    | cons h t =>
      cases t
      split at p
      · rename_i bs e
        obtain ⟨a, ea, hs⟩ := lstV_bls R.toRepM h e
        exact ⟨a, _, by rw [ea], hs, Post.bl R p⟩
      · exact p.elim
  · exact p.elim
theorem oAll_ok : CB Γ W (rAll Γ.K) oAll := by
  intro G ρ μ σ H Q us vs R r p
  unfold oAll at p
  split at p
  · cases r with
    | cons h t =>
      cases t
      split at p
      · rename_i bs e
        obtain ⟨a, ea, hs⟩ := lstV_bls R.toRepM h e
        exact ⟨a, _, by rw [ea], hs, Post.bl R p⟩
      · exact p.elim
  · exact p.elim

/-! ### tuple(), list() -/
def keyD1 : Key → D
  | .inl i => .int i
  | .inr x => .str x
theorem keyD1_is {F : Hp} (k : Key) : Is Γ F (kV k) (keyD1 k) := by cases k <;> (unfold keyD1 Is; rfl)
theorem keysD1_is {F : Hp} : ∀ (ks : List Key), IsL Γ F (ks.map kV) (ks.map keyD1)
  | [] => IsL.nil
  | k :: ks => IsL.cons (keyD1_is k) (keysD1_is ks)
theorem ints_is {F : Hp} : ∀ (ns : List Int), IsL Γ F (ns.map V.int) (ns.map D.int)
  | [] => IsL.nil
  | n :: ns => IsL.cons (by unfold Is; rfl) (ints_is ns)
theorem strs_is {F : Hp} : ∀ (ns : List Str), IsL Γ F (ns.map V.str) (ns.map D.str)
  | [] => IsL.nil
  | n :: ns => IsL.cons (by unfold Is; rfl) (strs_is ns)
/-- the items of a list, a tuple, the script -/
def rowV (μ : Mu) : Val → Option (List D)
  | .d (.scr ns) => some (ns.map D.int)
  | v => seqV μ v
theorem rowV_ok {G : Gh} {μ : Mu} {H : Hp} {u : V} (R : RepM Γ G μ H) {v : Val} {ds : List D} (r : VRel Γ G u v) (e : rowV μ v = some ds) : ∃ a us, u = .ref a ∧ (SqL Γ.K H a us ∨ SqT Γ.K H a us) ∧ IsL Γ G.F us ds := by
  unfold rowV at e
  split at e
  · cases e
    have r : Is Γ G.F _ _ := r
    unfold Is at r
    obtain ⟨a, ea, h1⟩ := r
    exact ⟨a, _, ea, .inl (R.sub.seq h1), ints_is _⟩
  · exact seqV_ok R r e
def oTuple : List Val → Mu → R (Val × Mu)
  | [.d (.tup ds)], μ => .ok (.d (.tup ds), μ)
  | [.d (.kt ds)], μ => .ok (.d (.kt ds), μ)
  | [v], μ => (match lstV μ v with
    | some ds => .ok (.d (.tup ds), μ)
    | none => .bad)
  | _, _ => .bad
theorem oTuple_ok : CB Γ W (fun xs H Q => ∃ p ys, xs = [V.ref p] ∧ ((SqL Γ.K H p ys ∧ ∀ l, H l = none → Q (V.ref l) (upd H l (HO.tup ys))) ∨ SqT Γ.K H p ys ∧ Q (V.ref p) H)) oTuple := by
  intro G ρ μ σ H Q us vs R r p
  unfold oTuple at p
  split at p
  · cases r with
    | cons h t =>
      cases t
      obtain ⟨a, us, ea, h1, h2⟩ := VRel.tup_ R.toRepM h
      exact ⟨a, us, by rw [ea], .inr ⟨h1, Post.here R p (by rw [← ea]; exact h)⟩⟩
  · cases r with
    | cons h t =>
      cases t
      obtain ⟨a, us, ea, h1, h2⟩ := VRel.kt_ R.toRepM h
      exact ⟨a, us, by rw [ea], .inr ⟨h1, Post.here R p (by rw [← ea]; exact h)⟩⟩
  · cases r with
    | cons h t =>
      cases t
      split at p
      · rename_i ds e
        obtain ⟨a, us, h1, h2, h3⟩ := lstV_ok R.toRepM h e
        exact ⟨a, us, by rw [h1], .inl ⟨SqL.of h2, Post.tup R p h3⟩⟩
      · exact p.elim
  · exact p.elim
/-- list(x): frozen, or live -/
def oList : List Val → Mu → R (Val × Mu)
  | [v], μ => (match rowV μ v with
    | some ds => .ok (.d (.lst ds), μ)
    | none => (match dKV μ v with
      | some (ks, _) => .ok (.d (.lst (ks.map keyD1)), μ)
      | none => .bad))
  | _, _ => .bad
def oListL : List Val → Mu → R (Val × Mu)
  | [v], μ => (match rowV μ v with
    | some ds => .ok (.own μ.length, μ ++ [.lst (ds.map Val.d)])
    | none => .bad)
  | _, _ => .bad
abbrev rListA (K : PySem.W.Frag) : List V → Hp → VK → Prop := fun xs H Q => (∃ p ys, xs = [V.ref p] ∧ (SqL K H p ys ∨ SqT K H p ys) ∧ ∀ (l : Addr), H l = none → Q (V.ref l) (upd H l (HO.lst ys))) ∨
  ∃ a kvs, xs = [V.ref a] ∧ Rd H a (HO.dK kvs) ∧ ∀ (p : Addr), H p = none → Q (V.ref p) (upd H p (HO.lst (List.map (fun kv => kV kv.fst) kvs)))
theorem call_listA (hc : X.calm = true) : CallR X (.type "list") (rListA X.K) := call_list_of.or (call_listD hc)
theorem oList_ok : CB Γ W (rListA Γ.K) oList := by
  intro G ρ μ σ H Q us vs R r p
  unfold oList at p
  split at p
  · cases r with
    | cons h t =>
      cases t
      split at p
      · rename_i ds e
        obtain ⟨a, us, h1, h2, h3⟩ := rowV_ok R.toRepM h e
        exact .inl ⟨a, us, by rw [h1], h2, Post.lst R p h3⟩
      · split at p
        · rename_i ks ws e
          obtain ⟨a, kus, h1, h2, h3, h4⟩ := dKV_ok R.toRepM h e
          refine .inr ⟨a, kus, by rw [h1], Rd.of h2, ?_⟩
          have ek : (kus.map fun kv => kV kv.1) = ks.map kV := by rw [← h3, List.map_map]; rfl
          rw [ek]
          exact Post.lst R p (keysD1_is ks)
        · exact p.elim
  · exact p.elim
theorem oListL_ok : CB Γ W (rListA Γ.K) oListL := by
  intro G ρ μ σ H Q us vs R r p
  unfold oListL at p
  split at p
  · cases r with
    | cons h t =>
      cases t
      split at p
      · rename_i ds e
        obtain ⟨a, us, h1, h2, h3⟩ := rowV_ok R.toRepM h e
        exact .inl ⟨a, us, by rw [h1], h2, Post.lstL R p (relOf h3)⟩
      · exact p.elim
  · exact p.elim
end
end Zl
set_option Elab.async false
set_option linter.all false
set_option maxRecDepth 100000
set_option maxHeartbeats 4000000
namespace Zl
open PySem PySem.Spec L2
open PyProof.Rows hiding St

/-! ## methods of built-in types -/
def MB (Γ : Gm) (W : WX) (r : V → List V → Hp → VK → Prop) (o : Nat → Val → List Val → Mu → R (Val × Mu)) : Prop := ∀ (G : Gh) (ρ : Rho) (μ : Mu) (σ : St) (H : Hp) (Q : VK) (u : V) (v : Val) (us : List V) (vs : List Val), Rep Γ G ρ μ σ H → VRel Γ G u v → VRelL Γ G us vs → Post Γ W G ρ σ H Q (o ρ.n0 v vs μ) → r u us H Q
def tyB (T : String) (μ : Mu) : Val → Bool
  | .d (.str _) => T == "str"
  | .d (.lst _) => T == "list"
  | .d (.dK _ _) => T == "dict"
  | .d (.dT _ _) => T == "dict"
  | .own k => (match μ[k]? with
    | some (.lst _) => T == "list"
    | some (.dK _ _) => T == "dict"
    | some (.dT _ _) => T == "dict"
    | _ => false)
  | _ => false
def fBM (T : String) (o : Nat → Val → List Val → Mu → R (Val × Mu)) (f : FE) (g : FA) : FE := fun ρ μ => (f ρ μ).bind fun p => if tyB T p.2 p.1 = true then (g ρ p.2).bind fun q => o ρ.n0 p.1 q.1 q.2 else .bad
section
variable {Γ : Gm} {W : WX} {X : Cx} {lv : Nat} {r r' : V → List V → Hp → VK → Prop} {o : Nat → Val → List Val → Mu → R (Val × Mu)} {f : FE} {g : FA} {name : Str} {apos pos : Pos} {b e : Expr} {es : List Expr} {fid T : String}
theorem tyB_ok {G : Gh} {μ : Mu} {H : Hp} {u : V} {v : Val} (R : RepM Γ G μ H) (r : VRel Γ G u v) (e : tyB T μ v = true) : tyV Γ.K T u H := by
  cases v with
  | d x =>
    cases x with
    | str z => rw [r.str_]; exact eq_of_beq (show (T == "str") = true from e)
    | lst ds =>
      obtain ⟨a, us, ea, h1, h2⟩ := VRel.lst_ R r
      rw [ea]; exact .inl ⟨eq_of_beq (show (T == "list") = true from e), us, SqL.of h1⟩
    | dK ks ds =>
      have r : Is Γ G.F u _ := r
      unfold Is at r
      obtain ⟨a, kvs, ea, h1, h2, h3⟩ := r
      rw [ea]; exact .inr (.inr (.inl ⟨eq_of_beq (show (T == "dict") = true from e), .inl ⟨kvs, R.sub _ _ h1⟩⟩))
    | dT ks ds =>
      have r : Is Γ G.F u _ := r
      unfold Is at r
      obtain ⟨a, kvs, ea, h1, h2, h3⟩ := r
      rw [ea]; exact .inr (.inr (.inl ⟨eq_of_beq (show (T == "dict") = true from e), .inr ⟨kvs, R.sub _ _ h1⟩⟩))
    | _ => cases e
  | own k =>
    obtain ⟨a, ha, ea⟩ := r
    subst ea
    unfold tyB at e
    cases z : μ[k]? with
    | none => simp only [z] at e; cases e
    | some c =>
      simp only [z] at e
      cases c with
      | lst ws =>
        obtain ⟨_, us, h, l⟩ := R.cells k a _ ha z
        exact .inl ⟨eq_of_beq (show (T == "list") = true from e), us, SqL.of h⟩
      | dK ks ws =>
        obtain ⟨_, kus, h, l, _⟩ := R.cells k a _ ha z
        exact .inr (.inr (.inl ⟨eq_of_beq (show (T == "dict") = true from e), .inl ⟨kus, h⟩⟩))
      | dT ks ws =>
        obtain ⟨_, kus, h, l, _⟩ := R.cells k a _ ha z
        exact .inr (.inr (.inl ⟨eq_of_beq (show (T == "dict") = true from e), .inr ⟨kus, h⟩⟩))
      | _ => cases e
theorem ze_bm (pa : PlainAttrs T) (slot : Slot T name fid) (hty : typeOf (.builtin fid) = pure (.type "method_descriptor")) (c : Cz Γ W X lv) (hm : MtR X fid r) (h : MB Γ W r o) (ho : PE X b (tZ Γ W f)) (ha : PA X (e :: es) (tZA Γ W g))
    (h1 : attributeBase b name X.env (eval b X.env) = eval b X.env)
    (h2 : (((List.all (backTo pos (starEach (e :: es) X.env)) fun x => !x.fst) && List.all (backToKw pos (keywordEach [] X.env)) fun x => Option.isSome x.fst) && decide ((List.length (e :: es) + List.length ([] : List Keyword) + if List.isEmpty ([] : List Keyword) = true then 0 else 1) < 30)) = true)
    (h3 : (apos.endLine == pos.line) = true) (h4 : starEach (e :: es) X.env = (false, eval e X.env) :: starEach es X.env) (h5 : (List.any (backTo pos (starEach es X.env)) fun x => x.fst) = false) :
    PE X (.Call (.Attribute b name apos) (e :: es) [] pos) (tZ Γ W (fBM T o f g)) := by
  refine PE.imp (pe_bm pa slot hty hm ho ha h1 h2 h3 h4 h5) fun σ H Q t => ?_
  obtain ⟨G, ρ, μ, R, p⟩ := t
  refine ⟨G, ρ, μ, R, Post.bind p fun u v μ1 G1 H1 s1 R1 r1 p1 => ?_⟩
  simp only at p1
  split at p1
  · rename_i ht
    exact ⟨by rw [c.K]; exact tyB_ok R1.toRepM r1 ht, G1, ρ, μ1, R1, PostA.bind p1 fun us vs μ2 G2 H2 s2 R2 r2 p2 => h G2 ρ μ2 σ H2 Q u v us vs R2 (VRel.mono s2 r1) r2 p2⟩
  · exact p1.elim
theorem ze_bm0 (pa : PlainAttrs T) (slot : Slot T name fid) (hty : typeOf (.builtin fid) = pure (.type "method_descriptor")) (c : Cz Γ W X lv) (hm : MtR X fid r) (h : MB Γ W r o) (ho : PE X b (tZ Γ W f))
    (h1 : attributeBase b name X.env (eval b X.env) = eval b X.env) (h3 : (apos.endLine == pos.line) = true) :
    PE X (.Call (.Attribute b name apos) [] [] pos) (tZ Γ W (fBM T o f fANil)) := by
  refine PE.imp (pe_bm0 pa slot hty hm ho h1 h3) fun σ H Q t => ?_
  obtain ⟨G, ρ, μ, R, p⟩ := t
  refine ⟨G, ρ, μ, R, Post.bind p fun u v μ1 G1 H1 s1 R1 r1 p1 => ?_⟩
  simp only at p1
  split at p1
  · rename_i ht
    exact ⟨by rw [c.K]; exact tyB_ok R1.toRepM r1 ht, h G1 ρ μ1 σ H1 Q u v [] [] R1 r1 .nil p1⟩
  · exact p1.elim

/-! ### lists -/
theorem Post.oldNon {G : Gh} {ρ : Rho} {μ : Mu} {σ : St} {H H' : Hp} {Q : VK} {v : Val} {u : V} (st : Step G H G H') (R : Rep Γ G ρ μ σ H') (h : Post Γ W G ρ σ H Q (.ok (v, μ))) (r : VRel Γ G u v) : Q u H' := h u G H' st R r
theorem rel_append {G : Gh} {us : List V} {vs : List Val} {u : V} {v : Val} (l : VRelL Γ G us vs) (r : VRel Γ G u v) : VRelL Γ G (us ++ [u]) (vs ++ [v]) := rel_app l (.cons r .nil)
theorem non_rel {G : Gh} : VRel Γ G .non (.d .non) := by show Is Γ _ _ _; unfold Is; rfl
def oAppend (n0 : Nat) : Val → List Val → Mu → R (Val × Mu)
  | .own k, [w], μ => (match μ[k]? with
    | some (.lst vs) => if okW n0 k w = true ∧ vs.length < 1000000 then .ok (.d .non, μ.set k (.lst (vs ++ [w]))) else .bad
    | _ => .bad)
  | _, _, _ => .bad
theorem oAppend_ok : MB Γ W rAppend oAppend := by
  intro G ρ μ σ H Q u v us vs R r rs p
  unfold oAppend at p
  split at p
  · rename_i k w
    split at p
    · rename_i ws e
      split at p
      · rename_i hk
        obtain ⟨a, ha, ea⟩ := r
        cases rs with
        | cons h t =>
          cases t
          obtain ⟨hF, xs, hH, l⟩ := R.cells k a _ ha e
          have hl := Paired.length l
          refine ⟨a, xs, _, ea, rfl, hH, by rw [hl, sizeLine_eq]; omega, ?_⟩
          obtain ⟨st, R'⟩ := R.write (o := .lst (xs ++ [_])) (c' := .lst (ws ++ [w])) (w := w) ha hF e (fun j hj => by
            rcases List.mem_append.mp hj with z | z
            · exact .inl z
            · exact .inr (List.mem_singleton.mp z).symm) hk.1 ⟨hF, _, upd_same, rel_append l h⟩
          exact p _ G _ st R' non_rel
      · exact p.elim
    · exact p.elim
  · exact p.elim
def oPop (n0 : Nat) : Val → List Val → Mu → R (Val × Mu)
  | .own k, [], μ => (match μ[k]? with
    | some (.lst vs) => (match vs[vs.length - 1]? with
      | some w => .ok (w, μ.set k (.lst vs.dropLast))
      | none => .bad)
    | _ => .bad)
  | _, _, _ => .bad
theorem rel_getV {G : Gh} : ∀ {us : List V} {vs : List Val} {i : Nat} {w : Val}, VRelL Γ G us vs → vs[i]? = some w → ∃ u, us[i]? = some u ∧ VRel Γ G u w
  | _, _, i, w, .nil, e => by simp at e
  | _, _, 0, w, .cons (a := u) h t, e => by simp at e; subst e; exact ⟨u, rfl, h⟩
  | _, _, i + 1, w, .cons h t, e => by
    obtain ⟨u, a, b⟩ := rel_getV t (i := i) (by simpa using e)
    exact ⟨u, by simpa using a, b⟩
theorem rel_dropLast {G : Gh} {us : List V} {vs : List Val} (l : VRelL Γ G us vs) : VRelL Γ G us.dropLast vs.dropLast := by
  unfold VRelL at l ⊢
  induction l with
  | nil => exact .nil
  | cons h t ih =>
    cases t with
    | nil => exact .nil
    | cons h2 t2 => exact .cons h ih
theorem rel_eraseIdx {G : Gh} {us : List V} {vs : List Val} (l : VRelL Γ G us vs) : ∀ i : Nat, VRelL Γ G (us.eraseIdx i) (vs.eraseIdx i) := by
  unfold VRelL at l ⊢
  induction l with
  | nil => intro i; exact .nil
  | cons h t ih =>
    intro i
    cases i with
    | zero => exact t
    | succ i => exact .cons h (ih i)
theorem oPop_ok : MB Γ W rPop oPop := by
  intro G ρ μ σ H Q u v us vs R r rs p
  unfold oPop at p
  split at p
  · rename_i k
    split at p
    · rename_i ws e
      split at p
      · rename_i w ew
        obtain ⟨a, ha, ea⟩ := r
        cases rs
        obtain ⟨hF, xs, hH, l⟩ := R.cells k a _ ha e
        have hl := Paired.length l
        obtain ⟨y, hy, ry⟩ := rel_getV l ew
        refine ⟨a, xs, y, ea, rfl, hH, by rw [hl]; exact hy, ?_⟩
        obtain ⟨st, R'⟩ := R.write (o := .lst xs.dropLast) (c' := .lst ws.dropLast) (w := .d .non) ha hF e (fun j hj => .inl (List.dropLast_subset _ hj)) rfl ⟨hF, _, upd_same, rel_dropLast l⟩
        exact p _ G _ st R' ry
      · exact p.elim
    · exact p.elim
  · exact p.elim
def oPopAt (n0 : Nat) : Val → List Val → Mu → R (Val × Mu)
  | .own k, [.d (.int i)], μ => (match μ[k]? with
    | some (.lst vs) => if -(2 ^ 63) ≤ i ∧ i < 2 ^ 63 then (match seqIndex? i vs.length with
      | some j => (match vs[j]? with
        | some w => .ok (w, μ.set k (.lst (vs.eraseIdx j)))
        | none => .bad)
      | none => .bad) else .bad
    | _ => .bad)
  | _, _, _ => .bad
theorem oPopAt_ok : MB Γ W rPopAt oPopAt := by
  intro G ρ μ σ H Q u v us vs R r rs p
  unfold oPopAt at p
  split at p
  · rename_i k i
    split at p
    · rename_i ws e
      split at p
      · rename_i hb
        split at p
        · rename_i j ej
          split at p
          · rename_i w ew
            obtain ⟨a, ha, ea⟩ := r
            cases rs with
            | cons h t =>
              cases t
              obtain ⟨hF, xs, hH, l⟩ := R.cells k a _ ha e
              have hl := Paired.length l
              obtain ⟨y, hy, ry⟩ := rel_getV l ew
              refine ⟨a, xs, i, j, y, ea, by rw [h.int_], hH, hb.1, hb.2, by rw [hl]; exact ej, hy, ?_⟩
              obtain ⟨st, R'⟩ := R.write (o := .lst (xs.eraseIdx j)) (c' := .lst (ws.eraseIdx j)) (w := .d .non) ha hF e (fun j hj => .inl (List.mem_of_mem_eraseIdx hj)) rfl ⟨hF, _, upd_same, rel_eraseIdx l j⟩
              exact p _ G _ st R' ry
          · exact p.elim
        · exact p.elim
      · exact p.elim
    · exact p.elim
  · exact p.elim
def oExtend (n0 : Nat) : Val → List Val → Mu → R (Val × Mu)
  | .own k, [w], μ => (match μ[k]?, lstV μ w with
    | some (.lst vs), some ds => if vs.length + ds.length < 1000000 then .ok (.d .non, μ.set k (.lst (vs ++ ds.map Val.d))) else .bad
    | _, _ => .bad)
  | _, _, _ => .bad
theorem oExtend_ok : MB Γ W rExtend oExtend := by
  intro G ρ μ σ H Q u v us vs R r rs p
  unfold oExtend at p
  split at p
  · rename_i k w
    split at p
    · rename_i ws ds e ed
      split at p
      · rename_i hk
        obtain ⟨a, ha, ea⟩ := r
        cases rs with
        | cons h t =>
          cases t
          obtain ⟨hF, xs, hH, l⟩ := R.cells k a _ ha e
          have hl := Paired.length l
          obtain ⟨b, zs, eb, hb, hz⟩ := lstV_ok R.toRepM h ed
          refine ⟨a, b, xs, zs, ea, by rw [eb], hH, hb, by rw [hl, hz.length, sizeLine_eq]; omega, ?_⟩
          obtain ⟨st, R'⟩ := R.write (o := .lst (xs ++ zs)) (c' := .lst (ws ++ ds.map Val.d)) (w := .d .non) ha hF e (fun j hj => by
            rcases List.mem_append.mp hj with z | z
            · exact .inl z
            · obtain ⟨d, _, ed⟩ := List.mem_map.mp z; cases ed) rfl ⟨hF, _, upd_same, rel_app l (relOf hz)⟩
          exact p _ G _ st R' non_rel
      · exact p.elim
    · exact p.elim
  · exact p.elim

/-! ### dict.update(d), dict.clear() -/
def mergeKs : List Key → List Val → List Key → List Val → List Key × List Val
  | ks, vs, k :: js, w :: ws => let r := putKs ks vs k w; mergeKs r.1 r.2 js ws
  | ks, vs, _, _ => (ks, vs)
theorem mergeKs_ok {G : Gh} : ∀ {jus kus : List (Key × V)} {vs ws : List Val}, VRelL Γ G (kus.map (·.2)) vs → VRelL Γ G (jus.map (·.2)) ws →
    (mergeK kus jus).map (·.1) = (mergeKs (kus.map (·.1)) vs (jus.map (·.1)) ws).1 ∧ VRelL Γ G ((mergeK kus jus).map (·.2)) (mergeKs (kus.map (·.1)) vs (jus.map (·.1)) ws).2
  | [], kus, vs, ws, h, h2 => by
    have h2 : VRelL Γ G [] ws := h2
    cases h2
    exact ⟨rfl, h⟩
  | q :: jus, kus, vs, ws, h, h2 => by
    cases h2 with
    | cons h1 t =>
      rename_i w ws
      obtain ⟨i1, i2⟩ := putKs_ok (k := q.1) h h1
      have ih := mergeKs_ok (kus := putK kus q.1 q.2) i2 t
      rw [i1] at ih
      exact ih
theorem mergeKs_vals : ∀ {js : List Key} {ks : List Key} {vs ws : List Val} {j : Nat}, Val.own j ∈ (mergeKs ks vs js ws).2 → Val.own j ∈ vs ∨ Val.own j ∈ ws
  | [], ks, vs, ws, j, h => by unfold mergeKs at h; exact .inl h
  | k :: js, ks, vs, [], j, h => by unfold mergeKs at h; exact .inl h
  | k :: js, ks, vs, w :: ws, j, h => by
    have h : Val.own j ∈ (mergeKs (putKs ks vs k w).1 (putKs ks vs k w).2 js ws).2 := h
    rcases mergeKs_vals h with z | z
    · rcases putKs_vals z with y | y
      · exact .inl y
      · exact .inr (by rw [y]; exact List.mem_cons_self)
    · exact .inr (List.mem_cons_of_mem _ z)
def rUpdate : V → List V → Hp → VK → Prop := fun x vs H Q => ∃ (a b : Addr) (kvs more : List (Key × V)), x = .ref a ∧ vs = [.ref b] ∧ a ≠ b ∧ H a = some (.dK kvs) ∧ H b = some (.dK more) ∧ kvs.length + more.length ≤ sizeLine ∧ Q .non (upd H a (.dK (mergeK kvs more)))
theorem mt_update : MtR X "dict.update" rUpdate := by
  intro pins s σ H x vs v us Q I rx rv h
  obtain ⟨a, b, kvs, more, rfl, rfl, ne, ea, eb, hz, q⟩ := h
  cases (show v = Value.ref a from rx)
  obtain ⟨u, rfl, ru⟩ := rv.one
  cases (show u = Value.ref b from ru)
  obtain ⟨z, hd, ws, rel, dd⟩ := dk_of I.hok ea
  obtain ⟨z2, hd2, ws2, rel2, dd2⟩ := dk_of I.hok eb
  refine call_meetsIn PySem.F.slot_dict_update dd.typeIs PySem.F.entry_dict_update (PySem.F.args_dict_update_2 _ _) (meets_dict_update (mixKind X.prog X.w) a b ne hd2)
    ⟨ws, ws2, dd, dd2, by rw [← rel.length, ← rel2.length]; exact hz, fun h' dd' _ hs => ⟨.non, _, ?_, rfl, q⟩⟩
  have he : ∃ q, h'.get? a = some q := let ⟨q, _, _, hq, _⟩ := dd'; ⟨q, hq⟩
  exact d_write (t' := s.toks) I (by rw [ea]; exact True.intro) hs he (dk_new (Nat.le_trans (length_mergeK more kvs) hz) hd (KV.merge rel2 rel) dd')
theorem RepM.addr_ne {G : Gh} {μ : Mu} {H : Hp} {k : Nat} {a b : Addr} (ha : G.al[k]? = some a) (R : RepM Γ G μ H) (hF : G.F a = none) {v : Val} {u : V} (r : VRel Γ G u v) (eu : u = .ref b) (n : v ≠ .own k) (hb : ∀ x, v = .d x → ∃ o, G.F b = some o) : a ≠ b := by
  intro e
  subst e
  cases v with
  | d x => obtain ⟨o, h⟩ := hb x rfl; rw [hF] at h; cases h
  | own j =>
    obtain ⟨c, hc, ec⟩ := r
    rw [eu] at ec
    cases ec
    have hk : k < G.al.length := (List.getElem?_eq_some_iff.mp ha).1
    have hj : j < G.al.length := (List.getElem?_eq_some_iff.mp hc).1
    have : j = k := (List.getElem_inj R.nd).mp ((List.getElem?_eq_some_iff.mp hc).2.trans (List.getElem?_eq_some_iff.mp ha).2.symm)
    exact n (by rw [this])
def isOwn (k : Nat) : Val → Bool
  | .own j => j == k
  | _ => false
def oUpdate (n0 : Nat) : Val → List Val → Mu → R (Val × Mu)
  | .own k, [w], μ => (match μ[k]?, dKV μ w with
    | some (.dK ks vs), some (js, ws) => if isOwn k w = false ∧ ks.length + js.length < 1000000 ∧ ws.all (okW n0 k) = true then .ok (.d .non, μ.set k (.dK (mergeKs ks vs js ws).1 (mergeKs ks vs js ws).2)) else .bad
    | _, _ => .bad)
  | _, _, _ => .bad
/-- a cell is written: its new values are old ones of it, or allowed ones -/
theorem Rep.writeL {G : Gh} {ρ : Rho} {μ : Mu} {σ : St} {H : Hp} (R : Rep Γ G ρ μ σ H) {k : Nat} {a : Addr} {o : HO} {c c' : Cell} (e1 : G.al[k]? = some a) (hF : G.F a = none) (ec : μ[k]? = some c) (hv : ∀ j, Val.own j ∈ c'.vals → Val.own j ∈ c.vals ∨ okW ρ.n0 k (.own j) = true)
    (hc : CRel Γ G (upd H a o) a c') : Step G H G (upd H a o) ∧ Rep Γ G ρ (μ.set k c') σ (upd H a o) := by
  have st : Step G H G (upd H a o) := Step.write e1
  refine ⟨st, R.go st (R.toRepM.write e1 hF hc fun t ht hk j hj => ?_)⟩
  rcases hv j hj with z | z
  · exact (R.clo t ht).2 k c j hk ec z
  · have hw : (ρ.n0 ≤ k ∨ j < k) := of_decide_eq_true z
    have := R.top t ht
    omega
theorem oUpdate_ok : MB Γ W rUpdate oUpdate := by
  intro G ρ μ σ H Q u v us vs R r rs p
  unfold oUpdate at p
  split at p
  · rename_i k w
    split at p
    · rename_i ks ws js zs e ed
      split at p
      · rename_i hk
        obtain ⟨a, ha, ea⟩ := r
        cases rs with
        | cons h t =>
          cases t
          obtain ⟨hF, kus, hH, l1, l⟩ := R.cells k a _ ha e
          obtain ⟨b, jus, eb, hb, hz1, hz⟩ := dKV_ok R.toRepM h ed
          have ne : a ≠ b := RepM.addr_ne ha R.toRepM hF h eb (fun z => by subst z; have h0 : (k == k) = false := hk.1; rw [beq_self_eq_true] at h0; cases h0) fun x ex => by
            subst ex
            cases x with
            | dK a1 a2 =>
              have h : Is Γ G.F _ _ := h
              unfold Is at h
              obtain ⟨b', kvs, e1, e2, _⟩ := h
              rw [e1] at eb
              cases eb
              exact ⟨_, e2⟩
            | _ => cases ed
          refine ⟨a, b, kus, jus, ea, by rw [eb], ne, hH, hb, ?_, ?_⟩
          · have e1 : kus.length = ks.length := by rw [← l1, List.length_map]
            have e2 : jus.length = js.length := by rw [← hz1, List.length_map]
            rw [e1, e2, sizeLine_eq]; omega
          · obtain ⟨i1, i2⟩ := mergeKs_ok l hz
            rw [l1, hz1] at i1 i2
            obtain ⟨st, R'⟩ := R.writeL (o := .dK (mergeK kus jus)) (c' := .dK (mergeKs ks ws js zs).1 (mergeKs ks ws js zs).2) ha hF e (fun j hj => by
              rcases mergeKs_vals hj with z | z
              · exact .inl z
              · exact .inr (List.all_eq_true.mp hk.2.2 _ z)) ⟨hF, _, upd_same, i1, i2⟩
            exact p _ G _ st R' non_rel
      · exact p.elim
    · exact p.elim
  · exact p.elim

/-! ### texts -/
def oJoin (n0 : Nat) : Val → List Val → Mu → R (Val × Mu)
  | .d (.str a), [w], μ => (match (seqV μ w).bind strsD with
    | some ys => if (ys.map Str.length).sum + ys.length * a.length ≤ 16777216 then .ok (.d (.str (Txt.join a ys)), μ) else .bad
    | none => .bad)
  | _, _, _ => .bad
theorem oJoin_ok : MB Γ W (fun x xs H Q => ∃ a p ys, x = V.str a ∧ xs = [V.ref p] ∧ (SqL Γ.K H p (List.map V.str ys) ∨ SqT Γ.K H p (List.map V.str ys)) ∧ List.sum (List.map (fun x => Str.length x) ys) + List.length ys * Str.length a ≤ 16777216 ∧ Q (V.str (Txt.join a ys)) H) oJoin := by
  intro G ρ μ σ H Q u v us vs R r rs p
  unfold oJoin at p
  split at p
  · rename_i a w
    split at p
    · rename_i ys e
      split at p
      · rename_i hz
        cases rs with
        | cons h t =>
          cases t
          cases q : seqV μ w with
          | none => rw [q] at e; cases e
          | some ds =>
            rw [q] at e
            obtain ⟨b, zs, e1, e2, e3⟩ := seqV_ok R.toRepM h q
            have e : strsD ds = some ys := e
            exact ⟨a, b, ys, r.str_, by rw [e1], by rw [← strsD_ok e3 e]; exact e2, hz, Post.str R p⟩
      · exact p.elim
    · exact p.elim
  · exact p.elim

/-! ## dict(pairs), dict(d) -/
/-- a pair (key, value) -/
def pairD : D → Option (Key × D)
  | .tup [k, v] => (keyD k).map fun k => (k, v)
  | .kt [k, v] => (keyD k).map fun k => (k, v)
  | _ => none
def pairsD : List D → Option (List Key × List D)
  | [] => some ([], [])
  | d :: r => (pairD d).bind fun p => (pairsD r).map fun q => (p.1 :: q.1, p.2 :: q.2)
theorem pairD_ok {G : Gh} {μ : Mu} {H : Hp} (R : RepM Γ G μ H) {d v : D} {k : Key} {u : V} (h : Is Γ G.F u d) (e : pairD d = some (k, v)) : ∃ a y, u = .ref a ∧ SqT Γ.K H a [kV k, y] ∧ Is Γ G.F y v := by
  have key : ∀ {a : Addr} {us : List V} {x y : D}, SqT Γ.K H a us → IsL Γ G.F us [x, y] → (keyD x).map (fun k => (k, y)) = some (k, v) → ∃ z, SqT Γ.K H a [kV k, z] ∧ Is Γ G.F z v := fun {a us x y} h1 h2 e => by
    obtain ⟨p, r, rfl, i1, h2⟩ := h2.inv
    obtain ⟨q, r, rfl, i2, h2⟩ := h2.inv
    rw [h2.inv0] at h1
    cases z : keyD x with
    | none => rw [z] at e; cases e
    | some k' =>
      rw [z] at e
      cases e
      rw [keyD_ok i1 z] at h1
      exact ⟨q, h1, i2⟩
  unfold pairD at e
  split at e
  · obtain ⟨a, us, ea, h1, h2⟩ := VRel.tup_ R (show VRel Γ G u (.d _) from h)
    obtain ⟨z, i1, i2⟩ := key h1 h2 e
    exact ⟨a, z, ea, i1, i2⟩
  · obtain ⟨a, us, ea, h1, h2⟩ := VRel.kt_ R (show VRel Γ G u (.d _) from h)
    obtain ⟨z, i1, i2⟩ := key h1 h2 e
    exact ⟨a, z, ea, i1, i2⟩
  · cases e
theorem pairsD_ok {G : Gh} {μ : Mu} {H : Hp} (R : RepM Γ G μ H) : ∀ {ds : List D} {ks : List Key} {vs : List D} {us : List V}, IsL Γ G.F us ds → pairsD ds = some (ks, vs) →
    ∃ (ps : List Addr) (kvs : List (Key × V)), us = ps.map V.ref ∧ Paired (fun p kv => SqT Γ.K H p [kV kv.1, kv.2]) ps kvs ∧ kvs.map (·.1) = ks ∧ IsL Γ G.F (kvs.map (·.2)) vs
  | [], ks, vs, us, h, e => by cases e; rw [h.inv0]; exact ⟨[], [], rfl, .nil, rfl, IsL.nil⟩
  | d :: r, ks, vs, us, h, e => by
    obtain ⟨v, w, rfl, h1, h2⟩ := h.inv
    unfold pairsD at e
    cases q : pairD d with
    | none => rw [q] at e; cases e
    | some p =>
      rw [q] at e
      cases z : pairsD r with
      | none => rw [z] at e; cases e
      | some t =>
        rw [z] at e
        cases e
        obtain ⟨k, x⟩ := p
        obtain ⟨a, y, ea, i1, i2⟩ := pairD_ok R h1 q
        obtain ⟨ps, kvs, j1, j2, j3, j4⟩ := pairsD_ok R h2 z
        exact ⟨a :: ps, (k, y) :: kvs, by rw [ea, j1]; rfl, .cons i1 j2, by rw [List.map_cons, j3], IsL.cons i2 j4⟩
/-- a new dict -/
theorem Post.dKL {G : Gh} {ρ : Rho} {μ : Mu} {σ : St} {H : Hp} {Q : VK} {ks : List Key} {vs : List Val} {kus : List (Key × V)} (R : Rep Γ G ρ μ σ H) (h : Post Γ W G ρ σ H Q (.ok (.own μ.length, μ ++ [.dK ks vs]))) (e : kus.map (·.1) = ks) (l : VRelL Γ G (kus.map (·.2)) vs) : ∀ p, H p = none → Q (.ref p) (upd H p (.dK kus)) := fun p hp =>
  have s : Step G H (G.lvn p) (upd H p (.dK kus)) := RepM.stepLv hp
  have m := R.toRepM.lvNew (o := .dK kus) (c := .dK ks vs) hp ⟨R.toRepM.Fnone hp, kus, upd_same, e, VRelL.mono s l⟩
  h (.ref p) _ _ s (R.go s m) ⟨p, by show (G.al ++ [p])[μ.length]? = _; rw [← R.len]; simp, rfl⟩
theorem Post.dK {G : Gh} {ρ : Rho} {μ : Mu} {σ : St} {H : Hp} {Q : VK} {ks : List Key} {ds : List D} {kus : List (Key × V)} (R : Rep Γ G ρ μ σ H) (h : Post Γ W G ρ σ H Q (.ok (.d (.dK ks ds), μ))) (e : kus.map (·.1) = ks) (l : IsL Γ G.F (kus.map (·.2)) ds) : ∀ p, H p = none → Q (.ref p) (upd H p (.dK kus)) := fun p hp =>
  have s := R.toRepM.stepFz (o := .dK kus) hp
  h (.ref p) _ _ s (R.go s (R.toRepM.fzNew hp)) (by show Is Γ (upd G.F p (.dK kus)) _ _; unfold Is; exact ⟨p, kus, rfl, upd_same, e, IsL.mono s.fz _ _ l⟩)
def oDict (live : Bool) : List Val → Mu → R (Val × Mu)
  | [v], μ => (match (lstV μ v).bind pairsD with
    | some (ks, ds) => let m := mergeKs [] [] ks (ds.map Val.d); if live = true then .ok (.own μ.length, μ ++ [.dK m.1 m.2]) else (match dsOf m.2 with
      | some es => .ok (.d (.dK m.1 es), μ)
      | none => .bad)
    | none => (match dKV μ v with
      | some (ks, vs) => if live = true then (if vs.all (okW 0 0) = true then .ok (.own μ.length, μ ++ [.dK ks vs]) else .bad) else (match dsOf vs with
        | some es => .ok (.d (.dK ks es), μ)
        | none => .bad)
      | none => .bad))
  | _, _ => .bad
abbrev rDictA (K : PySem.W.Frag) : List V → Hp → VK → Prop := fun xs H Q => (∃ (a : Addr) (ps : List Addr) (kvs : List (Key × V)), xs = [.ref a] ∧ SqL K H a (ps.map V.ref) ∧ Paired (fun p kv => SqT K H p [kV kv.1, kv.2]) ps kvs ∧ ∀ p, H p = none → Q (.ref p) (upd H p (.dK (mergeK [] kvs)))) ∨
  ∃ (a : Addr) (kvs : List (Key × V)), xs = [.ref a] ∧ Rd H a (.dK kvs) ∧ ∀ p, H p = none → Q (.ref p) (upd H p (.dK kvs))
theorem call_dictA (hc : X.calm = true) : CallR X (.type "dict") (rDictA X.K) := (call_dictP hc).or call_dictD
theorem oDict_ok {live : Bool} : CB Γ W (rDictA Γ.K) (oDict live) := by
  intro G ρ μ σ H Q us vs R r p
  unfold oDict at p
  split at p
  · rename_i v
    cases r with
    | cons h t =>
      cases t
      split at p
      · rename_i ks ds e
        cases q : lstV μ v with
        | none => rw [q] at e; cases e
        | some es =>
          rw [q] at e
          obtain ⟨a, us, h1, h2, h3⟩ := lstV_ok R.toRepM h q
          obtain ⟨ps, kvs, j1, j2, j3, j4⟩ := pairsD_ok R.toRepM h3 (show pairsD es = some (ks, ds) from e)
          subst j1
          refine .inl ⟨a, ps, kvs, by rw [h1], SqL.of h2, j2, ?_⟩
          obtain ⟨i1, i2⟩ := mergeKs_ok (G := G) (kus := []) (vs := []) .nil (relOf j4)
          rw [j3] at i1 i2
          cases live with
          | true =>
            simp only [if_true] at p
            exact Post.dKL R p i1 i2
          | false =>
            simp only [if_neg Bool.false_ne_true] at p
            split at p
            · rename_i fs ef
              exact Post.dK R p i1 (dsOf_ok i2 ef)
            · exact p.elim
      · split at p
        · rename_i ks ws e
          obtain ⟨a, kus, h1, h2, h3, h4⟩ := dKV_ok R.toRepM h e
          refine .inr ⟨a, kus, by rw [h1], Rd.of h2, ?_⟩
          cases live with
          | true =>
            simp only [if_true] at p
            split at p
            · exact Post.dKL R p h3 h4
            · exact p.elim
          | false =>
            simp only [if_neg Bool.false_ne_true] at p
            split at p
            · rename_i fs ef
              exact Post.dK R p h3 (dsOf_ok h4 ef)
            · exact p.elim
        · exact p.elim
  · exact p.elim
end
end Zl
set_option Elab.async false
set_option linter.all false
set_option maxRecDepth 100000
set_option maxHeartbeats 4000000
namespace Zl
open PySem PySem.Spec L2
open PyProof.Rows hiding St

/-! ## isinstance -/
inductive Kd where
  | ty (n : String) | own (k : Str)
  deriving DecidableEq
def kdV (Γ : Gm) : Kd → Option Value
  | .ty n => some (.type n)
  | .own k => (match Γ.cl k with
    | some C => some (.ref C)
    | none => (Γ.xc k).map Value.ref)
def kindD : D → Option Kd
  | .non => some (.ty "NoneType")
  | .bl _ => some (.ty "bool")
  | .int _ => some (.ty "int")
  | .str _ => some (.ty "str")
  | .tup _ => some (.ty "tuple")
  | .kt _ => some (.ty "tuple")
  | .lst _ => some (.ty "list")
  | .scr _ => some (.ty "list")
  | .dK _ _ => some (.ty "dict")
  | .dT _ _ => some (.ty "dict")
  | .ins c _ _ => some (.own c)
  | .obj _ => none
def kindV (μ : Mu) : Val → Option Kd
  | .d x => kindD x
  | .own k => (match μ[k]? with
    | some (.lst _) => some (.ty "list")
    | some (.dK _ _) => some (.ty "dict")
    | some (.dT _ _) => some (.ty "dict")
    | some (.ins c _ _) => some (.own c)
    | _ => none)
abbrev KTb := Kd → Kd → Option Bool
def isAny (tb : KTb) (k : Kd) : List Kd → Option Bool
  | [] => some false
  | c :: cs => (match tb k c with
    | some true => some true
    | some false => isAny tb k cs
    | none => none)
/-- what the head tells of an own class, for its instances' type -/
structure InsTy (K : PySem.W.Frag) (C : Addr) : Prop where
  cl : Cls K C
  ha : PySem.W.findIn K (.ref C) "__class__" = some (some (.builtin "object.__class__"))
  hn : PySem.W.specialIn K (.builtin "object.__class__") "__get__" = some (some (.builtin "getset_descriptor.__get__"))
  htk : PySem.W.takesIn K (.builtin "object.__class__") = some true
  hm : PySem.W.mroIn K C (.type "object") = some true
structure IsTb (Γ : Gm) (tb : KTb) : Prop where
  ok : ∀ a b r u v, tb a b = some r → kdV Γ a = some u → kdV Γ b = some v → PySem.W.kitOne Γ.K u v = some r
  ins : ∀ k C b r, tb (.own k) b = some r → Γ.cl k = some C → InsTy Γ.K C
/-- built-in types alone -/
def tbB : KTb
  | .ty a, .ty b => kitB a b
  | _, _ => none
theorem tbB_ok {Γ : Gm} : IsTb Γ tbB := by
  refine ⟨fun a b r u v h hu hv => ?_, fun k C b r h _ => ?_⟩
  · cases a with
    | own k => cases b <;> cases h
    | ty x =>
      cases b with
      | own k => cases h
      | ty y => cases hu; cases hv; exact kit_ty h
  · cases b <;> cases h
def fIsi (tb : KTb) (ks : List Kd) (f : FE) : FE := fun ρ μ => (f ρ μ).bind fun p => match (kindV p.2 p.1).bind fun k => isAny tb k ks with
  | some b => .ok (.d (.bl b), p.2)
  | none => .bad
/-- an expression that names a class -/
structure CRef (Γ : Gm) (X : Cx) (e : Expr) (k : Kd) : Prop where
  ex : ∃ v u, ClsV v u ∧ kdV Γ k = some u ∧ PE X e (tC v)
structure CRefs (Γ : Gm) (X : Cx) (es : List Expr) (ks : List Kd) : Prop where
  ex : ∃ vs us, Paired ClsV vs us ∧ ks.map (kdV Γ) = us.map some ∧ PA X es (fun _ H Q => Q vs H) ∧ vs.length = ks.length
section
variable {Γ : Gm} {W : WX} {X : Cx} {lv : Nat} {tb : KTb} {f : FE} {e ce : Expr} {es : List Expr} {p pos tpos : Pos} {k : Kd} {ks : List Kd}
theorem isAny_kit (h : IsTb Γ tb) {u : Value} (hu : kdV Γ k = some u) : ∀ {ks : List Kd} {us : List Value} {b : Bool}, ks.map (kdV Γ) = us.map some → isAny tb k ks = some b → PySem.W.kitAny Γ.K u us = some b
  | [], us, b, e, q => by
    cases us with
    | nil => cases q; exact kitAny_nil
    | cons x xs => simp at e
  | c :: cs, us, b, e, q => by
    cases us with
    | nil => simp at e
    | cons x xs =>
      rw [List.map_cons, List.map_cons] at e
      have e1 : kdV Γ c = some x := (List.cons.inj e).1
      have e2 := (List.cons.inj e).2
      unfold isAny at q
      cases z : tb k c with
      | none => rw [z] at q; cases q
      | some r =>
        rw [z] at q
        have h1 := h.ok k c r u x z hu e1
        cases r with
        | true => cases q; exact kitAny_cons h1 (fun y => by cases y) (fun _ => rfl)
        | false => exact kitAny_cons h1 (fun _ => isAny_kit h hu e2 q) (fun y => by cases y)
theorem isAny_some {k : Kd} : ∀ {ks : List Kd} {b : Bool}, isAny tb k ks = some b → ks ≠ [] → ∃ c r, tb k c = some r
  | [], _, _, h => absurd rfl h
  | c :: cs, b, q, _ => by
    unfold isAny at q
    cases z : tb k c with
    | none => rw [z] at q; cases q
    | some r => exact ⟨c, r, z⟩
theorem kind_ok (h : IsTb Γ tb) {G : Gh} {μ : Mu} {H : Hp} {x : V} {v : Val} (R : RepM Γ G μ H) (r : VRel Γ G x v) (e : kindV μ v = some k) {c : Kd} {z : Bool} (hz : tb k c = some z) : ∃ t, kdV Γ k = some t ∧ TyX Γ.K H x t := by
  have sqT : ∀ {a : Addr} {us : List V}, SqT Γ.K H a us → TyX Γ.K H (.ref a) (.type "tuple") := fun {a us} s => by
    rcases s with (s | ⟨o, s⟩) | ⟨o, its, n, s, hc, _⟩
    · exact .base (.tup s)
    · exact .fTuple s
    · exact .kTuple s hc
  have sqL : ∀ {a : Addr} {us : List V}, SqL Γ.K H a us → TyX Γ.K H (.ref a) (.type "list") := fun {a us} s => by
    rcases s with (s | ⟨o, s⟩) | ⟨o, its, n, s, hc, _⟩
    · exact .base (.lst s)
    · exact .base (.frz s)
    · exact .kList s hc
  have insT : ∀ {a C dx : Addr} {fs : List (Str × V)} {c' : Str}, Γ.cl c' = some C → H a = some (.ins C dx fs) → k = .own c' → ∃ t, kdV Γ k = some t ∧ TyX Γ.K H (.ref a) t := fun {a C dx fs c'} h1 h2 ek => by
    subst ek
    have it := h.ins c' C c z hz h1
    exact ⟨.ref C, by unfold kdV; simp only [h1], .base (.ins h2 it.cl it.ha it.hn it.htk it.hm)⟩
  cases v with
  | own j =>
    obtain ⟨a, ha, ea⟩ := r
    subst ea
    unfold kindV at e
    cases q : μ[j]? with
    | none => simp only [q] at e; cases e
    | some cl =>
      simp only [q] at e
      have rc := R.cells j a cl ha q
      cases cl with
      | lst ws => cases e; obtain ⟨_, us, h, l⟩ := rc; exact ⟨_, rfl, .base (.lst h)⟩
      | dK _ ws => cases e; obtain ⟨_, us, h, l⟩ := rc; exact ⟨_, rfl, .base (.dK h)⟩
      | dT _ ws => cases e; obtain ⟨_, us, h, l⟩ := rc; exact ⟨_, rfl, .base (.dT h)⟩
      | ins c' ns ws => obtain ⟨_, C, dx, us, hc, hh, _⟩ := rc; exact insT hc hh (Option.some.inj e).symm
      | _ => cases e
  | d y =>
    cases y with
    | non => cases e; rw [r.non_]; exact ⟨_, rfl, .base .non⟩
    | bl b => cases e; rw [r.bl_]; exact ⟨_, rfl, .base (.bl _)⟩
    | int b => cases e; rw [r.int_]; exact ⟨_, rfl, .base (.int _)⟩
    | str b => cases e; rw [r.str_]; exact ⟨_, rfl, .base (.str _)⟩
    | tup ds => cases e; obtain ⟨a, us, ea, h1, h2⟩ := VRel.tup_ R r; rw [ea]; exact ⟨_, rfl, sqT h1⟩
    | kt ds => cases e; obtain ⟨a, us, ea, h1, h2⟩ := VRel.kt_ R r; rw [ea]; exact ⟨_, rfl, sqT h1⟩
    | lst ds => cases e; obtain ⟨a, us, ea, h1, h2⟩ := VRel.lst_ R r; rw [ea]; exact ⟨_, rfl, sqL (SqL.of h1)⟩
    | scr ns =>
      cases e
      have r : Is Γ G.F x _ := r
      unfold Is at r
      obtain ⟨a, ea, h1⟩ := r
      rw [ea]; exact ⟨_, rfl, sqL (R.sub.seq h1)⟩
    | dK ks ds =>
      cases e
      have r : Is Γ G.F x _ := r
      unfold Is at r
      obtain ⟨a, kvs, ea, h1, _⟩ := r
      rw [ea]; exact ⟨_, rfl, .base (.dK (R.sub _ _ h1))⟩
    | dT ks ds =>
      cases e
      have r : Is Γ G.F x _ := r
      unfold Is at r
      obtain ⟨a, kvs, ea, h1, _⟩ := r
      rw [ea]; exact ⟨_, rfl, .base (.dT (R.sub _ _ h1))⟩
    | ins c' ns ds =>
      have r : Is Γ G.F x _ := r
      unfold Is at r
      obtain ⟨a, C, dx, fs, ea, hc, h1, _⟩ := r
      rw [ea]
      exact insT hc (R.sub _ _ h1) (Option.some.inj e).symm
    | obj _ => cases e
/-- isinstance(e, C) -/
theorem ze_isi (c : Cz Γ W X lv) (h : IsTb Γ tb) (hg : Gl X "isinstance") (hm : X.mg "isinstance" = none) (he : PE X e (tZ Γ W f)) (hc : CRef Γ X ce k)
    (h1 : starEach [e, ce] X.env = (false, eval e X.env) :: starEach [ce] X.env) (h2 : starEach [ce] X.env = (false, eval ce X.env) :: starEach [] X.env) (hpl : (backTo pos (starEach [ce] X.env)).any (·.1) = false) :
    PE X (.Call (.Name "isinstance" p) [e, ce] [] pos) (tZ Γ W (fIsi tb [k] f)) := by
  obtain ⟨v, u, hv, hk, hp⟩ := hc.ex
  refine PE.imp (pe_callB call_isi hg hm PyProof.Rows.boot_isinstance (pa_cons he (pa_cons hp pa_nil h2) h1) (by decide) (by decide) h1 hpl) fun σ H Q t => ?_
  obtain ⟨G, ρ, μ, R, q⟩ := t
  refine ⟨G, ρ, μ, R, Post.bind q fun x w μ1 G1 H1 s1 R1 r1 p1 => ?_⟩
  simp only at p1
  split at p1
  · rename_i b eb
    cases ek : kindV μ1 w with
    | none => rw [ek] at eb; cases eb
    | some kd =>
      rw [ek] at eb
      have eb : isAny tb kd [k] = some b := eb
      obtain ⟨c', r', hz⟩ := isAny_some eb (by simp)
      obtain ⟨t, ht, ty⟩ := kind_ok h R1.toRepM r1 ek hz
      have kk : PySem.W.kitOne Γ.K t u = some b := by
        unfold isAny at eb
        cases z : tb kd k with
        | none => rw [z] at eb; cases eb
        | some r =>
          rw [z] at eb
          have := h.ok kd k r t u z ht hk
          cases r with
          | true => cases eb; exact this
          | false => cases eb; exact this
      exact ⟨x, v, t, u, b, rfl, hv, by rw [c.K]; exact ty, by rw [c.K]; exact kk, Post.bl R1 p1⟩
  · exact p1.elim
/-- isinstance(e, (C1, C2, ..)) -/
theorem ze_isiT {kk : Nat} (c : Cz Γ W X lv) (h : IsTb Γ tb) (hg : Gl X "isinstance") (hm : X.mg "isinstance" = none) (he : PE X e (tZ Γ W f)) (hc : CRefs Γ X es ks) (hne : ks ≠ []) (hle : ks.length ≤ 100)
    (h1 : starEach [e, .Tuple es kk tpos] X.env = (false, eval e X.env) :: starEach [.Tuple es kk tpos] X.env) (h2 : starEach [.Tuple es kk tpos] X.env = (false, eval (.Tuple es kk tpos) X.env) :: starEach [] X.env) (hpl : (backTo pos (starEach [.Tuple es kk tpos] X.env)).any (·.1) = false) :
    PE X (.Call (.Name "isinstance" p) [e, .Tuple es kk tpos] [] pos) (tZ Γ W (fIsi tb ks f)) := by
  obtain ⟨vs, us, hv, hk, hp, hl⟩ := hc.ex
  refine PE.imp (pe_callB call_isiT hg hm PyProof.Rows.boot_isinstance (pa_cons he (pa_cons (pe_tup hp) pa_nil h2) h1) (by decide) (by decide) h1 hpl) fun σ H Q t => ?_
  obtain ⟨G, ρ, μ, R, q⟩ := t
  refine ⟨G, ρ, μ, R, Post.bind q fun x w μ1 G1 H1 s1 R1 r1 p1 => ⟨by rw [hl]; exact small_line (by omega), fun tp hf => ?_⟩⟩
  simp only at p1
  split at p1
  · rename_i b eb
    cases ek : kindV μ1 w with
    | none => rw [ek] at eb; cases eb
    | some kd =>
      rw [ek] at eb
      have eb : isAny tb kd ks = some b := eb
      obtain ⟨c', r', hz⟩ := isAny_some eb hne
      have st : Step G1 H1 G1 (upd H1 tp (.tup vs)) := Step.other hf
      have R2 : Rep Γ G1 ρ μ1 σ (upd H1 tp (.tup vs)) := R1.go st (R1.toRepM.other hf)
      obtain ⟨t, ht, ty⟩ := kind_ok h R2.toRepM r1 ek hz
      exact ⟨x, tp, vs, t, us, b, rfl, upd_same, hv, by rw [c.K]; exact ty, by rw [c.K]; exact isAny_kit h ht hk eb, Post.bl R2 (Post.step st p1)⟩
  · exact p1.elim
/-- the class named: a built-in type -/
theorem cref_ty {x : Str} {n : String} (hg : Gl X x) (hm : X.mg x = none) (hv : bootBuiltins x = some (.type n)) (hn : x ≠ "__name__") (hd : (x == ("__debug__" : Str)) = false) : CRef Γ X (.Name x pos) (.ty n) :=
  ⟨.ty n, .type n, .ty n, rfl, pe_bltn hg hm hv (by rfl) hn hd⟩
/-- .. an own class -/
theorem cref_own {x : Str} {kc : Str} {C : Addr} (hg : Gl X x) (hm : X.mg x = some (.ref C)) (hk : kdV Γ (.own kc) = some (.ref C)) (hd : (x == ("__debug__" : Str)) = false) : CRef Γ X (.Name x pos) (.own kc) :=
  ⟨.ref C, .ref C, .own C, hk, pe_glob hg hm (by rfl) hd⟩
theorem crefs_nil : CRefs Γ X [] [] := ⟨[], [], .nil, rfl, pa_nil, rfl⟩
theorem crefs_cons (hc : CRef Γ X ce k) (ht : CRefs Γ X es ks) (hs : starEach (ce :: es) X.env = (false, eval ce X.env) :: starEach es X.env) : CRefs Γ X (ce :: es) (k :: ks) := by
  obtain ⟨v, u, h1, h2, h3⟩ := hc.ex
  obtain ⟨vs, us, t1, t2, t3, t4⟩ := ht.ex
  exact ⟨v :: vs, u :: us, .cons h1 t1, by rw [List.map_cons, List.map_cons, h2, t2], PA.imp (pa_cons h3 t3 hs) fun σ H Q q => q, by rw [List.length_cons, List.length_cons, t4]⟩
end
end Zl
set_option Elab.async false
set_option linter.all false
set_option maxRecDepth 100000
set_option maxHeartbeats 4000000
namespace Zl
open PySem PySem.Spec L2 PySem.W
open PyProof.Rows hiding St

/-! ## sorted -/
def pyOf (d : D) : PyData := (D.py d).getD .none
def srtD (ds : List D) : List D := ds.mergeSort (dataLe false pyOf)
def okSrt (ds : List D) : Bool := (ds.all fun d => (D.py d).isSome && decide ((pyOf d).depth ≤ 60)) && (ds.all fun d => ds.all fun d' => alike (pyOf d) (pyOf d')) &&
  ((ds.all fun d => match pyOf d with
    | .tuple (_ :: _) => true
    | _ => false) || (ds.all fun d => match pyOf d with
    | .none => false
    | .tuple _ => false
    | _ => true))
section
variable {Γ : Gm} {W : WX} {X : Cx}
theorem okSrt_alike {ds : List D} (h : okSrt ds = true) : AllAlike (ds.map pyOf) := by
  unfold okSrt at h
  rw [Bool.and_eq_true, Bool.and_eq_true] at h
  intro d hd d' hd'
  obtain ⟨x, hx, rfl⟩ := List.mem_map.mp hd
  obtain ⟨y, hy, rfl⟩ := List.mem_map.mp hd'
  exact List.all_eq_true.mp (List.all_eq_true.mp h.1.2 x hx) y hy
theorem okSrt_sortable {ds : List D} (h : okSrt ds = true) : Sortable (ds.map pyOf) := by
  unfold okSrt at h
  rw [Bool.and_eq_true, Bool.or_eq_true] at h
  rcases h.2 with q | q
  · refine .inl fun d hd => ?_
    obtain ⟨x, hx, rfl⟩ := List.mem_map.mp hd
    have z := List.all_eq_true.mp q x hx
    split at z
    · rename_i a b e; exact ⟨a, b, e⟩
    · cases z
  · refine .inr fun d hd => ?_
    obtain ⟨x, hx, rfl⟩ := List.mem_map.mp hd
    have z := List.all_eq_true.mp q x hx
    refine ⟨fun e => ?_, fun xs e => ?_⟩
    · rw [e] at z; cases z
    · rw [e] at z; cases z
theorem okSrt_py {ds : List D} (h : okSrt ds = true) {d : D} (hd : d ∈ ds) : D.py d = some (pyOf d) ∧ (pyOf d).depth ≤ 60 := by
  unfold okSrt at h
  rw [Bool.and_eq_true, Bool.and_eq_true] at h
  have z := List.all_eq_true.mp h.1.1 d hd
  rw [Bool.and_eq_true] at z
  refine ⟨?_, of_decide_eq_true z.2⟩
  cases q : D.py d with
  | none => rw [q] at z; cases z.1
  | some p => unfold pyOf; rw [q]; rfl
/-- the values stand for the data -/
abbrev Std (Γ : Gm) (F : Hp) : Value → D → Prop := fun u d => ∃ v, RelV v u ∧ Is Γ F v d
theorem std_each {F : Hp} : ∀ {ds : List D} {vs : List V} {us : List Value}, Vals vs us → IsL Γ F vs ds → EachIs (Std Γ F) us ds
  | [], vs, us, r, h => by
    have e := h.inv0
    subst e
    have hus := L2.Vals.zero r
    subst hus
    constructor
  | d :: ds, vs, us, r, h => by
    obtain ⟨v, w, rfl, h1, h2⟩ := h.inv
    cases r with
    | cons a b => exact .cons ⟨v, a, h1⟩ (std_each b h2)
theorem each_std {F : Hp} {ds : List D} {us : List Value} (h : EachIs (Std Γ F) us ds) : ∃ vs, Vals vs us ∧ IsL Γ F vs ds := by
  induction h with
  | nil => exact ⟨[], .nil, IsL.nil⟩
  | cons a t ih =>
    obtain ⟨v, a, b⟩ := a
    obtain ⟨vs, h1, h2⟩ := ih
    exact ⟨v :: vs, .cons a h1, IsL.cons b h2⟩
/-- what sorted walks -/
def Src (K : PySem.W.Frag) (H : Hp) (a : Addr) (ys : List V) : Prop := SqL K H a ys ∨ SqT K H a ys ∨ ∃ kvs : List (Key × V), Rd H a (.dK kvs) ∧ ys = kvs.map fun kv => kV kv.1
def rSrt (Γ : Gm) : List V → Hp → VK → Prop := fun xs H Q => ∃ (a : Addr) (ys : List V) (bs : List D) (F : Hp), xs = [.ref a] ∧ Src Γ.K H a ys ∧ Same F H ∧ IsL Γ F ys bs ∧ okSrt bs = true ∧ ys.length ≤ 100000 ∧
  ∀ zs p, IsL Γ F zs (srtD bs) → zs.length = ys.length → H p = none → Q (.ref p) (upd H p (.lst zs))
theorem collect_src {pins : List (Addr × Obj)} {σ : St} {H : Hp} {s : Shared} {a : Addr} {ys : List V} {A : Around} {E : Value → Shared → Prop} {Q : List Value → Shared → Prop} (I : Inv X pins σ H s) (hh : A.handled = none) (h : Src X.K H a ys) (hl : ys.length ≤ 100000)
    (q : ∀ us s', Vals ys us → Inv X pins σ H s' → Q us s') : wpAny (model X.prog X.w) A (collect (.ref a)) Q E s := by
  have hs : ys.length ≤ sizeLine := by rw [sizeLine_eq]; omega
  rcases h with h | h | ⟨kvs, h, e⟩
  · obtain ⟨its, rv, pl, hz⟩ := I.list h
    obtain ⟨o, n, ho, hc, hd, hdat⟩ := pl
    exact wpAny_collect_seq a (.inl rfl) ho hc hdat (fun h' hk => q _ _ (by simpa using rv) (I.kept (t' := s.toks) hk)) (by rw [List.size_toArray, ← rv.length]; exact hs)
  · obtain ⟨its, rv, ⟨o, ho, hc, n, hdat⟩, hz⟩ := I.tuple h
    exact wpAny_collect_seq a (.inr rfl) ho hc hdat (fun h' hk => q _ _ (by simpa using rv) (I.kept (t' := s.toks) hk)) (by rw [List.size_toArray, ← rv.length]; exact hs)
  · obtain ⟨z, lo, vs, rel, dd⟩ := dk_rd I.hok h
    obtain ⟨ep, hat⟩ := dd.dictAt
    have h16 : vs.length ≤ sizeLine := by rw [← rel.length]; exact z
    refine PySem.W.kdu_collect (A := A) (PySem.W.kdl_dict (knd := mixKind X.prog X.w) (kvs := vs) (ep := ep) lo) hh hat h16 fun h' tk acc hk hacc => ?_
    refine q _ _ ?_ (I.kept hk)
    have hkeys : vs.map (·.1) = kvs.map (·.1) := rel.keys.symm
    have e2 : ys = vs.map fun p => kV p.1 := by
      rw [e]
      have : (kvs.map fun kv => kV kv.1) = (kvs.map (·.1)).map kV := by rw [List.map_map]; rfl
      rw [this, ← hkeys, List.map_map]; rfl
    rw [e2]
    refine keys_at (by rw [Array.length_toList, hacc.1]) fun j v e => ?_
    obtain ⟨k, x, e1, e2⟩ := hacc.2 j v (by rw [← Array.getElem?_toList]; exact e)
    exact ⟨k, x, e1, e2⟩
theorem call_srt (hk : X.K = Γ.K) (hcalm : X.calm = true) (hu : X.A.units + 65 < cLine) : CallR X (.builtin "sorted") (rSrt Γ) := by
  intro pins s σ H xs us Q I r h
  obtain ⟨a, ys, bs, F, rfl, hsrc, hF, hl, ok, hlen, q⟩ := h
  obtain ⟨u, rfl, rx⟩ := vals1 r
  obtain rfl : u = Value.ref a := rx
  refine Calls.call_function_entry PyProof.Rows.kind_sorted PyProof.Rows.plain_sorted PyProof.Rows.entry_sorted (PyProof.Rows.args_sorted1 _) ?_
  unfold Builtin.«sorted»
  refine wpAny_bind (m := checkCount "sorted" 1 1 _) (wpAny_pure ?_)
  refine wpAny_bind (collect_src (A := X.A.in1) I (I.ok.hd hcalm) (by rw [hk]; exact hsrc) hlen fun vs s1 rv I1 => ?_)
  have hvl : vs.length = ys.length := rv.length.symm
  have hs : vs.length ≤ sizeLine := by rw [hvl, sizeLine_eq]; omega
  refine wpAny_bind (wpAny_newList ?_ hs)
  have hoL : (s1.heap.push (seqObj "list" vs.toArray 0)).get? s1.heap.objs.size = some (seqObj "list" vs.toArray 0) := Heap.get?_push_size _ rfl
  show wpAny _ _ _ _ _ { s1 with heap := s1.heap.push (seqObj "list" vs.toArray 0) }
  have old : ∀ b o, s1.heap.get? b = some o → (sortingHeap (s1.heap.push (seqObj "list" vs.toArray 0)) s1.heap.objs.size vs).get? b = some o := fun b o e =>
    PySem.W.sortingHeap_old (Nat.ne_of_lt (Heap.lt_size e)) (Heap.get?_push_of_some _ e)
  have e0 : EachIs (Std Γ F) vs bs := std_each rv hl
  have dp : ∀ v d, IsL Γ F [v] [d] → True := fun _ _ _ => trivial
  have rd : EachIs (fun v b => ∃ as, Reads (sortingHeap (s1.heap.push (seqObj "list" vs.toArray 0)) s1.heap.objs.size vs) v (pyOf b) as) vs bs := by
    have key : ∀ (l : List D), (∀ d ∈ l, d ∈ bs) → ∀ us, EachIs (Std Γ F) us l → EachIs (fun v b => ∃ as, Reads (sortingHeap (s1.heap.push (seqObj "list" vs.toArray 0)) s1.heap.objs.size vs) v (pyOf b) as) us l := by
      intro l hm us e
      induction e with
      | nil => exact .nil
      | cons a b ih =>
        obtain ⟨v, r1, i1⟩ := a
        refine .cons ?_ (ih fun d hd => hm d (List.mem_cons_of_mem _ hd))
        have hp := (okSrt_py ok (hm _ List.mem_cons_self)).1
        have dpv := D.dp (Γ := Γ) hF _ v _ i1 hp
        rw [← hk] at dpv
        obtain ⟨as, rr⟩ := Dp.reads I1 _ v _ dpv r1
        exact ⟨as, PyProof.Rows.Reads.keeps old rr⟩
    exact key bs (fun _ h => h) vs e0
  have hbl : vs.length = bs.length := e0.length
  refine wpAny_bind (wpAny_holding (wpAny_call_entry PyProof.Rows.slot_list_sort ⟨_, hoL, rfl⟩ PyProof.Rows.entry_list_sort
    (PySem.W.list_sort_vals (κ := dataKind _ (bs.map pyOf)) (s := { s1 with heap := s1.heap.push (seqObj "list" vs.toArray 0) }) hoL
      (SortsAt.data (s := { s1 with heap := sortingHeap (s1.heap.push (seqObj "list" vs.toArray 0)) s1.heap.objs.size vs }) (each_map (R := fun v d => ∃ as, Reads (sortingHeap (s1.heap.push (seqObj "list" vs.toArray 0)) s1.heap.objs.size vs) v d as) pyOf rd) (okSrt_alike ok) (okSrt_sortable ok) (fun d hd => by
        obtain ⟨x, hx, rfl⟩ := List.mem_map.mp hd
        have := (okSrt_py ok hx).2
        show X.A.units + 2 + _ < cLine
        omega)) hs ⟨_, rfl, ?_⟩)
    (PyProof.Rows.args_list_sort _)))
  have outE : EachIs (Std Γ F) (sortVals (dataKind _ (bs.map pyOf)) false vs vs) (bs.mergeSort (dataLe false pyOf)) := sortVals_data (h' := sortingHeap (s1.heap.push (seqObj "list" vs.toArray 0)) s1.heap.objs.size vs) false e0 rd (okSrt_alike ok)
  obtain ⟨zs, g1, g2⟩ := each_std outE
  obtain ⟨e', he'⟩ := PyProof.Rows.sortedHeap_at (vs := vs) (out := (sortVals (dataKind (sortingHeap (s1.heap.push (seqObj "list" vs.toArray 0)) s1.heap.objs.size vs) (bs.map pyOf)) false vs vs).toArray) hoL
  have hzl : zs.length = ys.length := by
    rw [g1.length, sortVals_length false rfl, hvl]
  refine wpAny_pure ⟨_, rfl, .ref s1.heap.objs.size, upd H s1.heap.objs.size (.lst zs), I1.laid (t' := s1.toks) (fun b u e => ?_) (Nat.le_refl _)
    (show ObjOk X.prog X.w _ _ _ (.lst zs) from ⟨by rw [hzl, sizeLine_eq]; omega, _, e', g1, he'⟩), rfl, q zs _ g2 hzl (I1.hok.fresh (Nat.le_refl _))⟩
  have hb : b < s1.heap.objs.size := Heap.lt_size e
  rw [PyProof.Rows.sortedHeap_old (Nat.ne_of_lt hb) (by rw [size_push']; exact Nat.lt_succ_of_lt hb)]
  exact Heap.get?_push_of_some _ e
end
end Zl
set_option Elab.async false
set_option linter.all false
set_option maxRecDepth 100000
set_option maxHeartbeats 4000000
namespace Zl
open PySem PySem.Spec L2 PySem.W
open PyProof.Rows hiding St

/-! ## sorted, min of data -/
def srcV (μ : Mu) (v : Val) : Option (List D) := match rowV μ v with
  | some ds => some ds
  | none => (dKV μ v).map fun p => p.1.map keyD1
section
variable {Γ : Gm} {W : WX} {X : Cx} {lv : Nat}
theorem srcV_ok {G : Gh} {μ : Mu} {H : Hp} {u : V} (R : RepM Γ G μ H) {v : Val} {ds : List D} (r : VRel Γ G u v) (e : srcV μ v = some ds) : ∃ a us, u = .ref a ∧ Src Γ.K H a us ∧ IsL Γ G.F us ds := by
  unfold srcV at e
  split at e
  · rename_i es q
    cases e
    obtain ⟨a, us, h1, h2, h3⟩ := rowV_ok R r q
    refine ⟨a, us, h1, ?_, h3⟩
    rcases h2 with h2 | h2
    · exact .inl h2
    · exact .inr (.inl h2)
  · cases q : dKV μ v with
    | none => rw [q] at e; cases e
    | some p =>
      rw [q] at e
      obtain ⟨ks, vs⟩ := p
      cases e
      obtain ⟨a, kus, h1, h2, h3, h4⟩ := dKV_ok R r q
      refine ⟨a, _, h1, .inr (.inr ⟨kus, Rd.of h2, rfl⟩), ?_⟩
      have ek : (kus.map fun kv => kV kv.1) = ks.map kV := by rw [← h3, List.map_map]; rfl
      rw [ek]
      exact keysD1_is ks
def oSorted (live : Bool) : List Val → Mu → R (Val × Mu)
  | [v], μ => (match srcV μ v with
    | some ds => if okSrt ds = true ∧ ds.length ≤ 100000 then (if live = true then .ok (.own μ.length, μ ++ [.lst ((srtD ds).map Val.d)]) else .ok (.d (.lst (srtD ds)), μ)) else .bad
    | none => .bad)
  | _, _ => .bad
theorem oSorted_ok {live : Bool} : CB Γ W (rSrt Γ) (oSorted live) := by
  intro G ρ μ σ H Q us vs R r p
  unfold oSorted at p
  split at p
  · cases r with
    | cons h t =>
      cases t
      split at p
      · rename_i ds e
        split at p
        · rename_i hz
          obtain ⟨a, us, h1, h2, h3⟩ := srcV_ok R.toRepM h e
          refine ⟨a, us, ds, G.F, by rw [h1], h2, R.sub, h3, hz.1, by rw [h3.length]; exact hz.2, fun zs q hl _ hq => ?_⟩
          cases live with
          | true => rw [if_pos rfl] at p; exact Post.lstL R p (relOf hl) q hq
          | false => rw [if_neg Bool.false_ne_true] at p; exact Post.lst R p hl q hq
        · exact p.elim
      · exact p.elim
  · exact p.elim
def leastD (x : D) (xs : List D) : D := xs.foldl (fun a y => if dataLt (pyOf y) (pyOf a) then y else a) x
def okMin (ds : List D) : Bool := (ds.all fun d => (D.py d).isSome && (match pyOf d with
    | .none => false
    | _ => true)) && (ds.all fun d => ds.all fun d' => alike (pyOf d) (pyOf d')) && decide (PyData.depthAll (ds.map pyOf) ≤ 60)
def rMinD (Γ : Gm) : List V → Hp → VK → Prop := fun xs H Q => ∃ (a : Addr) (ys : List V) (b : D) (bs : List D) (F : Hp), xs = [.ref a] ∧ SqL Γ.K H a ys ∧ Same F H ∧ IsL Γ F ys (b :: bs) ∧ okMin (b :: bs) = true ∧ ∀ z, Is Γ F z (leastD b bs) → Q z H
theorem py_reads (hk : X.K = Γ.K) {pins : List (Addr × Obj)} {σ : St} {H F : Hp} {s : Shared} (I : Inv X pins σ H s) (hF : Same F H) : ∀ {ds : List D} {vs : List V} {us : List Value}, Vals vs us → IsL Γ F vs ds → (∀ d ∈ ds, D.py d = some (pyOf d)) → ∃ as, ReadsAll s.heap us (ds.map pyOf) as := by
  intro ds vs us r l h
  have e : D.pyL ds = some (ds.map pyOf) := by
    induction ds generalizing vs us with
    | nil => unfold D.pyL; rfl
    | cons d ds ih =>
      obtain ⟨v, w, rfl, h1, h2⟩ := l.inv
      cases r with
      | cons a b =>
        unfold D.pyL
        rw [h d List.mem_cons_self, ih b h2 fun d hd => h d (List.mem_cons_of_mem _ hd)]
        rfl
  have dp := D.dpL (Γ := Γ) hF ds vs _ l e
  rw [← hk] at dp
  exact Dp.readsAll I _ vs us dp r
theorem okMin_py {ds : List D} (h : okMin ds = true) {d : D} (hd : d ∈ ds) : D.py d = some (pyOf d) ∧ pyOf d ≠ .none := by
  unfold okMin at h
  rw [Bool.and_eq_true, Bool.and_eq_true] at h
  have z := List.all_eq_true.mp h.1.1 d hd
  rw [Bool.and_eq_true] at z
  refine ⟨?_, fun e => ?_⟩
  · cases q : D.py d with
    | none => rw [q] at z; cases z.1
    | some p => unfold pyOf; rw [q]; rfl
  · have := z.2; rw [e] at this; cases this
theorem okMin_alike {ds : List D} (h : okMin ds = true) : AlikeAll (ds.map pyOf) := by
  refine ⟨fun x hx y hy => ?_, fun x hx => ?_⟩
  · obtain ⟨a, ha, rfl⟩ := List.mem_map.mp hx
    obtain ⟨b, hb, rfl⟩ := List.mem_map.mp hy
    unfold okMin at h
    rw [Bool.and_eq_true, Bool.and_eq_true] at h
    exact List.all_eq_true.mp (List.all_eq_true.mp h.1.2 a ha) b hb
  · obtain ⟨a, ha, rfl⟩ := List.mem_map.mp hx
    exact (okMin_py h ha).2
theorem call_minD (hk : X.K = Γ.K) (hcalm : X.calm = true) (hu : X.A.units + 65 < cLine) : CallR X (.builtin "min") (rMinD Γ) := by
  intro pins s σ H xs us Q I r h
  obtain ⟨a, ys, b, bs, F, rfl, hs, hF, hl, ok, q⟩ := h
  obtain ⟨u, rfl, rx⟩ := vals1 r
  obtain rfl : u = Value.ref a := rx
  rw [← hk] at hs
  obtain ⟨its, rv, pl, hz⟩ := I.list hs
  obtain ⟨as, ra⟩ := py_reads hk I hF rv hl fun d hd => (okMin_py ok hd).1
  have hdep : PyData.depthAll ((b :: bs).map pyOf) ≤ 60 := by
    unfold okMin at ok
    rw [Bool.and_eq_true] at ok
    exact of_decide_eq_true ok.2
  have hn : its.length = bs.length + 1 := by rw [← rv.length, hl.length]; rfl
  refine call_min_walkH (iter_listW (A := X.A.in1) (I.ok.hd hcalm) pl.isList fun s₂ e W st hfp hw hk => ?_)
  refine ⟨_, _, _, _, _, _, _, s.heap, _, rfl, W, st, hfp, by simp; omega, hw, hk, cmpIn_lt (A := X.A.in1) (vs := its.toArray) (xs := (b :: bs).map pyOf) (by simpa using ra) (okMin_alike ok) (by show X.A.units + 1 + _ < _; omega), fun v s' hP m => ?_⟩
  obtain ⟨h', tk, rfl, hk'⟩ := moved_old e rfl m
  have e1 : its.toArray.size - 1 = bs.length := by simp; omega
  rw [e1] at hP
  have e2 := (argBest_fold (fun x y => dataLt (pyOf x) (pyOf y)) D.non b bs bs.length (Nat.le_refl _)).2
  rw [List.take_length] at e2
  have e3 : (fun i j => dataLt (((b :: bs).map pyOf).getD i .none) (((b :: bs).map pyOf).getD j .none)) = (fun i j => dataLt (pyOf ((b :: bs).getD i D.non)) (pyOf ((b :: bs).getD j D.non))) := by
    have z : ∀ i : Nat, ((b :: bs).map pyOf).getD i PyData.none = pyOf ((b :: bs).getD i D.non) := fun i => by
      rw [List.getD_eq_getElem?_getD, List.getD_eq_getElem?_getD, List.getElem?_map]
      cases (b :: bs)[i]? with
      | none => rfl
      | some x => rfl
    funext i j
    rw [z, z]
  rw [e3] at hP
  generalize hm : argBest (fun i j => dataLt (pyOf ((b :: bs).getD i D.non)) (pyOf ((b :: bs).getD j D.non))) bs.length = m at hP e2
  have hP' : its[m]? = some v := by simpa using hP
  have hlen : m < (b :: bs).length := by
    have := (List.getElem?_eq_some_iff.mp hP').1
    rw [hn] at this
    simpa using this
  have ed : (b :: bs)[m]? = some (leastD b bs) := by
    have z : (b :: bs).getD m D.non = leastD b bs := e2
    rw [List.getD_eq_getElem?_getD, List.getElem?_eq_getElem hlen] at z
    rw [List.getElem?_eq_getElem hlen]
    exact congrArg some z
  obtain ⟨z, hz1, hz2⟩ := hl.get ed
  obtain ⟨u', hu1, hu2⟩ := rv.get hz1
  rw [hu1] at hP'
  cases hP'
  exact ⟨z, H, I.kept (t' := tk) hk', hu2, q z hz2⟩
def oMinD : List Val → Mu → R (Val × Mu)
  | [v], μ => (match lstV μ v with
    | some (d :: ds) => if okMin (d :: ds) = true then .ok (.d (leastD d ds), μ) else .bad
    | _ => .bad)
  | _, _ => .bad
theorem oMinD_ok : CB Γ W (rMinD Γ) oMinD := by
  intro G ρ μ σ H Q us vs R r p
  unfold oMinD at p
  split at p
  · cases r with
    | cons h t =>
      cases t
      split at p
      · rename_i d ds e
        split at p
        · rename_i hz
          obtain ⟨a, us, h1, h2, h3⟩ := lstV_ok R.toRepM h e
          exact ⟨a, us, d, ds, G.F, by rw [h1], SqL.of h2, R.sub, h3, hz, fun z hz => Post.here R p hz⟩
        · exact p.elim
      · exact p.elim
  · exact p.elim

/-! ## [*a, v] -/
def fAStar (f : FE) (g : FA) : FA := fun ρ μ => (f ρ μ).bind fun p => match seqV p.2 p.1 with
  | some ds => (g ρ p.2).bind fun q => .ok (ds.map Val.d ++ q.1, q.2)
  | none => .bad
theorem za_star {e : Expr} {es : List Expr} {f : FE} {g : FA} {p : Pos} (c : Cz Γ W X lv) (he : PE X e (tZ Γ W f)) (hr : PA X es (tZA Γ W g)) (hs : starEach (.Starred e p :: es) X.env = (true, eval e X.env) :: starEach es X.env) : PA X (.Starred e p :: es) (tZA Γ W (fAStar f g)) := by
  refine PA.imp (StX.pa_star he hr hs) fun σ H Q t => ?_
  obtain ⟨G, ρ, μ, R, p⟩ := t
  refine ⟨G, ρ, μ, R, Post.bindA p fun x v μ1 G1 H1 s1 R1 r1 p1 => ?_⟩
  simp only at p1
  split at p1
  · rename_i ds e
    obtain ⟨a, us, h1, h2, h3⟩ := seqV_ok R1.toRepM r1 e
    refine ⟨a, us, h1, by rw [c.K]; exact h2.symm, G1, ρ, μ1, R1, PostA.bindA p1 fun ws vs μ2 G2 H2 s2 R2 r2 p2 => ?_⟩
    exact p2 _ G2 H2 (Step.refl _ _) R2 (rel_app (VRelL.mono s2 (relOf h3)) r2)
  · exact p1.elim

/-! ## {}, {k: v, ..} -/
def fDict0 (live tuples : Bool) : FE := fun _ μ => if live = true then (if tuples = true then .ok (.own μ.length, μ ++ [.dT [] []]) else .ok (.own μ.length, μ ++ [.dK [] []])) else .ok (.d (.dK [] []), μ)
theorem Post.dTL {G : Gh} {ρ : Rho} {μ : Mu} {σ : St} {H : Hp} {Q : VK} {ks : List (List Key)} {vs : List Val} {kus : List (List Key × V)} (R : Rep Γ G ρ μ σ H) (h : Post Γ W G ρ σ H Q (.ok (.own μ.length, μ ++ [.dT ks vs]))) (e : kus.map (·.1) = ks) (l : VRelL Γ G (kus.map (·.2)) vs) : ∀ p, H p = none → Q (.ref p) (upd H p (.dT kus)) := fun p hp =>
  have s : Step G H (G.lvn p) (upd H p (.dT kus)) := RepM.stepLv hp
  have m := R.toRepM.lvNew (o := .dT kus) (c := .dT ks vs) hp ⟨R.toRepM.Fnone hp, kus, upd_same, e, VRelL.mono s l⟩
  h (.ref p) _ _ s (R.go s m) ⟨p, by show (G.al ++ [p])[μ.length]? = _; rw [← R.len]; simp, rfl⟩
theorem ze_dict0 {live : Bool} {pos : Pos} : PE X (.Dict [] [] pos) (tZ Γ W (fDict0 live false)) := by
  refine PE.imp pe_dnewK fun σ H Q t => ?_
  obtain ⟨G, ρ, μ, R, p⟩ := t
  cases live with
  | true => exact Post.dKL R p rfl .nil
  | false => exact Post.dK R p rfl IsL.nil
theorem ze_dict0T {pos : Pos} : PE X (.Dict [] [] pos) (tZ Γ W (fDict0 true true)) := by
  refine PE.imp pe_dnewT fun σ H Q t => ?_
  obtain ⟨G, ρ, μ, R, p⟩ := t
  exact Post.dTL R p rfl .nil
/-- the pairs of a display: keys are constants of int or text -/
inductive Prs (Γ : Gm) (W : WX) (X : Cx) : List (Option Expr) → List Expr → List (Key × FE) → Prop where
  | nil : Prs Γ W X [] [] []
  | cons {k v : Expr} {ks : List (Option Expr)} {vs : List Expr} {fs : List (Key × FE)} {key : Key} {f : FE} (hk : PE X k (tZ Γ W (fC (keyD1 key)))) (hv : PE X v (tZ Γ W f)) (t : Prs Γ W X ks vs fs) : Prs Γ W X (some k :: ks) (v :: vs) ((key, f) :: fs)
def dispGo : List (Key × FE) → Rho → Mu → R ((List Key × List Val) × Mu)
  | [], _, μ => .ok (([], []), μ)
  | (k, f) :: r, ρ, μ => (f ρ μ).bind fun p => (dispGo r ρ p.2).bind fun q => .ok ((k :: q.1.1, p.1 :: q.1.2), q.2)
def fDisp (live : Bool) (fs : List (Key × FE)) : FE := fun ρ μ => (dispGo fs ρ μ).bind fun q => let m := mergeKs [] [] q.1.1 q.1.2; if live = true then .ok (.own q.2.length, q.2 ++ [.dK m.1 m.2]) else (match dsOf m.2 with
  | some es => .ok (.d (.dK m.1 es), q.2)
  | none => .bad)
end
end Zl
set_option Elab.async false
set_option linter.all false
set_option maxRecDepth 100000
set_option maxHeartbeats 4000000
namespace Zl
open PySem PySem.Spec L2 PySem.W
open PyProof.Rows hiding St

/-! ## an object of nobody's, under work -/
structure Loose (G : Gh) (H : Hp) (P : Addr) (o : HO) : Prop where
  here : H P = some o
  nF : G.F P = none
  nA : P ∉ G.al
section
variable {Γ : Gm} {W : WX} {X : Cx} {lv : Nat} {G G' G0 : Gh} {H H' H0 : Hp} {P : Addr} {o o' : HO} {μ : Mu} {ρ : Rho} {σ : St}
theorem Loose.new (R : RepM Γ G μ H) (hP : H P = none) : Loose G (upd H P o) P o := ⟨upd_same, R.Fnone hP, R.notin hP⟩
theorem Loose.step (ht : ¬ TabO o) (l : Loose G H P o) (s : Step G H G' H') : Loose G' H' P o := by
  refine ⟨s.keep P _ l.here (fun ps z => ht (.inl ⟨ps, z⟩)) l.nA, ?_, fun z => ?_⟩
  · cases e : G'.F P with
    | none => rfl
    | some o =>
      rcases s.newF P l.nF (by rw [e]; exact fun z => by cases z) with z | z
      · rw [l.here] at z; cases z
      · exact absurd z l.nA
  · have := s.newA P z l.nA
    rw [l.here] at this; cases this
theorem Loose.put (l : Loose G H P o) : Loose G (upd H P o') P o' := ⟨upd_same, l.nF, l.nA⟩
theorem Loose.rep (ht : ¬ TabO o) (l : Loose G H P o) (R : RepM Γ G μ H) : RepM Γ G μ (upd H P o') := by
  have hP5 : ∀ a, a ≠ P → upd H P o' a = H a := fun a z => upd_ne z
  refine ⟨fun a o e => ?_, R.len, R.nd, fun k a c e1 e2 => CRel.mono (fun _ _ h => h) (fun n => n) ⟨[], by simp⟩ (hP5 a (mem_ne (List.mem_of_getElem? e1) l.nA)) (R.cells k a c e1 e2), fun a h => ?_, R.clo, R.tabs.go (fun a u e t _ => by rw [hP5 a fun z => by rw [z, l.here] at e; cases e; exact ht t]; exact e) (fun _ _ _ _ _ h => h) fun _ z => .inl z⟩
  · have z : a ≠ P := fun z => by rw [z, l.nF] at e; cases e
    rw [hP5 a z]; exact R.sub a o e
  · obtain ⟨o, e⟩ := R.there a h
    exact ⟨o, by rw [hP5 a (mem_ne h l.nA)]; exact e⟩
theorem Step.put (s : Step G0 H0 G H) (hP : H0 P = none) : Step G0 H0 G (upd H P o') := by
  have hP5 : ∀ a, a ≠ P → upd H P o' a = H a := fun a z => upd_ne z
  refine ⟨s.fz, s.al, s.ts, fun a o e nt n => ?_, s.newF, s.newA, fun a o e => ?_⟩
  · have z : a ≠ P := fun z => by rw [z, hP] at e; cases e
    rw [hP5 a z]; exact s.keep a o e nt n
  · have z : a ≠ P := fun z => by rw [z, hP] at e; cases e
    rw [hP5 a z]; exact s.there a o e
/-- it becomes live, or frozen -/
theorem Rep.lvOld' {c : Cell} (ht : ¬ TabO o) (R : Rep Γ G ρ μ σ H) (l : Loose G H P o) (hc : CRel Γ (G.lvn P) H P c) : Rep Γ (G.lvn P) ρ (μ ++ [c]) σ H :=
  ⟨R.toRepM.lvOld l.here l.nA ht hc, fun i v e => let ⟨u, a, b⟩ := R.slots i v e; ⟨u, a, VRel.lvn b⟩, R.rl, R.n0, R.top⟩
theorem VRel.fzn (nF : G.F P = none) {u : V} : ∀ {v : Val}, VRel Γ G u v → VRel Γ (G.fzn P o) u v
  | .d x, h => Is.mono (same_upd nF) _ _ h
  | .own k, h => h
theorem Rep.fzOld' (ht : ¬ TabO o) (R : Rep Γ G ρ μ σ H) (l : Loose G H P o) : Rep Γ (G.fzn P o) ρ μ σ H :=
  ⟨R.toRepM.fzOld l.here l.nF l.nA ht, fun i v e => let ⟨u, a, b⟩ := R.slots i v e; ⟨u, a, VRel.fzn l.nF b⟩, R.rl, R.n0, R.top⟩
def dcFin (live : Bool) (q : (List Key × List Val) × Mu) : R (Val × Mu) := if live = true then .ok (.own q.2.length, q.2 ++ [.dK q.1.1 q.1.2]) else (match dsOf q.1.2 with
  | some es => .ok (.d (.dK q.1.1 es), q.2)
  | none => .bad)
theorem Loose.fin {Q : VK} {live : Bool} {ks : List Key} {vs : List Val} {kus : List (Key × V)} (l : Loose G H P (.dK kus)) (R : Rep Γ G ρ μ σ H) (s : Step G0 H0 G H) (hP : H0 P = none) (h : Post Γ W G0 ρ σ H0 Q (dcFin live ((ks, vs), μ))) (e : kus.map (·.1) = ks) (r : VRelL Γ G (kus.map (·.2)) vs) : Q (.ref P) H := by
  unfold dcFin at h
  cases live with
  | true =>
    rw [if_pos rfl] at h
    refine h (.ref P) (G.lvn P) H (s.lvOld hP) (Rep.lvOld' TabO.dK R l ⟨l.nF, kus, l.here, e, Paired.imp (fun _ _ h => VRel.lvn h) r⟩) ⟨P, ?_, rfl⟩
    show (G.al ++ [P])[μ.length]? = _
    rw [← R.len]; simp
  | false =>
    rw [if_neg Bool.false_ne_true] at h
    split at h
    · rename_i xs ed
      have l' := dsOf_ok r ed
      refine h (.ref P) (G.fzn P (.dK kus)) H (s.fzOld hP l.nF) (Rep.fzOld' TabO.dK R l) ?_
      show Is Γ (upd G.F P (.dK kus)) _ _
      unfold Is
      exact ⟨P, kus, rfl, upd_same, e, IsL.mono (same_upd l.nF) _ _ l'⟩
    · exact h.elim

/-! ## {k: v, ..} -/
def PostP (Γ : Gm) (W : WX) (G : Gh) (ρ : Rho) (σ : St) (H : Hp) (Q : List (V × V) → Hp → Prop) : R ((List Key × List Val) × Mu) → Prop
  | .ok p => ∀ (kus : List (Key × V)) G' H', Step G H G' H' → Rep Γ G' ρ p.2 σ H' → kus.map (·.1) = p.1.1 → VRelL Γ G' (kus.map (·.2)) p.1.2 → Q (kus.map fun kv => (kV kv.1, kv.2)) H'
  | .ex e r m => ∀ cls dx G' H', Step G H G' H' → Rep Γ G' r m σ H' → ErrRel Γ G' H' cls dx e → W cls dx σ H'
  | .bad => False
theorem PostP.step {G1 : Gh} {H1 : Hp} {Q : List (V × V) → Hp → Prop} (s : Step G H G1 H1) : ∀ {r : R ((List Key × List Val) × Mu)}, PostP Γ W G ρ σ H Q r → PostP Γ W G1 ρ σ H1 Q r
  | .ok p, h => fun u G' H' z => h u G' H' (s.trans z)
  | .ex e r m, h => fun c d G' H' z => h c d G' H' (s.trans z)
  | .bad, h => h
theorem Post.bindP {Q : List (V × V) → Hp → Prop} {Q1 : VK} {k : Val × Mu → R ((List Key × List Val) × Mu)} : ∀ {r : R (Val × Mu)}, PostP Γ W G ρ σ H Q (r.bind k) →
    (∀ u v μ1 G1 H1, Step G H G1 H1 → Rep Γ G1 ρ μ1 σ H1 → VRel Γ G1 u v → PostP Γ W G1 ρ σ H1 Q (k (v, μ1)) → Q1 u H1) → Post Γ W G ρ σ H Q1 r
  | .ok p, h, f => fun u G1 H1 s R v => f u p.1 p.2 G1 H1 s R v (PostP.step s h)
  | .ex e r m, h, f => h
  | .bad, h, f => h
theorem PostP.bindP {Q Q1 : List (V × V) → Hp → Prop} {k : (List Key × List Val) × Mu → R ((List Key × List Val) × Mu)} : ∀ {r : R ((List Key × List Val) × Mu)}, PostP Γ W G ρ σ H Q (r.bind k) →
    (∀ (kus : List (Key × V)) ks vs μ1 G1 H1, Step G H G1 H1 → Rep Γ G1 ρ μ1 σ H1 → kus.map (·.1) = ks → VRelL Γ G1 (kus.map (·.2)) vs → PostP Γ W G1 ρ σ H1 Q (k ((ks, vs), μ1)) → Q1 (kus.map fun kv => (kV kv.1, kv.2)) H1) → PostP Γ W G ρ σ H Q1 r
  | .ok p, h, f => fun kus G1 H1 s R e v => f kus p.1.1 p.1.2 p.2 G1 H1 s R e v (PostP.step s h)
  | .ex e r m, h, f => h
  | .bad, h, f => h
theorem PostP.bind {Q : VK} {Q1 : List (V × V) → Hp → Prop} {k : (List Key × List Val) × Mu → R (Val × Mu)} : ∀ {r : R ((List Key × List Val) × Mu)}, Post Γ W G ρ σ H Q (r.bind k) →
    (∀ (kus : List (Key × V)) ks vs μ1 G1 H1, Step G H G1 H1 → Rep Γ G1 ρ μ1 σ H1 → kus.map (·.1) = ks → VRelL Γ G1 (kus.map (·.2)) vs → Post Γ W G1 ρ σ H1 Q (k ((ks, vs), μ1)) → Q1 (kus.map fun kv => (kV kv.1, kv.2)) H1) → PostP Γ W G ρ σ H Q1 r
  | .ok p, h, f => fun kus G1 H1 s R e v => f kus p.1.1 p.1.2 p.2 G1 H1 s R e v (Post.step s h)
  | .ex e r m, h, f => h
  | .bad, h, f => h
theorem keyD1_v {F : Hp} {u : V} {k : Key} (h : Is Γ F u (keyD1 k)) : u = kV k := by
  cases k with
  | inl i => have h : Is Γ F u (.int i) := h; unfold Is at h; exact h
  | inr i => have h : Is Γ F u (.str i) := h; unfold Is at h; exact h
theorem prs_ok {pos : Pos} {keys : List (Option Expr)} {values : List Expr} {fs : List (Key × FE)} (h : Prs Γ W X keys values fs) : ∃ trs, PPs X pos keys values trs ∧ keys.all (·.isSome) = true ∧ keys.length = values.length ∧ keys.length = fs.length ∧
    ∀ (σ : St) (H : Hp) (Q : List (V × V) → Hp → Prop) (G : Gh) (ρ : Rho) (μ : Mu), Rep Γ G ρ μ σ H → PostP Γ W G ρ σ H Q (dispGo fs ρ μ) → tPairs trs σ H Q := by
  induction h with
  | nil => exact ⟨[], pps_nil, rfl, rfl, rfl, fun σ H Q G ρ μ R p => p [] G H (Step.refl G H) R rfl .nil⟩
  | cons hk hv t ih =>
    rename_i k v ks vs fs key f
    obtain ⟨trs, h1, h2, h3, h4, h5⟩ := ih
    refine ⟨_, pps_cons hk hv h1, by simpa using h2, by simp [h3], by simp [h4], fun σ H Q G ρ μ R p => ?_⟩
    show tZ Γ W (fC (keyD1 key)) σ H fun x H1 => tZ Γ W f σ H1 fun y H2 => tPairs trs σ H2 fun ps H3 => Q ((x, y) :: ps) H3
    have p : PostP Γ W G ρ σ H Q ((f ρ μ).bind fun p => (dispGo fs ρ p.2).bind fun q => .ok ((key :: q.1.1, p.1 :: q.1.2), q.2)) := p
    refine ⟨G, ρ, μ, R, fun u G1 H1 s1 R1 r1 => ?_⟩
    have eu : u = kV key := keyD1_v r1
    subst eu
    refine ⟨G1, ρ, μ, R1, Post.bindP (PostP.step s1 p) fun y w μ2 G2 H2 s2 R2 r2 p2 => ?_⟩
    refine h5 σ H2 _ G2 ρ μ2 R2 (PostP.bindP p2 fun kus ks' vs' μ3 G3 H3 s3 R3 e3 r3 p3 => ?_)
    exact p3 ((key, y) :: kus) G3 H3 (Step.refl _ _) R3 (by rw [List.map_cons, e3]) (.cons (VRel.mono s3 r2) r3)
theorem ze_disp {live : Bool} {pos : Pos} {keys : List (Option Expr)} {values : List Expr} {fs : List (Key × FE)} (h : Prs Γ W X keys values fs) (h0 : fs ≠ []) (h15 : fs.length ≤ 15) :
    PE X (.Dict keys values pos) (tZ Γ W (fDisp live fs)) := by
  obtain ⟨trs, h1, h2, h3, h4, h5⟩ := prs_ok (pos := pos) h
  refine PE.imp (pe_disp h1 h2 h3 (fun z => h0 (by rw [z] at h4; exact List.length_eq_zero_iff.mp h4.symm)) (by rw [h4]; exact h15)) fun σ H Q t => ?_
  obtain ⟨G, ρ, μ, R, p⟩ := t
  intro P hP
  have l0 : Loose G (upd H P (.dK [])) P (.dK []) := Loose.new R.toRepM hP
  have R0 : Rep Γ G ρ μ σ (upd H P (.dK [])) := R.go (Step.other hP) (R.toRepM.other hP)
  refine h5 σ _ _ G ρ μ R0 ?_
  unfold fDisp at p
  cases e : dispGo fs ρ μ with
  | bad => rw [e] at p; exact p
  | ex er r m => rw [e] at p; exact fun c d G' H' s R' er' => p c d G' H' ((Step.other hP).trans s) R' er'
  | ok q =>
    rw [e, Zl.R.bind_ok] at p
    obtain ⟨⟨ks, vs⟩, μ1⟩ := q
    intro kus G1 H1 s1 R1 e1 r1
    have e1 : kus.map (·.1) = ks := e1
    have l1 := l0.step TabO.dK s1
    refine ⟨l1.here, kus, rfl, ?_, ?_⟩
    · have : kus.length = ks.length := by rw [← e1, List.length_map]
      have kl : ∀ {fs : List (Key × FE)} {μ : Mu} {q}, dispGo fs ρ μ = .ok q → q.1.1.length = fs.length := by
        intro fs
        induction fs with
        | nil => intro μ q h; cases h; rfl
        | cons a r ih =>
          intro μ q h
          obtain ⟨k, f⟩ := a
          have h : ((f ρ μ).bind fun p => (dispGo r ρ p.2).bind fun q => (Zl.R.ok ((k :: q.1.1, p.1 :: q.1.2), q.2) : Zl.R ((List Key × List Val) × Mu))) = .ok q := h
          cases e1 : f ρ μ with
          | bad => rw [e1] at h; cases h
          | ex a b c => rw [e1] at h; cases h
          | ok p =>
            rw [e1, Zl.R.bind_ok] at h
            cases e2 : dispGo r ρ p.2 with
            | bad => rw [e2] at h; cases h
            | ex a b c => rw [e2] at h; cases h
            | ok z =>
              rw [e2, Zl.R.bind_ok] at h
              cases h
              show _ + 1 = _ + 1
              rw [ih e2]
      have e2 := kl e
      rw [this]
      exact Nat.le_trans (Nat.le_of_eq e2) h15
    · have l2 : Loose G1 (upd H1 P (.dK (mergeK [] kus))) P (.dK (mergeK [] kus)) := l1.put
      have st : Step G H G1 (upd H1 P (.dK (mergeK [] kus))) := ((Step.other hP).trans s1).put hP
      have R2 : Rep Γ G1 ρ μ1 σ (upd H1 P (.dK (mergeK [] kus))) := ⟨l1.rep TabO.dK R1.toRepM, R1.slots, R1.rl, R1.n0, R1.top⟩
      obtain ⟨i1, i2⟩ := mergeKs_ok (G := G1) (kus := []) (vs := []) .nil r1
      rw [e1] at i1 i2
      exact l2.fin (ks := (mergeKs [] [] ks vs).1) (vs := (mergeKs [] [] ks vs).2) R2 st hP p i1 i2
end

/-! ## {k: v for ..} -/
def dcGo (g : FG) (t : FT) (fk fv : FE) : List D → Rho → Mu → List Key → List Val → R ((List Key × List Val) × Mu)
  | [], _, μ, ks, vs => .ok ((ks, vs), μ)
  | d :: ds, ρ, μ, ks, vs => (g (.d d) ρ μ).noex.bind fun q => (t q.1 q.2).noex.bind fun b => if b.1 = true then
      (fk q.1 b.2).noex.bind fun k => (fv q.1 k.2).noex.bind fun p => (match keyV k.1 with
        | some key => if ks.length < 1000000 then dcGo g t fk fv ds ρ p.2 (putKs ks vs key p.1).1 (putKs ks vs key p.1).2 else .bad
        | none => .bad)
    else dcGo g t fk fv ds ρ b.2 ks vs
def fDc (live : Bool) (it : FI) (g : FG) (t : FT) (fk fv : FE) (own : List Nat) : FE := fun ρ μ => (it ρ μ).bind fun p => (dcGo g t fk fv p.1 (ρ.wipe own) p.2 [] []).bind fun q => dcFin live q
section
variable {Γ : Gm} {W : WX} {X : Cx} {lv : Nat} {live : Bool} {it : FI} {gt : FG} {t : FT} {fk fv : FE} {vs : List Nat} {g : TG}
theorem keyV_rel {G : Gh} {u : V} {v : Val} {k : Key} (h : VRel Γ G u v) (e : keyV v = some k) : u = kV k := by
  cases v with
  | d x => exact keyD_ok (show Is Γ G.F u x from h) e
  | own j => cases e
theorem dc_ok (hg : TgOk Γ vs g gt) (σ : St) (H : Hp) (Q : VK) (q : tZ Γ W (fDc live it gt t fk fv vs) σ H Q) : tDc (tZI Γ W it) g (tZT Γ WF t) (tZ Γ WF fk) (tZ Γ WF fv) vs σ H Q := by
  obtain ⟨G, ρ, μ, R, p⟩ := q
  refine ⟨G, ρ, μ, R, postI_bind p fun J ds μ1 G1 H1 s1 R1 j p1 => ?_⟩
  intro P hP
  refine ⟨fun i m H2 => m = ds.length - i ∧ i ≤ ds.length ∧ ∃ G2 μ2 kus ks ws, Rep Γ G2 ρ μ2 σ H2 ∧ Step G1 H1 G2 H2 ∧ Loose G2 H2 P (.dK kus) ∧ kus.map (·.1) = ks ∧ VRelL Γ G2 (kus.map (·.2)) ws ∧
    Post Γ W G1 ρ σ H1 Q ((dcGo gt t fk fv (ds.drop i) (ρ.wipe vs) μ2 ks ws).bind fun q => dcFin live q), ⟨ds.length, by simp, Nat.zero_le _, G1, μ1, [], [], [], R1.go (Step.other hP) (R1.toRepM.other hP), Step.other hP, Loose.new R1.toRepM hP, rfl, .nil, by simpa using p1⟩, ?_⟩
  rintro i m H2 ⟨rfl, hi, G2, μ2, kus, ks, ws, R2, st2, l2, ek, rel, p2⟩
  by_cases hlt : i < ds.length
  · refine .inr ⟨j.go i G2.F H2 st2.fz R2.sub hlt, fun H' => ∃ G2 μ2 kus ks ws, Rep Γ G2 ρ μ2 σ H' ∧ Step G1 H1 G2 H' ∧ Loose G2 H' P (.dK kus) ∧ kus.map (·.1) = ks ∧ VRelL Γ G2 (kus.map (·.2)) ws ∧
      Post Γ W G1 ρ σ H1 Q ((dcGo gt t fk fv (ds.drop (i + 1)) (ρ.wipe vs) μ2 ks ws).bind fun q => dcFin live q), fun H' n => ⟨ds.length - (i + 1), by omega, rfl, hlt, n⟩, fun x H3 y => ?_⟩
    have hget : ds[i]? = some ds[i] := List.getElem?_eq_getElem hlt
    rw [List.drop_eq_getElem_cons hlt] at p2
    have key : ∃ G3, Step G2 H2 G3 H3 ∧ Rep Γ G3 ρ μ2 σ H3 ∧ Is Γ G3.F x ds[i] := by
      rcases j.yld i G2.F H2 x H3 _ st2.fz R2.sub hget y with ⟨e, h⟩ | ⟨p, o, hp, e, h⟩
      · subst e; exact ⟨G2, Step.refl _ _, R2, h⟩
      · subst e
        have st := R2.toRepM.stepFz (o := o) hp
        exact ⟨_, st, R2.go st (R2.toRepM.fzNew hp), h⟩
    obtain ⟨G3, st3, R3, hx⟩ := key
    have p3 : Post Γ W G1 ρ σ H1 Q (((gt (.d ds[i]) (ρ.wipe vs) μ2).noex.bind fun q => (t q.1 q.2).noex.bind fun b => if b.1 = true then
      (fk q.1 b.2).noex.bind fun k => (fv q.1 k.2).noex.bind fun p => (match keyV k.1 with
        | some key => if ks.length < 1000000 then dcGo gt t fk fv (ds.drop (i + 1)) (ρ.wipe vs) p.2 (putKs ks ws key p.1).1 (putKs ks ws key p.1).2 else .bad
        | none => .bad)
      else dcGo gt t fk fv (ds.drop (i + 1)) (ρ.wipe vs) b.2 ks ws).bind fun q => dcFin live q) := p2
    cases eg : gt (.d ds[i]) (ρ.wipe vs) μ2 with
    | bad => rw [eg] at p3; exact p3.elim
    | ex a b c => rw [eg] at p3; exact p3.elim
    | ok q =>
      rw [eg, Zl.R.noex_ok, Zl.R.bind_ok] at p3
      refine hg G3 (ρ.wipe vs) μ2 (wipe σ vs) H3 x ds[i] q _ (R3.wipe vs) hx eg fun σ3 R3' hw => ⟨hw.trans wipe_wipe, G3, q.1, q.2, R3', ?_⟩
      have R3m : Rep Γ G3 ρ q.2 σ H3 := ⟨R3'.toRepM, R3.slots, R3.rl, R3.n0, R3.top⟩
      cases et : t q.1 q.2 with
      | bad => rw [et] at p3; exact p3.elim
      | ex a b c => rw [et] at p3; exact p3.elim
      | ok b =>
        rw [et, Zl.R.noex_ok, Zl.R.bind_ok] at p3
        intro G4 H4 st4 R4
        have R4m : Rep Γ G4 ρ b.2 σ H4 := ⟨R4.toRepM, slots_step st4 R3m.slots, R3m.rl, by rw [st4.ts]; exact R3m.n0, by rw [st4.ts]; exact R3m.top⟩
        cases hb : b.1 with
        | false =>
          rw [hb, if_neg Bool.false_ne_true] at p3
          rw [if_neg Bool.false_ne_true]
          exact ⟨G4, b.2, kus, ks, ws, R4m, st2.trans (st3.trans st4), l2.step TabO.dK (st3.trans st4), ek, VRelL.mono (st3.trans st4) rel, p3⟩
        | true =>
          rw [hb, if_pos rfl] at p3
          rw [if_pos rfl]
          refine ⟨G4, q.1, b.2, R4, ?_⟩
          cases ee : fk q.1 b.2 with
          | bad => rw [ee] at p3; exact p3.elim
          | ex a b c => rw [ee] at p3; exact p3.elim
          | ok k =>
            rw [ee, Zl.R.noex_ok, Zl.R.bind_ok] at p3
            intro u G5 H5 st5 R5 ru
            have R5m : Rep Γ G5 ρ k.2 σ H5 := ⟨R5.toRepM, slots_step st5 R4m.slots, R4m.rl, by rw [st5.ts]; exact R4m.n0, by rw [st5.ts]; exact R4m.top⟩
            refine ⟨G5, q.1, k.2, R5, ?_⟩
            cases ef : fv q.1 k.2 with
            | bad => rw [ef] at p3; exact p3.elim
            | ex a b c => rw [ef] at p3; exact p3.elim
            | ok r =>
              rw [ef, Zl.R.noex_ok, Zl.R.bind_ok] at p3
              intro z G6 H6 st6 R6 rz
              have R6m : Rep Γ G6 ρ r.2 σ H6 := ⟨R6.toRepM, slots_step st6 R5m.slots, R5m.rl, by rw [st6.ts]; exact R5m.n0, by rw [st6.ts]; exact R5m.top⟩
              have st26 := st3.trans (st4.trans (st5.trans st6))
              have l6 := l2.step TabO.dK st26
              cases ekk : keyV k.1 with
              | none => simp only [ekk] at p3; exact p3.elim
              | some key =>
                simp only [ekk] at p3
                split at p3
                · rename_i hlen
                  have eu : u = kV key := keyV_rel ru ekk
                  have rel6 := VRelL.mono st26 rel
                  obtain ⟨i1, i2⟩ := putKs_ok (k := key) rel6 rz
                  rw [ek] at i1 i2
                  have hkl : kus.length = ks.length := by rw [← ek, List.length_map]
                  refine ⟨kus, key, eu, l6.here, by rw [hkl, sizeLine_eq]; omega, G6, r.2, putK kus key z, _, _, ⟨l6.rep TabO.dK R6.toRepM, R6m.slots, R6m.rl, R6m.n0, R6m.top⟩, (st2.trans st26).put hP, l6.put, i1, i2, p3⟩
                · exact p3.elim
  · have e : i = ds.length := by omega
    subst e
    rw [List.drop_length] at p2
    have p3 : Post Γ W G1 ρ σ H1 Q (dcFin live ((ks, ws), μ2)) := p2
    exact .inl ⟨j.stop _ G2.F H2 st2.fz R2.sub (Nat.le_refl _), l2.fin R2 st2 hP (by
      cases h : dcFin live ((ks, ws), μ2) with
      | bad => rw [h] at p3; exact p3
      | ok q => rw [h] at p3; exact p3
      | ex a b c => rw [h] at p3; exact p3) ek rel⟩
variable {kx vx tg iter : Expr} {ifs : List Expr} {scope : Scope} {own : List (Str × Nat)} {pos : Pos}
theorem ze_dc (c : Cz Γ W X lv) (hi : PI X tg iter (tZI Γ W it)) (ok : BlkOk X.N X.env.scope scope own) (hgt : TgOk Γ (own.map (·.2)) g gt)
    (hg : ∀ (s : Shared) (H : Hp) (C : Addr) (cl : List (Str × Addr)) (fp : List Addr), PG (X.blk s H scope (compEnvC scope cl C X.env) fp) tg g) (ht : ∀ (s : Shared) (H : Hp) (C : Addr) (cl : List (Str × Addr)) (fp : List Addr), PTs (X.blk s H scope (compEnvC scope cl C X.env) fp) ifs (tZT Γ WF t))
    (hk : ∀ (s : Shared) (H : Hp) (C : Addr) (cl : List (Str × Addr)) (fp : List Addr), PE (X.blk s H scope (compEnvC scope cl C X.env) fp) kx (tZ Γ WF fk))
    (he : ∀ (s : Shared) (H : Hp) (C : Addr) (cl : List (Str × Addr)) (fp : List Addr), PE (X.blk s H scope (compEnvC scope cl C X.env) fp) vx (tZ Γ WF fv)) (hs : ∀ x, foldedSetIterable iter X.env x = pure x) :
    PE X (.DictComp kx vx [⟨tg, iter, ifs, 0⟩] scope pos) (tZ Γ W (fDc live it gt t fk fv (own.map (·.2)))) := PE.imp (pe_dc c.calm c.nd hi ok hg ht hk he hs) fun σ H Q q => dc_ok hgt σ H Q q
end
end Zl
set_option Elab.async false
set_option linter.all false
set_option maxRecDepth 100000
set_option maxHeartbeats 4000000
namespace Zl
open PySem PySem.Spec L2 PySem.W
open PyProof.Rows hiding St

/-! ## enumerate(a tuple) -/
theorem meets_enumT (l : Addr) (o : Obj) (items : Array Value) (n : Nat) (hc : o.cls = .type "tuple") (hd : o.data = .seq items n) :
    Meets (Builtin.«enumerate.__new__» ⟨[.type "enumerate", .ref l], []⟩) (fun _ R s => s.heap.get? l = some o ∧
      R (.ok (.ret (.ref (s.heap.push { cls := .type "tuple_iterator", data := .fields #[.ref l, .int 0 0] }).objs.size)))
        { s with heap := (s.heap.push { cls := .type "tuple_iterator", data := .fields #[.ref l, .int 0 0] }).push { cls := .type "enumerate", data := .fields #[.none, .bool false, .ref s.heap.objs.size, rawInt 0, .none, .none] } }) :=
  .of_wp fun prog w A R s h => by
    obtain ⟨hp, g, d, tk, os⟩ := s; obtain ⟨hl, h⟩ := h
    have hsub := sub_enumerate
    have hL : Heap.IsTuple (Shared.heap ⟨hp, g, d, tk, os⟩) l items := ⟨_, hl, hc, n, hd⟩
    wp_walk using AutoSeq1.wpAny_loadPart' hl
    refine wpAny_stack_any fun st => wpAny_pure ?_
    split
    · rename_i c _ _ _ _ _
      cases (c == Value.type "enumerate")
      · wp_walk using AutoSeq1.wpAny_loadPart' hl, wpAny_pyIter_tuple hL
        exact ⟨_, rfl, h⟩
      · wp_walk using AutoSeq1.wpAny_loadPart' hl, wpAny_pyIter_tuple hL
        exact ⟨_, rfl, h⟩
    · wp_walk using AutoSeq1.wpAny_loadPart' hl, wpAny_pyIter_tuple hL
      exact ⟨_, rfl, h⟩
theorem call_enumT {prog : Program} {w : World} {A : Around} {E : Value → Shared → Prop} {s : Shared} {l : Addr} {items : Array Value} {Q : Value → Shared → Prop} (hL : s.heap.IsTuple l items)
    (h : ∀ h', IsEnum h' (s.heap.objs.size + 1) s.heap.objs.size 0 .none → h'.IsTupleIter s.heap.objs.size l 0 → h'.objs.size = s.heap.objs.size + 2 →
      (∀ b o, s.heap.get? b = some o → h'.get? b = some o) → Q (.ref (s.heap.objs.size + 1)) { s with heap := h' }) :
    wpAny (model prog w) A (call (.type "enumerate") [.ref l]) Q E s := by
  obtain ⟨o, hl, hc, n, hd⟩ := hL
  refine callType_new F.called_enumerate (by decide) (F.typeCall_enumerate_1 _) (F.newCall_enumerate_1 _) (fun obj => F.args_object_init_2 obj _) F.entry_enumerate_new
    (meets_enumT l o items n hc hd) ⟨hl, ?_⟩
  have hz : (s.heap.push { cls := .type "tuple_iterator", data := .fields #[.ref l, .int 0 0] }).objs.size = s.heap.objs.size + 1 := Heap.size_push ..
  show _ ∧ _
  rw [hz]
  have he : IsEnum ((s.heap.push { cls := .type "tuple_iterator", data := .fields #[.ref l, .int 0 0] }).push
      { cls := .type "enumerate", data := .fields #[.none, .bool false, .ref s.heap.objs.size, rawInt 0, .none, .none] }) (s.heap.objs.size + 1) s.heap.objs.size 0 .none := by
    have := Heap.get?_push_size (s.heap.push { cls := .type "tuple_iterator", data := .fields #[.ref l, .int 0 0] })
      (o := { cls := .type "enumerate", data := .fields #[.none, .bool false, .ref s.heap.objs.size, rawInt 0, .none, .none] }) rfl
    rw [hz] at this; exact this
  refine ⟨⟨_, he, rfl⟩, h _ he ⟨_, Heap.get?_push_of_some _ (Heap.get?_push_size _ rfl), rfl, rfl⟩ (by rw [Heap.size_push, hz]) fun b o x => Heap.get?_push_of_some _ (Heap.get?_push_of_some _ x)⟩
def Itu (K : PySem.W.Frag) (a : Addr) : It :=
  ⟨fun i H => ∃ (xs : List V) (x : V), SqT K H a xs ∧ xs[i]? = some x, fun i H v H' => ∃ T x, v = .ref T ∧ H T = none ∧ H' = upd H T (.tup [.int (i : Nat), x]) ∧ ∀ xs, SqT K H a xs → xs[i]? = some x, fun i H => ∃ xs : List V, SqT K H a xs ∧ xs.length ≤ i⟩
theorem turn_enumT {P : Program} {w : World} {K : PySem.W.Frag} {elts : List Expr} {kk : Nat} {tpos : Pos} (a e it : Addr) :
    Turn P w K (.Tuple elts kk tpos) (Itu K a) [e, it] e (fun i h => (∃ old, IsEnum h e it ((i : Nat) : Int) old) ∧ h.IsTupleIter it a i ∧ e ≠ it ∧ a ≠ it ∧ a ≠ e) where
  mem := by simp
  obj := fun i h st b hb => by
    obtain ⟨⟨old, he⟩, ⟨o, ho, hc, hd⟩, _⟩ := st
    have e' : b = e ∨ b = it := by simpa using hb
    rcases e' with z | z
    · rw [z]; exact ⟨_, he, fun v q => nomatch q⟩
    · rw [z]; exact ⟨o, ho, fun v q => by rw [hd] at q; cases q⟩
  keep := fun i h h' st k => let ⟨⟨old, he⟩, hi, hne⟩ := st; ⟨⟨old, k e (by simp) _ he⟩, hi.at fun o q => k it (by simp) o q, hne⟩
  item := by
    intro X hP hw hK hc i pins s σ H E I hf st hg
    subst hP hw hK
    obtain ⟨⟨old, he⟩, hit, hne, nai, nae⟩ := st
    obtain ⟨xs, x, hq, hx⟩ := hg
    obtain ⟨its, rv, p, hz⟩ := I.tuple hq
    obtain ⟨u, hu, ru⟩ := rv.get hx
    have hT0 : s.heap.IsTuple a its.toArray := p
    have hel : e < s.heap.objs.size := Heap.lt_size he
    have hil : it < s.heap.objs.size := by obtain ⟨_, q, _⟩ := hit; exact Heap.lt_size q
    have hlt : i < its.toArray.size := by
      have := (List.getElem?_eq_some_iff.mp hu).1
      simpa using this
    refine wpAny_pyNext_enum_itemD (Draws.tuple (A := X.A.in1) (I.ok.hd hc) it a nai its.toArray) he ⟨hit, hT0⟩ hlt hne (by simp [hne, Ne.symm nae]) fun v h' tk hP ho hst hT hsz hk => ?_
    have hv : v = u := by
      have e1 : its[i]? = some v := by simpa using hP
      rw [hu] at e1; cases e1; rfl
    subst hv
    refine ⟨_, rfl, wpAny_letOwnedTupleGo_enum (s := { s with heap := h', toks := tk + 1 }) ho fun h'' he' sb => ?_⟩
    have hT2 : h''.get? s.heap.objs.size = some { cls := .type "tuple", data := .seq #[.int i tk, v] } := (sb.2 _ (Nat.ne_of_gt hel)).trans hT
    have new : ObjOk X.prog X.w (upd H s.heap.objs.size (.tup [.int (i : Nat), x])) h'' s.heap.objs.size (.tup [.int (i : Nat), x]) :=
      ⟨by show 2 ≤ sizeLine; decide, [.int i tk, v], .cons ⟨_, rfl⟩ (.cons ru .nil), ⟨_, hT2, rfl, _, rfl⟩⟩
    have I1 : Inv X pins σ (upd H s.heap.objs.size (.tup [.int (i : Nat), x])) { s with heap := h'', toks := tk + 1 } :=
      I.turnedNew (ch := [e, it]) (fun b ob hb q => (sb.2 b (fun z => hb (by simp [z]))).trans (hk b ob (fun z => hb (by simp [z])) (fun z => hb (by simp [z])) q)) hf (Nat.le_refl _) new
    refine ⟨.ref s.heap.objs.size, _, I1, rfl, ⟨_, x, rfl, I.hok.fresh (Nat.le_refl _), rfl, fun ys hy => by rw [I.tuple_inj hy hq]; exact hx⟩, ⟨⟨v, ?_⟩, hst.1.at fun o q => (sb.2 it (Ne.symm hne)).trans q, hne, nai, nae⟩, fun b hb => ?_⟩
    · have e1 : ((i + 1 : Nat) : Int) = (i : Int) + 1 := by omega
      rw [e1]; exact he'
    · have hb' : b < s.heap.objs.size := by
        have e' : b = e ∨ b = it := by simpa using hb
        rcases e' with z | z
        · rw [z]; exact hel
        · rw [z]; exact hil
      rw [upd_ne (Nat.ne_of_lt hb')]
      exact (hf b hb).1
  done := by
    intro X hP hw hK hc i pins s σ H E I hf st hg
    subst hP hw hK
    obtain ⟨⟨old, he⟩, hit, hne, nai, nae⟩ := st
    obtain ⟨xs, hq, hx⟩ := hg
    obtain ⟨its, rv, p, hz⟩ := I.tuple hq
    obtain ⟨f0, f1, f2, f3, f4, f5⟩ := hf it (by simp)
    have hl := rv.length
    have hT0 : s.heap.IsTuple a its.toArray := p
    have ex : ∃ k, k = its.toArray.size ∧ k ≤ i := ⟨_, rfl, by simp; omega⟩
    -- the walk's own end: at i all are out
    refine ?_
    have hnone : its.toArray[i]? = none := by simp; omega
    have hT : s.TypeIs (.ref e) "enumerate" := ⟨_, he, rfl⟩
    unfold pyNext
    refine wpAny_bind (wpAny_attempt (wpAny_callSpecial?_slot (name := Str.ofString "__next__") hT F.slot_enumerate_next
      (wpAny_call_entry F.slot_enumerate_next hT F.entry_enumerate_next ?_ (F.args_enumerate_next_1 _))))
    show wpAny _ _ (field (.ref e) 2 >>= _) _ _ _
    refine wpAny_bind (wpAny_field he rfl (x := .ref it) rfl ?_)
    refine wpAny_bind (wpAny_nextOf_tuple_end (I.ok.hd hc) hit hT0 hnone fun h' x he' hx' => ?_)
    obtain ⟨o, ho, hc'⟩ := hx'
    refine wpAny_bind (wpAny_isInstance (T := "StopIteration") (b := true) ⟨o, ho, hc'⟩ isSubtype_stop ?_)
    exact wpAny_pure ⟨rfl, I.turned (t' := s.toks) (fun b o hb q => he' b o hb q) f0 f1 f3 f4 f5⟩
  self := fun A i s Q E st h => let ⟨⟨_, he⟩, _⟩ := st; wpAny_pyIter_enum he h
def iEnumT (K : PySem.W.Frag) (ta : TA) : TI := fun σ H R => ta σ H fun vs H1 => ∃ a xs, vs = [.ref a] ∧ SqT K H1 a xs ∧ R (Itu K a) H1
/-- list or tuple -/
def iEnumA (K : PySem.W.Frag) (ta : TA) : TI := fun σ H R => ta σ H fun vs H1 => ∃ a xs, vs = [.ref a] ∧ ((SqL K H1 a xs ∧ R (Ite K a) H1) ∨ (SqT K H1 a xs ∧ R (Itu K a) H1))
theorem pi_enumA {X : Cx} {e : Expr} {ta : TA} {p pos tpos : Pos} {elts : List Expr} {kk : Nat} (hg : Gl X "enumerate") (hm : X.mg "enumerate" = none) (ha : PA X [e] ta) (hs : starEach [e] X.env = [(false, eval e X.env)]) :
    PI X (.Tuple elts kk tpos) (.Call (.Name "enumerate" p) [e] [] pos) (iEnumA X.K ta) := by
  refine ⟨fun pins s σ H R I h => ?_⟩
  refine Call_ (ld_blt I hg hm boot_enumerate (PyProof.Rows.callWith_type1 (thn (ha.run pos pins s σ H _ I h) fun us s1 ⟨vs, H1, I1, r1, q1⟩ => ?_) hs rfl))
  obtain ⟨a, xs, ex, q⟩ := q1
  subst ex
  cases r1 with
  | cons r rr =>
    cases rr
    cases r
    rcases q with ⟨hq, q⟩ | ⟨hq, q⟩
    · obtain ⟨its, rv, p', hz⟩ := I1.list hq
      refine call_enumerate_list p'.isList fun h' he hit hsz hk => wpAny_pyIter_enum he ?_
      have I2 : Inv X pins σ H1 { s1 with heap := h' } := I1.kept (t' := s1.toks) hk
      refine ⟨s1.heap.objs.size + 1, [s1.heap.objs.size + 1, s1.heap.objs.size], _, _, H1, rfl, I2, turn_enum a (s1.heap.objs.size + 1) s1.heap.objs.size, ⟨⟨.none, he⟩, hit, Nat.succ_ne_self _⟩, fun b hb => ?_, q⟩
      have e' : b = s1.heap.objs.size + 1 ∨ b = s1.heap.objs.size := by simpa using hb
      have hle : s1.heap.objs.size ≤ b := by
        rcases e' with z | z
        · rw [z]; exact Nat.le_add_right _ _
        · rw [z]; exact Nat.le_refl _
      exact I1.fpOk hle (I1.hok.fresh hle)
    · obtain ⟨its, rv, p', hz⟩ := I1.tuple hq
      have hT0 : s1.heap.IsTuple a its.toArray := p'
      have hal : a < s1.heap.objs.size := by obtain ⟨_, q, _⟩ := hT0; exact Heap.lt_size q
      refine call_enumT hT0 fun h' he hit hsz hk => wpAny_pyIter_enum he ?_
      have I2 : Inv X pins σ H1 { s1 with heap := h' } := I1.kept (t' := s1.toks) hk
      refine ⟨s1.heap.objs.size + 1, [s1.heap.objs.size + 1, s1.heap.objs.size], _, _, H1, rfl, I2, turn_enumT a (s1.heap.objs.size + 1) s1.heap.objs.size, ⟨⟨.none, he⟩, hit, Nat.succ_ne_self _, Nat.ne_of_lt hal, Nat.ne_of_lt (Nat.lt_succ_of_lt hal)⟩, fun b hb => ?_, q⟩
      have e' : b = s1.heap.objs.size + 1 ∨ b = s1.heap.objs.size := by simpa using hb
      have hle : s1.heap.objs.size ≤ b := by
        rcases e' with z | z
        · rw [z]; exact Nat.le_add_right _ _
        · rw [z]; exact Nat.le_refl _
      exact I1.fpOk hle (I1.hok.fresh hle)
section
variable {Γ : Gm} {W : WX} {X : Cx} {lv : Nat}
theorem itu_ok {F : Hp} {al : Addr} {us : List V} {ds : List D} (h : ∀ H, Same F H → SqT Γ.K H al us) (l : IsL Γ F us ds) : ItOk Γ (Itu Γ.K al) (enumD 0 ds) F := by
  refine ⟨fun i F' H s s' hi => ?_, fun i F' H s s' hi => ⟨us, h _ (fun a o e => s' _ _ (s _ _ e)), by rw [l.length]; rw [enumD_length] at hi; exact hi⟩, fun i F' H x H' d s s' hd y => .inr ?_⟩
  · rw [enumD_length] at hi
    have hi' : i < us.length := by rw [l.length]; exact hi
    exact ⟨us, us[i], h _ (fun a o e => s' _ _ (s _ _ e)), List.getElem?_eq_getElem hi'⟩
  · obtain ⟨T, z, ex, hT, eH, y⟩ := y
    rw [enumD_get] at hd
    cases q : ds[i]? with
    | none => rw [q] at hd; cases hd
    | some d0 =>
      rw [q] at hd
      cases hd
      obtain ⟨v, hv, iv⟩ := l.get q
      have w := y us (h _ (fun a o e => s' _ _ (s _ _ e)))
      rw [hv] at w
      cases w
      refine ⟨T, _, hT, eH, ?_⟩
      have nF : F' T = none := by
        cases e : F' T with
        | none => rfl
        | some o => rw [s' T o e] at hT; cases hT
      unfold Is
      exact ⟨T, _, ex, upd_same, IsL.cons (by unfold Is; simp) (IsL.cons (Is.mono (same_upd nF) _ _ (Is.mono s _ _ iv)) IsL.nil)⟩
def fiEnumA (g : FA) : FI := fun ρ μ => (g ρ μ).bind fun p => match p.1 with
  | [.d (.lst ds)] => .ok (enumD 0 ds, p.2)
  | [.d (.tup ds)] => .ok (enumD 0 ds, p.2)
  | _ => .bad
theorem zi_enumA {es : List Expr} {kk : Nat} {tp p pos : Pos} {a : Expr} {t : FA} (c : Cz Γ W X lv) (hg : Gl X "enumerate") (hm : X.mg "enumerate" = none) (ha : PA X [a] (tZA Γ W t)) (hs : starEach [a] X.env = [(false, eval a X.env)]) :
    PI X (.Tuple es kk tp) (.Call (.Name "enumerate" p) [a] [] pos) (tZI Γ W (fiEnumA t)) := by
  refine PI.imp (pi_enumA hg hm ha hs) fun σ H Q q => ?_
  obtain ⟨G, ρ, μ, R, p⟩ := q
  refine ⟨G, ρ, μ, R, PostA.bindI p fun us vs μ1 G1 H1 s1 R1 r1 p1 => ?_⟩
  simp only at p1
  split at p1
  · cases r1 with
    | cons h1 r1 =>
      cases r1
      have r : Is Γ G1.F _ _ := h1
      unfold Is at r
      obtain ⟨al, us, ea, h, l⟩ := r
      exact ⟨al, us, by rw [ea], .inl ⟨SqL.of (R1.sub _ _ h), by rw [c.K]; exact PostI.here R1 p1 (ite_ok h l)⟩⟩
  · cases r1 with
    | cons h1 r1 =>
      cases r1
      have r : Is Γ G1.F _ _ := h1
      unfold Is at r
      obtain ⟨al, us, ea, h, l⟩ := r
      exact ⟨al, us, by rw [ea], .inr ⟨SqT.of (R1.sub _ _ h), by rw [c.K]; exact PostI.here R1 p1 (itu_ok (fun H s => SqT.of (s _ _ h)) l)⟩⟩
  · exact p1.elim
end
end Zl
set_option Elab.async false
set_option linter.all false
set_option maxRecDepth 100000
set_option maxHeartbeats 4000000
namespace Zl
open PySem PySem.Spec L2 PySem.W
open PyProof.Rows hiding St

/-! ## e is True, e is not True -/
section
variable {Γ : Gm} {W : WX} {X : Cx} {lv : Nat} {f : FE} {e : Expr} {pos : Pos}
def oIsB (k neg : Bool) : Val → Mu → R (Val × Mu)
  | .d (.bl b), μ => .ok (.d (.bl (if neg = true then !(b == k) else (b == k))), μ)
  | .d .non, μ => .ok (.d (.bl neg), μ)
  | _, _ => .bad
theorem bool_beq (b k : Bool) : (Value.bool b == Value.bool k) = (b == k) := by cases b <;> cases k <;> rfl
theorem pc_isB {k : Bool} {j pos'} (he : PE X e (tZ Γ W f)) : PC X .Is e (.Constant (.bool k) j pos') (tZ Γ W (fUn (oIsB k false) f)) := by
  refine ⟨fun pins s σ H Q I t => ?_⟩
  obtain ⟨G, ρ, μ, R, p⟩ := t
  refine thn (he.run pins s σ H (fun x H1 => (∃ b, x = .bl b ∧ Q (.bl (b == k)) H1) ∨ (x = .non ∧ Q (.bl false) H1)) I ⟨G, ρ, μ, R, Post.bind p fun u v μ1 G1 H1 s1 R1 r1 p1 => ?_⟩) fun v s1 ⟨x, H1, I1, r1, q1⟩ => ?_
  · unfold oIsB at p1
    simp only at p1
    split at p1
    · exact .inl ⟨_, r1.bl_, by simpa using Post.bl R1 p1⟩
    · exact .inr ⟨r1.non_, Post.bl R1 p1⟩
    · exact p1.elim
  · refine Constant_bool ?_
    rcases q1 with ⟨b, rfl, q⟩ | ⟨rfl, q⟩
    · cases r1
      exact wpAny_is_plain (by cases b <;> cases k <;> rfl) ⟨.bl _, H1, I1, by rw [bool_beq]; rfl, q⟩
    · cases r1
      exact wpAny_is_plain (by cases k <;> rfl) ⟨.bl _, H1, I1, by cases k <;> rfl, q⟩
theorem ze_isB {k : Bool} {j pos'} (he : PE X e (tZ Γ W f)) : PE X (.Compare e [.Is] [.Constant (.bool k) j pos'] pos) (tZ Γ W (fUn (oIsB k false) f)) := pe_cmp (pc_isB he) rfl
theorem zt_isB {k : Bool} {j pos'} (he : PE X e (tZ Γ W f)) : PT X (.Compare e [.Is] [.Constant (.bool k) j pos'] pos) (tZT Γ W (fT (fUn (oIsB k false) f))) := PT.imp (pt_cmp (pc_isB he) rfl) fun σ H Q t => fT_ok t
theorem pc_notB {k : Bool} {j pos'} (he : PE X e (tZ Γ W f)) : PC X .IsNot e (.Constant (.bool k) j pos') (tZ Γ W (fUn (oIsB k true) f)) := by
  refine ⟨fun pins s σ H Q I t => ?_⟩
  obtain ⟨G, ρ, μ, R, p⟩ := t
  refine thn (he.run pins s σ H (fun x H1 => (∃ b, x = .bl b ∧ Q (.bl (!(b == k))) H1) ∨ (x = .non ∧ Q (.bl true) H1)) I ⟨G, ρ, μ, R, Post.bind p fun u v μ1 G1 H1 s1 R1 r1 p1 => ?_⟩) fun v s1 ⟨x, H1, I1, r1, q1⟩ => ?_
  · unfold oIsB at p1
    simp only at p1
    split at p1
    · exact .inl ⟨_, r1.bl_, by simpa using Post.bl R1 p1⟩
    · exact .inr ⟨r1.non_, Post.bl R1 p1⟩
    · exact p1.elim
  · refine Constant_bool ?_
    rcases q1 with ⟨b, rfl, q⟩ | ⟨rfl, q⟩
    · cases r1
      exact wpAny_isNot_plain (by cases b <;> cases k <;> rfl) ⟨.bl _, H1, I1, by rw [bool_beq]; rfl, q⟩
    · cases r1
      exact wpAny_isNot_plain (by cases k <;> rfl) ⟨.bl _, H1, I1, by cases k <;> rfl, q⟩
theorem ze_notB {k : Bool} {j pos'} (he : PE X e (tZ Γ W f)) : PE X (.Compare e [.IsNot] [.Constant (.bool k) j pos'] pos) (tZ Γ W (fUn (oIsB k true) f)) := pe_cmp (pc_notB he) rfl
theorem zt_notB {k : Bool} {j pos'} (he : PE X e (tZ Γ W f)) : PT X (.Compare e [.IsNot] [.Constant (.bool k) j pos'] pos) (tZT Γ W (fT (fUn (oIsB k true) f))) := PT.imp (pt_cmp (pc_notB he) rfl) fun σ H Q t => fT_ok t
/-! ## len(o) by an own __len__ -/
def rLenO (Γ : Gm) (P : Program) (w : World) (mg : Str → Option Value) (base : Heap) (lv : Nat) : List V → Hp → VK → Prop := fun xs H Q => ∃ a C dx fus f fd ps sp, xs = [V.ref a] ∧ H a = some (.ins C dx fus) ∧ Cls Γ.K C ∧ Meth Γ.K C "__len__" f ∧ FnG P w Γ.K mg base lv f fd ps sp ∧ Binds Γ.K fd ps [] ∧
  sp [.ref a] H (fun v H' => ∃ n : Nat, v = .int n ∧ n < 1000000 ∧ Q (.int n) H') E0
theorem call_lenO (c : Cz Γ W X (lv + 1)) : CallR X (.builtin "len") (rLenO Γ X.prog X.w X.mg X.base lv) := by
  intro pins s σ H xs us Q I r h
  obtain ⟨a, C, dx, fus, f, fd, ps, sp, rfl, ha, hc, hm, F, hb, q⟩ := h
  obtain ⟨u, rfl, rx⟩ := vals1 r
  obtain rfl : u = Value.ref a := rx
  rw [← c.K] at hc hm F hb
  obtain ⟨mA, O, _, _, _, _⟩ := ins_get I.hok ha
  obtain ⟨od, J, _⟩ := O.look
  refine Calls.call_function_entry kind_len plain_len entry_len (args_len1 _) ?_
  unfold Builtin.«len»
  refine wpAny_bind (m := oneArg "len" _) (wpAny_pure ?_)
  refine wpAny_bind (m := callSpecial? (.ref a) (Str.ofString "__len__")) (PySem.W.special_fn I.kIn J hm.at_ (beq_iff_eq.mp hm.fn) (wpAny_call ?_))
  refine codeAny_mono (F.run X.A.in1 X.stack s H ⟨[.ref a], []⟩ ([Value.ref a] ++ []) [V.ref a] _ E0 c.room.in1 c.gd I.env0.in1 (hb _ [.ref a] I.kIn ((F.len _ _ _ _ q).symm ▸ rfl)) (.cons (show RelV (V.ref a) (Value.ref a) from rfl) .nil) q) fun q s' out => ?_
  cases q with
  | error er =>
    obtain ⟨_, _, _, _, _, _, _, _, _, _, _, _, z⟩ := (show L2.CX X.prog X.w X.stack H s E0 er s' from out)
    exact z.elim
  | ok fl =>
    cases fl with
    | ret u =>
      obtain ⟨v, H', J', rv, n, ev, hn, z⟩ := I.after out
      subst ev
      obtain ⟨t, eu⟩ := (show ∃ t, u = Value.int n t from rv)
      subst eu
      refine wpAny_bind (wpAny_holding (wpAny_pure ?_))
      refine wpAny_bind (wpAny_letGo ?_)
      show wpAny _ _ (if ((n : Nat) : Int) < 0 then _ else _) _ _ _
      rw [if_neg (by omega)]
      show wpAny _ _ (if ((n : Nat) : Int) ≥ 2 ^ 63 then _ else _) _ _ _
      rw [if_neg (by omega)]
      exact wpAny_bind (wpAny_mkInt (wpAny_pure ⟨_, rfl, V.int n, H', J'.tok _, ⟨_, rfl⟩, z⟩))
    | next => exact out.elim
    | brk => exact out.elim
    | cont => exact out.elim
def oLenO (Δ : MT) : List Val → Mu → R (Val × Mu)
  | [v], μ => (match insV μ v with
    | some (k, _, _) => (match Δ k with
      | some (n, Fn) => if n = 1 then (Fn [v] μ).noex.bind fun q => (match q.1 with
        | .d (.int i) => if 0 ≤ i ∧ i < 1000000 then .ok (.d (.int i), q.2) else .bad
        | _ => .bad) else .bad
      | none => .bad)
    | none => oLen [v] μ)
  | _, _ => .bad
theorem oLenO_ok {P : Program} {w : World} {mg : Str → Option Value} {base : Heap} {Δ : MT} (F : MtZ Γ P w mg base lv "__len__" Δ) : CB Γ W (fun xs H Q => rLenA Γ.K xs H Q ∨ rLenO Γ P w mg base lv xs H Q) (oLenO Δ) := by
  intro G ρ μ σ H Q us vs R r p
  unfold oLenO at p
  split at p
  · rename_i v
    cases ei : insV μ v with
    | none => simp only [ei] at p; exact .inl (oLen_ok G ρ μ σ H Q us [v] R r p)
    | some t =>
      obtain ⟨k, ns, ws⟩ := t
      simp only [ei] at p
      cases hD : Δ k with
      | none => simp only [hD] at p; exact p.elim
      | some q =>
        obtain ⟨n, Fn⟩ := q
        simp only [hD] at p
        split at p
        · rename_i hn
          subst hn
          cases r with
          | cons h t =>
            cases t
            obtain ⟨a, C, dx, fus, h1, h2, h3, h4, h5⟩ := insV_ok R.toRepM h ei
            obtain ⟨f, fd, ps, hc, hm, hF, hb⟩ := F.ex k 1 Fn C hD h2
            refine .inr ⟨a, C, dx, fus, f, fd, ps, _, by rw [h1], h3, hc, hm, hF, hb, rfl, G, μ, [v], R.toRepM, .cons (by rw [← h1]; exact h) .nil, ?_⟩
            cases ef : Fn [v] μ with
            | bad => rw [ef] at p; exact p
            | ex _ _ _ => rw [ef] at p; exact p.elim
            | ok z =>
              rw [ef, Zl.R.noex_ok, Zl.R.bind_ok] at p
              intro u G' H' st R' hu
              split at p
              · rename_i i ez
                split at p
                · rename_i hi
                  rw [ez] at hu
                  have eu := hu.int_
                  have en : ((i.toNat : Nat) : Int) = i := by omega
                  refine ⟨i.toNat, by rw [en]; exact eu, by omega, ?_⟩
                  have q := Post.int (R.go st R') (Post.step st p)
                  rw [en]; exact q
                · exact p.elim
              · exact p.elim
        · exact p.elim
  · exact p.elim
theorem call_lenOA (c : Cz Γ W X (lv + 1)) : CallR X (.builtin "len") (fun xs H Q => rLenA X.K xs H Q ∨ rLenO Γ X.prog X.w X.mg X.base lv xs H Q) := call_lenA.or (call_lenO c)

/-! ## repr -/
def okRepr (v : D) : Bool := match D.py v with
  | some p => p.showable && !p.hasDict && decide (p.depth ≤ 60) && decide (p.shown.length ≤ 1000000) && (match v with
    | .tup _ => true
    | .kt _ => true
    | .lst _ => true
    | _ => false)
  | none => false
def rReprD (Γ : Gm) : List V → Hp → VK → Prop := fun xs H Q => ∃ (a : Addr) (d : D) (F : Hp), xs = [.ref a] ∧ Same F H ∧ Is Γ F (.ref a) d ∧ okRepr d = true ∧ Q (.str (pyOf d).shown) H
theorem call_reprD (c : Cz Γ W X lv) : CallR X (.builtin "repr") (rReprD Γ) := by
  intro pins s σ H xs us Q I r h
  obtain ⟨a, d, F, rfl, hF, hi, ok, q⟩ := h
  obtain ⟨u, rfl, rx⟩ := vals1 r
  obtain rfl : u = Value.ref a := rx
  unfold okRepr at ok
  cases e : D.py d with
  | none => rw [e] at ok; cases ok
  | some p =>
    rw [e] at ok
    simp only [Bool.and_eq_true] at ok
    obtain ⟨⟨⟨⟨h1, h2⟩, h3⟩, h4⟩, _⟩ := ok
    have ep : pyOf d = p := by unfold pyOf; rw [e]; rfl
    have dp := D.dp (Γ := Γ) hF d (.ref a) p hi e
    rw [← c.K] at dp
    obtain ⟨as, rr⟩ := Dp.reads I p (.ref a) (.ref a) dp rfl
    have h3 := of_decide_eq_true h3
    have h4 := of_decide_eq_true h4
    have hu := c.hu
    refine repr_of_reads' rr h1 (fun z => ?_) c.gd (by omega) (fun _ _ e => e) (fun h' u tk hk => ⟨.str p.shown, H, I.kept (t' := tk) hk, ⟨u, rfl⟩, by rw [← ep]; exact q⟩) (by rw [sizeLine_eq]; omega)
    rw [z] at h2; cases h2
def oRepr : List Val → Mu → R (Val × Mu)
  | [.d (.int i)], μ => if i.natAbs.log2 < 1920 then .ok (.d (.str (toString i)), μ) else .bad
  | [.d v], μ => if okRepr v = true then .ok (.d (.str (pyOf v).shown), μ) else .bad
  | _, _ => .bad
abbrev rReprA (Γ : Gm) : List V → Hp → VK → Prop := fun xs H Q => (∃ i, xs = [V.int i] ∧ i.natAbs.log2 < 1920 ∧ Q (.str (toString i)) H) ∨ rReprD Γ xs H Q
theorem call_reprA (c : Cz Γ W X lv) : CallR X (.builtin "repr") (rReprA Γ) := CallR.or SkE.call_repr_int (call_reprD c)
theorem oRepr_ok : CB Γ W (rReprA Γ) oRepr := by
  intro G ρ μ σ H Q us vs R r p
  unfold oRepr at p
  split at p
  · split at p
    · rename_i hz
      cases r with
      | cons h t => cases t; exact .inl ⟨_, by rw [h.int_], hz, Post.str R p⟩
    · exact p.elim
  · rename_i v _
    split at p
    · rename_i hz
      cases r with
      | cons h t =>
        cases t
        rename_i u0
        have key : ∃ a, u0 = V.ref a := by
          have ok := hz
          unfold okRepr at ok
          cases e : D.py v with
          | none => rw [e] at ok; cases ok
          | some p =>
            rw [e] at ok
            simp only [Bool.and_eq_true] at ok
            have h := h
            cases v with
            | tup ds => obtain ⟨a, us, ea, _⟩ := VRel.tup_ R.toRepM h; exact ⟨a, ea⟩
            | kt ds => obtain ⟨a, us, ea, _⟩ := VRel.kt_ R.toRepM h; exact ⟨a, ea⟩
            | lst ds => obtain ⟨a, us, ea, _⟩ := VRel.lst_ R.toRepM h; exact ⟨a, ea⟩
            | _ => cases ok.2
        obtain ⟨a, ea⟩ := key
        exact .inr ⟨a, v, G.F, by rw [ea], R.sub, by rw [← ea]; exact h, hz, Post.str R p⟩
    · exact p.elim
  · exact p.elim

/-! ## f(k = e, ..) -/
def pick {α : Type} (is : List Nat) (l : List α) : List α := is.filterMap fun i => l[i]?
theorem pick_vals : ∀ {is : List Nat} {vs : List V} {us : List Value}, Vals vs us → Vals (pick is vs) (pick is us)
  | [], _, _, _ => .nil
  | i :: is, vs, us, r => by
    have ih := pick_vals (is := is) r
    unfold pick at ih ⊢
    rw [List.filterMap_cons, List.filterMap_cons]
    cases e : vs[i]? with
    | none =>
      have : us[i]? = none := by
        rw [List.getElem?_eq_none_iff] at e ⊢
        rw [← r.length]; exact e
      rw [this]; exact ih
    | some v =>
      obtain ⟨u, hu, hr⟩ := r.get e
      rw [hu]
      exact .cons hr ih
theorem pick_rel {G : Gh} : ∀ {is : List Nat} {vs : List V} {us : List Val}, VRelL Γ G vs us → VRelL Γ G (pick is vs) (pick is us)
  | [], _, _, _ => .nil
  | i :: is, vs, us, r => by
    have ih := pick_rel (is := is) r
    unfold pick at ih ⊢
    rw [List.filterMap_cons, List.filterMap_cons]
    have hl := Paired.length r
    cases e : us[i]? with
    | none =>
      have : vs[i]? = none := by
        rw [List.getElem?_eq_none_iff] at e ⊢
        omega
      rw [this]; exact ih
    | some v =>
      obtain ⟨u, hu, hr⟩ := rel_getV r e
      rw [hu]
      exact .cons hr ih
/-- what the head tells of a def called with keywords alone -/
structure KwZ (K : PySem.W.Frag) (fd : FuncData) (ps ks : List Str) (is : List Nat) : Prop where
  ok : KBn K fd ps 0 ks (fun us ws => pick is (us ++ ws)) (fun vs zs => pick is (vs ++ zs))
theorem kw_of {K : PySem.W.Frag} {x qual : Str} {params : Arguments} {body : List Stmt} {scope : Scope} {f : Addr} {fd : FuncData} {ps ks : List Str} {is : List Nat} (F : FunD K x qual params body scope [] [] f fd)
    (h : ∀ (kV doc pm : Value) (an : Option Addr) (cdv ct : Value) (ws : List Value), ws.length = ks.length → bindArgs (PySem.W.fnOf x qual params body scope .none kV doc pm an cdv ct) ⟨[], ks.zip ws⟩ = pure (ps.zip (pick is ws))) : KwZ K fd ps ks is := by
  obtain ⟨oc, od, dV, kV, doc, pm, an, cdv, ct, osl, rfl, lk, hcd, hD, hK⟩ := F.ex
  rcases hD with ⟨_, rfl⟩ | ⟨e, _⟩
  · refine ⟨⟨fun s us ws _ l1 l2 => ?_, fun r1 r2 => pick_vals (r1.append r2)⟩⟩
    have : us = [] := List.length_eq_zero_iff.mp l1
    subst this
    exact .of_eq (h kV doc pm an cdv ct ws l2)
  · exact absurd rfl e
structure FnK (Γ : Gm) (P : Program) (w : World) (mg : Str → Option Value) (base : Heap) (lv : Nat) (f : Addr) (n : Nat) (Fn : FF) (ks : List Str) (is : List Nat) : Prop where
  ex : ∃ fd ps, FnG P w Γ.K mg base lv f fd ps (spZ Γ n Fn) ∧ KwZ Γ.K fd ps ks is
  kp : PySem.W.keepIn Γ.K (.ref f) = true
def fCallK (n m : Nat) (Fn : FF) (is : List Nat) (g : FA) : FE := fun ρ μ => (g ρ μ).bind fun p => if p.1.length = m ∧ (pick is p.1).length = n then (Fn (pick is p.1) p.2).at ρ else .bad
/-- the keywords' values -/
theorem zk_nil : PK X [] (tZA Γ W fANil) := ⟨fun pos pins s σ H Q I ⟨G, ρ, μ, R, p⟩ => pk_nil.run pos pins s σ H Q I (p [] G H (Step.refl G H) R .nil)⟩
theorem zk_cons {nm : Option Str} {kpos : Pos} {kws : List Keyword} {g : FA} (ha : PE X e (tZ Γ W f)) (hr : PK X kws (tZA Γ W g)) : PK X (⟨nm, e, kpos⟩ :: kws) (tZA Γ W (fACons f g)) := by
  refine ⟨fun pos pins s σ H Q I t => (pk_cons ha hr).run pos pins s σ H Q I ?_⟩
  obtain ⟨G, ρ, μ, R, p⟩ := t
  refine ⟨G, ρ, μ, R, Post.bindA p fun x v μ1 G1 H1 s1 R1 r1 p1 => ⟨G1, ρ, μ1, R1, PostA.bindA p1 fun us vs μ2 G2 H2 s2 R2 r2 p2 => ?_⟩⟩
  exact p2 (x :: us) G2 H2 (Step.refl _ _) R2 (.cons (VRel.mono s2 r1) r2)
theorem ze_callK {x : Str} {p : Pos} {fa : Addr} {n : Nat} {Fn : FF} {ks : List Str} {is : List Nat} {kws : List Keyword} {g : FA} (c : Cz Γ W X lv) (F : FnK Γ X.prog X.w X.mg X.base lv fa n Fn ks is) (hg : Gl X x) (hm : X.mg x = some (.ref fa)) (hkw : PK X kws (tZA Γ W g)) (hdb : (x == ("__debug__" : Str)) = false)
    (hall : (backToKw pos (keywordEach kws X.env)).all (·.1.isSome) = true) (hks : (backToKw pos (keywordEach kws X.env)).filterMap (·.1) = ks)
    (hpl : ((backTo pos (starEach [] X.env)).any (·.1) || (backToKw pos (keywordEach kws X.env)).any (·.1.isNone)) = false) :
    PE X (.Call (.Name x p) [] kws pos) (tZ Γ W (fCallK n ks.length Fn is g)) := by
  obtain ⟨fd, ps, h1, h2⟩ := F.ex
  have h2 := h2.ok
  have kp := F.kp
  rw [← c.K] at h1 h2 kp
  refine ⟨fun pins s σ H Q I t => ?_⟩
  obtain ⟨G, ρ, μ, R, p⟩ := t
  refine wpAny_Call_Name_kw (ld_glob I hg hm ?_ hdb)
  refine PySem.W.callWith_KW0 (h₀ := X.base) I.ok.mod.kin kp hall ?_ hpl
  refine thn (hkw.run pos pins s σ H (fun zs H1 => zs.length = ks.length ∧ spZ Γ n Fn (pick is ([] ++ zs)) H1 Q (WE W σ)) I ⟨G, ρ, μ, R, PostA.bind p fun us vs μ1 G1 H1 s1 R1 r1 p1 => ?_⟩) fun ws s2 ⟨zs, H2, I2, rz, l2, q2⟩ => ⟨I2.kIn, ?_⟩
  · simp only at p1
    split at p1
    · rename_i hl
      have hlen : us.length = vs.length := Paired.length r1
      have r2 := pick_rel (is := is) r1
      refine ⟨by rw [hlen]; exact hl.1, ?_, G1, μ1, pick is vs, R1.toRepM, r2, post_fn R1 p1⟩
      rw [List.nil_append, Paired.length r2]; exact hl.2
    · exact p1.elim
  · rw [hks]
    exact fng_runK (us := []) (vs := []) h1 c.room c.gd h2 (passAt c.tk σ) I2 .nil rz rfl l2 q2
end
end Zl
set_option Elab.async false
set_option linter.all false
set_option maxRecDepth 100000
set_option maxHeartbeats 4000000
namespace Zl
open PySem PySem.Spec L2 PySem.W
open PyProof.Rows hiding St

/-! ## sorted(xs, key=len): a list of tuples -/
def lenT : D → Nat
  | .tup ds => ds.length
  | _ => 0
def isTup : D → Bool
  | .tup ds => decide (ds.length ≤ 100000)
  | _ => false
def sortLenD (ds : List D) : List D := ds.mergeSort fun a b => decide ((lenT a : Int) ≤ (lenT b : Int))
def fSortLen (f : FE) : FE := fun ρ μ => (f ρ μ).bind fun p => match lstV p.2 p.1 with
  | some ds => if ds.all isTup = true ∧ ds.length ≤ 100000 then .ok (.d (.lst (sortLenD ds)), p.2) else .bad
  | none => .bad
section
variable {Γ : Gm} {W : WX} {X : Cx} {lv : Nat} {f : FE} {e : Expr} {pos kpos p p2 : Pos}
theorem run_sortLen {pins : List (Addr × Obj)} {σ : St} {H F : Hp} {s : Shared} {Q : VK} {a : Addr} {ys : List V} {ds : List D} (c : Cz Γ W X lv) (I : Inv X pins σ H s) (hs : SqL Γ.K H a ys) (hF : Same F H) (hl : IsL Γ F ys ds) (hall : ds.all isTup = true) (hz : ds.length ≤ 100000)
    (q : ∀ zs p, IsL Γ F zs (sortLenD ds) → H p = none → Q (.ref p) (upd H p (.lst zs))) : wpAny (model X.prog X.w) X.A (call (.builtin "sorted") [.ref a] [(Str.ofString "key", .builtin "len")]) (EP X pins σ Q) X.xe s := by
  rw [← c.K] at hs
  obtain ⟨its, rv, pl, hzl⟩ := I.list hs
  have e0 : EachIs (Std Γ F) its ds := std_each rv hl
  have hu := c.hu
  have al : AllAlike (ds.map fun d => PyData.int (lenT d : Int)) := by
    intro d hd d' hd'
    obtain ⟨x, _, rfl⟩ := List.mem_map.mp hd
    obtain ⟨y, _, rfl⟩ := List.mem_map.mp hd'
    rfl
  have so : Sortable (ds.map fun d => PyData.int (lenT d : Int)) := Sortable.others (enc := fun d : D => PyData.int (lenT d : Int)) (bs := ds) fun b => ⟨(by intro z; cases z), (by intro xs z; cases z)⟩
  refine sorted_key_data (R := Std Γ F) (b := false) (fun d => PyData.int (lenT d : Int)) pl.isList e0 al so (by rw [sizeLine_eq]; omega) (fun x _ => by show X.A.units + 2 + 0 < cLine; omega) (PyProof.Rows.ksk_s1 _ _) (fun x => PyProof.Rows.ksk_l1 _ _) (fun x => PyProof.Rows.ksk_t4 "len" x) (fun v d hv hd h tk hk => ?_) fun out cc h' tk hk hfr hat hlen hout => ?_
  · obtain ⟨z, rz, iz⟩ := hv
    have ht := List.all_eq_true.mp hall d hd
    cases d with
    | tup es =>
      have hle : es.length ≤ 100000 := of_decide_eq_true ht
      unfold Is at iz
      obtain ⟨t, vs, ez, hFt, li⟩ := iz
      subst ez
      obtain rfl : v = Value.ref t := rz
      obtain ⟨zl, its', r', o, h1, h2, n, h3⟩ := (show ObjOk X.prog X.w H s.heap t (.tup vs) from I.hok t _ (hF _ _ hFt))
      have hT : IsTup h t its'.toArray := ⟨o, hk _ _ h1, h2, n, h3⟩
      have hvl : its'.toArray.size = es.length := by rw [List.size_toArray, ← r'.length, li.length]
      refine PyProof.Rows.len_tuple hT (by rw [hvl]; omega) ⟨h, _, rfl, fun _ _ e => e, ?_⟩
      rw [hvl]
      exact .int _ _
    | _ => cases ht
  · have eo : EachIs (Std Γ F) out (sortLenD ds) := by
      have z : (fun d : D => PyData.int (lenT d : Int)) = fun d => PyData.int ((fun d => (lenT d : Int)) d) := rfl
      rw [z, dataLe_int] at hout
      exact hout
    obtain ⟨zs, g1, g2⟩ := each_std eo
    have hzs : zs.length = ds.length := by rw [g1.length, hlen]
    exact ⟨.ref (s.heap.objs.size + 1), upd H (s.heap.objs.size + 1) (.lst zs), I.laid (t' := tk) hk (Nat.le_succ _) (show ObjOk X.prog X.w _ _ _ (.lst zs) from ⟨by rw [hzs, sizeLine_eq]; omega, out, cc, g1, hat⟩), rfl, q zs _ g2 (I.hok.fresh (Nat.le_succ _))⟩
theorem ze_sortLen (c : Cz Γ W X lv) (hg : Gl X "sorted") (hm : X.mg "sorted" = none) (hgl : Gl X "len") (hml : X.mg "len" = none) (he : PE X e (tZ Γ W f))
    (h1 : backTo pos (starEach [e] X.env) = (false, eval e X.env) :: backTo pos (starEach [] X.env)) (h2 : (backTo pos (starEach [e] X.env)).any (·.1) = false) (hs : starEach [e] X.env = (false, eval e X.env) :: starEach [] X.env) :
    PE X (.Call (.Name "sorted" p) [e] [⟨some "key", .Name "len" p2, kpos⟩] pos) (tZ Γ W (fSortLen f)) := by
  refine ⟨fun pins s σ H Q I t => ?_⟩
  obtain ⟨G, ρ, μ, R, q⟩ := t
  refine wpAny_Call_Name_kw (ld_blt I hg hm PyProof.Rows.boot_sorted ?_ (by decide) (by decide))
  refine PyProof.Rows.callWith_kw (thn ((pa_cons he pa_nil hs).run pos pins s σ H (fun vs H1 => ∃ a ys ds F, vs = [.ref a] ∧ SqL Γ.K H1 a ys ∧ Same F H1 ∧ IsL Γ F ys ds ∧ ds.all isTup = true ∧ ds.length ≤ 100000 ∧ ∀ zs p, IsL Γ F zs (sortLenD ds) → H1 p = none → Q (.ref p) (upd H1 p (.lst zs))) I ⟨G, ρ, μ, R, Post.bind q fun u v μ1 G1 H1 s1 R1 r1 p1 => ?_⟩) fun us s1 ⟨vs, H1, I1, r1, a, ys, ds, F, ev, hsq, hF, hl, hall, hz, q1⟩ => ?_) h1 h2 rfl rfl
  · simp only at p1
    split at p1
    · rename_i ds ed
      split at p1
      · rename_i hz
        obtain ⟨a, us, e1, e2, e3⟩ := lstV_ok R1.toRepM r1 ed
        exact ⟨a, us, ds, G1.F, by rw [e1], SqL.of e2, R1.sub, e3, hz.1, hz.2, fun zs p hz hp => Post.lst R1 p1 hz p hp⟩
      · exact p1.elim
    · exact p1.elim
  · subst ev
    obtain ⟨u, eu, ru⟩ := vals1 r1
    subst eu
    obtain rfl : u = Value.ref a := ru
    show wpAny _ _ (evalAll ((do let v ← eval (.Name "len" p2) X.env; standAt pos; pure v) :: (backToKw pos (keywordEach [] X.env)).map (·.2))) _ _ s1
    refine wpAny_evalAll_cons (wpAny_bind (ld_blt I1 hgl hml PySem.boot_len ?_ (by decide) (by decide)))
    refine wpAny_bind (wpAny_standAt (wpAny_pure ?_))
    refine wpAny_evalAll_nil ?_
    exact run_sortLen c I1 hsq hF hl hall hz q1
end
end Zl
set_option Elab.async false
set_option linter.all false
set_option maxRecDepth 100000
set_option maxHeartbeats 4000000
namespace Zl
open PySem PySem.Spec L2 PySem.W
open PyProof.Rows hiding St

/-! ## the law's end, its def's promise where no guard stands -/
/-- one object of the heap is told as a frozen list, or none -/
def oneH (at_ : Addr) (b : Bool) (ob : Obj) (xs : List V) : Hp := fun c => if c = at_ ∧ b = true then some (.frz ob (.lst xs)) else none
section
variable {P : Program} {w : World} {K : PySem.W.Frag} {mg mb : Str → Option Value} {k : Nat} {fa a : Addr} {fd : FuncData} {x : Str} {sp : Sp} {sh : Shared} {vs : List Value} {ns : List Int}
theorem oneH_yes {b : Bool} {ob : Obj} {xs : List V} {c : Addr} {u : HO} (h : oneH a b ob xs c = some u) : c = a ∧ b = true ∧ u = .frz ob (.lst xs) := by
  unfold oneH at h
  split at h
  · rename_i z; cases h; exact ⟨z.1, z.2, rfl⟩
  · cases h
theorem end_env {H : Hp} (kin : K.In sh.heap) (gl : sh.heap.Ns mainGlobals mg) (bl : sh.heap.Ns builtinsNs mb) (bbl : ∀ x : Str, x ≠ "__name__" → mb x = bootBuiltins x) (lim : sh.heap.NoLimit) (gens : sh.gens = #[])
    (obj : sh.heap.get? a = some { cls := .type "list", data := .seq vs.toArray }) (ok : HOk P w H sh.heap) (one : ∀ c u, H c = some u → c = a) (nok : H a ≠ none → K.lookup a = none) :
    K.In (hidT sh.heap H) ∧ (hidT sh.heap H).Ns mainGlobals mg ∧ Env0 P w K mg (hidT sh.heap H) callerA [] sh H := by
  have hid : ∀ {c : Addr} {ob : Obj}, sh.heap.get? c = some ob → H c = none → (hidT sh.heap H).get? c = some ob := fun q z => hidT_get q z
  have away : ∀ {c : Addr} {ob : Obj}, sh.heap.get? c = some ob → (∀ es ep, ob.data = .dict es ep → H c = none) := fun {c ob} q es ep hd => by
    rcases ho : H c with _ | u
    · rfl
    · cases one c u ho
      rw [obj] at q
      cases q
      exact nomatch (show Data.seq vs.toArray 0 = Data.dict es ep from hd)
  have nss : ∀ {c : Addr} {m : Str → Option Value}, sh.heap.Ns c m → (hidT sh.heap H).Ns c m := fun {c m} q => by
    obtain ⟨ob, es, ep, q1, q2, q3⟩ := q
    exact ⟨ob, es, ep, hid q1 (away q1 es ep q2), q2, q3⟩
  have kin2 : K.In (hidT sh.heap H) := by
    intro c ob q
    refine hid (kin c ob q) ?_
    rcases ho : H c with _ | u
    · rfl
    · have ec := one c u ho
      subst ec
      rw [nok (by rw [ho]; exact nofun)] at q
      cases q
  refine ⟨kin2, nss gl, ⟨rfl, ⟨kin2, nss gl, ⟨mb, nss bl, bbl⟩, ?_⟩, fun c ob q => of_hidT q, Nat.le_of_eq (hidT_size _ _), trivial, fun c hc => absurd (show c ∈ ([] : List Addr) from hc) (by simp), ok, AllBare.of_eq gens⟩⟩
  obtain ⟨mc, l1, l2⟩ := lim
  exact ⟨mc, nss l1, l2⟩
theorem law_callG (kin : K.In sh.heap) (gl : sh.heap.Ns mainGlobals mg) (bl : sh.heap.Ns builtinsNs mb) (bbl : ∀ x : Str, x ≠ "__name__" → mb x = bootBuiltins x) (lim : sh.heap.NoLimit) (gens : sh.gens = #[])
    (obj : sh.heap.get? a = some { cls := .type "list", data := .seq vs.toArray }) (its0 : IntsAre vs ns) (small : ns.length ≤ sizeLine) (room : Room k callerA)
    (F : ∀ base : Heap, K.In base → base.Ns mainGlobals mg → FnG P w K mg base k fa fd [x] sp) (bnd : ∀ (s : Shared) (u : Value), BindsTo s fd ⟨[u], []⟩ [(x, u)])
    (prom : ∀ H : Hp, SqL K H a (ns.map V.int) → sp [.ref a] H (fun v _ => v = .bl true) fun _ _ _ => False) :
    codeAny (model P w) callerA (.call (.ref fa) ⟨[.ref a], []⟩) (fun r s' => r = .ok (.ret (.bool true)) ∧ OldK sh.heap s'.heap ∧ s'.os = sh.os ∧ AllBare s'.gens) sh := by
  have rel := vals_ints its0
  have key : ∀ (b : Bool), (b = true → K.lookup a = none) → SqL K (oneH a b { cls := .type "list", data := .seq vs.toArray } (ns.map V.int)) a (ns.map V.int) →
      codeAny (model P w) callerA (.call (.ref fa) ⟨[.ref a], []⟩) (fun r s' => r = .ok (.ret (.bool true)) ∧ OldK sh.heap s'.heap ∧ s'.os = sh.os ∧ AllBare s'.gens) sh := by
    intro b hb sq
    have hok : HOk P w (oneH a b { cls := .type "list", data := .seq vs.toArray } (ns.map V.int)) sh.heap := fun c u q => by
      obtain ⟨e1, e2, e3⟩ := oneH_yes q
      subst e1 e3
      exact ⟨obj, by rw [List.length_map]; exact small, vs, _, rel, obj⟩
    obtain ⟨k1, k2, e0⟩ := end_env (P := P) (w := w) kin gl bl bbl lim gens obj hok (fun c u q => (oneH_yes q).1) fun q => hb (by
      rcases ho : oneH a b { cls := .type "list", data := .seq vs.toArray } (ns.map V.int) a with _ | u
      · exact absurd ho q
      · exact (oneH_yes ho).2.1)
    refine codeAny_mono ((F _ k1 k2).run callerA [] sh _ ⟨[.ref a], []⟩ [.ref a] [.ref a] (fun v _ => v = .bl true) (fun _ _ _ => False) room rfl e0 (bnd sh (.ref a)) (.cons rfl .nil) (prom _ sq)) fun r s' out => ?_
    rcases r with er | fl
    · obtain ⟨_, _, _, _, _, _, _, _, _, _, _, _, z⟩ := (show L2.CX P w [] _ sh (fun _ _ _ => False) er s' from out)
      exact z.elim
    · cases fl with
      | next => exact out.elim
      | brk => exact out.elim
      | cont => exact out.elim
      | ret u =>
        obtain ⟨v, H', hos, hbare, un, hok', rv, ev⟩ := out
        have ev : v = .bl true := ev
        subst ev
        obtain rfl : u = Value.bool true := rv
        refine ⟨rfl, OldK.of_keep fun c ob q => ?_, hos, hbare⟩
        rcases ho : oneH a b { cls := .type "list", data := .seq vs.toArray } (ns.map V.int) c with _ | u
        · exact un.keep c ob q ho (fun z => absurd (show c ∈ ([] : List Addr) from z) (by simp)) (by simp)
        · obtain ⟨e1, e2, e3⟩ := oneH_yes ho
          subst e3
          obtain ⟨g1, _⟩ := hok c _ ho
          obtain ⟨g2, _⟩ := hok' c _ (un.frzs c _ _ ho)
          rw [q] at g1
          cases g1
          exact g2
  cases hk : K.lookup a with
  | some ob =>
    have q := kin a ob hk
    rw [obj] at q
    cases q
    exact key false (fun z => nomatch z) (.inr ⟨_, vs.toArray, _, hk, rfl, rfl, rfl, by rw [List.size_toArray, its0.length]; exact small, by simpa using rel⟩)
  | none => exact key true (fun _ => hk) (.inl (.inr ⟨_, if_pos ⟨rfl, rfl⟩⟩))
end
/-- a law whose def keeps its promise of every script of at most n numbers, each of at most 1048576 bits -/
theorem walk_ofG {l : PySem.W.OpenLaw} {n k : Nat} {q : Program} {loose : List Str} {XP : (Str → Option Value) → Heap → Prop} {YP : World → Heap → Prop} {d : DefRec} {x : Str}
    (hn : l.most = some n) (hn2 : n ≤ sizeLine) (hdf : d.params.defaults = []) (room : Room k callerA)
    (F : ∀ (w : World) (mg : Str → Option Value) (fa : Addr) (h : Heap), YP w h → h.Ns mainGlobals mg → mg d.name = some (.ref fa) →
      ∃ (K : PySem.W.Frag) (fd : FuncData) (sp : Sp), K.In h ∧ (∀ (s : Shared) (u : Value), BindsTo s fd ⟨[u], []⟩ [(x, u)]) ∧
        (∀ (H : Hp) (a : Addr) (ns : List Int), ns.length ≤ n → (∀ z ∈ ns, Builtin.Int.intBits z ≤ 1048576) → SqL K H a (ns.map V.int) → sp [.ref a] H (fun v _ => v = .bl true) fun _ _ _ => False) ∧
        ∀ base : Heap, K.In base → base.Ns mainGlobals mg → FnG l.prog w K mg base k fa fd [x] sp) :
    PySem.W.WalkO q loose XP YP l.row.toRowW d [] (fun f vs => PySem.call f vs) := by
  refine Att.attach_callB hn hdf fun w s₀ sh mg mb fa o pm cd doc a vs ns G Y ho hd hcd hmg obj its0 hlen hbits gens => ?_
  obtain ⟨K, fd, sp, kin, bnd, prom, F0⟩ := F w mg fa _ Y G.T.g hmg
  exact law_callG kin G.T.g G.T.b G.T.builtins G.T.nolimit gens obj its0 (Nat.le_trans hlen hn2) room F0 bnd fun H sq => prom H a ns hlen hbits sq
end Zl
set_option Elab.async false
set_option linter.all false
set_option maxRecDepth 100000
set_option maxHeartbeats 4000000
namespace Zl
open PySem PySem.Spec L2 PySem.W
open PyProof.Rows hiding St

section
variable {Γ : Gm} {W : WX} {X : Cx} {lv : Nat} {f : FE} {e : Expr} {pos : Pos}
/-! ## what is walked: a list, a tuple, a text, the script -/
def fiAny (f : FE) : FI := fun ρ μ => (f ρ μ).bind fun p => match p.1 with
  | .d (.lst ds) => .ok (ds, p.2)
  | .d (.scr ns) => .ok (ns.map D.int, p.2)
  | .d (.tup ds) => .ok (ds, p.2)
  | .d (.kt ds) => .ok (ds, p.2)
  | .d (.str z) => .ok (signsD z, p.2)
  | _ => .bad
theorem zi_any {tg : Expr} (c : Cz Γ W X lv) (he : PE X e (tZ Γ W f)) : PI X tg e (tZI Γ W (fiAny f)) := by
  refine ⟨fun pins s σ H Q I t => ?_⟩
  obtain ⟨G, ρ, μ, R, p⟩ := t
  have key : fiAny f ρ μ = fiList f ρ μ ∨ fiAny f ρ μ = fiTup f ρ μ ∨ fiAny f ρ μ = fiStr f ρ μ ∨ fiAny f ρ μ = .bad := by
    unfold fiAny fiList fiTup fiStr
    cases h : f ρ μ with
    | bad => exact .inl rfl
    | ex a b c => exact .inl rfl
    | ok q =>
      obtain ⟨v, μ1⟩ := q
      rw [Zl.R.bind_ok, Zl.R.bind_ok, Zl.R.bind_ok, Zl.R.bind_ok]
      cases v with
      | own k => exact .inr (.inr (.inr rfl))
      | d x => cases x <;> first | exact .inl rfl | exact .inr (.inl rfl) | exact .inr (.inr (.inl rfl)) | exact .inr (.inr (.inr rfl))
  rcases key with k | k | k | k
  · exact (zi_list c he).run pins s σ H Q I ⟨G, ρ, μ, R, by rw [← k]; exact p⟩
  · exact (zi_tup c he).run pins s σ H Q I ⟨G, ρ, μ, R, by rw [← k]; exact p⟩
  · exact (zi_str he).run pins s σ H Q I ⟨G, ρ, μ, R, by rw [← k]; exact p⟩
  · rw [k] at p; exact p.elim

/-! ## a module's constants -/
theorem ze_gstr {x z : Str} (hg : Gl X x) (hm : ∃ t, X.mg x = some (.str z t)) (hd : (x == ("__debug__" : Str)) = false) : PE X (.Name x pos) (tZ Γ W (fC (.str z))) := by
  obtain ⟨t, h⟩ := hm
  exact ze_glob (v := .str z) hg h ⟨t, rfl⟩ hd fun F => by unfold Is; rfl
theorem ze_gint {x : Str} {i : Int} (hg : Gl X x) (hm : ∃ t, X.mg x = some (.int i t)) (hd : (x == ("__debug__" : Str)) = false) : PE X (.Name x pos) (tZ Γ W (fC (.int i))) := by
  obtain ⟨t, h⟩ := hm
  exact ze_glob (v := .int i) hg h ⟨t, rfl⟩ hd fun F => by unfold Is; rfl

/-! ## a, b, c = x, y, z -/
def fPar3 (i j l : Nat) (g : FA) : FS := fun ρ μ => (g ρ μ).bind fun p => match p.1 with
  | [v, w, u] => .ok (.nx, ((ρ.set i v).set j w).set l u, p.2)
  | _ => .bad
theorem zs_par3 (c : Cz Γ W X lv) {i j l : Nat} {x y z : Str} {t : FA} {a b d : Expr} {px py pz pt : Pos} {kt k2 pt2} (hi : X.N[i]? = some x) (hj : X.N[j]? = some y) (hl : X.N[l]? = some z) (hij : i ≠ j) (hil : i ≠ l) (hjl : j ≠ l)
    (hx : X.env.scope.names.lookup x = some .local) (hy : X.env.scope.names.lookup y = some .local) (hz : X.env.scope.names.lookup z = some .local) (ha : PA X [a, b, d] (tZA Γ W t))
    (hw : swappedStores [.Tuple [.Name x px, .Name y py, .Name z pz] kt pt] (.Tuple [a, b, d] k2 pt2) X.env = pure (some [x, y, z]))
    (hs : swapsWithSole [.Tuple [.Name x px, .Name y py, .Name z pz] kt pt] (.Tuple [a, b, d] k2 pt2) pos.line X.env = pure false) :
    PS X (.Assign [.Tuple [.Name x px, .Name y py, .Name z pz] kt pt] (.Tuple [a, b, d] k2 pt2) pos) (tZS Γ W (fPar3 i j l t)) := by
  refine PS.imp (ps_par3 c.calm c.nd hi hj hl hij hil hjl hx hy hz ha hw hs) fun D σ H q => ?_
  obtain ⟨G, ρ, μ, R, p⟩ := q
  refine ⟨G, ρ, μ, R, PostA.bindS p fun us vs μ1 G1 H1 s1 R1 r1 p1 => ?_⟩
  simp only at p1
  split at p1
  · cases r1 with
    | cons h1 r1 =>
      cases r1 with
      | cons h2 r1 =>
        cases r1 with
        | cons h3 r1 =>
          cases r1
          exact ⟨_, _, _, rfl, PostS.nx (((R1.set h1).set h2).set h3) p1⟩
  · exact p1.elim
end
/-! ## the same by a tuple, any names -/
def setVals : List Nat → List Val → Rho → Rho
  | i :: is, v :: vs, ρ => setVals is vs (ρ.set i v)
  | _, _, ρ => ρ
def fParC (is : List Nat) (g : FA) : FS := fun ρ μ => (g ρ μ).bind fun p => if p.1.length = is.length ∧ is.length ≤ 100 then .ok (.nx, setVals is p.1 ρ, p.2) else .bad
section
variable {Γ : Gm} {W : WX} {X : Cx} {lv : Nat} {pos : Pos}
theorem setVals_ok : ∀ {is : List Nat} {vs : List Val} {us : List V} {G : Gh} {ρ : Rho} {μ : Mu} {σ : St} {H : Hp} {Q : St → Hp → Prop}, vs.length = is.length → Rep Γ G ρ μ σ H → VRelL Γ G us vs →
    (∀ σ', Rep Γ G (setVals is vs ρ) μ σ' H → Q σ' H) → gsNames is us σ H Q
  | [], vs, us, G, ρ, μ, σ, H, Q, hl, R, l, q => by
    have e : vs = [] := List.length_eq_zero_iff.mp hl
    subst e
    cases l
    exact ⟨rfl, q σ R⟩
  | i :: is, [], us, _, _, _, _, _, _, hl, _, _, _ => by simp at hl
  | i :: is, v :: vs, us, G, ρ, μ, σ, H, Q, hl, R, l, q => by
    cases l with
    | cons h t => exact ⟨_, _, rfl, setVals_ok (by simpa using hl) (R.set h) t q⟩
theorem zs_parC (c : Cz Γ W X lv) {es vs : List Expr} {is : List Nat} {k k2 : Nat} {tp tp2 : Pos} {t : FA} (n : Nms X es is) (ha : PA X vs (tZA Γ W t)) (hs : swapsWithSole [.Tuple es k tp] (.Tuple vs k2 tp2) pos.line X.env = pure false) (hw : swappedStores [.Tuple es k tp] (.Tuple vs k2 tp2) X.env = pure none) :
    PS X (.Assign [.Tuple es k tp] (.Tuple vs k2 tp2) pos) (tZS Γ W (fParC is t)) := by
  obtain ⟨h1, h2⟩ := n.each
  refine PS.imp (ps_asg (pe_tup ha) (pg_tup c.calm (n.pgs c.nd) h1 h2) hs hw (by rfl)) fun D σ H q => ?_
  obtain ⟨G, ρ, μ, R, p⟩ := q
  refine ⟨G, ρ, μ, R, PostA.bindS p fun us ws μ1 G1 H1 s1 R1 r1 p1 => ?_⟩
  simp only at p1
  split at p1
  · rename_i hl
    have hlen : us.length = ws.length := Paired.length r1
    refine ⟨small_line (by omega), fun q hq => ?_⟩
    have st : Step G1 H1 G1 (upd H1 q (.tup us)) := Step.other hq
    have R2 : Rep Γ G1 ρ μ1 σ (upd H1 q (.tup us)) := R1.go st (R1.toRepM.other hq)
    exact ⟨q, us, rfl, SqT.of upd_same, by rw [hlen]; exact hl.1, setVals_ok hl.1 R2 r1 fun σ' R' => PostS.nx R' (PostS.step st p1)⟩
  · exact p1.elim
end
theorem pg_tupN {Γ : Gm} {W : WX} {X : Cx} {lv : Nat} (c : Cz Γ W X lv) {es : List Expr} {is : List Nat} {k : Nat} {pos : Pos} (n : Nms X es is) : PG X (.Tuple es k pos) (gTup Γ.K is.length (gsNames is)) := by
  obtain ⟨h1, h2⟩ := n.each
  rw [← c.K]
  exact pg_tup c.calm (n.pgs c.nd) h1 h2
/-! ## d = {k: v for ..} -/
section
variable {Γ : Gm} {W : WX} {X : Cx} {lv : Nat}
theorem sw_dict {k0 v0 : Expr} {gens : List Comprehension} {sc : Scope} {pos py : Pos} {nm : Str} {ln : Nat} {env : Env} (h1 : env.scope.kind = .function) (h2 : env.scope.names.lookup nm = some .local) (h3 : (py.line == pos.line) = true)
    (h4 : (sc.names.any fun (n, k) => n == nm && (k == .local || k == .cell)) = false) : swapsWith (.DictComp k0 v0 gens sc pos) (some (.Name nm py)) ln env = pure true := by
  have q1 : env.kindOf nm = some .local := h2
  have q2 : env.blockKind = .function := by
    unfold Env.blockKind
    rw [h1]
    rfl
  unfold swapsWith
  simp only [q2, q1, h4, Expr.pos, h3]
  rfl
variable {kx vx tg iter : Expr} {ifs : List Expr} {scope : Scope} {own : List (Str × Nat)} {pos spos py : Pos} {live : Bool} {it : FI} {gt : FG} {t : FT} {fk fv : FE} {g : TG} {i : Nat} {nm : Str}
theorem zs_setDc (c : Cz Γ W X lv) (hy : X.N[i]? = some nm) (hyl : X.env.scope.names.lookup nm = some .local)
    (hsw : swapsWith (.DictComp kx vx [⟨tg, iter, ifs, 0⟩] scope pos) (some (.Name nm py)) spos.line X.env = pure true) (hi : PI X tg iter (tZI Γ W it)) (ok : BlkOk X.N X.env.scope scope own) (hgt : TgOk Γ (own.map (·.2)) g gt)
    (hg : ∀ (s : Shared) (H : Hp) (C : Addr) (cl : List (Str × Addr)) (fp : List Addr), PG (X.blk s H scope (compEnvC scope cl C X.env) fp) tg g) (ht : ∀ (s : Shared) (H : Hp) (C : Addr) (cl : List (Str × Addr)) (fp : List Addr), PTs (X.blk s H scope (compEnvC scope cl C X.env) fp) ifs (tZT Γ WF t))
    (hk : ∀ (s : Shared) (H : Hp) (C : Addr) (cl : List (Str × Addr)) (fp : List Addr), PE (X.blk s H scope (compEnvC scope cl C X.env) fp) kx (tZ Γ WF fk))
    (he : ∀ (s : Shared) (H : Hp) (C : Addr) (cl : List (Str × Addr)) (fp : List Addr), PE (X.blk s H scope (compEnvC scope cl C X.env) fp) vx (tZ Γ WF fv)) (hs : ∀ x, foldedSetIterable iter X.env x = pure x) :
    PS X (.Assign [.Name nm py] (.DictComp kx vx [⟨tg, iter, ifs, 0⟩] scope pos) spos) (tZS Γ W (fSet i (fDc live it gt t fk fv (own.map (·.2))))) := by
  refine ⟨fun pins s σ H D I tz => ?_⟩
  have q0 : tDc (tZI Γ W it) g (tZT Γ WF t) (tZ Γ WF fk) (tZ Γ WF fv) (own.map (·.2)) σ H (fun x H1 => gName i x σ H1 D.nx) := by
    obtain ⟨G, ρ, μ, R, p⟩ := tz
    exact dc_ok hgt σ H _ ⟨G, ρ, μ, R, Post.bindS p fun u v μ1 G1 H1 s1 R1 r1 p1 => PostS.nx (R1.set r1) p1⟩
  rw [exec_Assign_Name_used _ _ _ _ hsw]
  refine wpAny_bind (wpAny_standAt (wpAny_bind ?_))
  show wpAny _ X.A (do let _ ← comprehension (.DictComp kx vx [⟨tg, iter, ifs, 0⟩] scope pos) scope X.env (firstIterPos [⟨tg, iter, ifs, 0⟩] pos) newDict false (eval iter X.env) (some (assign (.Name nm py) X.env))) _ _ s
  refine wpAny_bind (thn (dc_core (Qf := fun _ s2 => SP X pins D .next s2) c.calm c.nd I hi ok hg ht hk he hs q0 fun A0 C0 sB mB HB IB wish nsB fpB => ?_) fun _ _ z => wpAny_pure (wpAny_pure z))
  show wpAny _ _ (assign (.Name nm py) X.env (.ref A0)) _ _ _
  refine wpAny_assign_Name (store_ok2 (v := V.ref A0) IB c.nd hy (.inl hyl) rfl (fun sC IC ⟨a0, sb, at0⟩ => ?_) (.inr hyl))
  obtain ⟨p0, p1, p2, p3, p4, p5⟩ := fpB
  have ne0 : C0 ≠ a0 := by
    cases at0 with
    | inl z => rw [z]; exact p1
    | inr z => exact fun e => p4 nm a0 z e.symm
  exact ⟨mB, nsB.sameBut sb ne0, fun hC sb3 => ⟨_, HB, IC.turned (t' := sC.toks) (fun b o hb e => (sb3.2 b hb).trans e) p0 p1 p3 p4 p5, wish⟩⟩
end
/-! ## levels -/
section
variable {Γ : Gm} {P : Program} {w : World} {mg : Str → Option Value} {base : Heap} {j k : Nat} {f C : Addr} {n : Nat} {Fn : FF} {dd : List D} {m t : Str} {Δ : MT}
theorem FnZ.up (h : FnZ Γ P w mg base j f n Fn dd) (l : j ≤ k) : FnZ Γ P w mg base k f n Fn dd := by
  obtain ⟨⟨fd, ps, ds, dvs, h1, h2⟩, kp⟩ := h
  exact ⟨⟨fd, ps, ds, dvs, h1.mono l, h2⟩, kp⟩
theorem MtZ.up (h : MtZ Γ P w mg base j m Δ) (l : j ≤ k) : MtZ Γ P w mg base k m Δ :=
  ⟨fun a b c d e1 e2 => let ⟨f, fd, ps, h1, h2, h3, h4⟩ := h.ex a b c d e1 e2; ⟨f, fd, ps, h1, h2, h3.mono l, h4⟩⟩
theorem PrZ.up (h : PrZ Γ P w mg base j m Δ) (l : j ≤ k) : PrZ Γ P w mg base k m Δ :=
  ⟨fun a b c d e1 e2 => let ⟨f, pa, fd, ps, h1, h2, h3, h4⟩ := h.ex a b c d e1 e2; ⟨f, pa, fd, ps, h1, h2, h3.mono l, h4⟩⟩
theorem MkZ.up {Fi : FF} (h : MkZ Γ P w mg base j t C n Fi dd) (l : j ≤ k) : MkZ Γ P w mg base k t C n Fi dd := by
  obtain ⟨cl, ⟨f, fd, ps, ds, dvs, h0, h1, h2⟩⟩ := h
  exact ⟨cl, ⟨f, fd, ps, ds, dvs, h0, h1.mono l, h2⟩⟩
theorem FnK.up {ks : List Str} {is : List Nat} (h : FnK Γ P w mg base j f n Fn ks is) (l : j ≤ k) : FnK Γ P w mg base k f n Fn ks is := by
  obtain ⟨⟨fd, ps, h1, h2⟩, kp⟩ := h
  exact ⟨⟨fd, ps, h1.mono l, h2⟩, kp⟩
end
/-- the methods of one class alone -/
def mt1 (c : Str) (n : Nat) (F : FF) : MT := fun k => if k = c then some (n, F) else none
theorem mtz1 {Γ : Gm} {P : Program} {w : World} {mg : Str → Option Value} {base : Heap} {lv : Nat} {m c : Str} {n : Nat} {F : FF} {C f : Addr} {fd : FuncData} {ps : List Str} (hC : Γ.cl c = some C) (h1 : Cls Γ.K C) (h2 : Meth Γ.K C m f) (h3 : FnG P w Γ.K mg base lv f fd ps (spZ Γ n F)) (h4 : Binds Γ.K fd ps []) :
    MtZ Γ P w mg base lv m (mt1 c n F) := by
  refine ⟨fun k n' F' C' e1 e2 => ?_⟩
  unfold mt1 at e1
  split at e1
  · rename_i hk
    subst hk
    cases e1
    rw [hC] at e2
    cases e2
    exact ⟨f, fd, ps, h1, h2, h3, h4⟩
  · cases e1
end Zl
set_option Elab.async false
set_option linter.all false
set_option maxRecDepth 100000
set_option maxHeartbeats 4000000
namespace Zl
open PySem PySem.Spec L2 PySem.W
open PyProof.Rows hiding St
/-! ## what the head tells: names, defs anywhere, properties -/
def propB (K : Frag) (p : Str × Str) : Bool :=
  decide (PySem.W.findIn K (.ref (He.ga K p.1)) p.2 = some (some (.ref (He.ma K (He.ga K p.1) p.2)))) &&
  (decide (PySem.W.specialIn K (.ref (He.ma K (He.ga K p.1) p.2)) "__get__" = some (some (.builtin "property.__get__"))) &&
  (decide (PySem.W.takesIn K (.ref (He.ma K (He.ga K p.1) p.2)) = some true) && (match PySem.W.recIn K (He.ma K (He.ga K p.1) p.2) "property" with
    | some (.ref _ :: _) => true
    | _ => false)))
theorem propB_ok {K : Frag} {x m : Str} (h : propB K (x, m) = true) : PropOf K (He.ga K x) m (He.ma K (He.ga K x) m) (He5.wf K (He.ga K x) "property" m) := by
  unfold propB at h
  simp only [Bool.and_eq_true] at h
  obtain ⟨h1, h2, h3, h4⟩ := h
  refine ⟨of_decide_eq_true h1, of_decide_eq_true h2, of_decide_eq_true h3, ?_⟩
  unfold He5.wf
  split at h4
  · rename_i f r e; exact ⟨r, by rw [e]⟩
  · cases h4
abbrev AlZ : Type := He.AlD × Bool
def obsZ (fa : List He.Fa) (fn : List He5.DefA) (pr : List (Str × Str)) (K : Frag) : AlZ := (He5.obsA fa fn K, pr.all (propB K))
def valZ (fn : List He5.DefA) : AlZ := (He5.valA fn, true)
structure SaysZ (fa : List He.Fa) (fn : List He5.DefA) (pr : List (Str × Str)) (K : Frag) : Prop where
  a : He5.SaysA fa fn K
  p : ∀ q ∈ pr, propB K q = true
def obsZG (n : Nat) (fa : List He.Fa) (fn : List He5.DefA) (pr : List (Str × Str)) (g : Addr → Option Obj) : AlZ := obsZ fa fn pr (He.frG g (He5.asA g n))
theorem saysZ_of {fa : List He.Fa} {fn : List He5.DefA} {pr : List (Str × Str)} {K : Frag} (e : obsZ fa fn pr K = valZ fn) : SaysZ fa fn pr K :=
  ⟨congrArg (fun z : AlZ => z.1) e, fun q hq => List.all_eq_true.mp (congrArg (fun z : AlZ => z.2) e) q hq⟩
def hookZ (n : Nat) (fa : List He.Fa) (fn : List He5.DefA) (pr : List (Str × Str)) : PySem.W.Hook where
  α := AlZ
  obs := fun s => obsZG n fa fn pr s.heap.get?
  val := fun _ => valZ fn
  says := fun _ h => ∃ K : Frag, K.In h ∧ SaysZ fa fn pr K
  of := fun _ _ e => ⟨_, He.frG_in, saysZ_of e⟩
  keeps := fun _ _ _ ⟨K, hK, c⟩ k => ⟨K, Frag.In.keeps hK k, c⟩
theorem obsZG_eq {n : Nat} {fa : List He.Fa} {fn : List He5.DefA} {pr : List (Str × Str)} {g : Addr → Option Obj} {s : Shared} (h : ∀ a, g a = s.heap.get? a) : obsZG n fa fn pr g = (hookZ n fa fn pr).obs s := by
  have e : g = s.heap.get? := funext h
  rw [e]
  rfl
/-- the properties of one class alone -/
theorem prz1 {Γ : Gm} {P : Program} {w : World} {mg : Str → Option Value} {base : Heap} {lv : Nat} {m c : Str} {n : Nat} {F : FF} {C pa f : Addr} {fd : FuncData} {ps : List Str} (hC : Γ.cl c = some C) (h1 : Cls Γ.K C) (h2 : PropOf Γ.K C m pa f) (h3 : FnG P w Γ.K mg base lv f fd ps (spZ Γ n F)) (h4 : Binds Γ.K fd ps []) :
    PrZ Γ P w mg base lv m (mt1 c n F) := by
  refine ⟨fun k n' F' C' e1 e2 => ?_⟩
  unfold mt1 at e1
  split at e1
  · rename_i hk
    subst hk
    cases e1
    rw [hC] at e2
    cases e2
    exact ⟨f, pa, fd, ps, h1, h2, h3, h4⟩
  · cases e1
end Zl
set_option Elab.async false
set_option linter.all false
set_option maxRecDepth 100000
set_option maxHeartbeats 4000000
namespace Zl
open PySem PySem.Spec L2 PySem.W
open PyProof.Rows hiding St
open NdefX

/-! ## lambdas: made -/
section
variable {Γ : Gm} {X : Cx} {pins : List (Addr × Obj)} {σ : St} {H : Hp} {s : Shared} {G : Gh} {μ : Mu}
/-- a table grows, a code object is new -/
theorem RepM.tabled {P c : Addr} {ps more : Array Value} {q : Str} (R : RepM Γ G μ H) (hP : H P = some (.tbl ps)) (hm : (P, q) ∈ Γ.tb) (hu : ∀ p ∈ Γ.tb, p.1 = P → p.2 = q) (hc : H c = none) (ht : TriplesOk (ps ++ more).toList)
    (hk : ∀ (pos : Pos) (cv : Value), codeAmong pos (ps ++ more).toList = some cv → codeAmong pos ps.toList = some cv ∨ cv = .ref c) :
    Step G H G (upd (upd H P (.tbl (ps ++ more))) c (LamX.CodeO c q)) ∧ RepM Γ G μ (upd (upd H P (.tbl (ps ++ more))) c (LamX.CodeO c q)) := by
  obtain ⟨f1, f2, ps', f3, f4, f5⟩ := R.tabs _ hm
  rw [hP] at f3
  cases f3
  have nPc : P ≠ c := ne_of_none hP hc
  have at_ : ∀ b, b ≠ P → b ≠ c → upd (upd H P (.tbl (ps ++ more))) c (LamX.CodeO c q) b = H b := fun b h1 h2 => by rw [upd_ne h2, upd_ne h1]
  have atP : upd (upd H P (.tbl (ps ++ more))) c (LamX.CodeO c q) P = some (.tbl (ps ++ more)) := by rw [upd_ne nPc, upd_same]
  have ca : c ∉ G.al := fun z => by obtain ⟨o, e⟩ := R.there _ z; rw [hc] at e; cases e
  have keep : ∀ a o, H a = some o → (∀ ps, o ≠ .tbl ps) → upd (upd H P (.tbl (ps ++ more))) c (LamX.CodeO c q) a = some o := fun a o e n => by
    rw [at_ a (fun z => by rw [z, hP] at e; cases e; exact n _ rfl) (ne_of_none e hc)]
    exact e
  have there : ∀ a o, H a = some o → ∃ o', upd (upd H P (.tbl (ps ++ more))) c (LamX.CodeO c q) a = some o' := fun a o e => by
    by_cases z : a = P
    · rw [z]; exact ⟨_, atP⟩
    · exact ⟨o, by rw [at_ a z (ne_of_none e hc)]; exact e⟩
  refine ⟨⟨fun _ _ h => h, ⟨[], by simp⟩, rfl, fun a o e n _ => keep a o e n, fun _ h n => absurd h n, fun _ h n => absurd h n, there⟩, ⟨fun a o e => ?_, R.len, R.nd, fun k a cc e1 e2 => ?_, fun a h => ?_, R.clo, fun p hp => ?_⟩⟩
  · rw [at_ a (fun z => by rw [z, f1] at e; cases e) (ne_of_none (R.sub _ _ e) hc)]
    exact R.sub _ _ e
  · have hm := List.mem_of_getElem? e1
    exact CRel.mono (G := G) (G' := G) (fun _ _ h => h) (fun n => n) ⟨[], by simp⟩ (at_ a (fun z => f2 (z ▸ hm)) fun z => ca (z ▸ hm)) (R.cells k a cc e1 e2)
  · obtain ⟨o, e⟩ := R.there a h
    exact there a o e
  · by_cases hb : p.1 = P
    · rw [hb, hu p hp hb]
      refine ⟨f1, f2, _, atP, ht, fun pos cv e => ?_⟩
      rcases hk pos cv e with z | z
      · obtain ⟨c0, e1, e2, e3⟩ := f5 pos cv z
        exact ⟨c0, e1, keep _ _ e2 LamX.codeO_ne, e3⟩
      · exact ⟨c, z, upd_same, ca⟩
    · obtain ⟨g1, g2, ps2, g3, g4, g5⟩ := R.tabs p hp
      refine ⟨g1, g2, ps2, by rw [at_ _ hb (ne_of_none g3 hc)]; exact g3, g4, fun pos cv e => ?_⟩
      obtain ⟨c0, e1, e2, e3⟩ := g5 pos cv e
      exact ⟨c0, e1, keep _ _ e2 LamX.codeO_ne, e3⟩
theorem lam_makeZ {c P : Addr} {params : Arguments} {body : Expr} {scope : Scope} {pos : Pos} {E : Value → Shared → Prop} {Q : Value → Shared → Prop} (I : Inv X pins σ H s) (R : RepM Γ G μ H) (TB : LamX.TabB X.base X.mg c P) (hcode : X.env.code = .ref c)
    (hm : (P, X.env.qual ++ "<lambda>") ∈ Γ.tb) (hu : ∀ p ∈ Γ.tb, p.1 = P → p.2 = X.env.qual ++ "<lambda>") (hdef : defaultsOf params X.env = ([], [])) (hfree : ∀ y ∈ scope.names, y.2 = .free → ∃ c, X.env.cells.lookup y.1 = some c)
    (h : ∀ (f c' : Addr) (pm ctv : Value) (H1 : Hp) (s' : Shared), Inv X pins σ H1 s' → Step G H G H1 → RepM Γ G μ H1 →
      s'.heap.get? f = some (PySem.W.kla_obj "<lambda>" (X.env.qual ++ "<lambda>") params body scope (cloFrom X.env.cells scope.names []) pm c' ctv) → FpOk X pins H1 f → H1 c' = some (LamX.CodeO c' (X.env.qual ++ "<lambda>")) → c' ∉ G.al → Q (.ref f) s') :
    wpAny (model X.prog X.w) X.A (eval (.Lambda params body scope pos) X.env) Q E s := by
  obtain ⟨f1, f2, ps, hP, ht, ha⟩ := R.tabs _ hm
  refine PySem.W.kla_eval hdef ?_
  have bP : s.heap.BuiltinsAt X.mg P := TB.bm.keeps I.bk
  have hP' : s.heap.get? P = some { cls := .none, data := .fields ps } := I.hok P _ hP
  cases hc : codeAmong pos ps.toList with
  | none =>
    refine PySem.W.kla_makeFunction (mg := X.mg) (c := c) (P := P) (ps := ps) (closure_ok hfree) I.ok.glob (I.mod.glob.keeps I.bk) hcode (TB.code.keeps I.bk) hP' ht hc TB.gP bP fun c' ctv h' tk hx hge hlt hrec htb => ?_
    obtain ⟨c2, oc, vs, t, e2, hoc, hd, hv⟩ := hrec
    cases e2
    have hsz : s.heap.objs.size ≤ h'.objs.size := Nat.le_trans hge (Nat.le_of_lt hlt)
    have nC : H c' = none := I.hok.fresh hge
    have I1 := LamX.inv_table (t' := tk) (q := X.env.qual ++ "<lambda>") (more := #[rawInt pos.line, rawInt pos.col, .ref c']) (h' := h'.push (PySem.W.kla_obj "<lambda>" (X.env.qual ++ "<lambda>") params body scope (cloFrom X.env.cells scope.names []) ((X.mg "__name__").getD .none) c' ctv)) I hP
      (fun b o hb e => Heap.get?_push_of_some _ (hx b o hb e)) (Heap.get?_push_of_some _ htb) hge ⟨oc, vs, t, Heap.get?_push_of_some _ hoc, hd, hv⟩
    have eL : (ps ++ #[rawInt pos.line, rawInt pos.col, .ref c']).toList = ps.toList ++ [rawInt pos.line, rawInt pos.col, .ref c'] := by simp
    obtain ⟨st, R1⟩ := R.tabled (c := c') (more := #[rawInt pos.line, rawInt pos.col, .ref c']) hP hm hu nC (by rw [eL]; exact PySem.TriplesOk_snoc _ _ _ _ ht) (fun p' cv hcv => by rw [eL] at hcv; exact LamX.among_app _ ht hcv)
    refine h h'.objs.size c' ((X.mg "__name__").getD .none) ctv _ _ I1 st R1 (Heap.get?_push_size _ rfl) (I.fpOk hsz ?_) upd_same fun z => by obtain ⟨o, e⟩ := R.there _ z; rw [nC] at e; cases e
    have n1 : h'.objs.size ≠ c' := Nat.ne_of_gt hlt
    have n2 : h'.objs.size ≠ P := Nat.ne_of_gt (Nat.lt_of_lt_of_le (Heap.lt_size hP') hsz)
    rw [upd_ne n1, upd_ne n2]
    exact I.hok.fresh hsz
  | some cv =>
    obtain ⟨c', e, hco, hn⟩ := ha pos cv hc
    subst e
    refine PySem.W.kla_makeFunctionHit (mg := X.mg) (c := c) (P := P) (ps := ps) (closure_ok hfree) I.ok.glob (I.mod.glob.keeps I.bk) hcode (TB.code.keeps I.bk) hP' ht hc bP fun ctv h' tk hx hsz => ?_
    have I1 : Inv X pins σ H { s with heap := h'.push (PySem.W.kla_obj "<lambda>" (X.env.qual ++ "<lambda>") params body scope (cloFrom X.env.cells scope.names []) ((X.mg "__name__").getD .none) c' ctv), toks := tk } := I.kept fun b o e => Heap.get?_push_of_some _ (hx b o e)
    exact h h'.objs.size c' ((X.mg "__name__").getD .none) ctv H _ I1 (Step.refl G H) R (Heap.get?_push_size _ rfl) (I.fpOk hsz (I.hok.fresh hsz)) hco hn
end

/-! ## lambdas: called -/
abbrev lamF (qual : Str) (params : Arguments) (scope : Scope) (cl : List (Str × Addr)) (c' : Addr) : NF := ⟨"<lambda>", qual, params, [], scope, cl, c'⟩
/-- the context of a lambda's body -/
abbrev XL (P : Program) (w : World) (Γ : Gm) (mg : Str → Option Value) (base : Heap) (N : List Str) (F : NF) (f : Addr) (A : Around) (outer : List Env) (st : Shared) (H : Hp) (E : XK) : Cx := ncx (L2.CX P w) P w Γ.K mg base N F f A outer st H E
def lamR (ρ : Rho) (N : Nat) (as : List Val) (js : List Nat) : Rho := ⟨ρ.n0, as.map some ++ (js.map (fun j => (ρ.s[j]?).getD none) ++ List.replicate (N - as.length - js.length) none)⟩
section
variable {Γ : Gm} {X : Cx} {pins : List (Addr × Obj)} {σ : St} {H : Hp} {s : Shared} {G : Gh} {μ : Mu} {ρ : Rho}
theorem rel_at {us : List V} {xs : List Val} (h : VRelL Γ G us xs) : ∀ (j : Nat) x, xs[j]? = some x → ∃ u, us[j]? = some u ∧ VRel Γ G u x := by
  unfold VRelL at h
  induction h with
  | nil => intro j x e; simp at e
  | cons h t ih =>
    intro j x e
    cases j with
    | zero => simp at e; subst e; exact ⟨_, rfl, h⟩
    | succ j => obtain ⟨u, q, z⟩ := ih j x (by simpa using e); exact ⟨u, by simpa using q, z⟩
theorem lam_rep {N : List Str} {vs : List V} {as : List Val} {js : List Nat} (R : Rep Γ G ρ μ σ H) (r : VRelL Γ G vs as) : Rep Γ G (lamR ρ N.length as js) μ (startF N vs (js.map (NdefX.slotAt σ))) H := by
  have hlen : vs.length = as.length := Paired.length r
  refine ⟨R.toRepM, fun i v e => ?_, ?_, R.n0, R.top⟩
  · have e : (as.map some ++ (js.map (fun j => (ρ.s[j]?).getD none) ++ List.replicate (N.length - as.length - js.length) none))[i]? = some (some v) := e
    unfold startF
    by_cases hi : i < as.length
    · rw [List.getElem?_append_left (by simpa using hi), List.getElem?_map] at e
      cases q : as[i]? with
      | none => rw [q] at e; cases e
      | some y =>
        rw [q] at e
        cases e
        obtain ⟨u, h1, h2⟩ := rel_at r i _ q
        exact ⟨u, by rw [List.getElem?_append_left (by simpa [hlen] using hi), List.getElem?_map, h1]; rfl, h2⟩
    · rw [List.getElem?_append_right (by simpa using hi), List.length_map] at e
      by_cases hj : i - as.length < js.length
      · rw [List.getElem?_append_left (by simpa using hj), List.getElem?_map] at e
        cases q : js[i - as.length]? with
        | none => rw [q] at e; cases e
        | some j =>
          rw [q] at e
          have e2 : (ρ.s[j]?).getD none = some v := Option.some.inj e
          cases q2 : ρ.s[j]? with
          | none => rw [q2] at e2; cases e2
          | some w =>
            rw [q2] at e2
            have e3 : w = some v := e2
            subst e3
            obtain ⟨u, h1, h2⟩ := R.slots j v q2
            refine ⟨u, ?_, h2⟩
            have e9 : (vs.map some).length = as.length := by simp [hlen]
            rw [List.getElem?_append_right (by simpa [hlen] using hi), e9, List.getElem?_append_left (by simpa using hj), List.getElem?_map, q]
            show some (NdefX.slotAt σ j) = _
            unfold NdefX.slotAt
            rw [h1]
      · rw [List.getElem?_append_right (by simpa using hj), List.getElem?_replicate] at e
        split at e <;> cases e
  · unfold lamR startF
    simp [hlen]
theorem xl_takes {P : Program} {w : World} {mg : Str → Option Value} {base : Heap} {N : List Str} {F : NF} {f : Addr} {A : Around} {outer : List Env} {st : Shared} {E : XK} : Takes (XL P w Γ mg base N F f A outer st H E) WF := fun _ _ x => by
  obtain ⟨_, _, _, _, _, _, _, _, _, _, _, _, _, _, _, _, z⟩ := x
  exact z.elim
/-- f(..) -/
theorem run_lam {A' : Around} {k : Nat} {N ps fr : List Str} {js : List Nat} {params : Arguments} {body : Expr} {scope : Scope} {qual : Str} {cl : List (Str × Addr)} {f c' : Addr} {pm ctv : Value} {us : List Value} {vs : List V} {as : List Val} {kb : FE} {Q : VK} {E : Value → Shared → Prop}
    (hK : X.K = Γ.K) (hr : Room (k + 1) A') (hg : A'.guards = some []) (hA : A'.frames = some X.stack) (I : Inv X pins σ H s) (R : Rep Γ G ρ μ σ H)
    (hf : s.heap.get? f = some (PySem.W.kla_obj "<lambda>" qual params body scope cl pm c' ctv)) (hc : H c' = some (LamX.CodeO c' qual))
    (S : NScope N ps fr scope) (C : Caps X cl fr js) (hbind : bindArgs (PySem.W.kla_fn "<lambda>" qual params body scope cl pm (.ref c') ctv) ⟨us, []⟩ = pure (ps.zip us)) (r : Vals vs us) (hl : vs.length = ps.length) (ra : VRelL Γ G vs as)
    (hbody : ∀ (A : Around) (outer : List Env) (st : Shared) (H0 : Hp) (E : XK), Cz Γ WF (XL X.prog X.w Γ X.mg X.base N (lamF qual params scope cl c') f A outer st H0 E) k → PE (XL X.prog X.w Γ X.mg X.base N (lamF qual params scope cl c') f A outer st H0 E) body (tZ Γ WF kb))
    (q : Post Γ WF G (lamR ρ N.length as js) (startF N vs (js.map (NdefX.slotAt σ))) H Q (kb (lamR ρ N.length as js) μ)) : wpAny (model X.prog X.w) A' (call (.ref f) us) (EP X pins σ Q) E s := by
  have e0 := I.env0
  have e1 : Env0 X.prog X.w X.K X.mg X.base A' X.stack s H := ⟨hA, e0.mod, e0.bs, e0.bsz, e0.funs, e0.frf, e0.hok, e0.bare⟩
  obtain ⟨⟨oc, vs', t, hoc, hdc, hvc⟩, _, _⟩ := I.hok c' _ hc
  have rc : codeAny (model X.prog X.w) A' (.call (.ref f) ⟨us, []⟩) (CR (L2.CX X.prog X.w) X.stack X.prog X.w H s Q C8.E0) s := by
    refine PySem.W.kla_callFunE hr.depth hf rfl S.co S.gen rfl ⟨c', oc, vs', t, rfl, hoc, hdc, hvc⟩ ?_
    rw [hbind]
    refine wpAny_pure (wpAny_newFunctionEnv S.nocell (fun ⟨n, _⟩ hy => S.par n (List.of_mem_zip hy).1) (fun h₁ hns hsb => ⟨I.nolimit.fresh _ hsb, ?_⟩) S.kind)
    show codeAny _ _ (.expr body (envF (lamF qual params scope cl c') f s.heap.objs.size)) _ _
    have kp : ∀ b o, s.heap.get? b = some o → h₁.get? b = some o := fun b o e => hsb.extBut b o (Nat.ne_of_lt (Heap.lt_size e)) (Heap.get?_push_of_some _ e)
    have J : Inv (XL X.prog X.w Γ X.mg X.base N (lamF qual params scope cl c') f A' X.stack s H C8.E0) [] (startF N vs (js.map (NdefX.slotAt σ))) H { s with heap := h₁, toks := s.toks + (ps.zip us).length } := by
      have := inv_startN (CX := L2.CX X.prog X.w) (F := lamF qual params scope cl c') (f := f) (E := C8.E0) (tk := s.toks + (ps.zip us).length) S hr.hd e1 hl r (cells_of I C) hns kp
      rw [hK] at this
      exact this
    refine PySem.W.kla_codeExpr (wpAny_mono ((hbody A' X.stack s H C8.E0 ⟨rfl, S.nd, rfl, hr.deeper _, hg, xl_takes⟩).run [] _ _ H Q J ⟨G, _, μ, lam_rep R ra, q⟩) (fun v s' hq => ?_) fun e s' hq => ?_)
    · obtain ⟨w', H', J', rv, q⟩ := hq
      exact ⟨w', H', J'.os, J'.bare, J'.base, J'.hok, rv, q⟩
    · exact hq
  refine wpAny_call (codeAny_mono rc fun r s' hq => ?_)
  cases r with
  | error e =>
    obtain ⟨_, _, _, _, _, _, _, _, _, _, _, _, z⟩ := (show L2.CX X.prog X.w X.stack H s C8.E0 e s' from hq)
    exact z.elim
  | ok fl =>
    cases fl with
    | ret u => exact I.after hq
    | next => exact False.elim hq
    | brk => exact False.elim hq
    | cont => exact False.elim hq
end
end Zl
set_option Elab.async false
set_option linter.all false
set_option maxRecDepth 100000
set_option maxHeartbeats 4000000
namespace Zl
open PySem PySem.Spec L2 PySem.W
open PyProof.Rows hiding St

/-! ## min(.., key=lambda v: ..) -/
/-- what min asks of the key: J m k: the state is good and k is the key of item m -/
structure KRun (prog : Program) (w : World) (A : Around) (q : Value) (S : Addr) (wr : List Addr) (G : Array GenState → Array GenState → Prop) (n : Nat) (P : Nat → Value → Prop) (St : Nat → Shared → Prop) (J0 : Shared → Prop) (J : Nat → Value → Shared → Prop) (bt : Nat → Nat → Bool) : Prop where
  keep0 : ∀ s s', J0 s → Moved (S :: wr) G s s' → J0 s'
  keep : ∀ m k s s', J m k s → Moved (S :: wr) G s s' → J m k s'
  first : ∀ v (s : Shared) (o : Obj) (Q : Value → Shared → Prop) (E : Value → Shared → Prop), 0 < n → P 0 v → J0 s → St 1 s → s.heap.get? S = some o → (∀ v, o.data ≠ .cell v) →
    (∀ k s', J 0 k s' → St 1 s' → s'.heap.get? S = some o → Q k s') → wpAny (model prog w) A (call q [v]) Q E s
  turn : ∀ i v m kb (s : Shared) (o : Obj) (Q : Value → Shared → Prop) (E : Value → Shared → Prop), i < n → m < n → P i v → J m kb s → St (i + 1) s → s.heap.get? S = some o → (∀ v, o.data ≠ .cell v) →
    (∀ k s', J m kb s' → J i k s' → St (i + 1) s' → s'.heap.get? S = some o → (∀ (Q : Value → Shared → Prop) (E : Value → Shared → Prop), Q (.bool (bt i m)) s' → wpAny (model prog w) A (richCompare .Lt k kb) Q E s') → Q k s') → wpAny (model prog w) A (call q [v]) Q E s
theorem argBest_le (bt : Nat → Nat → Bool) : ∀ j, argBest bt j ≤ j
  | 0 => Nat.le_refl _
  | j + 1 => by
    unfold argBest
    split
    · exact Nat.le_refl _
    · exact Nat.le_succ_of_le (argBest_le bt j)
section
variable {prog : Program} {w : World} {A : Around} {R : Result → Shared → Prop} {I : Addr} {fp wr : List Addr} {G : Array GenState → Array GenState → Prop} {n : Nat} {P : Nat → Value → Prop} {St : Nat → Shared → Prop} {J0 : Shared → Prop} {J : Nat → Value → Shared → Prop} {bt : Nat → Nat → Bool} {q : Addr}
theorem min_loopZ (W : WalksS prog w A.in1 I fp wr G n P St) (S : Addr) (hSf : S ∉ fp) (K : KRun prog w A.in1 (.ref q) S wr G n P St J0 J bt) (kw : List (Str × Value)) :
    ∀ (k j : Nat) (s : Shared) (vb kb : Value) (c : Nat), n - (j + 1) = k → j + 1 ≤ n → J (argBest bt j) kb s → St (j + 1) s → P (argBest bt j) vb →
    s.heap.get? S = some { cls := .type "list", dict := none, data := .seq #[vb, kb] c, slots := #[] } →
    (∀ v k s', P (argBest bt (n - 1)) v → J (argBest bt (n - 1)) k s' → R (.ok (.ret v)) s') → codeAny (model prog w) A (.builtin "min.loop" ⟨[.ref I, (.ref q), .ref S], kw⟩) R s := by
  have hSw : S ∉ wr := fun h => hSf (W.sub _ h)
  have hsub : ∀ b ∈ wr, b ∈ S :: wr := fun b hb => List.mem_cons_of_mem _ hb
  have hname : (toString "min" ++ toString ".loop" : String) = "min.loop" := by decide
  have notS : ∀ {b : Addr}, b ∉ S :: wr → S ≠ b := fun hb h => hb (by rw [h]; exact List.mem_cons_self)
  intro k
  induction k with
  | zero =>
    intro j s vb kb c hk hj hJ hst hPb hS hR
    have hin : j + 1 = n := by omega
    refine codeAny_builtin F.entry_min_loop ?_
    rw [Around.under_plainId F.plain_min_loop _]
    show wpAny _ A.in1 (seqItems? (.ref S) >>= _) _ _ s
    refine wpAny_bind (wpAny_seqItems hS rfl ?_)
    show wpAny _ A.in1 (tryCatch (pyNext (.ref I)) _ >>= _) _ _ s
    refine wpAny_bind (wpAny_tryCatch (W.done s _ _ (hin ▸ hst) fun s' hm => ?_))
    have hS' := hm.heap S _ hSw hS
    show wpAny _ A.in1 (updateSeq S (fun _ => #[]) >>= _) _ _ _
    refine wpAny_bind ?_
    refine wpAny_updateSeq hS' rfl (wpAny_bind (wpAny_letGo (wpAny_pure ?_)))
    exact hR vb kb _ (by rw [← hin]; exact hPb) (by rw [← hin]; exact K.keep _ _ _ _ hJ ((hm.mono hsub).then_heap (tk := s'.toks) (Nat.le_refl _) fun b o hb e => (Heap.get?_update_other _ _ (notS hb)).trans e))
  | succ k ih =>
    intro j s vb kb c hk hj hJ hst hPb hS hR
    have hlt : j + 1 < n := by omega
    refine codeAny_builtin F.entry_min_loop ?_
    rw [Around.under_plainId F.plain_min_loop _]
    show wpAny _ A.in1 (seqItems? (.ref S) >>= _) _ _ s
    refine wpAny_bind (wpAny_seqItems hS rfl ?_)
    show wpAny _ A.in1 (tryCatch (pyNext (.ref I)) _ >>= _) _ _ s
    refine wpAny_bind (wpAny_tryCatch (W.item (j + 1) s _ _ hlt hst fun v s' hP hst' hm => ?_))
    have hS' := hm.heap S _ hSw hS
    have hJ' := K.keep _ _ _ _ hJ (hm.mono hsub)
    show wpAny _ A.in1 (tryCatch (holding [v] (call (.ref q) [v])) _ >>= _) _ _ _
    refine wpAny_bind (wpAny_tryCatch (wpAny_holding (K.turn (j + 1) v (argBest bt j) kb s' _ _ _ hlt (by have := argBest_le bt j; omega) hP hJ' hst' hS' (fun _ z => nomatch z) fun kx s'' hJ2 hJx hst2 hS2 hcmp => ?_)))
    show wpAny _ A.in1 (tryCatch (holding [v, kx] (richCompare .Lt kx kb >>= _)) _ >>= _) _ _ _
    refine wpAny_bind (wpAny_tryCatch (wpAny_holding (wpAny_bind (hcmp _ _ ?_))))
    refine wpAny_bind (wpAny_holding (wpAny_truthy_bool ?_))
    refine wpAny_bind (wpAny_letGo (wpAny_pure ?_))
    cases hb : bt (j + 1) (argBest bt j) with
    | true =>
      simp only [if_true]
      refine wpAny_bind ?_
      refine wpAny_updateSeq hS2 rfl (wpAny_bind (wpAny_letGo ?_))
      rw [hname]
      have hm2 : Moved (S :: wr) G s'' { s'' with heap := s''.heap.update S (Obj.mapSeq fun _ => #[v, kx]), toks := s''.toks } := (Moved.refl W.grefl).then_heap (tk := s''.toks) (Nat.le_refl _) fun b o hb e => (Heap.get?_update_other _ _ (notS hb)).trans e
      have eb : argBest bt (j + 1) = j + 1 := by simp only [argBest, hb, if_true]
      refine wpAny_pure ⟨plainId_quiet F.plain_min_loop _, ih (j + 1) _ v kx _ (by omega) hlt (by rw [eb]; exact K.keep _ _ _ _ hJx hm2) (W.frame _ s'' _ s''.toks hst2 (Nat.le_refl _) fun b hbf o e => ?_) (by rw [eb]; exact hP) (Heap.get?_update_self _ hS2 rfl) hR⟩
      exact (Heap.get?_update_other _ _ (fun h : S = b => hSf (by rw [h]; exact hbf))).trans e
    | false =>
      simp only [Bool.false_eq_true, if_false]
      refine wpAny_bind (wpAny_letGo ?_)
      rw [hname]
      have eb : argBest bt (j + 1) = argBest bt j := by simp only [argBest, hb, Bool.false_eq_true, if_false]
      exact wpAny_pure ⟨plainId_quiet F.plain_min_loop _, ih (j + 1) _ vb kb c (by omega) hlt (by rw [eb]; exact hJ2) hst2 (by rw [eb]; exact hPb) hS2 hR⟩
theorem min_firstZ (W : WalksS prog w A.in1 I fp wr G n P St) (S : Addr) (hSf : S ∉ fp) (K : KRun prog w A.in1 (.ref q) S wr G n P St J0 J bt) (kw : List (Str × Value)) (hn : 0 < n) {s : Shared} {c : Nat} (hJ : J0 s) (hst : St 0 s)
    (hS : s.heap.get? S = some { cls := .type "list", dict := none, data := .seq #[] c, slots := #[] })
    (hR : ∀ v k s', P (argBest bt (n - 1)) v → J (argBest bt (n - 1)) k s' → R (.ok (.ret v)) s') : codeAny (model prog w) A (.builtin "min.loop" ⟨[.ref I, (.ref q), .ref S], kw⟩) R s := by
  have hSw : S ∉ wr := fun h => hSf (W.sub _ h)
  have hsub : ∀ b ∈ wr, b ∈ S :: wr := fun b hb => List.mem_cons_of_mem _ hb
  have hname : (toString "min" ++ toString ".loop" : String) = "min.loop" := by decide
  have notS : ∀ {b : Addr}, b ∉ S :: wr → S ≠ b := fun hb h => hb (by rw [h]; exact List.mem_cons_self)
  refine codeAny_builtin F.entry_min_loop ?_
  rw [Around.under_plainId F.plain_min_loop _]
  show wpAny _ A.in1 (seqItems? (.ref S) >>= _) _ _ s
  refine wpAny_bind (wpAny_seqItems hS rfl ?_)
  show wpAny _ A.in1 (tryCatch (pyNext (.ref I)) _ >>= _) _ _ s
  refine wpAny_bind (wpAny_tryCatch (W.item 0 s _ _ hn hst fun v s' hP hst' hm => ?_))
  have hS' := hm.heap S _ hSw hS
  have hJ' := K.keep0 _ _ hJ (hm.mono hsub)
  show wpAny _ A.in1 (tryCatch (holding [v] (call (.ref q) [v])) _ >>= _) _ _ _
  refine wpAny_bind (wpAny_tryCatch (wpAny_holding (K.first v s' _ _ _ hn hP hJ' hst' hS' (fun _ z => nomatch z) fun kx s'' hJ2 hst2 hS2 => ?_)))
  show wpAny _ A.in1 (updateSeq S (fun _ => #[v, kx]) >>= _) _ _ _
  refine wpAny_bind ?_
  refine wpAny_updateSeq hS2 rfl ?_
  rw [hname]
  have hm2 : Moved (S :: wr) G s'' { s'' with heap := s''.heap.update S (Obj.mapSeq fun _ => #[v, kx]), toks := s''.toks } := (Moved.refl W.grefl).then_heap (tk := s''.toks) (Nat.le_refl _) fun b o hb e => (Heap.get?_update_other _ _ (notS hb)).trans e
  refine wpAny_pure ⟨plainId_quiet F.plain_min_loop _, min_loopZ W S hSf K kw _ 0 _ v kx _ rfl hn (K.keep _ _ _ _ hJ2 hm2) (W.frame _ s'' _ s''.toks hst2 (Nat.le_refl _) fun b hbf o e => ?_) hP (Heap.get?_update_self _ hS2 rfl) hR⟩
  exact (Heap.get?_update_other _ _ (fun h : S = b => hSf (by rw [h]; exact hbf))).trans e
theorem call_minZ {x : Value} {s : Shared} {E : Value → Shared → Prop} {Q : Value → Shared → Prop}
    (h : wpAny (model prog w) A.in1 (pyIter x) (fun it s₂ => ∃ I fp wr G n P St J0 J bt, it = .ref I ∧ WalksS prog w A.in1 I fp wr G n P St ∧ St 0 s₂ ∧ (∀ b ∈ fp, b < s₂.heap.objs.size) ∧ 0 < n ∧
      (∀ s₃, Moved (s₂.heap.objs.size :: wr) G s₂ s₃ → J0 s₃) ∧ KRun prog w A.in1 (.ref q) s₂.heap.objs.size wr G n P St J0 J bt ∧ ∀ v k s', P (argBest bt (n - 1)) v → J (argBest bt (n - 1)) k s' → Q v s') E s) :
    wpAny (model prog w) A (call (.builtin "min") [x] [(Str.ofString "key", .ref q)]) Q E s := by
  have hname : (toString "min" ++ toString ".loop" : String) = "min.loop" := by decide
  refine PyProof.Rows.kmk_tree F.kind_min F.plain_min F.entry_min (PyProof.Rows.kmk_min_key _ _) ?_
  show wpAny _ A.in1 (Builtin.Builtins.bindParams "min" ["key", "default"] 0 ⟨[], [(Str.ofString "key", .ref q)]⟩ >>= _) _ _ s
  refine wpAny_bind (wpAny_of_eq (show Builtin.Builtins.bindParams "min" ["key", "default"] 0 ⟨[], [(Str.ofString "key", .ref q)]⟩ = pure [some (.ref q), none] from rfl) ?_)
  refine wpAny_bind (wpAny_pure ?_)
  refine wpAny_bind (wpAny_mono h (fun it s₂ h₂ => ?_) fun _ _ e => e)
  obtain ⟨I, fp, wr, G, n, P, St, J0, J, bt, rfl, W, hst, hfp, hn, hJ, K, hQ⟩ := h₂
  refine wpAny_bind (wpAny_newObj_type ?_)
  have hSf : s₂.heap.objs.size ∉ fp := fun hm => Nat.lt_irrefl _ (hfp _ hm)
  rw [hname]
  have hm0 : Moved (s₂.heap.objs.size :: wr) G s₂ { s₂ with heap := s₂.heap.push { cls := .type "list", data := .seq #[] 0 }, toks := s₂.toks } := (Moved.refl W.grefl).then_heap (tk := s₂.toks) (Nat.le_refl _) fun b o _ e => Heap.get?_push_of_some _ e
  have hst' := W.frame 0 s₂ (s₂.heap.push { cls := .type "list", data := .seq #[] 0 }) s₂.toks hst (Nat.le_refl _) fun b _ o e => Heap.get?_push_of_some _ e
  exact wpAny_pure ⟨plainId_quiet F.plain_min_loop _, min_firstZ W s₂.heap.objs.size hSf K _ hn (hJ _ hm0) hst' (Heap.get?_push_size _ rfl) hQ⟩
end
end Zl
set_option Elab.async false
set_option linter.all false
set_option maxRecDepth 100000
set_option maxHeartbeats 4000000
namespace Zl
open PySem PySem.Spec L2 PySem.W
open PyProof.Rows hiding St
open NdefX

/-! ## the keys of the items, the least -/
def KeysOf (kb : FE) (N : Nat) (js : List Nat) (ρ : Rho) (μ : Mu) (ds ks : List D) : Prop := ks.length = ds.length ∧ ∀ (i : Nat) d k, ds[i]? = some d → ks[i]? = some k → kb (lamR ρ N [.d d] js) μ = .ok (.d k, μ)
def ltK (ks : List D) (i j : Nat) : Bool := dataLt (pyOf (ks.getD i D.non)) (pyOf (ks.getD j D.non))
def leastK (ds ks : List D) : Option D := ds[argBest (ltK ks) (ds.length - 1)]?
open Classical in
noncomputable def minKey (kb : FE) (N : Nat) (js : List Nat) (ρ : Rho) (μ : Mu) (ds : List D) : R (Val × Mu) :=
  if h : ∃ ks, KeysOf kb N js ρ μ ds ks ∧ okMin ks = true ∧ ds ≠ [] then (match leastK ds h.choose with
    | some d => .ok (.d d, μ)
    | none => .bad) else .bad
noncomputable def fMinK (fi : FI) (kb : FE) (N : Nat) (js : List Nat) : FE := fun ρ μ => (fi ρ μ).bind fun p => minKey kb N js ρ p.2 p.1
theorem keysOf_one {kb : FE} {N : Nat} {js : List Nat} {ρ : Rho} {μ : Mu} {ds ks ks' : List D} (h : KeysOf kb N js ρ μ ds ks) (h' : KeysOf kb N js ρ μ ds ks') : ks = ks' := by
  refine List.ext_getElem? fun i => ?_
  by_cases hi : i < ds.length
  · have e1 : ks[i]? = some (ks[i]'(by rw [h.1]; exact hi)) := List.getElem?_eq_getElem _
    have e2 : ks'[i]? = some (ks'[i]'(by rw [h'.1]; exact hi)) := List.getElem?_eq_getElem _
    have a := h.2 i ds[i] _ (List.getElem?_eq_getElem hi) e1
    have b := h'.2 i ds[i] _ (List.getElem?_eq_getElem hi) e2
    rw [a] at b
    rw [e1, e2]
    injection b with b
    injection b with b _
    injection b with b
    rw [b]
  · rw [List.getElem?_eq_none (by rw [h.1]; omega), List.getElem?_eq_none (by rw [h'.1]; omega)]
theorem minKey_of {kb : FE} {N : Nat} {js : List Nat} {ρ : Rho} {μ : Mu} {ds ks : List D} {d : D} (h : KeysOf kb N js ρ μ ds ks) (ok : okMin ks = true) (hd : leastK ds ks = some d) : minKey kb N js ρ μ ds = .ok (.d d, μ) := by
  have hn : ds ≠ [] := fun e => by rw [e] at hd; unfold leastK at hd; simp at hd
  have hx : ∃ ks, KeysOf kb N js ρ μ ds ks ∧ okMin ks = true ∧ ds ≠ [] := ⟨ks, h, ok, hn⟩
  unfold minKey
  rw [dif_pos hx, keysOf_one hx.choose_spec.1 h, hd]
theorem minKey_inv {kb : FE} {N : Nat} {js : List Nat} {ρ : Rho} {μ : Mu} {ds : List D} : minKey kb N js ρ μ ds = .bad ∨ ∃ ks d, KeysOf kb N js ρ μ ds ks ∧ okMin ks = true ∧ ds ≠ [] ∧ leastK ds ks = some d ∧ minKey kb N js ρ μ ds = .ok (.d d, μ) := by
  by_cases hx : ∃ ks, KeysOf kb N js ρ μ ds ks ∧ okMin ks = true ∧ ds ≠ []
  · right
    obtain ⟨ks, h1, h2, h3⟩ := hx
    have hl : argBest (ltK ks) (ds.length - 1) < ds.length := by
      have := argBest_le (ltK ks) (ds.length - 1)
      have : 0 < ds.length := List.length_pos_iff.mpr h3
      omega
    exact ⟨ks, _, h1, h2, h3, List.getElem?_eq_getElem hl, minKey_of h1 h2 (List.getElem?_eq_getElem hl)⟩
  · left
    unfold minKey
    rw [dif_neg hx]

section
variable {X : Cx} {pins : List (Addr × Obj)} {σ : St} {H : Hp} {s : Shared} {h' : Heap}
/-- some objects of an iterator's turn -/
theorem Inv.turnedL {t' : Nat} {ch : List Addr} (I : Inv X pins σ H s) (k : ∀ b o, b ∉ ch → s.heap.get? b = some o → h'.get? b = some o) (hf : ∀ b ∈ ch, FpOk X pins H b) : Inv X pins σ H { s with heap := h', toks := t' } := by
  have nit : ∀ b u, H b = some u → b ∉ ch := fun b u e z => by rw [(hf b z).1] at e; cases e
  refine I.step (g' := s.gens) (d' := s.drawn) (ch := ch) (fun b hb => ?_) (fun b o _ _ hc e _ => k b o hc e) (fun b o _ _ hc e _ => ⟨o.slots, k b o hc e⟩) (fun _ _ _ _ n => n)
    (fun b o hc e => ⟨o, k b o hc e⟩) (fun _ _ e => e) (fun _ _ _ e => e) (fun b ps e => ⟨#[], by rw [e]; simp⟩) (fun m hm => ?_) (fun b u e => ?_) I.bare
  · obtain ⟨_, f1, _, f3, f4, f5⟩ := hf b hb
    exact ⟨f3, f1, f4, f5⟩
  · obtain ⟨o, es, ep, ho, r⟩ := hm
    exact ⟨o, es, ep, k _ o (fun z => (hf _ z).2.1 rfl) ho, r⟩
  · refine (I.hok b u e).stay (fun c v hc q => k c v ?_ q) (fun _ q => q) fun _ _ q => q
    rcases hc with z | z
    · rw [z]; exact nit b u e
    · exact nit c _ z
theorem fpAt {b : Addr} {H' : Hp} (f : FpOk X pins H b) (h : H' b = none) : FpOk X pins H' b := ⟨h, f.2⟩
theorem fpUnpin {b : Addr} {p : List (Addr × Obj)} (f : FpOk X (pins ++ p) H b) : FpOk X pins H b := ⟨f.1, f.2.1, f.2.2.1, f.2.2.2.1, f.2.2.2.2.1, fun q hq => f.2.2.2.2.2 q ((List.mem_append.mp hq).elim (fun z => List.mem_append_left _ z) fun z => List.mem_append_right _ (List.mem_append_left _ z))⟩
/-- one more is pinned -/
theorem Inv.pin1 {b : Addr} {o : Obj} (I : Inv X pins σ H s) (f : FpOk X pins H b) (ho : s.heap.get? b = some o) (hc : ∀ v, o.data ≠ .cell v) : Inv X (pins ++ [(b, o)]) σ H s :=
  I.pins_of fun p hp => (List.mem_append.mp hp).elim (fun z => I.pin p (List.mem_append_right _ z)) fun z => by
    have e : p = (b, o) := by simpa using z
    subst e
    exact ⟨ho, f.1, f.2.1, f.2.2.1, hc⟩
end
section
variable {Γ : Gm} {W : WX} {X : Cx} {lv : Nat} {pins : List (Addr × Obj)} {σ : St} {H : Hp} {s : Shared} {G : Gh} {μ : Mu} {ρ : Rho}
/-- two keys compared -/
theorem cmp_keys {A : Around} {u1 u2 : Value} {v1 v2 : V} {d1 d2 : D} {ks : List D} {i m : Nat} (hK : X.K = Γ.K) (hu : A.units + 62 < cLine) (I : Inv X pins σ H s) (R : Same G.F H) (ok : okMin ks = true) (r1 : RelV v1 u1) (r2 : RelV v2 u2) (h1 : Is Γ G.F v1 d1) (h2 : Is Γ G.F v2 d2) (e1 : ks[i]? = some d1) (e2 : ks[m]? = some d2)
    {Q : Value → Shared → Prop} {E : Value → Shared → Prop} (q : Q (.bool (ltK ks i m)) s) : wpAny (model X.prog X.w) A (richCompare .Lt u1 u2) Q E s := by
  have m1 := List.mem_of_getElem? e1
  have m2 := List.mem_of_getElem? e2
  obtain ⟨as, ra⟩ := py_reads hK I R (ds := [d1, d2]) (.cons r1 (.cons r2 .nil)) (IsL.cons h1 (IsL.cons h2 IsL.nil)) (fun d hd => by
    rcases List.mem_cons.mp hd with e | hd
    · rw [e]; exact (okMin_py ok m1).1
    · have e : d = d2 := by simpa using hd
      rw [e]; exact (okMin_py ok m2).1)
  have al := okMin_alike ok
  have mm : ∀ d ∈ [d1, d2].map pyOf, d ∈ ks.map pyOf := fun d hd => by
    have hd : d = pyOf d1 ∨ d = pyOf d2 := by simpa using hd
    rcases hd with e | e
    · rw [e]; exact List.mem_map_of_mem m1
    · rw [e]; exact List.mem_map_of_mem m2
  have al2 : AlikeAll ([d1, d2].map pyOf) := ⟨fun x hx y hy => al.1 x (mm x hx) y (mm y hy), fun x hx => al.2 x (mm x hx)⟩
  have hdk : PyData.depthAll (ks.map pyOf) ≤ 60 := by
    unfold okMin at ok
    rw [Bool.and_eq_true] at ok
    exact of_decide_eq_true ok.2
  have dep : ∀ {xs : List PyData} {x : PyData}, x ∈ xs → x.depth ≤ PyData.depthAll xs := by
    intro xs x hx
    induction xs with
    | nil => cases hx
    | cons y ys ih =>
      unfold PyData.depthAll
      rcases List.mem_cons.mp hx with e | e
      · rw [e]; exact Nat.le_max_left _ _
      · exact Nat.le_trans (ih e) (Nat.le_max_right _ _)
  have hd2 : PyData.depthAll ([d1, d2].map pyOf) ≤ 60 := by
    have a := dep (mm (pyOf d1) (by simp))
    have b := dep (mm (pyOf d2) (by simp))
    simp only [List.map_cons, List.map_nil, PyData.depthAll]
    omega
  refine cmpIn_lt (prog := X.prog) (w := X.w) (A := A) (vs := #[u1, u2]) (xs := [d1, d2].map pyOf) (by simpa using ra) al2 (by omega) 0 1 u1 u2 s Q E (fun _ _ e => e) rfl rfl ?_
  have e : ltK ks i m = dataLt (([d1, d2].map pyOf).getD 0 .none) (([d1, d2].map pyOf).getD 1 .none) := by
    unfold ltK
    rw [List.getD_eq_getElem?_getD, List.getD_eq_getElem?_getD, e1, e2]
    rfl
  rw [e] at q
  exact q
/-- min over what is walked, the lambda at f the key -/
theorem run_minK {k : Nat} {N fr : List Str} {a : Str} {js : List Nat} {params : Arguments} {body : Expr} {scope : Scope} {cl : List (Str × Addr)} {qual : Str} {f c' : Addr} {pm ctv : Value} {kb : FE} {Q : VK} {ds : List D} {x : Value} {P : Nat → Value → Prop} {St : Nat → Shared → Prop}
    (c : Cz Γ W X lv) (hlv : k + 2 ≤ lv) (I : Inv X pins σ H s) (R : Rep Γ G ρ μ σ H)
    (hf : s.heap.get? f = some (PySem.W.kla_obj "<lambda>" qual params body scope cl pm c' ctv)) (ff : FpOk X pins H f) (hc : H c' = some (LamX.CodeO c' qual)) (hca : c' ∉ G.al)
    (S : NScope N [a] fr scope) (C : Caps X cl fr js) (hbind : ∀ u : Value, bindArgs (PySem.W.kla_fn "<lambda>" qual params body scope cl pm (.ref c') ctv) ⟨[u], []⟩ = pure ([a].zip [u]))
    (hbody : ∀ (A : Around) (outer : List Env) (st : Shared) (H0 : Hp) (E : XK), Cz Γ WF (XL X.prog X.w Γ X.mg X.base N (lamF qual params scope cl c') f A outer st H0 E) k → PE (XL X.prog X.w Γ X.mg X.base N (lamF qual params scope cl c') f A outer st H0 E) body (tZ Γ WF kb))
    (hP : ∀ i v, P i v → ∃ u d, RelV u v ∧ ds[i]? = some d ∧ Is Γ G.F u d)
    (hit : ∃ h' : Heap, ∃ J : Addr, (∀ b o, s.heap.get? b = some o → h'.get? b = some o) ∧ s.heap.objs.size ≤ J ∧ J < h'.objs.size ∧ (∀ (Q : Value → Shared → Prop) (E : Value → Shared → Prop), Q (.ref J) { s with heap := h' } → wpAny (model X.prog X.w) X.A.in1 (pyIter x) Q E s) ∧ St 0 { s with heap := h' } ∧
      (∃ fp, (∀ b ∈ fp, b < h'.objs.size) ∧ WalksS X.prog X.w X.A.in1 J fp [J] (fun a b => b = a) ds.length P St) ∧
      (∀ i s, St i s → ∃ o, s.heap.get? J = some o ∧ ∀ v, o.data ≠ .cell v) ∧ ∀ (i : Nat) (s1 s2 : Shared) (H1 : Hp) (pins : List (Addr × Obj)), St i s1 → (∀ o, s1.heap.get? J = some o → s2.heap.get? J = some o) → Inv X pins σ H1 s2 → Same G.F H1 → St i s2)
    (q : Post Γ W G ρ σ H Q (minKey kb N.length js ρ μ ds)) (E : Value → Shared → Prop) :
    wpAny (model X.prog X.w) X.A (call (.builtin "min") [x] [(Str.ofString "key", .ref f)]) (EP X pins σ Q) E s := by
  rcases minKey_inv (kb := kb) (N := N.length) (js := js) (ρ := ρ) (μ := μ) (ds := ds) with e | ⟨ks, dm, hk, ok, hne, hm, e⟩
  · rw [e] at q; exact q.elim
  rw [e] at q
  obtain ⟨h', J, kp, hJ1, hJ2, hpy, st0, ⟨fp, hfp, Wk⟩, hobj, hkeep⟩ := hit
  have hn : 0 < ds.length := List.length_pos_iff.mpr hne
  let fo : Obj := PySem.W.kla_obj "<lambda>" qual params body scope cl pm c' ctv
  have I1 : Inv X pins σ H { s with heap := h' } := I.kept (t' := s.toks) kp
  have hfo : h'.get? f = some fo := kp _ _ hf
  have hnc : ∀ v, fo.data ≠ .cell v := fun v z => nomatch z
  have I0 := Inv.pin1 I ff hf hnc
  have I2 : Inv X (pins ++ [(f, fo)]) σ H { s with heap := h' } := I0.kept (t' := s.toks) kp
  let SS : Addr := h'.objs.size
  have fJ : FpOk X (pins ++ [(f, fo)]) H J := I0.fpOk hJ1 (I.hok.fresh hJ1)
  have fS : FpOk X (pins ++ [(f, fo)]) H SS := I2.fpOk (Nat.le_refl _) (I2.hok.fresh (Nat.le_refl _))
  let Good : Shared → Hp → Gh → Prop := fun s H' G' => Inv X (pins ++ [(f, fo)]) σ H' s ∧ Rep Γ G' ρ μ σ H' ∧ Step G H G' H' ∧ H' J = none ∧ H' SS = none
  have codeAt : ∀ {H' : Hp} {G' : Gh}, Step G H G' H' → H' c' = some (LamX.CodeO c' qual) := fun z => z.keep _ _ hc (fun ps => LamX.codeO_ne ps) hca
  have goodMoved : ∀ {s1 s2 : Shared} {H' : Hp} {G' : Gh}, Good s1 H' G' → Moved (SS :: [J]) (fun a b => b = a) s1 s2 → Good s2 H' G' := fun {s1 s2 H' G'} ⟨g1, g2, g3, g4, g5⟩ m => by
    rw [Moved.eq_with m]
    refine ⟨Inv.turnedL g1 (ch := SS :: [J]) (fun b o hb z => m.heap b o hb z) (fun b hb => ?_), g2, g3, g4, g5⟩
    rcases List.mem_cons.mp hb with z | z
    · rw [z]; exact fpAt fS g5
    · have z' : b = J := by simpa using z
      rw [z']; exact fpAt fJ g4
  have runKey : ∀ (i : Nat) (v : Value) (s1 : Shared) (o : Obj) (H1 : Hp) (G1 : Gh) (Q' : Value → Shared → Prop) (E' : Value → Shared → Prop), i < ds.length → P i v → Good s1 H1 G1 → St (i + 1) s1 → s1.heap.get? SS = some o → (∀ v, o.data ≠ .cell v) →
      (∀ kv s2 H2 G2 u d, Good s2 H2 G2 → Step G1 H1 G2 H2 → RelV u kv → ks[i]? = some d → Is Γ G2.F u d → St (i + 1) s2 → s2.heap.get? SS = some o → Q' kv s2) → wpAny (model X.prog X.w) X.A.in1 (call (.ref f) [v]) Q' E' s1 := by
    intro i v s1 o H1 G1 Q' E' hi hv ⟨g1, g2, g3, g4, g5⟩ hst hSo hoc hq
    obtain ⟨u0, d0, ru, ed, iu⟩ := hP i v hv
    obtain ⟨oJ, hoJ, hocJ⟩ := hobj _ _ hst
    have hki : i < ks.length := by rw [hk.1]; exact hi
    have P1 := Inv.pin1 g1 (fpAt fS g5) hSo hoc
    have neJS : SS ≠ J := fun z => by
      have z2 : J < SS := hJ2
      rw [z] at z2
      exact Nat.lt_irrefl _ z2
    have P2 := Inv.pin1 P1 (show FpOk X _ H1 J from ⟨g4, fJ.2.1, fJ.2.2.1, fJ.2.2.2.1, fJ.2.2.2.2.1, fun p hp => by
      rcases List.mem_append.mp hp with z | z
      · exact fJ.2.2.2.2.2 p (List.mem_append_left _ z)
      · rcases List.mem_append.mp z with z | z
        · exact fJ.2.2.2.2.2 p (List.mem_append_right _ z)
        · have z' : p = (SS, o) := by simpa using z
          rw [z']; exact neJS⟩) hoJ hocJ
    have hf1 : s1.heap.get? f = some fo := (g1.pin (f, fo) (by simp)).1
    refine wpAny_mono (run_lam (k := k) (as := [.d d0]) (vs := [u0]) (E := E') (Q := fun u H2 => ∃ G2 d, Step G1 H1 G2 H2 ∧ Rep Γ G2 ρ μ σ H2 ∧ ks[i]? = some d ∧ Is Γ G2.F u d) c.K ((c.room.mono hlv).in1) c.gd g1.ok.frames P2 g2 hf1 (codeAt g3) S C (hbind v) (.cons ru .nil) rfl
      (.cons (show VRel Γ G1 u0 (.d d0) from Is.mono g3.fz _ _ iu) .nil) hbody ?_) (fun kv s2 hz => ?_) fun _ _ z => z
    · rw [hk.2 i d0 ks[i] ed (List.getElem?_eq_getElem hki)]
      intro u G2 H2 st R2 r2
      exact ⟨G2, ks[i], st, g2.go st R2.toRepM, List.getElem?_eq_getElem hki, r2⟩
    · obtain ⟨u, H2, I3, ru2, G2, d, st, R2, ek, iu2⟩ := hz
      have pS := I3.pin (SS, o) (by simp)
      have pJ := I3.pin (J, oJ) (by simp)
      have gd : Good s2 H2 G2 := ⟨I3.pins_of fun p hp => I3.pin p (by
        rcases List.mem_append.mp hp with z | z
        · simp [z]
        · simp at z; simp [z]), R2, g3.trans st, pJ.2.1, pS.2.1⟩
      refine hq kv s2 H2 G2 u d gd st ru2 ek iu2 (hkeep _ s1 s2 H2 _ hst (fun o' ho' => ?_) I3 fun a o h => R2.sub _ _ ((g3.trans st).fz a o h)) pS.1
      rw [hoJ] at ho'
      cases ho'
      exact pJ.1
  refine call_minZ (hpy _ _ ⟨J, fp, [J], (fun a b => b = a), ds.length, P, St, (fun s => ∃ H' G', Good s H' G'), (fun m kv s => ∃ H' G' u d, Good s H' G' ∧ RelV u kv ∧ ks[m]? = some d ∧ Is Γ G'.F u d), ltK ks, rfl, Wk, st0, hfp, hn, fun s3 m => ⟨H, G, goodMoved ⟨I2, R, Step.refl G H, fJ.1, fS.1⟩ m⟩,
    ⟨fun s1 s2 ⟨H', G', g⟩ m => ⟨H', G', goodMoved g m⟩, fun m kv s1 s2 ⟨H', G', u, d, g, r, ek, iu⟩ mv => ⟨H', G', u, d, goodMoved g mv, r, ek, iu⟩, ?_, ?_⟩, ?_⟩)
  · intro v s1 o Q' E' _ hv ⟨H1, G1, g⟩ hst hSo hoc hq
    exact runKey 0 v s1 o H1 G1 Q' E' hn hv g hst hSo hoc fun kv s2 H2 G2 u d g2 _ ru ek iu hst2 hS2 => hq kv s2 ⟨H2, G2, u, d, g2, ru, ek, iu⟩ hst2 hS2
  · intro i v m kv0 s1 o Q' E' hi hm hv ⟨H1, G1, u1, d1, g, ru1, ek1, iu1⟩ hst hSo hoc hq
    refine runKey i v s1 o H1 G1 Q' E' hi hv g hst hSo hoc fun kv s2 H2 G2 u d g2 st ru ek iu hst2 hS2 => ?_
    have iu1' := Is.mono st.fz _ _ iu1
    refine hq kv s2 ⟨H2, G2, u1, d1, g2, ru1, ek1, iu1'⟩ ⟨H2, G2, u, d, g2, ru, ek, iu⟩ hst2 hS2 fun Q'' E'' hq2 => ?_
    exact cmp_keys c.K (by have := c.hu; show X.A.units + 1 + 62 < _; omega) g2.1 g2.2.1.sub ok ru ru1 iu iu1' ek ek1 hq2
  · intro v kv s1 hv ⟨H1, G1, u1, d1, ⟨g1, g2, g3, _, _⟩, _, _, _⟩
    obtain ⟨u, d, ru, ed, iu⟩ := hP _ _ hv
    have ed' : d = dm := by
      have hm' : ds[argBest (ltK ks) (ds.length - 1)]? = some dm := hm
      rw [ed] at hm'
      exact Option.some.inj hm'
    subst ed'
    exact ⟨u, H1, g1.pins_of fun p hp => g1.pin p (by simp [hp]), ru, q u G1 H1 g3 g2 (Is.mono g3.fz _ _ iu)⟩
end
end Zl
set_option Elab.async false
set_option linter.all false
set_option maxRecDepth 100000
set_option maxHeartbeats 4000000
namespace Zl
open PySem PySem.Spec L2 PySem.W
open PyProof.Rows hiding St
open NdefX

/-- the lambda's promise, of any place -/
def LamB (Γ : Gm) (X : Cx) (k : Nat) (N : List Str) (params : Arguments) (body : Expr) (scope : Scope) (kb : FE) : Prop :=
  ∀ (cl : List (Str × Addr)) (f c' : Addr) (A : Around) (outer : List Env) (st : Shared) (H0 : Hp) (E : XK), Cz Γ WF (XL X.prog X.w Γ X.mg X.base N (lamF (X.env.qual ++ "<lambda>") params scope cl c') f A outer st H0 E) k →
    PE (XL X.prog X.w Γ X.mg X.base N (lamF (X.env.qual ++ "<lambda>") params scope cl c') f A outer st H0 E) body (tZ Γ WF kb)
/-- the def's code object, its table -/
structure TabAt (Γ : Gm) (X : Cx) (c P : Addr) : Prop where
  tb : LamX.TabB X.base X.mg c P
  code : X.env.code = .ref c
  mem : (P, X.env.qual ++ "<lambda>") ∈ Γ.tb
  one : ∀ p ∈ Γ.tb, p.1 = P → p.2 = X.env.qual ++ "<lambda>"
structure LamN (X : Cx) (N : List Str) (y : Str) (fr : List Str) (js : List Nat) (params : Arguments) (scope : Scope) : Prop where
  sc : NScope N [y] fr scope
  free : ∀ y ∈ scope.names, y.2 = .free → X.env.scope.names.lookup y.1 = some .cell ∨ X.env.scope.names.lookup y.1 = some .free
  frk : ∀ y ∈ fr, (y, NameKind.free) ∈ scope.names
  jx : js.map (fun j => X.N[j]?) = fr.map some
  dfl : defaultsOf params X.env = ([], [])
  bind : ∀ (body : Expr) (q : Str) (cl : List (Str × Addr)) (pm cv ctv u : Value), bindArgs (PySem.W.kla_fn "<lambda>" q params body scope cl pm cv ctv) ⟨[u], []⟩ = pure [(y, u)]
section
variable {Γ : Gm} {W : WX} {X : Cx} {lv k : Nat} {a body : Expr} {t : FA} {fr N : List Str} {js : List Nat} {y : Str} {params : Arguments} {scope : Scope} {kb : FE} {cc Pt : Addr} {p p2 p3 lpos kpos pos : Pos}
theorem LamN.has (L : LamN X N y fr js params scope) (ok : X.Ok) : ∀ y ∈ scope.names, y.2 = .free → ∃ c, X.env.cells.lookup y.1 = some c := fun y hy e => (L.free y hy e).elim (fun z => ok.has _ (.inl z)) fun z => ok.has _ (.inr z)
theorem mem_rngD {lo : Int} {n i : Nat} (h : i < n) : (rngD lo n)[i]? = some (.int (lo + i)) := by
  unfold rngD
  rw [List.getElem?_map, List.getElem?_range h]
  rfl
theorem ze_minR (c : Cz Γ W X lv) (hlv : k + 2 ≤ lv) (hg : Gl X "min") (hm : X.mg "min" = none) (hgr : Gl X "range") (hmr : X.mg "range" = none) (ha : PA X [a] (tZA Γ W t)) (hs : starEach [a] X.env = [(false, eval a X.env)])
    (T : TabAt Γ X cc Pt) (L : LamN X N y fr js params scope) (B : LamB Γ X k N params body scope kb)
    (h1 : ∀ e : Expr, e = .Call (.Name "range" p2) [a] [] p3 → backTo pos (starEach [e] X.env) = (false, eval e X.env) :: backTo pos (starEach [] X.env)) (h2 : ∀ e : Expr, e = .Call (.Name "range" p2) [a] [] p3 → (backTo pos (starEach [e] X.env)).any (·.1) = false) :
    PE X (.Call (.Name "min" p) [.Call (.Name "range" p2) [a] [] p3] [⟨some "key", .Lambda params body scope lpos, kpos⟩] pos) (tZ Γ W (fMinK (fiRng1 t) kb N.length js)) := by
  refine ⟨fun pins s σ H Q I tt => ?_⟩
  obtain ⟨G, ρ, μ, R, q⟩ := tt
  refine wpAny_Call_Name_kw (ld_blt I hg hm PyProof.Rows.boot_min ?_ (by decide) (by decide))
  refine PyProof.Rows.callWith_kw ?_ (h1 _ rfl) (h2 _ rfl) rfl rfl
  rw [h1 _ rfl]
  refine Calls.spliced_cons ?_
  refine Call_ (ld_blt I hgr hmr boot_range (PyProof.Rows.callWith_type1 (thn (ha.run p3 pins s σ H (fun vs H1 => ∃ j : Int, ∃ G1 : Gh, ∃ μ1, vs = [.int j] ∧ -(2 ^ 62) ≤ j ∧ j < 2 ^ 62 ∧ Step G H G1 H1 ∧ Rep Γ G1 ρ μ1 σ H1 ∧ Post Γ W G1 ρ σ H1 Q (minKey kb N.length js ρ μ1 (rngD 0 j.toNat))) I ⟨G, ρ, μ, R, ?_⟩) fun us s1 ⟨vs, H1, I1, r1, j, G1, μ1, e, j1, j2, st1, R1, q1⟩ => ?_) hs rfl))
  · unfold fMinK fiRng1 at q
    cases hh : t ρ μ with
    | bad => rw [hh] at q; exact q.elim
    | ex er rr mm => rw [hh] at q; exact q
    | ok pr =>
      rw [hh] at q
      obtain ⟨as, μ1⟩ := pr
      intro us G1 H1 st1 R1 r1
      simp only [Zl.R.bind_ok] at q
      split at q
      · split at q
        · rename_i j hz
          cases r1 with
          | cons a b =>
            cases b
            exact ⟨j, G1, μ1, by rw [a.int_], hz.1, hz.2, st1, R1, Post.step st1 q⟩
        · exact q.elim
      · exact q.elim
  · subst e
    cases r1 with
    | cons r rr =>
      cases rr
      obtain ⟨tk, rfl⟩ := r
      refine call_range_1 ?_
      refine Calls.spliced_nil ?_
      have I2 : Inv X pins σ H1 { s1 with heap := s1.heap.push { cls := .type "range", data := .fields #[.int 0 s1.toks, .int j tk, .int 1 (s1.toks + 1)] }, toks := s1.toks + 1 + 1 } := I1.kept fun b o e => Heap.get?_push_of_some _ e
      have hR : (s1.heap.push { cls := .type "range", data := .fields #[.int 0 s1.toks, .int j tk, .int 1 (s1.toks + 1)] }).get? s1.heap.objs.size = some { cls := .type "range", data := .fields #[.int 0 s1.toks, .int j tk, .int 1 (s1.toks + 1)] } := Heap.get?_push_size _ rfl
      have I3 := Inv.pin1 I2 (I1.fpOk (Nat.le_refl _) (I1.hok.fresh (Nat.le_refl _))) hR (fun v z => nomatch z)
      show wpAny _ _ (evalAll ((do let v ← eval (.Lambda params body scope lpos) X.env; standAt pos; pure v) :: (backToKw pos (keywordEach [] X.env)).map (·.2))) _ _ _
      refine wpAny_evalAll_cons (wpAny_bind (lam_makeZ I3 R1.toRepM T.tb T.code T.mem T.one L.dfl (L.has I.ok) fun f c' pm ctv H2 s2 I4 st2 R2 hf ff hc hca => ?_))
      refine wpAny_bind (wpAny_standAt (wpAny_pure ?_))
      refine wpAny_evalAll_nil ?_
      have hR2 := (I4.pin (s1.heap.objs.size, { cls := .type "range", data := .fields #[.int 0 s1.toks, .int j tk, .int 1 (s1.toks + 1)] }) (by simp)).1
      have done := run_minK (Q := Q) (E := X.xe) (x := .ref s1.heap.objs.size) (ds := rngD 0 j.toNat) (P := fun i v => i < j.toNat ∧ ∃ t, v = .int ((0 : Int) + i * 1) t) (St := fun i s => IsRangeIter s.heap s2.heap.objs.size ((0 : Int) + (i : Nat) * 1) ((j.toNat : Int) - (i : Nat)) 1)
        c hlv I4 (R1.go st2 R2) hf ff hc hca L.sc (Caps.made I.ok L.free L.frk L.jx) (fun u => L.bind body _ _ _ _ _ u) (B _ f c') ?_ ?_ (Post.step st2 q1)
      · refine wpAny_mono done (fun u s3 hz => ?_) fun _ _ z => z
        obtain ⟨v, H3, I5, rv, qv⟩ := hz
        exact ⟨v, H3, I5.unpinned, rv, qv⟩
      · rintro i v ⟨hi, t, rfl⟩
        exact ⟨.int ((0 : Int) + i * 1), .int ((0 : Int) + i), ⟨t, rfl⟩, mem_rngD hi, by unfold Is; rw [Int.mul_one]⟩
      · have hs1 : Builtin.Range.small 0 j 1 = true := small_one (by omega) (by omega) j1 j2
        have W0 := Walks.range (prog := X.prog) (w := X.w) (A := X.A.in1) (I4.ok.hd c.calm) s2.heap.objs.size 0 1 j.toNat
        refine ⟨s2.heap.push { cls := .type "range_iterator", data := .fields #[rawInt 0, rawInt (Builtin.Range.rangeSize 0 j 1), rawInt 1] }, s2.heap.objs.size, fun b o e => Heap.get?_push_of_some _ e, Nat.le_refl _, by rw [PyProof.Rows.size_push']; exact Nat.lt_succ_self _, fun Q E hq => wpAny_pyIter_range (s := s2) hR2 hs1 hq, ?_, ⟨[s2.heap.objs.size], fun b hb => ?_, ?_⟩, fun i s st => ⟨_, st, fun v z => nomatch z⟩, fun i s1 s2 H1 pins st kp _ _ => kp _ st⟩
        · show IsRangeIter _ _ ((0 : Int) + ((0 : Nat) : Int) * 1) ((j.toNat : Int) - ((0 : Nat) : Int)) 1
          have e1 : (0 : Int) + ((0 : Nat) : Int) * 1 = 0 := by simp
          have e2 : ((j.toNat : Nat) : Int) - ((0 : Nat) : Int) = Builtin.Range.rangeSize 0 j 1 := by rw [rangeSize_one]; split <;> omega
          rw [e1, e2]
          exact Heap.get?_push_size _ rfl
        · have e : b = s2.heap.objs.size := by simpa using hb
          rw [e, PyProof.Rows.size_push']
          exact Nat.lt_succ_self _
        · have hlen : (rngD 0 j.toNat).length = j.toNat := by simp [rngD]
          rw [hlen]
          have WS := W0.toS
          exact ⟨WS.sub, WS.grefl, WS.gtrans, WS.frame, fun i s Q E hi st hq => WS.item i s Q E hi st fun v s' hv => hq v s' ⟨hi, hv⟩, WS.done, WS.self⟩
end
end Zl
set_option Elab.async false
set_option linter.all false
set_option maxRecDepth 100000
set_option maxHeartbeats 4000000
namespace Zl
open PySem PySem.Spec L2 PySem.W
open PyProof.Rows hiding St

/-! ## defs that make lambdas -/
section
variable {P : Program} {w : World} {K : PySem.W.Frag} {mg : Str → Option Value} {base : Heap} {x qual : Str} {params : Arguments} {body : List Stmt} {scope : Scope} {dvs : List V} {kws : List (Str × V)} {f : Addr} {fd : FuncData}
theorem fng_ofT {N ps : List Str} {k : Nat} {sp : Sp} (F : FunD K x qual params body scope dvs kws f fd) (S : FnScope N ps scope) (len : ∀ vs H Q E, sp vs H Q E → vs.length = ps.length)
    (hb : ∀ (cdv : Value), (∀ p, He.fAd K p = f → cdv = .ref (He.codeOf K p)) → ∀ (A : Around) (outer : List Env) (s : Shared) (H : Hp) (vs : List V) (Q : VK) (E : XK), Room k (A.deeper (envOfC qual scope s.heap.objs.size f cdv)) → A.guards = some [] → sp vs H Q E →
      ∃ t, PSs (cxOf (L2.CX P w) P w K mg base N qual scope f cdv A outer s H E) body t ∧ t { nx := fun _ H' => Q .non H', rt := Q } (L2.start N vs) H) : FnG P w K mg base (k + 1) f fd ps sp := by
  obtain ⟨oc, od, dV, kV, doc, pm, an, cdv, ct, osl, rfl, lk, hcd, _, _⟩ := F.ex
  have hcv : ∀ p, He.fAd K p = f → cdv = .ref (He.codeOf K p) := fun p e => by
    obtain ⟨c, ec⟩ := He.codeIn_ref hcd
    rw [He.codeOf_eq (c := c) (by rw [e]; exact lk) ec]
    exact ec
  refine ⟨len, fun A outer s H args us vs Q E hr hg e0 bnd r hsp => ?_⟩
  have KX : K.In s.heap := e0.mod.kin.keeps fun b o e => (e0.bs b o e).1
  have lim : s.heap.NoLimit := e0.mod.nolimit.keeps fun b o e => (e0.bs b o e).1
  refine codeAny_call_function hr.depth (KX _ _ lk) rfl S.co S.gen rfl (PySem.W.codeRec_of KX hcd) (bnd _ _ _ _ ?_)
  refine wpAny_newFunctionEnv_cells S.kind (fun y hy => ?_) fun env he s1 z => ?_
  · rcases S.par y.1 (List.of_mem_zip (a := y.1) (b := y.2) hy).1 with q | q
    · exact Or.inl q
    · exact Or.inr ⟨q, PySem.W.cellsFrom_some _ _ _ (Or.inl q)⟩
  · subst he
    refine ⟨lim.keeps z.toInCall.keep, codeAny_func ?_⟩
    obtain ⟨t, ht, hq⟩ := hb cdv hcv A outer s H vs Q E (hr.deeper _) hg hsp
    refine wpAny_mono (ht.run [] s1 (L2.start N vs) H _ (inv_start S hr.hd e0 (len _ _ _ _ hsp) r z) hq) (fun fl s' out => ?_) fun e s' out => out
    cases fl with
    | ret u => obtain ⟨v, σ', H', J, rv, q⟩ := out; exact ⟨v, H', J.os, J.bare, J.base, J.hok, rv, q⟩
    | next => obtain ⟨σ', H', J, q⟩ := out; exact ⟨V.non, H', J.os, J.bare, J.base, J.hok, rfl, q⟩
    | brk => obtain ⟨_, _, _, q⟩ := out; exact q.elim
    | cont => obtain ⟨_, _, _, q⟩ := out; exact q.elim
end
section
variable {P : Program} {w : World} {Γ : Gm} {mg : Str → Option Value} {base : Heap}
/-- .. of a def that makes lambdas -/
theorem fn_okT {x qual : Str} {params : Arguments} {body : List Stmt} {scope : Scope} {dvs : List V} {kws : List (Str × V)} {f : Addr} {fd : FuncData} {N ps : List Str} {k : Nat} {s : FS}
    (F : FunD Γ.K x qual params body scope dvs kws f fd) (S : FnScope N ps scope)
    (hb : ∀ (W : WX) (cdv : Value), (∀ p, He.fAd Γ.K p = f → cdv = .ref (He.codeOf Γ.K p)) → ∀ (A : Around) (outer : List Env) (st : Shared) (H : Hp) (E : XK), Cz Γ W (XC P w Γ mg base N qual scope f cdv A outer st H E) k → PassesOwn (model P w) (XC P w Γ mg base N qual scope f cdv A outer st H E).A (XC P w Γ mg base N qual scope f cdv A outer st H E).env (XC P w Γ mg base N qual scope f cdv A outer st H E).xe → PSs (XC P w Γ mg base N qual scope f cdv A outer st H E) body (tZS Γ W s)) :
    FnG P w Γ.K mg base (k + 1) f fd ps (spZ Γ ps.length (fBody N.length s)) := by
  refine fng_ofT F S (fun vs H Q E h => h.1) fun cdv hcv A outer st H vs Q E hr hgd h => ?_
  obtain ⟨hl, G, μ, as, R, r, p⟩ := h
  have hpl : ps.length ≤ N.length := by have := congrArg List.length S.pre; rw [List.length_take] at this; omega
  let X := cxOf (L2.CX P w) P w Γ.K mg base N qual scope f cdv A outer st H E
  have tk : Takes X (fun cls d _ H => E cls d H) := takes_of rfl rfl rfl rfl
  have po : PassesOwn (model X.prog X.w) X.A X.env X.xe := passes_of rfl
  refine ⟨tZS Γ (fun cls d _ H => E cls d H) s, hb _ cdv hcv A outer st H E ⟨rfl, S.nd, rfl, hr, hgd, tk⟩ po, ?_⟩
  have R1 := R.pushTop
  have R2 : Rep Γ (G.push μ.length) (startR μ.length N.length as) μ (start N vs) H := by
    refine start_rep R1 ?_ List.mem_cons_self (fun t ht => ?_) (by rw [hl]; exact hpl)
    · exact Paired.imp (fun u v h => by cases v <;> exact h) r
    · rcases List.mem_cons.mp ht with e | e
      · rw [e]; exact Nat.le_refl _
      · exact (R.clo t e).1
  refine ⟨G.push μ.length, startR μ.length N.length as, μ, R2, ?_⟩
  have fin : ∀ {G' : Gh} {μ' : Mu} {H' : Hp}, Step (G.push μ.length) H G' H' → RepM Γ G' μ' H' → Step G H (G'.close H' μ.length G.ts) H' ∧ RepM Γ (G'.close H' μ.length G.ts) (μ'.take μ.length) H' := fun {G' μ' H'} st R' => by
    obtain ⟨ts, e, st2⟩ := st.push
    have ets : ts = G.ts := by
      have := st.ts
      rw [e] at this
      exact (List.cons.inj this).2
    have R2' : RepM Γ ⟨G'.F, G'.al, ts⟩ μ' H' := ⟨R'.sub, R'.len, R'.nd, fun k a c e1 e2 => CRel.mono (G := G') (G' := ⟨G'.F, G'.al, ts⟩) (fun _ _ h => h) (fun n => n) ⟨[], by simp⟩ rfl (R'.cells k a c e1 e2), R'.there, fun t ht => R'.clo t (by rw [e]; exact List.mem_cons_of_mem _ (show t ∈ ts from ht)), R'.tabs.go (fun _ _ e _ _ => e) (fun _ _ _ _ _ h => h) fun _ z => .inl z⟩
    have s3 := Step.trunc R2' st2 ets
    have ec : ∀ t, Gh.close ⟨G'.F, G'.al, ts⟩ H' t ts = G'.close H' t G.ts := fun t => by rw [ets]; rfl
    rw [ec, R.len] at s3
    refine ⟨s3, R'.trunc (by rw [e]; exact List.mem_cons_self) G.ts fun s hs => ⟨by rw [e, ets]; exact List.mem_cons_of_mem _ hs, (R.clo s hs).1⟩⟩
  unfold fBody at p
  cases e : s (startR μ.length N.length as) μ with
  | bad => rw [e] at p; exact p
  | ex er rr m =>
    rw [e] at p
    intro cls dx G' σ' H' st R' er'
    obtain ⟨s3, R3⟩ := fin st R'.toRepM
    exact p cls dx _ H' s3 R3 (ErrRel.close R'.toRepM er')
  | ok q =>
    rw [e] at p
    intro G' σ' H' st R'
    obtain ⟨s3, R3⟩ := fin st R'.toRepM
    obtain ⟨fl, ρ', μ'⟩ := q
    cases fl with
    | nx => exact p .non _ H' s3 R3 (by show Is Γ _ _ _; unfold Is; rfl)
    | rt v =>
      intro u hu
      simp only at p
      cases ec : closeV μ.length μ' v with
      | none => simp only [ec] at p; exact p.elim
      | some v' =>
        simp only [ec] at p
        refine p u _ H' s3 R3 ?_
        cases v with
        | d x => cases ec; exact Is.mono (close_same R'.toRepM _ _).1 _ _ hu
        | own j =>
          have ec : (if j < μ.length then some (Val.own j) else (treeV 40 μ.length μ' (.own j)).map .d) = some v' := ec
          by_cases hj : j < μ.length
          · rw [if_pos hj] at ec
            cases ec
            obtain ⟨a, ha, ea⟩ := hu
            exact ⟨a, by show (G'.al.take μ.length)[j]? = _; rw [List.getElem?_take_of_lt hj]; exact ha, ea⟩
          · rw [if_neg hj] at ec
            cases et : treeV 40 μ.length μ' (.own j) with
            | none => rw [et] at ec; cases ec
            | some d => rw [et] at ec; cases ec; exact tree_ok R'.toRepM _ _ 40 u (.own j) d hu et
    | bk => exact p.elim
    | ct => exact p.elim
end

/-! ## what the head tells, tables left out -/
structure SaysZT (fa : List He.Fa) (fn : List He5.DefA) (pr : List (Str × Str)) (tf : List He.Defn) (h : Heap) (K : Frag) : Prop where
  z : SaysZ fa fn pr K
  hd : ∀ p ∈ tf, PySem.W.codeHdIn K (He.cT K p).1 (He.cT K p).2 = true
  out : ∀ p ∈ tf, K.lookup (He.cT K p).2 = none
  empty : ∀ p ∈ tf, h.get? (He.cT K p).2 = some { cls := .none, data := .fields #[] }
  nd : (tf.map fun p => (He.cT K p).2).Nodup
abbrev AlZT : Type := AlZ × Bool
def obsZT (n : Nat) (fa : List He.Fa) (fn : List He5.DefA) (pr : List (Str × Str)) (tf : List He.Defn) (g : Addr → Option Obj) : AlZT := (obsZ fa fn pr (He.frT g (He5.asA g n)), He.tabsB g tf (He.frT g (He5.asA g n)) && decide (tf.map fun p => (He.cT (He.frT g (He5.asA g n)) p).2).Nodup)
theorem saysZT_of {n : Nat} {fa : List He.Fa} {fn : List He5.DefA} {pr : List (Str × Str)} {tf : List He.Defn} {h : Heap} (e : obsZT n fa fn pr tf h.get? = (valZ fn, true)) : SaysZT fa fn pr tf h (He.frT h.get? (He5.asA h.get? n)) := by
  have e1 : obsZ fa fn pr (He.frT h.get? (He5.asA h.get? n)) = valZ fn := congrArg (fun z : AlZT => z.1) e
  obtain ⟨h2, hnd⟩ := He.ba (congrArg (fun z : AlZT => z.2) e : (He.tabsB h.get? tf (He.frT h.get? (He5.asA h.get? n)) && decide (tf.map fun p => (He.cT (He.frT h.get? (He5.asA h.get? n)) p).2).Nodup) = true)
  have key : ∀ p ∈ tf, PySem.W.codeHdIn (He.frT h.get? (He5.asA h.get? n)) (He.cT (He.frT h.get? (He5.asA h.get? n)) p).1 (He.cT (He.frT h.get? (He5.asA h.get? n)) p).2 = true ∧ ∃ o, h.get? (He.cT (He.frT h.get? (He5.asA h.get? n)) p).2 = some o ∧ He.emptyTab o = true := fun p hp => by
    obtain ⟨h3, h4⟩ := He.ba (List.all_eq_true.mp h2 p hp)
    refine ⟨h3, ?_⟩
    cases q : h.get? (He.cT (He.frT h.get? (He5.asA h.get? n)) p).2 with
    | none =>
      rw [q] at h4
      cases h4
    | some o =>
      rw [q] at h4
      exact ⟨o, rfl, h4⟩
  exact ⟨saysZ_of e1, fun p hp => (key p hp).1, fun p hp => by
    obtain ⟨_, o, q, z⟩ := key p hp
    exact He.frT_none q z, fun p hp => by
    obtain ⟨_, o, q, z⟩ := key p hp
    rw [q, He.emptyTab_eq z], of_decide_eq_true hnd⟩
def hookZT (n : Nat) (fa : List He.Fa) (fn : List He5.DefA) (pr : List (Str × Str)) (tf : List He.Defn) : PySem.W.Hook where
  α := AlZT
  obs := fun s => obsZT n fa fn pr tf s.heap.get?
  val := fun _ => (valZ fn, true)
  says := fun _ h => ∃ K : Frag, K.In h ∧ SaysZT fa fn pr tf h K
  of := fun _ _ e => ⟨_, He.frT_in, saysZT_of e⟩
  keeps := fun _ _ _ ⟨K, hK, c⟩ k => ⟨K, Frag.In.keeps hK k, ⟨c.z, c.hd, c.out, fun p hp => k _ _ (c.empty p hp), c.nd⟩⟩
theorem obsZT_eq {n : Nat} {fa : List He.Fa} {fn : List He5.DefA} {pr : List (Str × Str)} {tf : List He.Defn} {g : Addr → Option Obj} {s : Shared} (h : ∀ a, g a = s.heap.get? a) : obsZT n fa fn pr tf g = (hookZT n fa fn pr tf).obs s := by
  have e : g = s.heap.get? := funext h
  rw [e]
  rfl
end Zl
set_option Elab.async false
set_option linter.all false
set_option maxRecDepth 100000
set_option maxHeartbeats 4000000
namespace Zl
open PySem PySem.Spec L2 PySem.W
open PyProof.Rows hiding St

/-! ## the law's end where defs hold tables -/
abbrev tabE : Obj := { cls := .none, data := .fields #[] }
/-- the script, if it is tracked, and the tables -/
def oneT (at_ : Addr) (b : Bool) (ob : Obj) (xs : List V) (ts : List Addr) : Hp := fun c => if c = at_ ∧ b = true then some (.frz ob (.lst xs)) else if c ∈ ts then some (.tbl #[]) else none
theorem oneT_yes {at_ c : Addr} {b : Bool} {ob : Obj} {xs : List V} {ts : List Addr} {u : HO} (h : oneT at_ b ob xs ts c = some u) : (c = at_ ∧ b = true ∧ u = .frz ob (.lst xs)) ∨ (c ∈ ts ∧ u = .tbl #[]) := by
  unfold oneT at h
  split at h
  · rename_i z; cases h; exact .inl ⟨z.1, z.2, rfl⟩
  · split at h
    · rename_i z; cases h; exact .inr ⟨z, rfl⟩
    · cases h
section
variable {P : Program} {w : World} {K : PySem.W.Frag} {mg mb : Str → Option Value} {k : Nat} {fa a : Addr} {fd : FuncData} {x : Str} {sp : Sp} {sh : Shared} {vs : List Value} {ns : List Int} {cs : List (Addr × Addr)}
theorem law_callGT (kin : K.In sh.heap) (gl : sh.heap.Ns mainGlobals mg) (bl : sh.heap.Ns builtinsNs mb) (bbl : ∀ x : Str, x ≠ "__name__" → mb x = bootBuiltins x) (lim : sh.heap.NoLimit) (gens : sh.gens = #[])
    (bmain : ∃ (bm : Addr) (ob : Obj), mg "__builtins__" = some (.ref bm) ∧ bm ≠ builtinsNs ∧ sh.heap.get? bm = some ob ∧ ob.cls = .type "module" ∧ ob.dict = some builtinsNs ∧ ob.data = .plain)
    (tabs : ∀ p ∈ cs, sh.heap.get? p.2 = some tabE) (tout : ∀ p ∈ cs, K.lookup p.2 = none) (codes : ∀ p ∈ cs, PySem.W.CodeHd sh.heap p.1 p.2)
    (obj : sh.heap.get? a = some { cls := .type "list", data := .seq vs.toArray }) (its0 : IntsAre vs ns) (small : ns.length ≤ sizeLine) (room : Room k callerA)
    (F : ∀ base : Heap, K.In base → base.Ns mainGlobals mg → (∀ p ∈ cs, LamX.TabB base mg p.1 p.2) → FnG P w K mg base k fa fd [x] sp) (bnd : ∀ (s : Shared) (u : Value), BindsTo s fd ⟨[u], []⟩ [(x, u)])
    (prom : ∀ H : Hp, (∀ p ∈ cs, H p.2 = some (.tbl #[])) → SqL K H a (ns.map V.int) → sp [.ref a] H (fun v _ => v = .bl true) fun _ _ _ => False) :
    codeAny (model P w) callerA (.call (.ref fa) ⟨[.ref a], []⟩) (fun r s' => r = .ok (.ret (.bool true)) ∧ OldK sh.heap s'.heap ∧ s'.os = sh.os ∧ AllBare s'.gens) sh := by
  have rel := vals_ints its0
  let ts := cs.map (·.2)
  have isE : ∀ c ∈ ts, sh.heap.get? c = some tabE := fun c hc => by
    obtain ⟨p, hp, e⟩ := List.mem_map.mp hc
    rw [← e]; exact tabs p hp
  have na : a ∉ ts := fun z => by
    have q := isE a z
    rw [obj] at q
    exact nomatch (congrArg Obj.data (Option.some.inj q) : Data.seq vs.toArray _ = Data.fields #[])
  have memT : ∀ p ∈ cs, p.2 ∈ ts := fun p hp => List.mem_map.mpr ⟨p, hp, rfl⟩
  have key : ∀ (b : Bool), (b = true → K.lookup a = none) → SqL K (oneT a b { cls := .type "list", data := .seq vs.toArray } (ns.map V.int) ts) a (ns.map V.int) →
      codeAny (model P w) callerA (.call (.ref fa) ⟨[.ref a], []⟩) (fun r s' => r = .ok (.ret (.bool true)) ∧ OldK sh.heap s'.heap ∧ s'.os = sh.os ∧ AllBare s'.gens) sh := by
    intro b hb sq
    generalize hH : oneT a b { cls := .type "list", data := .seq vs.toArray } (ns.map V.int) ts = H at sq
    have yes : ∀ {c : Addr} {u : HO}, H c = some u → (c = a ∧ b = true ∧ u = .frz { cls := .type "list", data := .seq vs.toArray } (.lst (ns.map V.int))) ∨ (c ∈ ts ∧ u = .tbl #[]) := fun h => oneT_yes (by rw [hH]; exact h)
    have atT : ∀ p ∈ cs, H p.2 = some (.tbl #[]) := fun p hp => by
      rw [← hH]
      unfold oneT
      rw [if_neg (fun z => na (by rw [← z.1]; exact memT p hp)), if_pos (memT p hp)]
    have hok : HOk P w H sh.heap := fun c u q => by
      rcases yes q with ⟨e1, e2, e3⟩ | ⟨e1, e2⟩
      · subst e1 e3
        exact ⟨obj, by rw [List.length_map]; exact small, vs, _, rel, obj⟩
      · subst e2
        exact isE c e1
    -- what is no list and no table is not tracked
    have free : ∀ {c : Addr} {ob : Obj}, sh.heap.get? c = some ob → (∀ vs n, ob.data ≠ .seq vs n) → ob.data ≠ .fields #[] → H c = none := fun {c ob} q n1 n2 => by
      rcases ho : H c with _ | u
      · rfl
      · rcases yes ho with ⟨e1, _, _⟩ | ⟨e1, _⟩
        · subst e1
          rw [obj] at q
          cases q
          exact absurd rfl (n1 _ _)
        · rw [isE c e1] at q
          cases q
          exact absurd rfl n2
    have hid : ∀ {c : Addr} {ob : Obj}, sh.heap.get? c = some ob → H c = none → (hidT sh.heap H).get? c = some ob := fun q z => hidT_get q z
    have dfree : ∀ {c : Addr} {ob : Obj} {es : Array DictEntry} {ep : Nat}, sh.heap.get? c = some ob → ob.data = .dict es ep → H c = none := fun q d => free q (fun _ _ z => by rw [d] at z; cases z) (fun z => by rw [d] at z; cases z)
    have nss : ∀ {c : Addr} {m : Str → Option Value}, sh.heap.Ns c m → (hidT sh.heap H).Ns c m := fun {c m} q => by
      obtain ⟨ob, es, ep, q1, q2, q3⟩ := q
      exact ⟨ob, es, ep, hid q1 (dfree q1 q2), q2, q3⟩
    have kin2 : K.In (hidT sh.heap H) := by
      intro c ob q
      refine hid (kin c ob q) ?_
      rcases ho : H c with _ | u
      · rfl
      · rcases yes ho with ⟨e1, e2, _⟩ | ⟨e1, _⟩
        · subst e1
          rw [hb e2] at q
          cases q
        · obtain ⟨p, hp, e⟩ := List.mem_map.mp e1
          have n := tout p hp
          rw [e, q] at n
          cases n
    have mgN : ∀ {c : Addr} {ob : Obj}, sh.heap.get? c = some ob → (∀ es ep, ob.data ≠ .dict es ep) → c ≠ mainGlobals := fun {c ob} q n z => by
      obtain ⟨o, es, ep, e, hd, _⟩ := gl
      rw [z, e] at q
      cases q
      exact n _ _ hd
    have TB : ∀ p ∈ cs, LamX.TabB (hidT sh.heap H) mg p.1 p.2 := fun p hp => by
      refine ⟨?_, ?_, fun z => mgN (tabs p hp) (fun _ _ => nofun) z.symm⟩
      · obtain ⟨o, us, f1, f2, f3, f4, f5, f6, f7, g1, g2, g3, g4, g5⟩ := codes p hp
        refine ⟨o, us, f1, f2, f3, f4, f5, f6, f7, hid g1 (free g1 (fun _ _ z => by rw [g3] at z; cases z) fun z => ?_), g2, g3, g4, g5⟩
        rw [g3] at z
        have z2 : us = #[] := by injection z
        rw [z2] at g4
        simp at g4
      · obtain ⟨bm, ob, b1, b2, b3, b4, b5, b6⟩ := bmain
        refine ⟨bm, ob, b1, b2, mgN b3 (fun _ _ z => by rw [b6] at z; cases z), fun z => ?_, hid b3 (free b3 (fun _ _ z => by rw [b6] at z; cases z) fun z => by rw [b6] at z; cases z), b4, b5, b6⟩
        rw [z, tabs p hp] at b3
        cases b3
        cases b6
    have e0 : Env0 P w K mg (hidT sh.heap H) callerA [] sh H := by
      refine ⟨rfl, ⟨kin2, nss gl, ⟨mb, nss bl, bbl⟩, ?_⟩, fun c ob q => of_hidT q, Nat.le_of_eq (hidT_size _ _), trivial, fun c hc => absurd (show c ∈ ([] : List Addr) from hc) (by simp), hok, AllBare.of_eq gens⟩
      obtain ⟨mc, l1, l2⟩ := lim
      exact ⟨mc, nss l1, l2⟩
    refine codeAny_mono ((F _ kin2 (nss gl) TB).run callerA [] sh H ⟨[.ref a], []⟩ [.ref a] [.ref a] (fun v _ => v = .bl true) (fun _ _ _ => False) room rfl e0 (bnd sh (.ref a)) (.cons rfl .nil) (prom H atT sq)) fun r s' out => ?_
    rcases r with er | fl
    · obtain ⟨_, _, _, _, _, _, _, _, _, _, _, _, z⟩ := (show L2.CX P w [] H sh (fun _ _ _ => False) er s' from out)
      exact z.elim
    · cases fl with
      | next => exact out.elim
      | brk => exact out.elim
      | cont => exact out.elim
      | ret u =>
        obtain ⟨v, H', hos, hbare, un, hok', rv, ev⟩ := out
        have ev : v = .bl true := ev
        subst ev
        obtain rfl : u = Value.bool true := rv
        have same : ∀ c ob, c ∉ ts → sh.heap.get? c = some ob → s'.heap.get? c = some ob := fun c ob n q => by
          rcases ho : H c with _ | u
          · exact un.keep c ob q ho (fun z => absurd (show c ∈ ([] : List Addr) from z) (by simp)) (by simp)
          · rcases yes ho with ⟨_, _, e3⟩ | ⟨e1, _⟩
            · subst e3
              obtain ⟨g1, _⟩ := hok c _ ho
              obtain ⟨g2, _⟩ := hok' c _ (un.frzs c _ _ ho)
              rw [q] at g1
              cases g1
              exact g2
            · exact absurd e1 n
        have grown : ∀ p ∈ cs, ∃ more : Array Value, s'.heap.get? p.2 = some { cls := .none, data := .fields (#[] ++ more) } := fun p hp => by
          obtain ⟨more, z⟩ := un.tbls p.2 #[] (atT p hp)
          exact ⟨more, hok' p.2 _ z⟩
        refine ⟨rfl, ⟨fun c ob q => ?_, fun c ob q => ?_⟩, hos, hbare⟩
        · by_cases hc : c ∈ ts
          · obtain ⟨p, hp, e⟩ := List.mem_map.mp hc
            obtain ⟨more, hm⟩ := grown p hp
            rw [← e, tabs p hp] at q
            cases q
            rw [← e]
            exact .inr (.inl ⟨((codes p hp).tab (tabs p hp)).isCodeTable, rfl, #[], more, rfl, hm⟩)
          · exact .inl (same c ob hc q)
        · by_cases hc : c ∈ ts
          · obtain ⟨p, hp, e⟩ := List.mem_map.mp hc
            obtain ⟨more, hm⟩ := grown p hp
            rw [← e]
            exact ⟨_, hm⟩
          · exact ⟨ob, same c ob hc q⟩
  cases hk : K.lookup a with
  | some ob =>
    have q := kin a ob hk
    rw [obj] at q
    cases q
    exact key false (fun z => nomatch z) (.inr ⟨_, vs.toArray, _, hk, rfl, rfl, rfl, by rw [List.size_toArray, its0.length]; exact small, by simpa using rel⟩)
  | none => exact key true (fun _ => hk) (.inl (.inr ⟨_, if_pos ⟨rfl, rfl⟩⟩))
end
/-- .. for the law's row -/
theorem walk_ofGT {l : PySem.W.OpenLaw} {n k : Nat} {q : Program} {loose : List Str} {XP : (Str → Option Value) → Heap → Prop} {YP : World → Heap → Prop} {d : DefRec} {x : Str}
    (hn : l.most = some n) (hn2 : n ≤ sizeLine) (hdf : d.params.defaults = []) (room : Room k callerA)
    (F : ∀ (w : World) (mg : Str → Option Value) (fa : Addr) (h : Heap), YP w h → h.Ns mainGlobals mg → mg d.name = some (.ref fa) →
      ∃ (K : PySem.W.Frag) (fd : FuncData) (sp : Sp) (cs : List (Addr × Addr)), K.In h ∧ (∀ p ∈ cs, h.get? p.2 = some tabE) ∧ (∀ p ∈ cs, K.lookup p.2 = none) ∧ (∀ p ∈ cs, PySem.W.CodeHd h p.1 p.2) ∧ (∀ (s : Shared) (u : Value), BindsTo s fd ⟨[u], []⟩ [(x, u)]) ∧
        (∀ (H : Hp) (a : Addr) (ns : List Int), ns.length ≤ n → (∀ z ∈ ns, Builtin.Int.intBits z ≤ 1048576) → (∀ p ∈ cs, H p.2 = some (.tbl #[])) → SqL K H a (ns.map V.int) → sp [.ref a] H (fun v _ => v = .bl true) fun _ _ _ => False) ∧
        ∀ base : Heap, K.In base → base.Ns mainGlobals mg → (∀ p ∈ cs, LamX.TabB base mg p.1 p.2) → FnG l.prog w K mg base k fa fd [x] sp) :
    PySem.W.WalkO q loose XP YP l.row.toRowW d [] (fun f vs => PySem.call f vs) := by
  refine Att.attach_callB hn hdf fun w s₀ sh mg mb fa o pm cd doc a vs ns G Y ho hd hcd hmg obj its0 hlen hbits gens => ?_
  obtain ⟨K, fd, sp, cs, kin, h1, h2, h3, bnd, prom, F0⟩ := F w mg fa _ Y G.T.g hmg
  exact law_callGT kin G.T.g G.T.b G.T.builtins G.T.nolimit gens G.T.bmain h1 h2 h3 obj its0 (Nat.le_trans hlen hn2) room F0 bnd fun H hH sq => prom H a ns hlen hbits hH sq
/-- the script's promise, the tables empty -/
theorem prom_T {Γ : Gm} {F_ : FF} {cs : List (Addr × Addr)} (htb : ∀ p ∈ Γ.tb, p.1 ∈ cs.map (·.2)) (H : Hp) (a : Addr) (ns : List Int) (hv : F_ [.d (.scr ns)] [] = .ok (.d (.bl true), [])) (hT : ∀ p ∈ cs, H p.2 = some (.tbl #[])) (hS : SqL Γ.K H a (ns.map V.int)) :
    spZ Γ 1 F_ [.ref a] H (fun v _ => v = .bl true) fun _ _ _ => False := by
  let F0 : Hp := fun c => match H c with
    | some (.tbl _) => none
    | o => o
  have hs : Same F0 H := fun c o e => by
    have e' : (match H c with
      | some (.tbl _) => none
      | o => o) = some o := e
    cases q : H c with
    | none => rw [q] at e'; cases e'
    | some u => rw [q] at e'; cases u <;> first | exact e' | cases e'
  have up : ∀ c o, H c = some o → (∀ ps, o ≠ .tbl ps) → F0 c = some o := fun c o e n => by
    show (match H c with
      | some (.tbl _) => none
      | o => o) = some o
    rw [e]
    cases o <;> first | rfl | exact absurd rfl (n _)
  have hS' : SqL Γ.K F0 a (ns.map V.int) := by
    rcases hS with (h | ⟨o, h⟩) | h
    · exact .inl (.inl (up _ _ h nofun))
    · exact .inl (.inr ⟨o, up _ _ h nofun⟩)
    · exact .inr h
  refine ⟨rfl, ⟨F0, [], []⟩, [], [.d (.scr ns)], ⟨hs, rfl, List.nodup_nil, fun k a c e _ => by simp at e, fun a h => (by simp at h), fun t h => (by simp at h), fun p hp => ?_⟩, .cons (show Is Γ F0 (.ref a) (.scr ns) by unfold Is; exact ⟨a, rfl, hS'⟩) .nil, ?_⟩
  · obtain ⟨c, hc, e⟩ := List.mem_map.mp (htb p hp)
    have z := hT c hc
    rw [e] at z
    refine ⟨?_, by simp, #[], z, True.intro, fun pos cv h => ?_⟩
    · show (match H p.1 with
        | some (.tbl _) => none
        | o => o) = none
      rw [z]
    · have z : codeAmong pos [] = some cv := h
      simp [codeAmong] at z
  · rw [hv]
    intro u G' H' _ _ r
    exact r.bl_
end Zl
set_option Elab.async false
set_option linter.all false
set_option maxRecDepth 100000
set_option maxHeartbeats 4000000
namespace Zl
open PySem PySem.Spec L2 PySem.W
open PyProof.Rows hiding St
open NdefX
/-! ## the tables of a law's defs; a lambda's names, by their marks -/
def tbOf (K : PySem.W.Frag) (l : List (He.Defn × Str)) : List (Addr × Str) := l.map fun p => ((He.cT K p.1).2, p.2)
structure TabsK (K : PySem.W.Frag) (mg : Str → Option Value) (base : Heap) (l : List (He.Defn × Str)) : Prop where
  tb : ∀ p ∈ l, LamX.TabB base mg (He.cT K p.1).1 (He.cT K p.1).2
  nd : (l.map fun p => (He.cT K p.1).2).Nodup
theorem nodup_one {α β : Type} {f : α → β} : ∀ {l : List α}, (l.map f).Nodup → ∀ {a b : α}, a ∈ l → b ∈ l → f a = f b → a = b
  | [], _, _, _, h, _, _ => by cases h
  | x :: l, n, a, b, ha, hb, e => by
    rw [List.map_cons, List.nodup_cons] at n
    rcases List.mem_cons.mp ha with e1 | h1 <;> rcases List.mem_cons.mp hb with e2 | h2
    · rw [e1, e2]
    · exact absurd (List.mem_map.mpr ⟨b, h2, by rw [← e, e1]⟩) n.1
    · exact absurd (List.mem_map.mpr ⟨a, h1, by rw [e, e2]⟩) n.1
    · exact nodup_one n.2 h1 h2 e
theorem tabAt_of {Γ : Gm} {X : Cx} {K : PySem.W.Frag} {mg : Str → Option Value} {base : Heap} {l : List (He.Defn × Str)} (T : TabsK K mg base l) (i : Nat) {p : He.Defn × Str} (e : l[i]? = some p) (hc : X.env.code = .ref (He.codeOf K p.1)) (hG : Γ.tb = tbOf K l) (hb : X.base = base) (hm : X.mg = mg) (hq : p.2 = X.env.qual ++ "<lambda>") :
    TabAt Γ X (He.cT K p.1).1 (He.cT K p.1).2 := by
  have hp := List.mem_of_getElem? e
  refine ⟨by rw [hb, hm]; exact T.tb p hp, hc, ?_, fun r hr er => ?_⟩
  · rw [hG, ← hq]
    exact List.mem_map.mpr ⟨p, hp, rfl⟩
  · rw [hG] at hr
    obtain ⟨p2, h2, e2⟩ := List.mem_map.mp hr
    subst e2
    have := nodup_one T.nd h2 hp er
    rw [this]
    exact hq
def lamB (sc scope : Scope) (fr : List Str) : Bool := (scope.names.all fun y => !decide (y.2 = .free) || (decide (sc.names.lookup y.1 = some .cell) || decide (sc.names.lookup y.1 = some .free))) && fr.all fun x => scope.names.any fun y => decide (y.1 = x) && decide (y.2 = .free)
theorem lamN_by {X : Cx} {N : List Str} {y : Str} {fr : List Str} {js : List Nat} {params : Arguments} {scope : Scope} (h1 : nscB N [y] fr scope = true) (h2 : lamB X.env.scope scope fr = true) (h3 : js.map (fun j => X.N[j]?) = fr.map some) (h4 : defaultsOf params X.env = ([], []))
    (h5 : ∀ (body : Expr) (q : Str) (cl : List (Str × Addr)) (pm cv ctv u : Value), bindArgs (PySem.W.kla_fn "<lambda>" q params body scope cl pm cv ctv) ⟨[u], []⟩ = pure [(y, u)]) : LamN X N y fr js params scope := by
  unfold lamB at h2
  obtain ⟨h2, h6⟩ := He.ba h2
  refine ⟨nscope_by h1, fun z hz e => ?_, fun z hz => ?_, h3, h4, h5⟩
  · have q := List.all_eq_true.mp h2 z hz
    rw [e] at q
    simp only [decide_true, Bool.not_true, Bool.false_or, Bool.or_eq_true, decide_eq_true_eq] at q
    exact q
  · have q := List.all_eq_true.mp h6 z hz
    obtain ⟨w, hw, q⟩ := List.any_eq_true.mp q
    obtain ⟨q1, q2⟩ := He.ba q
    have e1 := of_decide_eq_true q1
    have e2 := of_decide_eq_true q2
    obtain ⟨w1, w2⟩ := w
    cases e1
    cases e2
    exact hw
end Zl
set_option Elab.async false
set_option linter.all false
set_option maxRecDepth 100000
set_option maxHeartbeats 4000000
namespace Zl
open PySem PySem.Spec L2 PySem.W
open PyProof.Rows hiding St
def top (i : Nat) : Stmt := PySem.Challenge.pw_mergeblame_k75_halving.main.body.getD i (.Pass ⟨0, 0, 0, 0⟩)
def d_is_number : He5.DefA := ⟨(fun K => He.fAd K ("is_number", none)), "is_number", "is_number", defArgs (top 12), defBody (top 12), defScope (top 12), [], []⟩
def d_is_change : He5.DefA := ⟨(fun K => He.fAd K ("is_change", none)), "is_change", "is_change", defArgs (top 13), defBody (top 13), defScope (top 13), [], []⟩
def d_is_act : He5.DefA := ⟨(fun K => He.fAd K ("is_act", none)), "is_act", "is_act", defArgs (top 14), defBody (top 14), defScope (top 14), [], []⟩
def d_are_parents : He5.DefA := ⟨(fun K => He.fAd K ("are_parents", none)), "are_parents", "are_parents", defArgs (top 15), defBody (top 15), defScope (top 15), [], []⟩
def d_is_version : He5.DefA := ⟨(fun K => He.fAd K ("is_version", none)), "is_version", "is_version", defArgs (top 16), defBody (top 16), defScope (top 16), [], []⟩
def d_History_takes : He5.DefA := ⟨(fun K => He.fAd K ("History", some "takes")), "takes", "History.takes", defArgs (inClass (top 17) 1), defBody (inClass (top 17) 1), defScope (inClass (top 17) 1), [], []⟩
def d_History_behind_all : He5.DefA := ⟨(fun K => He.fAd K ("History", some "behind_all")), "behind_all", "History.behind_all", defArgs (inClass (top 17) 2), defBody (inClass (top 17) 2), defScope (inClass (top 17) 2), [], []⟩
def d_History_need : He5.DefA := ⟨(fun K => He.fAd K ("History", some "need")), "need", "History.need", defArgs (inClass (top 17) 3), defBody (inClass (top 17) 3), defScope (inClass (top 17) 3), [], []⟩
def d_History_touches : He5.DefA := ⟨(fun K => He.fAd K ("History", some "touches")), "touches", "History.touches", defArgs (inClass (top 17) 11), defBody (inClass (top 17) 11), defScope (inClass (top 17) 11), [], []⟩
def d_History_last_of : He5.DefA := ⟨(fun K => He.fAd K ("History", some "last_of")), "last_of", "History.last_of", defArgs (inClass (top 17) 12), defBody (inClass (top 17) 12), defScope (inClass (top 17) 12), [], []⟩
def d_History_content_at : He5.DefA := ⟨(fun K => He.fAd K ("History", some "content_at")), "content_at", "History.content_at", defArgs (inClass (top 17) 14), defBody (inClass (top 17) 14), defScope (inClass (top 17) 14), [], []⟩
def d_History_init : He5.DefA := ⟨(fun K => He.fAd K ("History", some "__init__")), "__init__", "History.__init__", defArgs (inClass (top 17) 0), defBody (inClass (top 17) 0), defScope (inClass (top 17) 0), [.adr (He.dflAt ("History", some "__init__") 0)], []⟩
def d_History_len : He5.DefA := ⟨(fun K => He.fAd K ("History", some "__len__")), "__len__", "History.__len__", defArgs (inClass (top 17) 6), defBody (inClass (top 17) 6), defScope (inClass (top 17) 6), [], []⟩
def d_History_content : He5.DefA := ⟨(fun K => He.fAd K ("History", some "content")), "content", "History.content", defArgs (inClass (top 17) 15), defBody (inClass (top 17) 15), defScope (inClass (top 17) 15), [], []⟩
def d_History_contents : He5.DefA := ⟨(fun K => He.fAd K ("History", some "contents")), "contents", "History.contents", defArgs (inClass (top 17) 16), defBody (inClass (top 17) 16), defScope (inClass (top 17) 16), [], []⟩
def d_are_suspects : He5.DefA := ⟨(fun K => He.fAd K ("are_suspects", none)), "are_suspects", "are_suspects", defArgs (top 19), defBody (top 19), defScope (top 19), [], []⟩
def d_needed : He5.DefA := ⟨(fun K => He.fAd K ("needed", none)), "needed", "needed", defArgs (top 20), defBody (top 20), defScope (top 20), [], []⟩
def d_parted : He5.DefA := ⟨(fun K => He.fAd K ("parted", none)), "parted", "parted", defArgs (top 21), defBody (top 21), defScope (top 21), [], []⟩
def d_greater_part : He5.DefA := ⟨(fun K => He.fAd K ("greater_part", none)), "greater_part", "greater_part", defArgs (top 22), defBody (top 22), defScope (top 22), [], []⟩
def d_halving_at : He5.DefA := ⟨(fun K => He.fAd K ("halving_at", none)), "halving_at", "halving_at", defArgs (top 23), defBody (top 23), defScope (top 23), [], []⟩
def d_halving_test : He5.DefA := ⟨(fun K => He.fAd K ("halving_test", none)), "halving_test", "halving_test", defArgs (top 24), defBody (top 24), defScope (top 24), [], []⟩
def d_halved : He5.DefA := ⟨(fun K => He.fAd K ("halved", none)), "halved", "halved", defArgs (top 25), defBody (top 25), defScope (top 25), [], []⟩
def d_halving_plan : He5.DefA := ⟨(fun K => He.fAd K ("halving_plan", none)), "halving_plan", "halving_plan", defArgs (top 26), defBody (top 26), defScope (top 26), [], []⟩
def d_law_begun : He5.DefA := ⟨(fun K => He.fAd K ("_law_begun", none)), "_law_begun", "_law_begun", defArgs (top 28), defBody (top 28), defScope (top 28), [], []⟩
def d_law_next : He5.DefA := ⟨(fun K => He.fAd K ("_law_next", none)), "_law_next", "_law_next", defArgs (top 29), defBody (top 29), defScope (top 29), [], []⟩
def d_law_pick : He5.DefA := ⟨(fun K => He.fAd K ("_law_pick", none)), "_law_pick", "_law_pick", defArgs (top 30), defBody (top 30), defScope (top 30), [], []⟩
def d_law_shuffled : He5.DefA := ⟨(fun K => He.fAd K ("_law_shuffled", none)), "_law_shuffled", "_law_shuffled", defArgs (top 31), defBody (top 31), defScope (top 31), [], []⟩
def d_law_words : He5.DefA := ⟨(fun K => He.fAd K ("_law_words", none)), "_law_words", "_law_words", defArgs (top 32), defBody (top 32), defScope (top 32), [], []⟩
def d_law_line : He5.DefA := ⟨(fun K => He.fAd K ("_law_line", none)), "_law_line", "_law_line", defArgs (top 33), defBody (top 33), defScope (top 33), [], []⟩
def d_law_behind : He5.DefA := ⟨(fun K => He.fAd K ("_law_behind", none)), "_law_behind", "_law_behind", defArgs (top 34), defBody (top 34), defScope (top 34), [], []⟩
def d_law_last : He5.DefA := ⟨(fun K => He.fAd K ("_law_last", none)), "_law_last", "_law_last", defArgs (top 35), defBody (top 35), defScope (top 35), [], []⟩
def d_law_named : He5.DefA := ⟨(fun K => He.fAd K ("_law_named", none)), "_law_named", "_law_named", defArgs (top 36), defBody (top 36), defScope (top 36), [], []⟩
def d_law_packs : He5.DefA := ⟨(fun K => He.fAd K ("_law_packs", none)), "_law_packs", "_law_packs", defArgs (top 37), defBody (top 37), defScope (top 37), [], []⟩
def d_law_story : He5.DefA := ⟨(fun K => He.fAd K ("_law_story", none)), "_law_story", "_law_story", defArgs (top 38), defBody (top 38), defScope (top 38), [], []⟩
def d_law_held : He5.DefA := ⟨(fun K => He.fAd K ("_law_held", none)), "_law_held", "_law_held", defArgs (top 39), defBody (top 39), defScope (top 39), [], []⟩
def d_law_cut : He5.DefA := ⟨(fun K => He.fAd K ("_law_cut", none)), "_law_cut", "_law_cut", defArgs (top 40), defBody (top 40), defScope (top 40), [], []⟩
def d_law_greater : He5.DefA := ⟨(fun K => He.fAd K ("_law_greater", none)), "_law_greater", "_law_greater", defArgs (top 41), defBody (top 41), defScope (top 41), [], []⟩
def d_law_halved : He5.DefA := ⟨(fun K => He.fAd K ("_law_halved", none)), "_law_halved", "_law_halved", defArgs (top 42), defBody (top 42), defScope (top 42), [], []⟩
def d_law : He5.DefA := ⟨(fun K => He.fAd K ("law", none)), "law", "law", defArgs (top 43), defBody (top 43), defScope (top 43), [], []⟩
def fnl : List He5.DefA := [d_is_number, d_is_change, d_is_act, d_are_parents, d_is_version, d_History_takes, d_History_behind_all, d_History_need, d_History_touches, d_History_last_of, d_History_content_at, d_History_init, d_History_len, d_History_content, d_History_contents, d_are_suspects, d_needed, d_parted, d_greater_part, d_halving_at, d_halving_test, d_halved, d_halving_plan, d_law_begun, d_law_next, d_law_pick, d_law_shuffled, d_law_words, d_law_line, d_law_behind, d_law_last, d_law_named, d_law_packs, d_law_story, d_law_held, d_law_cut, d_law_greater, d_law_halved, d_law]
def fa : List He.Fa := [.free "isinstance", .free "int", .free "bool", .free "str", .free "len", .int "LONGEST_CHANGE" 6, .str "LETTERS" "abcdefghijklmnopqrstuvwxyz", .free "all", .free "tuple", .glo "is_change", .int "MOST_PARENTS" 2, .glo "is_number", .glo "are_parents", .glo "is_act", .int "MOST_CHANGES" 8, .meth "History" "takes", .free "sorted", .meth "History" "behind_all", .meth "History" "need", .meth "History" "touches", .free "any", .meth "History" "last_of", .meth "History" "content_at", .free "list", .free "enumerate", .int "MOST_VERSIONS" 16, .glo "is_version", .free "range", .meth "History" "__init__", .meth "History" "__len__"] ++ [.meth "History" "content", .meth "History" "contents", .glo "are_suspects", .glo "parted", .free "max", .glo "greater_part", .free "min", .glo "needed", .glo "halving_at", .glo "halved", .free "abs", .glo "_law_next", .glo "_law_pick", .free "dict", .glo "_law_named", .glo "_law_behind", .glo "_law_last", .glo "_law_words", .glo "_law_line", .glo "_law_shuffled", .glo "_law_cut", .glo "_law_greater", .glo "_law_halved", .glo "_law_begun", .glo "_law_story", .glo "History", .glo "_law_packs", .glo "_law_held", .glo "halving_plan", .glo "halving_test"] ++ [.free "repr", .glo "law", .cls "History", .mkr "History", .noat "History" "h_behind", .noat "History" "h_changes", .noat "History" "h_contents", .noat "History" "h_versions"]
def prl : List (Str × Str) := []
def tfl : List (He.Defn × Str) := [(("halving_at", none), d_halving_at.qual ++ ".<locals>." ++ "<lambda>")]
def gm (K : PySem.W.Frag) : Gm := ⟨K, fun k => if k = "History" then some (He.ga K "History") else none, fun _ => none, fun _ => none, tbOf K tfl⟩
structure Hd (K : PySem.W.Frag) (mg : Str → Option Value) (base : Heap) : Prop where
  cz : SaysZ fa fnl prl K
  ns : ∃ h0 : Heap, K.In h0 ∧ h0.Ns mainGlobals mg
  tb : TabsK K mg base tfl
section
variable {K : PySem.W.Frag} {mg : Str → Option Value} {base : Heap}
theorem hfree (h : Hd K mg base) (i : Nat) {x : Str} (e : fa[i]? = some (.free x)) : mg x = none := let ⟨_, kx, gx⟩ := h.ns; He.free_ok kx gx (h.cz.a.fact i e)
theorem hglo (h : Hd K mg base) (i : Nat) {x : Str} (e : fa[i]? = some (.glo x)) : mg x = some (.ref (He.ga K x)) := let ⟨_, kx, gx⟩ := h.ns; He.glo_ok kx gx (h.cz.a.fact i e)
theorem hstr (h : Hd K mg base) (i : Nat) {x z : Str} (e : fa[i]? = some (.str x z)) : ∃ t, mg x = some (.str z t) := let ⟨_, kx, gx⟩ := h.ns; He.str_ok kx gx (h.cz.a.fact i e)
theorem hint (h : Hd K mg base) (i : Nat) {x : Str} {z : Int} (e : fa[i]? = some (.int x z)) : ∃ t, mg x = some (.int z t) := let ⟨_, kx, gx⟩ := h.ns; He.int_ok kx gx (h.cz.a.fact i e)
theorem fr_isinstance (h : Hd K mg base) : mg "isinstance" = none := hfree h 0 rfl
theorem fr_int (h : Hd K mg base) : mg "int" = none := hfree h 1 rfl
theorem fr_bool (h : Hd K mg base) : mg "bool" = none := hfree h 2 rfl
theorem fr_str (h : Hd K mg base) : mg "str" = none := hfree h 3 rfl
theorem fr_len (h : Hd K mg base) : mg "len" = none := hfree h 4 rfl
theorem co_LONGEST_CHANGE (h : Hd K mg base) : ∃ t, mg "LONGEST_CHANGE" = some (.int 6 t) := hint h 5 rfl
theorem co_LETTERS (h : Hd K mg base) : ∃ t, mg "LETTERS" = some (.str "abcdefghijklmnopqrstuvwxyz" t) := hstr h 6 rfl
theorem fr_all (h : Hd K mg base) : mg "all" = none := hfree h 7 rfl
theorem fr_tuple (h : Hd K mg base) : mg "tuple" = none := hfree h 8 rfl
theorem gl_is_change (h : Hd K mg base) : mg "is_change" = some (.ref (d_is_change.at_ K)) := hglo h 9 rfl
theorem co_MOST_PARENTS (h : Hd K mg base) : ∃ t, mg "MOST_PARENTS" = some (.int 2 t) := hint h 10 rfl
theorem gl_is_number (h : Hd K mg base) : mg "is_number" = some (.ref (d_is_number.at_ K)) := hglo h 11 rfl
theorem gl_are_parents (h : Hd K mg base) : mg "are_parents" = some (.ref (d_are_parents.at_ K)) := hglo h 12 rfl
theorem gl_is_act (h : Hd K mg base) : mg "is_act" = some (.ref (d_is_act.at_ K)) := hglo h 13 rfl
theorem co_MOST_CHANGES (h : Hd K mg base) : ∃ t, mg "MOST_CHANGES" = some (.int 8 t) := hint h 14 rfl
theorem me_History_takes (h : Hd K mg base) : Meth K (He.ga K "History") "takes" (He.ma K (He.ga K "History") "takes") := He.meth_ok (h.cz.a.fact 15 rfl)
theorem fr_sorted (h : Hd K mg base) : mg "sorted" = none := hfree h 16 rfl
theorem me_History_behind_all (h : Hd K mg base) : Meth K (He.ga K "History") "behind_all" (He.ma K (He.ga K "History") "behind_all") := He.meth_ok (h.cz.a.fact 17 rfl)
theorem me_History_need (h : Hd K mg base) : Meth K (He.ga K "History") "need" (He.ma K (He.ga K "History") "need") := He.meth_ok (h.cz.a.fact 18 rfl)
theorem me_History_touches (h : Hd K mg base) : Meth K (He.ga K "History") "touches" (He.ma K (He.ga K "History") "touches") := He.meth_ok (h.cz.a.fact 19 rfl)
theorem fr_any (h : Hd K mg base) : mg "any" = none := hfree h 20 rfl
theorem me_History_last_of (h : Hd K mg base) : Meth K (He.ga K "History") "last_of" (He.ma K (He.ga K "History") "last_of") := He.meth_ok (h.cz.a.fact 21 rfl)
theorem me_History_content_at (h : Hd K mg base) : Meth K (He.ga K "History") "content_at" (He.ma K (He.ga K "History") "content_at") := He.meth_ok (h.cz.a.fact 22 rfl)
theorem fr_list (h : Hd K mg base) : mg "list" = none := hfree h 23 rfl
theorem fr_enumerate (h : Hd K mg base) : mg "enumerate" = none := hfree h 24 rfl
theorem co_MOST_VERSIONS (h : Hd K mg base) : ∃ t, mg "MOST_VERSIONS" = some (.int 16 t) := hint h 25 rfl
theorem gl_is_version (h : Hd K mg base) : mg "is_version" = some (.ref (d_is_version.at_ K)) := hglo h 26 rfl
theorem fr_range (h : Hd K mg base) : mg "range" = none := hfree h 27 rfl
theorem me_History_init (h : Hd K mg base) : Meth K (He.ga K "History") "__init__" (He.ma K (He.ga K "History") "__init__") := He.meth_ok (h.cz.a.fact 28 rfl)
theorem me_History_len (h : Hd K mg base) : Meth K (He.ga K "History") "__len__" (He.ma K (He.ga K "History") "__len__") := He.meth_ok (h.cz.a.fact 29 rfl)
theorem me_History_content (h : Hd K mg base) : Meth K (He.ga K "History") "content" (He.ma K (He.ga K "History") "content") := He.meth_ok (h.cz.a.fact 30 rfl)
theorem me_History_contents (h : Hd K mg base) : Meth K (He.ga K "History") "contents" (He.ma K (He.ga K "History") "contents") := He.meth_ok (h.cz.a.fact 31 rfl)
theorem gl_are_suspects (h : Hd K mg base) : mg "are_suspects" = some (.ref (d_are_suspects.at_ K)) := hglo h 32 rfl
theorem gl_parted (h : Hd K mg base) : mg "parted" = some (.ref (d_parted.at_ K)) := hglo h 33 rfl
theorem fr_max (h : Hd K mg base) : mg "max" = none := hfree h 34 rfl
theorem gl_greater_part (h : Hd K mg base) : mg "greater_part" = some (.ref (d_greater_part.at_ K)) := hglo h 35 rfl
theorem fr_min (h : Hd K mg base) : mg "min" = none := hfree h 36 rfl
theorem gl_needed (h : Hd K mg base) : mg "needed" = some (.ref (d_needed.at_ K)) := hglo h 37 rfl
theorem gl_halving_at (h : Hd K mg base) : mg "halving_at" = some (.ref (d_halving_at.at_ K)) := hglo h 38 rfl
theorem gl_halved (h : Hd K mg base) : mg "halved" = some (.ref (d_halved.at_ K)) := hglo h 39 rfl
theorem fr_abs (h : Hd K mg base) : mg "abs" = none := hfree h 40 rfl
theorem gl__law_next (h : Hd K mg base) : mg "_law_next" = some (.ref (d_law_next.at_ K)) := hglo h 41 rfl
theorem gl__law_pick (h : Hd K mg base) : mg "_law_pick" = some (.ref (d_law_pick.at_ K)) := hglo h 42 rfl
theorem fr_dict (h : Hd K mg base) : mg "dict" = none := hfree h 43 rfl
theorem gl__law_named (h : Hd K mg base) : mg "_law_named" = some (.ref (d_law_named.at_ K)) := hglo h 44 rfl
theorem gl__law_behind (h : Hd K mg base) : mg "_law_behind" = some (.ref (d_law_behind.at_ K)) := hglo h 45 rfl
theorem gl__law_last (h : Hd K mg base) : mg "_law_last" = some (.ref (d_law_last.at_ K)) := hglo h 46 rfl
theorem gl__law_words (h : Hd K mg base) : mg "_law_words" = some (.ref (d_law_words.at_ K)) := hglo h 47 rfl
theorem gl__law_line (h : Hd K mg base) : mg "_law_line" = some (.ref (d_law_line.at_ K)) := hglo h 48 rfl
theorem gl__law_shuffled (h : Hd K mg base) : mg "_law_shuffled" = some (.ref (d_law_shuffled.at_ K)) := hglo h 49 rfl
theorem gl__law_cut (h : Hd K mg base) : mg "_law_cut" = some (.ref (d_law_cut.at_ K)) := hglo h 50 rfl
theorem gl__law_greater (h : Hd K mg base) : mg "_law_greater" = some (.ref (d_law_greater.at_ K)) := hglo h 51 rfl
theorem gl__law_halved (h : Hd K mg base) : mg "_law_halved" = some (.ref (d_law_halved.at_ K)) := hglo h 52 rfl
theorem gl__law_begun (h : Hd K mg base) : mg "_law_begun" = some (.ref (d_law_begun.at_ K)) := hglo h 53 rfl
theorem gl__law_story (h : Hd K mg base) : mg "_law_story" = some (.ref (d_law_story.at_ K)) := hglo h 54 rfl
theorem gl_History (h : Hd K mg base) : mg "History" = some (.ref (He.ga K "History")) := hglo h 55 rfl
theorem gl__law_packs (h : Hd K mg base) : mg "_law_packs" = some (.ref (d_law_packs.at_ K)) := hglo h 56 rfl
theorem gl__law_held (h : Hd K mg base) : mg "_law_held" = some (.ref (d_law_held.at_ K)) := hglo h 57 rfl
theorem gl_halving_plan (h : Hd K mg base) : mg "halving_plan" = some (.ref (d_halving_plan.at_ K)) := hglo h 58 rfl
theorem gl_halving_test (h : Hd K mg base) : mg "halving_test" = some (.ref (d_halving_test.at_ K)) := hglo h 59 rfl
theorem fr_repr (h : Hd K mg base) : mg "repr" = none := hfree h 60 rfl
theorem gl_law (h : Hd K mg base) : mg "law" = some (.ref (d_law.at_ K)) := hglo h 61 rfl
theorem cl_History (h : Hd K mg base) : Cls K (He.ga K "History") := He.cls_ok (h.cz.a.fact 62 rfl)
theorem mk_History (h : Hd K mg base) : Mk K (He.ga K "History") (He.ma K (He.ga K "History") "__init__") := He.mkr_ok (h.cz.a.fact 63 rfl)
theorem na_h_behind (h : Hd K mg base) : ∀ k C, (gm K).cl k = some C → Cls (gm K).K C ∧ NoAttr (gm K).K C "h_behind" := by
  intro k C e
  unfold gm at e
  simp only at e
  split at e
  · cases e; exact ⟨cl_History h, He.noat_ok (h.cz.a.fact 64 rfl)⟩
  cases e
theorem na_h_changes (h : Hd K mg base) : ∀ k C, (gm K).cl k = some C → Cls (gm K).K C ∧ NoAttr (gm K).K C "h_changes" := by
  intro k C e
  unfold gm at e
  simp only at e
  split at e
  · cases e; exact ⟨cl_History h, He.noat_ok (h.cz.a.fact 65 rfl)⟩
  cases e
theorem na_h_contents (h : Hd K mg base) : ∀ k C, (gm K).cl k = some C → Cls (gm K).K C ∧ NoAttr (gm K).K C "h_contents" := by
  intro k C e
  unfold gm at e
  simp only at e
  split at e
  · cases e; exact ⟨cl_History h, He.noat_ok (h.cz.a.fact 66 rfl)⟩
  cases e
theorem na_h_versions (h : Hd K mg base) : ∀ k C, (gm K).cl k = some C → Cls (gm K).K C ∧ NoAttr (gm K).K C "h_versions" := by
  intro k C e
  unfold gm at e
  simp only at e
  split at e
  · cases e; exact ⟨cl_History h, He.noat_ok (h.cz.a.fact 67 rfl)⟩
  cases e
end
theorem bt_abs : bootBuiltins "abs" = some (.builtin "abs") := by decide +kernel
theorem bt_all : bootBuiltins "all" = some (.builtin "all") := by decide +kernel
theorem bt_any : bootBuiltins "any" = some (.builtin "any") := by decide +kernel
theorem bt_bool : bootBuiltins "bool" = some (.type "bool") := by decide +kernel
theorem bt_dict : bootBuiltins "dict" = some (.type "dict") := by decide +kernel
theorem bt_int : bootBuiltins "int" = some (.type "int") := by decide +kernel
theorem bt_len : bootBuiltins "len" = some (.builtin "len") := by decide +kernel
theorem bt_list : bootBuiltins "list" = some (.type "list") := by decide +kernel
theorem bt_max : bootBuiltins "max" = some (.builtin "max") := by decide +kernel
theorem bt_min : bootBuiltins "min" = some (.builtin "min") := by decide +kernel
theorem bt_repr : bootBuiltins "repr" = some (.builtin "repr") := by decide +kernel
theorem bt_sorted : bootBuiltins "sorted" = some (.builtin "sorted") := by decide +kernel
theorem bt_str : bootBuiltins "str" = some (.type "str") := by decide +kernel
theorem bt_tuple : bootBuiltins "tuple" = some (.type "tuple") := by decide +kernel
theorem nd_History : (("History" : Str) == ("__debug__" : Str)) = false := by decide +kernel
theorem nd_Historyc : (("History" : Str) == ("__classdict__" : Str)) = false := by decide +kernel
theorem nd_LETTERS : (("LETTERS" : Str) == ("__debug__" : Str)) = false := by decide +kernel
theorem nd_LETTERSc : (("LETTERS" : Str) == ("__classdict__" : Str)) = false := by decide +kernel
theorem nd_LONGEST_CHANGE : (("LONGEST_CHANGE" : Str) == ("__debug__" : Str)) = false := by decide +kernel
theorem nd_LONGEST_CHANGEc : (("LONGEST_CHANGE" : Str) == ("__classdict__" : Str)) = false := by decide +kernel
theorem nd_MOST_CHANGES : (("MOST_CHANGES" : Str) == ("__debug__" : Str)) = false := by decide +kernel
theorem nd_MOST_CHANGESc : (("MOST_CHANGES" : Str) == ("__classdict__" : Str)) = false := by decide +kernel
theorem nd_MOST_PARENTS : (("MOST_PARENTS" : Str) == ("__debug__" : Str)) = false := by decide +kernel
theorem nd_MOST_PARENTSc : (("MOST_PARENTS" : Str) == ("__classdict__" : Str)) = false := by decide +kernel
theorem nd_MOST_VERSIONS : (("MOST_VERSIONS" : Str) == ("__debug__" : Str)) = false := by decide +kernel
theorem nd_MOST_VERSIONSc : (("MOST_VERSIONS" : Str) == ("__classdict__" : Str)) = false := by decide +kernel
theorem nd__law_at : (("_law_at" : Str) == ("__debug__" : Str)) = false := by decide +kernel
theorem nd__law_atc : (("_law_at" : Str) == ("__classdict__" : Str)) = false := by decide +kernel
theorem nd__law_begun : (("_law_begun" : Str) == ("__debug__" : Str)) = false := by decide +kernel
theorem nd__law_begunc : (("_law_begun" : Str) == ("__classdict__" : Str)) = false := by decide +kernel
theorem nd__law_behind : (("_law_behind" : Str) == ("__debug__" : Str)) = false := by decide +kernel
theorem nd__law_behindc : (("_law_behind" : Str) == ("__classdict__" : Str)) = false := by decide +kernel
theorem nd__law_behind_here : (("_law_behind_here" : Str) == ("__debug__" : Str)) = false := by decide +kernel
theorem nd__law_behind_herec : (("_law_behind_here" : Str) == ("__classdict__" : Str)) = false := by decide +kernel
theorem nd__law_best : (("_law_best" : Str) == ("__debug__" : Str)) = false := by decide +kernel
theorem nd__law_bestc : (("_law_best" : Str) == ("__classdict__" : Str)) = false := by decide +kernel
theorem nd__law_cut : (("_law_cut" : Str) == ("__debug__" : Str)) = false := by decide +kernel
theorem nd__law_cutc : (("_law_cut" : Str) == ("__classdict__" : Str)) = false := by decide +kernel
theorem nd__law_deed : (("_law_deed" : Str) == ("__debug__" : Str)) = false := by decide +kernel
theorem nd__law_deedc : (("_law_deed" : Str) == ("__classdict__" : Str)) = false := by decide +kernel
theorem nd__law_draw : (("_law_draw" : Str) == ("__debug__" : Str)) = false := by decide +kernel
theorem nd__law_drawc : (("_law_draw" : Str) == ("__classdict__" : Str)) = false := by decide +kernel
theorem nd__law_due : (("_law_due" : Str) == ("__debug__" : Str)) = false := by decide +kernel
theorem nd__law_duec : (("_law_due" : Str) == ("__classdict__" : Str)) = false := by decide +kernel
theorem nd__law_first : (("_law_first" : Str) == ("__debug__" : Str)) = false := by decide +kernel
theorem nd__law_firstc : (("_law_first" : Str) == ("__classdict__" : Str)) = false := by decide +kernel
theorem nd__law_found : (("_law_found" : Str) == ("__debug__" : Str)) = false := by decide +kernel
theorem nd__law_foundc : (("_law_found" : Str) == ("__classdict__" : Str)) = false := by decide +kernel
theorem nd__law_full : (("_law_full" : Str) == ("__debug__" : Str)) = false := by decide +kernel
theorem nd__law_fullc : (("_law_full" : Str) == ("__classdict__" : Str)) = false := by decide +kernel
theorem nd__law_great : (("_law_great" : Str) == ("__debug__" : Str)) = false := by decide +kernel
theorem nd__law_greatc : (("_law_great" : Str) == ("__classdict__" : Str)) = false := by decide +kernel
theorem nd__law_greater : (("_law_greater" : Str) == ("__debug__" : Str)) = false := by decide +kernel
theorem nd__law_greaterc : (("_law_greater" : Str) == ("__classdict__" : Str)) = false := by decide +kernel
theorem nd__law_halved : (("_law_halved" : Str) == ("__debug__" : Str)) = false := by decide +kernel
theorem nd__law_halvedc : (("_law_halved" : Str) == ("__classdict__" : Str)) = false := by decide +kernel
theorem nd__law_held : (("_law_held" : Str) == ("__debug__" : Str)) = false := by decide +kernel
theorem nd__law_heldc : (("_law_held" : Str) == ("__classdict__" : Str)) = false := by decide +kernel
theorem nd__law_held_here : (("_law_held_here" : Str) == ("__debug__" : Str)) = false := by decide +kernel
theorem nd__law_held_herec : (("_law_held_here" : Str) == ("__classdict__" : Str)) = false := by decide +kernel
theorem nd__law_hits : (("_law_hits" : Str) == ("__debug__" : Str)) = false := by decide +kernel
theorem nd__law_hitsc : (("_law_hits" : Str) == ("__classdict__" : Str)) = false := by decide +kernel
theorem nd__law_inside : (("_law_inside" : Str) == ("__debug__" : Str)) = false := by decide +kernel
theorem nd__law_insidec : (("_law_inside" : Str) == ("__classdict__" : Str)) = false := by decide +kernel
theorem nd__law_kind : (("_law_kind" : Str) == ("__debug__" : Str)) = false := by decide +kernel
theorem nd__law_kindc : (("_law_kind" : Str) == ("__classdict__" : Str)) = false := by decide +kernel
theorem nd__law_label : (("_law_label" : Str) == ("__debug__" : Str)) = false := by decide +kernel
theorem nd__law_labelc : (("_law_label" : Str) == ("__classdict__" : Str)) = false := by decide +kernel
theorem nd__law_last : (("_law_last" : Str) == ("__debug__" : Str)) = false := by decide +kernel
theorem nd__law_lastc : (("_law_last" : Str) == ("__classdict__" : Str)) = false := by decide +kernel
theorem nd__law_later : (("_law_later" : Str) == ("__debug__" : Str)) = false := by decide +kernel
theorem nd__law_laterc : (("_law_later" : Str) == ("__classdict__" : Str)) = false := by decide +kernel
theorem nd__law_left : (("_law_left" : Str) == ("__debug__" : Str)) = false := by decide +kernel
theorem nd__law_leftc : (("_law_left" : Str) == ("__classdict__" : Str)) = false := by decide +kernel
theorem nd__law_letter : (("_law_letter" : Str) == ("__debug__" : Str)) = false := by decide +kernel
theorem nd__law_letterc : (("_law_letter" : Str) == ("__classdict__" : Str)) = false := by decide +kernel
theorem nd__law_letters : (("_law_letters" : Str) == ("__debug__" : Str)) = false := by decide +kernel
theorem nd__law_lettersc : (("_law_letters" : Str) == ("__classdict__" : Str)) = false := by decide +kernel
theorem nd__law_line : (("_law_line" : Str) == ("__debug__" : Str)) = false := by decide +kernel
theorem nd__law_linec : (("_law_line" : Str) == ("__classdict__" : Str)) = false := by decide +kernel
theorem nd__law_line_here : (("_law_line_here" : Str) == ("__debug__" : Str)) = false := by decide +kernel
theorem nd__law_line_herec : (("_law_line_here" : Str) == ("__classdict__" : Str)) = false := by decide +kernel
theorem nd__law_lump : (("_law_lump" : Str) == ("__debug__" : Str)) = false := by decide +kernel
theorem nd__law_lumpc : (("_law_lump" : Str) == ("__classdict__" : Str)) = false := by decide +kernel
theorem nd__law_many : (("_law_many" : Str) == ("__debug__" : Str)) = false := by decide +kernel
theorem nd__law_manyc : (("_law_many" : Str) == ("__classdict__" : Str)) = false := by decide +kernel
theorem nd__law_marks : (("_law_marks" : Str) == ("__debug__" : Str)) = false := by decide +kernel
theorem nd__law_marksc : (("_law_marks" : Str) == ("__classdict__" : Str)) = false := by decide +kernel
theorem nd__law_menu : (("_law_menu" : Str) == ("__debug__" : Str)) = false := by decide +kernel
theorem nd__law_menuc : (("_law_menu" : Str) == ("__classdict__" : Str)) = false := by decide +kernel
theorem nd__law_mixed : (("_law_mixed" : Str) == ("__debug__" : Str)) = false := by decide +kernel
theorem nd__law_mixedc : (("_law_mixed" : Str) == ("__classdict__" : Str)) = false := by decide +kernel
theorem nd__law_most : (("_law_most" : Str) == ("__debug__" : Str)) = false := by decide +kernel
theorem nd__law_mostc : (("_law_most" : Str) == ("__classdict__" : Str)) = false := by decide +kernel
theorem nd__law_named : (("_law_named" : Str) == ("__debug__" : Str)) = false := by decide +kernel
theorem nd__law_namedc : (("_law_named" : Str) == ("__classdict__" : Str)) = false := by decide +kernel
theorem nd__law_next : (("_law_next" : Str) == ("__debug__" : Str)) = false := by decide +kernel
theorem nd__law_nextc : (("_law_next" : Str) == ("__classdict__" : Str)) = false := by decide +kernel
theorem nd__law_outside : (("_law_outside" : Str) == ("__debug__" : Str)) = false := by decide +kernel
theorem nd__law_outsidec : (("_law_outside" : Str) == ("__classdict__" : Str)) = false := by decide +kernel
theorem nd__law_own : (("_law_own" : Str) == ("__debug__" : Str)) = false := by decide +kernel
theorem nd__law_ownc : (("_law_own" : Str) == ("__classdict__" : Str)) = false := by decide +kernel
theorem nd__law_pack : (("_law_pack" : Str) == ("__debug__" : Str)) = false := by decide +kernel
theorem nd__law_packc : (("_law_pack" : Str) == ("__classdict__" : Str)) = false := by decide +kernel
theorem nd__law_packs : (("_law_packs" : Str) == ("__debug__" : Str)) = false := by decide +kernel
theorem nd__law_packsc : (("_law_packs" : Str) == ("__classdict__" : Str)) = false := by decide +kernel
theorem nd__law_packs_here : (("_law_packs_here" : Str) == ("__debug__" : Str)) = false := by decide +kernel
theorem nd__law_packs_herec : (("_law_packs_here" : Str) == ("__classdict__" : Str)) = false := by decide +kernel
theorem nd__law_part : (("_law_part" : Str) == ("__debug__" : Str)) = false := by decide +kernel
theorem nd__law_partc : (("_law_part" : Str) == ("__classdict__" : Str)) = false := by decide +kernel
theorem nd__law_pick : (("_law_pick" : Str) == ("__debug__" : Str)) = false := by decide +kernel
theorem nd__law_pickc : (("_law_pick" : Str) == ("__classdict__" : Str)) = false := by decide +kernel
theorem nd__law_script : (("_law_script" : Str) == ("__debug__" : Str)) = false := by decide +kernel
theorem nd__law_scriptc : (("_law_script" : Str) == ("__classdict__" : Str)) = false := by decide +kernel
theorem nd__law_second : (("_law_second" : Str) == ("__debug__" : Str)) = false := by decide +kernel
theorem nd__law_secondc : (("_law_second" : Str) == ("__classdict__" : Str)) = false := by decide +kernel
theorem nd__law_shuffled : (("_law_shuffled" : Str) == ("__debug__" : Str)) = false := by decide +kernel
theorem nd__law_shuffledc : (("_law_shuffled" : Str) == ("__classdict__" : Str)) = false := by decide +kernel
theorem nd__law_spot : (("_law_spot" : Str) == ("__debug__" : Str)) = false := by decide +kernel
theorem nd__law_spotc : (("_law_spot" : Str) == ("__classdict__" : Str)) = false := by decide +kernel
theorem nd__law_story : (("_law_story" : Str) == ("__debug__" : Str)) = false := by decide +kernel
theorem nd__law_storyc : (("_law_story" : Str) == ("__classdict__" : Str)) = false := by decide +kernel
theorem nd__law_told : (("_law_told" : Str) == ("__debug__" : Str)) = false := by decide +kernel
theorem nd__law_toldc : (("_law_told" : Str) == ("__classdict__" : Str)) = false := by decide +kernel
theorem nd__law_tree : (("_law_tree" : Str) == ("__debug__" : Str)) = false := by decide +kernel
theorem nd__law_treec : (("_law_tree" : Str) == ("__classdict__" : Str)) = false := by decide +kernel
theorem nd__law_tries : (("_law_tries" : Str) == ("__debug__" : Str)) = false := by decide +kernel
theorem nd__law_triesc : (("_law_tries" : Str) == ("__classdict__" : Str)) = false := by decide +kernel
theorem nd__law_turn : (("_law_turn" : Str) == ("__debug__" : Str)) = false := by decide +kernel
theorem nd__law_turnc : (("_law_turn" : Str) == ("__classdict__" : Str)) = false := by decide +kernel
theorem nd__law_up : (("_law_up" : Str) == ("__debug__" : Str)) = false := by decide +kernel
theorem nd__law_upc : (("_law_up" : Str) == ("__classdict__" : Str)) = false := by decide +kernel
theorem nd__law_ups : (("_law_ups" : Str) == ("__debug__" : Str)) = false := by decide +kernel
theorem nd__law_upsc : (("_law_ups" : Str) == ("__classdict__" : Str)) = false := by decide +kernel
theorem nd__law_way : (("_law_way" : Str) == ("__debug__" : Str)) = false := by decide +kernel
theorem nd__law_wayc : (("_law_way" : Str) == ("__classdict__" : Str)) = false := by decide +kernel
theorem nd__law_word : (("_law_word" : Str) == ("__debug__" : Str)) = false := by decide +kernel
theorem nd__law_wordc : (("_law_word" : Str) == ("__classdict__" : Str)) = false := by decide +kernel
theorem nd__law_words : (("_law_words" : Str) == ("__debug__" : Str)) = false := by decide +kernel
theorem nd__law_wordsc : (("_law_words" : Str) == ("__classdict__" : Str)) = false := by decide +kernel
theorem nd__law_words_here : (("_law_words_here" : Str) == ("__debug__" : Str)) = false := by decide +kernel
theorem nd__law_words_herec : (("_law_words_here" : Str) == ("__classdict__" : Str)) = false := by decide +kernel
theorem nd_abs : (("abs" : Str) == ("__debug__" : Str)) = false := by decide +kernel
theorem nd_absc : (("abs" : Str) == ("__classdict__" : Str)) = false := by decide +kernel
theorem nd_act : (("act" : Str) == ("__debug__" : Str)) = false := by decide +kernel
theorem nd_actc : (("act" : Str) == ("__classdict__" : Str)) = false := by decide +kernel
theorem nd_all : (("all" : Str) == ("__debug__" : Str)) = false := by decide +kernel
theorem nd_allc : (("all" : Str) == ("__classdict__" : Str)) = false := by decide +kernel
theorem nd_any : (("any" : Str) == ("__debug__" : Str)) = false := by decide +kernel
theorem nd_anyc : (("any" : Str) == ("__classdict__" : Str)) = false := by decide +kernel
theorem nd_are_parents : (("are_parents" : Str) == ("__debug__" : Str)) = false := by decide +kernel
theorem nd_are_parentsc : (("are_parents" : Str) == ("__classdict__" : Str)) = false := by decide +kernel
theorem nd_are_suspects : (("are_suspects" : Str) == ("__debug__" : Str)) = false := by decide +kernel
theorem nd_are_suspectsc : (("are_suspects" : Str) == ("__classdict__" : Str)) = false := by decide +kernel
theorem nd_at : (("at" : Str) == ("__debug__" : Str)) = false := by decide +kernel
theorem nd_atc : (("at" : Str) == ("__classdict__" : Str)) = false := by decide +kernel
theorem nd_bool : (("bool" : Str) == ("__debug__" : Str)) = false := by decide +kernel
theorem nd_boolc : (("bool" : Str) == ("__classdict__" : Str)) = false := by decide +kernel
theorem nd_change : (("change" : Str) == ("__debug__" : Str)) = false := by decide +kernel
theorem nd_changec : (("change" : Str) == ("__classdict__" : Str)) = false := by decide +kernel
theorem nd_content : (("content" : Str) == ("__debug__" : Str)) = false := by decide +kernel
theorem nd_contentc : (("content" : Str) == ("__classdict__" : Str)) = false := by decide +kernel
theorem nd_count : (("count" : Str) == ("__debug__" : Str)) = false := by decide +kernel
theorem nd_countc : (("count" : Str) == ("__classdict__" : Str)) = false := by decide +kernel
theorem nd_dict : (("dict" : Str) == ("__debug__" : Str)) = false := by decide +kernel
theorem nd_dictc : (("dict" : Str) == ("__classdict__" : Str)) = false := by decide +kernel
theorem nd_found : (("found" : Str) == ("__debug__" : Str)) = false := by decide +kernel
theorem nd_foundc : (("found" : Str) == ("__classdict__" : Str)) = false := by decide +kernel
theorem nd_greater_part : (("greater_part" : Str) == ("__debug__" : Str)) = false := by decide +kernel
theorem nd_greater_partc : (("greater_part" : Str) == ("__classdict__" : Str)) = false := by decide +kernel
theorem nd_halved : (("halved" : Str) == ("__debug__" : Str)) = false := by decide +kernel
theorem nd_halvedc : (("halved" : Str) == ("__classdict__" : Str)) = false := by decide +kernel
theorem nd_halving_at : (("halving_at" : Str) == ("__debug__" : Str)) = false := by decide +kernel
theorem nd_halving_atc : (("halving_at" : Str) == ("__classdict__" : Str)) = false := by decide +kernel
theorem nd_halving_plan : (("halving_plan" : Str) == ("__debug__" : Str)) = false := by decide +kernel
theorem nd_halving_planc : (("halving_plan" : Str) == ("__classdict__" : Str)) = false := by decide +kernel
theorem nd_halving_test : (("halving_test" : Str) == ("__debug__" : Str)) = false := by decide +kernel
theorem nd_halving_testc : (("halving_test" : Str) == ("__classdict__" : Str)) = false := by decide +kernel
theorem nd_history : (("history" : Str) == ("__debug__" : Str)) = false := by decide +kernel
theorem nd_historyc : (("history" : Str) == ("__classdict__" : Str)) = false := by decide +kernel
theorem nd_inside : (("inside" : Str) == ("__debug__" : Str)) = false := by decide +kernel
theorem nd_insidec : (("inside" : Str) == ("__classdict__" : Str)) = false := by decide +kernel
theorem nd_int : (("int" : Str) == ("__debug__" : Str)) = false := by decide +kernel
theorem nd_intc : (("int" : Str) == ("__classdict__" : Str)) = false := by decide +kernel
theorem nd_is_act : (("is_act" : Str) == ("__debug__" : Str)) = false := by decide +kernel
theorem nd_is_actc : (("is_act" : Str) == ("__classdict__" : Str)) = false := by decide +kernel
theorem nd_is_change : (("is_change" : Str) == ("__debug__" : Str)) = false := by decide +kernel
theorem nd_is_changec : (("is_change" : Str) == ("__classdict__" : Str)) = false := by decide +kernel
theorem nd_is_number : (("is_number" : Str) == ("__debug__" : Str)) = false := by decide +kernel
theorem nd_is_numberc : (("is_number" : Str) == ("__classdict__" : Str)) = false := by decide +kernel
theorem nd_is_version : (("is_version" : Str) == ("__debug__" : Str)) = false := by decide +kernel
theorem nd_is_versionc : (("is_version" : Str) == ("__classdict__" : Str)) = false := by decide +kernel
theorem nd_len : (("len" : Str) == ("__debug__" : Str)) = false := by decide +kernel
theorem nd_lenc : (("len" : Str) == ("__classdict__" : Str)) = false := by decide +kernel
theorem nd_letter : (("letter" : Str) == ("__debug__" : Str)) = false := by decide +kernel
theorem nd_letterc : (("letter" : Str) == ("__classdict__" : Str)) = false := by decide +kernel
theorem nd_list : (("list" : Str) == ("__debug__" : Str)) = false := by decide +kernel
theorem nd_listc : (("list" : Str) == ("__classdict__" : Str)) = false := by decide +kernel
theorem nd_max : (("max" : Str) == ("__debug__" : Str)) = false := by decide +kernel
theorem nd_maxc : (("max" : Str) == ("__classdict__" : Str)) = false := by decide +kernel
theorem nd_min : (("min" : Str) == ("__debug__" : Str)) = false := by decide +kernel
theorem nd_minc : (("min" : Str) == ("__classdict__" : Str)) = false := by decide +kernel
theorem nd_needed : (("needed" : Str) == ("__debug__" : Str)) = false := by decide +kernel
theorem nd_neededc : (("needed" : Str) == ("__classdict__" : Str)) = false := by decide +kernel
theorem nd_one : (("one" : Str) == ("__debug__" : Str)) = false := by decide +kernel
theorem nd_onec : (("one" : Str) == ("__classdict__" : Str)) = false := by decide +kernel
theorem nd_outside : (("outside" : Str) == ("__debug__" : Str)) = false := by decide +kernel
theorem nd_outsidec : (("outside" : Str) == ("__classdict__" : Str)) = false := by decide +kernel
theorem nd_parent : (("parent" : Str) == ("__debug__" : Str)) = false := by decide +kernel
theorem nd_parentc : (("parent" : Str) == ("__classdict__" : Str)) = false := by decide +kernel
theorem nd_parents : (("parents" : Str) == ("__debug__" : Str)) = false := by decide +kernel
theorem nd_parentsc : (("parents" : Str) == ("__classdict__" : Str)) = false := by decide +kernel
theorem nd_part : (("part" : Str) == ("__debug__" : Str)) = false := by decide +kernel
theorem nd_partc : (("part" : Str) == ("__classdict__" : Str)) = false := by decide +kernel
theorem nd_parted : (("parted" : Str) == ("__debug__" : Str)) = false := by decide +kernel
theorem nd_partedc : (("parted" : Str) == ("__classdict__" : Str)) = false := by decide +kernel
theorem nd_repr : (("repr" : Str) == ("__debug__" : Str)) = false := by decide +kernel
theorem nd_reprc : (("repr" : Str) == ("__classdict__" : Str)) = false := by decide +kernel
theorem nd_seen : (("seen" : Str) == ("__debug__" : Str)) = false := by decide +kernel
theorem nd_seenc : (("seen" : Str) == ("__classdict__" : Str)) = false := by decide +kernel
theorem nd_self : (("self" : Str) == ("__debug__" : Str)) = false := by decide +kernel
theorem nd_selfc : (("self" : Str) == ("__classdict__" : Str)) = false := by decide +kernel
theorem nd_some : (("some" : Str) == ("__debug__" : Str)) = false := by decide +kernel
theorem nd_somec : (("some" : Str) == ("__classdict__" : Str)) = false := by decide +kernel
theorem nd_sorted : (("sorted" : Str) == ("__debug__" : Str)) = false := by decide +kernel
theorem nd_sortedc : (("sorted" : Str) == ("__classdict__" : Str)) = false := by decide +kernel
theorem nd_str : (("str" : Str) == ("__debug__" : Str)) = false := by decide +kernel
theorem nd_strc : (("str" : Str) == ("__classdict__" : Str)) = false := by decide +kernel
theorem nd_thing : (("thing" : Str) == ("__debug__" : Str)) = false := by decide +kernel
theorem nd_thingc : (("thing" : Str) == ("__classdict__" : Str)) = false := by decide +kernel
theorem nd_tuple : (("tuple" : Str) == ("__debug__" : Str)) = false := by decide +kernel
theorem nd_tuplec : (("tuple" : Str) == ("__classdict__" : Str)) = false := by decide +kernel
theorem nd_u : (("u" : Str) == ("__debug__" : Str)) = false := by decide +kernel
theorem nd_uc : (("u" : Str) == ("__classdict__" : Str)) = false := by decide +kernel
theorem nd_v : (("v" : Str) == ("__debug__" : Str)) = false := by decide +kernel
theorem nd_vc : (("v" : Str) == ("__classdict__" : Str)) = false := by decide +kernel
theorem nd_version : (("version" : Str) == ("__debug__" : Str)) = false := by decide +kernel
theorem nd_versionc : (("version" : Str) == ("__classdict__" : Str)) = false := by decide +kernel
theorem nd_versions : (("versions" : Str) == ("__debug__" : Str)) = false := by decide +kernel
theorem nd_versionsc : (("versions" : Str) == ("__classdict__" : Str)) = false := by decide +kernel
theorem nd_w : (("w" : Str) == ("__debug__" : Str)) = false := by decide +kernel
theorem nd_wc : (("w" : Str) == ("__classdict__" : Str)) = false := by decide +kernel
noncomputable section
variable {P : Program} {w : World} {K : PySem.W.Frag} {mg : Str → Option Value} {base : Heap}
theorem fng_bad {Γ : Gm} {k n : Nat} {f : Addr} {fd : FuncData} {ps : List Str} : FnG P w Γ.K mg base k f fd ps (spZ Γ n fun _ _ => .bad) := ⟨fun vs H Q E h => (let ⟨_, _, _, _, _, _, z⟩ := h; z.elim), fun A outer s H args us vs Q E _ _ _ _ _ h => (let ⟨_, _, _, _, _, _, z⟩ := h; z.elim)⟩
def S_is_number : FS := fRet (fAndV (fIsi tbB [(.ty "int")] (fName 0)) (fUn oNot (fIsi tbB [(.ty "bool")] (fName 0))))
def F_is_number : FF := fBody 1 (S_is_number)
theorem sc_is_number : FnScope ["thing"] ["thing"] d_is_number.scope := ⟨rfl, rfl, rfl, by decide +kernel, rfl, by decide +kernel, by decide +kernel⟩
theorem og_is_number (h : Hd K mg base) : ∃ fd, FnG P w K mg base (1 + 1) (d_is_number.at_ K) fd ["thing"] (spZ (gm K) 1 (F_is_number)) ∧ FunD K d_is_number.name d_is_number.qual d_is_number.params d_is_number.body d_is_number.scope (d_is_number.dvs K) (d_is_number.kws K) (d_is_number.at_ K) fd := by
  obtain ⟨fd, F⟩ := h.cz.a.def_ 0 (d := d_is_number) rfl
  refine ⟨fd, ?_, F⟩
  have F2 : FunD (gm K).K d_is_number.name d_is_number.qual d_is_number.params d_is_number.body d_is_number.scope (d_is_number.dvs K) (d_is_number.kws K) (d_is_number.at_ K) fd := F
  have G0 := fn_ok (P := P) (w := w) (mg := mg) (base := base) (Γ := gm K) (k := 1) (s := S_is_number) F2 sc_is_number
  have G1 := G0 (fun W cdv A outer st H E c po => by
    unfold S_is_number
    exact (zs_one (zs_ret (ze_and (ze_isi c tbB_ok (by rfl) (fr_isinstance h) (ze_name (i := 0) rfl (Or.inl rfl) nd_thing nd_thingc) (cref_ty (by rfl) (fr_int h) bt_int (by decide) nd_int) rfl rfl rfl) (ze_one (ze_not (ze_isi c tbB_ok (by rfl) (fr_isinstance h) (ze_name (i := 0) rfl (Or.inl rfl) nd_thing nd_thingc) (cref_ty (by rfl) (fr_bool h) bt_bool (by decide) nd_bool) rfl rfl rfl)))))))
  exact G1
theorem ok_is_number (h : Hd K mg base) : FnZ (gm K) P w mg base (1 + 1) (d_is_number.at_ K) 1 F_is_number [] := by
  obtain ⟨fd, G, F⟩ := og_is_number h
  exact ⟨⟨fd, ["thing"], [], [], G, F.bindsN (ps := ["thing"]) fun _ _ _ _ _ _ us hl => match us, hl with | [_], _ => rfl, .nil, fun _ => IsL.nil⟩, F.kp⟩
def i_is_change_1 : FS := fIfS (fOrT (fNotT (fTr (fIsi tbB [(.ty "str")] (fName 0)))) (fNotT (fT (fChain oLe oLe (fC (.int 1)) (fCB oLen (fACons (fName 0) (fANil))) (fC (.int 6))))))
 (fRet (fC (.bl false)))
 (fNext)
def c_is_change_2 : FE := fLc false (fiAny (fName 0)) (fgName 1) (fYes) (fBin (oIn false) (fName 1) (fC (.str "abcdefghijklmnopqrstuvwxyz"))) [1]
def S_is_change : FS := fSeq (i_is_change_1)
 (fRet (fCB oAll (fACons (c_is_change_2) (fANil))))
def F_is_change : FF := fBody 2 (S_is_change)
theorem sc_is_change : FnScope ["thing", "letter"] ["thing"] d_is_change.scope := ⟨rfl, rfl, rfl, by decide +kernel, rfl, by decide +kernel, by decide +kernel⟩
theorem og_is_change (h : Hd K mg base) : ∃ fd, FnG P w K mg base (1 + 1) (d_is_change.at_ K) fd ["thing"] (spZ (gm K) 1 (F_is_change)) ∧ FunD K d_is_change.name d_is_change.qual d_is_change.params d_is_change.body d_is_change.scope (d_is_change.dvs K) (d_is_change.kws K) (d_is_change.at_ K) fd := by
  obtain ⟨fd, F⟩ := h.cz.a.def_ 1 (d := d_is_change) rfl
  refine ⟨fd, ?_, F⟩
  have F2 : FunD (gm K).K d_is_change.name d_is_change.qual d_is_change.params d_is_change.body d_is_change.scope (d_is_change.dvs K) (d_is_change.kws K) (d_is_change.at_ K) fd := F
  have G0 := fn_ok (P := P) (w := w) (mg := mg) (base := base) (Γ := gm K) (k := 1) (s := S_is_change) F2 sc_is_change
  have G1 := G0 (fun W cdv A outer st H E c po => by
    unfold S_is_change c_is_change_2 i_is_change_1
    exact (zs_cons (zs_if (PW.pt (zt_or (zt_not (zt_truth c (ze_isi c tbB_ok (by rfl) (fr_isinstance h) (ze_name (i := 0) rfl (Or.inl rfl) nd_thing nd_thingc) (cref_ty (by rfl) (fr_str h) bt_str (by decide) nd_str) rfl rfl rfl) (fun _ => rfl))) (pw_or1 (zt_not (zt_chain c rfl rfl ze_int (ze_blt call_lenA oLen_ok (by rfl) (fr_len h) bt_len (za_cons (ze_name (i := 0) rfl (Or.inl rfl) nd_thing nd_thingc) za_nil rfl) (by decide) nd_len rfl rfl) (ze_gint rfl (co_LONGEST_CHANGE h) nd_LONGEST_CHANGE) rfl)))))
 (zs_one (zs_ret ze_bl))
 zs_nil)
 (zs_one (zs_ret (ze_blt (cr_all rfl) oAll_ok (by rfl) (fr_all h) bt_all (za_cons (ze_lc (live := false) c (zi_any c (ze_name (i := 0) rfl (Or.inl rfl) nd_thing nd_thingc)) (blkOk_by (own := [("letter", 1)]) rfl) (tg_name (i := 1) (by simp)) (fun s1 H1 C1 l1 q1 => pg_name (Cz.nd (Cz.blk c s1 H1 _ _ q1)) (i := 1) rfl (Or.inl rfl) (Or.inr rfl)) (fun s1 H1 C1 l1 q1 => zts_nil) (fun s1 H1 C1 l1 q1 => (ze_cmp (Cz.blk c s1 H1 _ _ q1) rfl (ze_name (i := 1) rfl (Or.inl rfl) nd_letter nd_letterc) (ze_gstr rfl (co_LETTERS h) nd_LETTERS) rfl)) (fun _ => rfl)) za_nil rfl) (by decide) nd_all rfl rfl)))))
  exact G1
theorem ok_is_change (h : Hd K mg base) : FnZ (gm K) P w mg base (1 + 1) (d_is_change.at_ K) 1 F_is_change [] := by
  obtain ⟨fd, G, F⟩ := og_is_change h
  exact ⟨⟨fd, ["thing"], [], [], G, F.bindsN (ps := ["thing"]) fun _ _ _ _ _ _ us hl => match us, hl with | [_], _ => rfl, .nil, fun _ => IsL.nil⟩, F.kp⟩
def i_is_act_1 : FS := fIfS (fT (fUn (oIsN false) (fName 0)))
 (fRet (fC (.bl true)))
 (fNext)
def i_is_act_2 : FS := fIfS (fOrT (fNotT (fTr (fIsi tbB [(.ty "tuple")] (fName 0)))) (fOrT (fT (fBin (oEq true) (fCB oLen (fACons (fName 0) (fANil))) (fC (.int 2)))) (fNotT (fTr (fIsi tbB [(.ty "str")] (fBin oIx (fName 0) (fC (.int 0))))))))
 (fRet (fC (.bl false)))
 (fNext)
def S_is_act : FS := fSeq (i_is_act_1)
 (fSeq (i_is_act_2)
 (fRet (fAndV (fBin (oIn false) (fBin oIx (fName 0) (fC (.int 0))) (fTup (fACons (fC (.str "apply")) (fACons (fC (.str "revert")) (fANil))))) (fCall 1 F_is_change [] (fACons (fBin oIx (fName 0) (fC (.int 1))) (fANil))))))
def F_is_act : FF := fBody 1 (S_is_act)
theorem sc_is_act : FnScope ["thing"] ["thing"] d_is_act.scope := ⟨rfl, rfl, rfl, by decide +kernel, rfl, by decide +kernel, by decide +kernel⟩
theorem og_is_act (h : Hd K mg base) : ∃ fd, FnG P w K mg base (3 + 1) (d_is_act.at_ K) fd ["thing"] (spZ (gm K) 1 (F_is_act)) ∧ FunD K d_is_act.name d_is_act.qual d_is_act.params d_is_act.body d_is_act.scope (d_is_act.dvs K) (d_is_act.kws K) (d_is_act.at_ K) fd := by
  obtain ⟨fd, F⟩ := h.cz.a.def_ 2 (d := d_is_act) rfl
  refine ⟨fd, ?_, F⟩
  have F2 : FunD (gm K).K d_is_act.name d_is_act.qual d_is_act.params d_is_act.body d_is_act.scope (d_is_act.dvs K) (d_is_act.kws K) (d_is_act.at_ K) fd := F
  have G0 := fn_ok (P := P) (w := w) (mg := mg) (base := base) (Γ := gm K) (k := 3) (s := S_is_act) F2 sc_is_act
  have G1 := G0 (fun W cdv A outer st H E c po => by
    unfold S_is_act i_is_act_2 i_is_act_1
    exact (zs_cons (zs_if (zt_isN (ze_name (i := 0) rfl (Or.inl rfl) nd_thing nd_thingc))
 (zs_one (zs_ret ze_bl))
 zs_nil)
 (zs_cons (zs_if (PW.pt (zt_or (zt_not (zt_truth c (ze_isi c tbB_ok (by rfl) (fr_isinstance h) (ze_name (i := 0) rfl (Or.inl rfl) nd_thing nd_thingc) (cref_ty (by rfl) (fr_tuple h) bt_tuple (by decide) nd_tuple) rfl rfl rfl) (fun _ => rfl))) (zt_or (zt_cmp c rfl (ze_blt call_lenA oLen_ok (by rfl) (fr_len h) bt_len (za_cons (ze_name (i := 0) rfl (Or.inl rfl) nd_thing nd_thingc) za_nil rfl) (by decide) nd_len rfl rfl) ze_int rfl) (pw_or1 (zt_not (zt_truth c (ze_isi c tbB_ok (by rfl) (fr_isinstance h) (ze_ix c (ze_name (i := 0) rfl (Or.inl rfl) nd_thing nd_thingc) ze_int (fun _ _ => rfl)) (cref_ty (by rfl) (fr_str h) bt_str (by decide) nd_str) rfl rfl rfl) (fun _ => rfl)))))))
 (zs_one (zs_ret ze_bl))
 zs_nil)
 (zs_one (zs_ret (ze_and (ze_cmp c rfl (ze_ix c (ze_name (i := 0) rfl (Or.inl rfl) nd_thing nd_thingc) ze_int (fun _ _ => rfl)) (ze_tup (za_cons ze_str (za_cons ze_str za_nil rfl) rfl)) rfl) (ze_one (ze_call c ((ok_is_change h).up (by omega)) (by rfl) (gl_is_change h) (za_cons (ze_ix c (ze_name (i := 0) rfl (Or.inl rfl) nd_thing nd_thingc) ze_int (fun _ _ => rfl)) za_nil rfl) nd_is_change rfl rfl))))))))
  exact G1
theorem ok_is_act (h : Hd K mg base) : FnZ (gm K) P w mg base (3 + 1) (d_is_act.at_ K) 1 F_is_act [] := by
  obtain ⟨fd, G, F⟩ := og_is_act h
  exact ⟨⟨fd, ["thing"], [], [], G, F.bindsN (ps := ["thing"]) fun _ _ _ _ _ _ us hl => match us, hl with | [_], _ => rfl, .nil, fun _ => IsL.nil⟩, F.kp⟩
def c_are_parents_1 : FE := fLc false (fiAny (fName 0)) (fgName 2) (fYes) (fCall 1 F_is_number [] (fACons (fName 2) (fANil))) [2]
def i_are_parents_2 : FS := fIfS (fOrT (fNotT (fTr (fIsi tbB [(.ty "tuple")] (fName 0)))) (fOrT (fT (fBin oGt (fCB oLen (fACons (fName 0) (fANil))) (fC (.int 2)))) (fNotT (fTr (fCB oAll (fACons (c_are_parents_1) (fANil)))))))
 (fRet (fC (.bl false)))
 (fNext)
def c_are_parents_3 : FE := fLc false (fiAny (fName 0)) (fgName 2) (fYes) (fChain oLe oLt (fC (.int 0)) (fName 2) (fName 1)) [2]
def S_are_parents : FS := fSeq (i_are_parents_2)
 (fRet (fAndV (fCB oAll (fACons (c_are_parents_3) (fANil))) (fOrV (fBin oLt (fCB oLen (fACons (fName 0) (fANil))) (fC (.int 2))) (fBin oLt (fBin oIx (fName 0) (fC (.int 0))) (fBin oIx (fName 0) (fC (.int 1)))))))
def F_are_parents : FF := fBody 3 (S_are_parents)
theorem sc_are_parents : FnScope ["thing", "count", "one"] ["thing", "count"] d_are_parents.scope := ⟨rfl, rfl, rfl, by decide +kernel, rfl, by decide +kernel, by decide +kernel⟩
theorem og_are_parents (h : Hd K mg base) : ∃ fd, FnG P w K mg base (3 + 1) (d_are_parents.at_ K) fd ["thing", "count"] (spZ (gm K) 2 (F_are_parents)) ∧ FunD K d_are_parents.name d_are_parents.qual d_are_parents.params d_are_parents.body d_are_parents.scope (d_are_parents.dvs K) (d_are_parents.kws K) (d_are_parents.at_ K) fd := by
  obtain ⟨fd, F⟩ := h.cz.a.def_ 3 (d := d_are_parents) rfl
  refine ⟨fd, ?_, F⟩
  have F2 : FunD (gm K).K d_are_parents.name d_are_parents.qual d_are_parents.params d_are_parents.body d_are_parents.scope (d_are_parents.dvs K) (d_are_parents.kws K) (d_are_parents.at_ K) fd := F
  have G0 := fn_ok (P := P) (w := w) (mg := mg) (base := base) (Γ := gm K) (k := 3) (s := S_are_parents) F2 sc_are_parents
  have G1 := G0 (fun W cdv A outer st H E c po => by
    unfold S_are_parents c_are_parents_3 i_are_parents_2 c_are_parents_1
    exact (zs_cons (zs_if (PW.pt (zt_or (zt_not (zt_truth c (ze_isi c tbB_ok (by rfl) (fr_isinstance h) (ze_name (i := 0) rfl (Or.inl rfl) nd_thing nd_thingc) (cref_ty (by rfl) (fr_tuple h) bt_tuple (by decide) nd_tuple) rfl rfl rfl) (fun _ => rfl))) (zt_or (zt_cmp c rfl (ze_blt call_lenA oLen_ok (by rfl) (fr_len h) bt_len (za_cons (ze_name (i := 0) rfl (Or.inl rfl) nd_thing nd_thingc) za_nil rfl) (by decide) nd_len rfl rfl) (ze_gint rfl (co_MOST_PARENTS h) nd_MOST_PARENTS) rfl) (pw_or1 (zt_not (zt_truth c (ze_blt (cr_all rfl) oAll_ok (by rfl) (fr_all h) bt_all (za_cons (ze_lc (live := false) c (zi_any c (ze_name (i := 0) rfl (Or.inl rfl) nd_thing nd_thingc)) (blkOk_by (own := [("one", 2)]) rfl) (tg_name (i := 2) (by simp)) (fun s1 H1 C1 l1 q1 => pg_name (Cz.nd (Cz.blk c s1 H1 _ _ q1)) (i := 2) rfl (Or.inl rfl) (Or.inr rfl)) (fun s1 H1 C1 l1 q1 => zts_nil) (fun s1 H1 C1 l1 q1 => (ze_call (Cz.blk c s1 H1 _ _ q1) ((ok_is_number h).up (by omega)) (by rfl) (gl_is_number h) (za_cons (ze_name (i := 2) rfl (Or.inl rfl) nd_one nd_onec) za_nil rfl) nd_is_number rfl rfl)) (fun _ => rfl)) za_nil rfl) (by decide) nd_all rfl rfl) (fun _ => rfl)))))))
 (zs_one (zs_ret ze_bl))
 zs_nil)
 (zs_one (zs_ret (ze_and (ze_blt (cr_all rfl) oAll_ok (by rfl) (fr_all h) bt_all (za_cons (ze_lc (live := false) c (zi_any c (ze_name (i := 0) rfl (Or.inl rfl) nd_thing nd_thingc)) (blkOk_by (own := [("one", 2)]) rfl) (tg_name (i := 2) (by simp)) (fun s1 H1 C1 l1 q1 => pg_name (Cz.nd (Cz.blk c s1 H1 _ _ q1)) (i := 2) rfl (Or.inl rfl) (Or.inr rfl)) (fun s1 H1 C1 l1 q1 => zts_nil) (fun s1 H1 C1 l1 q1 => (ze_chain (Cz.blk c s1 H1 _ _ q1) rfl rfl ze_int (ze_name (i := 2) rfl (Or.inl rfl) nd_one nd_onec) (ze_name (i := 1) rfl (Or.inr (Or.inl rfl)) nd_count nd_countc) rfl)) (fun _ => rfl)) za_nil rfl) (by decide) nd_all rfl rfl) (ze_one (ze_or (ze_cmp c rfl (ze_blt call_lenA oLen_ok (by rfl) (fr_len h) bt_len (za_cons (ze_name (i := 0) rfl (Or.inl rfl) nd_thing nd_thingc) za_nil rfl) (by decide) nd_len rfl rfl) (ze_gint rfl (co_MOST_PARENTS h) nd_MOST_PARENTS) rfl) (ze_one (ze_cmp c rfl (ze_ix c (ze_name (i := 0) rfl (Or.inl rfl) nd_thing nd_thingc) ze_int (fun _ _ => rfl)) (ze_ix c (ze_name (i := 0) rfl (Or.inl rfl) nd_thing nd_thingc) ze_int (fun _ _ => rfl)) rfl)))))))))
  exact G1
theorem ok_are_parents (h : Hd K mg base) : FnZ (gm K) P w mg base (3 + 1) (d_are_parents.at_ K) 2 F_are_parents [] := by
  obtain ⟨fd, G, F⟩ := og_are_parents h
  exact ⟨⟨fd, ["thing", "count"], [], [], G, F.bindsN (ps := ["thing", "count"]) fun _ _ _ _ _ _ us hl => match us, hl with | [_, _], _ => rfl, .nil, fun _ => IsL.nil⟩, F.kp⟩
def i_is_version_1 : FS := fIfS (fOrT (fNotT (fTr (fIsi tbB [(.ty "tuple")] (fName 0)))) (fT (fBin (oEq true) (fCB oLen (fACons (fName 0) (fANil))) (fC (.int 2)))))
 (fRet (fC (.bl false)))
 (fNext)
def S_is_version : FS := fSeq (i_is_version_1)
 (fRet (fAndV (fCall 2 F_are_parents [] (fACons (fBin oIx (fName 0) (fC (.int 0))) (fACons (fName 1) (fANil)))) (fCall 1 F_is_act [] (fACons (fBin oIx (fName 0) (fC (.int 1))) (fANil)))))
def F_is_version : FF := fBody 2 (S_is_version)
theorem sc_is_version : FnScope ["thing", "count"] ["thing", "count"] d_is_version.scope := ⟨rfl, rfl, rfl, by decide +kernel, rfl, by decide +kernel, by decide +kernel⟩
theorem og_is_version (h : Hd K mg base) : ∃ fd, FnG P w K mg base (5 + 1) (d_is_version.at_ K) fd ["thing", "count"] (spZ (gm K) 2 (F_is_version)) ∧ FunD K d_is_version.name d_is_version.qual d_is_version.params d_is_version.body d_is_version.scope (d_is_version.dvs K) (d_is_version.kws K) (d_is_version.at_ K) fd := by
  obtain ⟨fd, F⟩ := h.cz.a.def_ 4 (d := d_is_version) rfl
  refine ⟨fd, ?_, F⟩
  have F2 : FunD (gm K).K d_is_version.name d_is_version.qual d_is_version.params d_is_version.body d_is_version.scope (d_is_version.dvs K) (d_is_version.kws K) (d_is_version.at_ K) fd := F
  have G0 := fn_ok (P := P) (w := w) (mg := mg) (base := base) (Γ := gm K) (k := 5) (s := S_is_version) F2 sc_is_version
  have G1 := G0 (fun W cdv A outer st H E c po => by
    unfold S_is_version i_is_version_1
    exact (zs_cons (zs_if (PW.pt (zt_or (zt_not (zt_truth c (ze_isi c tbB_ok (by rfl) (fr_isinstance h) (ze_name (i := 0) rfl (Or.inl rfl) nd_thing nd_thingc) (cref_ty (by rfl) (fr_tuple h) bt_tuple (by decide) nd_tuple) rfl rfl rfl) (fun _ => rfl))) (pw_or1 (zt_cmp c rfl (ze_blt call_lenA oLen_ok (by rfl) (fr_len h) bt_len (za_cons (ze_name (i := 0) rfl (Or.inl rfl) nd_thing nd_thingc) za_nil rfl) (by decide) nd_len rfl rfl) ze_int rfl))))
 (zs_one (zs_ret ze_bl))
 zs_nil)
 (zs_one (zs_ret (ze_and (ze_call c ((ok_are_parents h).up (by omega)) (by rfl) (gl_are_parents h) (za_cons (ze_ix c (ze_name (i := 0) rfl (Or.inl rfl) nd_thing nd_thingc) ze_int (fun _ _ => rfl)) (za_cons (ze_name (i := 1) rfl (Or.inl rfl) nd_count nd_countc) za_nil rfl) rfl) nd_are_parents rfl rfl) (ze_one (ze_call c ((ok_is_act h).up (by omega)) (by rfl) (gl_is_act h) (za_cons (ze_ix c (ze_name (i := 0) rfl (Or.inl rfl) nd_thing nd_thingc) ze_int (fun _ _ => rfl)) za_nil rfl) nd_is_act rfl rfl)))))))
  exact G1
theorem ok_is_version (h : Hd K mg base) : FnZ (gm K) P w mg base (5 + 1) (d_is_version.at_ K) 2 F_is_version [] := by
  obtain ⟨fd, G, F⟩ := og_is_version h
  exact ⟨⟨fd, ["thing", "count"], [], [], G, F.bindsN (ps := ["thing", "count"]) fun _ _ _ _ _ _ us hl => match us, hl with | [_, _], _ => rfl, .nil, fun _ => IsL.nil⟩, F.kp⟩
def i_History_takes_1 : FS := fIfS (fAndT (fT (fUn (oIsN true) (fName 1))) (fT (fBin (oIn true) (fBin oIx (fName 1) (fC (.int 1))) (fFld "h_changes" (fName 0)))))
 (fDrop (fBM "list" oAppend (fFld "h_changes" (fName 0)) (fACons (fBin oIx (fName 1) (fC (.int 1))) (fANil))))
 (fNext)
def S_History_takes : FS := fSeq (i_History_takes_1)
 (fRet (fBin oLe (fCB oLen (fACons (fFld "h_changes" (fName 0)) (fANil))) (fC (.int 8))))
def F_History_takes : FF := fBody 2 (S_History_takes)
theorem sc_History_takes : FnScope ["self", "act"] ["self", "act"] d_History_takes.scope := ⟨rfl, rfl, rfl, by decide +kernel, rfl, by decide +kernel, by decide +kernel⟩
theorem og_History_takes (h : Hd K mg base) : ∃ fd, FnG P w K mg base (1 + 1) (d_History_takes.at_ K) fd ["self", "act"] (spZ (gm K) 2 (F_History_takes)) ∧ FunD K d_History_takes.name d_History_takes.qual d_History_takes.params d_History_takes.body d_History_takes.scope (d_History_takes.dvs K) (d_History_takes.kws K) (d_History_takes.at_ K) fd := by
  obtain ⟨fd, F⟩ := h.cz.a.def_ 5 (d := d_History_takes) rfl
  refine ⟨fd, ?_, F⟩
  have F2 : FunD (gm K).K d_History_takes.name d_History_takes.qual d_History_takes.params d_History_takes.body d_History_takes.scope (d_History_takes.dvs K) (d_History_takes.kws K) (d_History_takes.at_ K) fd := F
  have G0 := fn_ok (P := P) (w := w) (mg := mg) (base := base) (Γ := gm K) (k := 1) (s := S_History_takes) F2 sc_History_takes
  have G1 := G0 (fun W cdv A outer st H E c po => by
    unfold S_History_takes i_History_takes_1
    exact (zs_cons (zs_if (PW.pt (zt_and (zt_notN (ze_name (i := 1) rfl (Or.inl rfl) nd_act nd_actc)) (pw_and1 (zt_cmp c rfl (ze_ix c (ze_name (i := 1) rfl (Or.inl rfl) nd_act nd_actc) ze_int (fun _ _ => rfl)) (ze_fld c (na_h_changes h) (ze_name (i := 0) rfl (Or.inl rfl) nd_self nd_selfc) rfl) rfl))))
 (zs_one (zs_expr (ze_bm PySem.F.plainAttrs_list PySem.F.slot_list_append PySem.F.type_list_append c mt_append oAppend_ok (ze_fld c (na_h_changes h) (ze_name (i := 0) rfl (Or.inl rfl) nd_self nd_selfc) rfl) (za_cons (ze_ix c (ze_name (i := 1) rfl (Or.inl rfl) nd_act nd_actc) ze_int (fun _ _ => rfl)) za_nil rfl) rfl rfl rfl rfl rfl) rfl))
 zs_nil)
 (zs_one (zs_ret (ze_cmp c rfl (ze_blt call_lenA oLen_ok (by rfl) (fr_len h) bt_len (za_cons (ze_fld c (na_h_changes h) (ze_name (i := 0) rfl (Or.inl rfl) nd_self nd_selfc) rfl) za_nil rfl) (by decide) nd_len rfl rfl) (ze_gint rfl (co_MOST_CHANGES h) nd_MOST_CHANGES) rfl)))))
  exact G1
abbrev Δ_takes : MT := mt1 "History" 2 (F_History_takes)
theorem okm_takes (h : Hd K mg base) : MtZ (gm K) P w mg base (1 + 1) "takes" (Δ_takes) := by
  obtain ⟨fd, G, F⟩ := og_History_takes h
  exact mtz1 rfl (cl_History h) (me_History_takes h) G (F.bindsN (ps := ["self", "act"]) fun _ _ _ _ _ _ us hl => match us, hl with | [_, _], _ => rfl)
def c_History_behind_all_1 : FE := fDc true (fiAny (fName 1)) (fgName 3) (fYes) (fName 3) (fC (.bl true)) [3]
def c_History_behind_all_2 : FE := fDc false (fiAny (fBin oIx (fFld "h_behind" (fName 0)) (fName 3))) (fgName 4) (fYes) (fName 4) (fC (.bl true)) [4]
def b_History_behind_all_3 : FS := fDrop (fBM "dict" oUpdate (fName 2) (fACons (c_History_behind_all_2) (fANil)))
def S_History_behind_all : FS := fSeq (fSet 2 c_History_behind_all_1)
 (fSeq (fForS (fiAny (fName 1)) (fgName 3)
 b_History_behind_all_3)
 (fRet (fCB (oSorted false) (fACons (fName 2) (fANil)))))
def F_History_behind_all : FF := fBody 5 (S_History_behind_all)
theorem sc_History_behind_all : FnScope ["self", "parents", "found", "parent", "v"] ["self", "parents"] d_History_behind_all.scope := ⟨rfl, rfl, rfl, by decide +kernel, rfl, by decide +kernel, by decide +kernel⟩
theorem og_History_behind_all (h : Hd K mg base) : ∃ fd, FnG P w K mg base (1 + 1) (d_History_behind_all.at_ K) fd ["self", "parents"] (spZ (gm K) 2 (F_History_behind_all)) ∧ FunD K d_History_behind_all.name d_History_behind_all.qual d_History_behind_all.params d_History_behind_all.body d_History_behind_all.scope (d_History_behind_all.dvs K) (d_History_behind_all.kws K) (d_History_behind_all.at_ K) fd := by
  obtain ⟨fd, F⟩ := h.cz.a.def_ 6 (d := d_History_behind_all) rfl
  refine ⟨fd, ?_, F⟩
  have F2 : FunD (gm K).K d_History_behind_all.name d_History_behind_all.qual d_History_behind_all.params d_History_behind_all.body d_History_behind_all.scope (d_History_behind_all.dvs K) (d_History_behind_all.kws K) (d_History_behind_all.at_ K) fd := F
  have G0 := fn_ok (P := P) (w := w) (mg := mg) (base := base) (Γ := gm K) (k := 1) (s := S_History_behind_all) F2 sc_History_behind_all
  have G1 := G0 (fun W cdv A outer st H E c po => by
    unfold S_History_behind_all b_History_behind_all_3 c_History_behind_all_2 c_History_behind_all_1
    exact (zs_cons (zs_setDc (live := true) c (i := 2) rfl rfl (sw_dict rfl rfl rfl rfl) (zi_any c (ze_name (i := 1) rfl (Or.inl rfl) nd_parents nd_parentsc)) (blkOk_by (own := [("parent", 3)]) rfl) (tg_name (i := 3) (by simp)) (fun s1 H1 C1 l1 q1 => pg_name (Cz.nd (Cz.blk c s1 H1 _ _ q1)) (i := 3) rfl (Or.inl rfl) (Or.inr rfl)) (fun s1 H1 C1 l1 q1 => zts_nil) (fun s1 H1 C1 l1 q1 => (ze_name (i := 3) rfl (Or.inl rfl) nd_parent nd_parentc)) (fun s1 H1 C1 l1 q1 => ze_bl) (fun _ => rfl))
 (zs_cons (zs_for (fun _ _ _ _ _ _ z => by cases z) c po (zi_any c (ze_name (i := 1) rfl (Or.inl rfl) nd_parents nd_parentsc)) (zg_name (Cz.nd c) (i := 3) rfl (Or.inl rfl) (Or.inl rfl))
 (zs_one (zs_expr (ze_bm PySem.F.plainAttrs_dict PySem.F.slot_dict_update PySem.F.type_dict_update c mt_update oUpdate_ok (ze_name (i := 2) rfl (Or.inl rfl) nd_found nd_foundc) (za_cons (ze_dc (live := false) c (zi_any c (ze_ix c (ze_fld c (na_h_behind h) (ze_name (i := 0) rfl (Or.inl rfl) nd_self nd_selfc) rfl) (ze_name (i := 3) rfl (Or.inl rfl) nd_parent nd_parentc) (fun _ _ => rfl))) (blkOk_by (own := [("v", 4)]) rfl) (tg_name (i := 4) (by simp)) (fun s1 H1 C1 l1 q1 => pg_name (Cz.nd (Cz.blk c s1 H1 _ _ q1)) (i := 4) rfl (Or.inl rfl) (Or.inr rfl)) (fun s1 H1 C1 l1 q1 => zts_nil) (fun s1 H1 C1 l1 q1 => (ze_name (i := 4) rfl (Or.inl rfl) nd_v nd_vc)) (fun s1 H1 C1 l1 q1 => ze_bl) (fun _ => rfl)) za_nil rfl) rfl rfl rfl rfl rfl) rfl)) (fun _ => rfl))
 (zs_one (zs_ret (ze_blt (call_srt rfl rfl (Cz.hu c)) oSorted_ok (by rfl) (fr_sorted h) bt_sorted (za_cons (ze_name (i := 2) rfl (Or.inl rfl) nd_found nd_foundc) za_nil rfl) (by decide) nd_sorted rfl rfl))))))
  exact G1
abbrev Δ_behind_all : MT := mt1 "History" 2 (F_History_behind_all)
theorem okm_behind_all (h : Hd K mg base) : MtZ (gm K) P w mg base (1 + 1) "behind_all" (Δ_behind_all) := by
  obtain ⟨fd, G, F⟩ := og_History_behind_all h
  exact mtz1 rfl (cl_History h) (me_History_behind_all h) G (F.bindsN (ps := ["self", "parents"]) fun _ _ _ _ _ _ us hl => match us, hl with | [_, _], _ => rfl)
def i_History_need_1 : FS := fIfS (fOrT (fNotT (fTr (fCall 1 F_is_number [] (fACons (fName 1) (fANil))))) (fNotT (fT (fChain oLe oLt (fC (.int 0)) (fName 1) (fCB oLen (fACons (fFld "h_versions" (fName 0)) (fANil)))))))
 (fBad)
 (fNext)
def S_History_need : FS := i_History_need_1
def F_History_need : FF := fBody 2 (S_History_need)
theorem sc_History_need : FnScope ["self", "v"] ["self", "v"] d_History_need.scope := ⟨rfl, rfl, rfl, by decide +kernel, rfl, by decide +kernel, by decide +kernel⟩
theorem og_History_need (h : Hd K mg base) : ∃ fd, FnG P w K mg base (3 + 1) (d_History_need.at_ K) fd ["self", "v"] (spZ (gm K) 2 (F_History_need)) ∧ FunD K d_History_need.name d_History_need.qual d_History_need.params d_History_need.body d_History_need.scope (d_History_need.dvs K) (d_History_need.kws K) (d_History_need.at_ K) fd := by
  obtain ⟨fd, F⟩ := h.cz.a.def_ 7 (d := d_History_need) rfl
  refine ⟨fd, ?_, F⟩
  have F2 : FunD (gm K).K d_History_need.name d_History_need.qual d_History_need.params d_History_need.body d_History_need.scope (d_History_need.dvs K) (d_History_need.kws K) (d_History_need.at_ K) fd := F
  have G0 := fn_ok (P := P) (w := w) (mg := mg) (base := base) (Γ := gm K) (k := 3) (s := S_History_need) F2 sc_History_need
  have G1 := G0 (fun W cdv A outer st H E c po => by
    unfold S_History_need i_History_need_1
    exact (zs_one (zs_if (PW.pt (zt_or (zt_not (zt_truth c (ze_call c ((ok_is_number h).up (by omega)) (by rfl) (gl_is_number h) (za_cons (ze_name (i := 1) rfl (Or.inl rfl) nd_v nd_vc) za_nil rfl) nd_is_number rfl rfl) (fun _ => rfl))) (pw_or1 (zt_not (zt_chain c rfl rfl ze_int (ze_name (i := 1) rfl (Or.inl rfl) nd_v nd_vc) (ze_blt call_lenA oLen_ok (by rfl) (fr_len h) bt_len (za_cons (ze_fld c (na_h_versions h) (ze_name (i := 0) rfl (Or.inl rfl) nd_self nd_selfc) rfl) za_nil rfl) (by decide) nd_len rfl rfl) rfl)))))
 (zs_one zs_bad)
 zs_nil)))
  exact G1
abbrev Δ_need : MT := mt1 "History" 2 (F_History_need)
theorem okm_need (h : Hd K mg base) : MtZ (gm K) P w mg base (3 + 1) "need" (Δ_need) := by
  obtain ⟨fd, G, F⟩ := og_History_need h
  exact mtz1 rfl (cl_History h) (me_History_need h) G (F.bindsN (ps := ["self", "v"]) fun _ _ _ _ _ _ us hl => match us, hl with | [_, _], _ => rfl)
def c_History_touches_1 : FE := fLc false (fiAny (fName 3)) (fgName 4) (fAndT (fT (fUn (oIsN true) (fBin oIx (fBin oIx (fFld "h_versions" (fName 0)) (fName 4)) (fC (.int 1))))) (fT (fBin (oEq false) (fBin oIx (fBin oIx (fBin oIx (fFld "h_versions" (fName 0)) (fName 4)) (fC (.int 1))) (fC (.int 1))) (fName 2)))) (fName 4) [4]
def S_History_touches : FS := fSeq (fSet 3 (fLst (fAStar (fBin oIx (fFld "h_behind" (fName 0)) (fName 1)) (fACons (fName 1) (fANil)))))
 (fRet (c_History_touches_1))
def F_History_touches : FF := fBody 5 (S_History_touches)
theorem sc_History_touches : FnScope ["self", "v", "change", "seen", "u"] ["self", "v", "change"] d_History_touches.scope := ⟨rfl, rfl, rfl, by decide +kernel, rfl, by decide +kernel, by decide +kernel⟩
theorem og_History_touches (h : Hd K mg base) : ∃ fd, FnG P w K mg base (1 + 1) (d_History_touches.at_ K) fd ["self", "v", "change"] (spZ (gm K) 3 (F_History_touches)) ∧ FunD K d_History_touches.name d_History_touches.qual d_History_touches.params d_History_touches.body d_History_touches.scope (d_History_touches.dvs K) (d_History_touches.kws K) (d_History_touches.at_ K) fd := by
  obtain ⟨fd, F⟩ := h.cz.a.def_ 8 (d := d_History_touches) rfl
  refine ⟨fd, ?_, F⟩
  have F2 : FunD (gm K).K d_History_touches.name d_History_touches.qual d_History_touches.params d_History_touches.body d_History_touches.scope (d_History_touches.dvs K) (d_History_touches.kws K) (d_History_touches.at_ K) fd := F
  have G0 := fn_ok (P := P) (w := w) (mg := mg) (base := base) (Γ := gm K) (k := 1) (s := S_History_touches) F2 sc_History_touches
  have G1 := G0 (fun W cdv A outer st H E c po => by
    unfold S_History_touches c_History_touches_1
    exact (zs_cons (zs_set c (i := 3) rfl (Or.inl rfl) (ze_lst (za_star c (ze_ix c (ze_fld c (na_h_behind h) (ze_name (i := 0) rfl (Or.inr (Or.inl rfl)) nd_self nd_selfc) rfl) (ze_name (i := 1) rfl (Or.inl rfl) nd_v nd_vc) (fun _ _ => rfl)) (za_cons (ze_name (i := 1) rfl (Or.inl rfl) nd_v nd_vc) za_nil rfl) rfl)) rfl (Or.inl rfl))
 (zs_one (zs_ret (ze_lc (live := false) c (zi_any c (ze_name (i := 3) rfl (Or.inl rfl) nd_seen nd_seenc)) (blkOk_by (own := [("u", 4)]) rfl) (tg_name (i := 4) (by simp)) (fun s1 H1 C1 l1 q1 => pg_name (Cz.nd (Cz.blk c s1 H1 _ _ q1)) (i := 4) rfl (Or.inl rfl) (Or.inr rfl)) (fun s1 H1 C1 l1 q1 => zts_one (PW.pt (zt_and (zt_notN (ze_ix (Cz.blk c s1 H1 _ _ q1) (ze_ix (Cz.blk c s1 H1 _ _ q1) (ze_fld (Cz.blk c s1 H1 _ _ q1) (na_h_versions h) (ze_name (i := 0) rfl (Or.inr (Or.inl rfl)) nd_self nd_selfc) rfl) (ze_name (i := 4) rfl (Or.inl rfl) nd_u nd_uc) (fun _ _ => rfl)) ze_int (fun _ _ => rfl))) (pw_and1 (zt_cmp (Cz.blk c s1 H1 _ _ q1) rfl (ze_ix (Cz.blk c s1 H1 _ _ q1) (ze_ix (Cz.blk c s1 H1 _ _ q1) (ze_ix (Cz.blk c s1 H1 _ _ q1) (ze_fld (Cz.blk c s1 H1 _ _ q1) (na_h_versions h) (ze_name (i := 0) rfl (Or.inr (Or.inl rfl)) nd_self nd_selfc) rfl) (ze_name (i := 4) rfl (Or.inl rfl) nd_u nd_uc) (fun _ _ => rfl)) ze_int (fun _ _ => rfl)) ze_int (fun _ _ => rfl)) (ze_name (i := 2) rfl (Or.inr (Or.inl rfl)) nd_change nd_changec) rfl))))) (fun s1 H1 C1 l1 q1 => (ze_name (i := 4) rfl (Or.inl rfl) nd_u nd_uc)) (fun _ => rfl))))))
  exact G1
abbrev Δ_touches : MT := mt1 "History" 3 (F_History_touches)
theorem okm_touches (h : Hd K mg base) : MtZ (gm K) P w mg base (1 + 1) "touches" (Δ_touches) := by
  obtain ⟨fd, G, F⟩ := og_History_touches h
  exact mtz1 rfl (cl_History h) (me_History_touches h) G (F.bindsN (ps := ["self", "v", "change"]) fun _ _ _ _ _ _ us hl => match us, hl with | [_, _, _], _ => rfl)
def c_History_last_of_1 : FE := fLc false (fiAny (fName 3)) (fgName 5) (fYes) (fBin (oIn false) (fName 4) (fBin oIx (fFld "h_behind" (fName 0)) (fName 5))) [5]
def c_History_last_of_2 : FE := fLc false (fiAny (fName 3)) (fgName 4) (fNotT (fTr (fCB oAny (fACons (c_History_last_of_1) (fANil))))) (fName 4) [4]
def S_History_last_of : FS := fSeq (fSet 3 (fMeth "touches" Δ_touches (fName 0) (fACons (fName 1) (fACons (fName 2) (fANil)))))
 (fRet (c_History_last_of_2))
def F_History_last_of : FF := fBody 6 (S_History_last_of)
theorem sc_History_last_of : FnScope ["self", "v", "change", "found", "u", "w"] ["self", "v", "change"] d_History_last_of.scope := ⟨rfl, rfl, rfl, by decide +kernel, rfl, by decide +kernel, by decide +kernel⟩
theorem og_History_last_of (h : Hd K mg base) : ∃ fd, FnG P w K mg base (3 + 1) (d_History_last_of.at_ K) fd ["self", "v", "change"] (spZ (gm K) 3 (F_History_last_of)) ∧ FunD K d_History_last_of.name d_History_last_of.qual d_History_last_of.params d_History_last_of.body d_History_last_of.scope (d_History_last_of.dvs K) (d_History_last_of.kws K) (d_History_last_of.at_ K) fd := by
  obtain ⟨fd, F⟩ := h.cz.a.def_ 9 (d := d_History_last_of) rfl
  refine ⟨fd, ?_, F⟩
  have F2 : FunD (gm K).K d_History_last_of.name d_History_last_of.qual d_History_last_of.params d_History_last_of.body d_History_last_of.scope (d_History_last_of.dvs K) (d_History_last_of.kws K) (d_History_last_of.at_ K) fd := F
  have G0 := fn_ok (P := P) (w := w) (mg := mg) (base := base) (Γ := gm K) (k := 3) (s := S_History_last_of) F2 sc_History_last_of
  have G1 := G0 (fun W cdv A outer st H E c po => by
    unfold S_History_last_of c_History_last_of_2 c_History_last_of_1
    exact (zs_cons (zs_set c (i := 3) rfl (Or.inr rfl) (ze_meth (pl := _) c ((okm_touches h).up (by omega)) (ze_name (i := 0) rfl (Or.inr (Or.inl rfl)) nd_self nd_selfc) (za_cons (ze_name (i := 1) rfl (Or.inl rfl) nd_v nd_vc) (za_cons (ze_name (i := 2) rfl (Or.inl rfl) nd_change nd_changec) za_nil rfl) rfl) rfl rfl rfl) rfl (Or.inl rfl))
 (zs_one (zs_ret (ze_lc (live := false) c (zi_any c (ze_name (i := 3) rfl (Or.inr (Or.inl rfl)) nd_found nd_foundc)) (blkOk_by (own := [("u", 4)]) rfl) (tg_name (i := 4) (by simp)) (fun s1 H1 C1 l1 q1 => pg_name (Cz.nd (Cz.blk c s1 H1 _ _ q1)) (i := 4) rfl (Or.inr rfl) (Or.inl rfl)) (fun s1 H1 C1 l1 q1 => zts_one (zt_not (zt_truth (Cz.blk c s1 H1 _ _ q1) (ze_blt (cr_any rfl) oAny_ok (by rfl) (fr_any h) bt_any (za_cons (ze_lc (live := false) (Cz.blk c s1 H1 _ _ q1) (zi_any (Cz.blk c s1 H1 _ _ q1) (ze_name (i := 3) rfl (Or.inr (Or.inl rfl)) nd_found nd_foundc)) (blkOk_by (own := [("w", 5)]) rfl) (tg_name (i := 5) (by simp)) (fun s2 H2 C2 l2 q2 => pg_name (Cz.nd (Cz.blk (Cz.blk c s1 H1 _ _ q1) s2 H2 _ _ q2)) (i := 5) rfl (Or.inl rfl) (Or.inr rfl)) (fun s2 H2 C2 l2 q2 => zts_nil) (fun s2 H2 C2 l2 q2 => (ze_cmp (Cz.blk (Cz.blk c s1 H1 _ _ q1) s2 H2 _ _ q2) rfl (ze_name (i := 4) rfl (Or.inr (Or.inl rfl)) nd_u nd_uc) (ze_ix (Cz.blk (Cz.blk c s1 H1 _ _ q1) s2 H2 _ _ q2) (ze_fld (Cz.blk (Cz.blk c s1 H1 _ _ q1) s2 H2 _ _ q2) (na_h_behind h) (ze_name (i := 0) rfl (Or.inr (Or.inl rfl)) nd_self nd_selfc) rfl) (ze_name (i := 5) rfl (Or.inl rfl) nd_w nd_wc) (fun _ _ => rfl)) rfl)) (fun _ => rfl)) za_nil rfl) (by decide) nd_any rfl rfl) (fun _ => rfl)))) (fun s1 H1 C1 l1 q1 => (ze_name (i := 4) rfl (Or.inr (Or.inl rfl)) nd_u nd_uc)) (fun _ => rfl))))))
  exact G1
abbrev Δ_last_of : MT := mt1 "History" 3 (F_History_last_of)
theorem okm_last_of (h : Hd K mg base) : MtZ (gm K) P w mg base (3 + 1) "last_of" (Δ_last_of) := by
  obtain ⟨fd, G, F⟩ := og_History_last_of h
  exact mtz1 rfl (cl_History h) (me_History_last_of h) G (F.bindsN (ps := ["self", "v", "change"]) fun _ _ _ _ _ _ us hl => match us, hl with | [_, _, _], _ => rfl)
def c_History_content_at_1 : FE := fLc false (fiAny (fMeth "last_of" Δ_last_of (fName 0) (fACons (fName 1) (fACons (fName 3) (fANil))))) (fgName 4) (fYes) (fBin (oEq false) (fBin oIx (fBin oIx (fBin oIx (fFld "h_versions" (fName 0)) (fName 4)) (fC (.int 1))) (fC (.int 0))) (fC (.str "apply"))) [4]
def i_History_content_at_2 : FS := fIfS (fTr (fCB oAny (fACons (c_History_content_at_1) (fANil))))
 (fDrop (fBM "list" oAppend (fName 2) (fACons (fName 3) (fANil))))
 (fNext)
def b_History_content_at_3 : FS := i_History_content_at_2
def S_History_content_at : FS := fSeq (fSet 2 (fLstL (fANil)))
 (fSeq (fForS (fiAny (fCB (oSorted false) (fACons (fFld "h_changes" (fName 0)) (fANil)))) (fgName 3)
 b_History_content_at_3)
 (fRet (fCB oTuple (fACons (fName 2) (fANil)))))
def F_History_content_at : FF := fBody 5 (S_History_content_at)
theorem sc_History_content_at : FnScope ["self", "v", "found", "change", "u"] ["self", "v"] d_History_content_at.scope := ⟨rfl, rfl, rfl, by decide +kernel, rfl, by decide +kernel, by decide +kernel⟩
theorem og_History_content_at (h : Hd K mg base) : ∃ fd, FnG P w K mg base (5 + 1) (d_History_content_at.at_ K) fd ["self", "v"] (spZ (gm K) 2 (F_History_content_at)) ∧ FunD K d_History_content_at.name d_History_content_at.qual d_History_content_at.params d_History_content_at.body d_History_content_at.scope (d_History_content_at.dvs K) (d_History_content_at.kws K) (d_History_content_at.at_ K) fd := by
  obtain ⟨fd, F⟩ := h.cz.a.def_ 10 (d := d_History_content_at) rfl
  refine ⟨fd, ?_, F⟩
  have F2 : FunD (gm K).K d_History_content_at.name d_History_content_at.qual d_History_content_at.params d_History_content_at.body d_History_content_at.scope (d_History_content_at.dvs K) (d_History_content_at.kws K) (d_History_content_at.at_ K) fd := F
  have G0 := fn_ok (P := P) (w := w) (mg := mg) (base := base) (Γ := gm K) (k := 5) (s := S_History_content_at) F2 sc_History_content_at
  have G1 := G0 (fun W cdv A outer st H E c po => by
    unfold S_History_content_at b_History_content_at_3 i_History_content_at_2 c_History_content_at_1
    exact (zs_cons (zs_set c (i := 2) rfl (Or.inl rfl) (ze_lstL za_nil) rfl (Or.inl rfl))
 (zs_cons (zs_for (fun _ _ _ _ _ _ z => by cases z) c po (zi_any c (ze_blt (call_srt rfl rfl (Cz.hu c)) oSorted_ok (by rfl) (fr_sorted h) bt_sorted (za_cons (ze_fld c (na_h_changes h) (ze_name (i := 0) rfl (Or.inr (Or.inl rfl)) nd_self nd_selfc) rfl) za_nil rfl) (by decide) nd_sorted rfl rfl)) (zg_name (Cz.nd c) (i := 3) rfl (Or.inl rfl) (Or.inl rfl))
 (zs_one (zs_if (zt_truth c (ze_blt (cr_any rfl) oAny_ok (by rfl) (fr_any h) bt_any (za_cons (ze_lc (live := false) c (zi_any c (ze_meth (pl := _) c ((okm_last_of h).up (by omega)) (ze_name (i := 0) rfl (Or.inr (Or.inl rfl)) nd_self nd_selfc) (za_cons (ze_name (i := 1) rfl (Or.inl rfl) nd_v nd_vc) (za_cons (ze_name (i := 3) rfl (Or.inl rfl) nd_change nd_changec) za_nil rfl) rfl) rfl rfl rfl)) (blkOk_by (own := [("u", 4)]) rfl) (tg_name (i := 4) (by simp)) (fun s1 H1 C1 l1 q1 => pg_name (Cz.nd (Cz.blk c s1 H1 _ _ q1)) (i := 4) rfl (Or.inl rfl) (Or.inr rfl)) (fun s1 H1 C1 l1 q1 => zts_nil) (fun s1 H1 C1 l1 q1 => (ze_cmp (Cz.blk c s1 H1 _ _ q1) rfl (ze_ix (Cz.blk c s1 H1 _ _ q1) (ze_ix (Cz.blk c s1 H1 _ _ q1) (ze_ix (Cz.blk c s1 H1 _ _ q1) (ze_fld (Cz.blk c s1 H1 _ _ q1) (na_h_versions h) (ze_name (i := 0) rfl (Or.inr (Or.inl rfl)) nd_self nd_selfc) rfl) (ze_name (i := 4) rfl (Or.inl rfl) nd_u nd_uc) (fun _ _ => rfl)) ze_int (fun _ _ => rfl)) ze_int (fun _ _ => rfl)) ze_str rfl)) (fun _ => rfl)) za_nil rfl) (by decide) nd_any rfl rfl) (fun _ => rfl))
 (zs_one (zs_expr (ze_bm PySem.F.plainAttrs_list PySem.F.slot_list_append PySem.F.type_list_append c mt_append oAppend_ok (ze_name (i := 2) rfl (Or.inl rfl) nd_found nd_foundc) (za_cons (ze_name (i := 3) rfl (Or.inl rfl) nd_change nd_changec) za_nil rfl) rfl rfl rfl rfl rfl) rfl))
 zs_nil)) (fun _ => rfl))
 (zs_one (zs_ret (ze_bty call_tuple_of oTuple_ok (by rfl) (fr_tuple h) bt_tuple (za_cons (ze_name (i := 2) rfl (Or.inl rfl) nd_found nd_foundc) za_nil rfl) (by decide) nd_tuple rfl rfl))))))
  exact G1
abbrev Δ_content_at : MT := mt1 "History" 2 (F_History_content_at)
theorem okm_content_at (h : Hd K mg base) : MtZ (gm K) P w mg base (5 + 1) "content_at" (Δ_content_at) := by
  obtain ⟨fd, G, F⟩ := og_History_content_at h
  exact mtz1 rfl (cl_History h) (me_History_content_at h) G (F.bindsN (ps := ["self", "v"]) fun _ _ _ _ _ _ us hl => match us, hl with | [_, _], _ => rfl)
def i_History_init_1 : FS := fIfS (fNotT (fTr (fIsi tbB [(.ty "list"), (.ty "tuple")] (fName 1))))
 (fBad)
 (fNext)
def i_History_init_2 : FS := fIfS (fOrT (fT (fBin (oEq false) (fName 2) (fC (.int 16)))) (fOrT (fNotT (fTr (fCall 2 F_is_version [] (fACons (fName 3) (fACons (fName 2) (fANil)))))) (fNotT (fTr (fMeth "takes" Δ_takes (fName 0) (fACons (fBin oIx (fName 3) (fC (.int 1))) (fANil)))))))
 (fBad)
 (fNext)
def b_History_init_3 : FS := fSeq (i_History_init_2)
 (fDrop (fBM "list" oAppend (fFld "h_behind" (fName 0)) (fACons (fMeth "behind_all" Δ_behind_all (fName 0) (fACons (fBin oIx (fName 3) (fC (.int 0))) (fANil))) (fANil))))
def c_History_init_4 : FE := fLc false (fiRng1 (fACons (fCB oLen (fACons (fFld "h_versions" (fName 0)) (fANil))) (fANil))) (fgName 4) (fYes) (fMeth "content_at" Δ_content_at (fName 0) (fACons (fName 4) (fANil))) [4]
def S_History_init : FS := fSeq (i_History_init_1)
 (fSeq (fSetF "h_changes" (fName 0) (fLstL (fANil)))
 (fSeq (fSetF "h_behind" (fName 0) (fLstL (fANil)))
 (fSeq (fForS (fiEnumA (fACons (fName 1) (fANil))) (fgTup [2, 3])
 b_History_init_3)
 (fSeq (fSetF "h_versions" (fName 0) (fCB oTuple (fACons (fName 1) (fANil))))
 (fSetF "h_contents" (fName 0) (c_History_init_4))))))
def F_History_init : FF := fBodyK 5 1 (S_History_init)
theorem sc_History_init : FnScope ["self", "versions", "at", "version", "v"] ["self", "versions"] d_History_init.scope := ⟨rfl, rfl, rfl, by decide +kernel, rfl, by decide +kernel, by decide +kernel⟩
theorem og_History_init (h : Hd K mg base) : ∃ fd, FnG P w K mg base (7 + 1) (d_History_init.at_ K) fd ["self", "versions"] (spI (gm K) 2 (F_History_init)) ∧ FunD K d_History_init.name d_History_init.qual d_History_init.params d_History_init.body d_History_init.scope (d_History_init.dvs K) (d_History_init.kws K) (d_History_init.at_ K) fd := by
  obtain ⟨fd, F⟩ := h.cz.a.def_ 11 (d := d_History_init) rfl
  refine ⟨fd, ?_, F⟩
  have F2 : FunD (gm K).K d_History_init.name d_History_init.qual d_History_init.params d_History_init.body d_History_init.scope (d_History_init.dvs K) (d_History_init.kws K) (d_History_init.at_ K) fd := F
  have G0 := fn_okI (P := P) (w := w) (mg := mg) (base := base) (Γ := gm K) (k := 7) (s := S_History_init) F2 sc_History_init
  have G1 := G0 (fun W cdv A outer st H E c po => by
    unfold S_History_init c_History_init_4 b_History_init_3 i_History_init_2 i_History_init_1
    exact (zs_cons (zs_if (zt_not (zt_truth c (ze_isiT c tbB_ok (by rfl) (fr_isinstance h) (ze_name (i := 1) rfl (Or.inl rfl) nd_versions nd_versionsc) (crefs_cons (cref_ty (by rfl) (fr_list h) bt_list (by decide) nd_list) (crefs_cons (cref_ty (by rfl) (fr_tuple h) bt_tuple (by decide) nd_tuple) crefs_nil rfl) rfl) (by simp) (by simp) rfl rfl rfl) (fun _ => rfl)))
 (zs_one zs_bad)
 zs_nil)
 (zs_cons (zs_setF c (na_h_changes h) (ze_name (i := 0) rfl (Or.inr (Or.inl rfl)) nd_self nd_selfc) (ze_lstL za_nil) rfl)
 (zs_cons (zs_setF c (na_h_behind h) (ze_name (i := 0) rfl (Or.inr (Or.inl rfl)) nd_self nd_selfc) (ze_lstL za_nil) rfl)
 (zs_cons (zs_for (fgTup_ne _) c po (zi_enumA c (by rfl) (fr_enumerate h) (za_cons (ze_name (i := 1) rfl (Or.inl rfl) nd_versions nd_versionsc) za_nil rfl) rfl) (zg_tup c (Nms.cons rfl (Or.inl rfl) (Or.inl rfl) (Nms.cons rfl (Or.inl rfl) (Or.inl rfl) Nms.nil)))
 (zs_cons (zs_if (PW.pt (zt_or (zt_cmp c rfl (ze_name (i := 2) rfl (Or.inl rfl) nd_at nd_atc) (ze_gint rfl (co_MOST_VERSIONS h) nd_MOST_VERSIONS) rfl) (zt_or (zt_not (zt_truth c (ze_call c ((ok_is_version h).up (by omega)) (by rfl) (gl_is_version h) (za_cons (ze_name (i := 3) rfl (Or.inl rfl) nd_version nd_versionc) (za_cons (ze_name (i := 2) rfl (Or.inl rfl) nd_at nd_atc) za_nil rfl) rfl) nd_is_version rfl rfl) (fun _ => rfl))) (pw_or1 (zt_not (zt_truth c (ze_meth (pl := _) c ((okm_takes h).up (by omega)) (ze_name (i := 0) rfl (Or.inr (Or.inl rfl)) nd_self nd_selfc) (za_cons (ze_ix c (ze_name (i := 3) rfl (Or.inl rfl) nd_version nd_versionc) ze_int (fun _ _ => rfl)) za_nil rfl) rfl rfl rfl) (fun _ => rfl)))))))
 (zs_one zs_bad)
 zs_nil)
 (zs_one (zs_expr (ze_bm PySem.F.plainAttrs_list PySem.F.slot_list_append PySem.F.type_list_append c mt_append oAppend_ok (ze_fld c (na_h_behind h) (ze_name (i := 0) rfl (Or.inr (Or.inl rfl)) nd_self nd_selfc) rfl) (za_cons (ze_meth (pl := _) c ((okm_behind_all h).up (by omega)) (ze_name (i := 0) rfl (Or.inr (Or.inl rfl)) nd_self nd_selfc) (za_cons (ze_ix c (ze_name (i := 3) rfl (Or.inl rfl) nd_version nd_versionc) ze_int (fun _ _ => rfl)) za_nil rfl) rfl rfl rfl) za_nil rfl) rfl rfl rfl rfl rfl) rfl))) (fun _ => rfl))
 (zs_cons (zs_setF c (na_h_versions h) (ze_name (i := 0) rfl (Or.inr (Or.inl rfl)) nd_self nd_selfc) (ze_bty call_tuple_of oTuple_ok (by rfl) (fr_tuple h) bt_tuple (za_cons (ze_name (i := 1) rfl (Or.inl rfl) nd_versions nd_versionsc) za_nil rfl) (by decide) nd_tuple rfl rfl) rfl)
 (zs_one (zs_setF c (na_h_contents h) (ze_name (i := 0) rfl (Or.inr (Or.inl rfl)) nd_self nd_selfc) (ze_lc (live := false) c (zi_rng1 (by rfl) (fr_range h) (za_cons (ze_blt call_lenA oLen_ok (by rfl) (fr_len h) bt_len (za_cons (ze_fld c (na_h_versions h) (ze_name (i := 0) rfl (Or.inr (Or.inl rfl)) nd_self nd_selfc) rfl) za_nil rfl) (by decide) nd_len rfl rfl) za_nil rfl) rfl) (blkOk_by (own := [("v", 4)]) rfl) (tg_name (i := 4) (by simp)) (fun s1 H1 C1 l1 q1 => pg_name (Cz.nd (Cz.blk c s1 H1 _ _ q1)) (i := 4) rfl (Or.inl rfl) (Or.inr rfl)) (fun s1 H1 C1 l1 q1 => zts_nil) (fun s1 H1 C1 l1 q1 => (ze_meth (pl := _) (Cz.blk c s1 H1 _ _ q1) ((okm_content_at h).up (by omega)) (ze_name (i := 0) rfl (Or.inr (Or.inl rfl)) nd_self nd_selfc) (za_cons (ze_name (i := 4) rfl (Or.inl rfl) nd_v nd_vc) za_nil rfl) rfl rfl rfl)) (fun _ => rfl)) rfl))))))))
  exact G1
theorem okc_History (h : Hd K mg base) : MkZ (gm K) P w mg base (7 + 1) "History" (He.ga K "History") 2 F_History_init [] := by
  obtain ⟨fd, G, F⟩ := og_History_init h
  obtain ⟨ds, hv, hb⟩ := FunD.binds1 (ps := ["self", "versions"]) F 2 1 (by intro z; cases z) rfl fun T kV doc pm an cdv ct us its l1 l2 => match us, its, l1, l2 with | [_, _], [_], _, _ => ⟨_, rfl, rfl⟩
  exact ⟨rfl, ⟨_, fd, ["self", "versions"], ds, [], mk_History h, G, hb, hv, fun _ => IsL.nil⟩⟩
def S_History_len : FS := fRet (fCB oLen (fACons (fFld "h_versions" (fName 0)) (fANil)))
def F_History_len : FF := fBody 1 (S_History_len)
theorem sc_History_len : FnScope ["self"] ["self"] d_History_len.scope := ⟨rfl, rfl, rfl, by decide +kernel, rfl, by decide +kernel, by decide +kernel⟩
theorem og_History_len (h : Hd K mg base) : ∃ fd, FnG P w K mg base (1 + 1) (d_History_len.at_ K) fd ["self"] (spZ (gm K) 1 (F_History_len)) ∧ FunD K d_History_len.name d_History_len.qual d_History_len.params d_History_len.body d_History_len.scope (d_History_len.dvs K) (d_History_len.kws K) (d_History_len.at_ K) fd := by
  obtain ⟨fd, F⟩ := h.cz.a.def_ 12 (d := d_History_len) rfl
  refine ⟨fd, ?_, F⟩
  have F2 : FunD (gm K).K d_History_len.name d_History_len.qual d_History_len.params d_History_len.body d_History_len.scope (d_History_len.dvs K) (d_History_len.kws K) (d_History_len.at_ K) fd := F
  have G0 := fn_ok (P := P) (w := w) (mg := mg) (base := base) (Γ := gm K) (k := 1) (s := S_History_len) F2 sc_History_len
  have G1 := G0 (fun W cdv A outer st H E c po => by
    unfold S_History_len
    exact (zs_one (zs_ret (ze_blt call_lenA oLen_ok (by rfl) (fr_len h) bt_len (za_cons (ze_fld c (na_h_versions h) (ze_name (i := 0) rfl (Or.inl rfl) nd_self nd_selfc) rfl) za_nil rfl) (by decide) nd_len rfl rfl))))
  exact G1
abbrev Δ___len__ : MT := mt1 "History" 1 (F_History_len)
theorem okm___len__ (h : Hd K mg base) : MtZ (gm K) P w mg base (1 + 1) "__len__" (Δ___len__) := by
  obtain ⟨fd, G, F⟩ := og_History_len h
  exact mtz1 rfl (cl_History h) (me_History_len h) G (F.bindsN (ps := ["self"]) fun _ _ _ _ _ _ us hl => match us, hl with | [_], _ => rfl)
def S_History_content : FS := fSeq (fDrop (fMeth "need" Δ_need (fName 0) (fACons (fName 1) (fANil))))
 (fRet (fBin oIx (fFld "h_contents" (fName 0)) (fName 1)))
def F_History_content : FF := fBody 2 (S_History_content)
theorem sc_History_content : FnScope ["self", "v"] ["self", "v"] d_History_content.scope := ⟨rfl, rfl, rfl, by decide +kernel, rfl, by decide +kernel, by decide +kernel⟩
theorem og_History_content (h : Hd K mg base) : ∃ fd, FnG P w K mg base (5 + 1) (d_History_content.at_ K) fd ["self", "v"] (spZ (gm K) 2 (F_History_content)) ∧ FunD K d_History_content.name d_History_content.qual d_History_content.params d_History_content.body d_History_content.scope (d_History_content.dvs K) (d_History_content.kws K) (d_History_content.at_ K) fd := by
  obtain ⟨fd, F⟩ := h.cz.a.def_ 13 (d := d_History_content) rfl
  refine ⟨fd, ?_, F⟩
  have F2 : FunD (gm K).K d_History_content.name d_History_content.qual d_History_content.params d_History_content.body d_History_content.scope (d_History_content.dvs K) (d_History_content.kws K) (d_History_content.at_ K) fd := F
  have G0 := fn_ok (P := P) (w := w) (mg := mg) (base := base) (Γ := gm K) (k := 5) (s := S_History_content) F2 sc_History_content
  have G1 := G0 (fun W cdv A outer st H E c po => by
    unfold S_History_content
    exact (zs_cons (zs_expr (ze_meth (pl := _) c ((okm_need h).up (by omega)) (ze_name (i := 0) rfl (Or.inl rfl) nd_self nd_selfc) (za_cons (ze_name (i := 1) rfl (Or.inl rfl) nd_v nd_vc) za_nil rfl) rfl rfl rfl) rfl)
 (zs_one (zs_ret (ze_ix c (ze_fld c (na_h_contents h) (ze_name (i := 0) rfl (Or.inl rfl) nd_self nd_selfc) rfl) (ze_name (i := 1) rfl (Or.inl rfl) nd_v nd_vc) (fun _ _ => rfl))))))
  exact G1
abbrev Δ_content : MT := mt1 "History" 2 (F_History_content)
theorem okm_content (h : Hd K mg base) : MtZ (gm K) P w mg base (5 + 1) "content" (Δ_content) := by
  obtain ⟨fd, G, F⟩ := og_History_content h
  exact mtz1 rfl (cl_History h) (me_History_content h) G (F.bindsN (ps := ["self", "v"]) fun _ _ _ _ _ _ us hl => match us, hl with | [_, _], _ => rfl)
def S_History_contents : FS := fRet (fCB oList (fACons (fFld "h_contents" (fName 0)) (fANil)))
def F_History_contents : FF := fBody 1 (S_History_contents)
theorem sc_History_contents : FnScope ["self"] ["self"] d_History_contents.scope := ⟨rfl, rfl, rfl, by decide +kernel, rfl, by decide +kernel, by decide +kernel⟩
theorem og_History_contents (h : Hd K mg base) : ∃ fd, FnG P w K mg base (1 + 1) (d_History_contents.at_ K) fd ["self"] (spZ (gm K) 1 (F_History_contents)) ∧ FunD K d_History_contents.name d_History_contents.qual d_History_contents.params d_History_contents.body d_History_contents.scope (d_History_contents.dvs K) (d_History_contents.kws K) (d_History_contents.at_ K) fd := by
  obtain ⟨fd, F⟩ := h.cz.a.def_ 14 (d := d_History_contents) rfl
  refine ⟨fd, ?_, F⟩
  have F2 : FunD (gm K).K d_History_contents.name d_History_contents.qual d_History_contents.params d_History_contents.body d_History_contents.scope (d_History_contents.dvs K) (d_History_contents.kws K) (d_History_contents.at_ K) fd := F
  have G0 := fn_ok (P := P) (w := w) (mg := mg) (base := base) (Γ := gm K) (k := 1) (s := S_History_contents) F2 sc_History_contents
  have G1 := G0 (fun W cdv A outer st H E c po => by
    unfold S_History_contents
    exact (zs_one (zs_ret (ze_bty (call_listA rfl) oList_ok (by rfl) (fr_list h) bt_list (za_cons (ze_fld c (na_h_contents h) (ze_name (i := 0) rfl (Or.inl rfl) nd_self nd_selfc) rfl) za_nil rfl) (by decide) nd_list rfl rfl))))
  exact G1
abbrev Δ_contents : MT := mt1 "History" 1 (F_History_contents)
theorem okm_contents (h : Hd K mg base) : MtZ (gm K) P w mg base (1 + 1) "contents" (Δ_contents) := by
  obtain ⟨fd, G, F⟩ := og_History_contents h
  exact mtz1 rfl (cl_History h) (me_History_contents h) G (F.bindsN (ps := ["self"]) fun _ _ _ _ _ _ us hl => match us, hl with | [_], _ => rfl)
def c_are_suspects_1 : FE := fLc false (fiAny (fName 1)) (fgName 5) (fYes) (fCall 1 F_is_change [] (fACons (fName 5) (fANil))) [5]
def i_are_suspects_2 : FS := fIfS (fOrT (fNotT (fTr (fIsi tbB [(.ty "list"), (.ty "tuple")] (fName 1)))) (fOrT (fT (fBin (oEq false) (fCB oLen (fACons (fName 1) (fANil))) (fC (.int 0)))) (fNotT (fTr (fCB oAll (fACons (c_are_suspects_1) (fANil)))))))
 (fRet (fC (.bl false)))
 (fNext)
def c_are_suspects_3 : FE := fLc false (fiEnumA (fACons (fName 1) (fANil))) (fgTup [2, 3]) (fYes) (fBin (oIn false) (fName 3) (fSl (fName 1) none (some (fName 2)))) [2, 3]
def i_are_suspects_4 : FS := fIfS (fTr (fCB oAny (fACons (c_are_suspects_3) (fANil))))
 (fRet (fC (.bl false)))
 (fNext)
def c_are_suspects_5 : FE := fLc false (fiAny (fName 1)) (fgName 3) (fYes) (fBin (oIn false) (fName 3) (fName 4)) [3]
def c_are_suspects_6 : FE := fLc false (fiAny (fMeth "contents" Δ_contents (fName 0) fANil)) (fgName 4) (fYes) (fCB oAll (fACons (c_are_suspects_5) (fANil))) [4]
def S_are_suspects : FS := fSeq (i_are_suspects_2)
 (fSeq (i_are_suspects_4)
 (fRet (fCB oAny (fACons (c_are_suspects_6) (fANil)))))
def F_are_suspects : FF := fBody 6 (S_are_suspects)
theorem sc_are_suspects : FnScope ["history", "thing", "at", "change", "content", "one"] ["history", "thing"] d_are_suspects.scope := ⟨rfl, rfl, rfl, by decide +kernel, rfl, by decide +kernel, by decide +kernel⟩
theorem og_are_suspects (h : Hd K mg base) : ∃ fd, FnG P w K mg base (3 + 1) (d_are_suspects.at_ K) fd ["history", "thing"] (spZ (gm K) 2 (F_are_suspects)) ∧ FunD K d_are_suspects.name d_are_suspects.qual d_are_suspects.params d_are_suspects.body d_are_suspects.scope (d_are_suspects.dvs K) (d_are_suspects.kws K) (d_are_suspects.at_ K) fd := by
  obtain ⟨fd, F⟩ := h.cz.a.def_ 15 (d := d_are_suspects) rfl
  refine ⟨fd, ?_, F⟩
  have F2 : FunD (gm K).K d_are_suspects.name d_are_suspects.qual d_are_suspects.params d_are_suspects.body d_are_suspects.scope (d_are_suspects.dvs K) (d_are_suspects.kws K) (d_are_suspects.at_ K) fd := F
  have G0 := fn_ok (P := P) (w := w) (mg := mg) (base := base) (Γ := gm K) (k := 3) (s := S_are_suspects) F2 sc_are_suspects
  have G1 := G0 (fun W cdv A outer st H E c po => by
    unfold S_are_suspects c_are_suspects_6 c_are_suspects_5 i_are_suspects_4 c_are_suspects_3 i_are_suspects_2 c_are_suspects_1
    exact (zs_cons (zs_if (PW.pt (zt_or (zt_not (zt_truth c (ze_isiT c tbB_ok (by rfl) (fr_isinstance h) (ze_name (i := 1) rfl (Or.inr (Or.inl rfl)) nd_thing nd_thingc) (crefs_cons (cref_ty (by rfl) (fr_list h) bt_list (by decide) nd_list) (crefs_cons (cref_ty (by rfl) (fr_tuple h) bt_tuple (by decide) nd_tuple) crefs_nil rfl) rfl) (by simp) (by simp) rfl rfl rfl) (fun _ => rfl))) (zt_or (zt_cmp c rfl (ze_blt call_lenA oLen_ok (by rfl) (fr_len h) bt_len (za_cons (ze_name (i := 1) rfl (Or.inr (Or.inl rfl)) nd_thing nd_thingc) za_nil rfl) (by decide) nd_len rfl rfl) ze_int rfl) (pw_or1 (zt_not (zt_truth c (ze_blt (cr_all rfl) oAll_ok (by rfl) (fr_all h) bt_all (za_cons (ze_lc (live := false) c (zi_any c (ze_name (i := 1) rfl (Or.inr (Or.inl rfl)) nd_thing nd_thingc)) (blkOk_by (own := [("one", 5)]) rfl) (tg_name (i := 5) (by simp)) (fun s1 H1 C1 l1 q1 => pg_name (Cz.nd (Cz.blk c s1 H1 _ _ q1)) (i := 5) rfl (Or.inl rfl) (Or.inr rfl)) (fun s1 H1 C1 l1 q1 => zts_nil) (fun s1 H1 C1 l1 q1 => (ze_call (Cz.blk c s1 H1 _ _ q1) ((ok_is_change h).up (by omega)) (by rfl) (gl_is_change h) (za_cons (ze_name (i := 5) rfl (Or.inl rfl) nd_one nd_onec) za_nil rfl) nd_is_change rfl rfl)) (fun _ => rfl)) za_nil rfl) (by decide) nd_all rfl rfl) (fun _ => rfl)))))))
 (zs_one (zs_ret ze_bl))
 zs_nil)
 (zs_cons (zs_if (zt_truth c (ze_blt (cr_any rfl) oAny_ok (by rfl) (fr_any h) bt_any (za_cons (ze_lc (live := false) c (zi_enumA c (by rfl) (fr_enumerate h) (za_cons (ze_name (i := 1) rfl (Or.inr (Or.inl rfl)) nd_thing nd_thingc) za_nil rfl) rfl) (blkOk_by (own := [("at", 2), ("change", 3)]) rfl) (tg_tup (is := [2, 3]) (by simp)) (fun s1 H1 C1 l1 q1 => pg_tupN (Cz.blk c s1 H1 _ _ q1) (Nms.cons rfl (Or.inl rfl) (Or.inr rfl) (Nms.cons rfl (Or.inl rfl) (Or.inr rfl) Nms.nil))) (fun s1 H1 C1 l1 q1 => zts_nil) (fun s1 H1 C1 l1 q1 => (ze_cmp (Cz.blk c s1 H1 _ _ q1) rfl (ze_name (i := 3) rfl (Or.inl rfl) nd_change nd_changec) (ze_sl (Cz.blk c s1 H1 _ _ q1) (ze_name (i := 1) rfl (Or.inr (Or.inl rfl)) nd_thing nd_thingc) zo_none (zo_some (ze_name (i := 2) rfl (Or.inl rfl) nd_at nd_atc))) rfl)) (fun _ => rfl)) za_nil rfl) (by decide) nd_any rfl rfl) (fun _ => rfl))
 (zs_one (zs_ret ze_bl))
 zs_nil)
 (zs_one (zs_ret (ze_blt (cr_any rfl) oAny_ok (by rfl) (fr_any h) bt_any (za_cons (ze_lc (live := false) c (zi_any c (ze_meth0 (pl := _) c ((okm_contents h).up (by omega)) (ze_name (i := 0) rfl (Or.inl rfl) nd_history nd_historyc) rfl)) (blkOk_by (own := [("content", 4)]) rfl) (tg_name (i := 4) (by simp)) (fun s1 H1 C1 l1 q1 => pg_name (Cz.nd (Cz.blk c s1 H1 _ _ q1)) (i := 4) rfl (Or.inr rfl) (Or.inl rfl)) (fun s1 H1 C1 l1 q1 => zts_nil) (fun s1 H1 C1 l1 q1 => (ze_blt (cr_all rfl) oAll_ok (by rfl) (fr_all h) bt_all (za_cons (ze_lc (live := false) (Cz.blk c s1 H1 _ _ q1) (zi_any (Cz.blk c s1 H1 _ _ q1) (ze_name (i := 1) rfl (Or.inr (Or.inl rfl)) nd_thing nd_thingc)) (blkOk_by (own := [("change", 3)]) rfl) (tg_name (i := 3) (by simp)) (fun s2 H2 C2 l2 q2 => pg_name (Cz.nd (Cz.blk (Cz.blk c s1 H1 _ _ q1) s2 H2 _ _ q2)) (i := 3) rfl (Or.inl rfl) (Or.inr rfl)) (fun s2 H2 C2 l2 q2 => zts_nil) (fun s2 H2 C2 l2 q2 => (ze_cmp (Cz.blk (Cz.blk c s1 H1 _ _ q1) s2 H2 _ _ q2) rfl (ze_name (i := 3) rfl (Or.inl rfl) nd_change nd_changec) (ze_name (i := 4) rfl (Or.inr (Or.inl rfl)) nd_content nd_contentc) rfl)) (fun _ => rfl)) za_nil rfl) (by decide) nd_all rfl rfl)) (fun _ => rfl)) za_nil rfl) (by decide) nd_any rfl rfl))))))
  exact G1
theorem ok_are_suspects (h : Hd K mg base) : FnZ (gm K) P w mg base (3 + 1) (d_are_suspects.at_ K) 2 F_are_suspects [] := by
  obtain ⟨fd, G, F⟩ := og_are_suspects h
  exact ⟨⟨fd, ["history", "thing"], [], [], G, F.bindsN (ps := ["history", "thing"]) fun _ _ _ _ _ _ us hl => match us, hl with | [_, _], _ => rfl, .nil, fun _ => IsL.nil⟩, F.kp⟩
def i_needed_1 : FS := fIfS (fNotT (fTr (fCall 2 F_are_suspects [] (fACons (fName 0) (fACons (fName 1) (fANil))))))
 (fBad)
 (fNext)
def S_needed : FS := fSeq (i_needed_1)
 (fRet (fCB oTuple (fACons (fCB (oSorted false) (fACons (fName 1) (fANil))) (fANil))))
def F_needed : FF := fBody 2 (S_needed)
theorem sc_needed : FnScope ["history", "some"] ["history", "some"] d_needed.scope := ⟨rfl, rfl, rfl, by decide +kernel, rfl, by decide +kernel, by decide +kernel⟩
theorem og_needed (h : Hd K mg base) : ∃ fd, FnG P w K mg base (5 + 1) (d_needed.at_ K) fd ["history", "some"] (spZ (gm K) 2 (F_needed)) ∧ FunD K d_needed.name d_needed.qual d_needed.params d_needed.body d_needed.scope (d_needed.dvs K) (d_needed.kws K) (d_needed.at_ K) fd := by
  obtain ⟨fd, F⟩ := h.cz.a.def_ 16 (d := d_needed) rfl
  refine ⟨fd, ?_, F⟩
  have F2 : FunD (gm K).K d_needed.name d_needed.qual d_needed.params d_needed.body d_needed.scope (d_needed.dvs K) (d_needed.kws K) (d_needed.at_ K) fd := F
  have G0 := fn_ok (P := P) (w := w) (mg := mg) (base := base) (Γ := gm K) (k := 5) (s := S_needed) F2 sc_needed
  have G1 := G0 (fun W cdv A outer st H E c po => by
    unfold S_needed i_needed_1
    exact (zs_cons (zs_if (zt_not (zt_truth c (ze_call c ((ok_are_suspects h).up (by omega)) (by rfl) (gl_are_suspects h) (za_cons (ze_name (i := 0) rfl (Or.inl rfl) nd_history nd_historyc) (za_cons (ze_name (i := 1) rfl (Or.inl rfl) nd_some nd_somec) za_nil rfl) rfl) nd_are_suspects rfl rfl) (fun _ => rfl)))
 (zs_one zs_bad)
 zs_nil)
 (zs_one (zs_ret (ze_bty call_tuple_of oTuple_ok (by rfl) (fr_tuple h) bt_tuple (za_cons (ze_blt (call_srt rfl rfl (Cz.hu c)) oSorted_ok (by rfl) (fr_sorted h) bt_sorted (za_cons (ze_name (i := 1) rfl (Or.inl rfl) nd_some nd_somec) za_nil rfl) (by decide) nd_sorted rfl rfl) za_nil rfl) (by decide) nd_tuple rfl rfl)))))
  exact G1
theorem ok_needed (h : Hd K mg base) : FnZ (gm K) P w mg base (5 + 1) (d_needed.at_ K) 2 F_needed [] := by
  obtain ⟨fd, G, F⟩ := og_needed h
  exact ⟨⟨fd, ["history", "some"], [], [], G, F.bindsN (ps := ["history", "some"]) fun _ _ _ _ _ _ us hl => match us, hl with | [_, _], _ => rfl, .nil, fun _ => IsL.nil⟩, F.kp⟩
def c_parted_1 : FE := fLc false (fiAny (fName 1)) (fgName 5) (fT (fBin (oIn false) (fName 5) (fName 3))) (fName 5) [5]
def c_parted_2 : FE := fLc false (fiAny (fName 1)) (fgName 5) (fT (fBin (oIn true) (fName 5) (fName 3))) (fName 5) [5]
def S_parted : FS := fSeq (fSet 3 (fMeth "content" Δ_content (fName 0) (fACons (fName 2) (fANil))))
 (fSeq (fSet 4 (fCB oTuple (fACons (c_parted_1) (fANil))))
 (fRet (fTup (fACons (fName 4) (fACons (fCB oTuple (fACons (c_parted_2) (fANil))) (fANil))))))
def F_parted : FF := fBody 6 (S_parted)
theorem sc_parted : FnScope ["history", "some", "version", "content", "inside", "change"] ["history", "some", "version"] d_parted.scope := ⟨rfl, rfl, rfl, by decide +kernel, rfl, by decide +kernel, by decide +kernel⟩
theorem og_parted (h : Hd K mg base) : ∃ fd, FnG P w K mg base (7 + 1) (d_parted.at_ K) fd ["history", "some", "version"] (spZ (gm K) 3 (F_parted)) ∧ FunD K d_parted.name d_parted.qual d_parted.params d_parted.body d_parted.scope (d_parted.dvs K) (d_parted.kws K) (d_parted.at_ K) fd := by
  obtain ⟨fd, F⟩ := h.cz.a.def_ 17 (d := d_parted) rfl
  refine ⟨fd, ?_, F⟩
  have F2 : FunD (gm K).K d_parted.name d_parted.qual d_parted.params d_parted.body d_parted.scope (d_parted.dvs K) (d_parted.kws K) (d_parted.at_ K) fd := F
  have G0 := fn_ok (P := P) (w := w) (mg := mg) (base := base) (Γ := gm K) (k := 7) (s := S_parted) F2 sc_parted
  have G1 := G0 (fun W cdv A outer st H E c po => by
    unfold S_parted c_parted_2 c_parted_1
    exact (zs_cons (zs_set c (i := 3) rfl (Or.inr rfl) (ze_meth (pl := _) c ((okm_content h).up (by omega)) (ze_name (i := 0) rfl (Or.inl rfl) nd_history nd_historyc) (za_cons (ze_name (i := 2) rfl (Or.inl rfl) nd_version nd_versionc) za_nil rfl) rfl rfl rfl) rfl (Or.inl rfl))
 (zs_cons (zs_set c (i := 4) rfl (Or.inl rfl) (ze_bty call_tuple_of oTuple_ok (by rfl) (fr_tuple h) bt_tuple (za_cons (ze_lc (live := false) c (zi_any c (ze_name (i := 1) rfl (Or.inl rfl) nd_some nd_somec)) (blkOk_by (own := [("change", 5)]) rfl) (tg_name (i := 5) (by simp)) (fun s1 H1 C1 l1 q1 => pg_name (Cz.nd (Cz.blk c s1 H1 _ _ q1)) (i := 5) rfl (Or.inl rfl) (Or.inr rfl)) (fun s1 H1 C1 l1 q1 => zts_one (zt_cmp (Cz.blk c s1 H1 _ _ q1) rfl (ze_name (i := 5) rfl (Or.inl rfl) nd_change nd_changec) (ze_name (i := 3) rfl (Or.inr (Or.inl rfl)) nd_content nd_contentc) rfl)) (fun s1 H1 C1 l1 q1 => (ze_name (i := 5) rfl (Or.inl rfl) nd_change nd_changec)) (fun _ => rfl)) za_nil rfl) (by decide) nd_tuple rfl rfl) rfl (Or.inl rfl))
 (zs_one (zs_ret (ze_tup (za_cons (ze_name (i := 4) rfl (Or.inl rfl) nd_inside nd_insidec) (za_cons (ze_bty call_tuple_of oTuple_ok (by rfl) (fr_tuple h) bt_tuple (za_cons (ze_lc (live := false) c (zi_any c (ze_name (i := 1) rfl (Or.inl rfl) nd_some nd_somec)) (blkOk_by (own := [("change", 5)]) rfl) (tg_name (i := 5) (by simp)) (fun s1 H1 C1 l1 q1 => pg_name (Cz.nd (Cz.blk c s1 H1 _ _ q1)) (i := 5) rfl (Or.inl rfl) (Or.inr rfl)) (fun s1 H1 C1 l1 q1 => zts_one (zt_cmp (Cz.blk c s1 H1 _ _ q1) rfl (ze_name (i := 5) rfl (Or.inl rfl) nd_change nd_changec) (ze_name (i := 3) rfl (Or.inr (Or.inl rfl)) nd_content nd_contentc) rfl)) (fun s1 H1 C1 l1 q1 => (ze_name (i := 5) rfl (Or.inl rfl) nd_change nd_changec)) (fun _ => rfl)) za_nil rfl) (by decide) nd_tuple rfl rfl) za_nil rfl) rfl)))))))
  exact G1
theorem ok_parted (h : Hd K mg base) : FnZ (gm K) P w mg base (7 + 1) (d_parted.at_ K) 3 F_parted [] := by
  obtain ⟨fd, G, F⟩ := og_parted h
  exact ⟨⟨fd, ["history", "some", "version"], [], [], G, F.bindsN (ps := ["history", "some", "version"]) fun _ _ _ _ _ _ us hl => match us, hl with | [_, _, _], _ => rfl, .nil, fun _ => IsL.nil⟩, F.kp⟩
def c_greater_part_1 : FE := fLc false (fiAny (fCall 3 F_parted [] (fACons (fName 0) (fACons (fName 1) (fACons (fName 2) (fANil)))))) (fgName 3) (fYes) (fCB oLen (fACons (fName 3) (fANil))) [3]
def S_greater_part : FS := fRet (fCB oMax (fACons (c_greater_part_1) (fANil)))
def F_greater_part : FF := fBody 4 (S_greater_part)
theorem sc_greater_part : FnScope ["history", "some", "version", "part"] ["history", "some", "version"] d_greater_part.scope := ⟨rfl, rfl, rfl, by decide +kernel, rfl, by decide +kernel, by decide +kernel⟩
theorem og_greater_part (h : Hd K mg base) : ∃ fd, FnG P w K mg base (9 + 1) (d_greater_part.at_ K) fd ["history", "some", "version"] (spZ (gm K) 3 (F_greater_part)) ∧ FunD K d_greater_part.name d_greater_part.qual d_greater_part.params d_greater_part.body d_greater_part.scope (d_greater_part.dvs K) (d_greater_part.kws K) (d_greater_part.at_ K) fd := by
  obtain ⟨fd, F⟩ := h.cz.a.def_ 18 (d := d_greater_part) rfl
  refine ⟨fd, ?_, F⟩
  have F2 : FunD (gm K).K d_greater_part.name d_greater_part.qual d_greater_part.params d_greater_part.body d_greater_part.scope (d_greater_part.dvs K) (d_greater_part.kws K) (d_greater_part.at_ K) fd := F
  have G0 := fn_ok (P := P) (w := w) (mg := mg) (base := base) (Γ := gm K) (k := 9) (s := S_greater_part) F2 sc_greater_part
  have G1 := G0 (fun W cdv A outer st H E c po => by
    unfold S_greater_part c_greater_part_1
    exact (zs_one (zs_ret (ze_blt (CallR.or (call_max2 rfl) (cr_max rfl)) oMax_ok (by rfl) (fr_max h) bt_max (za_cons (ze_lc (live := false) c (zi_any c (ze_call c ((ok_parted h).up (by omega)) (by rfl) (gl_parted h) (za_cons (ze_name (i := 0) rfl (Or.inl rfl) nd_history nd_historyc) (za_cons (ze_name (i := 1) rfl (Or.inl rfl) nd_some nd_somec) (za_cons (ze_name (i := 2) rfl (Or.inl rfl) nd_version nd_versionc) za_nil rfl) rfl) rfl) nd_parted rfl rfl)) (blkOk_by (own := [("part", 3)]) rfl) (tg_name (i := 3) (by simp)) (fun s1 H1 C1 l1 q1 => pg_name (Cz.nd (Cz.blk c s1 H1 _ _ q1)) (i := 3) rfl (Or.inl rfl) (Or.inr rfl)) (fun s1 H1 C1 l1 q1 => zts_nil) (fun s1 H1 C1 l1 q1 => (ze_blt call_lenA oLen_ok (by rfl) (fr_len h) bt_len (za_cons (ze_name (i := 3) rfl (Or.inl rfl) nd_part nd_partc) za_nil rfl) (by decide) nd_len rfl rfl)) (fun _ => rfl)) za_nil rfl) (by decide) nd_max rfl rfl))))
  exact G1
theorem ok_greater_part (h : Hd K mg base) : FnZ (gm K) P w mg base (9 + 1) (d_greater_part.at_ K) 3 F_greater_part [] := by
  obtain ⟨fd, G, F⟩ := og_greater_part h
  exact ⟨⟨fd, ["history", "some", "version"], [], [], G, F.bindsN (ps := ["history", "some", "version"]) fun _ _ _ _ _ _ us hl => match us, hl with | [_, _, _], _ => rfl, .nil, fun _ => IsL.nil⟩, F.kp⟩
def l_halving_at_1 : FE := fTup (fACons (fCall 3 F_greater_part [] (fACons (fName 1) (fACons (fName 2) (fACons (fName 0) (fANil))))) (fACons (fName 0) (fANil)))
def S_halving_at : FS := fRet (fMinK (fiRng1 (fACons (fCB (oLenO Δ___len__) (fACons (fName 0) (fANil))) (fANil))) l_halving_at_1 3 [0, 1])
def F_halving_at : FF := fBody 2 (S_halving_at)
theorem sc_halving_at : FnScope ["history", "some"] ["history", "some"] d_halving_at.scope := ⟨rfl, rfl, rfl, by decide +kernel, rfl, by decide +kernel, by decide +kernel⟩
theorem og_halving_at (h : Hd K mg base) : ∃ fd, FnG P w K mg base (13 + 1) (d_halving_at.at_ K) fd ["history", "some"] (spZ (gm K) 2 (F_halving_at)) ∧ FunD K d_halving_at.name d_halving_at.qual d_halving_at.params d_halving_at.body d_halving_at.scope (d_halving_at.dvs K) (d_halving_at.kws K) (d_halving_at.at_ K) fd := by
  obtain ⟨fd, F⟩ := h.cz.a.def_ 19 (d := d_halving_at) rfl
  refine ⟨fd, ?_, F⟩
  have F2 : FunD (gm K).K d_halving_at.name d_halving_at.qual d_halving_at.params d_halving_at.body d_halving_at.scope (d_halving_at.dvs K) (d_halving_at.kws K) (d_halving_at.at_ K) fd := F
  have G0 := fn_okT (P := P) (w := w) (mg := mg) (base := base) (Γ := gm K) (k := 13) (s := S_halving_at) F2 sc_halving_at
  have G1 := G0 (fun W cdv hcv A outer st H E c po => by
    unfold S_halving_at l_halving_at_1
    exact (zs_one (zs_ret (ze_minR (k := 10) c (by omega) (by rfl) (fr_min h) (by rfl) (fr_range h) (za_cons (ze_blt (call_lenOA c) (oLenO_ok ((okm___len__ h).up (by omega))) (by rfl) (fr_len h) bt_len (za_cons (ze_name (i := 0) rfl (Or.inr (Or.inl rfl)) nd_history nd_historyc) za_nil rfl) (by decide) nd_len rfl rfl) za_nil rfl) rfl (tabAt_of h.tb 0 rfl (hcv _ rfl) rfl rfl rfl rfl) (lamN_by (N := ["v", "history", "some"]) (y := "v") (fr := ["history", "some"]) (js := [0, 1]) (by decide +kernel) (by rfl) rfl rfl (fun _ _ _ _ _ _ _ => rfl)) (fun clc fl cc A2 outer2 st2 H2 E2 cl => (ze_tup (za_cons (ze_call cl ((ok_greater_part h).up (by omega)) (by rfl) (gl_greater_part h) (za_cons (ze_name (i := 1) rfl (Or.inr (Or.inr (by rfl))) nd_history nd_historyc) (za_cons (ze_name (i := 2) rfl (Or.inr (Or.inr (by rfl))) nd_some nd_somec) (za_cons (ze_name (i := 0) rfl (Or.inl rfl) nd_v nd_vc) za_nil rfl) rfl) rfl) nd_greater_part rfl rfl) (za_cons (ze_name (i := 0) rfl (Or.inl rfl) nd_v nd_vc) za_nil rfl) rfl))) (fun _ z => by cases z; rfl) (fun _ z => by cases z; rfl)))))
  exact G1
theorem ok_halving_at (h : Hd K mg base) : FnZ (gm K) P w mg base (13 + 1) (d_halving_at.at_ K) 2 F_halving_at [] := by
  obtain ⟨fd, G, F⟩ := og_halving_at h
  exact ⟨⟨fd, ["history", "some"], [], [], G, F.bindsN (ps := ["history", "some"]) fun _ _ _ _ _ _ us hl => match us, hl with | [_, _], _ => rfl, .nil, fun _ => IsL.nil⟩, F.kp⟩
def S_halving_test : FS := fSeq (fSet 1 (fCall 2 F_needed [] (fACons (fName 0) (fACons (fName 1) (fANil)))))
 (fRet (fIf (fT (fBin (oEq false) (fCB oLen (fACons (fName 1) (fANil))) (fC (.int 1)))) (fC .non) (fCall 2 F_halving_at [] (fACons (fName 0) (fACons (fName 1) (fANil))))))
def F_halving_test : FF := fBody 2 (S_halving_test)
theorem sc_halving_test : FnScope ["history", "some"] ["history", "some"] d_halving_test.scope := ⟨rfl, rfl, rfl, by decide +kernel, rfl, by decide +kernel, by decide +kernel⟩
theorem og_halving_test (h : Hd K mg base) : ∃ fd, FnG P w K mg base (15 + 1) (d_halving_test.at_ K) fd ["history", "some"] (spZ (gm K) 2 (F_halving_test)) ∧ FunD K d_halving_test.name d_halving_test.qual d_halving_test.params d_halving_test.body d_halving_test.scope (d_halving_test.dvs K) (d_halving_test.kws K) (d_halving_test.at_ K) fd := by
  obtain ⟨fd, F⟩ := h.cz.a.def_ 20 (d := d_halving_test) rfl
  refine ⟨fd, ?_, F⟩
  have F2 : FunD (gm K).K d_halving_test.name d_halving_test.qual d_halving_test.params d_halving_test.body d_halving_test.scope (d_halving_test.dvs K) (d_halving_test.kws K) (d_halving_test.at_ K) fd := F
  have G0 := fn_ok (P := P) (w := w) (mg := mg) (base := base) (Γ := gm K) (k := 15) (s := S_halving_test) F2 sc_halving_test
  have G1 := G0 (fun W cdv A outer st H E c po => by
    unfold S_halving_test
    exact (zs_cons (zs_set c (i := 1) rfl (Or.inl rfl) (ze_call c ((ok_needed h).up (by omega)) (by rfl) (gl_needed h) (za_cons (ze_name (i := 0) rfl (Or.inl rfl) nd_history nd_historyc) (za_cons (ze_name (i := 1) rfl (Or.inl rfl) nd_some nd_somec) za_nil rfl) rfl) nd_needed rfl rfl) rfl (Or.inl rfl))
 (zs_one (zs_ret (ze_if (zt_cmp c rfl (ze_blt call_lenA oLen_ok (by rfl) (fr_len h) bt_len (za_cons (ze_name (i := 1) rfl (Or.inl rfl) nd_some nd_somec) za_nil rfl) (by decide) nd_len rfl rfl) ze_int rfl) ze_non (ze_call c ((ok_halving_at h).up (by omega)) (by rfl) (gl_halving_at h) (za_cons (ze_name (i := 0) rfl (Or.inl rfl) nd_history nd_historyc) (za_cons (ze_name (i := 1) rfl (Or.inl rfl) nd_some nd_somec) za_nil rfl) rfl) nd_halving_at rfl rfl))))))
  exact G1
theorem ok_halving_test (h : Hd K mg base) : FnZ (gm K) P w mg base (15 + 1) (d_halving_test.at_ K) 2 F_halving_test [] := by
  obtain ⟨fd, G, F⟩ := og_halving_test h
  exact ⟨⟨fd, ["history", "some"], [], [], G, F.bindsN (ps := ["history", "some"]) fun _ _ _ _ _ _ us hl => match us, hl with | [_, _], _ => rfl, .nil, fun _ => IsL.nil⟩, F.kp⟩
def i_halved_1 (self : FF) : FS := fIfS (fT (fBin (oEq false) (fCB oLen (fACons (fName 1) (fANil))) (fC (.int 1))))
 (fRet (fTup (fACons (fC (.str "found")) (fACons (fBin oIx (fName 1) (fC (.int 0))) (fANil)))))
 (fNext)
def S_halved (self : FF) : FS := fSeq ((i_halved_1 self))
 (fSeq (fSet 2 (fCall 2 F_halving_at [] (fACons (fName 0) (fACons (fName 1) (fANil)))))
 (fSeq (fAsg (fCall 3 F_parted [] (fACons (fName 0) (fACons (fName 1) (fACons (fName 2) (fANil))))) (fgTup [3, 4]))
 (fRet (fTup (fACons (fC (.str "test")) (fACons (fName 2) (fACons (fCall 2 self [] (fACons (fName 0) (fACons (fName 3) (fANil)))) (fACons (fCall 2 self [] (fACons (fName 0) (fACons (fName 4) (fANil)))) (fANil)))))))))
def R_halved : Nat → FF
  | 0 => fun _ _ => .bad
  | n + 1 => fBody 5 (S_halved (R_halved n))
def F_halved : FF := R_halved 9
theorem sc_halved : FnScope ["history", "some", "version", "inside", "outside"] ["history", "some"] d_halved.scope := ⟨rfl, rfl, rfl, by decide +kernel, rfl, by decide +kernel, by decide +kernel⟩
theorem ok_halvedr (h : Hd K mg base) : ∀ n : Nat, FnZ (gm K) P w mg base (14 + 2 * n) (d_halved.at_ K) 2 (R_halved n) []
  | 0 => by
    obtain ⟨fd, F⟩ := h.cz.a.def_ 21 (d := d_halved) rfl
    exact ⟨⟨fd, ["history", "some"], [], [], fng_bad, F.bindsN (ps := ["history", "some"]) fun _ _ _ _ _ _ us hl => match us, hl with | [_, _], _ => rfl, .nil, fun _ => IsL.nil⟩, F.kp⟩
  | n + 1 => by
    have ih := ok_halvedr h n
    obtain ⟨fd, F⟩ := h.cz.a.def_ 21 (d := d_halved) rfl
    refine ⟨⟨fd, ["history", "some"], [], [], ?_, F.bindsN (ps := ["history", "some"]) fun _ _ _ _ _ _ us hl => match us, hl with | [_, _], _ => rfl, .nil, fun _ => IsL.nil⟩, F.kp⟩
    have F2 : FunD (gm K).K d_halved.name d_halved.qual d_halved.params d_halved.body d_halved.scope (d_halved.dvs K) (d_halved.kws K) (d_halved.at_ K) fd := F
    have G0 := fn_ok (P := P) (w := w) (mg := mg) (base := base) (Γ := gm K) (k := 14 + 2 * n + 1) (s := S_halved (R_halved n)) F2 sc_halved
    have G1 := G0 (fun W cdv A outer st H E c po => by
      unfold S_halved i_halved_1
      exact (zs_cons (zs_if (zt_cmp c rfl (ze_blt call_lenA oLen_ok (by rfl) (fr_len h) bt_len (za_cons (ze_name (i := 1) rfl (Or.inl rfl) nd_some nd_somec) za_nil rfl) (by decide) nd_len rfl rfl) ze_int rfl)
 (zs_one (zs_ret (ze_tup (za_cons ze_str (za_cons (ze_ix c (ze_name (i := 1) rfl (Or.inl rfl) nd_some nd_somec) ze_int (fun _ _ => rfl)) za_nil rfl) rfl))))
 zs_nil)
 (zs_cons (zs_set c (i := 2) rfl (Or.inl rfl) (ze_call c ((ok_halving_at h).up (by omega)) (by rfl) (gl_halving_at h) (za_cons (ze_name (i := 0) rfl (Or.inl rfl) nd_history nd_historyc) (za_cons (ze_name (i := 1) rfl (Or.inl rfl) nd_some nd_somec) za_nil rfl) rfl) nd_halving_at rfl rfl) rfl (Or.inl rfl))
 (zs_cons (zs_unpack c (Nms.cons rfl (Or.inl rfl) (Or.inl rfl) (Nms.cons rfl (Or.inl rfl) (Or.inl rfl) Nms.nil)) (ze_call c ((ok_parted h).up (by omega)) (by rfl) (gl_parted h) (za_cons (ze_name (i := 0) rfl (Or.inl rfl) nd_history nd_historyc) (za_cons (ze_name (i := 1) rfl (Or.inl rfl) nd_some nd_somec) (za_cons (ze_name (i := 2) rfl (Or.inl rfl) nd_version nd_versionc) za_nil rfl) rfl) rfl) nd_parted rfl rfl) rfl rfl)
 (zs_one (zs_ret (ze_tup (za_cons ze_str (za_cons (ze_name (i := 2) rfl (Or.inl rfl) nd_version nd_versionc) (za_cons (ze_call c (ih.up (by omega)) (by rfl) (gl_halved h) (za_cons (ze_name (i := 0) rfl (Or.inl rfl) nd_history nd_historyc) (za_cons (ze_name (i := 3) rfl (Or.inl rfl) nd_inside nd_insidec) za_nil rfl) rfl) nd_halved rfl rfl) (za_cons (ze_call c (ih.up (by omega)) (by rfl) (gl_halved h) (za_cons (ze_name (i := 0) rfl (Or.inl rfl) nd_history nd_historyc) (za_cons (ze_name (i := 4) rfl (Or.inl rfl) nd_outside nd_outsidec) za_nil rfl) rfl) nd_halved rfl rfl) za_nil rfl) rfl) rfl) rfl))))))))
    exact FnG.mono G1 (by omega)
theorem ok_halved (h : Hd K mg base) : FnZ (gm K) P w mg base 32 (d_halved.at_ K) 2 F_halved [] := ok_halvedr h 9
def S_halving_plan : FS := fRet (fCall 2 F_halved [] (fACons (fName 0) (fACons (fCall 2 F_needed [] (fACons (fName 0) (fACons (fName 1) (fANil)))) (fANil))))
def F_halving_plan : FF := fBody 2 (S_halving_plan)
theorem sc_halving_plan : FnScope ["history", "some"] ["history", "some"] d_halving_plan.scope := ⟨rfl, rfl, rfl, by decide +kernel, rfl, by decide +kernel, by decide +kernel⟩
theorem og_halving_plan (h : Hd K mg base) : ∃ fd, FnG P w K mg base (33 + 1) (d_halving_plan.at_ K) fd ["history", "some"] (spZ (gm K) 2 (F_halving_plan)) ∧ FunD K d_halving_plan.name d_halving_plan.qual d_halving_plan.params d_halving_plan.body d_halving_plan.scope (d_halving_plan.dvs K) (d_halving_plan.kws K) (d_halving_plan.at_ K) fd := by
  obtain ⟨fd, F⟩ := h.cz.a.def_ 22 (d := d_halving_plan) rfl
  refine ⟨fd, ?_, F⟩
  have F2 : FunD (gm K).K d_halving_plan.name d_halving_plan.qual d_halving_plan.params d_halving_plan.body d_halving_plan.scope (d_halving_plan.dvs K) (d_halving_plan.kws K) (d_halving_plan.at_ K) fd := F
  have G0 := fn_ok (P := P) (w := w) (mg := mg) (base := base) (Γ := gm K) (k := 33) (s := S_halving_plan) F2 sc_halving_plan
  have G1 := G0 (fun W cdv A outer st H E c po => by
    unfold S_halving_plan
    exact (zs_one (zs_ret (ze_call c ((ok_halved h).up (by omega)) (by rfl) (gl_halved h) (za_cons (ze_name (i := 0) rfl (Or.inl rfl) nd_history nd_historyc) (za_cons (ze_call c ((ok_needed h).up (by omega)) (by rfl) (gl_needed h) (za_cons (ze_name (i := 0) rfl (Or.inl rfl) nd_history nd_historyc) (za_cons (ze_name (i := 1) rfl (Or.inl rfl) nd_some nd_somec) za_nil rfl) rfl) nd_needed rfl rfl) za_nil rfl) rfl) nd_halved rfl rfl))))
  exact G1
theorem ok_halving_plan (h : Hd K mg base) : FnZ (gm K) P w mg base (33 + 1) (d_halving_plan.at_ K) 2 F_halving_plan [] := by
  obtain ⟨fd, G, F⟩ := og_halving_plan h
  exact ⟨⟨fd, ["history", "some"], [], [], G, F.bindsN (ps := ["history", "some"]) fun _ _ _ _ _ _ us hl => match us, hl with | [_, _], _ => rfl, .nil, fun _ => IsL.nil⟩, F.kp⟩
def c_law_begun_1 : FE := fLc true (fiAny (fName 0)) (fgName 2) (fT (fBin oGe (fCB oAbs (fACons (fName 2) (fANil))) (fBin oPow (fC (.int 10)) (fC (.int 18))))) (fBin oFdiv (fCB oAbs (fACons (fName 2) (fANil))) (fBin oPow (fC (.int 10)) (fC (.int 18)))) [2]
def c_law_begun_2 : FE := fLc true (fiAny (fName 0)) (fgName 2) (fYes) (fBin oMod (fCB oInt1 (fACons (fCB oAbs (fACons (fName 2) (fANil))) (fANil))) (fBin oPow (fC (.int 10)) (fC (.int 18)))) [2]
def S_law_begun : FS := fSeq (fSet 1 c_law_begun_1)
 (fRet (fDisp true [((.inr "digits"), fC (.int 0)), ((.inr "great"), fName 1), ((.inr "lumps"), c_law_begun_2), ((.inr "turn"), fC (.int 0))]))
def F_law_begun : FF := fBodyK 3 0 (S_law_begun)
theorem sc_law_begun : FnScope ["_law_script", "_law_great", "_law_lump"] ["_law_script"] d_law_begun.scope := ⟨rfl, rfl, rfl, by decide +kernel, rfl, by decide +kernel, by decide +kernel⟩
theorem og_law_begun (h : Hd K mg base) : ∃ fd, FnG P w K mg base (1 + 1) (d_law_begun.at_ K) fd ["_law_script"] (spZ (gm K) 1 (F_law_begun)) ∧ FunD K d_law_begun.name d_law_begun.qual d_law_begun.params d_law_begun.body d_law_begun.scope (d_law_begun.dvs K) (d_law_begun.kws K) (d_law_begun.at_ K) fd := by
  obtain ⟨fd, F⟩ := h.cz.a.def_ 23 (d := d_law_begun) rfl
  refine ⟨fd, ?_, F⟩
  have F2 : FunD (gm K).K d_law_begun.name d_law_begun.qual d_law_begun.params d_law_begun.body d_law_begun.scope (d_law_begun.dvs K) (d_law_begun.kws K) (d_law_begun.at_ K) fd := F
  have G0 := fn_okK (P := P) (w := w) (mg := mg) (base := base) (Γ := gm K) (k := 1) (s := S_law_begun) F2 sc_law_begun
  have G1 := G0 (fun W cdv A outer st H E c po => by
    unfold S_law_begun c_law_begun_2 c_law_begun_1
    exact (zs_cons (zs_setLc (live := true) c (i := 1) rfl rfl (sw_true rfl rfl rfl rfl) (zi_any c (ze_name (i := 0) rfl (Or.inl rfl) nd__law_script nd__law_scriptc)) (blkOk_by (own := [("_law_lump", 2)]) rfl) (tg_name (i := 2) (by simp)) (fun s1 H1 C1 l1 q1 => pg_name (Cz.nd (Cz.blk c s1 H1 _ _ q1)) (i := 2) rfl (Or.inl rfl) (Or.inr rfl)) (fun s1 H1 C1 l1 q1 => zts_one (zt_cmp (Cz.blk c s1 H1 _ _ q1) rfl (ze_blt call_abs oAbs_ok (by rfl) (fr_abs h) bt_abs (za_cons (ze_name (i := 2) rfl (Or.inl rfl) nd__law_lump nd__law_lumpc) za_nil rfl) (by decide) nd_abs rfl rfl) (ze_pow ze_int ze_int) rfl)) (fun s1 H1 C1 l1 q1 => (ze_fdiv (ze_blt call_abs oAbs_ok (by rfl) (fr_abs h) bt_abs (za_cons (ze_name (i := 2) rfl (Or.inl rfl) nd__law_lump nd__law_lumpc) za_nil rfl) (by decide) nd_abs rfl rfl) (ze_pow ze_int ze_int))) (fun _ => rfl))
 (zs_one (zs_ret (ze_disp (live := true) (Prs.cons (key := (.inr "digits")) ze_str ze_int (Prs.cons (key := (.inr "great")) ze_str (ze_name (i := 1) rfl (Or.inl rfl) nd__law_great nd__law_greatc) (Prs.cons (key := (.inr "lumps")) ze_str (ze_lc (live := true) c (zi_any c (ze_name (i := 0) rfl (Or.inl rfl) nd__law_script nd__law_scriptc)) (blkOk_by (own := [("_law_lump", 2)]) rfl) (tg_name (i := 2) (by simp)) (fun s1 H1 C1 l1 q1 => pg_name (Cz.nd (Cz.blk c s1 H1 _ _ q1)) (i := 2) rfl (Or.inl rfl) (Or.inr rfl)) (fun s1 H1 C1 l1 q1 => zts_nil) (fun s1 H1 C1 l1 q1 => (ze_mod (ze_bty call_int1 oInt1_ok (by rfl) (fr_int h) bt_int (za_cons (ze_blt call_abs oAbs_ok (by rfl) (fr_abs h) bt_abs (za_cons (ze_name (i := 2) rfl (Or.inl rfl) nd__law_lump nd__law_lumpc) za_nil rfl) (by decide) nd_abs rfl rfl) za_nil rfl) (by decide) nd_int rfl rfl) (ze_pow ze_int ze_int))) (fun _ => rfl)) (Prs.cons (key := (.inr "turn")) ze_str ze_int Prs.nil)))) (by simp) (by simp))))))
  exact G1
theorem ok_law_begun (h : Hd K mg base) : FnZ (gm K) P w mg base (1 + 1) (d_law_begun.at_ K) 1 F_law_begun [] := by
  obtain ⟨fd, G, F⟩ := og_law_begun h
  exact ⟨⟨fd, ["_law_script"], [], [], G, F.bindsN (ps := ["_law_script"]) fun _ _ _ _ _ _ us hl => match us, hl with | [_], _ => rfl, .nil, fun _ => IsL.nil⟩, F.kp⟩
def t_law_next_1 : FT := fAndT (fT (fBin (oEq false) (fBin oIx (fName 0) (fC (.str "digits"))) (fC (.int 0)))) (fT (fBin (oEq true) (fBin oIx (fName 0) (fC (.str "great"))) (fLst (fANil))))
def b_law_next_2 : FS := fPut (fName 0) (fC (.str "digits")) (fBM "list" oPopAt (fBin oIx (fName 0) (fC (.str "great"))) (fACons (fC (.int 0)) (fANil)))
def i_law_next_3 : FS := fIfS (fT (fBin oGt (fBin oIx (fName 0) (fC (.str "digits"))) (fC (.int 0))))
 (fSeq (fSet 2 (fBin oMod (fCB oInt1 (fACons (fBin oIx (fName 0) (fC (.str "digits"))) (fANil))) (fName 1)))
 (fSeq (fPut (fName 0) (fC (.str "digits")) (fBin oFdiv (fBin oIx (fName 0) (fC (.str "digits"))) (fName 1)))
 (fRet (fName 2))))
 (fNext)
def i_law_next_4 : FS := fIfS (fT (fBin (oEq true) (fBin oIx (fName 0) (fC (.str "lumps"))) (fLst (fANil))))
 (fSet 4 (fBin oIx (fBin oIx (fName 0) (fC (.str "lumps"))) (fBin oMod (fCB oInt1 (fACons (fName 3) (fANil))) (fCB oLen (fACons (fBin oIx (fName 0) (fC (.str "lumps"))) (fANil))))))
 (fNext)
def S_law_next : FS := fSeq (fWh t_law_next_1 b_law_next_2 70)
 (fSeq (i_law_next_3)
 (fSeq (fAugK (fName 0) (fC (.str "turn")) (fC (.int 1)))
 (fSeq (fSet 3 (fBin oIx (fName 0) (fC (.str "turn"))))
 (fSeq (fSet 4 (fC (.int 0)))
 (fSeq (i_law_next_4)
 (fSeq (fSet 5 (fBin oMod (fCB oInt1 (fACons (fBin oPow (fBin oAdd (fBin oMod (fCB oInt1 (fACons (fName 4) (fANil))) (fC (.int 2147483629))) (fBin oMul (fC (.int 40009)) (fName 3))) (fC (.int 3))) (fANil))) (fC (.int 2147483647))))
 (fRet (fBin oMod (fCB oInt1 (fACons (fBin oFdiv (fBin oMod (fCB oInt1 (fACons (fBin oPow (fBin oAdd (fName 5) (fBin oMul (fC (.int 104729)) (fName 3))) (fC (.int 5))) (fANil))) (fC (.int 2147483629))) (fC (.int 11))) (fANil))) (fName 1)))))))))
def F_law_next : FF := fBody 6 (S_law_next)
theorem sc_law_next : FnScope ["_law_draw", "_law_many", "_law_found", "_law_turn", "_law_lump", "_law_mixed"] ["_law_draw", "_law_many"] d_law_next.scope := ⟨rfl, rfl, rfl, by decide +kernel, rfl, by decide +kernel, by decide +kernel⟩
theorem og_law_next (h : Hd K mg base) : ∃ fd, FnG P w K mg base (1 + 1) (d_law_next.at_ K) fd ["_law_draw", "_law_many"] (spZ (gm K) 2 (F_law_next)) ∧ FunD K d_law_next.name d_law_next.qual d_law_next.params d_law_next.body d_law_next.scope (d_law_next.dvs K) (d_law_next.kws K) (d_law_next.at_ K) fd := by
  obtain ⟨fd, F⟩ := h.cz.a.def_ 24 (d := d_law_next) rfl
  refine ⟨fd, ?_, F⟩
  have F2 : FunD (gm K).K d_law_next.name d_law_next.qual d_law_next.params d_law_next.body d_law_next.scope (d_law_next.dvs K) (d_law_next.kws K) (d_law_next.at_ K) fd := F
  have G0 := fn_ok (P := P) (w := w) (mg := mg) (base := base) (Γ := gm K) (k := 1) (s := S_law_next) F2 sc_law_next
  have G1 := G0 (fun W cdv A outer st H E c po => by
    unfold S_law_next i_law_next_4 i_law_next_3 b_law_next_2 t_law_next_1
    exact (zs_cons (zs_while (n := 70) po (PW.pt (zt_and (zt_cmp c rfl (ze_ix c (ze_name (i := 0) rfl (Or.inl rfl) nd__law_draw nd__law_drawc) ze_str (fun _ _ => rfl)) ze_int rfl) (pw_and1 (zt_cmp c rfl (ze_ix c (ze_name (i := 0) rfl (Or.inl rfl) nd__law_draw nd__law_drawc) ze_str (fun _ _ => rfl)) (ze_lst za_nil) rfl)))) (zs_one (zs_put c (ze_name (i := 0) rfl (Or.inl rfl) nd__law_draw nd__law_drawc) ze_str (ze_bm PySem.F.plainAttrs_list PySem.F.slot_list_pop PySem.F.type_list_pop c mt_popAt oPopAt_ok (ze_ix c (ze_name (i := 0) rfl (Or.inl rfl) nd__law_draw nd__law_drawc) ze_str (fun _ _ => rfl)) (za_cons ze_int za_nil rfl) rfl rfl rfl rfl rfl) rfl)))
 (zs_cons (zs_if (zt_cmp c rfl (ze_ix c (ze_name (i := 0) rfl (Or.inl rfl) nd__law_draw nd__law_drawc) ze_str (fun _ _ => rfl)) ze_int rfl)
 (zs_cons (zs_set c (i := 2) rfl (Or.inl rfl) (ze_mod (ze_bty call_int1 oInt1_ok (by rfl) (fr_int h) bt_int (za_cons (ze_ix c (ze_name (i := 0) rfl (Or.inl rfl) nd__law_draw nd__law_drawc) ze_str (fun _ _ => rfl)) za_nil rfl) (by decide) nd_int rfl rfl) (ze_name (i := 1) rfl (Or.inl rfl) nd__law_many nd__law_manyc)) rfl (Or.inl rfl))
 (zs_cons (zs_put c (ze_name (i := 0) rfl (Or.inl rfl) nd__law_draw nd__law_drawc) ze_str (ze_fdiv (ze_ix c (ze_name (i := 0) rfl (Or.inl rfl) nd__law_draw nd__law_drawc) ze_str (fun _ _ => rfl)) (ze_name (i := 1) rfl (Or.inl rfl) nd__law_many nd__law_manyc)) rfl)
 (zs_one (zs_ret (ze_name (i := 2) rfl (Or.inl rfl) nd__law_found nd__law_foundc)))))
 zs_nil)
 (zs_cons (zs_augK c (ze_name (i := 0) rfl (Or.inl rfl) nd__law_draw nd__law_drawc) ze_str ze_int (fun _ _ _ => rfl))
 (zs_cons (zs_set c (i := 3) rfl (Or.inl rfl) (ze_ix c (ze_name (i := 0) rfl (Or.inl rfl) nd__law_draw nd__law_drawc) ze_str (fun _ _ => rfl)) rfl (Or.inl rfl))
 (zs_cons (zs_set c (i := 4) rfl (Or.inl rfl) ze_int rfl (Or.inl rfl))
 (zs_cons (zs_if (zt_cmp c rfl (ze_ix c (ze_name (i := 0) rfl (Or.inl rfl) nd__law_draw nd__law_drawc) ze_str (fun _ _ => rfl)) (ze_lst za_nil) rfl)
 (zs_one (zs_set c (i := 4) rfl (Or.inl rfl) (ze_ix c (ze_ix c (ze_name (i := 0) rfl (Or.inl rfl) nd__law_draw nd__law_drawc) ze_str (fun _ _ => rfl)) (ze_mod (ze_bty call_int1 oInt1_ok (by rfl) (fr_int h) bt_int (za_cons (ze_name (i := 3) rfl (Or.inl rfl) nd__law_turn nd__law_turnc) za_nil rfl) (by decide) nd_int rfl rfl) (ze_blt call_lenA oLen_ok (by rfl) (fr_len h) bt_len (za_cons (ze_ix c (ze_name (i := 0) rfl (Or.inl rfl) nd__law_draw nd__law_drawc) ze_str (fun _ _ => rfl)) za_nil rfl) (by decide) nd_len rfl rfl)) (fun _ _ => rfl)) rfl (Or.inl rfl)))
 zs_nil)
 (zs_cons (zs_set c (i := 5) rfl (Or.inl rfl) (ze_mod (ze_bty call_int1 oInt1_ok (by rfl) (fr_int h) bt_int (za_cons (ze_pow (ze_add c (ze_mod (ze_bty call_int1 oInt1_ok (by rfl) (fr_int h) bt_int (za_cons (ze_name (i := 4) rfl (Or.inl rfl) nd__law_lump nd__law_lumpc) za_nil rfl) (by decide) nd_int rfl rfl) ze_int) (ze_mul ze_int (ze_name (i := 3) rfl (Or.inl rfl) nd__law_turn nd__law_turnc))) ze_int) za_nil rfl) (by decide) nd_int rfl rfl) ze_int) rfl (Or.inl rfl))
 (zs_one (zs_ret (ze_mod (ze_bty call_int1 oInt1_ok (by rfl) (fr_int h) bt_int (za_cons (ze_fdiv (ze_mod (ze_bty call_int1 oInt1_ok (by rfl) (fr_int h) bt_int (za_cons (ze_pow (ze_add c (ze_name (i := 5) rfl (Or.inl rfl) nd__law_mixed nd__law_mixedc) (ze_mul ze_int (ze_name (i := 3) rfl (Or.inl rfl) nd__law_turn nd__law_turnc))) ze_int) za_nil rfl) (by decide) nd_int rfl rfl) ze_int) ze_int) za_nil rfl) (by decide) nd_int rfl rfl) (ze_name (i := 1) rfl (Or.inl rfl) nd__law_many nd__law_manyc))))))))))))
  exact G1
theorem ok_law_next (h : Hd K mg base) : FnZ (gm K) P w mg base (1 + 1) (d_law_next.at_ K) 2 F_law_next [] := by
  obtain ⟨fd, G, F⟩ := og_law_next h
  exact ⟨⟨fd, ["_law_draw", "_law_many"], [], [], G, F.bindsN (ps := ["_law_draw", "_law_many"]) fun _ _ _ _ _ _ us hl => match us, hl with | [_, _], _ => rfl, .nil, fun _ => IsL.nil⟩, F.kp⟩
def S_law_pick : FS := fRet (fBin oIx (fName 1) (fCall 2 F_law_next [] (fACons (fName 0) (fACons (fCB oLen (fACons (fName 1) (fANil))) (fANil)))))
def F_law_pick : FF := fBody 2 (S_law_pick)
theorem sc_law_pick : FnScope ["_law_draw", "_law_menu"] ["_law_draw", "_law_menu"] d_law_pick.scope := ⟨rfl, rfl, rfl, by decide +kernel, rfl, by decide +kernel, by decide +kernel⟩
theorem og_law_pick (h : Hd K mg base) : ∃ fd, FnG P w K mg base (3 + 1) (d_law_pick.at_ K) fd ["_law_draw", "_law_menu"] (spZ (gm K) 2 (F_law_pick)) ∧ FunD K d_law_pick.name d_law_pick.qual d_law_pick.params d_law_pick.body d_law_pick.scope (d_law_pick.dvs K) (d_law_pick.kws K) (d_law_pick.at_ K) fd := by
  obtain ⟨fd, F⟩ := h.cz.a.def_ 25 (d := d_law_pick) rfl
  refine ⟨fd, ?_, F⟩
  have F2 : FunD (gm K).K d_law_pick.name d_law_pick.qual d_law_pick.params d_law_pick.body d_law_pick.scope (d_law_pick.dvs K) (d_law_pick.kws K) (d_law_pick.at_ K) fd := F
  have G0 := fn_ok (P := P) (w := w) (mg := mg) (base := base) (Γ := gm K) (k := 3) (s := S_law_pick) F2 sc_law_pick
  have G1 := G0 (fun W cdv A outer st H E c po => by
    unfold S_law_pick
    exact (zs_one (zs_ret (ze_ix c (ze_name (i := 1) rfl (Or.inl rfl) nd__law_menu nd__law_menuc) (ze_call c ((ok_law_next h).up (by omega)) (by rfl) (gl__law_next h) (za_cons (ze_name (i := 0) rfl (Or.inl rfl) nd__law_draw nd__law_drawc) (za_cons (ze_blt call_lenA oLen_ok (by rfl) (fr_len h) bt_len (za_cons (ze_name (i := 1) rfl (Or.inl rfl) nd__law_menu nd__law_menuc) za_nil rfl) (by decide) nd_len rfl rfl) za_nil rfl) rfl) nd__law_next rfl rfl) (fun _ _ => rfl)))))
  exact G1
theorem ok_law_pick (h : Hd K mg base) : FnZ (gm K) P w mg base (3 + 1) (d_law_pick.at_ K) 2 F_law_pick [] := by
  obtain ⟨fd, G, F⟩ := og_law_pick h
  exact ⟨⟨fd, ["_law_draw", "_law_menu"], [], [], G, F.bindsN (ps := ["_law_draw", "_law_menu"]) fun _ _ _ _ _ _ us hl => match us, hl with | [_, _], _ => rfl, .nil, fun _ => IsL.nil⟩, F.kp⟩
def t_law_shuffled_1 : FT := fT (fBin (oEq true) (fName 2) (fLst (fANil)))
def b_law_shuffled_2 : FS := fDrop (fBM "list" oAppend (fName 3) (fACons (fBM "list" oPopAt (fName 2) (fACons (fCall 2 F_law_next [] (fACons (fName 0) (fACons (fCB oLen (fACons (fName 2) (fANil))) (fANil)))) (fANil))) (fANil)))
def S_law_shuffled : FS := fSeq (fPar 2 3 (fACons (fCB oListL (fACons (fName 1) (fANil))) (fACons (fLstL (fANil)) (fANil))))
 (fSeq (fWh t_law_shuffled_1 b_law_shuffled_2 70)
 (fRet (fName 3)))
def F_law_shuffled : FF := fBody 4 (S_law_shuffled)
theorem sc_law_shuffled : FnScope ["_law_draw", "_law_menu", "_law_left", "_law_found"] ["_law_draw", "_law_menu"] d_law_shuffled.scope := ⟨rfl, rfl, rfl, by decide +kernel, rfl, by decide +kernel, by decide +kernel⟩
theorem og_law_shuffled (h : Hd K mg base) : ∃ fd, FnG P w K mg base (3 + 1) (d_law_shuffled.at_ K) fd ["_law_draw", "_law_menu"] (spZ (gm K) 2 (F_law_shuffled)) ∧ FunD K d_law_shuffled.name d_law_shuffled.qual d_law_shuffled.params d_law_shuffled.body d_law_shuffled.scope (d_law_shuffled.dvs K) (d_law_shuffled.kws K) (d_law_shuffled.at_ K) fd := by
  obtain ⟨fd, F⟩ := h.cz.a.def_ 26 (d := d_law_shuffled) rfl
  refine ⟨fd, ?_, F⟩
  have F2 : FunD (gm K).K d_law_shuffled.name d_law_shuffled.qual d_law_shuffled.params d_law_shuffled.body d_law_shuffled.scope (d_law_shuffled.dvs K) (d_law_shuffled.kws K) (d_law_shuffled.at_ K) fd := F
  have G0 := fn_ok (P := P) (w := w) (mg := mg) (base := base) (Γ := gm K) (k := 3) (s := S_law_shuffled) F2 sc_law_shuffled
  have G1 := G0 (fun W cdv A outer st H E c po => by
    unfold S_law_shuffled b_law_shuffled_2 t_law_shuffled_1
    exact (zs_cons (zs_par c (i := 2) (j := 3) rfl rfl (by decide) rfl rfl (za_cons (ze_bty (call_listA rfl) oListL_ok (by rfl) (fr_list h) bt_list (za_cons (ze_name (i := 1) rfl (Or.inl rfl) nd__law_menu nd__law_menuc) za_nil rfl) (by decide) nd_list rfl rfl) (za_cons (ze_lstL za_nil) za_nil rfl) rfl) rfl)
 (zs_cons (zs_while (n := 70) po (zt_cmp c rfl (ze_name (i := 2) rfl (Or.inl rfl) nd__law_left nd__law_leftc) (ze_lst za_nil) rfl) (zs_one (zs_expr (ze_bm PySem.F.plainAttrs_list PySem.F.slot_list_append PySem.F.type_list_append c mt_append oAppend_ok (ze_name (i := 3) rfl (Or.inl rfl) nd__law_found nd__law_foundc) (za_cons (ze_bm PySem.F.plainAttrs_list PySem.F.slot_list_pop PySem.F.type_list_pop c mt_popAt oPopAt_ok (ze_name (i := 2) rfl (Or.inl rfl) nd__law_left nd__law_leftc) (za_cons (ze_call c ((ok_law_next h).up (by omega)) (by rfl) (gl__law_next h) (za_cons (ze_name (i := 0) rfl (Or.inl rfl) nd__law_draw nd__law_drawc) (za_cons (ze_blt call_lenA oLen_ok (by rfl) (fr_len h) bt_len (za_cons (ze_name (i := 2) rfl (Or.inl rfl) nd__law_left nd__law_leftc) za_nil rfl) (by decide) nd_len rfl rfl) za_nil rfl) rfl) nd__law_next rfl rfl) za_nil rfl) rfl rfl rfl rfl rfl) za_nil rfl) rfl rfl rfl rfl rfl) rfl)))
 (zs_one (zs_ret (ze_name (i := 3) rfl (Or.inl rfl) nd__law_found nd__law_foundc))))))
  exact G1
theorem ok_law_shuffled (h : Hd K mg base) : FnZ (gm K) P w mg base (3 + 1) (d_law_shuffled.at_ K) 2 F_law_shuffled [] := by
  obtain ⟨fd, G, F⟩ := og_law_shuffled h
  exact ⟨⟨fd, ["_law_draw", "_law_menu"], [], [], G, F.bindsN (ps := ["_law_draw", "_law_menu"]) fun _ _ _ _ _ _ us hl => match us, hl with | [_, _], _ => rfl, .nil, fun _ => IsL.nil⟩, F.kp⟩
def c_law_words_1 : FE := fLc false (fiRng1 (fACons (fBin oAdd (fC (.int 1)) (fCall 2 F_law_next [] (fACons (fName 0) (fACons (fC (.int 6)) (fANil))))) (fANil))) (fgName 9) (fYes) (fCall 2 F_law_pick [] (fACons (fName 0) (fACons (fName 4) (fANil)))) [9]
def i_law_words_2 : FS := fIfS (fT (fBin (oEq false) (fCall 2 F_law_next [] (fACons (fName 0) (fACons (fC (.int 3)) (fANil)))) (fC (.int 0))))
 (fSet 6 (fBM "str" oJoin (fC (.str "")) (fACons (c_law_words_1) (fANil))))
 (fNext)
def c_law_words_3 : FE := fLc false (fiAny (fName 4)) (fgName 8) (fYes) (fBin oAdd (fSl (fName 6) none (some (fC (.int 5)))) (fName 8)) [8]
def c_law_words_4 : FE := fLc false (fiAny (fName 7)) (fgName 10) (fT (fBin (oIn true) (fName 10) (fName 3))) (fName 10) [10]
def b_law_words_5 : FS := fSeq (fSet 6 (fCall 2 F_law_pick [] (fACons (fName 0) (fACons (fName 2) (fANil)))))
 (fSeq (i_law_words_2)
 (fSeq (fSet 7 (fBin oAdd (fLst (fACons (fName 6) (fANil))) (c_law_words_3)))
 (fDrop (fBM "list" oAppend (fName 3) (fACons (fBin oIx (c_law_words_4) (fC (.int 0))) (fANil))))))
def S_law_words : FS := fSeq (fParC [2, 3] (fACons (fLst (fACons (fC (.str "a")) (fACons (fC (.str "b")) (fACons (fC (.str "ab")) (fACons (fC (.str "fix")) (fACons (fC (.str "none")) (fACons (fC (.str "apply")) (fACons (fC (.str "passes")) (fACons (fC (.str "lie")) (fACons (fC (.str "cost")) (fACons (fC (.str "zzzzzz")) (fANil)))))))))))) (fACons (fLstL (fANil)) (fANil))))
 (fSeq (fSet 4 (fC (.str "abcdefghijklmnopqrstuvwxyz")))
 (fSeq (fForS (fiRng1 (fACons (fName 1) (fANil))) (fgName 5)
 b_law_words_5)
 (fRet (fName 3))))
def F_law_words : FF := fBody 11 (S_law_words)
theorem sc_law_words : FnScope ["_law_draw", "_law_many", "_law_own", "_law_found", "_law_letters", "_law_turn", "_law_word", "_law_tries", "_law_letter", "_law_k", "_law_label"] ["_law_draw", "_law_many"] d_law_words.scope := ⟨rfl, rfl, rfl, by decide +kernel, rfl, by decide +kernel, by decide +kernel⟩
theorem og_law_words (h : Hd K mg base) : ∃ fd, FnG P w K mg base (5 + 1) (d_law_words.at_ K) fd ["_law_draw", "_law_many"] (spZ (gm K) 2 (F_law_words)) ∧ FunD K d_law_words.name d_law_words.qual d_law_words.params d_law_words.body d_law_words.scope (d_law_words.dvs K) (d_law_words.kws K) (d_law_words.at_ K) fd := by
  obtain ⟨fd, F⟩ := h.cz.a.def_ 27 (d := d_law_words) rfl
  refine ⟨fd, ?_, F⟩
  have F2 : FunD (gm K).K d_law_words.name d_law_words.qual d_law_words.params d_law_words.body d_law_words.scope (d_law_words.dvs K) (d_law_words.kws K) (d_law_words.at_ K) fd := F
  have G0 := fn_ok (P := P) (w := w) (mg := mg) (base := base) (Γ := gm K) (k := 5) (s := S_law_words) F2 sc_law_words
  have G1 := G0 (fun W cdv A outer st H E c po => by
    unfold S_law_words b_law_words_5 c_law_words_4 c_law_words_3 i_law_words_2 c_law_words_1
    exact (zs_cons (zs_parC c (Nms.cons rfl (Or.inl rfl) (Or.inl rfl) (Nms.cons rfl (Or.inr rfl) (Or.inl rfl) Nms.nil)) (za_cons (ze_lst (za_cons ze_str (za_cons ze_str (za_cons ze_str (za_cons ze_str (za_cons ze_str (za_cons ze_str (za_cons ze_str (za_cons ze_str (za_cons ze_str (za_cons ze_str za_nil rfl) rfl) rfl) rfl) rfl) rfl) rfl) rfl) rfl) rfl)) (za_cons (ze_lstL za_nil) za_nil rfl) rfl) rfl rfl)
 (zs_cons (zs_set c (i := 4) rfl (Or.inr rfl) ze_str rfl (Or.inl rfl))
 (zs_cons (zs_for (fun _ _ _ _ _ _ z => by cases z) c po (zi_rng1 (by rfl) (fr_range h) (za_cons (ze_name (i := 1) rfl (Or.inl rfl) nd__law_many nd__law_manyc) za_nil rfl) rfl) (zg_name (Cz.nd c) (i := 5) rfl (Or.inl rfl) (Or.inl rfl))
 (zs_cons (zs_set c (i := 6) rfl (Or.inr rfl) (ze_call c ((ok_law_pick h).up (by omega)) (by rfl) (gl__law_pick h) (za_cons (ze_name (i := 0) rfl (Or.inr (Or.inl rfl)) nd__law_draw nd__law_drawc) (za_cons (ze_name (i := 2) rfl (Or.inl rfl) nd__law_own nd__law_ownc) za_nil rfl) rfl) nd__law_pick rfl rfl) rfl (Or.inl rfl))
 (zs_cons (zs_if (zt_cmp c rfl (ze_call c ((ok_law_next h).up (by omega)) (by rfl) (gl__law_next h) (za_cons (ze_name (i := 0) rfl (Or.inr (Or.inl rfl)) nd__law_draw nd__law_drawc) (za_cons ze_int za_nil rfl) rfl) nd__law_next rfl rfl) ze_int rfl)
 (zs_one (zs_set c (i := 6) rfl (Or.inr rfl) (ze_bm PySem.F.plainAttrs_str PySem.F.slot_str_join PySem.F.type_str_join c mt_join oJoin_ok ze_str (za_cons (ze_lc (live := false) c (zi_rng1 (by rfl) (fr_range h) (za_cons (ze_add c ze_int (ze_call c ((ok_law_next h).up (by omega)) (by rfl) (gl__law_next h) (za_cons (ze_name (i := 0) rfl (Or.inr (Or.inl rfl)) nd__law_draw nd__law_drawc) (za_cons ze_int za_nil rfl) rfl) nd__law_next rfl rfl)) za_nil rfl) rfl) (blkOk_by (own := [("_law_k", 9)]) rfl) (tg_name (i := 9) (by simp)) (fun s1 H1 C1 l1 q1 => pg_name (Cz.nd (Cz.blk c s1 H1 _ _ q1)) (i := 9) rfl (Or.inl rfl) (Or.inr rfl)) (fun s1 H1 C1 l1 q1 => zts_nil) (fun s1 H1 C1 l1 q1 => (ze_call (Cz.blk c s1 H1 _ _ q1) ((ok_law_pick h).up (by omega)) (by rfl) (gl__law_pick h) (za_cons (ze_name (i := 0) rfl (Or.inr (Or.inl rfl)) nd__law_draw nd__law_drawc) (za_cons (ze_name (i := 4) rfl (Or.inr (Or.inl rfl)) nd__law_letters nd__law_lettersc) za_nil rfl) rfl) nd__law_pick rfl rfl)) (fun _ => rfl)) za_nil rfl) rfl rfl rfl rfl rfl) rfl (Or.inl rfl)))
 zs_nil)
 (zs_cons (zs_set c (i := 7) rfl (Or.inl rfl) (ze_add c (ze_lst (za_cons (ze_name (i := 6) rfl (Or.inr (Or.inl rfl)) nd__law_word nd__law_wordc) za_nil rfl)) (ze_lc (live := false) c (zi_any c (ze_name (i := 4) rfl (Or.inr (Or.inl rfl)) nd__law_letters nd__law_lettersc)) (blkOk_by (own := [("_law_letter", 8)]) rfl) (tg_name (i := 8) (by simp)) (fun s1 H1 C1 l1 q1 => pg_name (Cz.nd (Cz.blk c s1 H1 _ _ q1)) (i := 8) rfl (Or.inl rfl) (Or.inr rfl)) (fun s1 H1 C1 l1 q1 => zts_nil) (fun s1 H1 C1 l1 q1 => (ze_add (Cz.blk c s1 H1 _ _ q1) (ze_sl (Cz.blk c s1 H1 _ _ q1) (ze_name (i := 6) rfl (Or.inr (Or.inl rfl)) nd__law_word nd__law_wordc) zo_none (zo_some ze_int)) (ze_name (i := 8) rfl (Or.inl rfl) nd__law_letter nd__law_letterc))) (fun _ => rfl))) rfl (Or.inl rfl))
 (zs_one (zs_expr (ze_bm PySem.F.plainAttrs_list PySem.F.slot_list_append PySem.F.type_list_append c mt_append oAppend_ok (ze_name (i := 3) rfl (Or.inr (Or.inl rfl)) nd__law_found nd__law_foundc) (za_cons (ze_ix c (ze_lc (live := false) c (zi_any c (ze_name (i := 7) rfl (Or.inl rfl) nd__law_tries nd__law_triesc)) (blkOk_by (own := [("_law_label", 10)]) rfl) (tg_name (i := 10) (by simp)) (fun s1 H1 C1 l1 q1 => pg_name (Cz.nd (Cz.blk c s1 H1 _ _ q1)) (i := 10) rfl (Or.inl rfl) (Or.inr rfl)) (fun s1 H1 C1 l1 q1 => zts_one (zt_cmp (Cz.blk c s1 H1 _ _ q1) rfl (ze_name (i := 10) rfl (Or.inl rfl) nd__law_label nd__law_labelc) (ze_name (i := 3) rfl (Or.inr (Or.inl rfl)) nd__law_found nd__law_foundc) rfl)) (fun s1 H1 C1 l1 q1 => (ze_name (i := 10) rfl (Or.inl rfl) nd__law_label nd__law_labelc)) (fun _ => rfl)) ze_int (fun _ _ => rfl)) za_nil rfl) rfl rfl rfl rfl rfl) rfl))))) (fun _ => rfl))
 (zs_one (zs_ret (ze_name (i := 3) rfl (Or.inr (Or.inl rfl)) nd__law_found nd__law_foundc)))))))
  exact G1
theorem ok_law_words (h : Hd K mg base) : FnZ (gm K) P w mg base (5 + 1) (d_law_words.at_ K) 2 F_law_words [] := by
  obtain ⟨fd, G, F⟩ := og_law_words h
  exact ⟨⟨fd, ["_law_draw", "_law_many"], [], [], G, F.bindsN (ps := ["_law_draw", "_law_many"]) fun _ _ _ _ _ _ us hl => match us, hl with | [_, _], _ => rfl, .nil, fun _ => IsL.nil⟩, F.kp⟩
def i_law_line_1 : FS := fIfS (fAndT (fT (fBin oGt (fName 4) (fC (.int 0)))) (fT (fBin oGt (fName 5) (fC (.int 0)))))
 (fSet 6 (fTup (fACons (fCall 2 F_law_pick [] (fACons (fName 0) (fACons (fLst (fACons (fBin oSub (fName 4) (fC (.int 1))) (fACons (fBin oSub (fName 4) (fC (.int 1))) (fACons (fCB oMax (fACons (fC (.int 0)) (fACons (fBin oSub (fName 4) (fC (.int 2))) (fANil)))) (fACons (fCall 2 F_law_next [] (fACons (fName 0) (fACons (fName 4) (fANil)))) (fANil)))))) (fANil)))) (fANil))))
 (fNext)
def i_law_line_2 : FS := fIfS (fAndT (fT (fBin oGt (fName 4) (fC (.int 1)))) (fT (fBin oGt (fName 5) (fC (.int 4)))))
 (fSeq (fPar 7 8 (fACons (fCall 2 F_law_next [] (fACons (fName 0) (fACons (fName 4) (fANil)))) (fACons (fCall 2 F_law_next [] (fACons (fName 0) (fACons (fBin oSub (fName 4) (fC (.int 1))) (fANil)))) (fANil))))
 (fSeq (fSet 8 (fBin oAdd (fName 8) (fCB oInt1 (fACons (fBin oGe (fName 8) (fName 7)) (fANil)))))
 (fSet 6 (fTup (fACons (fCB oMin (fACons (fName 7) (fACons (fName 8) (fANil)))) (fACons (fCB oMax (fACons (fName 7) (fACons (fName 8) (fANil)))) (fANil)))))))
 (fNext)
def b_law_line_3 : FS := fSeq (fPar 5 6 (fACons (fCall 2 F_law_next [] (fACons (fName 0) (fACons (fC (.int 8)) (fANil)))) (fACons (fTup (fANil)) (fANil))))
 (fSeq (i_law_line_1)
 (fSeq (i_law_line_2)
 (fSeq (fSet 9 (fCall 2 F_law_next [] (fACons (fName 0) (fACons (fC (.int 7)) (fANil)))))
 (fSeq (fSet 10 (fIf (fT (fBin (oEq false) (fName 9) (fC (.int 0)))) (fC .non) (fTup (fACons (fBin oIx (fLst (fACons (fC (.str "revert")) (fACons (fC (.str "apply")) (fANil)))) (fCB oInt1 (fACons (fBin oGt (fName 9) (fC (.int 2))) (fANil)))) (fACons (fCall 2 F_law_pick [] (fACons (fName 0) (fACons (fName 1) (fANil)))) (fANil))))))
 (fDrop (fBM "list" oAppend (fName 3) (fACons (fTup (fACons (fName 6) (fACons (fName 10) (fANil)))) (fANil))))))))
def S_law_line : FS := fSeq (fSet 3 (fLstL (fANil)))
 (fSeq (fForS (fiRng1 (fACons (fBin oAdd (fC (.int 1)) (fCall 2 F_law_next [] (fACons (fName 0) (fACons (fName 2) (fANil))))) (fANil))) (fgName 4)
 b_law_line_3)
 (fRet (fName 3)))
def F_law_line : FF := fBody 11 (S_law_line)
theorem sc_law_line : FnScope ["_law_draw", "_law_words_here", "_law_most", "_law_found", "_law_spot", "_law_way", "_law_ups", "_law_first", "_law_second", "_law_kind", "_law_deed"] ["_law_draw", "_law_words_here", "_law_most"] d_law_line.scope := ⟨rfl, rfl, rfl, by decide +kernel, rfl, by decide +kernel, by decide +kernel⟩
theorem og_law_line (h : Hd K mg base) : ∃ fd, FnG P w K mg base (5 + 1) (d_law_line.at_ K) fd ["_law_draw", "_law_words_here", "_law_most"] (spZ (gm K) 3 (F_law_line)) ∧ FunD K d_law_line.name d_law_line.qual d_law_line.params d_law_line.body d_law_line.scope (d_law_line.dvs K) (d_law_line.kws K) (d_law_line.at_ K) fd := by
  obtain ⟨fd, F⟩ := h.cz.a.def_ 28 (d := d_law_line) rfl
  refine ⟨fd, ?_, F⟩
  have F2 : FunD (gm K).K d_law_line.name d_law_line.qual d_law_line.params d_law_line.body d_law_line.scope (d_law_line.dvs K) (d_law_line.kws K) (d_law_line.at_ K) fd := F
  have G0 := fn_ok (P := P) (w := w) (mg := mg) (base := base) (Γ := gm K) (k := 5) (s := S_law_line) F2 sc_law_line
  have G1 := G0 (fun W cdv A outer st H E c po => by
    unfold S_law_line b_law_line_3 i_law_line_2 i_law_line_1
    exact (zs_cons (zs_set c (i := 3) rfl (Or.inl rfl) (ze_lstL za_nil) rfl (Or.inl rfl))
 (zs_cons (zs_for (fun _ _ _ _ _ _ z => by cases z) c po (zi_rng1 (by rfl) (fr_range h) (za_cons (ze_add c ze_int (ze_call c ((ok_law_next h).up (by omega)) (by rfl) (gl__law_next h) (za_cons (ze_name (i := 0) rfl (Or.inl rfl) nd__law_draw nd__law_drawc) (za_cons (ze_name (i := 2) rfl (Or.inl rfl) nd__law_most nd__law_mostc) za_nil rfl) rfl) nd__law_next rfl rfl)) za_nil rfl) rfl) (zg_name (Cz.nd c) (i := 4) rfl (Or.inl rfl) (Or.inl rfl))
 (zs_cons (zs_par c (i := 5) (j := 6) rfl rfl (by decide) rfl rfl (za_cons (ze_call c ((ok_law_next h).up (by omega)) (by rfl) (gl__law_next h) (za_cons (ze_name (i := 0) rfl (Or.inl rfl) nd__law_draw nd__law_drawc) (za_cons ze_int za_nil rfl) rfl) nd__law_next rfl rfl) (za_cons (ze_tup za_nil) za_nil rfl) rfl) rfl)
 (zs_cons (zs_if (PW.pt (zt_and (zt_cmp c rfl (ze_name (i := 4) rfl (Or.inl rfl) nd__law_spot nd__law_spotc) ze_int rfl) (pw_and1 (zt_cmp c rfl (ze_name (i := 5) rfl (Or.inl rfl) nd__law_way nd__law_wayc) ze_int rfl))))
 (zs_one (zs_set c (i := 6) rfl (Or.inl rfl) (ze_tup (za_cons (ze_call c ((ok_law_pick h).up (by omega)) (by rfl) (gl__law_pick h) (za_cons (ze_name (i := 0) rfl (Or.inl rfl) nd__law_draw nd__law_drawc) (za_cons (ze_lst (za_cons (ze_sub (ze_name (i := 4) rfl (Or.inl rfl) nd__law_spot nd__law_spotc) ze_int) (za_cons (ze_sub (ze_name (i := 4) rfl (Or.inl rfl) nd__law_spot nd__law_spotc) ze_int) (za_cons (ze_blt (CallR.or (call_max2 rfl) (cr_max rfl)) oMax_ok (by rfl) (fr_max h) bt_max (za_cons ze_int (za_cons (ze_sub (ze_name (i := 4) rfl (Or.inl rfl) nd__law_spot nd__law_spotc) ze_int) za_nil rfl) rfl) (by decide) nd_max rfl rfl) (za_cons (ze_call c ((ok_law_next h).up (by omega)) (by rfl) (gl__law_next h) (za_cons (ze_name (i := 0) rfl (Or.inl rfl) nd__law_draw nd__law_drawc) (za_cons (ze_name (i := 4) rfl (Or.inl rfl) nd__law_spot nd__law_spotc) za_nil rfl) rfl) nd__law_next rfl rfl) za_nil rfl) rfl) rfl) rfl)) za_nil rfl) rfl) nd__law_pick rfl rfl) za_nil rfl)) rfl (Or.inl rfl)))
 zs_nil)
 (zs_cons (zs_if (PW.pt (zt_and (zt_cmp c rfl (ze_name (i := 4) rfl (Or.inl rfl) nd__law_spot nd__law_spotc) ze_int rfl) (pw_and1 (zt_cmp c rfl (ze_name (i := 5) rfl (Or.inl rfl) nd__law_way nd__law_wayc) ze_int rfl))))
 (zs_cons (zs_par c (i := 7) (j := 8) rfl rfl (by decide) rfl rfl (za_cons (ze_call c ((ok_law_next h).up (by omega)) (by rfl) (gl__law_next h) (za_cons (ze_name (i := 0) rfl (Or.inl rfl) nd__law_draw nd__law_drawc) (za_cons (ze_name (i := 4) rfl (Or.inl rfl) nd__law_spot nd__law_spotc) za_nil rfl) rfl) nd__law_next rfl rfl) (za_cons (ze_call c ((ok_law_next h).up (by omega)) (by rfl) (gl__law_next h) (za_cons (ze_name (i := 0) rfl (Or.inl rfl) nd__law_draw nd__law_drawc) (za_cons (ze_sub (ze_name (i := 4) rfl (Or.inl rfl) nd__law_spot nd__law_spotc) ze_int) za_nil rfl) rfl) nd__law_next rfl rfl) za_nil rfl) rfl) rfl)
 (zs_cons (zs_set c (i := 8) rfl (Or.inl rfl) (ze_add c (ze_name (i := 8) rfl (Or.inl rfl) nd__law_second nd__law_secondc) (ze_bty call_int1 oInt1_ok (by rfl) (fr_int h) bt_int (za_cons (ze_cmp c rfl (ze_name (i := 8) rfl (Or.inl rfl) nd__law_second nd__law_secondc) (ze_name (i := 7) rfl (Or.inl rfl) nd__law_first nd__law_firstc) rfl) za_nil rfl) (by decide) nd_int rfl rfl)) rfl (Or.inl rfl))
 (zs_one (zs_set c (i := 6) rfl (Or.inl rfl) (ze_tup (za_cons (ze_blt (CallR.or (call_min2 rfl) (cr_min rfl)) oMin_ok (by rfl) (fr_min h) bt_min (za_cons (ze_name (i := 7) rfl (Or.inl rfl) nd__law_first nd__law_firstc) (za_cons (ze_name (i := 8) rfl (Or.inl rfl) nd__law_second nd__law_secondc) za_nil rfl) rfl) (by decide) nd_min rfl rfl) (za_cons (ze_blt (CallR.or (call_max2 rfl) (cr_max rfl)) oMax_ok (by rfl) (fr_max h) bt_max (za_cons (ze_name (i := 7) rfl (Or.inl rfl) nd__law_first nd__law_firstc) (za_cons (ze_name (i := 8) rfl (Or.inl rfl) nd__law_second nd__law_secondc) za_nil rfl) rfl) (by decide) nd_max rfl rfl) za_nil rfl) rfl)) rfl (Or.inl rfl)))))
 zs_nil)
 (zs_cons (zs_set c (i := 9) rfl (Or.inl rfl) (ze_call c ((ok_law_next h).up (by omega)) (by rfl) (gl__law_next h) (za_cons (ze_name (i := 0) rfl (Or.inl rfl) nd__law_draw nd__law_drawc) (za_cons ze_int za_nil rfl) rfl) nd__law_next rfl rfl) rfl (Or.inl rfl))
 (zs_cons (zs_set c (i := 10) rfl (Or.inl rfl) (ze_if (zt_cmp c rfl (ze_name (i := 9) rfl (Or.inl rfl) nd__law_kind nd__law_kindc) ze_int rfl) ze_non (ze_tup (za_cons (ze_ix c (ze_lst (za_cons ze_str (za_cons ze_str za_nil rfl) rfl)) (ze_bty call_int1 oInt1_ok (by rfl) (fr_int h) bt_int (za_cons (ze_cmp c rfl (ze_name (i := 9) rfl (Or.inl rfl) nd__law_kind nd__law_kindc) ze_int rfl) za_nil rfl) (by decide) nd_int rfl rfl) (fun _ _ => rfl)) (za_cons (ze_call c ((ok_law_pick h).up (by omega)) (by rfl) (gl__law_pick h) (za_cons (ze_name (i := 0) rfl (Or.inl rfl) nd__law_draw nd__law_drawc) (za_cons (ze_name (i := 1) rfl (Or.inl rfl) nd__law_words_here nd__law_words_herec) za_nil rfl) rfl) nd__law_pick rfl rfl) za_nil rfl) rfl))) rfl (Or.inl rfl))
 (zs_one (zs_expr (ze_bm PySem.F.plainAttrs_list PySem.F.slot_list_append PySem.F.type_list_append c mt_append oAppend_ok (ze_name (i := 3) rfl (Or.inl rfl) nd__law_found nd__law_foundc) (za_cons (ze_tup (za_cons (ze_name (i := 6) rfl (Or.inl rfl) nd__law_ups nd__law_upsc) (za_cons (ze_name (i := 10) rfl (Or.inl rfl) nd__law_deed nd__law_deedc) za_nil rfl) rfl)) za_nil rfl) rfl rfl rfl rfl rfl) rfl))))))) (fun _ => rfl))
 (zs_one (zs_ret (ze_name (i := 3) rfl (Or.inl rfl) nd__law_found nd__law_foundc))))))
  exact G1
theorem ok_law_line (h : Hd K mg base) : FnZ (gm K) P w mg base (5 + 1) (d_law_line.at_ K) 3 F_law_line [] := by
  obtain ⟨fd, G, F⟩ := og_law_line h
  exact ⟨⟨fd, ["_law_draw", "_law_words_here", "_law_most"], [], [], G, F.bindsN (ps := ["_law_draw", "_law_words_here", "_law_most"]) fun _ _ _ _ _ _ us hl => match us, hl with | [_, _, _], _ => rfl, .nil, fun _ => IsL.nil⟩, F.kp⟩
def c_law_behind_1 : FE := fLc false (fiAny (fName 2)) (fgName 5) (fYes) (fTup (fACons (fName 5) (fACons (fC (.bl true)) (fANil)))) [5]
def c_law_behind_2 : FE := fLc false (fiAny (fBin oIx (fName 1) (fName 5))) (fgName 6) (fYes) (fTup (fACons (fName 6) (fACons (fC (.bl true)) (fANil)))) [6]
def b_law_behind_3 : FS := fDrop (fBM "dict" oUpdate (fName 4) (fACons (fCB (oDict false) (fACons (c_law_behind_2) (fANil))) (fANil)))
def b_law_behind_4 : FS := fSeq (fSet 4 (fCB (oDict true) (fACons (c_law_behind_1) (fANil))))
 (fSeq (fForS (fiAny (fName 2)) (fgName 5)
 b_law_behind_3)
 (fDrop (fBM "list" oAppend (fName 1) (fACons (fCB (oSorted false) (fACons (fName 4) (fANil))) (fANil)))))
def S_law_behind : FS := fSeq (fSet 1 (fLstL (fANil)))
 (fSeq (fForS (fiAny (fName 0)) (fgTup [2, 3])
 b_law_behind_4)
 (fRet (fName 1)))
def F_law_behind : FF := fBody 7 (S_law_behind)
theorem sc_law_behind : FnScope ["_law_line_here", "_law_found", "_law_ups", "_law_deed", "_law_marks", "_law_up", "_law_spot"] ["_law_line_here"] d_law_behind.scope := ⟨rfl, rfl, rfl, by decide +kernel, rfl, by decide +kernel, by decide +kernel⟩
theorem og_law_behind (h : Hd K mg base) : ∃ fd, FnG P w K mg base (1 + 1) (d_law_behind.at_ K) fd ["_law_line_here"] (spZ (gm K) 1 (F_law_behind)) ∧ FunD K d_law_behind.name d_law_behind.qual d_law_behind.params d_law_behind.body d_law_behind.scope (d_law_behind.dvs K) (d_law_behind.kws K) (d_law_behind.at_ K) fd := by
  obtain ⟨fd, F⟩ := h.cz.a.def_ 29 (d := d_law_behind) rfl
  refine ⟨fd, ?_, F⟩
  have F2 : FunD (gm K).K d_law_behind.name d_law_behind.qual d_law_behind.params d_law_behind.body d_law_behind.scope (d_law_behind.dvs K) (d_law_behind.kws K) (d_law_behind.at_ K) fd := F
  have G0 := fn_ok (P := P) (w := w) (mg := mg) (base := base) (Γ := gm K) (k := 1) (s := S_law_behind) F2 sc_law_behind
  have G1 := G0 (fun W cdv A outer st H E c po => by
    unfold S_law_behind b_law_behind_4 b_law_behind_3 c_law_behind_2 c_law_behind_1
    exact (zs_cons (zs_set c (i := 1) rfl (Or.inl rfl) (ze_lstL za_nil) rfl (Or.inl rfl))
 (zs_cons (zs_for (fgTup_ne _) c po (zi_any c (ze_name (i := 0) rfl (Or.inl rfl) nd__law_line_here nd__law_line_herec)) (zg_tup c (Nms.cons rfl (Or.inl rfl) (Or.inl rfl) (Nms.cons rfl (Or.inl rfl) (Or.inl rfl) Nms.nil)))
 (zs_cons (zs_set c (i := 4) rfl (Or.inl rfl) (ze_bty (call_dictA rfl) oDict_ok (by rfl) (fr_dict h) bt_dict (za_cons (ze_lc (live := false) c (zi_any c (ze_name (i := 2) rfl (Or.inl rfl) nd__law_ups nd__law_upsc)) (blkOk_by (own := [("_law_up", 5)]) rfl) (tg_name (i := 5) (by simp)) (fun s1 H1 C1 l1 q1 => pg_name (Cz.nd (Cz.blk c s1 H1 _ _ q1)) (i := 5) rfl (Or.inl rfl) (Or.inr rfl)) (fun s1 H1 C1 l1 q1 => zts_nil) (fun s1 H1 C1 l1 q1 => (ze_tup (za_cons (ze_name (i := 5) rfl (Or.inl rfl) nd__law_up nd__law_upc) (za_cons ze_bl za_nil rfl) rfl))) (fun _ => rfl)) za_nil rfl) (by decide) nd_dict rfl rfl) rfl (Or.inl rfl))
 (zs_cons (zs_for (fun _ _ _ _ _ _ z => by cases z) c po (zi_any c (ze_name (i := 2) rfl (Or.inl rfl) nd__law_ups nd__law_upsc)) (zg_name (Cz.nd c) (i := 5) rfl (Or.inl rfl) (Or.inl rfl))
 (zs_one (zs_expr (ze_bm PySem.F.plainAttrs_dict PySem.F.slot_dict_update PySem.F.type_dict_update c mt_update oUpdate_ok (ze_name (i := 4) rfl (Or.inl rfl) nd__law_marks nd__law_marksc) (za_cons (ze_bty (call_dictA rfl) oDict_ok (by rfl) (fr_dict h) bt_dict (za_cons (ze_lc (live := false) c (zi_any c (ze_ix c (ze_name (i := 1) rfl (Or.inl rfl) nd__law_found nd__law_foundc) (ze_name (i := 5) rfl (Or.inl rfl) nd__law_up nd__law_upc) (fun _ _ => rfl))) (blkOk_by (own := [("_law_spot", 6)]) rfl) (tg_name (i := 6) (by simp)) (fun s1 H1 C1 l1 q1 => pg_name (Cz.nd (Cz.blk c s1 H1 _ _ q1)) (i := 6) rfl (Or.inl rfl) (Or.inr rfl)) (fun s1 H1 C1 l1 q1 => zts_nil) (fun s1 H1 C1 l1 q1 => (ze_tup (za_cons (ze_name (i := 6) rfl (Or.inl rfl) nd__law_spot nd__law_spotc) (za_cons ze_bl za_nil rfl) rfl))) (fun _ => rfl)) za_nil rfl) (by decide) nd_dict rfl rfl) za_nil rfl) rfl rfl rfl rfl rfl) rfl)) (fun _ => rfl))
 (zs_one (zs_expr (ze_bm PySem.F.plainAttrs_list PySem.F.slot_list_append PySem.F.type_list_append c mt_append oAppend_ok (ze_name (i := 1) rfl (Or.inl rfl) nd__law_found nd__law_foundc) (za_cons (ze_blt (call_srt rfl rfl (Cz.hu c)) oSorted_ok (by rfl) (fr_sorted h) bt_sorted (za_cons (ze_name (i := 4) rfl (Or.inl rfl) nd__law_marks nd__law_marksc) za_nil rfl) (by decide) nd_sorted rfl rfl) za_nil rfl) rfl rfl rfl rfl rfl) rfl)))) (fun _ => rfl))
 (zs_one (zs_ret (ze_name (i := 1) rfl (Or.inl rfl) nd__law_found nd__law_foundc))))))
  exact G1
theorem ok_law_behind (h : Hd K mg base) : FnZ (gm K) P w mg base (1 + 1) (d_law_behind.at_ K) 1 F_law_behind [] := by
  obtain ⟨fd, G, F⟩ := og_law_behind h
  exact ⟨⟨fd, ["_law_line_here"], [], [], G, F.bindsN (ps := ["_law_line_here"]) fun _ _ _ _ _ _ us hl => match us, hl with | [_], _ => rfl, .nil, fun _ => IsL.nil⟩, F.kp⟩
def c_law_last_1 : FE := fLc false (fiAny (fBin oAdd (fBin oIx (fName 1) (fName 2)) (fLst (fACons (fName 2) (fANil))))) (fgName 5) (fAndT (fT (fUn (oIsN true) (fBin oIx (fBin oIx (fName 0) (fName 5)) (fC (.int 1))))) (fT (fBin (oEq false) (fBin oIx (fBin oIx (fBin oIx (fName 0) (fName 5)) (fC (.int 1))) (fC (.int 1))) (fName 3)))) (fName 5) [5]
def c_law_last_2 : FE := fLc false (fiAny (fName 4)) (fgName 6) (fT (fBin (oIn false) (fName 5) (fBin oIx (fName 1) (fName 6)))) (fName 6) [6]
def c_law_last_3 : FE := fLc false (fiAny (fName 4)) (fgName 5) (fT (fBin (oEq false) (c_law_last_2) (fLst (fANil)))) (fName 5) [5]
def S_law_last : FS := fSeq (fSet 4 (c_law_last_1))
 (fRet (c_law_last_3))
def F_law_last : FF := fBody 7 (S_law_last)
theorem sc_law_last : FnScope ["_law_line_here", "_law_behind_here", "_law_spot", "_law_word", "_law_hits", "_law_at", "_law_later"] ["_law_line_here", "_law_behind_here", "_law_spot", "_law_word"] d_law_last.scope := ⟨rfl, rfl, rfl, by decide +kernel, rfl, by decide +kernel, by decide +kernel⟩
theorem og_law_last (h : Hd K mg base) : ∃ fd, FnG P w K mg base (1 + 1) (d_law_last.at_ K) fd ["_law_line_here", "_law_behind_here", "_law_spot", "_law_word"] (spZ (gm K) 4 (F_law_last)) ∧ FunD K d_law_last.name d_law_last.qual d_law_last.params d_law_last.body d_law_last.scope (d_law_last.dvs K) (d_law_last.kws K) (d_law_last.at_ K) fd := by
  obtain ⟨fd, F⟩ := h.cz.a.def_ 30 (d := d_law_last) rfl
  refine ⟨fd, ?_, F⟩
  have F2 : FunD (gm K).K d_law_last.name d_law_last.qual d_law_last.params d_law_last.body d_law_last.scope (d_law_last.dvs K) (d_law_last.kws K) (d_law_last.at_ K) fd := F
  have G0 := fn_ok (P := P) (w := w) (mg := mg) (base := base) (Γ := gm K) (k := 1) (s := S_law_last) F2 sc_law_last
  have G1 := G0 (fun W cdv A outer st H E c po => by
    unfold S_law_last c_law_last_3 c_law_last_2 c_law_last_1
    exact (zs_cons (zs_set c (i := 4) rfl (Or.inr rfl) (ze_lc (live := false) c (zi_any c (ze_add c (ze_ix c (ze_name (i := 1) rfl (Or.inr (Or.inl rfl)) nd__law_behind_here nd__law_behind_herec) (ze_name (i := 2) rfl (Or.inl rfl) nd__law_spot nd__law_spotc) (fun _ _ => rfl)) (ze_lst (za_cons (ze_name (i := 2) rfl (Or.inl rfl) nd__law_spot nd__law_spotc) za_nil rfl)))) (blkOk_by (own := [("_law_at", 5)]) rfl) (tg_name (i := 5) (by simp)) (fun s1 H1 C1 l1 q1 => pg_name (Cz.nd (Cz.blk c s1 H1 _ _ q1)) (i := 5) rfl (Or.inl rfl) (Or.inr rfl)) (fun s1 H1 C1 l1 q1 => zts_one (PW.pt (zt_and (zt_notN (ze_ix (Cz.blk c s1 H1 _ _ q1) (ze_ix (Cz.blk c s1 H1 _ _ q1) (ze_name (i := 0) rfl (Or.inr (Or.inl rfl)) nd__law_line_here nd__law_line_herec) (ze_name (i := 5) rfl (Or.inl rfl) nd__law_at nd__law_atc) (fun _ _ => rfl)) ze_int (fun _ _ => rfl))) (pw_and1 (zt_cmp (Cz.blk c s1 H1 _ _ q1) rfl (ze_ix (Cz.blk c s1 H1 _ _ q1) (ze_ix (Cz.blk c s1 H1 _ _ q1) (ze_ix (Cz.blk c s1 H1 _ _ q1) (ze_name (i := 0) rfl (Or.inr (Or.inl rfl)) nd__law_line_here nd__law_line_herec) (ze_name (i := 5) rfl (Or.inl rfl) nd__law_at nd__law_atc) (fun _ _ => rfl)) ze_int (fun _ _ => rfl)) ze_int (fun _ _ => rfl)) (ze_name (i := 3) rfl (Or.inr (Or.inl rfl)) nd__law_word nd__law_wordc) rfl))))) (fun s1 H1 C1 l1 q1 => (ze_name (i := 5) rfl (Or.inl rfl) nd__law_at nd__law_atc)) (fun _ => rfl)) rfl (Or.inl rfl))
 (zs_one (zs_ret (ze_lc (live := false) c (zi_any c (ze_name (i := 4) rfl (Or.inr (Or.inl rfl)) nd__law_hits nd__law_hitsc)) (blkOk_by (own := [("_law_at", 5)]) rfl) (tg_name (i := 5) (by simp)) (fun s1 H1 C1 l1 q1 => pg_name (Cz.nd (Cz.blk c s1 H1 _ _ q1)) (i := 5) rfl (Or.inr rfl) (Or.inl rfl)) (fun s1 H1 C1 l1 q1 => zts_one (zt_cmp (Cz.blk c s1 H1 _ _ q1) rfl (ze_lc (live := false) (Cz.blk c s1 H1 _ _ q1) (zi_any (Cz.blk c s1 H1 _ _ q1) (ze_name (i := 4) rfl (Or.inr (Or.inl rfl)) nd__law_hits nd__law_hitsc)) (blkOk_by (own := [("_law_later", 6)]) rfl) (tg_name (i := 6) (by simp)) (fun s2 H2 C2 l2 q2 => pg_name (Cz.nd (Cz.blk (Cz.blk c s1 H1 _ _ q1) s2 H2 _ _ q2)) (i := 6) rfl (Or.inl rfl) (Or.inr rfl)) (fun s2 H2 C2 l2 q2 => zts_one (zt_cmp (Cz.blk (Cz.blk c s1 H1 _ _ q1) s2 H2 _ _ q2) rfl (ze_name (i := 5) rfl (Or.inr (Or.inl rfl)) nd__law_at nd__law_atc) (ze_ix (Cz.blk (Cz.blk c s1 H1 _ _ q1) s2 H2 _ _ q2) (ze_name (i := 1) rfl (Or.inr (Or.inl rfl)) nd__law_behind_here nd__law_behind_herec) (ze_name (i := 6) rfl (Or.inl rfl) nd__law_later nd__law_laterc) (fun _ _ => rfl)) rfl)) (fun s2 H2 C2 l2 q2 => (ze_name (i := 6) rfl (Or.inl rfl) nd__law_later nd__law_laterc)) (fun _ => rfl)) (ze_lst za_nil) rfl)) (fun s1 H1 C1 l1 q1 => (ze_name (i := 5) rfl (Or.inr (Or.inl rfl)) nd__law_at nd__law_atc)) (fun _ => rfl))))))
  exact G1
theorem ok_law_last (h : Hd K mg base) : FnZ (gm K) P w mg base (1 + 1) (d_law_last.at_ K) 4 F_law_last [] := by
  obtain ⟨fd, G, F⟩ := og_law_last h
  exact ⟨⟨fd, ["_law_line_here", "_law_behind_here", "_law_spot", "_law_word"], [], [], G, F.bindsN (ps := ["_law_line_here", "_law_behind_here", "_law_spot", "_law_word"]) fun _ _ _ _ _ _ us hl => match us, hl with | [_, _, _, _], _ => rfl, .nil, fun _ => IsL.nil⟩, F.kp⟩
def c_law_named_1 : FE := fLc false (fiAny (fName 0)) (fgTup [1, 2]) (fT (fUn (oIsN true) (fName 2))) (fTup (fACons (fBin oIx (fName 2) (fC (.int 1))) (fACons (fC (.bl true)) (fANil)))) [1, 2]
def S_law_named : FS := fRet (fCB (oSorted false) (fACons (fCB (oDict false) (fACons (c_law_named_1) (fANil))) (fANil)))
def F_law_named : FF := fBody 3 (S_law_named)
theorem sc_law_named : FnScope ["_law_line_here", "_law_ups", "_law_deed"] ["_law_line_here"] d_law_named.scope := ⟨rfl, rfl, rfl, by decide +kernel, rfl, by decide +kernel, by decide +kernel⟩
theorem og_law_named (h : Hd K mg base) : ∃ fd, FnG P w K mg base (1 + 1) (d_law_named.at_ K) fd ["_law_line_here"] (spZ (gm K) 1 (F_law_named)) ∧ FunD K d_law_named.name d_law_named.qual d_law_named.params d_law_named.body d_law_named.scope (d_law_named.dvs K) (d_law_named.kws K) (d_law_named.at_ K) fd := by
  obtain ⟨fd, F⟩ := h.cz.a.def_ 31 (d := d_law_named) rfl
  refine ⟨fd, ?_, F⟩
  have F2 : FunD (gm K).K d_law_named.name d_law_named.qual d_law_named.params d_law_named.body d_law_named.scope (d_law_named.dvs K) (d_law_named.kws K) (d_law_named.at_ K) fd := F
  have G0 := fn_ok (P := P) (w := w) (mg := mg) (base := base) (Γ := gm K) (k := 1) (s := S_law_named) F2 sc_law_named
  have G1 := G0 (fun W cdv A outer st H E c po => by
    unfold S_law_named c_law_named_1
    exact (zs_one (zs_ret (ze_blt (call_srt rfl rfl (Cz.hu c)) oSorted_ok (by rfl) (fr_sorted h) bt_sorted (za_cons (ze_bty (call_dictA rfl) oDict_ok (by rfl) (fr_dict h) bt_dict (za_cons (ze_lc (live := false) c (zi_any c (ze_name (i := 0) rfl (Or.inl rfl) nd__law_line_here nd__law_line_herec)) (blkOk_by (own := [("_law_ups", 1), ("_law_deed", 2)]) rfl) (tg_tup (is := [1, 2]) (by simp)) (fun s1 H1 C1 l1 q1 => pg_tupN (Cz.blk c s1 H1 _ _ q1) (Nms.cons rfl (Or.inl rfl) (Or.inr rfl) (Nms.cons rfl (Or.inl rfl) (Or.inr rfl) Nms.nil))) (fun s1 H1 C1 l1 q1 => zts_one (zt_notN (ze_name (i := 2) rfl (Or.inl rfl) nd__law_deed nd__law_deedc))) (fun s1 H1 C1 l1 q1 => (ze_tup (za_cons (ze_ix (Cz.blk c s1 H1 _ _ q1) (ze_name (i := 2) rfl (Or.inl rfl) nd__law_deed nd__law_deedc) ze_int (fun _ _ => rfl)) (za_cons ze_bl za_nil rfl) rfl))) (fun _ => rfl)) za_nil rfl) (by decide) nd_dict rfl rfl) za_nil rfl) (by decide) nd_sorted rfl rfl))))
  exact G1
theorem ok_law_named (h : Hd K mg base) : FnZ (gm K) P w mg base (1 + 1) (d_law_named.at_ K) 1 F_law_named [] := by
  obtain ⟨fd, G, F⟩ := og_law_named h
  exact ⟨⟨fd, ["_law_line_here"], [], [], G, F.bindsN (ps := ["_law_line_here"]) fun _ _ _ _ _ _ us hl => match us, hl with | [_], _ => rfl, .nil, fun _ => IsL.nil⟩, F.kp⟩
def c_law_packs_1 : FE := fLc false (fiAny (fCall 4 F_law_last [] (fACons (fName 0) (fACons (fName 1) (fACons (fName 4) (fACons (fName 6) (fANil))))))) (fgName 7) (fT (fBin (oEq false) (fBin oIx (fBin oIx (fBin oIx (fName 0) (fName 7)) (fC (.int 1))) (fC (.int 0))) (fC (.str "apply")))) (fName 7) [7]
def i_law_packs_2 : FS := fIfS (fT (fBin (oEq true) (c_law_packs_1) (fLst (fANil))))
 (fDrop (fBM "list" oAppend (fName 5) (fACons (fName 6) (fANil))))
 (fNext)
def b_law_packs_3 : FS := i_law_packs_2
def b_law_packs_4 : FS := fSeq (fSet 5 (fLstL (fANil)))
 (fSeq (fForS (fiAny (fName 2)) (fgName 6)
 b_law_packs_3)
 (fDrop (fBM "list" oAppend (fName 3) (fACons (fCB oTuple (fACons (fName 5) (fANil))) (fANil)))))
def S_law_packs : FS := fSeq (fPar3 1 2 3 (fACons (fCall 1 F_law_behind [] (fACons (fName 0) (fANil))) (fACons (fCall 1 F_law_named [] (fACons (fName 0) (fANil))) (fACons (fLstL (fANil)) (fANil)))))
 (fSeq (fForS (fiRng1 (fACons (fCB oLen (fACons (fName 0) (fANil))) (fANil))) (fgName 4)
 b_law_packs_4)
 (fRet (fName 3)))
def F_law_packs : FF := fBody 8 (S_law_packs)
theorem sc_law_packs : FnScope ["_law_line_here", "_law_behind_here", "_law_words_here", "_law_found", "_law_spot", "_law_pack", "_law_word", "_law_at"] ["_law_line_here"] d_law_packs.scope := ⟨rfl, rfl, rfl, by decide +kernel, rfl, by decide +kernel, by decide +kernel⟩
theorem og_law_packs (h : Hd K mg base) : ∃ fd, FnG P w K mg base (3 + 1) (d_law_packs.at_ K) fd ["_law_line_here"] (spZ (gm K) 1 (F_law_packs)) ∧ FunD K d_law_packs.name d_law_packs.qual d_law_packs.params d_law_packs.body d_law_packs.scope (d_law_packs.dvs K) (d_law_packs.kws K) (d_law_packs.at_ K) fd := by
  obtain ⟨fd, F⟩ := h.cz.a.def_ 32 (d := d_law_packs) rfl
  refine ⟨fd, ?_, F⟩
  have F2 : FunD (gm K).K d_law_packs.name d_law_packs.qual d_law_packs.params d_law_packs.body d_law_packs.scope (d_law_packs.dvs K) (d_law_packs.kws K) (d_law_packs.at_ K) fd := F
  have G0 := fn_ok (P := P) (w := w) (mg := mg) (base := base) (Γ := gm K) (k := 3) (s := S_law_packs) F2 sc_law_packs
  have G1 := G0 (fun W cdv A outer st H E c po => by
    unfold S_law_packs b_law_packs_4 b_law_packs_3 i_law_packs_2 c_law_packs_1
    exact (zs_cons (zs_par3 c (i := 1) (j := 2) (l := 3) rfl rfl rfl (by decide) (by decide) (by decide) rfl rfl rfl (za_cons (ze_call c ((ok_law_behind h).up (by omega)) (by rfl) (gl__law_behind h) (za_cons (ze_name (i := 0) rfl (Or.inr (Or.inl rfl)) nd__law_line_here nd__law_line_herec) za_nil rfl) nd__law_behind rfl rfl) (za_cons (ze_call c ((ok_law_named h).up (by omega)) (by rfl) (gl__law_named h) (za_cons (ze_name (i := 0) rfl (Or.inr (Or.inl rfl)) nd__law_line_here nd__law_line_herec) za_nil rfl) nd__law_named rfl rfl) (za_cons (ze_lstL za_nil) za_nil rfl) rfl) rfl) rfl rfl)
 (zs_cons (zs_for (fun _ _ _ _ _ _ z => by cases z) c po (zi_rng1 (by rfl) (fr_range h) (za_cons (ze_blt call_lenA oLen_ok (by rfl) (fr_len h) bt_len (za_cons (ze_name (i := 0) rfl (Or.inr (Or.inl rfl)) nd__law_line_here nd__law_line_herec) za_nil rfl) (by decide) nd_len rfl rfl) za_nil rfl) rfl) (zg_name (Cz.nd c) (i := 4) rfl (Or.inl rfl) (Or.inl rfl))
 (zs_cons (zs_set c (i := 5) rfl (Or.inl rfl) (ze_lstL za_nil) rfl (Or.inl rfl))
 (zs_cons (zs_for (fun _ _ _ _ _ _ z => by cases z) c po (zi_any c (ze_name (i := 2) rfl (Or.inl rfl) nd__law_words_here nd__law_words_herec)) (zg_name (Cz.nd c) (i := 6) rfl (Or.inl rfl) (Or.inl rfl))
 (zs_one (zs_if (zt_cmp c rfl (ze_lc (live := false) c (zi_any c (ze_call c ((ok_law_last h).up (by omega)) (by rfl) (gl__law_last h) (za_cons (ze_name (i := 0) rfl (Or.inr (Or.inl rfl)) nd__law_line_here nd__law_line_herec) (za_cons (ze_name (i := 1) rfl (Or.inl rfl) nd__law_behind_here nd__law_behind_herec) (za_cons (ze_name (i := 4) rfl (Or.inl rfl) nd__law_spot nd__law_spotc) (za_cons (ze_name (i := 6) rfl (Or.inl rfl) nd__law_word nd__law_wordc) za_nil rfl) rfl) rfl) rfl) nd__law_last rfl rfl)) (blkOk_by (own := [("_law_at", 7)]) rfl) (tg_name (i := 7) (by simp)) (fun s1 H1 C1 l1 q1 => pg_name (Cz.nd (Cz.blk c s1 H1 _ _ q1)) (i := 7) rfl (Or.inl rfl) (Or.inr rfl)) (fun s1 H1 C1 l1 q1 => zts_one (zt_cmp (Cz.blk c s1 H1 _ _ q1) rfl (ze_ix (Cz.blk c s1 H1 _ _ q1) (ze_ix (Cz.blk c s1 H1 _ _ q1) (ze_ix (Cz.blk c s1 H1 _ _ q1) (ze_name (i := 0) rfl (Or.inr (Or.inl rfl)) nd__law_line_here nd__law_line_herec) (ze_name (i := 7) rfl (Or.inl rfl) nd__law_at nd__law_atc) (fun _ _ => rfl)) ze_int (fun _ _ => rfl)) ze_int (fun _ _ => rfl)) ze_str rfl)) (fun s1 H1 C1 l1 q1 => (ze_name (i := 7) rfl (Or.inl rfl) nd__law_at nd__law_atc)) (fun _ => rfl)) (ze_lst za_nil) rfl)
 (zs_one (zs_expr (ze_bm PySem.F.plainAttrs_list PySem.F.slot_list_append PySem.F.type_list_append c mt_append oAppend_ok (ze_name (i := 5) rfl (Or.inl rfl) nd__law_pack nd__law_packc) (za_cons (ze_name (i := 6) rfl (Or.inl rfl) nd__law_word nd__law_wordc) za_nil rfl) rfl rfl rfl rfl rfl) rfl))
 zs_nil)) (fun _ => rfl))
 (zs_one (zs_expr (ze_bm PySem.F.plainAttrs_list PySem.F.slot_list_append PySem.F.type_list_append c mt_append oAppend_ok (ze_name (i := 3) rfl (Or.inl rfl) nd__law_found nd__law_foundc) (za_cons (ze_bty call_tuple_of oTuple_ok (by rfl) (fr_tuple h) bt_tuple (za_cons (ze_name (i := 5) rfl (Or.inl rfl) nd__law_pack nd__law_packc) za_nil rfl) (by decide) nd_tuple rfl rfl) za_nil rfl) rfl rfl rfl rfl rfl) rfl)))) (fun _ => rfl))
 (zs_one (zs_ret (ze_name (i := 3) rfl (Or.inl rfl) nd__law_found nd__law_foundc))))))
  exact G1
theorem ok_law_packs (h : Hd K mg base) : FnZ (gm K) P w mg base (3 + 1) (d_law_packs.at_ K) 1 F_law_packs [] := by
  obtain ⟨fd, G, F⟩ := og_law_packs h
  exact ⟨⟨fd, ["_law_line_here"], [], [], G, F.bindsN (ps := ["_law_line_here"]) fun _ _ _ _ _ _ us hl => match us, hl with | [_], _ => rfl, .nil, fun _ => IsL.nil⟩, F.kp⟩
def S_law_story : FS := fSeq (fSet 3 (fCall 2 F_law_words [] (fACons (fName 0) (fACons (fBin oAdd (fC (.int 1)) (fCall 2 F_law_next [] (fACons (fName 0) (fACons (fName 1) (fANil))))) (fANil)))))
 (fRet (fTup (fACons (fName 3) (fACons (fCall 3 F_law_line [] (fACons (fName 0) (fACons (fName 3) (fACons (fName 2) (fANil))))) (fANil)))))
def F_law_story : FF := fBody 4 (S_law_story)
theorem sc_law_story : FnScope ["_law_draw", "_law_many", "_law_most", "_law_words_here"] ["_law_draw", "_law_many", "_law_most"] d_law_story.scope := ⟨rfl, rfl, rfl, by decide +kernel, rfl, by decide +kernel, by decide +kernel⟩
theorem og_law_story (h : Hd K mg base) : ∃ fd, FnG P w K mg base (7 + 1) (d_law_story.at_ K) fd ["_law_draw", "_law_many", "_law_most"] (spZ (gm K) 3 (F_law_story)) ∧ FunD K d_law_story.name d_law_story.qual d_law_story.params d_law_story.body d_law_story.scope (d_law_story.dvs K) (d_law_story.kws K) (d_law_story.at_ K) fd := by
  obtain ⟨fd, F⟩ := h.cz.a.def_ 33 (d := d_law_story) rfl
  refine ⟨fd, ?_, F⟩
  have F2 : FunD (gm K).K d_law_story.name d_law_story.qual d_law_story.params d_law_story.body d_law_story.scope (d_law_story.dvs K) (d_law_story.kws K) (d_law_story.at_ K) fd := F
  have G0 := fn_ok (P := P) (w := w) (mg := mg) (base := base) (Γ := gm K) (k := 7) (s := S_law_story) F2 sc_law_story
  have G1 := G0 (fun W cdv A outer st H E c po => by
    unfold S_law_story
    exact (zs_cons (zs_set c (i := 3) rfl (Or.inl rfl) (ze_call c ((ok_law_words h).up (by omega)) (by rfl) (gl__law_words h) (za_cons (ze_name (i := 0) rfl (Or.inl rfl) nd__law_draw nd__law_drawc) (za_cons (ze_add c ze_int (ze_call c ((ok_law_next h).up (by omega)) (by rfl) (gl__law_next h) (za_cons (ze_name (i := 0) rfl (Or.inl rfl) nd__law_draw nd__law_drawc) (za_cons (ze_name (i := 1) rfl (Or.inl rfl) nd__law_many nd__law_manyc) za_nil rfl) rfl) nd__law_next rfl rfl)) za_nil rfl) rfl) nd__law_words rfl rfl) rfl (Or.inl rfl))
 (zs_one (zs_ret (ze_tup (za_cons (ze_name (i := 3) rfl (Or.inl rfl) nd__law_words_here nd__law_words_herec) (za_cons (ze_call c ((ok_law_line h).up (by omega)) (by rfl) (gl__law_line h) (za_cons (ze_name (i := 0) rfl (Or.inl rfl) nd__law_draw nd__law_drawc) (za_cons (ze_name (i := 3) rfl (Or.inl rfl) nd__law_words_here nd__law_words_herec) (za_cons (ze_name (i := 2) rfl (Or.inl rfl) nd__law_most nd__law_mostc) za_nil rfl) rfl) rfl) nd__law_line rfl rfl) za_nil rfl) rfl))))))
  exact G1
theorem ok_law_story (h : Hd K mg base) : FnZ (gm K) P w mg base (7 + 1) (d_law_story.at_ K) 3 F_law_story [] := by
  obtain ⟨fd, G, F⟩ := og_law_story h
  exact ⟨⟨fd, ["_law_draw", "_law_many", "_law_most"], [], [], G, F.bindsN (ps := ["_law_draw", "_law_many", "_law_most"]) fun _ _ _ _ _ _ us hl => match us, hl with | [_, _, _], _ => rfl, .nil, fun _ => IsL.nil⟩, F.kp⟩
def c_law_held_1 : FE := fLc false (fiAny (fName 1)) (fgName 3) (fT (fBin (oEq true) (fName 3) (fTup (fANil)))) (fName 3) [3]
def i_law_held_2 : FS := fIfS (fT (fBin (oEq false) (fName 2) (fLst (fANil))))
 (fRet (fLst (fANil)))
 (fNext)
def S_law_held : FS := fSeq (fSet 2 c_law_held_1)
 (fSeq (i_law_held_2)
 (fSeq (fSet 3 (fCall 2 F_law_pick [] (fACons (fName 0) (fACons (fBin oAdd (fName 2) (fSl (fSortLen (fName 2)) (some (fUn oNeg (fC (.int 2)))) none)) (fANil)))))
 (fSeq (fSet 4 (fCall 2 F_law_shuffled [] (fACons (fName 0) (fACons (fName 3) (fANil)))))
 (fRet (fIf (fT (fBin (oEq false) (fCall 2 F_law_next [] (fACons (fName 0) (fACons (fC (.int 2)) (fANil)))) (fC (.int 0)))) (fName 4) (fSl (fName 4) none (some (fBin oAdd (fC (.int 1)) (fCall 2 F_law_next [] (fACons (fName 0) (fACons (fCB oLen (fACons (fName 4) (fANil))) (fANil))))))))))))
def F_law_held : FF := fBody 5 (S_law_held)
theorem sc_law_held : FnScope ["_law_draw", "_law_packs_here", "_law_full", "_law_pack", "_law_left"] ["_law_draw", "_law_packs_here"] d_law_held.scope := ⟨rfl, rfl, rfl, by decide +kernel, rfl, by decide +kernel, by decide +kernel⟩
theorem og_law_held (h : Hd K mg base) : ∃ fd, FnG P w K mg base (5 + 1) (d_law_held.at_ K) fd ["_law_draw", "_law_packs_here"] (spZ (gm K) 2 (F_law_held)) ∧ FunD K d_law_held.name d_law_held.qual d_law_held.params d_law_held.body d_law_held.scope (d_law_held.dvs K) (d_law_held.kws K) (d_law_held.at_ K) fd := by
  obtain ⟨fd, F⟩ := h.cz.a.def_ 34 (d := d_law_held) rfl
  refine ⟨fd, ?_, F⟩
  have F2 : FunD (gm K).K d_law_held.name d_law_held.qual d_law_held.params d_law_held.body d_law_held.scope (d_law_held.dvs K) (d_law_held.kws K) (d_law_held.at_ K) fd := F
  have G0 := fn_ok (P := P) (w := w) (mg := mg) (base := base) (Γ := gm K) (k := 5) (s := S_law_held) F2 sc_law_held
  have G1 := G0 (fun W cdv A outer st H E c po => by
    unfold S_law_held i_law_held_2 c_law_held_1
    exact (zs_cons (zs_setLc (live := false) c (i := 2) rfl rfl (sw_true rfl rfl rfl rfl) (zi_any c (ze_name (i := 1) rfl (Or.inl rfl) nd__law_packs_here nd__law_packs_herec)) (blkOk_by (own := [("_law_pack", 3)]) rfl) (tg_name (i := 3) (by simp)) (fun s1 H1 C1 l1 q1 => pg_name (Cz.nd (Cz.blk c s1 H1 _ _ q1)) (i := 3) rfl (Or.inl rfl) (Or.inr rfl)) (fun s1 H1 C1 l1 q1 => zts_one (zt_cmp (Cz.blk c s1 H1 _ _ q1) rfl (ze_name (i := 3) rfl (Or.inl rfl) nd__law_pack nd__law_packc) (ze_tup za_nil) rfl)) (fun s1 H1 C1 l1 q1 => (ze_name (i := 3) rfl (Or.inl rfl) nd__law_pack nd__law_packc)) (fun _ => rfl))
 (zs_cons (zs_if (zt_cmp c rfl (ze_name (i := 2) rfl (Or.inl rfl) nd__law_full nd__law_fullc) (ze_lst za_nil) rfl)
 (zs_one (zs_ret (ze_lst za_nil)))
 zs_nil)
 (zs_cons (zs_set c (i := 3) rfl (Or.inl rfl) (ze_call c ((ok_law_pick h).up (by omega)) (by rfl) (gl__law_pick h) (za_cons (ze_name (i := 0) rfl (Or.inl rfl) nd__law_draw nd__law_drawc) (za_cons (ze_add c (ze_name (i := 2) rfl (Or.inl rfl) nd__law_full nd__law_fullc) (ze_sl c (ze_sortLen c (by rfl) (fr_sorted h) (by rfl) (fr_len h) (ze_name (i := 2) rfl (Or.inl rfl) nd__law_full nd__law_fullc) rfl rfl rfl) (zo_some (ze_neg ze_int)) zo_none)) za_nil rfl) rfl) nd__law_pick rfl rfl) rfl (Or.inl rfl))
 (zs_cons (zs_set c (i := 4) rfl (Or.inl rfl) (ze_call c ((ok_law_shuffled h).up (by omega)) (by rfl) (gl__law_shuffled h) (za_cons (ze_name (i := 0) rfl (Or.inl rfl) nd__law_draw nd__law_drawc) (za_cons (ze_name (i := 3) rfl (Or.inl rfl) nd__law_pack nd__law_packc) za_nil rfl) rfl) nd__law_shuffled rfl rfl) rfl (Or.inl rfl))
 (zs_one (zs_ret (ze_if (zt_cmp c rfl (ze_call c ((ok_law_next h).up (by omega)) (by rfl) (gl__law_next h) (za_cons (ze_name (i := 0) rfl (Or.inl rfl) nd__law_draw nd__law_drawc) (za_cons ze_int za_nil rfl) rfl) nd__law_next rfl rfl) ze_int rfl) (ze_name (i := 4) rfl (Or.inl rfl) nd__law_left nd__law_leftc) (ze_sl c (ze_name (i := 4) rfl (Or.inl rfl) nd__law_left nd__law_leftc) zo_none (zo_some (ze_add c ze_int (ze_call c ((ok_law_next h).up (by omega)) (by rfl) (gl__law_next h) (za_cons (ze_name (i := 0) rfl (Or.inl rfl) nd__law_draw nd__law_drawc) (za_cons (ze_blt call_lenA oLen_ok (by rfl) (fr_len h) bt_len (za_cons (ze_name (i := 4) rfl (Or.inl rfl) nd__law_left nd__law_leftc) za_nil rfl) (by decide) nd_len rfl rfl) za_nil rfl) rfl) nd__law_next rfl rfl))))))))))))
  exact G1
theorem ok_law_held (h : Hd K mg base) : FnZ (gm K) P w mg base (5 + 1) (d_law_held.at_ K) 2 F_law_held [] := by
  obtain ⟨fd, G, F⟩ := og_law_held h
  exact ⟨⟨fd, ["_law_draw", "_law_packs_here"], [], [], G, F.bindsN (ps := ["_law_draw", "_law_packs_here"]) fun _ _ _ _ _ _ us hl => match us, hl with | [_, _], _ => rfl, .nil, fun _ => IsL.nil⟩, F.kp⟩
def c_law_cut_1 : FE := fLc false (fiAny (fName 1)) (fgName 2) (fT (fBin (oIn true) (fName 2) (fName 0))) (fName 2) [2]
def c_law_cut_2 : FE := fLc false (fiAny (fName 1)) (fgName 2) (fT (fBin (oIn false) (fName 2) (fName 0))) (fName 2) [2]
def S_law_cut : FS := fRet (fTup (fACons (fCB oTuple (fACons (c_law_cut_2) (fANil))) (fACons (fCB oTuple (fACons (c_law_cut_1) (fANil))) (fANil))))
def F_law_cut : FF := fBody 3 (S_law_cut)
theorem sc_law_cut : FnScope ["_law_pack", "_law_held_here", "_law_word"] ["_law_pack", "_law_held_here"] d_law_cut.scope := ⟨rfl, rfl, rfl, by decide +kernel, rfl, by decide +kernel, by decide +kernel⟩
theorem og_law_cut (h : Hd K mg base) : ∃ fd, FnG P w K mg base (1 + 1) (d_law_cut.at_ K) fd ["_law_pack", "_law_held_here"] (spZ (gm K) 2 (F_law_cut)) ∧ FunD K d_law_cut.name d_law_cut.qual d_law_cut.params d_law_cut.body d_law_cut.scope (d_law_cut.dvs K) (d_law_cut.kws K) (d_law_cut.at_ K) fd := by
  obtain ⟨fd, F⟩ := h.cz.a.def_ 35 (d := d_law_cut) rfl
  refine ⟨fd, ?_, F⟩
  have F2 : FunD (gm K).K d_law_cut.name d_law_cut.qual d_law_cut.params d_law_cut.body d_law_cut.scope (d_law_cut.dvs K) (d_law_cut.kws K) (d_law_cut.at_ K) fd := F
  have G0 := fn_ok (P := P) (w := w) (mg := mg) (base := base) (Γ := gm K) (k := 1) (s := S_law_cut) F2 sc_law_cut
  have G1 := G0 (fun W cdv A outer st H E c po => by
    unfold S_law_cut c_law_cut_2 c_law_cut_1
    exact (zs_one (zs_ret (ze_tup (za_cons (ze_bty call_tuple_of oTuple_ok (by rfl) (fr_tuple h) bt_tuple (za_cons (ze_lc (live := false) c (zi_any c (ze_name (i := 1) rfl (Or.inl rfl) nd__law_held_here nd__law_held_herec)) (blkOk_by (own := [("_law_word", 2)]) rfl) (tg_name (i := 2) (by simp)) (fun s1 H1 C1 l1 q1 => pg_name (Cz.nd (Cz.blk c s1 H1 _ _ q1)) (i := 2) rfl (Or.inl rfl) (Or.inr rfl)) (fun s1 H1 C1 l1 q1 => zts_one (zt_cmp (Cz.blk c s1 H1 _ _ q1) rfl (ze_name (i := 2) rfl (Or.inl rfl) nd__law_word nd__law_wordc) (ze_name (i := 0) rfl (Or.inr (Or.inl rfl)) nd__law_pack nd__law_packc) rfl)) (fun s1 H1 C1 l1 q1 => (ze_name (i := 2) rfl (Or.inl rfl) nd__law_word nd__law_wordc)) (fun _ => rfl)) za_nil rfl) (by decide) nd_tuple rfl rfl) (za_cons (ze_bty call_tuple_of oTuple_ok (by rfl) (fr_tuple h) bt_tuple (za_cons (ze_lc (live := false) c (zi_any c (ze_name (i := 1) rfl (Or.inl rfl) nd__law_held_here nd__law_held_herec)) (blkOk_by (own := [("_law_word", 2)]) rfl) (tg_name (i := 2) (by simp)) (fun s1 H1 C1 l1 q1 => pg_name (Cz.nd (Cz.blk c s1 H1 _ _ q1)) (i := 2) rfl (Or.inl rfl) (Or.inr rfl)) (fun s1 H1 C1 l1 q1 => zts_one (zt_cmp (Cz.blk c s1 H1 _ _ q1) rfl (ze_name (i := 2) rfl (Or.inl rfl) nd__law_word nd__law_wordc) (ze_name (i := 0) rfl (Or.inr (Or.inl rfl)) nd__law_pack nd__law_packc) rfl)) (fun s1 H1 C1 l1 q1 => (ze_name (i := 2) rfl (Or.inl rfl) nd__law_word nd__law_wordc)) (fun _ => rfl)) za_nil rfl) (by decide) nd_tuple rfl rfl) za_nil rfl) rfl)))))
  exact G1
theorem ok_law_cut (h : Hd K mg base) : FnZ (gm K) P w mg base (1 + 1) (d_law_cut.at_ K) 2 F_law_cut [] := by
  obtain ⟨fd, G, F⟩ := og_law_cut h
  exact ⟨⟨fd, ["_law_pack", "_law_held_here"], [], [], G, F.bindsN (ps := ["_law_pack", "_law_held_here"]) fun _ _ _ _ _ _ us hl => match us, hl with | [_, _], _ => rfl, .nil, fun _ => IsL.nil⟩, F.kp⟩
def c_law_greater_1 : FE := fLc false (fiAny (fCall 2 F_law_cut [] (fACons (fName 0) (fACons (fName 1) (fANil))))) (fgName 2) (fYes) (fCB oLen (fACons (fName 2) (fANil))) [2]
def S_law_greater : FS := fRet (fCB oMax (fACons (c_law_greater_1) (fANil)))
def F_law_greater : FF := fBody 3 (S_law_greater)
theorem sc_law_greater : FnScope ["_law_pack", "_law_held_here", "_law_part"] ["_law_pack", "_law_held_here"] d_law_greater.scope := ⟨rfl, rfl, rfl, by decide +kernel, rfl, by decide +kernel, by decide +kernel⟩
theorem og_law_greater (h : Hd K mg base) : ∃ fd, FnG P w K mg base (3 + 1) (d_law_greater.at_ K) fd ["_law_pack", "_law_held_here"] (spZ (gm K) 2 (F_law_greater)) ∧ FunD K d_law_greater.name d_law_greater.qual d_law_greater.params d_law_greater.body d_law_greater.scope (d_law_greater.dvs K) (d_law_greater.kws K) (d_law_greater.at_ K) fd := by
  obtain ⟨fd, F⟩ := h.cz.a.def_ 36 (d := d_law_greater) rfl
  refine ⟨fd, ?_, F⟩
  have F2 : FunD (gm K).K d_law_greater.name d_law_greater.qual d_law_greater.params d_law_greater.body d_law_greater.scope (d_law_greater.dvs K) (d_law_greater.kws K) (d_law_greater.at_ K) fd := F
  have G0 := fn_ok (P := P) (w := w) (mg := mg) (base := base) (Γ := gm K) (k := 3) (s := S_law_greater) F2 sc_law_greater
  have G1 := G0 (fun W cdv A outer st H E c po => by
    unfold S_law_greater c_law_greater_1
    exact (zs_one (zs_ret (ze_blt (CallR.or (call_max2 rfl) (cr_max rfl)) oMax_ok (by rfl) (fr_max h) bt_max (za_cons (ze_lc (live := false) c (zi_any c (ze_call c ((ok_law_cut h).up (by omega)) (by rfl) (gl__law_cut h) (za_cons (ze_name (i := 0) rfl (Or.inl rfl) nd__law_pack nd__law_packc) (za_cons (ze_name (i := 1) rfl (Or.inl rfl) nd__law_held_here nd__law_held_herec) za_nil rfl) rfl) nd__law_cut rfl rfl)) (blkOk_by (own := [("_law_part", 2)]) rfl) (tg_name (i := 2) (by simp)) (fun s1 H1 C1 l1 q1 => pg_name (Cz.nd (Cz.blk c s1 H1 _ _ q1)) (i := 2) rfl (Or.inl rfl) (Or.inr rfl)) (fun s1 H1 C1 l1 q1 => zts_nil) (fun s1 H1 C1 l1 q1 => (ze_blt call_lenA oLen_ok (by rfl) (fr_len h) bt_len (za_cons (ze_name (i := 2) rfl (Or.inl rfl) nd__law_part nd__law_partc) za_nil rfl) (by decide) nd_len rfl rfl)) (fun _ => rfl)) za_nil rfl) (by decide) nd_max rfl rfl))))
  exact G1
theorem ok_law_greater (h : Hd K mg base) : FnZ (gm K) P w mg base (3 + 1) (d_law_greater.at_ K) 2 F_law_greater [] := by
  obtain ⟨fd, G, F⟩ := og_law_greater h
  exact ⟨⟨fd, ["_law_pack", "_law_held_here"], [], [], G, F.bindsN (ps := ["_law_pack", "_law_held_here"]) fun _ _ _ _ _ _ us hl => match us, hl with | [_, _], _ => rfl, .nil, fun _ => IsL.nil⟩, F.kp⟩
def i_law_halved_1 (self : FF) : FS := fIfS (fT (fBin (oEq false) (fCB oLen (fACons (fName 1) (fANil))) (fC (.int 1))))
 (fRet (fTup (fACons (fC .non) (fACons (fTup (fACons (fC (.str "found")) (fACons (fBin oIx (fName 1) (fC (.int 0))) (fANil)))) (fANil)))))
 (fNext)
def c_law_halved_2 (self : FF) : FE := fLc false (fiAny (fName 0)) (fgName 6) (fYes) (fCall 2 F_law_greater [] (fACons (fName 6) (fACons (fName 1) (fANil)))) [6]
def c_law_halved_3 (self : FF) : FE := fLc false (fiEnumA (fACons (fName 0) (fANil))) (fgTup [7, 6]) (fT (fBin (oEq false) (fCall 2 F_law_greater [] (fACons (fName 6) (fACons (fName 1) (fANil)))) (fName 2))) (fName 7) [7, 6]
def S_law_halved (self : FF) : FS := fSeq ((i_law_halved_1 self))
 (fSeq (fSet 2 (fCB oMin (fACons ((c_law_halved_2 self)) (fANil))))
 (fSeq (fSet 3 (fBin oIx ((c_law_halved_3 self)) (fC (.int 0))))
 (fSeq (fAsg (fCall 2 F_law_cut [] (fACons (fBin oIx (fName 0) (fName 3)) (fACons (fName 1) (fANil)))) (fgTup [4, 5]))
 (fRet (fTup (fACons (fName 3) (fACons (fTup (fACons (fC (.str "test")) (fACons (fName 3) (fACons (fBin oIx (fCall 2 self [] (fACons (fName 0) (fACons (fName 4) (fANil)))) (fC (.int 1))) (fACons (fBin oIx (fCall 2 self [] (fACons (fName 0) (fACons (fName 5) (fANil)))) (fC (.int 1))) (fANil)))))) (fANil))))))))
def R_law_halved : Nat → FF
  | 0 => fun _ _ => .bad
  | n + 1 => fBody 8 (S_law_halved (R_law_halved n))
def F_law_halved : FF := R_law_halved 9
theorem sc_law_halved : FnScope ["_law_packs_here", "_law_held_here", "_law_best", "_law_spot", "_law_inside", "_law_outside", "_law_pack", "_law_at"] ["_law_packs_here", "_law_held_here"] d_law_halved.scope := ⟨rfl, rfl, rfl, by decide +kernel, rfl, by decide +kernel, by decide +kernel⟩
theorem ok_law_halvedr (h : Hd K mg base) : ∀ n : Nat, FnZ (gm K) P w mg base (4 + 2 * n) (d_law_halved.at_ K) 2 (R_law_halved n) []
  | 0 => by
    obtain ⟨fd, F⟩ := h.cz.a.def_ 37 (d := d_law_halved) rfl
    exact ⟨⟨fd, ["_law_packs_here", "_law_held_here"], [], [], fng_bad, F.bindsN (ps := ["_law_packs_here", "_law_held_here"]) fun _ _ _ _ _ _ us hl => match us, hl with | [_, _], _ => rfl, .nil, fun _ => IsL.nil⟩, F.kp⟩
  | n + 1 => by
    have ih := ok_law_halvedr h n
    obtain ⟨fd, F⟩ := h.cz.a.def_ 37 (d := d_law_halved) rfl
    refine ⟨⟨fd, ["_law_packs_here", "_law_held_here"], [], [], ?_, F.bindsN (ps := ["_law_packs_here", "_law_held_here"]) fun _ _ _ _ _ _ us hl => match us, hl with | [_, _], _ => rfl, .nil, fun _ => IsL.nil⟩, F.kp⟩
    have F2 : FunD (gm K).K d_law_halved.name d_law_halved.qual d_law_halved.params d_law_halved.body d_law_halved.scope (d_law_halved.dvs K) (d_law_halved.kws K) (d_law_halved.at_ K) fd := F
    have G0 := fn_ok (P := P) (w := w) (mg := mg) (base := base) (Γ := gm K) (k := 4 + 2 * n + 1) (s := S_law_halved (R_law_halved n)) F2 sc_law_halved
    have G1 := G0 (fun W cdv A outer st H E c po => by
      unfold S_law_halved c_law_halved_3 c_law_halved_2 i_law_halved_1
      exact (zs_cons (zs_if (zt_cmp c rfl (ze_blt call_lenA oLen_ok (by rfl) (fr_len h) bt_len (za_cons (ze_name (i := 1) rfl (Or.inr (Or.inl rfl)) nd__law_held_here nd__law_held_herec) za_nil rfl) (by decide) nd_len rfl rfl) ze_int rfl)
 (zs_one (zs_ret (ze_tup (za_cons ze_non (za_cons (ze_tup (za_cons ze_str (za_cons (ze_ix c (ze_name (i := 1) rfl (Or.inr (Or.inl rfl)) nd__law_held_here nd__law_held_herec) ze_int (fun _ _ => rfl)) za_nil rfl) rfl)) za_nil rfl) rfl))))
 zs_nil)
 (zs_cons (zs_set c (i := 2) rfl (Or.inr rfl) (ze_blt (CallR.or (call_min2 rfl) (cr_min rfl)) oMin_ok (by rfl) (fr_min h) bt_min (za_cons (ze_lc (live := false) c (zi_any c (ze_name (i := 0) rfl (Or.inl rfl) nd__law_packs_here nd__law_packs_herec)) (blkOk_by (own := [("_law_pack", 6)]) rfl) (tg_name (i := 6) (by simp)) (fun s1 H1 C1 l1 q1 => pg_name (Cz.nd (Cz.blk c s1 H1 _ _ q1)) (i := 6) rfl (Or.inl rfl) (Or.inr rfl)) (fun s1 H1 C1 l1 q1 => zts_nil) (fun s1 H1 C1 l1 q1 => (ze_call (Cz.blk c s1 H1 _ _ q1) ((ok_law_greater h).up (by omega)) (by rfl) (gl__law_greater h) (za_cons (ze_name (i := 6) rfl (Or.inl rfl) nd__law_pack nd__law_packc) (za_cons (ze_name (i := 1) rfl (Or.inr (Or.inl rfl)) nd__law_held_here nd__law_held_herec) za_nil rfl) rfl) nd__law_greater rfl rfl)) (fun _ => rfl)) za_nil rfl) (by decide) nd_min rfl rfl) rfl (Or.inl rfl))
 (zs_cons (zs_set c (i := 3) rfl (Or.inl rfl) (ze_ix c (ze_lc (live := false) c (zi_enumA c (by rfl) (fr_enumerate h) (za_cons (ze_name (i := 0) rfl (Or.inl rfl) nd__law_packs_here nd__law_packs_herec) za_nil rfl) rfl) (blkOk_by (own := [("_law_at", 7), ("_law_pack", 6)]) rfl) (tg_tup (is := [7, 6]) (by simp)) (fun s1 H1 C1 l1 q1 => pg_tupN (Cz.blk c s1 H1 _ _ q1) (Nms.cons rfl (Or.inl rfl) (Or.inr rfl) (Nms.cons rfl (Or.inl rfl) (Or.inr rfl) Nms.nil))) (fun s1 H1 C1 l1 q1 => zts_one (zt_cmp (Cz.blk c s1 H1 _ _ q1) rfl (ze_call (Cz.blk c s1 H1 _ _ q1) ((ok_law_greater h).up (by omega)) (by rfl) (gl__law_greater h) (za_cons (ze_name (i := 6) rfl (Or.inl rfl) nd__law_pack nd__law_packc) (za_cons (ze_name (i := 1) rfl (Or.inr (Or.inl rfl)) nd__law_held_here nd__law_held_herec) za_nil rfl) rfl) nd__law_greater rfl rfl) (ze_name (i := 2) rfl (Or.inr (Or.inl rfl)) nd__law_best nd__law_bestc) rfl)) (fun s1 H1 C1 l1 q1 => (ze_name (i := 7) rfl (Or.inl rfl) nd__law_at nd__law_atc)) (fun _ => rfl)) ze_int (fun _ _ => rfl)) rfl (Or.inl rfl))
 (zs_cons (zs_unpack c (Nms.cons rfl (Or.inl rfl) (Or.inl rfl) (Nms.cons rfl (Or.inl rfl) (Or.inl rfl) Nms.nil)) (ze_call c ((ok_law_cut h).up (by omega)) (by rfl) (gl__law_cut h) (za_cons (ze_ix c (ze_name (i := 0) rfl (Or.inl rfl) nd__law_packs_here nd__law_packs_herec) (ze_name (i := 3) rfl (Or.inl rfl) nd__law_spot nd__law_spotc) (fun _ _ => rfl)) (za_cons (ze_name (i := 1) rfl (Or.inr (Or.inl rfl)) nd__law_held_here nd__law_held_herec) za_nil rfl) rfl) nd__law_cut rfl rfl) rfl rfl)
 (zs_one (zs_ret (ze_tup (za_cons (ze_name (i := 3) rfl (Or.inl rfl) nd__law_spot nd__law_spotc) (za_cons (ze_tup (za_cons ze_str (za_cons (ze_name (i := 3) rfl (Or.inl rfl) nd__law_spot nd__law_spotc) (za_cons (ze_ix c (ze_call c (ih.up (by omega)) (by rfl) (gl__law_halved h) (za_cons (ze_name (i := 0) rfl (Or.inl rfl) nd__law_packs_here nd__law_packs_herec) (za_cons (ze_name (i := 4) rfl (Or.inl rfl) nd__law_inside nd__law_insidec) za_nil rfl) rfl) nd__law_halved rfl rfl) ze_int (fun _ _ => rfl)) (za_cons (ze_ix c (ze_call c (ih.up (by omega)) (by rfl) (gl__law_halved h) (za_cons (ze_name (i := 0) rfl (Or.inl rfl) nd__law_packs_here nd__law_packs_herec) (za_cons (ze_name (i := 5) rfl (Or.inl rfl) nd__law_outside nd__law_outsidec) za_nil rfl) rfl) nd__law_halved rfl rfl) ze_int (fun _ _ => rfl)) za_nil rfl) rfl) rfl) rfl)) za_nil rfl) rfl)))))))))
    exact FnG.mono G1 (by omega)
theorem ok_law_halved (h : Hd K mg base) : FnZ (gm K) P w mg base 22 (d_law_halved.at_ K) 2 F_law_halved [] := ok_law_halvedr h 9
theorem okk_halving_plan_some_history (h : Hd K mg base) : FnK (gm K) P w mg base 34 (d_halving_plan.at_ K) 2 F_halving_plan ["some", "history"] [1, 0] := by
  obtain ⟨fd, G, F⟩ := og_halving_plan h
  exact ⟨⟨fd, ["history", "some"], G, kw_of F fun _ _ _ _ _ _ ws hl => match ws, hl with | [_, _], _ => rfl⟩, F.kp⟩
theorem okk_halving_test_some_history (h : Hd K mg base) : FnK (gm K) P w mg base 16 (d_halving_test.at_ K) 2 F_halving_test ["some", "history"] [1, 0] := by
  obtain ⟨fd, G, F⟩ := og_halving_test h
  exact ⟨⟨fd, ["history", "some"], G, kw_of F fun _ _ _ _ _ _ ws hl => match ws, hl with | [_, _], _ => rfl⟩, F.kp⟩
def i_law_1 : FS := fIfS (fT (fBin (oEq true) (fCB oRepr (fACons (fName 10) (fANil))) (fCB oRepr (fACons (fName 9) (fANil)))))
 (fRet (fC (.bl false)))
 (fNext)
def i_law_2 : FS := fIfS (fT (fBin (oEq true) (fTup (fACons (fCallK 2 2 F_halving_test [1, 0] (fACons (fCB oTuple (fACons (fName 11) (fANil))) (fACons (fName 6) (fANil)))) (fACons (fCallK 2 2 F_halving_plan [1, 0] (fACons (fName 11) (fACons (fName 6) (fANil)))) (fANil)))) (fName 9)))
 (fRet (fC (.bl false)))
 (fNext)
def i_law_3 : FS := fIfS (fT (fBin (oEq true) (fName 8) (fLst (fANil))))
 (fSeq (fSet 9 (fCall 2 F_law_halved [] (fACons (fName 5) (fACons (fCB oTuple (fACons (fCB (oSorted false) (fACons (fName 8) (fANil))) (fANil))) (fANil)))))
 (fSeq (fSet 10 (fTup (fACons (fCall 2 F_halving_test [] (fACons (fName 6) (fACons (fName 8) (fANil)))) (fACons (fCall 2 F_halving_plan [] (fACons (fName 6) (fACons (fName 8) (fANil)))) (fANil)))))
 (fSeq (i_law_1)
 (fSeq (fSet 11 (fCall 2 F_law_shuffled [] (fACons (fName 1) (fACons (fName 8) (fANil)))))
 (i_law_2)))))
 (fNext)
def b_law_4 : FS := fSeq (fSet 8 (fCall 2 F_law_held [] (fACons (fName 1) (fACons (fName 5) (fANil)))))
 (i_law_3)
def b_law_5 : FS := fSeq (fAsg (fCall 3 F_law_story [] (fACons (fName 1) (fACons (fC (.int 8)) (fACons (fC (.int 16)) (fANil))))) (fgTup [3, 4]))
 (fSeq (fPar 5 6 (fACons (fCall 1 F_law_packs [] (fACons (fName 4) (fANil))) (fACons (fMake "History" 2 F_History_init [] false (fACons (fName 4) (fANil))) (fANil))))
 (fForS (fiRng1 (fACons (fC (.int 2)) (fANil))) (fgName 7)
 b_law_4))
def S_law : FS := fSeq (fSet 1 (fCall 1 F_law_begun [] (fACons (fName 0) (fANil))))
 (fSeq (fForS (fiRng1 (fACons (fCB oMax (fACons (fC (.int 1)) (fACons (fCB oMin (fACons (fC (.int 4)) (fACons (fCB oLen (fACons (fName 0) (fANil))) (fANil)))) (fANil)))) (fANil))) (fgName 2)
 b_law_5)
 (fRet (fC (.bl true))))
def F_law : FF := fBody 12 (S_law)
theorem sc_law : FnScope ["_law_script", "_law_draw", "_law_turn", "_law_words_here", "_law_line_here", "_law_packs_here", "_law_tree", "_law_again", "_law_held_here", "_law_due", "_law_told", "_law_left"] ["_law_script"] d_law.scope := ⟨rfl, rfl, rfl, by decide +kernel, rfl, by decide +kernel, by decide +kernel⟩
theorem og_law (h : Hd K mg base) : ∃ fd, FnG P w K mg base (35 + 1) (d_law.at_ K) fd ["_law_script"] (spZ (gm K) 1 (F_law)) ∧ FunD K d_law.name d_law.qual d_law.params d_law.body d_law.scope (d_law.dvs K) (d_law.kws K) (d_law.at_ K) fd := by
  obtain ⟨fd, F⟩ := h.cz.a.def_ 38 (d := d_law) rfl
  refine ⟨fd, ?_, F⟩
  have F2 : FunD (gm K).K d_law.name d_law.qual d_law.params d_law.body d_law.scope (d_law.dvs K) (d_law.kws K) (d_law.at_ K) fd := F
  have G0 := fn_ok (P := P) (w := w) (mg := mg) (base := base) (Γ := gm K) (k := 35) (s := S_law) F2 sc_law
  have G1 := G0 (fun W cdv A outer st H E c po => by
    unfold S_law b_law_5 b_law_4 i_law_3 i_law_2 i_law_1
    exact (zs_cons (zs_set c (i := 1) rfl (Or.inl rfl) (ze_call c ((ok_law_begun h).up (by omega)) (by rfl) (gl__law_begun h) (za_cons (ze_name (i := 0) rfl (Or.inl rfl) nd__law_script nd__law_scriptc) za_nil rfl) nd__law_begun rfl rfl) rfl (Or.inl rfl))
 (zs_cons (zs_for (fun _ _ _ _ _ _ z => by cases z) c po (zi_rng1 (by rfl) (fr_range h) (za_cons (ze_blt (CallR.or (call_max2 rfl) (cr_max rfl)) oMax_ok (by rfl) (fr_max h) bt_max (za_cons ze_int (za_cons (ze_blt (CallR.or (call_min2 rfl) (cr_min rfl)) oMin_ok (by rfl) (fr_min h) bt_min (za_cons ze_int (za_cons (ze_blt call_lenA oLen_ok (by rfl) (fr_len h) bt_len (za_cons (ze_name (i := 0) rfl (Or.inl rfl) nd__law_script nd__law_scriptc) za_nil rfl) (by decide) nd_len rfl rfl) za_nil rfl) rfl) (by decide) nd_min rfl rfl) za_nil rfl) rfl) (by decide) nd_max rfl rfl) za_nil rfl) rfl) (zg_name (Cz.nd c) (i := 2) rfl (Or.inl rfl) (Or.inl rfl))
 (zs_cons (zs_unpack c (Nms.cons rfl (Or.inl rfl) (Or.inl rfl) (Nms.cons rfl (Or.inl rfl) (Or.inl rfl) Nms.nil)) (ze_call c ((ok_law_story h).up (by omega)) (by rfl) (gl__law_story h) (za_cons (ze_name (i := 1) rfl (Or.inl rfl) nd__law_draw nd__law_drawc) (za_cons ze_int (za_cons ze_int za_nil rfl) rfl) rfl) nd__law_story rfl rfl) rfl rfl)
 (zs_cons (zs_par c (i := 5) (j := 6) rfl rfl (by decide) rfl rfl (za_cons (ze_call c ((ok_law_packs h).up (by omega)) (by rfl) (gl__law_packs h) (za_cons (ze_name (i := 4) rfl (Or.inl rfl) nd__law_line_here nd__law_line_herec) za_nil rfl) nd__law_packs rfl rfl) (za_cons (ze_make (live := false) c ((okc_History h).up (by omega)) (by rfl) (gl_History h) (za_cons (ze_name (i := 4) rfl (Or.inl rfl) nd__law_line_here nd__law_line_herec) za_nil rfl) nd_History rfl rfl) za_nil rfl) rfl) rfl)
 (zs_one (zs_for (fun _ _ _ _ _ _ z => by cases z) c po (zi_rng1 (by rfl) (fr_range h) (za_cons ze_int za_nil rfl) rfl) (zg_name (Cz.nd c) (i := 7) rfl (Or.inl rfl) (Or.inl rfl))
 (zs_cons (zs_set c (i := 8) rfl (Or.inl rfl) (ze_call c ((ok_law_held h).up (by omega)) (by rfl) (gl__law_held h) (za_cons (ze_name (i := 1) rfl (Or.inl rfl) nd__law_draw nd__law_drawc) (za_cons (ze_name (i := 5) rfl (Or.inl rfl) nd__law_packs_here nd__law_packs_herec) za_nil rfl) rfl) nd__law_held rfl rfl) rfl (Or.inl rfl))
 (zs_one (zs_if (zt_cmp c rfl (ze_name (i := 8) rfl (Or.inl rfl) nd__law_held_here nd__law_held_herec) (ze_lst za_nil) rfl)
 (zs_cons (zs_set c (i := 9) rfl (Or.inl rfl) (ze_call c ((ok_law_halved h).up (by omega)) (by rfl) (gl__law_halved h) (za_cons (ze_name (i := 5) rfl (Or.inl rfl) nd__law_packs_here nd__law_packs_herec) (za_cons (ze_bty call_tuple_of oTuple_ok (by rfl) (fr_tuple h) bt_tuple (za_cons (ze_blt (call_srt rfl rfl (Cz.hu c)) oSorted_ok (by rfl) (fr_sorted h) bt_sorted (za_cons (ze_name (i := 8) rfl (Or.inl rfl) nd__law_held_here nd__law_held_herec) za_nil rfl) (by decide) nd_sorted rfl rfl) za_nil rfl) (by decide) nd_tuple rfl rfl) za_nil rfl) rfl) nd__law_halved rfl rfl) rfl (Or.inl rfl))
 (zs_cons (zs_set c (i := 10) rfl (Or.inl rfl) (ze_tup (za_cons (ze_call c ((ok_halving_test h).up (by omega)) (by rfl) (gl_halving_test h) (za_cons (ze_name (i := 6) rfl (Or.inl rfl) nd__law_tree nd__law_treec) (za_cons (ze_name (i := 8) rfl (Or.inl rfl) nd__law_held_here nd__law_held_herec) za_nil rfl) rfl) nd_halving_test rfl rfl) (za_cons (ze_call c ((ok_halving_plan h).up (by omega)) (by rfl) (gl_halving_plan h) (za_cons (ze_name (i := 6) rfl (Or.inl rfl) nd__law_tree nd__law_treec) (za_cons (ze_name (i := 8) rfl (Or.inl rfl) nd__law_held_here nd__law_held_herec) za_nil rfl) rfl) nd_halving_plan rfl rfl) za_nil rfl) rfl)) rfl (Or.inl rfl))
 (zs_cons (zs_if (zt_cmp c rfl (ze_blt (call_reprA c) oRepr_ok (by rfl) (fr_repr h) bt_repr (za_cons (ze_name (i := 10) rfl (Or.inl rfl) nd__law_told nd__law_toldc) za_nil rfl) (by decide) nd_repr rfl rfl) (ze_blt (call_reprA c) oRepr_ok (by rfl) (fr_repr h) bt_repr (za_cons (ze_name (i := 9) rfl (Or.inl rfl) nd__law_due nd__law_duec) za_nil rfl) (by decide) nd_repr rfl rfl) rfl)
 (zs_one (zs_ret ze_bl))
 zs_nil)
 (zs_cons (zs_set c (i := 11) rfl (Or.inl rfl) (ze_call c ((ok_law_shuffled h).up (by omega)) (by rfl) (gl__law_shuffled h) (za_cons (ze_name (i := 1) rfl (Or.inl rfl) nd__law_draw nd__law_drawc) (za_cons (ze_name (i := 8) rfl (Or.inl rfl) nd__law_held_here nd__law_held_herec) za_nil rfl) rfl) nd__law_shuffled rfl rfl) rfl (Or.inl rfl))
 (zs_one (zs_if (zt_cmp c rfl (ze_tup (za_cons (ze_callK (is := [1, 0]) c ((okk_halving_test_some_history h).up (by omega)) (by rfl) (gl_halving_test h) (zk_cons (ze_bty call_tuple_of oTuple_ok (by rfl) (fr_tuple h) bt_tuple (za_cons (ze_name (i := 11) rfl (Or.inl rfl) nd__law_left nd__law_leftc) za_nil rfl) (by decide) nd_tuple rfl rfl) (zk_cons (ze_name (i := 6) rfl (Or.inl rfl) nd__law_tree nd__law_treec) zk_nil)) nd_halving_test rfl rfl rfl) (za_cons (ze_callK (is := [1, 0]) c ((okk_halving_plan_some_history h).up (by omega)) (by rfl) (gl_halving_plan h) (zk_cons (ze_name (i := 11) rfl (Or.inl rfl) nd__law_left nd__law_leftc) (zk_cons (ze_name (i := 6) rfl (Or.inl rfl) nd__law_tree nd__law_treec) zk_nil)) nd_halving_plan rfl rfl rfl) za_nil rfl) rfl)) (ze_name (i := 9) rfl (Or.inl rfl) nd__law_due nd__law_duec) rfl)
 (zs_one (zs_ret ze_bl))
 zs_nil))))))
 zs_nil))) (fun _ => rfl))))) (fun _ => rfl))
 (zs_one (zs_ret ze_bl)))))
  exact G1
theorem ok_law (h : Hd K mg base) : FnZ (gm K) P w mg base (35 + 1) (d_law.at_ K) 1 F_law [] := by
  obtain ⟨fd, G, F⟩ := og_law h
  exact ⟨⟨fd, ["_law_script"], [], [], G, F.bindsN (ps := ["_law_script"]) fun _ _ _ _ _ _ us hl => match us, hl with | [_], _ => rfl, .nil, fun _ => IsL.nil⟩, F.kp⟩
end
end Zl
set_option Elab.async false
set_option linter.all false
set_option maxRecDepth 100000
set_option maxHeartbeats 4000000
namespace Zl
open PySem PySem.Spec L2
open PyProof.Rows hiding St
/-! # a calculus of weakest preconditions over the evaluator -/
def Wp {a b : Type} (r : R (a × b)) (K : a → b → Prop) : Prop := match r with
  | .ok p => K p.1 p.2
  | _ => False
section
variable {a b c d : Type}
@[simp] theorem wp_ok {x : a} {y : b} {K : a → b → Prop} : Wp (.ok (x, y)) K = K x y := (rfl)
theorem wp_okp {p : a × b} {K : a → b → Prop} : Wp (.ok p) K = K p.1 p.2 := rfl
@[simp] theorem wp_bad {K : a → b → Prop} : Wp .bad K = False := (rfl)
theorem wp_bind {r : R (a × b)} {k : a × b → R (c × d)} {K : c → d → Prop} : Wp (r.bind k) K = Wp r fun x y => Wp (k (x, y)) K := by
  cases r <;> rfl
@[simp ↓] theorem wp_at {r : R (a × b)} {ρ : Rho} {K : a → b → Prop} : Wp (r.at ρ) K = Wp r K := by
  cases r <;> rfl
@[simp ↓] theorem wp_noex {r : R (a × b)} {K : a → b → Prop} : Wp r.noex K = Wp r K := by
  cases r <;> rfl
theorem Wp.mono {r : R (a × b)} {K K' : a → b → Prop} (h : Wp r K) (m : ∀ x y, K x y → K' x y) : Wp r K' := by
  cases r with
  | ok p => exact m _ _ h
  | ex e ρ μ => exact h
  | bad => exact h
theorem Wp.elim {r : R (a × b)} {K : a → b → Prop} (h : Wp r K) : ∃ x y, r = .ok (x, y) ∧ K x y := by
  cases r with
  | ok p => exact ⟨p.1, p.2, rfl, h⟩
  | ex e ρ μ => exact False.elim h
  | bad => exact False.elim h
theorem wp_eq {r : R (a × b)} {x : a} {y : b} (h : Wp r fun x' y' => x' = x ∧ y' = y) : r = .ok (x, y) := by
  obtain ⟨x', y', e, h1, h2⟩ := h.elim
  rw [e, h1, h2]
theorem wp_of {r : R (a × b)} {x : a} {y : b} (e : r = .ok (x, y)) {K : a → b → Prop} (h : K x y) : Wp r K := by
  rw [e]
  exact h
end
def vD (ds : List D) : List Val := ds.map Val.d
abbrev KE := Val → Mu → Prop
abbrev KA := List Val → Mu → Prop
abbrev KT := Bool → Mu → Prop
abbrev KI := List D → Mu → Prop
abbrev KS := Fl → Rho × Mu → Prop
section
variable {ρ : Rho} {μ : Mu} {K : KE} {k : KA} {t : KT} {J : KI} {S : KS}
/-! statements -/
def kSeq (g : FS) (S : KS) : KS := fun l p => match l with
  | .nx => Wp (g p.1 p.2) S
  | l => S l p
@[simp ↓] theorem w_Seq {f g : FS} : Wp (fSeq f g ρ μ) S = Wp (f ρ μ) (kSeq g S) := by
  show Wp ((f ρ μ).bind fun p => match p.1 with
  | .nx => g p.2.1 p.2.2
  | _ => .ok p) S = _
  rw [wp_bind]
  congr 1
  funext l p
  cases l <;> rfl
@[simp] theorem k_Seq_nx {g : FS} {p : Rho × Mu} : kSeq g S .nx p = Wp (g p.1 p.2) S := (rfl)
@[simp] theorem k_Seq_rt {g : FS} {v : Val} {p : Rho × Mu} : kSeq g S (.rt v) p = S (.rt v) p := (rfl)
@[simp] theorem k_Seq_bk {g : FS} {p : Rho × Mu} : kSeq g S .bk p = S .bk p := (rfl)
@[simp] theorem k_Seq_ct {g : FS} {p : Rho × Mu} : kSeq g S .ct p = S .ct p := (rfl)
def kIfS (f g : FS) (ρ : Rho) (S : KS) : KT := fun b μ => if b = true then Wp (f ρ μ) S else Wp (g ρ μ) S
@[simp ↓] theorem w_IfS {c : FT} {f g : FS} : Wp (fIfS c f g ρ μ) S = Wp (c ρ μ) (kIfS f g ρ S) := by
  show Wp ((c ρ μ).bind fun p => if p.1 = true then f ρ p.2 else g ρ p.2) S = _
  rw [wp_bind]
  congr 1
  funext b p
  cases b <;> rfl
@[simp] theorem k_IfS_t {f g : FS} : kIfS f g ρ S true μ = Wp (f ρ μ) S := (rfl)
@[simp] theorem k_IfS_f {f g : FS} : kIfS f g ρ S false μ = Wp (g ρ μ) S := (rfl)
def kRet (ρ : Rho) (S : KS) : KE := fun v μ => S (.rt v) (ρ, μ)
@[simp ↓] theorem w_Ret {f : FE} : Wp (fRet f ρ μ) S = Wp (f ρ μ) (kRet ρ S) := wp_bind
@[simp] theorem k_Ret {v : Val} : kRet ρ S v μ = S (.rt v) (ρ, μ) := (rfl)
@[simp ↓] theorem w_RetN : Wp (fRetN ρ μ) S = S (.rt (.d .non)) (ρ, μ) := (rfl)
@[simp ↓] theorem w_Next : Wp (fNext ρ μ) S = S .nx (ρ, μ) := (rfl)
@[simp ↓] theorem w_Brk : Wp (fBrk ρ μ) S = S .bk (ρ, μ) := (rfl)
@[simp ↓] theorem w_Cnt : Wp (fCnt ρ μ) S = S .ct (ρ, μ) := (rfl)
def kSet (i : Nat) (ρ : Rho) (S : KS) : KE := fun v μ => S .nx (ρ.set i v, μ)
@[simp ↓] theorem w_Set {i : Nat} {f : FE} : Wp (fSet i f ρ μ) S = Wp (f ρ μ) (kSet i ρ S) := wp_bind
@[simp] theorem k_Set {i : Nat} {v : Val} : kSet i ρ S v μ = S .nx (ρ.set i v, μ) := (rfl)
def kDrop (ρ : Rho) (S : KS) : KE := fun v μ => S .nx (ρ, μ)
@[simp ↓] theorem w_Drop {f : FE} : Wp (fDrop f ρ μ) S = Wp (f ρ μ) (kDrop ρ S) := wp_bind
@[simp] theorem k_Drop {v : Val} : kDrop ρ S v μ = S .nx (ρ, μ) := (rfl)
def kPar (i j : Nat) (ρ : Rho) (S : KS) : KA := fun l μ => match l with
  | [v, w] => S .nx ((ρ.set i v).set j w, μ)
  | _ => False
@[simp ↓] theorem w_Par {i j : Nat} {g : FA} : Wp (fPar i j g ρ μ) S = Wp (g ρ μ) (kPar i j ρ S) := by
  show Wp ((g ρ μ).bind fun p => match p.1 with
  | [v, w] => .ok (.nx, (ρ.set i v).set j w, p.2)
  | _ => .bad) S = _
  rw [wp_bind]
  congr 1
  funext l μ
  unfold kPar
  simp only
  split
  · rfl
  · rfl
@[simp] theorem k_Par {i j : Nat} {v w : Val} : kPar i j ρ S [v, w] μ = S .nx ((ρ.set i v).set j w, μ) := (rfl)
def kPar3 (i j m : Nat) (ρ : Rho) (S : KS) : KA := fun l μ => match l with
  | [v, w, u] => S .nx (((ρ.set i v).set j w).set m u, μ)
  | _ => False
@[simp ↓] theorem w_Par3 {i j m : Nat} {g : FA} : Wp (fPar3 i j m g ρ μ) S = Wp (g ρ μ) (kPar3 i j m ρ S) := by
  show Wp ((g ρ μ).bind fun p => match p.1 with
  | [v, w, u] => .ok (.nx, ((ρ.set i v).set j w).set m u, p.2)
  | _ => .bad) S = _
  rw [wp_bind]
  congr 1
  funext l μ
  unfold kPar3
  simp only
  split
  · rfl
  · rfl
@[simp] theorem k_Par3 {i j m : Nat} {v w u : Val} : kPar3 i j m ρ S [v, w, u] μ = S .nx (((ρ.set i v).set j w).set m u, μ) := (rfl)
def kParC (is : List Nat) (ρ : Rho) (S : KS) : KA := fun l μ => if l.length = is.length ∧ is.length ≤ 100 then S .nx (setVals is l ρ, μ) else False
@[simp ↓] theorem w_ParC {is : List Nat} {g : FA} : Wp (fParC is g ρ μ) S = Wp (g ρ μ) (kParC is ρ S) := by
  show Wp ((g ρ μ).bind fun p => if p.1.length = is.length ∧ is.length ≤ 100 then .ok (.nx, setVals is p.1 ρ, p.2) else .bad) S = _
  rw [wp_bind]
  congr 1
  funext l μ
  unfold kParC
  simp only
  split <;> rfl
@[simp] theorem k_ParC {is : List Nat} {l : List Val} : kParC is ρ S l μ = (if l.length = is.length ∧ is.length ≤ 100 then S .nx (setVals is l ρ, μ) else False) := (rfl)
def kAsg (g : FG) (ρ : Rho) (S : KS) : KE := fun v μ => Wp (g v ρ μ) fun ρ μ => S .nx (ρ, μ)
@[simp ↓] theorem w_Asg {f : FE} {g : FG} : Wp (fAsg f g ρ μ) S = Wp (f ρ μ) (kAsg g ρ S) := by
  show Wp ((f ρ μ).bind fun p => (g p.1 ρ p.2).bind fun q => .ok (.nx, q.1, q.2)) S = _
  rw [wp_bind]
  congr 1
  funext v μ
  exact wp_bind
@[simp] theorem k_Asg {g : FG} {v : Val} : kAsg g ρ S v μ = Wp (g v ρ μ) fun ρ μ => S .nx (ρ, μ) := (rfl)
def kFor (g : FG) (body : FS) (ρ : Rho) (S : KS) : KI := fun ds μ => Wp (fFor g body ds ρ μ) S
@[simp ↓] theorem w_ForS {it : FI} {g : FG} {body : FS} : Wp (fForS it g body ρ μ) S = Wp (it ρ μ) (kFor g body ρ S) := wp_bind
@[simp] theorem k_For {g : FG} {body : FS} {ds : List D} : kFor g body ρ S ds μ = Wp (fFor g body ds ρ μ) S := (rfl)
def kPut1 (fo fi : FE) (ρ : Rho) (S : KS) : KE := fun v μ => Wp (fo ρ μ) fun o μ => Wp (fi ρ μ) fun i μ => match putD ρ.n0 μ o i v with
  | some μ' => S .nx (ρ, μ')
  | none => False
def kPut2 (fi : FE) (v : Val) (ρ : Rho) (S : KS) : KE := fun o μ => Wp (fi ρ μ) fun i μ => match putD ρ.n0 μ o i v with
  | some μ' => S .nx (ρ, μ')
  | none => False
def kPut3 (v o : Val) (ρ : Rho) (S : KS) : KE := fun i μ => match putD ρ.n0 μ o i v with
  | some μ' => S .nx (ρ, μ')
  | none => False
@[simp ↓] theorem w_Put {fo fi fv : FE} : Wp (fPut fo fi fv ρ μ) S = Wp (fv ρ μ) (kPut1 fo fi ρ S) := by
  show Wp ((fv ρ μ).bind fun p => (fo ρ p.2).bind fun q => (fi ρ q.2).bind fun r => match putD ρ.n0 r.2 q.1 r.1 p.1 with
  | some μ' => .ok (.nx, ρ, μ')
  | none => .bad) S = _
  rw [wp_bind]
  congr 1
  funext v μ
  unfold kPut1
  simp only
  rw [wp_bind]
  congr 1
  funext o μ
  simp only
  rw [wp_bind]
  congr 1
  funext i μ
  simp only
  cases putD ρ.n0 μ o i v <;> rfl
@[simp] theorem k_Put1 {fo fi : FE} {v : Val} : kPut1 fo fi ρ S v μ = Wp (fo ρ μ) (kPut2 fi v ρ S) := (rfl)
@[simp] theorem k_Put2 {fi : FE} {o v : Val} : kPut2 fi v ρ S o μ = Wp (fi ρ μ) (kPut3 v o ρ S) := (rfl)
@[simp] theorem k_Put3 {i o v : Val} : kPut3 v o ρ S i μ = (match putD ρ.n0 μ o i v with
  | some μ' => S .nx (ρ, μ')
  | none => False) := (rfl)
def kSetF1 (x : Str) (fo : FE) (ρ : Rho) (S : KS) : KE := fun v μ => Wp (fo ρ μ) fun o μ => match o with
  | .own k => (match μ[k]? with
    | some (.ins c ns vs) => if okW ρ.n0 k v = true ∧ ns.length < 1000 then S .nx (ρ, μ.set k (.ins c (putP ns vs x v).1 (putP ns vs x v).2)) else False
    | _ => False)
  | _ => False
def kSetF2 (x : Str) (v : Val) (ρ : Rho) (S : KS) : KE := fun o μ => match o with
  | .own k => (match μ[k]? with
    | some (.ins c ns vs) => if okW ρ.n0 k v = true ∧ ns.length < 1000 then S .nx (ρ, μ.set k (.ins c (putP ns vs x v).1 (putP ns vs x v).2)) else False
    | _ => False)
  | _ => False
@[simp ↓] theorem w_SetF {x : Str} {fo fv : FE} : Wp (fSetF x fo fv ρ μ) S = Wp (fv ρ μ) (kSetF1 x fo ρ S) := by
  show Wp ((fv ρ μ).bind fun p => (fo ρ p.2).bind fun q => match q.1 with
  | .own k => (match q.2[k]? with
    | some (.ins c ns vs) => if okW ρ.n0 k p.1 = true ∧ ns.length < 1000 then .ok (.nx, ρ, q.2.set k (.ins c (putP ns vs x p.1).1 (putP ns vs x p.1).2)) else .bad
    | _ => .bad)
  | _ => .bad) S = _
  rw [wp_bind]
  congr 1
  funext v μ
  unfold kSetF1
  simp only
  rw [wp_bind]
  congr 1
  funext o μ
  simp only
  cases o with
  | d x => rfl
  | own k =>
    simp only
    cases μ[k]? with
    | none => rfl
    | some c => cases c <;> first | rfl | (simp only; split <;> rfl)
@[simp] theorem k_SetF1 {x : Str} {fo : FE} {v : Val} : kSetF1 x fo ρ S v μ = Wp (fo ρ μ) (kSetF2 x v ρ S) := (rfl)
theorem k_SetF2 {x : Str} {v : Val} {k : Nat} {c : Str} {ns : List Str} {vs : List Val} (e : μ[k]? = some (.ins c ns vs)) (ho : okW ρ.n0 k v = true) (hn : ns.length < 1000) (h : S .nx (ρ, μ.set k (.ins c (putP ns vs x v).1 (putP ns vs x v).2))) : kSetF2 x v ρ S (.own k) μ := by
  unfold kSetF2
  simp only [e]
  rw [if_pos ⟨ho, hn⟩]
  exact h
/-! tests -/
def kT (t : KT) : KE := fun v μ => match v with
  | .d (.bl b) => t b μ
  | _ => False
@[simp ↓] theorem w_T {f : FE} : Wp (fT f ρ μ) t = Wp (f ρ μ) (kT t) := by
  show Wp ((f ρ μ).bind fun p => match p.1 with
  | .d (.bl b) => .ok (b, p.2)
  | _ => .bad) t = _
  rw [wp_bind]
  congr 1
  funext v μ
  unfold kT
  simp only
  split
  · rfl
  · rfl
@[simp] theorem k_T {b : Bool} : kT t (.d (.bl b)) μ = t b μ := (rfl)
def kTr (t : KT) : KE := fun v μ => match truV μ v with
  | some b => t b μ
  | none => False
@[simp ↓] theorem w_Tr {f : FE} : Wp (fTr f ρ μ) t = Wp (f ρ μ) (kTr t) := by
  show Wp ((f ρ μ).bind fun p => match truV p.2 p.1 with
  | some b => .ok (b, p.2)
  | none => .bad) t = _
  rw [wp_bind]
  congr 1
  funext v μ
  unfold kTr
  simp only
  cases truV μ v <;> rfl
@[simp] theorem k_Tr {v : Val} : kTr t v μ = (match truV μ v with
  | some b => t b μ
  | none => False) := (rfl)
def kAndT (g : FT) (ρ : Rho) (t : KT) : KT := fun b μ => if b = true then Wp (g ρ μ) t else t false μ
@[simp ↓] theorem w_AndT {f g : FT} : Wp (fAndT f g ρ μ) t = Wp (f ρ μ) (kAndT g ρ t) := by
  show Wp ((f ρ μ).bind fun p => if p.1 = true then g ρ p.2 else .ok (false, p.2)) t = _
  rw [wp_bind]
  congr 1
  funext b μ
  cases b <;> rfl
@[simp] theorem k_AndT_t {g : FT} : kAndT g ρ t true μ = Wp (g ρ μ) t := (rfl)
@[simp] theorem k_AndT_f {g : FT} : kAndT g ρ t false μ = t false μ := (rfl)
def kOrT (g : FT) (ρ : Rho) (t : KT) : KT := fun b μ => if b = true then t true μ else Wp (g ρ μ) t
@[simp ↓] theorem w_OrT {f g : FT} : Wp (fOrT f g ρ μ) t = Wp (f ρ μ) (kOrT g ρ t) := by
  show Wp ((f ρ μ).bind fun p => if p.1 = true then .ok (true, p.2) else g ρ p.2) t = _
  rw [wp_bind]
  congr 1
  funext b μ
  cases b <;> rfl
@[simp] theorem k_OrT_t {g : FT} : kOrT g ρ t true μ = t true μ := (rfl)
@[simp] theorem k_OrT_f {g : FT} : kOrT g ρ t false μ = Wp (g ρ μ) t := (rfl)
def kNotT (t : KT) : KT := fun b μ => t (!b) μ
@[simp ↓] theorem w_NotT {f : FT} : Wp (fNotT f ρ μ) t = Wp (f ρ μ) (kNotT t) := wp_bind
@[simp] theorem k_NotT {b : Bool} : kNotT t b μ = t (!b) μ := (rfl)
@[simp ↓] theorem w_Yes : Wp (fYes ρ μ) t = t true μ := (rfl)
/-! expressions -/
def kBin2 (o : Val → Val → Mu → R (Val × Mu)) (v : Val) (K : KE) : KE := fun w μ => Wp (o v w μ) K
def kBin1 (o : Val → Val → Mu → R (Val × Mu)) (g : FE) (ρ : Rho) (K : KE) : KE := fun v μ => Wp (g ρ μ) (kBin2 o v K)
@[simp ↓] theorem w_Bin {o : Val → Val → Mu → R (Val × Mu)} {f g : FE} : Wp (fBin o f g ρ μ) K = Wp (f ρ μ) (kBin1 o g ρ K) := by
  show Wp ((f ρ μ).bind fun p => (g ρ p.2).bind fun q => o p.1 q.1 q.2) K = _
  rw [wp_bind]
  congr 1
  funext v μ
  exact wp_bind
@[simp] theorem k_Bin1 {o : Val → Val → Mu → R (Val × Mu)} {g : FE} {v : Val} : kBin1 o g ρ K v μ = Wp (g ρ μ) (kBin2 o v K) := (rfl)
@[simp] theorem k_Bin2 {o : Val → Val → Mu → R (Val × Mu)} {v w : Val} : kBin2 o v K w μ = Wp (o v w μ) K := (rfl)
def kUn (o : Val → Mu → R (Val × Mu)) (K : KE) : KE := fun v μ => Wp (o v μ) K
@[simp ↓] theorem w_Un {o : Val → Mu → R (Val × Mu)} {f : FE} : Wp (fUn o f ρ μ) K = Wp (f ρ μ) (kUn o K) := wp_bind
@[simp] theorem k_Un {o : Val → Mu → R (Val × Mu)} {v : Val} : kUn o K v μ = Wp (o v μ) K := (rfl)
@[simp ↓] theorem w_C {x : D} : Wp (fC x ρ μ) K = K (.d x) μ := (rfl)
def kIf (f g : FE) (ρ : Rho) (K : KE) : KT := fun b μ => if b = true then Wp (f ρ μ) K else Wp (g ρ μ) K
@[simp ↓] theorem w_If {c : FT} {f g : FE} : Wp (fIf c f g ρ μ) K = Wp (c ρ μ) (kIf f g ρ K) := by
  show Wp ((c ρ μ).bind fun p => if p.1 = true then f ρ p.2 else g ρ p.2) K = _
  rw [wp_bind]
  congr 1
  funext b μ
  cases b <;> rfl
@[simp] theorem k_If_t {f g : FE} : kIf f g ρ K true μ = Wp (f ρ μ) K := (rfl)
@[simp] theorem k_If_f {f g : FE} : kIf f g ρ K false μ = Wp (g ρ μ) K := (rfl)
def kAndV (g : FE) (ρ : Rho) (K : KE) : KE := fun v μ => match v with
  | .d (.bl true) => Wp (g ρ μ) K
  | .d (.bl false) => K (.d (.bl false)) μ
  | _ => False
@[simp ↓] theorem w_AndV {f g : FE} : Wp (fAndV f g ρ μ) K = Wp (f ρ μ) (kAndV g ρ K) := by
  show Wp ((f ρ μ).bind fun p => match p.1 with
  | .d (.bl true) => g ρ p.2
  | .d (.bl false) => .ok (.d (.bl false), p.2)
  | _ => .bad) K = _
  rw [wp_bind]
  congr 1
  funext v μ
  unfold kAndV
  simp only
  rcases v with x | k
  · cases x with
    | bl b => cases b <;> rfl
    | _ => rfl
  · rfl
@[simp] theorem k_AndV_t {g : FE} : kAndV g ρ K (.d (.bl true)) μ = Wp (g ρ μ) K := (rfl)
@[simp] theorem k_AndV_f {g : FE} : kAndV g ρ K (.d (.bl false)) μ = K (.d (.bl false)) μ := (rfl)
def kOrV (g : FE) (ρ : Rho) (K : KE) : KE := fun v μ => match v with
  | .d (.bl true) => K (.d (.bl true)) μ
  | .d (.bl false) => Wp (g ρ μ) K
  | _ => False
@[simp ↓] theorem w_OrV {f g : FE} : Wp (fOrV f g ρ μ) K = Wp (f ρ μ) (kOrV g ρ K) := by
  show Wp ((f ρ μ).bind fun p => match p.1 with
  | .d (.bl true) => .ok (.d (.bl true), p.2)
  | .d (.bl false) => g ρ p.2
  | _ => .bad) K = _
  rw [wp_bind]
  congr 1
  funext v μ
  unfold kOrV
  simp only
  rcases v with x | k
  · cases x with
    | bl b => cases b <;> rfl
    | _ => rfl
  · rfl
@[simp] theorem k_OrV_t {g : FE} : kOrV g ρ K (.d (.bl true)) μ = K (.d (.bl true)) μ := (rfl)
@[simp] theorem k_OrV_f {g : FE} : kOrV g ρ K (.d (.bl false)) μ = Wp (g ρ μ) K := (rfl)
def kChain3 (o' : Val → Val → Mu → R (Val × Mu)) (h : FE) (w : Val) (ρ : Rho) (K : KE) : KE := fun r μ => match r with
  | .d (.bl true) => Wp (h ρ μ) (kBin2 o' w K)
  | .d (.bl false) => K (.d (.bl false)) μ
  | _ => False
def kChain2 (o o' : Val → Val → Mu → R (Val × Mu)) (h : FE) (v : Val) (ρ : Rho) (K : KE) : KE := fun w μ => Wp (o v w μ) (kChain3 o' h w ρ K)
def kChain1 (o o' : Val → Val → Mu → R (Val × Mu)) (g h : FE) (ρ : Rho) (K : KE) : KE := fun v μ => Wp (g ρ μ) (kChain2 o o' h v ρ K)
@[simp ↓] theorem w_Chain {o o' : Val → Val → Mu → R (Val × Mu)} {f g h : FE} : Wp (fChain o o' f g h ρ μ) K = Wp (f ρ μ) (kChain1 o o' g h ρ K) := by
  show Wp ((f ρ μ).bind fun p => (g ρ p.2).bind fun q => (o p.1 q.1 q.2).bind fun r => match r.1 with
  | .d (.bl true) => (h ρ r.2).bind fun s => o' q.1 s.1 s.2
  | .d (.bl false) => .ok (.d (.bl false), r.2)
  | _ => .bad) K = _
  rw [wp_bind]
  congr 1
  funext v μ
  simp only
  rw [wp_bind]
  unfold kChain1
  congr 1
  funext w μ
  simp only
  rw [wp_bind]
  unfold kChain2
  congr 1
  funext r μ
  unfold kChain3
  simp only
  rcases r with x | k
  · cases x with
    | bl b => cases b <;> first | rfl | exact wp_bind
    | _ => rfl
  · rfl
@[simp] theorem k_Chain1 {o o' : Val → Val → Mu → R (Val × Mu)} {g h : FE} {v : Val} : kChain1 o o' g h ρ K v μ = Wp (g ρ μ) (kChain2 o o' h v ρ K) := (rfl)
@[simp] theorem k_Chain2 {o o' : Val → Val → Mu → R (Val × Mu)} {h : FE} {v w : Val} : kChain2 o o' h v ρ K w μ = Wp (o v w μ) (kChain3 o' h w ρ K) := (rfl)
@[simp] theorem k_Chain3_t {o' : Val → Val → Mu → R (Val × Mu)} {h : FE} {w : Val} : kChain3 o' h w ρ K (.d (.bl true)) μ = Wp (h ρ μ) (kBin2 o' w K) := (rfl)
@[simp] theorem k_Chain3_f {o' : Val → Val → Mu → R (Val × Mu)} {h : FE} {w : Val} : kChain3 o' h w ρ K (.d (.bl false)) μ = K (.d (.bl false)) μ := (rfl)
/-! arguments -/
@[simp ↓] theorem w_ANil : Wp (fANil ρ μ) k = k [] μ := (rfl)
def kACons2 (v : Val) (k : KA) : KA := fun vs μ => k (v :: vs) μ
def kACons1 (g : FA) (ρ : Rho) (k : KA) : KE := fun v μ => Wp (g ρ μ) (kACons2 v k)
@[simp ↓] theorem w_ACons {f : FE} {g : FA} : Wp (fACons f g ρ μ) k = Wp (f ρ μ) (kACons1 g ρ k) := by
  show Wp ((f ρ μ).bind fun p => (g ρ p.2).bind fun q => .ok (p.1 :: q.1, q.2)) k = _
  rw [wp_bind]
  congr 1
  funext v μ
  exact wp_bind
@[simp] theorem k_ACons1 {g : FA} {v : Val} : kACons1 g ρ k v μ = Wp (g ρ μ) (kACons2 v k) := (rfl)
@[simp] theorem k_ACons2 {v : Val} {vs : List Val} : kACons2 v k vs μ = k (v :: vs) μ := (rfl)
def kAStar (g : FA) (ρ : Rho) (k : KA) : KE := fun v μ => match seqV μ v with
  | some ds => Wp (g ρ μ) fun vs μ => k (vD ds ++ vs) μ
  | none => False
@[simp ↓] theorem w_AStar {f : FE} {g : FA} : Wp (fAStar f g ρ μ) k = Wp (f ρ μ) (kAStar g ρ k) := by
  show Wp ((f ρ μ).bind fun p => match seqV p.2 p.1 with
  | some ds => (g ρ p.2).bind fun q => .ok (ds.map Val.d ++ q.1, q.2)
  | none => .bad) k = _
  rw [wp_bind]
  congr 1
  funext v μ
  unfold kAStar
  simp only
  cases seqV μ v with
  | none => rfl
  | some ds => exact wp_bind
theorem k_AStar {g : FA} {v : Val} : kAStar g ρ k v μ = (match seqV μ v with
  | some ds => Wp (g ρ μ) fun vs μ => k (vD ds ++ vs) μ
  | none => False) := (rfl)
def kTup (K : KE) : KA := fun vs μ => match dsOf vs with
  | some ds => if ds.length ≤ 1000 then K (.d (.tup ds)) μ else False
  | none => False
@[simp ↓] theorem w_Tup {g : FA} : Wp (fTup g ρ μ) K = Wp (g ρ μ) (kTup K) := by
  show Wp ((g ρ μ).bind fun q => match dsOf q.1 with
  | some ds => if ds.length ≤ 1000 then .ok (.d (.tup ds), q.2) else .bad
  | none => .bad) K = _
  rw [wp_bind]
  congr 1
  funext vs μ
  unfold kTup
  simp only
  cases dsOf vs with
  | none => rfl
  | some ds => simp only; split <;> rfl
@[simp] theorem k_Tup {vs : List Val} : kTup K vs μ = (match dsOf vs with
  | some ds => if ds.length ≤ 1000 then K (.d (.tup ds)) μ else False
  | none => False) := (rfl)
def kLst (K : KE) : KA := fun vs μ => match dsOf vs with
  | some ds => if ds.length ≤ 1000 then K (.d (.lst ds)) μ else False
  | none => False
@[simp ↓] theorem w_Lst {g : FA} : Wp (fLst g ρ μ) K = Wp (g ρ μ) (kLst K) := by
  show Wp ((g ρ μ).bind fun q => match dsOf q.1 with
  | some ds => if ds.length ≤ 1000 then .ok (.d (.lst ds), q.2) else .bad
  | none => .bad) K = _
  rw [wp_bind]
  congr 1
  funext vs μ
  unfold kLst
  simp only
  cases dsOf vs with
  | none => rfl
  | some ds => simp only; split <;> rfl
@[simp] theorem k_Lst {vs : List Val} : kLst K vs μ = (match dsOf vs with
  | some ds => if ds.length ≤ 1000 then K (.d (.lst ds)) μ else False
  | none => False) := (rfl)
def kLstL (K : KE) : KA := fun vs μ => if vs.length ≤ 1000 then K (.own μ.length) (μ ++ [.lst vs]) else False
@[simp ↓] theorem w_LstL {g : FA} : Wp (fLstL g ρ μ) K = Wp (g ρ μ) (kLstL K) := by
  show Wp ((g ρ μ).bind fun q => if q.1.length ≤ 1000 then .ok (.own q.2.length, q.2 ++ [.lst q.1]) else .bad) K = _
  rw [wp_bind]
  congr 1
  funext vs μ
  unfold kLstL
  simp only
  split <;> rfl
@[simp] theorem k_LstL {vs : List Val} : kLstL K vs μ = (if vs.length ≤ 1000 then K (.own μ.length) (μ ++ [.lst vs]) else False) := (rfl)
@[simp ↓] theorem w_Dict0f : Wp (fDict0 false false ρ μ) K = K (.d (.dK [] [])) μ := (rfl)
@[simp ↓] theorem w_Dict0tt : Wp (fDict0 true true ρ μ) K = K (.own μ.length) (μ ++ [.dT [] []]) := (rfl)
@[simp ↓] theorem w_Dict0tf : Wp (fDict0 true false ρ μ) K = K (.own μ.length) (μ ++ [.dK [] []]) := (rfl)
def kCB (o : List Val → Mu → R (Val × Mu)) (K : KE) : KA := fun vs μ => Wp (o vs μ) K
@[simp ↓] theorem w_CB {o : List Val → Mu → R (Val × Mu)} {g : FA} : Wp (fCB o g ρ μ) K = Wp (g ρ μ) (kCB o K) := wp_bind
@[simp] theorem k_CB {o : List Val → Mu → R (Val × Mu)} {vs : List Val} : kCB o K vs μ = Wp (o vs μ) K := (rfl)
def kIsi (tb : KTb) (ks : List Kd) (K : KE) : KE := fun v μ => match (kindV μ v).bind fun k => isAny tb k ks with
  | some b => K (.d (.bl b)) μ
  | none => False
@[simp ↓] theorem w_Isi {tb : KTb} {ks : List Kd} {f : FE} : Wp (fIsi tb ks f ρ μ) K = Wp (f ρ μ) (kIsi tb ks K) := by
  show Wp ((f ρ μ).bind fun p => match (kindV p.2 p.1).bind fun k => isAny tb k ks with
  | some b => .ok (.d (.bl b), p.2)
  | none => .bad) K = _
  rw [wp_bind]
  congr 1
  funext v μ
  unfold kIsi
  simp only
  cases ((kindV μ v).bind fun k => isAny tb k ks) <;> rfl
@[simp] theorem k_Isi {tb : KTb} {ks : List Kd} {v : Val} : kIsi tb ks K v μ = (match (kindV μ v).bind fun k => isAny tb k ks with
  | some b => K (.d (.bl b)) μ
  | none => False) := (rfl)
def kCall (n : Nat) (Fn : FF) (dd : List D) (K : KE) : KA := fun vs μ => if vs.length + dd.length = n then Wp (Fn (vs ++ dd.map Val.d) μ) K else False
@[simp ↓] theorem w_Call {n : Nat} {Fn : FF} {dd : List D} {g : FA} : Wp (fCall n Fn dd g ρ μ) K = Wp (g ρ μ) (kCall n Fn dd K) := by
  show Wp ((g ρ μ).bind fun p => if p.1.length + dd.length = n then (Fn (p.1 ++ dd.map Val.d) p.2).at ρ else .bad) K = _
  rw [wp_bind]
  congr 1
  funext vs μ
  unfold kCall
  simp only
  split
  · exact wp_at
  · rfl
@[simp] theorem k_Call {n : Nat} {Fn : FF} {dd : List D} {vs : List Val} : kCall n Fn dd K vs μ = (if vs.length + dd.length = n then Wp (Fn (vs ++ dd.map Val.d) μ) K else False) := (rfl)
def kCallK (n m : Nat) (Fn : FF) (is : List Nat) (K : KE) : KA := fun vs μ => if vs.length = m ∧ (pick is vs).length = n then Wp (Fn (pick is vs) μ) K else False
@[simp ↓] theorem w_CallK {n m : Nat} {Fn : FF} {is : List Nat} {g : FA} : Wp (fCallK n m Fn is g ρ μ) K = Wp (g ρ μ) (kCallK n m Fn is K) := by
  show Wp ((g ρ μ).bind fun p => if p.1.length = m ∧ (pick is p.1).length = n then (Fn (pick is p.1) p.2).at ρ else .bad) K = _
  rw [wp_bind]
  congr 1
  funext vs μ
  unfold kCallK
  simp only
  split
  · exact wp_at
  · rfl
@[simp] theorem k_CallK {n m : Nat} {Fn : FF} {is : List Nat} {vs : List Val} : kCallK n m Fn is K vs μ = (if vs.length = m ∧ (pick is vs).length = n then Wp (Fn (pick is vs) μ) K else False) := (rfl)
def kMethA (n : Nat) (Fn : FF) (v : Val) (K : KE) : KA := fun vs μ => if vs.length + 1 = n then Wp (Fn (v :: vs) μ) K else False
def kMeth (m : Str) (Δ : MT) (g : FA) (ρ : Rho) (K : KE) : KE := fun v μ => match insV μ v with
  | some (k, ns, _) => if m ∈ ns then False else (match Δ k with
    | some (n, Fn) => Wp (g ρ μ) (kMethA n Fn v K)
    | none => False)
  | none => False
@[simp ↓] theorem w_Meth {m : Str} {Δ : MT} {f : FE} {g : FA} : Wp (fMeth m Δ f g ρ μ) K = Wp (f ρ μ) (kMeth m Δ g ρ K) := by
  show Wp ((f ρ μ).bind fun p => match insV p.2 p.1 with
  | some (k, ns, _) => if m ∈ ns then .bad else (match Δ k with
    | some (n, Fn) => (g ρ p.2).bind fun q => if q.1.length + 1 = n then (Fn (p.1 :: q.1) q.2).at ρ else .bad
    | none => .bad)
  | none => .bad) K = _
  rw [wp_bind]
  congr 1
  funext v μ
  unfold kMeth
  simp only
  cases insV μ v with
  | none => rfl
  | some p =>
    obtain ⟨k, ns, vs⟩ := p
    simp only
    split
    · rfl
    · cases Δ k with
      | none => rfl
      | some q =>
        obtain ⟨n, Fn⟩ := q
        simp only
        rw [wp_bind]
        congr 1
        funext vs μ
        unfold kMethA
        simp only
        split
        · exact wp_at
        · rfl
theorem k_Meth {m : Str} {Δ : MT} {g : FA} {v : Val} {c : Str} {ns : List Str} {vs : List Val} {n : Nat} {Fn : FF} (e : insV μ v = some (c, ns, vs)) (hm : decide (m ∈ ns) = false) (hd : Δ c = some (n, Fn)) : kMeth m Δ g ρ K v μ = Wp (g ρ μ) (kMethA n Fn v K) := by
  unfold kMeth
  simp only [e, hd]
  rw [if_neg (by simpa using hm)]
@[simp] theorem k_MethA {n : Nat} {Fn : FF} {v : Val} {vs : List Val} : kMethA n Fn v K vs μ = (if vs.length + 1 = n then Wp (Fn (v :: vs) μ) K else False) := (rfl)
def kFld (x : Str) (K : KE) : KE := fun v μ => match insV μ v with
  | some (_, ns, vs) => (match getF ns vs x with
    | some v => K v μ
    | none => False)
  | none => False
@[simp ↓] theorem w_Fld {x : Str} {f : FE} : Wp (fFld x f ρ μ) K = Wp (f ρ μ) (kFld x K) := by
  show Wp ((f ρ μ).bind fun p => match insV p.2 p.1 with
  | some (_, ns, vs) => (match getF ns vs x with
    | some v => .ok (v, p.2)
    | none => .bad)
  | none => .bad) K = _
  rw [wp_bind]
  congr 1
  funext v μ
  unfold kFld
  simp only
  cases insV μ v with
  | none => rfl
  | some p =>
    obtain ⟨k, ns, vs⟩ := p
    simp only
    cases getF ns vs x <;> rfl
theorem k_Fld {x : Str} {v u : Val} {c : Str} {ns : List Str} {vs : List Val} (e : insV μ v = some (c, ns, vs)) (h : getF ns vs x = some u) : kFld x K v μ = K u μ := by
  unfold kFld
  simp only [e, h]
def kProp (Δ : MT) (K : KE) : KE := fun v μ => match insV μ v with
  | some (k, _, _) => (match Δ k with
    | some (n, Fn) => if n = 1 then Wp (Fn [v] μ) K else False
    | none => False)
  | none => False
@[simp ↓] theorem w_Prop {Δ : MT} {f : FE} : Wp (fProp Δ f ρ μ) K = Wp (f ρ μ) (kProp Δ K) := by
  show Wp ((f ρ μ).bind fun p => match insV p.2 p.1 with
  | some (k, _, _) => (match Δ k with
    | some (n, Fn) => if n = 1 then (Fn [p.1] p.2).noex else .bad
    | none => .bad)
  | none => .bad) K = _
  rw [wp_bind]
  congr 1
  funext v μ
  unfold kProp
  simp only
  cases insV μ v with
  | none => rfl
  | some p =>
    obtain ⟨k, ns, vs⟩ := p
    simp only
    cases Δ k with
    | none => rfl
    | some q =>
      obtain ⟨n, Fn⟩ := q
      simp only
      split
      · exact wp_noex
      · rfl
theorem k_Prop {Δ : MT} {v : Val} {c : Str} {ns : List Str} {vs : List Val} {Fn : FF} (e : insV μ v = some (c, ns, vs)) (h : Δ c = some (1, Fn)) : kProp Δ K v μ = Wp (Fn [v] μ) K := by
  unfold kProp
  simp only [e, h, if_true]
def kBM2 (o : Nat → Val → List Val → Mu → R (Val × Mu)) (v : Val) (ρ : Rho) (K : KE) : KA := fun vs μ => Wp (o ρ.n0 v vs μ) K
def kBM (T : String) (o : Nat → Val → List Val → Mu → R (Val × Mu)) (g : FA) (ρ : Rho) (K : KE) : KE := fun v μ => if tyB T μ v = true then Wp (g ρ μ) (kBM2 o v ρ K) else False
@[simp ↓] theorem w_BM {T : String} {o : Nat → Val → List Val → Mu → R (Val × Mu)} {f : FE} {g : FA} : Wp (fBM T o f g ρ μ) K = Wp (f ρ μ) (kBM T o g ρ K) := by
  show Wp ((f ρ μ).bind fun p => if tyB T p.2 p.1 = true then (g ρ p.2).bind fun q => o ρ.n0 p.1 q.1 q.2 else .bad) K = _
  rw [wp_bind]
  congr 1
  funext v μ
  unfold kBM
  simp only
  split
  · exact wp_bind
  · rfl
@[simp] theorem k_BM {T : String} {o : Nat → Val → List Val → Mu → R (Val × Mu)} {g : FA} {v : Val} : kBM T o g ρ K v μ = (if tyB T μ v = true then Wp (g ρ μ) (kBM2 o v ρ K) else False) := (rfl)
@[simp] theorem k_BM2 {o : Nat → Val → List Val → Mu → R (Val × Mu)} {v : Val} {vs : List Val} : kBM2 o v ρ K vs μ = Wp (o ρ.n0 v vs μ) K := (rfl)
def kSl2 (hi : Option FE) (v : Val) (ρ : Rho) (K : KE) : Option Int → Mu → Prop := fun l μ => Wp (fPart hi ρ μ) fun u μ => Wp (oCut l u v μ) K
def kSl3 (l : Option Int) (v : Val) (K : KE) : Option Int → Mu → Prop := fun u μ => Wp (oCut l u v μ) K
def kSl (lo hi : Option FE) (ρ : Rho) (K : KE) : KE := fun v μ => Wp (fPart lo ρ μ) (kSl2 hi v ρ K)
@[simp ↓] theorem w_Sl {f : FE} {lo hi : Option FE} : Wp (fSl f lo hi ρ μ) K = Wp (f ρ μ) (kSl lo hi ρ K) := by
  show Wp ((f ρ μ).bind fun p => (fPart lo ρ p.2).bind fun l => (fPart hi ρ l.2).bind fun u => oCut l.1 u.1 p.1 u.2) K = _
  rw [wp_bind]
  congr 1
  funext v μ
  unfold kSl
  simp only
  rw [wp_bind]
  congr 1
  funext l μ
  exact wp_bind
@[simp] theorem k_Sl {lo hi : Option FE} {v : Val} : kSl lo hi ρ K v μ = Wp (fPart lo ρ μ) (kSl2 hi v ρ K) := (rfl)
@[simp] theorem k_Sl2 {hi : Option FE} {v : Val} {l : Option Int} : kSl2 hi v ρ K l μ = Wp (fPart hi ρ μ) (kSl3 l v K) := (rfl)
@[simp] theorem k_Sl3 {v : Val} {l u : Option Int} : kSl3 l v K u μ = Wp (oCut l u v μ) K := (rfl)
def kPart (P : Option Int → Mu → Prop) : KE := fun v μ => match v with
  | .d (.int i) => P (some i) μ
  | _ => False
@[simp ↓] theorem w_Part0 {P : Option Int → Mu → Prop} : Wp (fPart none ρ μ) P = P none μ := (rfl)
@[simp ↓] theorem w_Part {f : FE} {P : Option Int → Mu → Prop} : Wp (fPart (some f) ρ μ) P = Wp (f ρ μ) (kPart P) := by
  show Wp ((f ρ μ).bind fun p => match p.1 with
    | .d (.int i) => .ok (some i, p.2)
    | _ => .bad) P = _
  rw [wp_bind]
  congr 1
  funext v μ
  unfold kPart
  simp only
  split
  · rfl
  · rfl
@[simp] theorem k_Part {P : Option Int → Mu → Prop} {i : Int} : kPart P (.d (.int i)) μ = P (some i) μ := (rfl)
def kSortLen (K : KE) : KE := fun v μ => match lstV μ v with
  | some ds => if ds.all isTup = true ∧ ds.length ≤ 100000 then K (.d (.lst (sortLenD ds))) μ else False
  | none => False
@[simp ↓] theorem w_SortLen {f : FE} : Wp (fSortLen f ρ μ) K = Wp (f ρ μ) (kSortLen K) := by
  show Wp ((f ρ μ).bind fun p => match lstV p.2 p.1 with
  | some ds => if ds.all isTup = true ∧ ds.length ≤ 100000 then .ok (.d (.lst (sortLenD ds)), p.2) else .bad
  | none => .bad) K = _
  rw [wp_bind]
  congr 1
  funext v μ
  unfold kSortLen
  simp only
  cases lstV μ v with
  | none => rfl
  | some ds => simp only; split <;> rfl
@[simp] theorem k_SortLen {v : Val} : kSortLen K v μ = (match lstV μ v with
  | some ds => if ds.all isTup = true ∧ ds.length ≤ 100000 then K (.d (.lst (sortLenD ds))) μ else False
  | none => False) := (rfl)
/-! making an object -/
def kMk (n : Nat) (live : Bool) (K : KE) : KE := fun v μ => match v with
  | .d .non => if live = true then K (.own n) μ else (match treeV 40 n μ (.own n) with
      | some x => K (.d x) (μ.take n)
      | none => False)
  | _ => False
def kMake (c : Str) (n : Nat) (Fi : FF) (dd : List D) (live : Bool) (K : KE) : KA := fun vs μ => if vs.length + dd.length + 1 = n then Wp (Fi (.own μ.length :: (vs ++ dd.map Val.d)) (μ ++ [.ins c [] []])) (kMk μ.length live K) else False
@[simp ↓] theorem w_Make {c : Str} {n : Nat} {Fi : FF} {dd : List D} {live : Bool} {g : FA} : Wp (fMake c n Fi dd live g ρ μ) K = Wp (g ρ μ) (kMake c n Fi dd live K) := by
  show Wp ((g ρ μ).bind fun p => if p.1.length + dd.length + 1 = n then (match Fi (.own p.2.length :: (p.1 ++ dd.map Val.d)) (p.2 ++ [.ins c [] []]) with
  | .ok q => (match q.1 with
    | .d .non => if live = true then .ok (.own p.2.length, q.2) else (match treeV 40 p.2.length q.2 (.own p.2.length) with
      | some x => .ok (.d x, q.2.take p.2.length)
      | none => .bad)
    | _ => .bad)
  | .ex e _ m => .ex e ρ (m.take p.2.length)
  | .bad => .bad) else .bad) K = _
  rw [wp_bind]
  congr 1
  funext vs μ
  unfold kMake
  simp only
  split
  · cases Fi (.own μ.length :: (vs ++ dd.map Val.d)) (μ ++ [.ins c [] []]) with
    | ok q =>
      simp only [wp_okp]
      unfold kMk
      split
      · split
        · rfl
        · split <;> simp_all
      · simp
    | ex e r m => rfl
    | bad => rfl
  · rfl
@[simp] theorem k_Make {c : Str} {n : Nat} {Fi : FF} {dd : List D} {live : Bool} {vs : List Val} : kMake c n Fi dd live K vs μ = (if vs.length + dd.length + 1 = n then Wp (Fi (.own μ.length :: (vs ++ dd.map Val.d)) (μ ++ [.ins c [] []])) (kMk μ.length live K) else False) := (rfl)
@[simp] theorem k_Mk_t {n : Nat} : kMk n true K (.d .non) μ = K (.own n) μ := (rfl)
theorem k_Mk_f {n : Nat} {x : D} (e : treeV 40 n μ (.own n) = some x) : kMk n false K (.d .non) μ = K (.d x) (μ.take n) := by
  unfold kMk
  simp [e]
/-! bodies -/
def kBody (n : Nat) (K : KE) : KS := fun l p => match l with
  | .nx => K (.d .non) (p.2.take n)
  | .rt v => (match closeV n p.2 v with
    | some w => K w (p.2.take n)
    | none => False)
  | _ => False
theorem w_Body {N : Nat} {body : FS} {as : List Val} : Wp (fBody N body as μ) K = Wp (body (startR μ.length N as) μ) (kBody μ.length K) := by
  unfold fBody
  cases body (startR μ.length N as) μ with
  | ok p =>
    obtain ⟨l, ρ, m⟩ := p
    simp only [wp_okp]
    cases l with
    | rt v =>
      simp only [kBody]
      cases closeV μ.length m v <;> rfl
    | _ => rfl
  | ex e r m => rfl
  | bad => rfl
@[simp] theorem k_Body_nx {n : Nat} {ρ : Rho} : kBody n K .nx (ρ, μ) = K (.d .non) (μ.take n) := (rfl)
@[simp] theorem k_Body_rt {n : Nat} {ρ : Rho} {x : D} : kBody n K (.rt (.d x)) (ρ, μ) = K (.d x) (μ.take n) := (rfl)
theorem k_Body_own {n j : Nat} {ρ : Rho} {w : Val} (e : closeV n μ (.own j) = some w) : kBody n K (.rt (.own j)) (ρ, μ) = K w (μ.take n) := by
  unfold kBody
  simp only [e]
def kBodyK (K : KE) : KS := fun l p => match l with
  | .nx => K (.d .non) p.2
  | .rt v => K v p.2
  | _ => False
theorem w_BodyK {N off : Nat} {body : FS} {as : List Val} : Wp (fBodyK N off body as μ) K = Wp (body (startR (μ.length - off) N as) μ) (kBodyK K) := by
  unfold fBodyK
  cases body (startR (μ.length - off) N as) μ with
  | ok p =>
    obtain ⟨l, ρ, m⟩ := p
    cases l <;> rfl
  | ex e r m => rfl
  | bad => rfl
@[simp] theorem k_BodyK_nx {ρ : Rho} : kBodyK K .nx (ρ, μ) = K (.d .non) μ := (rfl)
@[simp] theorem k_BodyK_rt {ρ : Rho} {v : Val} : kBodyK K (.rt v) (ρ, μ) = K v μ := (rfl)
/-! comprehensions, iterators, loops -/
def kLc (live : Bool) (g : FG) (t : FT) (el : FE) (ρ : Rho) (K : KE) : KI := fun ds μ => Wp ((lcGo g t el ds ρ μ).bind fun q => lcFin live q) K
@[simp ↓] theorem w_Lc {live : Bool} {it : FI} {g : FG} {t : FT} {el : FE} {own : List Nat} : Wp (fLc live it g t el own ρ μ) K = Wp (it ρ μ) (kLc live g t el (ρ.wipe own) K) := wp_bind
def kDc (live : Bool) (g : FG) (t : FT) (fk fv : FE) (ρ : Rho) (K : KE) : KI := fun ds μ => Wp ((dcGo g t fk fv ds ρ μ [] []).bind fun q => dcFin live q) K
@[simp ↓] theorem w_Dc {live : Bool} {it : FI} {g : FG} {t : FT} {fk fv : FE} {own : List Nat} : Wp (fDc live it g t fk fv own ρ μ) K = Wp (it ρ μ) (kDc live g t fk fv (ρ.wipe own) K) := wp_bind
def kiAny (J : KI) : KE := fun v μ => match v with
  | .d (.lst ds) => J ds μ
  | .d (.scr ns) => J (ns.map D.int) μ
  | .d (.tup ds) => J ds μ
  | .d (.kt ds) => J ds μ
  | .d (.str z) => J (signsD z) μ
  | _ => False
@[simp ↓] theorem w_iAny {f : FE} : Wp (fiAny f ρ μ) J = Wp (f ρ μ) (kiAny J) := by
  show Wp ((f ρ μ).bind fun p => match p.1 with
  | .d (.lst ds) => .ok (ds, p.2)
  | .d (.scr ns) => .ok (ns.map D.int, p.2)
  | .d (.tup ds) => .ok (ds, p.2)
  | .d (.kt ds) => .ok (ds, p.2)
  | .d (.str z) => .ok (signsD z, p.2)
  | _ => .bad) J = _
  rw [wp_bind]
  congr 1
  funext v μ
  unfold kiAny
  simp only
  rcases v with x | k
  · cases x <;> rfl
  · rfl
@[simp] theorem ki_lst {ds : List D} : kiAny J (.d (.lst ds)) μ = J ds μ := (rfl)
@[simp] theorem ki_scr {ns : List Int} : kiAny J (.d (.scr ns)) μ = J (ns.map D.int) μ := (rfl)
@[simp] theorem ki_tup {ds : List D} : kiAny J (.d (.tup ds)) μ = J ds μ := (rfl)
@[simp] theorem ki_kt {ds : List D} : kiAny J (.d (.kt ds)) μ = J ds μ := (rfl)
@[simp] theorem ki_str {z : Str} : kiAny J (.d (.str z)) μ = J (signsD z) μ := (rfl)
def kiRng1 (J : KI) : KA := fun vs μ => match vs with
  | [.d (.int j)] => if -(2 ^ 62) ≤ j ∧ j < 2 ^ 62 then J (rngD 0 j.toNat) μ else False
  | _ => False
@[simp ↓] theorem w_iRng1 {g : FA} : Wp (fiRng1 g ρ μ) J = Wp (g ρ μ) (kiRng1 J) := by
  show Wp ((g ρ μ).bind fun p => match p.1 with
  | [.d (.int j)] => if -(2 ^ 62) ≤ j ∧ j < 2 ^ 62 then .ok (rngD 0 j.toNat, p.2) else .bad
  | _ => .bad) J = _
  rw [wp_bind]
  congr 1
  funext vs μ
  unfold kiRng1
  simp only
  split
  · split <;> rfl
  · rfl
theorem ki_rng {j : Int} (h : -(2 ^ 62) ≤ j ∧ j < 2 ^ 62) : kiRng1 J [.d (.int j)] μ = J (rngD 0 j.toNat) μ := by
  unfold kiRng1
  simp only
  rw [if_pos h]
@[simp] theorem ki_rngN {j : Nat} : kiRng1 J [.d (.int j)] μ = if j < 2 ^ 62 then J (rngD 0 j) μ else False := by
  unfold kiRng1
  simp only
  by_cases h : j < 2 ^ 62
  · rw [if_pos (by omega), if_pos h]; simp
  · rw [if_neg (by omega), if_neg h]
def kiEnumA (J : KI) : KA := fun vs μ => match vs with
  | [.d (.lst ds)] => J (enumD 0 ds) μ
  | [.d (.tup ds)] => J (enumD 0 ds) μ
  | _ => False
@[simp ↓] theorem w_iEnumA {g : FA} : Wp (fiEnumA g ρ μ) J = Wp (g ρ μ) (kiEnumA J) := by
  show Wp ((g ρ μ).bind fun p => match p.1 with
  | [.d (.lst ds)] => .ok (enumD 0 ds, p.2)
  | [.d (.tup ds)] => .ok (enumD 0 ds, p.2)
  | _ => .bad) J = _
  rw [wp_bind]
  congr 1
  funext vs μ
  unfold kiEnumA
  simp only
  split <;> rfl
@[simp] theorem ki_enl {ds : List D} : kiEnumA J [.d (.lst ds)] μ = J (enumD 0 ds) μ := (rfl)
@[simp] theorem ki_ent {ds : List D} : kiEnumA J [.d (.tup ds)] μ = J (enumD 0 ds) μ := (rfl)
/-! targets -/
@[simp ↓] theorem w_gName {i : Nat} {v : Val} {K : Rho → Mu → Prop} : Wp (fgName i v ρ μ) K = K (ρ.set i v) μ := (rfl)
theorem w_gTup {is : List Nat} {ds : List D} {K : Rho → Mu → Prop} (h : ds.length = is.length) : Wp (fgTup is (.d (.tup ds)) ρ μ) K = K (setAll is ds ρ) μ := by
  show Wp (if ds.length = is.length then .ok (setAll is ds ρ, μ) else .bad) K = _
  rw [if_pos h]
  rfl
@[simp] theorem setAll_nil : setAll [] [] ρ = ρ := (rfl)
@[simp] theorem setAll_cons {i : Nat} {is : List Nat} {d : D} {ds : List D} : setAll (i :: is) (d :: ds) ρ = setAll is ds (ρ.set i (.d d)) := (rfl)
@[simp] theorem setVals_nil : setVals [] [] ρ = ρ := (rfl)
@[simp] theorem setVals_cons {i : Nat} {is : List Nat} {d : Val} {ds : List Val} : setVals (i :: is) (d :: ds) ρ = setVals is ds (ρ.set i d) := (rfl)
end
/-- a loop by its invariant -/
theorem wp_for {g : FG} {body : FS} {S : KS} (I : Nat → Rho → Mu → Prop) : ∀ {ds : List D} {ρ : Rho} {μ : Mu} (k : Nat), I k ρ μ →
    (∀ (i : Nat) d ρ μ, ds[i]? = some d → I (k + i) ρ μ → Wp (g (.d d) ρ μ) fun ρ μ => Wp (body ρ μ) fun l p => l = .nx ∧ I (k + i + 1) p.1 p.2) →
    (∀ ρ μ, I (k + ds.length) ρ μ → S .nx (ρ, μ)) → Wp (fFor g body ds ρ μ) S
  | [], ρ, μ, k, h, _, he => he ρ μ h
  | d :: ds, ρ, μ, k, h, hs, he => by
    obtain ⟨ρ1, μ1, e1, h1⟩ := (hs 0 d ρ μ rfl h).elim
    obtain ⟨l, q, e2, h2, h3⟩ := h1.elim
    subst h2
    obtain ⟨ρ2, μ2⟩ := q
    simp only [fFor, e1, R.bind_ok, e2]
    refine wp_for I (ds := ds) (k + 1) h3 (fun i d ρ μ hi hI => ?_) fun ρ μ hI => he ρ μ ?_
    · have := hs (i + 1) d ρ μ (by simpa using hi) (by rw [show k + (i + 1) = k + 1 + i by omega]; exact hI)
      rw [show k + (i + 1) + 1 = k + 1 + i + 1 by omega] at this
      exact this
    · rw [show k + (d :: ds).length = k + 1 + ds.length by simp; omega]
      exact hI
/-- a loop over the items, its invariant by what is done -/
theorem wp_forL {g : FG} {body : FS} {S : KS} {ds : List D} {ρ : Rho} {μ : Mu} (I : List D → Rho → Mu → Prop) (h : I [] ρ μ)
    (hs : ∀ (pre : List D) d post ρ μ, ds = pre ++ d :: post → I pre ρ μ → Wp (g (.d d) ρ μ) fun ρ μ => Wp (body ρ μ) fun l p => l = .nx ∧ I (pre ++ [d]) p.1 p.2)
    (he : ∀ ρ μ, I ds ρ μ → S .nx (ρ, μ)) : Wp (fFor g body ds ρ μ) S := by
  refine wp_for (fun i ρ μ => I (ds.take i) ρ μ) 0 (by simpa using h) (fun i d ρ μ hi hI => ?_) fun ρ μ hI => he ρ μ (by simpa using hI)
  have hl : i < ds.length := (List.getElem?_eq_some_iff.mp hi).1
  have hd : ds[i] = d := (List.getElem?_eq_some_iff.mp hi).2
  have e : ds = ds.take i ++ d :: ds.drop (i + 1) := by
    rw [← hd, List.getElem_cons_drop, List.take_append_drop]
  have e2 : ds.take (0 + i + 1) = ds.take i ++ [d] := by
    rw [Nat.zero_add, List.take_succ, hi]
    rfl
  simp only [e2]
  exact hs (ds.take i) d (ds.drop (i + 1)) ρ μ e (by simpa using hI)
/-- a while loop by an invariant with a measure -/
theorem wp_wh {c : FT} {body : FS} {S : KS} (I : Nat → Rho → Mu → Prop) : ∀ {f : Nat} {ρ : Rho} {μ : Mu} (m : Nat), m < f → I m ρ μ →
    (∀ m ρ μ, I m ρ μ → Wp (c ρ μ) fun b μ' => if b = true then Wp (body ρ μ') fun l p => l = .nx ∧ ∃ m', m' < m ∧ I m' p.1 p.2 else S .nx (ρ, μ')) → Wp (fWh c body f ρ μ) S
  | 0, ρ, μ, m, hm, _, _ => absurd hm (Nat.not_lt_zero _)
  | f + 1, ρ, μ, m, hm, h, hs => by
    obtain ⟨b, μ1, e1, h1⟩ := (hs m ρ μ h).elim
    simp only [fWh, e1, R.bind_ok]
    cases b with
    | false => exact h1
    | true =>
      rw [if_pos rfl] at h1
      obtain ⟨l, q, e2, h2, m', hm', h3⟩ := Wp.elim h1
      subst h2
      obtain ⟨ρ2, μ2⟩ := q
      simp only [e2, R.bind_ok, if_true]
      exact wp_wh I (f := f) m' (by omega) h3 hs
/-- a comprehension over data that changes nothing -/
theorem lcGo_pw {g : FG} {t : FT} {el : FE} {ρ : Rho} {μ : Mu} (p : D → Bool) (v : D → Val) : ∀ ds : List D, (∀ d ∈ ds, Wp (g (.d d) ρ μ) fun ρ' μ' => μ' = μ ∧ Wp (t ρ' μ) fun b μ' => b = p d ∧ μ' = μ ∧ (p d = true → Wp (el ρ' μ) fun w μ' => w = v d ∧ μ' = μ)) → lcGo g t el ds ρ μ = .ok ((ds.filter p).map v, μ)
  | [], _ => rfl
  | d :: ds, h => by
    have ih := lcGo_pw p v ds fun d hd => h d (List.mem_cons_of_mem _ hd)
    obtain ⟨ρ1, μ1, e1, h1, h2⟩ := (h d (List.mem_cons_self ..)).elim
    subst h1
    obtain ⟨b, μ2, e2, h3, h4, h5⟩ := h2.elim
    subst h4
    simp only [lcGo, e1, R.noex_ok, R.bind_ok, e2]
    cases hp : p d with
    | false => simp [h3, hp, ih]
    | true =>
      obtain ⟨w, μ3, e3, h6, h7⟩ := (h5 hp).elim
      subst h7
      simp [h3, hp, ih, e3, h6]
theorem dsOf_mapd {ds : List D} : dsOf (ds.map Val.d) = some ds := by
  induction ds with
  | nil => rfl
  | cons d ds ih => simp [dsOf, ih]
theorem dsOf_mapf {α : Type} {f : α → D} {ds : List α} : dsOf (ds.map fun x => Val.d (f x)) = some (ds.map f) := by
  induction ds with
  | nil => rfl
  | cons d ds ih => simp [dsOf, ih]
theorem k_lc {g : FG} {t : FT} {el : FE} {ρ : Rho} {μ : Mu} {K : KE} {ds : List D} (p : D → Bool) (v : D → D) (hl : ds.length < 1000000)
    (h : ∀ d ∈ ds, Wp (g (.d d) ρ μ) fun ρ' μ' => μ' = μ ∧ Wp (t ρ' μ) fun b μ' => b = p d ∧ μ' = μ ∧ (p d = true → Wp (el ρ' μ) fun w μ' => w = .d (v d) ∧ μ' = μ))
    (hk : K (.d (.lst ((ds.filter p).map v))) μ) : kLc false g t el ρ K ds μ := by
  have e := lcGo_pw p (fun d => Val.d (v d)) ds h
  have hl2 : (ds.filter p).length < 1000000 := Nat.lt_of_le_of_lt (List.length_filter_le ..) hl
  unfold kLc
  simp only [e, R.bind_ok, lcFin, List.length_map, hl2, if_true, dsOf_mapf]
  exact hk
theorem k_lcL {g : FG} {t : FT} {el : FE} {ρ : Rho} {μ : Mu} {K : KE} {ds : List D} (p : D → Bool) (v : D → Val) (hl : ds.length < 1000000)
    (h : ∀ d ∈ ds, Wp (g (.d d) ρ μ) fun ρ' μ' => μ' = μ ∧ Wp (t ρ' μ) fun b μ' => b = p d ∧ μ' = μ ∧ (p d = true → Wp (el ρ' μ) fun w μ' => w = v d ∧ μ' = μ))
    (hk : K (.own μ.length) (μ ++ [.lst ((ds.filter p).map v)])) : kLc true g t el ρ K ds μ := by
  have e := lcGo_pw p v ds h
  have hl2 : (ds.filter p).length < 1000000 := Nat.lt_of_le_of_lt (List.length_filter_le ..) hl
  unfold kLc
  simp only [e, R.bind_ok, lcFin, List.length_map, hl2, if_true]
  exact hk
/-- each item by a value, no test -/
theorem k_lcA {α : Type} {g : FG} {el : FE} {ρ : Rho} {μ : Mu} {K : KE} {xs : List α} (en : α → D) (v : α → D) (hl : xs.length < 1000000)
    (h : ∀ x ∈ xs, Wp (g (.d (en x)) ρ μ) fun ρ' μ' => μ' = μ ∧ Wp (el ρ' μ) fun w μ' => w = .d (v x) ∧ μ' = μ)
    (hk : K (.d (.lst (xs.map v))) μ) : kLc false g fYes el ρ K (xs.map en) μ := by
  have key : ∀ ys : List α, (∀ x ∈ ys, x ∈ xs) → lcGo g fYes el (ys.map en) ρ μ = .ok (ys.map fun x => Val.d (v x), μ) := by
    intro ys
    induction ys with
    | nil => intro _; rfl
    | cons y ys ih =>
      intro hy
      obtain ⟨ρ1, μ1, e1, h1, h2⟩ := (h y (hy y (List.mem_cons_self ..))).elim
      subst h1
      obtain ⟨w, μ2, e2, h3, h4⟩ := h2.elim
      subst h4
      subst h3
      have ih := ih fun x hx => hy x (List.mem_cons_of_mem _ hx)
      simp only [List.map_cons, lcGo, e1, R.noex_ok, R.bind_ok, fYes, if_true, e2, ih]
  unfold kLc
  simp only [key xs fun _ h => h, R.bind_ok, lcFin, List.length_map, hl, if_true, dsOf_mapf]
  exact hk
/-- items that pass a test, as they are -/
theorem k_lcF {α : Type} {g : FG} {t : FT} {el : FE} {ρ : Rho} {μ : Mu} {K : KE} {xs : List α} (en : α → D) (p : α → Bool) (v : α → D) (hl : xs.length < 1000000)
    (h : ∀ x ∈ xs, Wp (g (.d (en x)) ρ μ) fun ρ' μ' => μ' = μ ∧ Wp (t ρ' μ) fun b μ' => b = p x ∧ μ' = μ ∧ (p x = true → Wp (el ρ' μ) fun w μ' => w = .d (v x) ∧ μ' = μ))
    (hk : K (.d (.lst ((xs.filter p).map v))) μ) : kLc false g t el ρ K (xs.map en) μ := by
  have key : ∀ ys : List α, (∀ x ∈ ys, x ∈ xs) → lcGo g t el (ys.map en) ρ μ = .ok ((ys.filter p).map fun x => Val.d (v x), μ) := by
    intro ys
    induction ys with
    | nil => intro _; rfl
    | cons y ys ih =>
      intro hy
      obtain ⟨ρ1, μ1, e1, h1, h2⟩ := (h y (hy y (List.mem_cons_self ..))).elim
      subst h1
      obtain ⟨b, μ2, e2, h3, h4, h5⟩ := h2.elim
      subst h4
      have ih := ih fun x hx => hy x (List.mem_cons_of_mem _ hx)
      simp only [List.map_cons, lcGo, e1, R.noex_ok, R.bind_ok, e2]
      cases hp : p y with
      | false => simp [h3, hp, ih]
      | true =>
        obtain ⟨w, μ3, e3, h6, h7⟩ := (h5 hp).elim
        subst h7
        simp [h3, hp, e3, h6, ih]
  have hl2 : (xs.filter p).length < 1000000 := Nat.lt_of_le_of_lt (List.length_filter_le ..) hl
  unfold kLc
  simp only [key xs fun _ h => h, R.bind_ok, lcFin, List.length_map, hl2, if_true, dsOf_mapf]
  exact hk
def kAugK3 (q i : Val) (a : Int) (ρ : Rho) (S : KS) : KE := fun p μ => match p with
    | .d (.int b) => (match putD ρ.n0 μ q i (.d (.int (a + b))) with
      | some μ' => S .nx (ρ, μ')
      | none => False)
    | _ => False
def kAugK2 (q : Val) (fv : FE) (ρ : Rho) (S : KS) : KE := fun i μ => match dGet μ q i with
  | some (some (.d (.int a))) => Wp (fv ρ μ) (kAugK3 q i a ρ S)
  | _ => False
def kAugK1 (fi fv : FE) (ρ : Rho) (S : KS) : KE := fun q μ => Wp (fi ρ μ) (kAugK2 q fv ρ S)
@[simp ↓] theorem w_AugK {ρ : Rho} {μ : Mu} {S : KS} {fo fi fv : FE} : Wp (fAugK fo fi fv ρ μ) S = Wp (fo ρ μ) (kAugK1 fi fv ρ S) := by
  show Wp ((fo ρ μ).bind fun q => (fi ρ q.2).bind fun r => match dGet r.2 q.1 r.1 with
  | some (some (.d (.int a))) => (fv ρ r.2).bind fun p => (match p.1 with
    | .d (.int b) => (match putD ρ.n0 p.2 q.1 r.1 (.d (.int (a + b))) with
      | some μ' => .ok (.nx, ρ, μ')
      | none => .bad)
    | _ => .bad)
  | _ => .bad) S = _
  rw [wp_bind]
  congr 1
  funext q μ
  simp only
  rw [wp_bind]
  unfold kAugK1
  congr 1
  funext i μ
  unfold kAugK2
  simp only
  rcases hg : dGet μ q i with _ | _ | (x | k)
  · rfl
  · rfl
  · cases x with
    | int a =>
      simp only
      rw [wp_bind]
      congr 1
      funext p μ
      unfold kAugK3
      simp only
      rcases p with x | k
      · cases x with
        | int b =>
          simp only
          cases putD ρ.n0 μ q i (.d (.int (a + b))) <;> rfl
        | _ => rfl
      · rfl
    | _ => rfl
  · rfl
@[simp] theorem k_AugK1 {ρ : Rho} {μ : Mu} {S : KS} {fi fv : FE} {q : Val} : kAugK1 fi fv ρ S q μ = Wp (fi ρ μ) (kAugK2 q fv ρ S) := (rfl)
@[simp] theorem k_AugK2 {ρ : Rho} {μ : Mu} {S : KS} {fv : FE} {q i : Val} : kAugK2 q fv ρ S i μ = (match dGet μ q i with
  | some (some (.d (.int a))) => Wp (fv ρ μ) (kAugK3 q i a ρ S)
  | _ => False) := rfl
@[simp] theorem k_AugK3 {ρ : Rho} {μ : Mu} {S : KS} {q i : Val} {a b : Int} : kAugK3 q i a ρ S (.d (.int b)) μ = (match putD ρ.n0 μ q i (.d (.int (a + b))) with
      | some μ' => S .nx (ρ, μ')
      | none => False) := rfl
def kAug (i : Nat) (a : Int) (ρ : Rho) (S : KS) : KE := fun p μ => match p with
    | .d (.int b) => S .nx (ρ.set i (.d (.int (a + b))), μ)
    | _ => False
theorem w_Aug {ρ : Rho} {μ : Mu} {S : KS} {i : Nat} {fv : FE} {a : Int} (e : ρ.s[i]? = some (some (.d (.int a)))) : Wp (fAug i fv ρ μ) S = Wp (fv ρ μ) (kAug i a ρ S) := by
  show Wp (match ρ.s[i]? with
  | some (some v) => (fv ρ μ).bind fun p => (match v, p.1 with
    | .d (.int a), .d (.int b) => .ok (.nx, ρ.set i (.d (.int (a + b))), p.2)
    | _, _ => .bad)
  | _ => .bad) S = _
  rw [e]
  simp only
  rw [wp_bind]
  congr 1
  funext p μ
  unfold kAug
  rcases p with x | k
  · cases x <;> rfl
  · rfl
@[simp] theorem k_Aug {ρ : Rho} {μ : Mu} {S : KS} {i : Nat} {a b : Int} : kAug i a ρ S (.d (.int b)) μ = S .nx (ρ.set i (.d (.int (a + b))), μ) := (rfl)
/-- the same with a word for the end -/
theorem wp_wh2 {c : FT} {body : FS} {S : KS} {f : Nat} {ρ : Rho} {μ : Mu} (I : Nat → Rho → Mu → Prop) (E : Rho → Mu → Prop) (m : Nat) (hm : m < f) (h : I m ρ μ)
    (hs : ∀ m ρ μ, I m ρ μ → Wp (c ρ μ) fun b μ' => if b = true then Wp (body ρ μ') fun l p => l = .nx ∧ ∃ m', m' < m ∧ I m' p.1 p.2 else E ρ μ')
    (he : ∀ ρ μ, E ρ μ → S .nx (ρ, μ)) : Wp (fWh c body f ρ μ) S :=
  wp_wh I m hm h fun m ρ μ hI => (hs m ρ μ hI).mono fun b μ' hb => by
    cases b with
    | true => exact hb
    | false => exact he _ _ hb
/-! loops with opaque words -/
def kNx (I : Rho → Mu → Prop) : KS := fun l p => l = .nx ∧ I p.1 p.2
@[simp] theorem k_Nx {I : Rho → Mu → Prop} {ρ : Rho} {μ : Mu} : kNx I .nx (ρ, μ) = I ρ μ := by
  unfold kNx
  simp
def kBdG (body : FS) (S : KS) : Rho → Mu → Prop := fun ρ μ => Wp (body ρ μ) S
@[simp] theorem k_BdG {body : FS} {S : KS} {ρ : Rho} {μ : Mu} : kBdG body S ρ μ = Wp (body ρ μ) S := (rfl)
def kBdG' (el : FE) (K : KE) : Rho → Mu → Prop := fun ρ μ => Wp (el ρ μ) K
@[simp] theorem k_BdG' {el : FE} {K : KE} {ρ : Rho} {μ : Mu} : kBdG' el K ρ μ = Wp (el ρ μ) K := (rfl)
theorem wp_forI {g : FG} {body : FS} {S : KS} {ds : List D} {ρ : Rho} {μ : Mu} (I : Nat → Rho → Mu → Prop) (h : I 0 ρ μ)
    (hs : ∀ (i : Nat) d ρ μ, ds[i]? = some d → I i ρ μ → Wp (g (.d d) ρ μ) (kBdG body (kNx (I (i + 1)))))
    (he : ∀ ρ μ, I ds.length ρ μ → S .nx (ρ, μ)) : Wp (fFor g body ds ρ μ) S :=
  wp_for I 0 h (fun i d ρ μ hi hI => by
    rw [Nat.zero_add] at hI ⊢
    exact hs i d ρ μ hi hI) fun ρ μ hI => he ρ μ (by rwa [Nat.zero_add] at hI)
theorem wp_forP {g : FG} {body : FS} {S : KS} {ds : List D} {ρ : Rho} {μ : Mu} (I : List D → Rho → Mu → Prop) (h : I [] ρ μ)
    (hs : ∀ (pre : List D) d post ρ μ, ds = pre ++ d :: post → I pre ρ μ → Wp (g (.d d) ρ μ) (kBdG body (kNx (I (pre ++ [d])))))
    (he : ∀ ρ μ, I ds ρ μ → S .nx (ρ, μ)) : Wp (fFor g body ds ρ μ) S := wp_forL I h hs he
def kWh (body : FS) (I E : Rho → Mu → Prop) (ρ : Rho) : KT := fun b μ => if b = true then Wp (body ρ μ) (kNx I) else E ρ μ
@[simp] theorem k_Wh_t {body : FS} {I E : Rho → Mu → Prop} {ρ : Rho} {μ : Mu} : kWh body I E ρ true μ = Wp (body ρ μ) (kNx I) := (rfl)
@[simp] theorem k_Wh_f {body : FS} {I E : Rho → Mu → Prop} {ρ : Rho} {μ : Mu} : kWh body I E ρ false μ = E ρ μ := (rfl)
theorem wp_whI {c : FT} {body : FS} {S : KS} {f : Nat} {ρ : Rho} {μ : Mu} (I : Nat → Rho → Mu → Prop) (E : Rho → Mu → Prop) (m : Nat) (hm : m < f) (h : I m ρ μ)
    (hs : ∀ m ρ μ, I m ρ μ → Wp (c ρ μ) (kWh body (fun ρ μ => ∃ m', m' < m ∧ I m' ρ μ) E ρ))
    (he : ∀ ρ μ, E ρ μ → S .nx (ρ, μ)) : Wp (fWh c body f ρ μ) S := wp_wh2 I E m hm h hs he
end Zl
set_option Elab.async false
set_option linter.all false
set_option maxRecDepth 100000
set_option maxHeartbeats 4000000
namespace Zl
open PySem PySem.Spec L2
open PyProof.Rows hiding St
/-! # plain laws: unfolding -/
def nmR (μ : Mu) : Option (Option Val) → R (Val × Mu)
  | some (some (.d x)) => .ok (.d x, μ)
  | some (some (.own k)) => (match μ[k]? with
    | some (.fz x) => .ok (.d x, μ)
    | some .gone => .bad
    | some _ => .ok (.own k, μ)
    | none => .bad)
  | _ => .bad
theorem ap_name {n0 : Nat} {s : List (Option Val)} {i : Nat} {μ : Mu} : fName i ⟨n0, s⟩ μ = nmR μ s[i]? := by
  show (match s[i]? with
    | some (some v) => (match rdV μ v with
      | some w => R.ok (w, μ)
      | none => .bad)
    | _ => .bad) = _
  rcases s[i]? with _ | _ | v
  · rfl
  · rfl
  · cases v with
    | d x => rfl
    | own k =>
      show (match (match μ[k]? with
        | some (.fz x) => some (.d x)
        | some .gone => none
        | some _ => some (.own k)
        | none => none : Option Val) with
        | some w => R.ok (w, μ)
        | none => .bad) = (match μ[k]? with
        | some (.fz x) => .ok (.d x, μ)
        | some .gone => .bad
        | some _ => .ok (.own k, μ)
        | none => .bad)
      rcases μ[k]? with _ | c
      · rfl
      · cases c <;> rfl
@[simp] theorem nm_d {μ : Mu} {x : D} : nmR μ (some (some (.d x))) = .ok (.d x, μ) := (rfl)
theorem nm_own {μ : Mu} {k : Nat} : nmR μ (some (some (.own k))) = (match μ[k]? with
    | some (.fz x) => .ok (.d x, μ)
    | some .gone => .bad
    | some _ => .ok (.own k, μ)
    | none => .bad) := rfl
theorem filter_all {α : Type} {p : α → Bool} {l : List α} (h : ∀ x ∈ l, p x = true) : l.filter p = l := List.filter_eq_self.mpr h
section
variable {ρ : Rho} {μ : Mu}
@[simp] theorem ap_nameS (n0 : Nat) (s : List (Option Val)) (i : Nat) : fName i ⟨n0, s⟩ μ = nmR μ s[i]? := ap_name
@[simp] theorem ap_set (n0 : Nat) (s : List (Option Val)) (i : Nat) (v : Val) : Rho.set ⟨n0, s⟩ i v = ⟨n0, s.set i (some v)⟩ := (rfl)
@[simp] theorem ap_wipe (n0 : Nat) (s : List (Option Val)) (vs : List Nat) : Rho.wipe ⟨n0, s⟩ vs = ⟨n0, wipeS s vs⟩ := (rfl)
@[simp] theorem wipe_nil (s : List (Option Val)) : wipeS s [] = s := (rfl)
@[simp] theorem wipe_cons (s : List (Option Val)) (v : Nat) (vs : List Nat) : wipeS s (v :: vs) = (wipeS s vs).set v none := (rfl)
end
/-- letters and changes -/
def LetC (c : Nat) : Prop := 97 ≤ c ∧ c < 123
def Chg (x : Str) : Prop := 1 ≤ x.length ∧ x.length ≤ 6 ∧ ∀ c ∈ x.cps.toList, LetC c
theorem letter_in : ∀ c : Nat, 97 ≤ c → c < 123 → (Builtin.Str.occurrences ("abcdefghijklmnopqrstuvwxyz" : Str) (⟨#[c]⟩ : Str) 0 (("abcdefghijklmnopqrstuvwxyz" : Str)).length 1).isEmpty = false := by
  have h : ∀ k ∈ List.range 26, (Builtin.Str.occurrences ("abcdefghijklmnopqrstuvwxyz" : Str) (⟨#[97 + k]⟩ : Str) 0 (("abcdefghijklmnopqrstuvwxyz" : Str)).length 1).isEmpty = false := by decide +kernel
  intro c h1 h2
  have := h (c - 97) (List.mem_range.mpr (by omega))
  rwa [Nat.add_sub_cancel' h1] at this
@[simp] theorem kb1 : kitB "int" "int" = some true := by rfl
@[simp] theorem kb2 : kitB "int" "bool" = some false := by rfl
@[simp] theorem kb3 : kitB "str" "str" = some true := by rfl
@[simp] theorem kb4 : kitB "tuple" "tuple" = some true := by rfl
@[simp] theorem kb5 : kitB "tuple" "list" = some false := by rfl
@[simp] theorem kb6 : kitB "list" "list" = some true := by rfl
section
variable {μ : Mu}
@[simp] theorem tru_d (x : D) : truV μ (.d x) = truD x := (rfl)
@[simp] theorem truD_bl (b : Bool) : truD (.bl b) = some b := (rfl)
@[simp] theorem oLe_i (i j : Int) : oLe (.d (.int i)) (.d (.int j)) μ = .ok (.d (.bl (decide (i ≤ j))), μ) := (rfl)
@[simp] theorem oLt_i (i j : Int) : oLt (.d (.int i)) (.d (.int j)) μ = .ok (.d (.bl (decide (i < j))), μ) := (rfl)
@[simp] theorem oGt_i (i j : Int) : oGt (.d (.int i)) (.d (.int j)) μ = .ok (.d (.bl (decide (j < i))), μ) := (rfl)
@[simp] theorem oGe_i (i j : Int) : oGe (.d (.int i)) (.d (.int j)) μ = .ok (.d (.bl (decide (j ≤ i))), μ) := (rfl)
@[simp] theorem oAdd_i (i j : Int) : oAdd (.d (.int i)) (.d (.int j)) μ = .ok (.d (.int (i + j)), μ) := (rfl)
@[simp] theorem oSub_i (i j : Int) : oSub (.d (.int i)) (.d (.int j)) μ = .ok (.d (.int (i - j)), μ) := (rfl)
@[simp] theorem oEq_i (n : Bool) (i j : Int) : oEq n (.d (.int i)) (.d (.int j)) μ = .ok (.d (.bl (if n then !decide (i = j) else decide (i = j))), μ) := by
  have e : (i == j) = decide (i = j) := rfl
  simp [oEq, pyV, D.py, SeqAt.shaped, PyData.canLay0, PyData.depth, PyData.eqv, e]
theorem blsD_f {α : Type} (f : α → Bool) (l : List α) : blsD (l.map fun d => .bl (f d)) = some (l.map f) := by
  induction l with
  | nil => rfl
  | cons d ds ih => simp [blsD, ih]
@[simp] theorem filter_tt {α : Type} (l : List α) : l.filter (fun _ => true) = l := filter_all fun _ _ => rfl
theorem oAll_map {α : Type} (f : α → Bool) (l : List α) : oAll [.d (.lst (l.map fun d => .bl (f d)))] μ = .ok (.d (.bl (l.all f)), μ) := by
  simp [oAll, lstV, blsD_f]
theorem oAny_map {α : Type} (f : α → Bool) (l : List α) : oAny [.d (.lst (l.map fun d => .bl (f d)))] μ = .ok (.d (.bl (l.any f)), μ) := by
  simp [oAny, lstV, blsD_f]
end
theorem mem_signs {x : Str} {d : D} (h : d ∈ signsD x) : ∃ c ∈ x.cps.toList, d = .str ⟨#[c]⟩ := by
  obtain ⟨c, hc, e⟩ := List.mem_map.mp h
  exact ⟨c, hc, e.symm⟩
structure Ver where
  ups : List Nat
  deed : Option (Bool × Str)
def actW (b : Bool) : Str := if b then "apply" else "revert"
def actD : Option (Bool × Str) → D
  | none => .non
  | some (b, w) => .tup [.str (actW b), .str w]
def natD (n : Nat) : D := .int n
def verD (v : Ver) : D := .tup [.tup (v.ups.map natD), actD v.deed]
inductive UpsOk (n : Nat) : List Nat → Prop where
  | none : UpsOk n []
  | one {a : Nat} (h : a < n) : UpsOk n [a]
  | two {a b : Nat} (h : a < b) (hb : b < n) : UpsOk n [a, b]
def DeedOk (a : Option (Bool × Str)) : Prop := ∀ b w, a = some (b, w) → Chg w
structure VerOk (n : Nat) (v : Ver) : Prop where
  ups : UpsOk n v.ups
  deed : DeedOk v.deed
theorem Chg.ok {x : Str} (h : Chg x) : PyData.strOk x = true := by
  obtain ⟨_, _, h3⟩ := h
  unfold PyData.strOk
  rw [← Array.all_toList, List.all_eq_true]
  intro c hc
  have := h3 c hc
  unfold LetC at this
  simp
  omega
section
variable {μ : Mu}
@[simp] theorem lenV_d (x : D) : lenV μ (.d x) = lenD x := (rfl)
@[simp] theorem oLen_d (x : D) : oLen [.d x] μ = (match lenD x with
    | some n => .ok (.d (.int (n : Int)), μ)
    | none => .bad) := rfl
@[simp] theorem lenD_tup (ds : List D) : lenD (.tup ds) = some ds.length := (rfl)
@[simp] theorem lenD_lst (ds : List D) : lenD (.lst ds) = some ds.length := (rfl)
theorem oIx_tup {ds : List D} {i : Int} {x : D} (h : atI ds i = some x) : oIx (.d (.tup ds)) (.d (.int i)) μ = .ok (.d x, μ) := by
  simp [oIx, seqV, h]
theorem oIx_lst {ds : List D} {i : Int} {x : D} (h : atI ds i = some x) : oIx (.d (.lst ds)) (.d (.int i)) μ = .ok (.d x, μ) := by
  simp [oIx, seqV, lstV, h]
@[simp] theorem ix0 {a : D} {r : List D} : oIx (.d (.tup (a :: r))) (.d (.int 0)) μ = .ok (.d a, μ) := oIx_tup (by simp [atI, ixN])
@[simp] theorem ix1 {a b : D} {r : List D} : oIx (.d (.tup (a :: b :: r))) (.d (.int 1)) μ = .ok (.d b, μ) := oIx_tup (by
  simp [atI, ixN]
  split
  · rfl
  · omega)
@[simp] theorem ix2 {a b c : D} {r : List D} : oIx (.d (.tup (a :: b :: c :: r))) (.d (.int 2)) μ = .ok (.d c, μ) := oIx_tup (by
  simp [atI, ixN]
  split
  · rfl
  · omega)
@[simp] theorem ix3 {a b c d : D} {r : List D} : oIx (.d (.tup (a :: b :: c :: d :: r))) (.d (.int 3)) μ = .ok (.d d, μ) := oIx_tup (by
  simp [atI, ixN]
  split
  · rfl
  · omega)
@[simp] theorem kind_d (x : D) : kindV μ (.d x) = kindD x := (rfl)
@[simp] theorem isN_d (n : Bool) (x : D) : oIsN n (.d x) μ = (match x with
  | .non => .ok (.d (.bl (!n)), μ)
  | .obj _ => .bad
  | _ => .ok (.d (.bl n), μ)) := by
  cases x <;> rfl
@[simp] theorem oNot_bl (b : Bool) : oNot (.d (.bl b)) μ = .ok (.d (.bl (!b)), μ) := (rfl)
end
structure OkD (k : Nat) (d : D) : Prop where
  py : D.py d = some (pyOf d)
  lay : (pyOf d).canLay0 = true
  dep : (pyOf d).depth ≤ k
theorem OkD.mono {k k' : Nat} {d : D} (h : OkD k d) (hk : k ≤ k') : OkD k' d := ⟨h.py, h.lay, Nat.le_trans h.dep hk⟩
theorem OkD.shaped {k : Nat} {d : D} (h : OkD k d) (hk : k ≤ 64) : SeqAt.shaped (pyOf d) = true := by
  have := h.dep
  simp [SeqAt.shaped, h.lay]
  omega
theorem okd_int {k : Nat} (i : Int) : OkD k (.int i) := ⟨rfl, by simp [pyOf, D.py, PyData.canLay0], by simp [pyOf, D.py, PyData.depth]⟩
theorem okd_non {k : Nat} : OkD k .non := ⟨rfl, by simp [pyOf, D.py, PyData.canLay0], by simp [pyOf, D.py, PyData.depth]⟩
theorem okd_str {k : Nat} {x : Str} (h : PyData.strOk x = true) : OkD k (.str x) := ⟨rfl, by simp [pyOf, D.py, PyData.canLay0, h], by simp [pyOf, D.py, PyData.depth]⟩
theorem okL {k : Nat} : ∀ {ds : List D}, (∀ d ∈ ds, OkD k d) → D.pyL ds = some (ds.map pyOf) ∧ PyData.canLayAll0 (ds.map pyOf) = true ∧ PyData.depthAll (ds.map pyOf) ≤ k
  | [], _ => ⟨rfl, by simp [PyData.canLayAll0], by simp [PyData.depthAll]⟩
  | d :: ds, h => by
    obtain ⟨a, b, c⟩ := okL fun d hd => h d (List.mem_cons_of_mem _ hd)
    have h0 := h d (List.mem_cons_self ..)
    refine ⟨?_, ?_, ?_⟩
    · simp [D.pyL, h0.py, a]
    · simp [PyData.canLayAll0, h0.lay, b]
    · have := h0.dep
      simp [PyData.depthAll]
      omega
theorem py_tup {k : Nat} {ds : List D} (h : ∀ d ∈ ds, OkD k d) : pyOf (.tup ds) = .tuple (ds.map pyOf) := by simp [pyOf, D.py, (okL h).1]
theorem py_lst {k : Nat} {ds : List D} (h : ∀ d ∈ ds, OkD k d) : pyOf (.lst ds) = .list (ds.map pyOf) := by simp [pyOf, D.py, (okL h).1]
theorem okd_tup {k : Nat} {ds : List D} (h : ∀ d ∈ ds, OkD k d) : OkD (k + 1) (.tup ds) := by
  obtain ⟨a, b, c⟩ := okL h
  refine ⟨by rw [py_tup h]; simp [D.py, a], ?_, ?_⟩
  · simp [py_tup h, PyData.canLay0, b]
  · simp [py_tup h, PyData.depth]; omega
theorem okd_lst {k : Nat} {ds : List D} (h : ∀ d ∈ ds, OkD k d) : OkD (k + 1) (.lst ds) := by
  obtain ⟨a, b, c⟩ := okL h
  refine ⟨by rw [py_lst h]; simp [D.py, a], ?_, ?_⟩
  · simp [py_lst h, PyData.canLay0, b]
  · simp [py_lst h, PyData.depth]; omega
mutual
theorem eqv_self : ∀ p : PyData, p.canLay0 = true → PyData.eqv p p = true
  | .none, _ => by simp [PyData.eqv]
  | .bool _, _ => by simp [PyData.eqv]
  | .int _, _ => by simp [PyData.eqv]
  | .str _, _ => by simp [PyData.eqv]
  | .list xs, h => by
    simp only [PyData.canLay0] at h
    simp [PyData.eqv, eqvAll_self xs h]
  | .tuple xs, h => by
    simp only [PyData.canLay0] at h
    simp [PyData.eqv, eqvAll_self xs h]
  | .dict _, h => by simp [PyData.canLay0] at h
theorem eqvAll_self : ∀ ps : List PyData, PyData.canLayAll0 ps = true → PyData.eqvAll ps ps = true
  | [], _ => by simp [PyData.eqvAll]
  | p :: ps, h => by
    simp only [PyData.canLayAll0, Bool.and_eq_true] at h
    simp [PyData.eqvAll, eqv_self p h.1, eqvAll_self ps h.2]
end
section
variable {μ : Mu} {k : Nat}
theorem oEq_self {d : D} (n : Bool) (h : OkD k d) (hk : k ≤ 64) : oEq n (.d d) (.d d) μ = .ok (.d (.bl (!n)), μ) := by
  simp [oEq, pyV, h.py, h.shaped hk, eqv_self _ h.lay]
theorem oEq_str {x y : Str} (n : Bool) (h : PyData.strOk x = true) (h' : PyData.strOk y = true) : oEq n (.d (.str x)) (.d (.str y)) μ = .ok (.d (.bl (if n then !decide (x = y) else decide (x = y))), μ) := by
  have e : (x == y) = decide (x = y) := rfl
  have a := (okd_str (k := 0) h).shaped (by omega)
  have b := (okd_str (k := 0) h').shaped (by omega)
  simp only [pyOf, D.py, Option.getD_some] at a b
  simp [oEq, pyV, D.py, a, b, PyData.eqv, e]
theorem shaped_nilL : SeqAt.shaped (.list []) = true := by simp [SeqAt.shaped, PyData.canLay0, PyData.canLayAll0, PyData.depth, PyData.depthAll]
theorem shaped_nilT : SeqAt.shaped (.tuple []) = true := by simp [SeqAt.shaped, PyData.canLay0, PyData.canLayAll0, PyData.depth, PyData.depthAll]
theorem oEq_nilL {ds : List D} (n : Bool) (h : ∀ d ∈ ds, OkD k d) (hk : k < 64) : oEq n (.d (.lst ds)) (.d (.lst [])) μ = .ok (.d (.bl (if n then !ds.isEmpty else ds.isEmpty)), μ) := by
  have a := (okd_lst h).shaped (by omega)
  have b := (okd_lst h).py
  simp only [py_lst h] at a b
  have e : PyData.eqvAll (ds.map pyOf) [] = ds.isEmpty := by cases ds <;> simp [PyData.eqvAll]
  have e2 : D.py (.lst []) = some (.list []) := by simp [D.py, D.pyL]
  simp [oEq, pyV, b, a, shaped_nilL, PyData.eqv, e, e2]
theorem oEq_nilT {ds : List D} (n : Bool) (h : ∀ d ∈ ds, OkD k d) (hk : k < 64) : oEq n (.d (.tup ds)) (.d (.tup [])) μ = .ok (.d (.bl (if n then !ds.isEmpty else ds.isEmpty)), μ) := by
  have a := (okd_tup h).shaped (by omega)
  have b := (okd_tup h).py
  simp only [py_tup h] at a b
  have e : PyData.eqvAll (ds.map pyOf) [] = ds.isEmpty := by cases ds <;> simp [PyData.eqvAll]
  have e2 : D.py (.tup []) = some (.tuple []) := by simp [D.py, D.pyL]
  simp [oEq, pyV, b, a, shaped_nilT, PyData.eqv, e, e2]
/-- membership of a datum in a row -/
theorem oIn_row {v w : Val} {es : List D} {d : D} (n : Bool) (hv : ∀ x, v ≠ .d (.str x) ∨ ∀ y, w ≠ .d (.str y)) (hw : seqV μ w = some es) (hd : pyV μ v = some (pyOf d)) (h1 : OkD k d) (h2 : ∀ e ∈ es, OkD k e) (hk : k < 64) :
    oIn n v w μ = .ok (.d (.bl (if n then !(es.any fun e => PyData.eqv (pyOf e) (pyOf d)) else es.any fun e => PyData.eqv (pyOf e) (pyOf d))), μ) := by
  have a := h1.shaped (by omega)
  have b := (okd_lst h2).shaped (by omega)
  have c := (okd_tup h2).shaped (by omega)
  rw [py_lst h2] at b
  rw [py_tup h2] at c
  have e := (okL h2).1
  have key : ((match seqV μ w with
    | some es => (match pyV μ v, D.pyL es with
      | some p, some ps => if SeqAt.shaped p = true ∧ SeqAt.shaped (.list ps) = true ∧ SeqAt.shaped (.tuple ps) = true then .ok (.d (.bl (if n then !(ps.any fun z => PyData.eqv z p) else ps.any fun z => PyData.eqv z p)), μ) else .bad
      | _, _ => .bad)
    | none => (match dGet μ w v with
      | some o => .ok (.d (.bl (if n then !o.isSome else o.isSome)), μ)
      | none => .bad)) : R (Val × Mu)) = .ok (.d (.bl (if n then !(es.any fun e => PyData.eqv (pyOf e) (pyOf d)) else es.any fun e => PyData.eqv (pyOf e) (pyOf d))), μ) := by
    simp [hw, hd, e, a, b, c, List.any_map, Function.comp_def]
  rw [← key]
  unfold oIn
  split
  · rename_i i j
    rcases hv i with h | h
    · exact absurd rfl h
    · exact absurd rfl (h j)
  · rfl
theorem any_strs {x : Str} {ws : List Str} : ((ws.map D.str).any fun e => PyData.eqv (pyOf e) (pyOf (.str x))) = decide (x ∈ ws) := by
  induction ws with
  | nil => rfl
  | cons w ws ih =>
    simp only [List.map_cons, List.any_cons, ih]
    simp only [pyOf, D.py, Option.getD_some, PyData.eqv]
    by_cases e : w = x
    · subst e; simp
    · have : ¬ x = w := fun h => e h.symm
      simp [e, this]
theorem any_nats {x : Nat} {ws : List Nat} : ((ws.map natD).any fun e => PyData.eqv (pyOf e) (pyOf (.int x))) = decide (x ∈ ws) := by
  induction ws with
  | nil => rfl
  | cons w ws ih =>
    simp only [List.map_cons, List.any_cons, ih]
    simp only [natD, pyOf, D.py, Option.getD_some, PyData.eqv]
    by_cases e : w = x
    · subst e; simp
    · have : ¬ x = w := fun h => e h.symm
      have h2 : ¬ (w : Int) = (x : Int) := by omega
      simp [e, this, h2]
theorem okd_strs {ws : List Str} (h : ∀ w ∈ ws, PyData.strOk w = true) : ∀ d ∈ ws.map D.str, OkD k d := by
  intro d hd
  obtain ⟨w, hw, e⟩ := List.mem_map.mp hd
  subst e
  exact okd_str (h w hw)
theorem okd_nats {ws : List Nat} : ∀ d ∈ ws.map natD, OkD k d := by
  intro d hd
  obtain ⟨w, hw, e⟩ := List.mem_map.mp hd
  subst e
  exact okd_int _
theorem oIn_strT {x : Str} {ws : List Str} (n : Bool) (hx : PyData.strOk x = true) (h : ∀ w ∈ ws, PyData.strOk w = true) : oIn n (.d (.str x)) (.d (.tup (ws.map D.str))) μ = .ok (.d (.bl (if n then !decide (x ∈ ws) else decide (x ∈ ws))), μ) := by
  rw [oIn_row (k := 0) n (fun _ => .inr fun _ e => by cases e) rfl rfl (okd_str hx) (okd_strs h) (by omega), any_strs]
theorem oIn_strL {x : Str} {ws : List Str} (n : Bool) (hx : PyData.strOk x = true) (h : ∀ w ∈ ws, PyData.strOk w = true) : oIn n (.d (.str x)) (.d (.lst (ws.map D.str))) μ = .ok (.d (.bl (if n then !decide (x ∈ ws) else decide (x ∈ ws))), μ) := by
  rw [oIn_row (k := 0) n (fun _ => .inr fun _ e => by cases e) rfl rfl (okd_str hx) (okd_strs h) (by omega), any_strs]
theorem oIn_natL {x : Nat} {ws : List Nat} (n : Bool) : oIn n (.d (.int x)) (.d (.lst (ws.map natD))) μ = .ok (.d (.bl (if n then !decide (x ∈ ws) else decide (x ∈ ws))), μ) := by
  rw [oIn_row (k := 0) (d := .int x) n (fun _ => .inr fun _ e => by cases e) rfl rfl (okd_int _) okd_nats (by omega), any_nats]
end
theorem strOk_act (b : Bool) : PyData.strOk (actW b) = true := by cases b <;> decide +kernel
@[simp] theorem tb_ty (a b : String) : tbB (.ty a) (.ty b) = kitB a b := (rfl)
@[simp] theorem kind_tup (ds : List D) : kindD (.tup ds) = some (.ty "tuple") := (rfl)
@[simp] theorem kind_lst (ds : List D) : kindD (.lst ds) = some (.ty "list") := (rfl)
@[simp] theorem kind_str (x : Str) : kindD (.str x) = some (.ty "str") := (rfl)
@[simp] theorem kind_int (x : Int) : kindD (.int x) = some (.ty "int") := (rfl)
@[simp] theorem any_nil (tb : KTb) (k : Kd) : isAny tb k [] = some false := (rfl)
@[simp] theorem any_cons (tb : KTb) (k c : Kd) (cs : List Kd) : isAny tb k (c :: cs) = (match tb k c with
    | some true => some true
    | some false => isAny tb k cs
    | none => none) := rfl
@[simp] theorem dsOf_nil : dsOf [] = some [] := (rfl)
@[simp] theorem dsOf_c (x : D) (r : List Val) : dsOf (.d x :: r) = (dsOf r).map (x :: ·) := (rfl)
structure Draw where
  gs : List Int
  ls : List Int
  d : Int
  t : Int
def ivals (l : List Int) : List Val := l.map fun i => .d (.int i)
def drw (w : Draw) : Mu := [.lst (ivals w.gs), .lst (ivals w.ls), .dK [.inr "digits", .inr "great", .inr "lumps", .inr "turn"] [.d (.int w.d), .own 0, .own 1, .d (.int w.t)]]
structure DrOk (n : Nat) (w : Draw) : Prop where
  gs : w.gs.length ≤ 63
  t0 : 0 ≤ w.t
  tn : w.t ≤ n
theorem DrOk.mono {n n' : Nat} {w : Draw} (h : DrOk n w) (hn : n ≤ n') : DrOk n' w := ⟨h.gs, h.t0, by have := h.tn; omega⟩
@[simp] theorem drw_len (w : Draw) : (drw w).length = 3 := (rfl)
theorem n1 : ¬ ("digits" : Str) = "great" := by decide +kernel
theorem k1 : ((.inr "digits" : Key) = .inr "great") = False := by simp [n1]
theorem n2 : ¬ ("digits" : Str) = "lumps" := by decide +kernel
theorem k2 : ((.inr "digits" : Key) = .inr "lumps") = False := by simp [n2]
theorem n3 : ¬ ("digits" : Str) = "turn" := by decide +kernel
theorem k3 : ((.inr "digits" : Key) = .inr "turn") = False := by simp [n3]
theorem n4 : ¬ ("great" : Str) = "lumps" := by decide +kernel
theorem k4 : ((.inr "great" : Key) = .inr "lumps") = False := by simp [n4]
theorem n5 : ¬ ("great" : Str) = "turn" := by decide +kernel
theorem k5 : ((.inr "great" : Key) = .inr "turn") = False := by simp [n5]
theorem n6 : ¬ ("lumps" : Str) = "turn" := by decide +kernel
theorem k6 : ((.inr "lumps" : Key) = .inr "turn") = False := by simp [n6]
theorem dsOf_ivals (l : List Int) : dsOf (ivals l) = some (l.map D.int) := dsOf_mapf
section
variable {w : Draw} {r : Mu}
theorem dr_get0 : (drw w ++ r)[0]? = some (.lst (ivals w.gs)) := rfl
theorem dr_get1 : (drw w ++ r)[1]? = some (.lst (ivals w.ls)) := rfl
theorem dr_get2 : (drw w ++ r)[2]? = some (.dK [.inr "digits", .inr "great", .inr "lumps", .inr "turn"] [.d (.int w.d), .own 0, .own 1, .d (.int w.t)]) := rfl
@[simp] theorem dr_nm0 : nmR (drw w ++ r) (some (some (.own 0))) = .ok (.own 0, drw w ++ r) := by simp [nm_own, dr_get0]
@[simp] theorem dr_nm2 : nmR (drw w ++ r) (some (some (.own 2))) = .ok (.own 2, drw w ++ r) := by rw [nm_own, dr_get2]
@[simp] theorem dr_digits : oIx (.own 2) (.d (.str "digits")) (drw w ++ r) = .ok (.d (.int w.d), drw w ++ r) := by
  simp only [oIx, seqV, lstV, dGet, dKV, dr_get2, keyV, keyD, Option.map, getK, if_true]
@[simp] theorem dr_great : oIx (.own 2) (.d (.str "great")) (drw w ++ r) = .ok (.own 0, drw w ++ r) := by
  simp only [oIx, seqV, lstV, dGet, dKV, dr_get2, keyV, keyD, Option.map, getK, if_true, k1, if_false]
@[simp] theorem dr_lumps : oIx (.own 2) (.d (.str "lumps")) (drw w ++ r) = .ok (.own 1, drw w ++ r) := by
  simp only [oIx, seqV, lstV, dGet, dKV, dr_get2, keyV, keyD, Option.map, getK, if_true, k2, k4, if_false]
@[simp] theorem dr_turn : oIx (.own 2) (.d (.str "turn")) (drw w ++ r) = .ok (.d (.int w.t), drw w ++ r) := by
  simp only [oIx, seqV, lstV, dGet, dKV, dr_get2, keyV, keyD, Option.map, getK, if_true, k3, k5, k6, if_false]
@[simp] theorem dr_gTurn : dGet (drw w ++ r) (.own 2) (.d (.str "turn")) = some (some (.d (.int w.t))) := by
  simp only [dGet, dKV, dr_get2, keyV, keyD, Option.map, getK, if_true, k3, k5, k6, if_false]
theorem okd_ints {k : Nat} {l : List Int} : ∀ d ∈ l.map D.int, OkD k d := by
  intro d hd
  obtain ⟨w, hw, e⟩ := List.mem_map.mp hd
  subst e
  exact okd_int _
theorem lstV_0 : lstV (drw w ++ r) (.own 0) = some (w.gs.map D.int) := by simp only [lstV, dr_get0, dsOf_ivals]
theorem lstV_1 : lstV (drw w ++ r) (.own 1) = some (w.ls.map D.int) := by simp only [lstV, dr_get1, dsOf_ivals]
theorem oEq_own {μ : Mu} {k j : Nat} {ds : List D} (n : Bool) (e : lstV μ (.own j) = some ds) (h : ∀ d ∈ ds, OkD k d) (hk : k < 64) : oEq n (.own j) (.d (.lst [])) μ = .ok (.d (.bl (if n then !ds.isEmpty else ds.isEmpty)), μ) := by
  have e2 := (okd_lst h).py
  have a := oEq_nilL (μ := μ) n h hk
  rw [← a]
  unfold oEq
  have : pyV μ (.own j) = pyV μ (.d (.lst ds)) := by
    simp [pyV, e, D.py, (okL h).1]
  rw [this]
@[simp] theorem dr_ne0 (n : Bool) : oEq n (.own 0) (.d (.lst [])) (drw w ++ r) = .ok (.d (.bl (if n then !w.gs.isEmpty else w.gs.isEmpty)), drw w ++ r) := by
  rw [oEq_own (k := 0) n lstV_0 okd_ints (by omega)]
  simp
@[simp] theorem dr_ne1 (n : Bool) : oEq n (.own 1) (.d (.lst [])) (drw w ++ r) = .ok (.d (.bl (if n then !w.ls.isEmpty else w.ls.isEmpty)), drw w ++ r) := by
  rw [oEq_own (k := 0) n lstV_1 okd_ints (by omega)]
  simp
@[simp] theorem dr_put (n0 : Nat) (x : Int) : putD n0 (drw w ++ r) (.own 2) (.d (.str "digits")) (.d (.int x)) = some (drw { w with d := x } ++ r) := by
  simp [putD, dr_get2, keyV, keyD, okW, putKs, repK, k1, k2, k3]
  simp [drw, n1, n2, n3, n5, n6, Ne.symm n1, Ne.symm n2, Ne.symm n3]
@[simp] theorem dr_putT (n0 : Nat) (x : Int) : putD n0 (drw w ++ r) (.own 2) (.d (.str "turn")) (.d (.int x)) = some (drw { w with t := x } ++ r) := by
  simp [putD, dr_get2, keyV, keyD, okW, putKs, repK, k1, k2, k3]
  simp [drw, n1, n2, n3, n5, n6, Ne.symm n1, Ne.symm n2, Ne.symm n3]
@[simp] theorem dr_ty0 : tyB "list" (drw w ++ r) (.own 0) = true := by simp [tyB, dr_get0]
theorem dr_pop (n0 : Nat) {g : Int} {gs : List Int} (h : w.gs = g :: gs) : oPopAt n0 (.own 0) [.d (.int 0)] (drw w ++ r) = .ok (.d (.int g), drw { w with gs := gs } ++ r) := by
  have e : seqIndex? 0 (ivals (g :: gs)).length = some 0 := by simp [seqIndex?, ivals]
  simp [oPopAt, dr_get0, h, e]
  simp [ivals, drw]
@[simp] theorem dr_len1 : lenV (drw w ++ r) (.own 1) = some w.ls.length := by simp [lenV, dr_get1, ivals]
end
section
variable {μ : Mu}
@[simp] theorem oInt1_i (i : Int) : oInt1 [.d (.int i)] μ = .ok (.d (.int i), μ) := (rfl)
@[simp] theorem oInt1_b (b : Bool) : oInt1 [.d (.bl b)] μ = .ok (.d (.int (if b then 1 else 0)), μ) := (rfl)
theorem oMod_i (i : Int) {j : Int} (h : 0 < j) : oMod (.d (.int i)) (.d (.int j)) μ = .ok (.d (.int (i % j)), μ) := by simp [oMod, oInt, h]
theorem oFdiv_i (i : Int) {j : Int} (h : 0 < j) (h2 : j < 2 ^ 64) : oFdiv (.d (.int i)) (.d (.int j)) μ = .ok (.d (.int (i / j)), μ) := by
  unfold oFdiv oInt
  simp only [decide_eq_true_eq]
  rw [if_pos ⟨h, h2⟩]
theorem oPow_i {i : Int} {j : Int} (h : 0 ≤ j ∧ j ≤ 1000000) (h2 : i.natAbs < 2 ^ 64) : oPow (.d (.int i)) (.d (.int j)) μ = .ok (.d (.int (i ^ j.toNat)), μ) := by
  unfold oPow oInt
  simp only [decide_eq_true_eq]
  rw [if_pos ⟨h.1, h.2, h2⟩]
theorem oMul_i {i j : Int} (h : -(2 ^ 64) < i ∧ i < 2 ^ 64) : oMul (.d (.int i)) (.d (.int j)) μ = .ok (.d (.int (i * j)), μ) := by
  unfold oMul
  simp only
  rw [if_pos (.inl h)]
end

@[simp] theorem drw_take (w : Draw) (r : Mu) : List.take (3 + r.length) (drw w ++ r) = drw w ++ r := List.take_of_length_le (by simp)
theorem dr_lump {w : Draw} {r : Mu} {i : Int} (h0 : 0 ≤ i) (h : i < w.ls.length) : ∃ z, oIx (.own 1) (.d (.int i)) (drw w ++ r) = .ok (.d (.int z), drw w ++ r) := by
  have hi : i.toNat < w.ls.length := by omega
  refine ⟨w.ls[i.toNat], ?_⟩
  have e : atI (w.ls.map D.int) i = some (.int w.ls[i.toNat]) := by
    simp [atI, ixN, h0, h]
  simp [oIx, seqV, lstV_1, e]
theorem atI_ok {α : Type} {l : List α} {z : Int} (h0 : 0 ≤ z) (h : z < l.length) : ∃ x ∈ l, atI l z = some x := by
  have hz : z.toNat < l.length := by omega
  exact ⟨l[z.toNat], List.getElem_mem hz, by simp [atI, ixN, h0, h]⟩
section
variable {w : Draw} {r q : Mu} {c c' : Cell}
theorem up_get : (drw w ++ (r ++ c :: q))[3 + r.length]? = some c := by
  rw [List.getElem?_append_right (by simp), drw_len, Nat.add_sub_cancel_left, List.getElem?_append_right (Nat.le_refl _), Nat.sub_self]
  rfl
theorem up_set : (drw w ++ (r ++ c :: q)).set (3 + r.length) c' = drw w ++ (r ++ c' :: q) := by
  rw [List.set_append_right _ _ (by simp), drw_len, Nat.add_sub_cancel_left, List.set_append_right _ _ (Nat.le_refl _), Nat.sub_self]
  rfl
theorem up_get1 {d : Cell} : (drw w ++ (r ++ d :: c :: q))[3 + r.length + 1]? = some c := by
  rw [List.getElem?_append_right (by simp; omega), drw_len, List.getElem?_append_right (by omega), show 3 + r.length + 1 - 3 - r.length = 1 by omega]
  rfl
theorem up_set1 {d : Cell} : (drw w ++ (r ++ d :: c :: q)).set (3 + r.length + 1) c' = drw w ++ (r ++ d :: c' :: q) := by
  rw [List.set_append_right _ _ (by simp; omega), drw_len, List.set_append_right _ _ (by omega), show 3 + r.length + 1 - 3 - r.length = 1 by omega]
  rfl
@[simp] theorem up_take : List.take (3 + r.length) (drw w ++ (r ++ q)) = drw w ++ r := by
  rw [← List.append_assoc]
  exact List.take_left' (by simp)
@[simp] theorem up_nm {vs : List Val} : nmR (drw w ++ (r ++ .lst vs :: q)) (some (some (.own (3 + r.length)))) = .ok (.own (3 + r.length), drw w ++ (r ++ .lst vs :: q)) := by
  rw [nm_own, up_get]
@[simp] theorem up_nm1 {vs : List Val} {d : Cell} : nmR (drw w ++ (r ++ d :: .lst vs :: q)) (some (some (.own (3 + r.length + 1)))) = .ok (.own (3 + r.length + 1), drw w ++ (r ++ d :: .lst vs :: q)) := by
  rw [nm_own, up_get1]
theorem up_lst {ds : List D} : lstV (drw w ++ (r ++ .lst (ds.map Val.d) :: q)) (.own (3 + r.length)) = some ds := by
  simp only [lstV, up_get, dsOf_mapd]
theorem up_lst1 {ds : List D} {d : Cell} : lstV (drw w ++ (r ++ d :: .lst (ds.map Val.d) :: q)) (.own (3 + r.length + 1)) = some ds := by
  simp only [lstV, up_get1, dsOf_mapd]
@[simp] theorem up_len {vs : List Val} : lenV (drw w ++ (r ++ .lst vs :: q)) (.own (3 + r.length)) = some vs.length := by simp only [lenV, up_get]
@[simp] theorem up_ty {vs : List Val} : tyB "list" (drw w ++ (r ++ .lst vs :: q)) (.own (3 + r.length)) = true := by
  simp only [tyB, up_get]
  decide
@[simp] theorem up_ty1 {vs : List Val} {d : Cell} : tyB "list" (drw w ++ (r ++ d :: .lst vs :: q)) (.own (3 + r.length + 1)) = true := by
  simp only [tyB, up_get1]
  decide
theorem up_app {n0 : Nat} {vs : List Val} {x : D} (h : vs.length < 1000000) : oAppend n0 (.own (3 + r.length)) [.d x] (drw w ++ (r ++ .lst vs :: q)) = .ok (.d .non, drw w ++ (r ++ .lst (vs ++ [.d x]) :: q)) := by
  simp only [oAppend, up_get, okW]
  rw [if_pos ⟨trivial, h⟩, up_set]
theorem up_app1 {n0 : Nat} {vs : List Val} {x : D} {d : Cell} (h : vs.length < 1000000) : oAppend n0 (.own (3 + r.length + 1)) [.d x] (drw w ++ (r ++ d :: .lst vs :: q)) = .ok (.d .non, drw w ++ (r ++ d :: .lst (vs ++ [.d x]) :: q)) := by
  simp only [oAppend, up_get1, okW]
  rw [if_pos ⟨trivial, h⟩, up_set1]
end
theorem mapM_d {f n0 : Nat} {μ : Mu} : ∀ ds : List D, (ds.map Val.d).mapM (treeV (f + 1) n0 μ) = some ds
  | [] => rfl
  | d :: ds => by
    have ih := mapM_d (f := f) (n0 := n0) (μ := μ) ds
    simp [List.mapM_cons, treeV, ih]
theorem close_lst {n0 k : Nat} {μ : Mu} {ds : List D} (h : ¬ k < n0) (e : μ[k]? = some (.lst (ds.map Val.d))) : closeV n0 μ (.own k) = some (.d (.lst ds)) := by
  simp only [closeV, if_neg h]
  have : treeV 40 n0 μ (.own k) = some (.lst ds) := by
    rw [show (40 : Nat) = 38 + 1 + 1 from rfl, treeV, if_neg h]
    simp only [e, mapM_d, Option.map]
  rw [this]
  rfl
theorem pop_ok {n0 k : Nat} {μ : Mu} {vs : List Val} {z : Int} (e : μ[k]? = some (.lst vs)) (h0 : 0 ≤ z) (h : z < vs.length) (hl : vs.length < 1000000) :
    ∃ v, vs[z.toNat]? = some v ∧ oPopAt n0 (.own k) [.d (.int z)] μ = .ok (v, μ.set k (.lst (vs.eraseIdx z.toNat))) := by
  have hz : z.toNat < vs.length := by omega
  have e2 : seqIndex? z vs.length = some z.toNat := by
    unfold seqIndex?
    have h0' : ¬ z < 0 := by omega
    simp [h0, h, h0']
  refine ⟨vs[z.toNat], List.getElem?_eq_getElem hz, ?_⟩
  simp only [oPopAt, e, e2, List.getElem?_eq_getElem hz]
  rw [if_pos ⟨by omega, by omega⟩]
@[simp] theorem oLen_own {k : Nat} {μ : Mu} : oLen [.own k] μ = (match lenV μ (.own k) with
    | some n => .ok (.d (.int (n : Int)), μ)
    | none => .bad) := rfl
theorem erase_map {α β : Type} (f : α → β) : ∀ (l : List α) (i : Nat), (l.map f).eraseIdx i = (l.eraseIdx i).map f
  | [], _ => by simp
  | a :: l, 0 => rfl
  | a :: l, i + 1 => by simp [erase_map f l i]
theorem erase_perm {α : Type} : ∀ (l : List α) (i : Nat) (h : i < l.length), (l[i] :: l.eraseIdx i).Perm l
  | [], _, h => by simp at h
  | a :: l, 0, _ => List.Perm.refl _
  | a :: l, i + 1, h => by
    have ih := erase_perm l i (by simpa using h)
    simp only [List.eraseIdx_cons_succ, List.getElem_cons_succ]
    exact (List.Perm.swap a _ _).trans (List.Perm.cons a ih)
def chr1 (c : Nat) : Str := ⟨#[c]⟩
theorem nodup_len {α : Type} [BEq α] [LawfulBEq α] : ∀ {l m : List α}, l.Nodup → (∀ x ∈ l, x ∈ m) → l.length ≤ m.length
  | [], _, _, _ => Nat.zero_le _
  | a :: l, m, h, s => by
    have ha := s a (List.mem_cons_self ..)
    have hn := List.nodup_cons.mp h
    have ih := nodup_len (m := m.erase a) hn.2 fun x hx => by
      have : x ≠ a := fun e => hn.1 (e ▸ hx)
      exact (List.mem_erase_of_ne this).mpr (s x (List.mem_cons_of_mem _ hx))
    rw [List.length_erase_of_mem ha] at ih
    have : 0 < m.length := List.length_pos_of_mem ha
    simp
    omega
theorem empty_cps : ("" : Str).cps.toList = [] := by decide +kernel
theorem str_app_cps (a b : Str) : (a ++ b).cps.toList = a.cps.toList ++ b.cps.toList := by
  show (a.cps ++ b.cps).toList = _
  simp
theorem sjoin_chr : ∀ cs : List Nat, (Str.join "" (cs.map chr1)).cps.toList = cs
  | [] => by simp only [List.map_nil, Str.join]; rfl
  | [c] => rfl
  | c :: d :: cs => by
    have ih := sjoin_chr (d :: cs)
    simp only [List.map_cons, Str.join] at ih ⊢
    rw [str_app_cps, str_app_cps, ih, empty_cps]
    rfl
theorem join_chr (cs : List Nat) : (Txt.join "" (cs.map chr1)).cps.toList = cs := by
  have e : Txt.join "" (cs.map chr1) = Str.join "" (cs.map chr1) := StrLaws.glued_eq_join _ _
  rw [e]
  exact sjoin_chr cs
theorem chg_of {x : Str} {cs : List Nat} (e : x.cps.toList = cs) (h0 : 1 ≤ cs.length) (h1 : cs.length ≤ 6) (h : ∀ c ∈ cs, LetC c) : Chg x := by
  have hl : x.length = cs.length := by rw [← e]; simp [Str.length]
  exact ⟨by omega, by omega, by rw [e]; exact h⟩
theorem join_chg {cs : List Nat} (h0 : 1 ≤ cs.length) (h1 : cs.length ≤ 6) (h : ∀ c ∈ cs, LetC c) : Chg (Txt.join "" (cs.map chr1)) := chg_of (join_chr cs) h0 h1 h
def cut5 (x : Str) : Str := cutS x none (some 5)
theorem cut5_cps (x : Str) : (cut5 x).cps.toList = x.cps.toList.take 5 := by
  have e : HT.sIx x.length x.length (some (5 : Int)) = min 5 x.length := HT.sIx_nat x.length x.length 5
  have e0 : HT.sIx x.length 0 none = 0 := rfl
  simp only [cut5, cutS, e, e0, List.drop_zero, Nat.sub_zero]
  have : x.length = x.cps.toList.length := by simp [Str.length]
  rw [this, ← List.take_eq_take_min]
def tryW (x : Str) (c : Nat) : Str := cut5 x ++ chr1 c
theorem try_cps (x : Str) (c : Nat) : (tryW x c).cps.toList = x.cps.toList.take 5 ++ [c] := by
  unfold tryW
  rw [str_app_cps, cut5_cps]
  rfl
theorem try_chg {x : Str} (h : Chg x) {c : Nat} (hc : LetC c) : Chg (tryW x c) := by
  obtain ⟨h1, h2, h3⟩ := h
  refine chg_of (try_cps x c) (by simp) (by simp; omega) fun d hd => ?_
  rcases List.mem_append.mp hd with hd | hd
  · exact h3 d (List.mem_of_mem_take hd)
  · simp at hd
    exact hd ▸ hc
def letters : List Nat := List.range' 97 26
theorem letters_cps : ("abcdefghijklmnopqrstuvwxyz" : Str).cps.toList = letters := by decide +kernel
theorem letC {c : Nat} (h : c ∈ letters) : LetC c := by
  unfold letters at h
  rw [List.mem_range'_1] at h
  exact ⟨h.1, by omega⟩
theorem str_ext {a b : Str} (h : a.cps.toList = b.cps.toList) : a = b := by
  cases a
  cases b
  simp only [Str.mk.injEq]
  exact Array.toList_inj.mp h
theorem map_nodup {α β : Type} {f : α → β} (hf : ∀ x y, f x = f y → x = y) : ∀ {l : List α}, l.Nodup → (l.map f).Nodup
  | [], _ => by simp
  | a :: l, h => by
    have hn := List.nodup_cons.mp h
    refine List.nodup_cons.mpr ⟨fun hm => ?_, map_nodup hf hn.2⟩
    obtain ⟨b, hb, e⟩ := List.mem_map.mp hm
    exact hn.1 (hf _ _ e ▸ hb)
theorem tries_nodup (x : Str) : (letters.map (tryW x)).Nodup := map_nodup (fun c d e => by
  have := congrArg (fun s : Str => s.cps.toList) e
  simp only [try_cps] at this
  simpa using this) (by decide +kernel)
theorem tries_free {x : Str} {found : List Str} (h : found.length < 26) : ((x :: letters.map (tryW x)).filter fun l => !decide (l ∈ found)) ≠ [] := by
  intro e
  have hs : ∀ y ∈ letters.map (tryW x), y ∈ found := fun y hy => by
    have := List.filter_eq_nil_iff.mp e y (List.mem_cons_of_mem _ hy)
    simpa using this
  have := nodup_len (tries_nodup x) hs
  simp [letters] at this
  omega

theorem rngD_mem {k : Nat} {d : D} (h : d ∈ rngD 0 k) : ∃ i : Nat, i < k ∧ d = .int i := by
  obtain ⟨i, hi, e⟩ := List.mem_map.mp h
  exact ⟨i, List.mem_range.mp hi, by rw [← e]; simp⟩
@[simp] theorem rngD_len (k : Nat) : (rngD 0 k).length = k := by simp [rngD]
def ownW : List Str := ["a", "b", "ab", "fix", "none", "apply", "passes", "lie", "cost", "zzzzzz"]
theorem ownW_chg : ∀ x ∈ ownW, Chg x := by
  intro x hx
  have : ∀ x ∈ ownW, (1 ≤ x.length ∧ x.length ≤ 6 ∧ ∀ c ∈ x.cps.toList, 97 ≤ c ∧ c < 123) := by decide +kernel
  exact this x hx

def strsV (ws : List Str) : List Val := ws.map fun x => .d (.str x)
theorem strsV_eq (ws : List Str) : strsV ws = (ws.map D.str).map Val.d := by simp [strsV]
abbrev letS : Str := "abcdefghijklmnopqrstuvwxyz"
theorem signs_let : signsD letS = letters.map fun c => .str (chr1 c) := by
  unfold signsD
  rw [letters_cps]
  rfl
theorem oIn_strO {μ : Mu} {x : Str} {j : Nat} {ws : List Str} (n : Bool) (e : lstV μ (.own j) = some (ws.map D.str)) (hx : PyData.strOk x = true) (h : ∀ w ∈ ws, PyData.strOk w = true) : oIn n (.d (.str x)) (.own j) μ = .ok (.d (.bl (if n then !decide (x ∈ ws) else decide (x ∈ ws))), μ) := by
  rw [oIn_row (k := 0) n (fun _ => .inr fun _ e => by cases e) (show seqV μ (.own j) = some (ws.map D.str) from e) rfl (okd_str hx) (okd_strs h) (by omega), any_strs]
end Zl
set_option Elab.async false
set_option linter.all false
set_option maxRecDepth 100000
set_option maxHeartbeats 4000000
namespace Zl
open PySem PySem.Spec L2
open PyProof.Rows hiding St
/-! # the draw -/
theorem oFdiv_k {μ : Mu} (i : Int) {j : Int} (h : 0 < j) (h2 : j < 18446744073709551616) : oFdiv (.d (.int i)) (.d (.int j)) μ = .ok (.d (.int (i / j)), μ) := oFdiv_i i h h2
theorem oPow_3 {μ : Mu} {i : Int} (h2 : i.natAbs < 18446744073709551616) : oPow (.d (.int i)) (.d (.int 3)) μ = .ok (.d (.int (i ^ 3)), μ) := oPow_i (j := 3) (by omega) h2
theorem oPow_5 {μ : Mu} {i : Int} (h2 : i.natAbs < 18446744073709551616) : oPow (.d (.int i)) (.d (.int 5)) μ = .ok (.d (.int (i ^ 5)), μ) := oPow_i (j := 5) (by omega) h2
theorem mix_lt (y : Int) {k t : Int} (hk : k = 2147483629 ∨ k = 2147483647) {c : Int} (hc : c = 40009 ∨ c = 104729) (t0 : 0 ≤ t) (t1 : t ≤ 1000000) : (y % k + c * t).natAbs < 18446744073709551616 := by
  rcases hk with rfl | rfl <;> rcases hc with rfl | rfl <;> omega
theorem mix_lt0 {t : Int} (t0 : 0 ≤ t) (t1 : t ≤ 1000000) : (40009 * t).natAbs < 18446744073709551616 := by omega
theorem next_wp {n : Nat} {w : Draw} (h : DrOk n w) (hn : n < 1000000) {m : Int} (m0 : 0 < m) (m1 : m < 1000000) (r : Mu) {K : KE}
    (hk : ∀ z w', 0 ≤ z → z < m → DrOk (n + 1) w' → K (.d (.int z)) (drw w' ++ r)) : Wp (F_law_next [.own 2, .d (.int m)] (drw w ++ r)) K := by
  have ht0 : 0 ≤ w.t := h.t0
  have htn : w.t ≤ n := h.tn
  unfold F_law_next
  rw [w_Body]
  simp [S_law_next, startR]
  refine wp_wh2 (fun g ρ μ => ∃ w1 : Draw, ρ = ⟨3 + r.length, [some (.own 2), some (.d (.int m)), none, none, none, none]⟩ ∧ μ = drw w1 ++ r ∧ w1.gs.length = g ∧ g ≤ 63 ∧ w1.t = w.t)
    (fun ρ μ => ∃ w1 : Draw, ρ = ⟨3 + r.length, [some (.own 2), some (.d (.int m)), none, none, none, none]⟩ ∧ μ = drw w1 ++ r ∧ w1.gs.length ≤ 63 ∧ w1.t = w.t) w.gs.length (by have := h.gs; omega) ⟨w, rfl, rfl, rfl, h.gs, rfl⟩ ?_ ?_
  · rintro g ρ μ ⟨w1, rfl, rfl, hg, hg2, ht⟩
    by_cases hd : w1.d = 0
    · cases hgs : w1.gs with
      | nil =>
        simp [t_law_next_1, b_law_next_2, hd, hgs]
        exact ⟨w1, rfl, by simp [hgs], ht⟩
      | cons x gs =>
        simp [t_law_next_1, b_law_next_2, hd, hgs, dr_pop _ hgs]
        exact ⟨gs.length, by rw [← hg, hgs]; simp, _, rfl, rfl, by rw [hgs] at hg; simp at hg; omega, ht⟩
    · simp [t_law_next_1, hd]
      exact ⟨w1, rfl, by omega, ht⟩
  · rintro ρ μ ⟨w1, rfl, rfl, hg, ht⟩
    by_cases hd : 0 < w1.d
    · simp [i_law_next_3, hd, oMod_i, oFdiv_k, m0, show m < 18446744073709551616 by omega]
      exact hk _ _ (Int.emod_nonneg _ (by omega)) (Int.emod_lt_of_pos _ m0) ⟨hg, by simp [ht]; omega, by simp [ht]; omega⟩
    · have t0 : 0 ≤ w1.t + 1 := by omega
      have t1 : w1.t + 1 ≤ 1000000 := by omega
      have fin : ∀ z : Int, K (.d (.int (z % m))) (drw { w1 with t := w1.t + 1 } ++ r) := fun z => hk _ _ (Int.emod_nonneg _ (by omega)) (Int.emod_lt_of_pos _ m0) ⟨hg, by simp [ht]; omega, by simp [ht]; omega⟩
      have b1 : ∀ z : Int, ((z % 2147483629 + 40009 * (w1.t + 1)) : Int).natAbs < 18446744073709551616 := fun z => mix_lt z (.inl rfl) (.inl rfl) t0 t1
      have b2 : ∀ y : Int, ((y % 2147483647 + 104729 * (w1.t + 1)) : Int).natAbs < 18446744073709551616 := fun z => mix_lt z (.inr rfl) (.inr rfl) t0 t1
      have b3 := mix_lt0 t0 t1
      by_cases hl : w1.ls.isEmpty = true
      · simp [i_law_next_3, hd, i_law_next_4, hl, oMod_i, oMul_i, oFdiv_k, oPow_3, oPow_5, m0, b1, b2, b3]
        exact fin _
      · have hl' : w1.ls.isEmpty = false := by simpa using hl
        have hp : (0 : Int) < w1.ls.length := by
          cases hh : w1.ls with
          | nil => simp [hh] at hl'
          | cons a b => simp
        obtain ⟨z, e2⟩ := dr_lump (w := { w1 with t := w1.t + 1 }) (r := r) (Int.emod_nonneg (w1.t + 1) (by omega : (w1.ls.length : Int) ≠ 0)) (Int.emod_lt_of_pos (w1.t + 1) hp)
        have q1 := oMod_i (μ := drw { w1 with t := w1.t + 1 } ++ r) (w1.t + 1) hp
        simp [i_law_next_3, hd, i_law_next_4, hl', q1, oMod_i, oMul_i, oFdiv_k, oPow_3, oPow_5, m0, b1, b2, oLen, e2]
        exact fin _

theorem pick_wp {n : Nat} {w : Draw} (h : DrOk n w) (hn : n < 1000000) {ds : List D} (hd : ds ≠ []) (hl : ds.length < 1000000) (r : Mu) {K : KE}
    (hk : ∀ x w', x ∈ ds → DrOk (n + 1) w' → K (.d x) (drw w' ++ r)) : Wp (F_law_pick [.own 2, .d (.lst ds)] (drw w ++ r)) K := by
  have hp : 0 < ds.length := List.length_pos_iff.mpr hd
  unfold F_law_pick
  rw [w_Body]
  simp [S_law_pick, startR]
  refine next_wp h hn (by omega) (by omega) r fun z w' h0 h1 ok => ?_
  obtain ⟨x, hx, ex⟩ := atI_ok h0 h1
  simp [oIx_lst ex]
  exact hk x w' hx ok
theorem pick_wpS {n : Nat} {w : Draw} (h : DrOk n w) (hn : n < 1000000) {s : Str} (hd : 0 < s.length) (hl : s.length < 1000000) (r : Mu) {K : KE}
    (hk : ∀ c w', c ∈ s.cps.toList → DrOk (n + 1) w' → K (.d (.str ⟨#[c]⟩)) (drw w' ++ r)) : Wp (F_law_pick [.own 2, .d (.str s)] (drw w ++ r)) K := by
  have hs : s.length ≤ sizeLine := by unfold sizeLine; omega
  have hsz : s.length = s.cps.toList.length := by simp [Str.length]
  unfold F_law_pick
  rw [w_Body]
  simp [S_law_pick, startR, lenD, hs]
  refine next_wp h hn (by omega) (by omega) r fun z w' h0 h1 ok => ?_
  rw [hsz] at h1
  obtain ⟨x, hx, ex⟩ := atI_ok h0 h1
  simp [oIx, hs, ex]
  exact hk x w' hx ok
theorem shuf_wp {n : Nat} {w : Draw} (h : DrOk n w) {ds : List D} (hk : ∀ d ∈ ds, OkD 0 d) (hl : ds.length < 60) (hn : n + ds.length < 1000000) (r : Mu) {K : KE}
    (hK : ∀ es w', es.Perm ds → DrOk (n + ds.length) w' → K (.d (.lst es)) (drw w' ++ r)) : Wp (F_law_shuffled [.own 2, .d (.tup ds)] (drw w ++ r)) K := by
  unfold F_law_shuffled
  rw [w_Body]
  simp [S_law_shuffled, startR, oListL, rowV, seqV]
  have n1 : 3 + (r.length + 1) = 3 + r.length + 1 := by omega
  rw [n1]
  refine wp_wh2 (fun m ρ μ => ∃ (left found : List D) (w1 : Draw), ρ = ⟨3 + r.length, [some (.own 2), some (.d (.tup ds)), some (.own (3 + r.length)), some (.own (3 + r.length + 1))]⟩ ∧
      μ = drw w1 ++ (r ++ [.lst (left.map Val.d), .lst (found.map Val.d)]) ∧ left.length = m ∧ (found ++ left).Perm ds ∧ DrOk (n + found.length) w1)
    (fun ρ μ => ∃ (es : List D) (w1 : Draw), ρ = ⟨3 + r.length, [some (.own 2), some (.d (.tup ds)), some (.own (3 + r.length)), some (.own (3 + r.length + 1))]⟩ ∧
      μ = drw w1 ++ (r ++ [.lst [], .lst (es.map Val.d)]) ∧ es.Perm ds ∧ DrOk (n + ds.length) w1)
    ds.length (by omega) ⟨ds, [], w, rfl, rfl, rfl, by simp, by simpa using h⟩ ?_ ?_
  · rintro m ρ μ ⟨left, found, w1, rfl, rfl, hm, pm, ok⟩
    have hsub : ∀ d ∈ left, OkD 0 d := fun d hd => hk d (pm.mem_iff.mp (List.mem_append_right _ hd))
    have hlen : found.length + left.length = ds.length := by have := pm.length_eq; simpa using this
    have he := oEq_own (μ := drw w1 ++ (r ++ [.lst (left.map Val.d), .lst (found.map Val.d)])) (k := 0) (j := 3 + r.length) true up_lst hsub (by omega)
    cases hlf : left with
    | nil =>
      rw [hlf] at he pm hlen
      simp only [List.map_nil] at he
      simp [t_law_shuffled_1, he]
      simp at pm hlen
      exact ⟨found, w1, rfl, pm, by rw [← hlen]; exact ok⟩
    | cons a as =>
      have hne : left.isEmpty = false := by simp [hlf]
      have hp : 0 < left.length := by simp [hlf]
      rw [← hlf]
      simp [t_law_shuffled_1, b_law_shuffled_2, he, hne]
      refine next_wp ok (by omega) (by omega) (by omega) _ fun z w2 h0 h1 ok2 => ?_
      obtain ⟨v, hv, ep⟩ := pop_ok (n0 := 3 + r.length) (k := 3 + r.length) (μ := drw w2 ++ (r ++ [.lst (left.map Val.d), .lst (found.map Val.d)])) (vs := left.map Val.d) (z := z) up_get h0 (by simpa using h1) (by simp; omega)
      rw [up_set] at ep
      have hz : z.toNat < left.length := by omega
      have hvd : v = .d left[z.toNat] := by
        rw [List.getElem?_map, List.getElem?_eq_getElem hz] at hv
        exact (Option.some.inj hv).symm
      rw [hvd, erase_map] at ep
      have ap := up_app1 (w := w2) (r := r) (q := []) (n0 := 3 + r.length) (vs := found.map Val.d) (x := left[z.toNat]) (d := .lst ((left.eraseIdx z.toNat).map Val.d)) (by simp; omega)
      simp [ep, ap]
      refine ⟨(left.eraseIdx z.toNat).length, by rw [List.length_eraseIdx, if_pos hz]; omega, left.eraseIdx z.toNat, found ++ [left[z.toNat]], w2, by simp, rfl, ?_, ?_⟩
      · refine List.Perm.trans ?_ pm
        rw [List.append_assoc]
        exact List.Perm.append_left _ (erase_perm left z.toNat hz)
      · simpa [Nat.add_assoc] using ok2
  · rintro ρ μ ⟨es, w1, rfl, rfl, pm, ok⟩
    have cl := close_lst (n0 := 3 + r.length) (k := 3 + r.length + 1) (μ := drw w1 ++ (r ++ [.lst [], .lst (es.map Val.d)])) (ds := es) (by omega) up_get1
    simp [k_Body_own cl]
    exact hK es w1 pm ok
end Zl
set_option Elab.async false
set_option linter.all false
set_option maxRecDepth 100000
set_option maxHeartbeats 4000000
namespace Zl
open PySem PySem.Spec L2
open PyProof.Rows hiding St
/-! # a list shuffled (the same lines as for a tuple) -/
theorem shufL_wp {n : Nat} {w : Draw} (h : DrOk n w) {ds : List D} (hk : ∀ d ∈ ds, OkD 0 d) (hl : ds.length < 60) (hn : n + ds.length < 1000000) (r : Mu) {K : KE}
    (hK : ∀ es w', es.Perm ds → DrOk (n + ds.length) w' → K (.d (.lst es)) (drw w' ++ r)) : Wp (F_law_shuffled [.own 2, .d (.lst ds)] (drw w ++ r)) K := by
  unfold F_law_shuffled
  rw [w_Body]
  simp [S_law_shuffled, startR, oListL, rowV, seqV, lstV]
  have n1 : 3 + (r.length + 1) = 3 + r.length + 1 := by omega
  rw [n1]
  refine wp_wh2 (fun m ρ μ => ∃ (left found : List D) (w1 : Draw), ρ = ⟨3 + r.length, [some (.own 2), some (.d (.lst ds)), some (.own (3 + r.length)), some (.own (3 + r.length + 1))]⟩ ∧
      μ = drw w1 ++ (r ++ [.lst (left.map Val.d), .lst (found.map Val.d)]) ∧ left.length = m ∧ (found ++ left).Perm ds ∧ DrOk (n + found.length) w1)
    (fun ρ μ => ∃ (es : List D) (w1 : Draw), ρ = ⟨3 + r.length, [some (.own 2), some (.d (.lst ds)), some (.own (3 + r.length)), some (.own (3 + r.length + 1))]⟩ ∧
      μ = drw w1 ++ (r ++ [.lst [], .lst (es.map Val.d)]) ∧ es.Perm ds ∧ DrOk (n + ds.length) w1)
    ds.length (by omega) ⟨ds, [], w, rfl, rfl, rfl, by simp, by simpa using h⟩ ?_ ?_
  · rintro m ρ μ ⟨left, found, w1, rfl, rfl, hm, pm, ok⟩
    have hsub : ∀ d ∈ left, OkD 0 d := fun d hd => hk d (pm.mem_iff.mp (List.mem_append_right _ hd))
    have hlen : found.length + left.length = ds.length := by have := pm.length_eq; simpa using this
    have he := oEq_own (μ := drw w1 ++ (r ++ [.lst (left.map Val.d), .lst (found.map Val.d)])) (k := 0) (j := 3 + r.length) true up_lst hsub (by omega)
    cases hlf : left with
    | nil =>
      rw [hlf] at he pm hlen
      simp only [List.map_nil] at he
      simp [t_law_shuffled_1, he]
      simp at pm hlen
      exact ⟨found, w1, rfl, pm, by rw [← hlen]; exact ok⟩
    | cons a as =>
      have hne : left.isEmpty = false := by simp [hlf]
      have hp : 0 < left.length := by simp [hlf]
      rw [← hlf]
      simp [t_law_shuffled_1, b_law_shuffled_2, he, hne]
      refine next_wp ok (by omega) (by omega) (by omega) _ fun z w2 h0 h1 ok2 => ?_
      obtain ⟨v, hv, ep⟩ := pop_ok (n0 := 3 + r.length) (k := 3 + r.length) (μ := drw w2 ++ (r ++ [.lst (left.map Val.d), .lst (found.map Val.d)])) (vs := left.map Val.d) (z := z) up_get h0 (by simpa using h1) (by simp; omega)
      rw [up_set] at ep
      have hz : z.toNat < left.length := by omega
      have hvd : v = .d left[z.toNat] := by
        rw [List.getElem?_map, List.getElem?_eq_getElem hz] at hv
        exact (Option.some.inj hv).symm
      rw [hvd, erase_map] at ep
      have ap := up_app1 (w := w2) (r := r) (q := []) (n0 := 3 + r.length) (vs := found.map Val.d) (x := left[z.toNat]) (d := .lst ((left.eraseIdx z.toNat).map Val.d)) (by simp; omega)
      simp [ep, ap]
      refine ⟨(left.eraseIdx z.toNat).length, by rw [List.length_eraseIdx, if_pos hz]; omega, left.eraseIdx z.toNat, found ++ [left[z.toNat]], w2, by simp, rfl, ?_, ?_⟩
      · refine List.Perm.trans ?_ pm
        rw [List.append_assoc]
        exact List.Perm.append_left _ (erase_perm left z.toNat hz)
      · simpa [Nat.add_assoc] using ok2
  · rintro ρ μ ⟨es, w1, rfl, rfl, pm, ok⟩
    have cl := close_lst (n0 := 3 + r.length) (k := 3 + r.length + 1) (μ := drw w1 ++ (r ++ [.lst [], .lst (es.map Val.d)])) (ds := es) (by omega) up_get1
    simp [k_Body_own cl]
    exact hK es w1 pm ok
end Zl
set_option Elab.async false
set_option linter.all false
set_option maxRecDepth 100000
set_option maxHeartbeats 4000000
namespace Zl
open PySem PySem.Spec L2
open PyProof.Rows hiding St
/-! # own cells, whatever stands below them -/
@[simp] theorem vD_len (ds : List D) : (vD ds).length = ds.length := by simp [vD]
@[simp] theorem vD_snoc (ds : List D) (x : D) : vD ds ++ [.d x] = vD (ds ++ [x]) := by simp [vD]
theorem vD_nil : ([] : List Val) = vD [] := rfl
@[simp] theorem vD_ds (ds : List D) : dsOf (vD ds) = some ds := dsOf_mapd
@[simp] theorem dsOf_mapD (ds : List D) : dsOf (ds.map Val.d) = some ds := dsOf_mapd
@[simp] theorem vD_all (ds : List D) (n0 k : Nat) : (vD ds).all (okW n0 k) = true := by
  rw [List.all_eq_true]
  intro v hv
  obtain ⟨d, _, rfl⟩ := List.mem_map.mp hv
  rfl
section
variable {l r : Mu} {n : Nat} {c : Cell}
@[simp] theorem gR (h : l.length ≤ n) : (l ++ r)[n]? = r[n - l.length]? := List.getElem?_append_right h
@[simp] theorem gL (h : n < l.length) : (l ++ r)[n]? = l[n]? := List.getElem?_append_left h
@[simp] theorem sR (h : l.length ≤ n) : (l ++ r).set n c = l ++ r.set (n - l.length) c := List.set_append_right _ _ h
@[simp] theorem tLe : (l ++ r).take l.length = l := List.take_left' rfl
@[simp high] theorem dr_c0 {w : Draw} : (drw w)[0]? = some (.lst (ivals w.gs)) := (rfl)
@[simp high] theorem dr_c1 {w : Draw} : (drw w)[1]? = some (.lst (ivals w.ls)) := (rfl)
@[simp high] theorem dr_c2 {w : Draw} : (drw w)[2]? = some (.dK [.inr "digits", .inr "great", .inr "lumps", .inr "turn"] [.d (.int w.d), .own 0, .own 1, .d (.int w.t)]) := (rfl)
@[simp] theorem tDr {w : Draw} : (drw w ++ r).take 3 = drw w := List.take_left' rfl
end
section
variable {μ : Mu} {k n0 : Nat}
@[simp] theorem nm_ownS : nmR μ (some (some (.own k))) = (match μ[k]? with
    | some (.fz x) => .ok (.d x, μ)
    | some .gone => .bad
    | some _ => .ok (.own k, μ)
    | none => .bad) := nm_own
@[simp] theorem lstV_own : lstV μ (.own k) = (match μ[k]? with
    | some (.lst vs) => dsOf vs
    | _ => none) := (rfl)
@[simp] theorem lstV_d {x : D} : lstV μ (.d x) = (match x with
    | .lst ds => some ds
    | _ => none) := by cases x <;> rfl
@[simp] theorem seqV_own : seqV μ (.own k) = lstV μ (.own k) := (rfl)
@[simp] theorem seqV_tup {ds : List D} : seqV μ (.d (.tup ds)) = some ds := (rfl)
@[simp] theorem seqV_lst {ds : List D} : seqV μ (.d (.lst ds)) = some ds := (rfl)
@[simp] theorem rowV_own : rowV μ (.own k) = lstV μ (.own k) := (rfl)
@[simp] theorem rowV_lst {ds : List D} : rowV μ (.d (.lst ds)) = some ds := (rfl)
@[simp] theorem rowV_tup {ds : List D} : rowV μ (.d (.tup ds)) = some ds := (rfl)
@[simp] theorem rowV_scr {ns : List Int} : rowV μ (.d (.scr ns)) = some (ns.map D.int) := (rfl)
@[simp] theorem dKV_own : dKV μ (.own k) = (match μ[k]? with
    | some (.dK ks vs) => some (ks, vs)
    | _ => none) := (rfl)
@[simp] theorem dKV_dK {ks : List Key} {ds : List D} : dKV μ (.d (.dK ks ds)) = some (ks, vD ds) := (rfl)
@[simp] theorem dKV_lst {ds : List D} : dKV μ (.d (.lst ds)) = none := (rfl)
@[simp] theorem dTV_own : dTV μ (.own k) = (match μ[k]? with
    | some (.dT ks vs) => some (ks, vs)
    | _ => none) := (rfl)
@[simp] theorem lenV_own : lenV μ (.own k) = (match μ[k]? with
    | some (.lst vs) => some vs.length
    | some (.dK ks _) => some ks.length
    | some (.dT ks _) => some ks.length
    | _ => none) := (rfl)
@[simp] theorem tyB_own {T : String} : tyB T μ (.own k) = (match μ[k]? with
    | some (.lst _) => T == "list"
    | some (.dK _ _) => T == "dict"
    | some (.dT _ _) => T == "dict"
    | _ => false) := (rfl)
@[simp] theorem tyB_str {T : String} {x : Str} : tyB T μ (.d (.str x)) = (T == "str") := (rfl)
@[simp] theorem insV_own : insV μ (.own k) = (match μ[k]? with
    | some (.ins c ns vs) => some (c, ns, vs)
    | _ => none) := (rfl)
@[simp] theorem insV_d {c : Str} {ns : List Str} {ds : List D} : insV μ (.d (.ins c ns ds)) = some (c, ns, vD ds) := (rfl)
@[simp] theorem okW_d {x : D} : okW n0 k (.d x) = true := (rfl)
@[simp] theorem app_own {v : Val} : oAppend n0 (.own k) [v] μ = (match μ[k]? with
    | some (.lst vs) => if okW n0 k v = true ∧ vs.length < 1000000 then .ok (.d .non, μ.set k (.lst (vs ++ [v]))) else .bad
    | _ => .bad) := (rfl)
theorem upd_own {v : Val} : oUpdate n0 (.own k) [v] μ = (match μ[k]?, dKV μ v with
    | some (.dK ks vs), some (js, ws) => if isOwn k v = false ∧ ks.length + js.length < 1000000 ∧ ws.all (okW n0 k) = true then .ok (.d .non, μ.set k (.dK (mergeKs ks vs js ws).1 (mergeKs ks vs js ws).2)) else .bad
    | _, _ => .bad) := (rfl)
@[simp] theorem isOwn_d {x : D} : isOwn k (.d x) = false := (rfl)
@[simp] theorem oTuple_lst {ds : List D} : oTuple [.d (.lst ds)] μ = .ok (.d (.tup ds), μ) := (rfl)
@[simp] theorem oTuple_tup {ds : List D} : oTuple [.d (.tup ds)] μ = .ok (.d (.tup ds), μ) := (rfl)
@[simp] theorem oTuple_own : oTuple [.own k] μ = (match lstV μ (.own k) with
    | some ds => .ok (.d (.tup ds), μ)
    | none => .bad) := (rfl)
@[simp] theorem oList_d {x : D} : oList [.d x] μ = (match rowV μ (.d x) with
    | some ds => .ok (.d (.lst ds), μ)
    | none => (match dKV μ (.d x) with
      | some (ks, _) => .ok (.d (.lst (ks.map keyD1)), μ)
      | none => .bad)) := (rfl)
@[simp] theorem oList_own : oList [.own k] μ = (match rowV μ (.own k) with
    | some ds => .ok (.d (.lst ds), μ)
    | none => (match dKV μ (.own k) with
      | some (ks, _) => .ok (.d (.lst (ks.map keyD1)), μ)
      | none => .bad)) := (rfl)
@[simp] theorem oListL_v {v : Val} : oListL [v] μ = (match rowV μ v with
    | some ds => .ok (.own μ.length, μ ++ [.lst (vD ds)])
    | none => .bad) := (rfl)
end
/-- what a live list becomes when its def ends -/
theorem cl_lst {n0 k : Nat} {μ : Mu} {ds : List D} (h : n0 ≤ k) (e : μ[k]? = some (.lst (vD ds))) : closeV n0 μ (.own k) = some (.d (.lst ds)) := close_lst (by omega) e
theorem k_Body_lst {n j : Nat} {ρ : Rho} {μ : Mu} {K : KE} {ds : List D} (h : n ≤ j) (e : μ[j]? = some (.lst (vD ds))) (hk : K (.d (.lst ds)) (μ.take n)) : kBody n K (.rt (.own j)) (ρ, μ) := by
  rw [k_Body_own (cl_lst h e)]
  exact hk
end Zl
set_option Elab.async false
set_option linter.all false
set_option maxRecDepth 100000
set_option maxHeartbeats 4000000
namespace Zl
open PySem PySem.Spec L2
open PyProof.Rows hiding St
/-! # drawn words -/
theorem letters_wp {n0 : Nat} {s1 s2 s3 s5 s6 s7 s8 s9 s10 : Option Val} {r : Mu} :
    ∀ (ds : List D) (n : Nat) (w : Draw), DrOk n w → n + ds.length < 1000000 →
      ∀ K : List Val → Mu → Prop, (∀ (cs : List Nat) (w' : Draw), cs.length = ds.length → (∀ c ∈ cs, LetC c) → DrOk (n + ds.length) w' → K (cs.map (fun c => Val.d (.str (chr1 c)))) (drw w' ++ r)) →
      Wp (lcGo (fgName 9) fYes (fCall 2 F_law_pick [] (fACons (fName 0) (fACons (fName 4) (fANil)))) ds ⟨n0, [some (.own 2), s1, s2, s3, some (.d (.str letS)), s5, s6, s7, s8, s9, s10]⟩ (drw w ++ r)) K
  | [], n, w, h, _, K, hK => hK [] w rfl (by simp) h
  | d :: ds, n, w, h, hn, K, hK => by
    have hl : letS.length = 26 := by decide +kernel
    simp only [List.length_cons] at hn hK
    have key : ∀ K : KE, (∀ (c : Nat) (w' : Draw), LetC c → DrOk (n + 1) w' → K (.d (.str (chr1 c))) (drw w' ++ r)) → Wp (fCall 2 F_law_pick [] (fACons (fName 0) (fACons (fName 4) (fANil))) ⟨n0, [some (.own 2), s1, s2, s3, some (.d (.str letS)), s5, s6, s7, s8, some (.d d), s10]⟩ (drw w ++ r)) K := by
      intro K hK
      simp
      refine pick_wpS h (by omega) (by omega) (by omega) r fun c w' hc ok => ?_
      rw [letters_cps] at hc
      exact hK c w' (letC hc) ok
    obtain ⟨v, μ1, e1, c, w1, rfl, rfl, hc, ok⟩ := (key (fun v μ => ∃ (c : Nat) (w' : Draw), v = .d (.str (chr1 c)) ∧ μ = drw w' ++ r ∧ LetC c ∧ DrOk (n + 1) w') fun c w' a b => ⟨c, w', rfl, rfl, a, b⟩).elim
    have ih := letters_wp (n0 := n0) (s1 := s1) (s2 := s2) (s3 := s3) (s5 := s5) (s6 := s6) (s7 := s7) (s8 := s8) (s9 := s9) (s10 := s10) (r := r) ds (n + 1) w1 ok (by omega)
      (fun l μ => ∃ (cs : List Nat) (w' : Draw), l = cs.map (fun c => Val.d (.str (chr1 c))) ∧ μ = drw w' ++ r ∧ cs.length = ds.length ∧ (∀ c ∈ cs, LetC c) ∧ DrOk (n + 1 + ds.length) w') fun cs w' a b c => ⟨cs, w', rfl, rfl, a, b, c⟩
    obtain ⟨l, μ2, e2, cs, w2, rfl, rfl, h1, h2, ok2⟩ := ih.elim
    refine wp_of (x := (c :: cs).map (fun c => Val.d (.str (chr1 c)))) (y := drw w2 ++ r) ?_ (hK (c :: cs) w2 (by simp [h1]) ?_ (ok2.mono (by omega)))
    · simp only [lcGo, fgName, R.noex_ok, R.bind_ok, fYes, if_true, ap_set, List.set_cons_succ, List.set_cons_zero, e1, e2]
      rfl
    · intro x hx
      rcases List.mem_cons.mp hx with e | hx
      · exact e ▸ hc
      · exact h2 x hx
theorem join_letters {n0 : Nat} {μ : Mu} (cs : List Nat) (h : cs.length < 1000000) : oJoin n0 (.d (.str "")) [.d (.lst (cs.map fun c => .str (chr1 c)))] μ = .ok (.d (.str (Txt.join "" (cs.map chr1))), μ) := by
  have hs : ∀ l : List Nat, strsD (l.map fun c => .str (chr1 c)) = some (l.map chr1) := by
    intro l
    induction l with
    | nil => rfl
    | cons a l ih => simp [strsD, ih]
  have hsum : ∀ l : List Nat, ((l.map chr1).map Str.length).sum = l.length := by
    intro l
    induction l with
    | nil => rfl
    | cons a l ih =>
      have : (chr1 a).length = 1 := rfl
      simp only [List.map_cons, List.sum_cons, ih, this, List.length_cons]
      omega
  have h0 : ("" : Str).length = 0 := by decide +kernel
  simp only [oJoin, seqV, lstV, Option.bind, hs, hsum, h0, List.length_map]
  rw [if_pos (by omega)]
/-- the letters of a drawn row, as the comprehension makes them -/
theorem k_letters {n0 : Nat} {s1 s2 s3 s5 s6 s7 s8 s9 s10 : Option Val} {r : Mu} {K : KE} {ds : List D} {n : Nat} {w : Draw} (h : DrOk n w) (hl : ds.length < 1000) (hn : n + ds.length < 1000000)
    (hK : ∀ (cs : List Nat) (w' : Draw), cs.length = ds.length → (∀ c ∈ cs, LetC c) → DrOk (n + ds.length) w' → K (.d (.lst (cs.map (fun c => .str (chr1 c))))) (drw w' ++ r)) :
    kLc false (fgName 9) fYes (fCall 2 F_law_pick [] (fACons (fName 0) (fACons (fName 4) (fANil)))) ⟨n0, [some (.own 2), s1, s2, s3, some (.d (.str letS)), s5, s6, s7, s8, s9, s10]⟩ K ds (drw w ++ r) := by
  unfold kLc
  rw [wp_bind]
  refine letters_wp ds n w h hn _ fun cs w' a b c => ?_
  have : cs.length < 1000000 := by omega
  simp only [lcFin, List.length_map, this, if_true, dsOf_mapf, if_false]
  exact hK cs w' a b c
theorem try_texts (x : Str) (hx : x.length ≤ 6) (μ : Mu) : oCut none (some 5) (.d (.str x)) μ = .ok (.d (.str (cut5 x)), μ) := by
  have hxl : x.length ≤ sizeLine := by unfold sizeLine; omega
  simp only [oCut]
  rw [if_pos hxl]
  rfl
theorem cut5_len (x : Str) : (cut5 x).length ≤ 5 := by
  have := congrArg List.length (cut5_cps x)
  simp only [List.length_take, Array.length_toList] at this
  show (cut5 x).cps.size ≤ 5
  omega
theorem words_wp {n k : Nat} {w : Draw} (h : DrOk n w) (hk : k < 20) (hn : n + 9 * k + 20 < 1000000) (r : Mu) {K : KE}
    (hK : ∀ (ws : List Str) (w' : Draw), ws.length = k → (∀ x ∈ ws, Chg x) → ws.Nodup → DrOk (n + 9 * k) w' → K (.d (.lst (ws.map D.str))) (drw w' ++ r)) :
    Wp (F_law_words [.own 2, .d (.int k)] (drw w ++ r)) K := by
  unfold F_law_words
  rw [w_Body]
  simp [S_law_words, startR, show k < 4611686018427387904 by omega]
  obtain ⟨I, hI⟩ : ∃ I : Nat → Rho → Mu → Prop, I = fun i ρ μ => ∃ (ws : List Str) (w1 : Draw) (s5 s6 s7 s8 s9 s10 : Option Val), ρ = ⟨3 + r.length, [some (.own 2), some (.d (.int k)), some (.d (.lst (ownW.map D.str))), some (.own (3 + r.length)), some (.d (.str letS)), s5, s6, s7, s8, s9, s10]⟩ ∧
      μ = drw w1 ++ (r ++ [.lst (vD (ws.map D.str))]) ∧ ws.length = i ∧ (∀ x ∈ ws, Chg x) ∧ ws.Nodup ∧ DrOk (n + 9 * i) w1 := ⟨_, rfl⟩
  refine wp_forI I (by rw [hI]; exact ⟨[], w, none, none, none, none, none, none, by simp [ownW], rfl, rfl, by simp, by simp, h⟩) ?_ ?_
  · intro i d ρ μ hi hh
    rw [hI] at hh
    obtain ⟨ws, w1, s5, s6, s7, s8, s9, s10, rfl, rfl, hl, hc, hd, ok⟩ := hh
    have hik : i < k := by
      have := (List.getElem?_eq_some_iff.mp hi).1
      simpa using this
    simp [b_law_words_5]
    refine pick_wp ok (by omega) (by simp [ownW]) (by simp [ownW]) _ fun x0 w2 hx0 ok2 => ?_
    obtain ⟨y0, hy0, rfl⟩ := List.mem_map.mp hx0
    simp [i_law_words_2]
    refine next_wp ok2 (by omega) (by omega) (by omega) _ fun z w3 z0 z1 ok3 => ?_
    generalize hfin : kSeq _ _ = F
    have fin : ∀ (x : Str) (s9 : Option Val) (w5 : Draw), Chg x → DrOk (n + 9 * i + 9) w5 → F .nx (⟨3 + r.length, [some (.own 2), some (.d (.int k)), some (.d (.lst (ownW.map D.str))), some (.own (3 + r.length)), some (.d (.str letS)), some (.d d), some (.d (.str x)), s7, s8, s9, s10]⟩, drw w5 ++ (r ++ [.lst (vD (ws.map D.str))])) := by
      intro x s9 w5 hx ok5
      subst hfin
      have hcl := cut5_len x
      simp [c_law_words_3]
      rw [signs_let]
      refine k_lcA (fun c => D.str (chr1 c)) (fun c => .str (tryW x c)) (by simp [letters]) (fun c hc => ?_) ?_
      · have hcc : (chr1 c).length = 1 := rfl
        have hz : (cut5 x).length + (chr1 c).length ≤ sizeLine := by unfold sizeLine; omega
        simp [try_texts x hx.2.1, oAdd, hz, tryW]
      · have hT : ∀ y ∈ x :: letters.map (tryW x), Chg y := by
          intro y hy
          rcases List.mem_cons.mp hy with e | hy
          · exact e ▸ hx
          · obtain ⟨c, hc, e⟩ := List.mem_map.mp hy
            exact e ▸ try_chg hx (letC hc)
        have hadd : ∀ μ, oAdd (.d (.lst [.str x])) (.d (.lst (letters.map fun c => .str (tryW x c)))) μ = .ok (.d (.lst ((x :: letters.map (tryW x)).map D.str)), μ) := fun μ => by
          simp only [oAdd, lstV]
          rw [if_pos (by simp [letters, sizeLine])]
          simp [Function.comp_def]
        simp only [k_Bin2, hadd, wp_ok]
        have hf := tries_free (x := x) (found := ws) (by omega)
        have hTl : (x :: letters.map (tryW x)).length < 1000000 := by simp [letters]
        generalize x :: letters.map (tryW x) = T at hT hf hTl
        simp [c_law_words_4]
        refine k_lcF D.str (fun y => !decide (y ∈ ws)) D.str hTl (fun y hy => ?_) ?_
        · have hi := fun (μ : Mu) (e : lstV μ (.own (3 + r.length)) = some (ws.map D.str)) => oIn_strO (μ := μ) (x := y) (j := 3 + r.length) (ws := ws) true e (hT y hy).ok (fun z hz => (hc z hz).ok)
          simp [hi]
        · cases hF : T.filter fun y => !decide (y ∈ ws) with
          | nil => exact absurd hF hf
          | cons a as =>
            have ha : a ∈ T.filter fun y => !decide (y ∈ ws) := by rw [hF]; exact List.mem_cons_self ..
            have ha2 := List.mem_filter.mp ha
            have hi : ∀ (μ : Mu), oIx (.d (.lst ((a :: as).map D.str))) (.d (.int 0)) μ = .ok (.d (.str a), μ) := fun μ => oIx_lst (by simp [atI, ixN])
            have hw : ws.length < 1000000 := by omega
            rw [List.map_cons] at hi
            simp [hi, hw]
            rw [hI]
            refine ⟨ws ++ [a], w5, _, _, _, _, _, _, rfl, by simp, by simp [hl], ?_, ?_, ok5.mono (by omega)⟩
            · intro y hy
              rcases List.mem_append.mp hy with hy | hy
              · exact hc y hy
              · simp at hy; exact hy ▸ hT a ha2.1
            · rw [List.nodup_append]
              refine ⟨hd, by simp, fun b hb c hc => ?_⟩
              simp at hc
              intro e
              have := ha2.2
              simp at this
              exact this (hc ▸ e ▸ hb)
    by_cases hz : z = 0
    · simp [hz, c_law_words_1]
      refine next_wp ok3 (by omega) (by omega) (by omega) _ fun y w4 hy0' hy1 ok4 => ?_
      have hy : -(2 ^ 62) ≤ 1 + y ∧ 1 + y < 2 ^ 62 := by omega
      simp [ki_rng hy]
      refine k_letters ok4 (by simp; omega) (by simp; omega) fun cs w5 hcs hcl ok5 => ?_
      simp at hcs ok5
      simp [join_letters cs (by omega), tyB]
      exact fin (Txt.join "" (cs.map chr1)) s9 w5 (join_chg (by omega) (by omega) hcl) (ok5.mono (by omega))
    · simp [hz]
      exact fin y0 s9 w3 (ownW_chg y0 hy0) (ok3.mono (by omega))
  · intro ρ μ hh
    rw [hI] at hh
    obtain ⟨ws, w1, s5, s6, s7, s8, s9, s10, rfl, rfl, hl, hc, hd, ok⟩ := hh
    rw [rngD_len] at hl ok
    simp
    refine k_Body_lst (Nat.le_refl _) (by simp; rfl) ?_
    simp
    exact hK ws w1 hl hc hd ok
end Zl
set_option Elab.async false
set_option linter.all false
set_option maxRecDepth 100000
set_option maxHeartbeats 4000000
namespace Zl
open PySem PySem.Spec L2
open PyProof.Rows hiding St
/-! # drawn lines -/
structure LineOk (ws : List Str) (line : List Ver) : Prop where
  ver : ∀ (i : Nat) v, line[i]? = some v → VerOk i v
  word : ∀ v ∈ line, ∀ b w, v.deed = some (b, w) → w ∈ ws
def lineD (line : List Ver) : D := .lst (line.map verD)
@[simp] theorem oMax2 {μ : Mu} (i j : Int) : oMax [.d (.int i), .d (.int j)] μ = .ok (.d (.int (if j > i then j else i)), μ) := (rfl)
@[simp] theorem oMin2 {μ : Mu} (i j : Int) : oMin [.d (.int i), .d (.int j)] μ = .ok (.d (.int (if j < i then j else i)), μ) := (rfl)
theorem rng_get {k i : Nat} {d : D} (h : (rngD 0 k)[i]? = some d) : i < k ∧ d = .int i := by
  have h1 := (List.getElem?_eq_some_iff.mp h).1
  rw [rngD_len] at h1
  refine ⟨h1, ?_⟩
  unfold rngD at h
  rw [List.getElem?_map, List.getElem?_range h1] at h
  simp at h
  exact h.symm
theorem line_wp {n : Nat} {most : Int} {w : Draw} {ws : List Str} (h : DrOk n w) (hm : 0 < most) (hm2 : most ≤ 100) (hn : n + 1000 < 1000000) (hw : ∀ x ∈ ws, Chg x) (hw0 : ws ≠ []) (hwl : ws.length < 1000) (r : Mu) {K : KE}
    (hK : ∀ (line : List Ver) (w' : Draw), 0 < line.length → line.length ≤ most → LineOk ws line → DrOk (n + 1 + 9 * line.length) w' → K (.d (lineD line)) (drw w' ++ r)) :
    Wp (F_law_line [.own 2, .d (.lst (ws.map D.str)), .d (.int most)] (drw w ++ r)) K := by
  unfold F_law_line
  rw [w_Body]
  simp [S_law_line, startR]
  refine next_wp h (by omega) hm (by omega) _ fun z w1 z0 z1 ok1 => ?_
  have hz : -(2 ^ 62) ≤ 1 + z ∧ 1 + z < 2 ^ 62 := by omega
  simp [ki_rng hz]
  obtain ⟨I, hI⟩ : ∃ I : Nat → Rho → Mu → Prop, I = fun i ρ μ => ∃ (line : List Ver) (w1 : Draw) (s4 s5 s6 s7 s8 s9 s10 : Option Val), ρ = ⟨3 + r.length, [some (.own 2), some (.d (.lst (ws.map D.str))), some (.d (.int most)), some (.own (3 + r.length)), s4, s5, s6, s7, s8, s9, s10]⟩ ∧
      μ = drw w1 ++ (r ++ [.lst (vD (line.map verD))]) ∧ line.length = i ∧ LineOk ws line ∧ DrOk (n + 1 + 9 * i) w1 := ⟨_, rfl⟩
  refine wp_forI I (by rw [hI]; exact ⟨[], w1, none, none, none, none, none, none, none, rfl, rfl, rfl, ⟨by simp, by simp⟩, ok1⟩) ?_ ?_
  · intro i d ρ μ hi hh
    rw [hI] at hh
    obtain ⟨line, w2, s4, s5, s6, s7, s8, s9, s10, rfl, rfl, hl, hline, ok⟩ := hh
    obtain ⟨hik, rfl⟩ := rng_get hi
    simp [b_law_line_3]
    refine next_wp ok (by omega) (by omega) (by omega) _ fun way w3 y0 y1 ok3 => ?_
    simp
    generalize hF : kSeq (fSeq i_law_line_2 _) _ = F
    have fin : ∀ (us : List Nat) (w4 : Draw), UpsOk i us → DrOk (n + 1 + 9 * i + 3) w4 → F .nx (⟨3 + r.length, [some (.own 2), some (.d (.lst (ws.map D.str))), some (.d (.int most)), some (.own (3 + r.length)), some (.d (.int i)), some (.d (.int way)), some (.d (.tup (us.map natD))), s7, s8, s9, s10]⟩, drw w4 ++ (r ++ [.lst (vD (line.map verD))])) := by
      intro us w4 hus ok4
      subst hF
      simp
      generalize hF : kSeq (fSeq (fSet 9 _) _) _ = F
      have fin : ∀ (us : List Nat) (w5 : Draw) (s7 s8 : Option Val), UpsOk i us → DrOk (n + 1 + 9 * i + 5) w5 → F .nx (⟨3 + r.length, [some (.own 2), some (.d (.lst (ws.map D.str))), some (.d (.int most)), some (.own (3 + r.length)), some (.d (.int i)), some (.d (.int way)), some (.d (.tup (us.map natD))), s7, s8, s9, s10]⟩, drw w5 ++ (r ++ [.lst (vD (line.map verD))])) := by
        intro us w5 s7 s8 hus ok5
        subst hF
        simp
        refine next_wp ok5 (by omega) (by omega) (by omega) _ fun kind w6 k0 k1 ok6 => ?_
        simp
        have hlen : line.length < 1000000 := by omega
        have fin : ∀ (a : Option (Bool × Str)) (w7 : Draw), (∀ b w, a = some (b, w) → w ∈ ws) → DrOk (n + 1 + 9 * i + 7) w7 →
            I (i + 1) ⟨3 + r.length, [some (.own 2), some (.d (.lst (ws.map D.str))), some (.d (.int most)), some (.own (3 + r.length)), some (.d (.int i)), some (.d (.int way)), some (.d (.tup (us.map natD))), s7, s8, some (.d (.int kind)), some (.d (actD a))]⟩ (drw w7 ++ (r ++ [.lst (vD (line.map verD ++ [.tup [.tup (us.map natD), actD a]]))])) := by
          intro a w7 ha ok7
          rw [hI]
          refine ⟨line ++ [⟨us, a⟩], w7, _, _, _, _, _, _, _, rfl, by simp [verD], by simp [hl], ⟨fun j v hj => ?_, fun v hv b x e => ?_⟩, ok7.mono (by omega)⟩
          · rcases Nat.lt_or_ge j line.length with hjl | hjl
            · rw [List.getElem?_append_left hjl] at hj
              exact hline.ver j v hj
            · rw [List.getElem?_append_right hjl] at hj
              have : j - line.length = 0 := by
                have := (List.getElem?_eq_some_iff.mp hj).1
                simp at this
                exact this
              rw [this] at hj
              simp at hj
              subst hj
              have hji : j = i := by omega
              subst hji
              exact ⟨hus, fun b w e => hw w (ha b w e)⟩
          · rcases List.mem_append.mp hv with hv | hv
            · exact hline.word v hv b x e
            · simp at hv
              subst hv
              exact ha b x e
        by_cases hk : kind = 0
        · simp [hk, hlen]
          have := fin none w6 (by simp) (ok6.mono (by omega))
          rw [hk] at this
          exact this
        · simp [hk]
          have hact : ∀ (b : Bool) (μ : Mu), oIx (.d (.lst [.str "revert", .str "apply"])) (.d (.int (if b = true then 1 else 0))) μ = .ok (.d (.str (actW b)), μ) := by
            intro b μ
            cases b <;> exact oIx_lst (by simp [atI, ixN]; rfl)
          have hact2 := hact (decide (2 < kind))
          simp only [decide_eq_true_eq] at hact2
          simp [hact2]
          refine pick_wp ok6 (by omega) (by simpa using hw0) (by simpa using (by omega : ws.length < 1000000)) _ fun x w7 hx ok7 => ?_
          obtain ⟨y, hy, rfl⟩ := List.mem_map.mp hx
          simp [hlen]
          exact fin (some (decide (2 < kind), y)) w7 (fun b w e => by cases e; exact hy) (ok7.mono (by omega))
      by_cases h1 : 1 < i ∧ 4 < way
      · obtain ⟨h1, h2⟩ := h1
        have h1' : (1 : Int) < i := by omega
        simp [i_law_line_2, h1', h2]
        refine next_wp ok4 (by omega) (by omega) (by omega) _ fun a w5 a0 a1 ok5 => ?_
        simp
        refine next_wp ok5 (by omega) (by omega) (by omega) _ fun b w6 b0 b1 ok6 => ?_
        simp
        obtain ⟨c, hc⟩ : ∃ c : Int, c = b + (if a ≤ b then 1 else 0) := ⟨_, rfl⟩
        rw [← hc]
        have hc0 : 0 ≤ c := by rw [hc]; split <;> omega
        have hc1 : c < i := by rw [hc]; split <;> omega
        have hca : c ≠ a := by rw [hc]; split <;> omega
        have hlo : (if c < a then c else a) = ((min a c).toNat : Int) := by
          split <;> omega
        have hhi : (if a < c then c else a) = ((max a c).toNat : Int) := by
          split <;> omega
        rw [hlo, hhi]
        exact fin [(min a c).toNat, (max a c).toNat] w6 _ _ (UpsOk.two (by omega) (by omega)) (ok6.mono (by omega))
      · have h2 : ¬ (1 < i) ∨ ¬ (4 < way) := by omega
        have := fin us w4 s7 s8 hus (ok4.mono (by omega))
        by_cases h3 : 1 < i
        · have h4 : ¬ (4 < way) := by omega
          have h3' : (1 : Int) < i := by omega
          simp [i_law_line_2, h3', h4]
          exact this
        · have h3' : ¬ (1 : Int) < i := by omega
          simp [i_law_line_2, h3']
          exact this
    by_cases h1 : 0 < i
    · by_cases h2 : 0 < way
      · simp [i_law_line_1, h1, h2]
        refine next_wp ok3 (by omega) (by omega) (by omega) _ fun a w4 a0 a1 ok4 => ?_
        simp
        refine pick_wp ok4 (by omega) (by simp) (by simp) _ fun x w5 hx ok5 => ?_
        simp
        have hx2 : ∃ u : Nat, x = .int u ∧ u < i := by
          simp at hx
          rcases hx with rfl | rfl | rfl
          · exact ⟨i - 1, by congr 1; omega, by omega⟩
          · exact ⟨i - 2, by congr 1; split <;> omega, by omega⟩
          · exact ⟨a.toNat, by congr 1; omega, by omega⟩
        obtain ⟨u, rfl, hu⟩ := hx2
        exact fin [u] w5 (UpsOk.one hu) (ok5.mono (by omega))
      · simp [i_law_line_1, h1, h2]
        exact fin [] w3 UpsOk.none (ok3.mono (by omega))
    · simp [i_law_line_1, h1]
      exact fin [] w3 UpsOk.none (ok3.mono (by omega))
  · intro ρ μ hh
    rw [hI] at hh
    obtain ⟨line, w2, s4, s5, s6, s7, s8, s9, s10, rfl, rfl, hl, hline, ok⟩ := hh
    rw [rngD_len] at hl ok
    simp
    refine k_Body_lst (Nat.le_refl _) (by simp; rfl) ?_
    simp
    exact hK line w2 (by omega) (by omega) hline (ok.mono (by omega))
end Zl
set_option Elab.async false
set_option linter.all false
set_option maxRecDepth 100000
set_option maxHeartbeats 4000000
namespace Zl
open PySem PySem.Spec L2 PySem.W
open PyProof.Rows hiding St
/-! # sets of keys, sorting -/
section
variable {α : Type} [DecidableEq α]
def addK (ks : List α) (k : α) : List α := if k ∈ ks then ks else ks ++ [k]
def addA (ks js : List α) : List α := js.foldl addK ks
@[simp] theorem addA_nil (ks : List α) : addA ks [] = ks := rfl
@[simp] theorem addA_cons (ks : List α) (j : α) (js : List α) : addA ks (j :: js) = addA (addK ks j) js := rfl
theorem addA_snoc (ks js : List α) (j : α) : addA ks (js ++ [j]) = addK (addA ks js) j := by simp [addA, List.foldl_append]
theorem mem_addK {ks : List α} {k x : α} : x ∈ addK ks k ↔ x ∈ ks ∨ x = k := by
  unfold addK
  split
  · rename_i h
    exact ⟨.inl, fun e => e.elim id fun e => e ▸ h⟩
  · simp
theorem mem_addA {js : List α} : ∀ {ks : List α} {x : α}, x ∈ addA ks js ↔ x ∈ ks ∨ x ∈ js := by
  induction js with
  | nil => intro ks x; simp
  | cons j js ih =>
    intro ks x
    rw [addA_cons, ih, mem_addK]
    simp [or_assoc]
theorem nodup_addK {ks : List α} {k : α} (h : ks.Nodup) : (addK ks k).Nodup := by
  unfold addK
  split
  · exact h
  · rename_i hk
    rw [List.nodup_append]
    refine ⟨h, by simp, fun a ha b hb e => ?_⟩
    simp at hb
    exact hk (hb ▸ e ▸ ha)
theorem nodup_addA {js : List α} : ∀ {ks : List α}, ks.Nodup → (addA ks js).Nodup := by
  induction js with
  | nil => intro ks h; exact h
  | cons j js ih => intro ks h; exact ih (nodup_addK h)
theorem addK_map {β : Type} [DecidableEq β] {f : α → β} (hf : ∀ x y, f x = f y → x = y) (ks : List α) (k : α) : addK (ks.map f) (f k) = (addK ks k).map f := by
  have e : f k ∈ ks.map f ↔ k ∈ ks := by
    constructor
    · intro h
      obtain ⟨x, hx, e⟩ := List.mem_map.mp h
      exact hf _ _ e ▸ hx
    · exact fun h => List.mem_map_of_mem h
  unfold addK
  by_cases h : k ∈ ks
  · rw [if_pos h, if_pos (e.mpr h)]
  · rw [if_neg h, if_neg (fun z => h (e.mp z))]; simp
theorem addA_map {β : Type} [DecidableEq β] {f : α → β} (hf : ∀ x y, f x = f y → x = y) (js : List α) : ∀ ks : List α, addA (ks.map f) (js.map f) = (addA ks js).map f := by
  induction js with
  | nil => intro ks; rfl
  | cons j js ih => intro ks; rw [List.map_cons, addA_cons, addA_cons, addK_map hf, ih]
theorem addA_len {js : List α} : ∀ {ks : List α}, (addA ks js).length ≤ ks.length + js.length := by
  induction js with
  | nil => intro ks; exact Nat.le_refl _
  | cons j js ih =>
    intro ks
    have := ih (ks := addK ks j)
    have h2 : (addK ks j).length ≤ ks.length + 1 := by unfold addK; split <;> simp
    rw [addA_cons]
    simp
    omega
theorem addA_nil_nodup {js : List α} (h : js.Nodup) : addA [] js = js := by
  have key : ∀ (js ks : List α), (ks ++ js).Nodup → addA ks js = ks ++ js := by
    intro js
    induction js with
    | nil => intro ks _; simp
    | cons j js ih =>
      intro ks h
      have hj : j ∉ ks := fun hm => by
        rw [List.nodup_append] at h
        exact h.2.2 j hm j (List.mem_cons_self ..) rfl
      rw [addA_cons]
      unfold addK
      rw [if_neg hj, ih _ (by simpa using h)]
      simp
  simpa using key js [] (by simpa using h)
end
def trs (n : Nat) : List D := List.replicate n (.bl true)
@[simp] theorem trs_len (n : Nat) : (trs n).length = n := by simp [trs]
theorem trs_map {α : Type} (l : List α) : l.map (fun _ => D.bl true) = trs l.length := by
  induction l with
  | nil => rfl
  | cons a l ih => rw [List.map_cons, ih]; rfl
theorem repK_trs {ks : List Key} : ∀ {k : Key}, repK ks (vD (trs ks.length)) k (.d (.bl true)) = vD (trs ks.length) := by
  induction ks with
  | nil => intro k; rfl
  | cons j ks ih =>
    intro k
    show (if j = k then _ else _) :: repK ks (vD (trs ks.length)) k (.d (.bl true)) = _
    rw [ih]
    split <;> rfl
theorem putKs_trs {ks : List Key} {k : Key} : putKs ks (vD (trs ks.length)) k (.d (.bl true)) = (addK ks k, vD (trs (addK ks k).length)) := by
  unfold putKs addK
  split
  · rw [repK_trs]
  · simp only [vD_snoc, List.length_append, List.length_cons, List.length_nil]
    congr 2
    simp [trs, List.replicate_succ']
theorem mergeKs_trs {js : List Key} : ∀ {ks : List Key}, mergeKs ks (vD (trs ks.length)) js (vD (trs js.length)) = (addA ks js, vD (trs (addA ks js).length)) := by
  induction js with
  | nil => intro ks; rfl
  | cons j js ih =>
    intro ks
    show mergeKs (putKs ks (vD (trs ks.length)) j (.d (.bl true))).1 (putKs ks (vD (trs ks.length)) j (.d (.bl true))).2 js (vD (trs js.length)) = _
    rw [putKs_trs]
    exact ih
def nK (n : Nat) : Key := .inl (n : Int)
def sK (x : Str) : Key := .inr x
theorem nK_inj (x y : Nat) (h : nK x = nK y) : x = y := by
  have : (x : Int) = y := by simpa [nK] using h
  omega
theorem sK_inj (x y : Str) (h : sK x = sK y) : x = y := by simp [sK] at h; exact h
theorem keyD1_n (ks : List Nat) : (ks.map nK).map keyD1 = ks.map natD := by simp [nK, keyD1, natD, Function.comp_def]
theorem keyD1_s (ks : List Str) : (ks.map sK).map keyD1 = ks.map D.str := by simp [sK, keyD1, Function.comp_def]
theorem pairsD_n (ks : List Nat) : pairsD (ks.map fun k => .tup [natD k, .bl true]) = some (ks.map nK, trs (ks.map nK).length) := by
  induction ks with
  | nil => rfl
  | cons k ks ih => simp [pairsD, pairD, natD, keyD] at ih ⊢; simp [ih, nK, trs, List.replicate_succ]
theorem pairsD_s (ks : List Str) : pairsD (ks.map fun k => .tup [.str k, .bl true]) = some (ks.map sK, trs (ks.map sK).length) := by
  induction ks with
  | nil => rfl
  | cons k ks ih => simp [pairsD, pairD, keyD] at ih ⊢; simp [ih, sK, trs, List.replicate_succ]
/-- a dict of keys, each True -/
def setD (ks : List Key) : D := .dK ks (trs ks.length)
def setC (ks : List Key) : Cell := .dK ks (vD (trs ks.length))
theorem oDict_set {μ : Mu} {ds : List D} {js : List Key} (e : pairsD ds = some (js, trs js.length)) : oDict false [.d (.lst ds)] μ = .ok (.d (setD (addA [] js)), μ) := by
  have m := mergeKs_trs (ks := []) (js := js)
  show (match (some ds).bind pairsD with
    | some (ks, ds) => let m := mergeKs [] [] ks (ds.map Val.d); if false = true then R.ok (Val.own μ.length, μ ++ [Cell.dK m.1 m.2]) else (match dsOf m.2 with
      | some es => R.ok (Val.d (D.dK m.1 es), μ)
      | none => .bad)
    | none => _) = _
  rw [Option.bind_some, e]
  have m' : mergeKs [] [] js ((trs js.length).map Val.d) = (addA [] js, vD (trs (addA [] js).length)) := m
  simp only [m']
  simp [setD]
theorem oDict_setL {μ : Mu} {ds : List D} {js : List Key} (e : pairsD ds = some (js, trs js.length)) : oDict true [.d (.lst ds)] μ = .ok (.own μ.length, μ ++ [setC (addA [] js)]) := by
  have m := mergeKs_trs (ks := []) (js := js)
  show (match (some ds).bind pairsD with
    | some (ks, ds) => let m := mergeKs [] [] ks (ds.map Val.d); if true = true then R.ok (Val.own μ.length, μ ++ [Cell.dK m.1 m.2]) else (match dsOf m.2 with
      | some es => R.ok (Val.d (D.dK m.1 es), μ)
      | none => .bad)
    | none => _) = _
  rw [Option.bind_some, e]
  have m' : mergeKs [] [] js ((trs js.length).map Val.d) = (addA [] js, vD (trs (addA [] js).length)) := m
  simp only [m']
  simp [setC]
/-- d.update(e) of such dicts -/
theorem upd_set {n0 k : Nat} {μ : Mu} {ks js : List Key} (e : μ[k]? = some (setC ks)) (hl : ks.length + js.length < 1000000) : oUpdate n0 (.own k) [.d (setD js)] μ = .ok (.d .non, μ.set k (setC (addA ks js))) := by
  have m := mergeKs_trs (ks := ks) (js := js)
  unfold setC at e
  simp [upd_own, setD, e, hl, m, setC]
theorem oDict_n {μ : Mu} {ks : List Nat} : oDict false [.d (.lst (ks.map fun k => .tup [natD k, .bl true]))] μ = .ok (.d (setD ((addA [] ks).map nK)), μ) := by
  rw [oDict_set (pairsD_n ks)]
  rw [show addA [] (ks.map nK) = (addA [] ks).map nK from addA_map nK_inj ks []]
theorem oDict_nL {μ : Mu} {ks : List Nat} : oDict true [.d (.lst (ks.map fun k => .tup [natD k, .bl true]))] μ = .ok (.own μ.length, μ ++ [setC ((addA [] ks).map nK)]) := by
  rw [oDict_setL (pairsD_n ks)]
  rw [show addA [] (ks.map nK) = (addA [] ks).map nK from addA_map nK_inj ks []]
theorem oDict_s {μ : Mu} {ks : List Str} : oDict false [.d (.lst (ks.map fun k => .tup [.str k, .bl true]))] μ = .ok (.d (setD ((addA [] ks).map sK)), μ) := by
  rw [oDict_set (pairsD_s ks)]
  rw [show addA [] (ks.map sK) = (addA [] ks).map sK from addA_map sK_inj ks []]
theorem upd_setN {n0 k : Nat} {μ : Mu} {ks js : List Nat} (e : μ[k]? = some (setC (ks.map nK))) (hl : ks.length + js.length < 1000000) : oUpdate n0 (.own k) [.d (setD (js.map nK))] μ = .ok (.d .non, μ.set k (setC ((addA ks js).map nK))) := by
  rw [upd_set e (by simpa using hl), addA_map nK_inj]
theorem upd_setX {n0 k : Nat} {μ : Mu} {ks js : List Nat} (e : μ[k]? = some (.dK (ks.map nK) (vD (trs ks.length)))) (hl : ks.length + js.length < 1000000) : oUpdate n0 (.own k) [.d (setD (js.map nK))] μ = .ok (.d .non, μ.set k (.dK ((addA ks js).map nK) (vD (trs (addA ks js).length)))) := by
  rw [upd_setN (ks := ks) (by simpa [setC] using e) hl]
  simp [setC]
theorem nodup_lt {n : Nat} {ks : List Nat} (h : ks.Nodup) (hb : ∀ x ∈ ks, x < n) : ks.length ≤ n := by
  have := nodup_len h (m := List.range n) (fun x hx => List.mem_range.mpr (hb x hx))
  simpa using this
theorem dcGo_set {g : FG} {fk fv : FE} {ρ : Rho} {μ : Mu} : ∀ {ds : List D} {ks : List Key} {js : List Key}, (∀ p ∈ ds.zip js, ∃ ρ', g (.d p.1) ρ μ = .ok (ρ', μ) ∧ ∃ kd, fk ρ' μ = .ok (.d kd, μ) ∧ keyD kd = some p.2 ∧ fv ρ' μ = .ok (.d (.bl true), μ)) → ds.length = js.length → ks.length + ds.length < 1000000 →
    dcGo g fYes fk fv ds ρ μ ks (vD (trs ks.length)) = .ok ((addA ks js, vD (trs (addA ks js).length)), μ)
  | [], ks, [], _, _, _ => rfl
  | d :: ds, ks, j :: js, h, hl, hz => by
    obtain ⟨ρ', e1, kd, e2, e3, e4⟩ := h (d, j) (by simp)
    simp only [List.length_cons] at hz hl
    have hz1 : ks.length < 1000000 := by omega
    have hz2 : (addK ks j).length ≤ ks.length + 1 := by unfold addK; split <;> simp
    have ih := dcGo_set (g := g) (fk := fk) (fv := fv) (ρ := ρ) (μ := μ) (ds := ds) (ks := addK ks j) (js := js) (fun p hp => h p (by simp [hp])) (by omega) (by omega)
    simp only [dcGo, e1, R.noex_ok, R.bind_ok, fYes, if_true, e2, e4, keyV, e3, hz1, putKs_trs, ih]
    rfl
  | [], _, _ :: _, _, hl, _ => by simp at hl
  | _ :: _, _, [], _, hl, _ => by simp at hl
/-- a dict comprehension over numbers, each True -/
theorem k_dcN {live : Bool} {g : FG} {fk fv : FE} {ρ : Rho} {μ : Mu} {K : KE} {ks : List Nat} (hl : ks.length < 1000000)
    (h : ∀ k ∈ ks, Wp (g (.d (natD k)) ρ μ) fun ρ' μ' => μ' = μ ∧ Wp (fk ρ' μ) (fun v μ' => v = .d (natD k) ∧ μ' = μ) ∧ Wp (fv ρ' μ) (fun v μ' => v = .d (.bl true) ∧ μ' = μ))
    (hk : if live = true then K (.own μ.length) (μ ++ [setC ((addA [] ks).map nK)]) else K (.d (setD ((addA [] ks).map nK))) μ) : kDc live g fYes fk fv ρ K (ks.map natD) μ := by
  have e := dcGo_set (g := g) (fk := fk) (fv := fv) (ρ := ρ) (μ := μ) (ds := ks.map natD) (ks := []) (js := ks.map nK) (fun p hp => by
    obtain ⟨k, hk1, e⟩ : ∃ k ∈ ks, p = (natD k, nK k) := by
      rw [List.zip_map'] at hp
      obtain ⟨a, ha, e⟩ := List.mem_map.mp hp
      exact ⟨a, ha, e.symm⟩
    subst e
    obtain ⟨ρ', μ', e1, h1, h2, h3⟩ := (h k hk1).elim
    subst h1
    obtain ⟨v, μ1, e2, rfl, rfl⟩ := h2.elim
    obtain ⟨v, μ1, e3, rfl, rfl⟩ := h3.elim
    exact ⟨ρ', e1, natD k, e2, rfl, e3⟩) (by simp) (by simpa using hl)
  have e' : addA [] (ks.map nK) = (addA [] ks).map nK := addA_map nK_inj ks []
  rw [e'] at e
  unfold kDc
  have e2 : dcGo g fYes fk fv (ks.map natD) ρ μ [] [] = _ := e
  rw [e2]
  simp only [R.bind_ok, dcFin]
  cases live with
  | true => exact hk
  | false => simpa [setD] using hk
/-! sorting -/
def natsD (l : List Nat) : D := .lst (l.map natD)

def sortN (ks : List Nat) : List Nat := ks.mergeSort fun a b => dataLe false pyOf (natD a) (natD b)
def sortS (ws : List Str) : List Str := ws.mergeSort fun a b => dataLe false pyOf (.str a) (.str b)
theorem srtD_n (ks : List Nat) : srtD (ks.map natD) = (sortN ks).map natD := (List.map_mergeSort (f := natD) (r := fun a b => dataLe false pyOf (natD a) (natD b)) (s := dataLe false pyOf) (l := ks) (fun _ _ _ _ => rfl)).symm
theorem srtD_s (ws : List Str) : srtD (ws.map D.str) = (sortS ws).map D.str := (List.map_mergeSort (f := D.str) (r := fun a b => dataLe false pyOf (.str a) (.str b)) (s := dataLe false pyOf) (l := ws) (fun _ _ _ _ => rfl)).symm
theorem sortN_perm (ks : List Nat) : (sortN ks).Perm ks := List.mergeSort_perm ..
theorem sortS_perm (ks : List Str) : (sortS ks).Perm ks := List.mergeSort_perm ..
theorem mem_sortN {ks : List Nat} {x : Nat} : x ∈ sortN ks ↔ x ∈ ks := (sortN_perm ks).mem_iff
theorem mem_sortS {ks : List Str} {x : Str} : x ∈ sortS ks ↔ x ∈ ks := (sortS_perm ks).mem_iff
theorem okSrt_n (ks : List Nat) : okSrt (ks.map natD) = true := by
  unfold okSrt
  simp only [Bool.and_eq_true, Bool.or_eq_true, List.all_eq_true]
  refine ⟨⟨fun d hd => ?_, fun d hd e he => ?_⟩, .inr fun d hd => ?_⟩
  · obtain ⟨k, _, rfl⟩ := List.mem_map.mp hd
    exact ⟨rfl, decide_eq_true (by show (PyData.int (k : Int)).depth ≤ 60; simp [PyData.depth])⟩
  · obtain ⟨k, _, rfl⟩ := List.mem_map.mp hd
    obtain ⟨j, _, rfl⟩ := List.mem_map.mp he
    show alike (.int k) (.int j) = true
    simp [alike]
  · obtain ⟨k, _, rfl⟩ := List.mem_map.mp hd
    rfl
theorem okSrt_s (ws : List Str) : okSrt (ws.map D.str) = true := by
  unfold okSrt
  simp only [Bool.and_eq_true, Bool.or_eq_true, List.all_eq_true]
  refine ⟨⟨fun d hd => ?_, fun d hd e he => ?_⟩, .inr fun d hd => ?_⟩
  · obtain ⟨k, _, rfl⟩ := List.mem_map.mp hd
    exact ⟨rfl, decide_eq_true (by show (PyData.str k).depth ≤ 60; simp [PyData.depth])⟩
  · obtain ⟨k, _, rfl⟩ := List.mem_map.mp hd
    obtain ⟨j, _, rfl⟩ := List.mem_map.mp he
    show alike (.str k) (.str j) = true
    simp [alike]
  · obtain ⟨k, _, rfl⟩ := List.mem_map.mp hd
    rfl
theorem sorted_set {μ : Mu} {j : Nat} {ks : List Nat} (e : μ[j]? = some (setC (ks.map nK))) (hl : ks.length ≤ 100000) : oSorted false [.own j] μ = .ok (.d (.lst ((sortN ks).map natD)), μ) := by
  have e1 : srcV μ (.own j) = some (ks.map natD) := by
    unfold srcV
    simp [e, setC]
    simp [nK, keyD1, natD]
  unfold oSorted
  simp only [e1, okSrt_n, srtD_n]
  simp [hl]
theorem sorted_setX {μ : Mu} {j : Nat} {ks : List Nat} (e : μ[j]? = some (.dK (ks.map nK) (vD (trs ks.length)))) (hl : ks.length ≤ 100000) : oSorted false [.own j] μ = .ok (.d (natsD (sortN ks)), μ) := sorted_set (by simpa [setC] using e) hl
theorem sorted_setS {μ : Mu} {ws : List Str} (hl : ws.length ≤ 100000) : oSorted false [.d (setD (ws.map sK))] μ = .ok (.d (.lst ((sortS ws).map D.str)), μ) := by
  have e1 : srcV μ (.d (setD (ws.map sK))) = some (ws.map D.str) := by
    unfold srcV
    simp [setD, rowV, seqV, sK, keyD1]
  unfold oSorted
  simp only [e1, okSrt_s, srtD_s]
  simp [hl]
theorem sorted_strs {μ : Mu} {ws : List Str} (hl : ws.length ≤ 100000) : oSorted false [.d (.lst (ws.map D.str))] μ = .ok (.d (.lst ((sortS ws).map D.str)), μ) := by
  have e1 : srcV μ (.d (.lst (ws.map D.str))) = some (ws.map D.str) := by simp [srcV]
  unfold oSorted
  simp only [e1, okSrt_s, srtD_s]
  simp [hl]
theorem sorted_strsT {μ : Mu} {ws : List Str} (hl : ws.length ≤ 100000) : oSorted false [.d (.tup (ws.map D.str))] μ = .ok (.d (.lst ((sortS ws).map D.str)), μ) := by
  have e1 : srcV μ (.d (.tup (ws.map D.str))) = some (ws.map D.str) := by simp [srcV]
  unfold oSorted
  simp only [e1, okSrt_s, srtD_s]
  simp [hl]
theorem sorted_own {μ : Mu} {j : Nat} {ws : List Str} (e : lstV μ (.own j) = some (ws.map D.str)) (hl : ws.length ≤ 100000) : oSorted false [.own j] μ = .ok (.d (.lst ((sortS ws).map D.str)), μ) := by
  have e1 : srcV μ (.own j) = some (ws.map D.str) := by
    unfold srcV
    simp only [rowV_own, e]
  unfold oSorted
  simp only [e1, okSrt_s, srtD_s]
  simp [hl]
/-! # histories as mathematics -/
def bAt (B : List (List Nat)) (u : Nat) : List Nat := B.getD u []
def bh (B : List (List Nat)) (us : List Nat) : List Nat := sortN (us.foldl (fun ks u => addA ks (addA [] (bAt B u))) (addA [] us))
def bhs (line : List Ver) : List (List Nat) := line.foldl (fun B v => B ++ [bh B v.ups]) []
def named (line : List Ver) : List Str := addA [] (line.filterMap fun v => v.deed.map (·.2))
def vAt (line : List Ver) (u : Nat) : Ver := line.getD u ⟨[], none⟩
def touched (v : Ver) (w : Str) : Bool := match v.deed with
  | some (_, x) => decide (x = w)
  | none => false
theorem touched_none {v : Ver} {w : Str} (e : v.deed = none) : touched v w = false := by simp [touched, e]
theorem touched_some {v : Ver} {w x : Str} {b : Bool} (e : v.deed = some (b, x)) : touched v w = decide (x = w) := by simp [touched, e]
def touches (line : List Ver) (B : List (List Nat)) (v : Nat) (w : Str) : List Nat := (bAt B v ++ [v]).filter fun u => touched (vAt line u) w
def lastT (line : List Ver) (B : List (List Nat)) (v : Nat) (w : Str) : List Nat := (touches line B v w).filter fun u => !((touches line B v w).any fun t => decide (u ∈ bAt B t))
def deedB (line : List Ver) (u : Nat) : Bool := match (vAt line u).deed with
  | some (b, _) => b
  | none => false
def inForce (line : List Ver) (B : List (List Nat)) (v : Nat) (w : Str) : Bool := (lastT line B v w).any (deedB line)
def packAt (line : List Ver) (B : List (List Nat)) (v : Nat) : List Str := (sortS (named line)).filter (inForce line B v)
def packs (line : List Ver) : List (List Str) := (List.range line.length).map (packAt line (bhs line))
def packD (p : List Str) : D := .tup (p.map D.str)
theorem bhs_snoc (line : List Ver) (v : Ver) : bhs (line ++ [v]) = bhs line ++ [bh (bhs line) v.ups] := by simp [bhs, List.foldl_append]
theorem bhs_len : ∀ (line : List Ver), (bhs line).length = line.length := by
  have key : ∀ (line : List Ver) (B : List (List Nat)), (line.foldl (fun B v => B ++ [bh B v.ups]) B).length = B.length + line.length := by
    intro line
    induction line with
    | nil => intro B; rfl
    | cons v line ih => intro B; rw [List.foldl_cons, ih]; simp; omega
  intro line
  have := key line []
  rw [List.length_nil, Nat.zero_add] at this
  exact this
theorem mem_bh {B : List (List Nat)} {us : List Nat} {x : Nat} : x ∈ bh B us ↔ x ∈ us ∨ ∃ u ∈ us, x ∈ bAt B u := by
  have key : ∀ (vs : List Nat) (ks : List Nat), x ∈ vs.foldl (fun ks u => addA ks (addA [] (bAt B u))) ks ↔ x ∈ ks ∨ ∃ u ∈ vs, x ∈ bAt B u := by
    intro vs
    induction vs with
    | nil => intro ks; simp
    | cons v vs ih =>
      intro ks
      rw [List.foldl_cons, ih, mem_addA, mem_addA]
      simp [or_assoc]
  unfold bh
  rw [mem_sortN, key, mem_addA]
  simp
theorem bh_nodup (B : List (List Nat)) (us : List Nat) : (bh B us).Nodup := by
  have key : ∀ (vs : List Nat) (ks : List Nat), ks.Nodup → (vs.foldl (fun ks u => addA ks (addA [] (bAt B u))) ks).Nodup := by
    intro vs
    induction vs with
    | nil => intro ks h; exact h
    | cons v vs ih => intro ks h; exact ih _ (nodup_addA h)
  exact (sortN_perm _).nodup_iff.mpr (key us _ (nodup_addA List.nodup_nil))
theorem bhs_nodup (line : List Ver) (u : Nat) : (bAt (bhs line) u).Nodup := by
  have key : ∀ (line : List Ver) (B : List (List Nat)), (∀ l ∈ B, l.Nodup) → ∀ l ∈ line.foldl (fun B v => B ++ [bh B v.ups]) B, l.Nodup := by
    intro line
    induction line with
    | nil => intro B h; exact h
    | cons v line ih =>
      intro B h
      refine ih _ fun l hl => ?_
      rcases List.mem_append.mp hl with hl | hl
      · exact h l hl
      · simp at hl
        rw [hl]
        exact bh_nodup B v.ups
  unfold bAt
  rw [List.getD_eq_getElem?_getD]
  cases e : (bhs line)[u]? with
  | none => exact List.nodup_nil
  | some l => exact key line [] (by simp) l (List.mem_of_getElem? e)
/-- the ancestors of a version are earlier ones -/
def Bel (B : List (List Nat)) : Prop := ∀ (i : Nat) l, B[i]? = some l → ∀ x ∈ l, x < i
theorem Bel.getD {B : List (List Nat)} (h : Bel B) {u x : Nat} (hx : x ∈ bAt B u) : x < u := by
  unfold bAt at hx
  rw [List.getD_eq_getElem?_getD] at hx
  cases e : B[u]? with
  | none => rw [e] at hx; simp at hx
  | some l => rw [e] at hx; exact h u l e x hx
theorem bhs_bel {line : List Ver} (h : ∀ (i : Nat) v, line[i]? = some v → ∀ u ∈ v.ups, u < i) : Bel (bhs line) := by
  have key : ∀ n, n ≤ line.length → Bel (bhs (line.take n)) := by
    intro n
    induction n with
    | zero => intro _ i l e; simp [bhs] at e
    | succ n ih =>
      intro hn
      have hn' : n < line.length := hn
      rw [List.take_succ, List.getElem?_eq_getElem hn', Option.toList_some, bhs_snoc]
      have ih := ih (by omega)
      intro i l e x hx
      have hl : (bhs (line.take n)).length = n := by rw [bhs_len]; simp; omega
      rcases Nat.lt_or_ge i n with hi | hi
      · rw [List.getElem?_append_left (by omega)] at e
        exact ih i l e x hx
      · rw [List.getElem?_append_right (by omega)] at e
        have : i = n := by
          have := (List.getElem?_eq_some_iff.mp e).1
          simp at this
          omega
        subst this
        rw [hl, Nat.sub_self] at e
        simp at e
        subst e
        rcases mem_bh.mp hx with hu | ⟨u, hu, hx⟩
        · exact h i _ (List.getElem?_eq_getElem hn') x hu
        · have h1 := h i _ (List.getElem?_eq_getElem hn') u hu
          have h2 := ih.getD hx
          omega
  have := key line.length (Nat.le_refl _)
  rwa [List.take_length] at this
end Zl
set_option Elab.async false
set_option linter.all false
set_option maxRecDepth 100000
set_option maxHeartbeats 4000000
namespace Zl
open PySem PySem.Spec L2 PySem.W
open PyProof.Rows hiding St
/-! # the law's histories -/
section
variable {α : Type} {μ : Mu}
theorem atI_nat {l : List D} {i : Nat} {x : D} (h : l[i]? = some x) : atI l (i : Int) = some x := by
  have hi := (List.getElem?_eq_some_iff.mp h).1
  have e := (List.getElem?_eq_some_iff.mp h).2
  simp [atI, ixN, hi, e]
theorem UpsOk.lt {n : Nat} {us : List Nat} (h : UpsOk n us) : ∀ u ∈ us, u < n := by
  cases h with
  | none => simp
  | one h => simpa using h
  | two h hb =>
    intro u hu
    simp at hu
    omega
theorem UpsOk.len {n : Nat} {us : List Nat} (h : UpsOk n us) : us.length ≤ 2 := by cases h <;> simp
theorem ix_lstN {l : List D} {i : Nat} {x : D} (h : l[i]? = some x) : oIx (.d (.lst l)) (.d (.int (i : Int))) μ = .ok (.d x, μ) := oIx_lst (atI_nat h)
theorem ix_tupN {l : List D} {i : Nat} {x : D} (h : l[i]? = some x) : oIx (.d (.tup l)) (.d (.int (i : Int))) μ = .ok (.d x, μ) := oIx_tup (atI_nat h)
theorem ix_ownN {j : Nat} {l : List D} {i : Nat} {x : D} (e : μ[j]? = some (.lst (vD l))) (h : l[i]? = some x) : oIx (.own j) (.d (.int (i : Int))) μ = .ok (.d x, μ) := by
  simp [oIx, e, atI_nat h]
theorem ix_ownD {j : Nat} {l : List D} {i : Nat} {x : D} (e : μ[j]? = some (.lst (vD l))) (h : l[i]? = some x) : oIx (.own j) (.d (natD i)) μ = .ok (.d x, μ) := ix_ownN e h
theorem get_map {α : Type} {f : α → D} {l : List α} {i : Nat} (h : i < l.length) : (l.map f)[i]? = some (f l[i]) := by simp [h]
theorem ix_B {B : List (List Nat)} {u : Nat} (h : u < B.length) : (B.map natsD)[u]? = some (natsD (bAt B u)) := by simp [h, bAt]
theorem ix_V {line : List Ver} {u : Nat} (h : u < line.length) : (line.map verD)[u]? = some (verD (vAt line u)) := by simp [vAt, h]
end
theorem behind_ok {ws : List Str} {line : List Ver} (h : LineOk ws line) (hl : line.length ≤ 100) (μ : Mu) : F_law_behind [.d (lineD line)] μ = .ok (.d (.lst ((bhs line).map natsD)), μ) := by
  apply wp_eq
  unfold F_law_behind
  rw [w_Body]
  simp [S_law_behind, startR, lineD]
  obtain ⟨I, hI⟩ : ∃ I : Nat → Rho → Mu → Prop, I = fun i ρ μ' => ∃ (q : Mu) (s2 s3 s4 s5 s6 : Option Val), ρ = ⟨μ.length, [some (.d (.lst (line.map verD))), some (.own μ.length), s2, s3, s4, s5, s6]⟩ ∧
      μ' = μ ++ .lst (vD ((bhs (line.take i)).map natsD)) :: q := ⟨_, rfl⟩
  refine wp_forI I (by rw [hI]; exact ⟨[], none, none, none, none, none, rfl, rfl⟩) ?_ ?_
  · intro i d ρ μ' hi hh
    rw [hI] at hh
    obtain ⟨q, s2, s3, s4, s5, s6, rfl, rfl⟩ := hh
    have hil : i < line.length := by
      have := (List.getElem?_eq_some_iff.mp hi).1
      simpa using this
    have hv : line[i]? = some line[i] := List.getElem?_eq_getElem hil
    rw [List.getElem?_map, hv] at hi
    have hd : verD line[i] = d := Option.some.inj hi
    subst hd
    have hok := h.ver i _ hv
    generalize hvv : line[i] = v at hok hv
    have hups := hok.ups.lt
    have hul := hok.ups.len
    have hB : (bhs (line.take i)).length = i := by rw [bhs_len]; simp; omega
    have hbel : Bel (bhs (line.take i)) := bhs_bel fun j w hj u hu => by
      have hj2 : line[j]? = some w := by
        rw [List.getElem?_take] at hj
        split at hj
        · exact hj
        · cases hj
      exact (h.ver j w hj2).ups.lt u hu
    simp [b_law_behind_4, verD, w_gTup, c_law_behind_1]
    refine k_lcA natD (fun u => .tup [natD u, .bl true]) (by omega) (fun u hu => by simp) ?_
    simp [oDict_nL, setC]
    obtain ⟨J, hJ⟩ : ∃ J : Nat → Rho → Mu → Prop, J = fun j ρ μ' => ∃ (s5 s6 : Option Val) (ks : List Nat), ρ = ⟨μ.length, [some (.d (.lst (line.map verD))), some (.own μ.length), some (.d (.tup (v.ups.map natD))), some (.d (actD v.deed)), some (.own (μ.length + (q.length + 1))), s5, s6]⟩ ∧
      μ' = μ ++ .lst (vD ((bhs (line.take i)).map natsD)) :: (q ++ [.dK (ks.map nK) (vD (trs ks.length))]) ∧ ks = (v.ups.take j).foldl (fun ks u => addA ks (addA [] (bAt (bhs (line.take i)) u))) (addA [] v.ups) ∧ ks.Nodup ∧ ∀ x ∈ ks, x < i := ⟨_, rfl⟩
    refine wp_forI J (by rw [hJ]; exact ⟨s5, s6, _, rfl, rfl, rfl, nodup_addA List.nodup_nil, fun x hx => by rw [mem_addA] at hx; exact hups x (by simpa using hx)⟩) ?_ ?_
    · intro j d ρ μ' hj hh
      rw [hJ] at hh
      obtain ⟨s5, s6, ks, rfl, rfl, hks, hnd, hlt⟩ := hh
      have hjl : j < v.ups.length := by
        have := (List.getElem?_eq_some_iff.mp hj).1
        simpa using this
      have hu : v.ups[j]? = some v.ups[j] := List.getElem?_eq_getElem hjl
      rw [List.getElem?_map, hu] at hj
      have hd : natD v.ups[j] = d := Option.some.inj hj
      subst hd
      generalize huu : v.ups[j] = u at hu
      have hui : u < i := hups u (List.mem_of_getElem? hu)
      have hix := fun (μ' : Mu) (e : μ'[μ.length]? = some (.lst (vD ((bhs (line.take i)).map natsD)))) => ix_ownD e (ix_B (B := bhs (line.take i)) (u := u) (by omega))
      have hdl : ∀ x ∈ bAt (bhs (line.take i)) u, x < i := fun x hx => by have := hbel.getD hx; omega
      have hdn : (bAt (bhs (line.take i)) u).Nodup := bhs_nodup _ _
      simp [b_law_behind_3, c_law_behind_2, hix, natsD]
      generalize hA : bAt (bhs (line.take i)) u = A at hdl hdn
      have hAl := nodup_lt hdn hdl
      have hkl := nodup_lt hnd hlt
      have hA2 := addA_len (ks := []) (js := A)
      simp at hA2
      refine k_lcA natD (fun u => .tup [natD u, .bl true]) (by omega) (fun u hu => by simp) ?_
      have hup := fun (n0 : Nat) (μ' : Mu) (e : μ'[μ.length + (q.length + 1)]? = some (.dK (ks.map nK) (vD (trs ks.length)))) => upd_setX (n0 := n0) (js := addA [] A) e (by omega)
      simp [oDict_n, hup]
      rw [hJ]
      refine ⟨_, _, addA ks (addA [] A), rfl, rfl, ?_, nodup_addA hnd, fun x hx => ?_⟩
      · rw [show v.ups.take (j + 1) = v.ups.take j ++ [u] by rw [List.take_succ, hu]; rfl, List.foldl_append, ← hks]
        simp [hA]
      · rw [mem_addA, mem_addA] at hx
        rcases hx with hx | hx | hx
        · exact hlt x hx
        · simp at hx
        · exact hdl x hx
    · intro ρ μ' hh
      rw [hJ] at hh
      obtain ⟨s5, s6, ks, rfl, rfl, hks, hnd, hlt⟩ := hh
      have hkl := nodup_lt hnd hlt
      have hsr := fun (μ' : Mu) (e : μ'[μ.length + (q.length + 1)]? = some (.dK (ks.map nK) (vD (trs ks.length)))) => sorted_setX e (by omega)
      simp [hsr]
      have hBl : (bhs (line.take i)).length < 1000000 := by omega
      simp [hBl]
      rw [hI]
      refine ⟨q ++ [.dK (ks.map nK) (vD (trs ks.length))], _, _, _, _, _, rfl, ?_⟩
      have hb : bh (bhs (line.take i)) v.ups = sortN ks := by
        rw [hks]
        simp [bh]
      rw [show line.take (i + 1) = line.take i ++ [v] by rw [List.take_succ, hv]; rfl, bhs_snoc, hb]
      simp
  · intro ρ μ' hh
    rw [hI] at hh
    obtain ⟨q, s2, s3, s4, s5, s6, rfl, rfl⟩ := hh
    simp
    refine k_Body_lst (Nat.le_refl _) (by simp; rfl) ?_
    simp

theorem LineOk.bel {ws : List Str} {line : List Ver} (h : LineOk ws line) : Bel (bhs line) := bhs_bel fun j v hj u hu => (h.ver j v hj).ups.lt u hu
theorem vAt_get {line : List Ver} {u : Nat} (h : u < line.length) : line[u]? = some (vAt line u) := by simp [vAt, h]
theorem LineOk.deed {ws : List Str} {line : List Ver} (h : LineOk ws line) {u : Nat} (hu : u < line.length) : DeedOk (vAt line u).deed := (h.ver u _ (vAt_get hu)).deed
theorem cat_lst {μ : Mu} {a b : List D} (h : a.length + b.length < 1000000) : oAdd (.d (.lst a)) (.d (.lst b)) μ = .ok (.d (.lst (a ++ b)), μ) := by
  simp only [oAdd, lstV]
  rw [if_pos (by unfold sizeLine; omega)]
theorem oIn_nats {μ : Mu} {x : Nat} {ws : List Nat} (n : Bool) : oIn n (.d (natD x)) (.d (natsD ws)) μ = .ok (.d (.bl (if n then !decide (x ∈ ws) else decide (x ∈ ws))), μ) := oIn_natL n
theorem oEq_nilN {μ : Mu} {ks : List Nat} (n : Bool) : oEq n (.d (.lst (ks.map natD))) (.d (.lst [])) μ = .ok (.d (.bl (if n then !(ks.map natD).isEmpty else (ks.map natD).isEmpty)), μ) := oEq_nilL (k := 0) n okd_nats (by omega)
theorem ix_nD {μ : Mu} {l : List D} {i : Nat} {x : D} (h : l[i]? = some x) : oIx (.d (.lst l)) (.d (natD i)) μ = .ok (.d x, μ) := ix_lstN h
theorem seen_lt {B : List (List Nat)} (h : Bel B) {n spot : Nat} (hs : spot < n) : ∀ u ∈ bAt B spot ++ [spot], u < n := by
  intro u hu
  rcases List.mem_append.mp hu with hu | hu
  · have := h.getD hu; omega
  · simp at hu; omega
theorem touches_sub {line : List Ver} {B : List (List Nat)} {v : Nat} {w : Str} : ∀ u ∈ touches line B v w, u ∈ bAt B v ++ [v] := fun u hu => (List.mem_filter.mp hu).1
theorem lastT_sub {line : List Ver} {B : List (List Nat)} {v : Nat} {w : Str} : ∀ u ∈ lastT line B v w, u ∈ touches line B v w := fun u hu => (List.mem_filter.mp hu).1
theorem any_filter {α : Type} (p : α → Bool) (l : List α) : (l.filter p).isEmpty = !l.any p := by
  induction l with
  | nil => rfl
  | cons a l ih =>
    by_cases h : p a = true
    · simp [h]
    · simp [h, ih]
theorem last_ok {ws : List Str} {line : List Ver} (h : LineOk ws line) (hl : line.length ≤ 100) {spot : Nat} (hs : spot < line.length) {w : Str} (hw : Chg w) (μ : Mu) :
    F_law_last [.d (lineD line), .d (.lst ((bhs line).map natsD)), .d (natD spot), .d (.str w)] μ = .ok (.d (natsD (lastT line (bhs line) spot w)), μ) := by
  have hbel := h.bel
  have hBn := bhs_nodup line
  have hlen := bhs_len line
  generalize bhs line = B at *
  have hseen := seen_lt hbel hs
  have hbl : (bAt B spot).length ≤ spot := nodup_lt (hBn spot) fun x hx => hbel.getD hx
  apply wp_eq
  unfold F_law_last
  rw [w_Body]
  have hix := fun μ => ix_nD (μ := μ) (ix_B (B := B) (u := spot) (by omega))
  have htl : (touches line B spot w).length < 1000000 := by
    have := List.length_filter_le (fun u => touched (vAt line u) w) (bAt B spot ++ [spot])
    simp only [List.length_append, List.length_cons, List.length_nil] at this
    unfold touches
    omega
  simp [S_law_last, startR, c_law_last_1, lineD, hix, natsD]
  rw [cat_lst (by simp; omega)]
  simp
  rw [show (bAt B spot).map natD ++ [natD spot] = (bAt B spot ++ [spot]).map natD by simp]
  refine k_lcF natD (fun u => touched (vAt line u) w) natD (by simp; omega) (fun u hu => ?_) ?_
  · have hul := hseen u hu
    have hv := fun μ => ix_nD (μ := μ) (ix_V (line := line) (u := u) hul)
    have hd := h.deed hul
    cases e : (vAt line u).deed with
    | none => simp [hv, verD, e, actD, touched_none e]
    | some p =>
      obtain ⟨b, x⟩ := p
      simp [hv, verD, e, actD, oEq_str false (hd b x e).ok hw.ok, touched_some e]
  · have e1 : List.filter (fun u => touched (vAt line u) w) (bAt B spot ++ [spot]) = touches line B spot w := rfl
    rw [e1]
    simp [c_law_last_3]
    refine k_lcF natD (fun u => !((touches line B spot w).any fun t => decide (u ∈ bAt B t))) natD htl (fun u hu => ?_) (by simp [lastT])
    simp [c_law_last_2]
    refine k_lcF natD (fun t => decide (u ∈ bAt B t)) natD htl (fun t ht => ?_) ?_
    · have htl := hseen t (touches_sub t ht)
      have hv := fun μ => ix_nD (μ := μ) (ix_B (B := B) (u := t) (by omega))
      simp [hv, oIn_nats]
    · simp [oEq_nilN]
      exact any_filter _ _

theorem named_map (line : List Ver) : (line.filter fun v => v.deed.isSome).map (fun v => match v.deed with
    | some (_, x) => D.tup [.str x, .bl true]
    | none => .non) = (line.filterMap fun v => v.deed.map (·.2)).map fun k => .tup [.str k, .bl true] := by
  induction line with
  | nil => rfl
  | cons v line ih =>
    cases e : v.deed with
    | none => simp [e, ih]
    | some p => obtain ⟨b, x⟩ := p; simp [e, ih]
theorem named_len (line : List Ver) : (named line).length ≤ line.length := by
  have := addA_len (ks := []) (js := line.filterMap fun v => v.deed.map (·.2))
  have h2 := List.length_filterMap_le (fun v : Ver => v.deed.map (·.2)) line
  unfold named
  simp at this
  omega
theorem mem_named {line : List Ver} {x : Str} : x ∈ named line ↔ ∃ v ∈ line, ∃ b, v.deed = some (b, x) := by
  unfold named
  rw [mem_addA]
  simp
theorem LineOk.named_chg {ws : List Str} {line : List Ver} (h : LineOk ws line) {x : Str} (hx : x ∈ named line) : Chg x := by
  obtain ⟨v, hv, b, e⟩ := mem_named.mp hx
  obtain ⟨i, hi, e2⟩ := List.getElem_of_mem hv
  exact (h.ver i v (List.getElem?_eq_some_iff.mpr ⟨hi, e2⟩)).deed b x e
theorem named_ok {ws : List Str} {line : List Ver} (h : LineOk ws line) (hl : line.length ≤ 100) (μ : Mu) : F_law_named [.d (lineD line)] μ = .ok (.d (.lst ((sortS (named line)).map D.str)), μ) := by
  apply wp_eq
  unfold F_law_named
  rw [w_Body]
  simp [S_law_named, startR, c_law_named_1, lineD]
  refine k_lcF verD (fun v => v.deed.isSome) (fun v => match v.deed with
    | some (_, x) => .tup [.str x, .bl true]
    | none => .non) (by omega) (fun v hv => ?_) ?_
  · cases e : v.deed with
    | none => simp [verD, w_gTup, actD, e]
    | some p => obtain ⟨b, x⟩ := p; simp [verD, w_gTup, actD, e]
  · rw [named_map]
    have h1 := named_len line
    unfold named at h1 ⊢
    simp [oDict_s]
    rw [sorted_setS (by omega)]
    simp
@[simp] theorem lenD_line (line : List Ver) : lenD (lineD line) = some line.length := by simp [lineD]
theorem ix_line {line : List Ver} {u : Nat} (h : u < line.length) (μ : Mu) : oIx (.d (lineD line)) (.d (natD u)) μ = .ok (.d (verD (vAt line u)), μ) := ix_nD (ix_V h)
theorem eq_act (b : Bool) (μ : Mu) : oEq false (.d (.str (actW b))) (.d (.str "apply")) μ = .ok (.d (.bl b), μ) := by
  rw [oEq_str false (strOk_act b) (by decide +kernel)]
  cases b <;> (congr 4)
theorem take_succ_map {α : Type} {l : List α} {j : Nat} {x : α} (h : l[j]? = some x) : l.take (j + 1) = l.take j ++ [x] := by rw [List.take_succ, h]; rfl
theorem deedB_some {line : List Ver} {u : Nat} {b : Bool} {x : Str} (e : (vAt line u).deed = some (b, x)) : deedB line u = b := by simp [deedB, e]
theorem touch_deed {line : List Ver} {B : List (List Nat)} {v u : Nat} {w : Str} (hu : u ∈ touches line B v w) : ∃ b, (vAt line u).deed = some (b, w) := by
  have := (List.mem_filter.mp hu).2
  cases e : (vAt line u).deed with
  | none => rw [touched_none e] at this; cases this
  | some p =>
    obtain ⟨b, x⟩ := p
    rw [touched_some e] at this
    exact ⟨b, by rw [of_decide_eq_true this]⟩
theorem pack_wp {ws : List Str} {line : List Ver} (h : LineOk ws line) (hl : line.length ≤ 100) (μ : Mu) : F_law_packs [.d (lineD line)] μ = .ok (.d (.lst ((packs line).map packD)), μ) := by
  have hn1 := named_len line
  have hns := (sortS_perm (named line)).length_eq
  have hnc : ∀ x ∈ sortS (named line), Chg x := fun x hx => h.named_chg (mem_sortS.mp hx)
  apply wp_eq
  unfold F_law_packs
  rw [w_Body]
  simp [S_law_packs, startR, behind_ok h hl, named_ok h hl]
  have e0 : ∀ μ : Mu, oLen [.d (lineD line)] μ = .ok (.d (.int line.length), μ) := fun μ => by simp [lineD]
  have hl2 : line.length < 4611686018427387904 := by omega
  simp [hl2]
  obtain ⟨PK, hP0, hPS, hPl⟩ : ∃ PK : Nat → List D, PK 0 = [] ∧ (∀ i, PK (i + 1) = PK i ++ [packD (packAt line (bhs line) i)]) ∧ ∀ i, PK i = ((List.range i).map (packAt line (bhs line))).map packD := ⟨fun i => ((List.range i).map (packAt line (bhs line))).map packD, rfl, fun i => by simp [List.range_succ], fun _ => rfl⟩
  obtain ⟨I, hI⟩ : ∃ I : Nat → Rho → Mu → Prop, I = fun i ρ μ' => ∃ (q : Mu) (s4 s5 s6 s7 : Option Val), ρ = ⟨μ.length, [some (.d (lineD line)), some (.d (.lst ((bhs line).map natsD))), some (.d (.lst ((sortS (named line)).map D.str))), some (.own μ.length), s4, s5, s6, s7]⟩ ∧
      μ' = μ ++ .lst (vD (PK i)) :: q := ⟨_, rfl⟩
  refine wp_forI I (by rw [hI]; exact ⟨[], none, none, none, none, rfl, by rw [hP0]; rfl⟩) ?_ ?_
  · intro i d ρ μ' hi hh
    rw [hI] at hh
    obtain ⟨q, s4, s5, s6, s7, rfl, rfl⟩ := hh
    obtain ⟨hil, rfl⟩ := rng_get hi
    simp [b_law_packs_4]
    obtain ⟨QS, hQ0, hQS, hQl⟩ : ∃ QS : Nat → List D, QS 0 = [] ∧ (∀ j x, (sortS (named line))[j]? = some x → QS (j + 1) = if inForce line (bhs line) i x = true then QS j ++ [D.str x] else QS j) ∧ ∀ j, QS j = (((sortS (named line)).take j).filter (inForce line (bhs line) i)).map D.str :=
      ⟨fun j => (((sortS (named line)).take j).filter (inForce line (bhs line) i)).map D.str, rfl, fun j x hx => by
        simp only [take_succ_map hx, List.filter_append, List.map_append]
        split <;> simp [*], fun _ => rfl⟩
    have hQle : ∀ j, (QS j).length < 1000000 := fun j => by
      rw [hQl]
      have := List.length_filter_le (inForce line (bhs line) i) ((sortS (named line)).take j)
      rw [List.length_take] at this
      rw [List.length_map]
      omega
    obtain ⟨J, hJ⟩ : ∃ J : Nat → Rho → Mu → Prop, J = fun j ρ μ' => ∃ (s6 s7 : Option Val), ρ = ⟨μ.length, [some (.d (lineD line)), some (.d (.lst ((bhs line).map natsD))), some (.d (.lst ((sortS (named line)).map D.str))), some (.own μ.length), some (.d (natD i)), some (.own (μ.length + (q.length + 1))), s6, s7]⟩ ∧
      μ' = μ ++ .lst (vD (PK i)) :: (q ++ [.lst (vD (QS j))]) := ⟨_, rfl⟩
    refine wp_forI J (by rw [hJ]; exact ⟨s6, s7, rfl, by rw [hQ0]; rfl⟩) ?_ ?_
    · intro j d ρ μ' hj hh
      rw [hJ] at hh
      obtain ⟨s6, s7, rfl, rfl⟩ := hh
      have hjl : j < (sortS (named line)).length := by
        have := (List.getElem?_eq_some_iff.mp hj).1
        simpa using this
      have hx : (sortS (named line))[j]? = some (sortS (named line))[j] := List.getElem?_eq_getElem hjl
      rw [List.getElem?_map, hx] at hj
      have hd : D.str (sortS (named line))[j] = d := Option.some.inj hj
      subst hd
      generalize (sortS (named line))[j] = x at hx
      have hxc := hnc x (List.mem_of_getElem? hx)
      have hlo := fun μ => last_ok h hl hil hxc μ
      have htl : (lastT line (bhs line) i x).length < 1000000 := by
        have h1 := List.length_filter_le (fun u => !((touches line (bhs line) i x).any fun t => decide (u ∈ bAt (bhs line) t))) (touches line (bhs line) i x)
        have h2 := List.length_filter_le (fun u => touched (vAt line u) x) (bAt (bhs line) i ++ [i])
        have h3 : (bAt (bhs line) i).length ≤ i := nodup_lt (bhs_nodup line i) fun y hy => h.bel.getD hy
        rw [List.length_append, List.length_cons, List.length_nil] at h2
        unfold lastT
        unfold touches at h1 ⊢
        omega
      simp [b_law_packs_3, i_law_packs_2, c_law_packs_1, hlo, natsD]
      refine k_lcF natD (fun u => deedB line u) natD htl (fun u hu => ?_) ?_
      · have hut := lastT_sub u hu
        have hul := seen_lt h.bel hil u (touches_sub u hut)
        obtain ⟨b, e⟩ := touch_deed hut
        simp [ix_line hul, verD, e, actD, eq_act, deedB_some e]
      · simp [oEq_nilN]
        have e1 : ((lastT line (bhs line) i x).filter fun u => deedB line u).isEmpty = !inForce line (bhs line) i x := any_filter _ _
        rw [e1]
        have hq := hQS j x hx
        cases e2 : inForce line (bhs line) i x with
        | true =>
          rw [e2, if_pos rfl] at hq
          simp [hQle]
          rw [hJ]
          exact ⟨_, _, rfl, by rw [hq]⟩
        | false =>
          rw [e2, if_neg (by simp)] at hq
          simp
          rw [hJ]
          exact ⟨_, _, rfl, by rw [hq]⟩
    · intro ρ μ' hh
      rw [hJ] at hh
      obtain ⟨s6, s7, rfl, rfl⟩ := hh
      rw [List.length_map]
      have hPi : (PK i).length < 1000000 := by rw [hPl]; simp; omega
      simp [hPi]
      rw [hI]
      refine ⟨q ++ [.lst (vD (QS (sortS (named line)).length))], _, _, _, _, rfl, ?_⟩
      rw [hPS, hQl, List.take_length]
      rfl
  · intro ρ μ' hh
    rw [hI] at hh
    obtain ⟨q, s4, s5, s6, s7, rfl, rfl⟩ := hh
    rw [rngD_len]
    simp
    refine k_Body_lst (Nat.le_refl _) (by simp; rfl) ?_
    rw [hPl]
    simp [packs]
end Zl
set_option Elab.async false
set_option linter.all false
set_option maxRecDepth 100000
set_option maxHeartbeats 4000000
namespace Zl
open PySem PySem.Spec L2 PySem.W
open PyProof.Rows hiding St
/-! # the program's histories -/
@[simp] theorem all_tt {α : Type} (l : List α) : (l.all fun _ => true) = true := by simp

theorem is_number_int (i : Int) (μ : Mu) : F_is_number [.d (.int i)] μ = .ok (.d (.bl true), μ) := by
  apply wp_eq
  unfold F_is_number
  rw [w_Body]
  simp [S_is_number, startR]
theorem is_number_nat (i : Nat) (μ : Mu) : F_is_number [.d (natD i)] μ = .ok (.d (.bl true), μ) := is_number_int i μ
theorem is_change_ok {x : Str} (h : Chg x) (μ : Mu) : F_is_change [.d (.str x)] μ = .ok (.d (.bl true), μ) := by
  obtain ⟨h1, h2, h3⟩ := h
  have hs : x.length ≤ sizeLine := by unfold sizeLine; omega
  have a1 : (1 : Int) ≤ x.length := by omega
  have a2 : (x.length : Int) ≤ 6 := by omega
  have a3 : x.cps.toList.length = x.length := by simp [Str.length]
  apply wp_eq
  unfold F_is_change
  rw [w_Body]
  simp [S_is_change, startR, i_is_change_1, lenD, hs, a1, a2, c_is_change_2, signsD]
  refine k_lcA (fun c => D.str ⟨#[c]⟩) (fun _ => .bl true) (by omega) (fun c hc => ?_) ?_
  · have hl := h3 c hc
    simp [oIn, letter_in c hl.1 hl.2]
  · have := oAll_map (μ := μ) (fun _ => true) x.cps.toList
    simp [this]
theorem oIn_str2 {μ : Mu} {b : Bool} : oIn false (.d (.str (actW b))) (.d (.tup [.str "apply", .str "revert"])) μ = .ok (.d (.bl true), μ) := by
  have e := oIn_strT (μ := μ) (x := actW b) (ws := ["apply", "revert"]) false (strOk_act b) (by intro w hw; simp at hw; rcases hw with e | e <;> subst e <;> decide +kernel)
  simp only [List.map_cons, List.map_nil] at e
  rw [e]
  cases b <;> (congr 4)
theorem is_act_ok {a : Option (Bool × Str)} (h : DeedOk a) (μ : Mu) : F_is_act [.d (actD a)] μ = .ok (.d (.bl true), μ) := by
  apply wp_eq
  unfold F_is_act
  rw [w_Body]
  cases a with
  | none => simp [S_is_act, i_is_act_1, startR, actD]
  | some p =>
    obtain ⟨b, w⟩ := p
    simp [S_is_act, i_is_act_1, i_is_act_2, startR, actD, oIn_str2, is_change_ok (h b w rfl)]
theorem are_parents_ok {n : Nat} {us : List Nat} (h : UpsOk n us) (μ : Mu) : F_are_parents [.d (.tup (us.map natD)), .d (natD n)] μ = .ok (.d (.bl true), μ) := by
  have hl := h.len
  have h2 : ¬ (2 : Int) < us.length := by omega
  have hb := h.lt
  apply wp_eq
  unfold F_are_parents
  rw [w_Body]
  simp [S_are_parents, startR, i_are_parents_2, h2, c_are_parents_1]
  refine k_lcA (xs := us) (α := Nat) natD (fun _ => D.bl true) (by omega) (fun u hu => by simp [is_number_nat]) ?_
  have hal := fun μ => oAll_map (μ := μ) (fun _ => true) us
  simp [hal, c_are_parents_3]
  refine k_lcA (xs := us) natD (fun _ => .bl true) (by omega) (fun u hu => ?_) ?_
  · have hbu := hb u hu
    have h3 : (0 : Int) ≤ u := by omega
    have h4 : (u : Int) < n := by omega
    simp [natD, h3, h4]
  · simp [hal]
    cases h with
    | none => simp
    | one h => simp
    | two h hb => simp [natD]; omega
theorem is_version_ok {n : Nat} {v : Ver} (h : VerOk n v) (μ : Mu) : F_is_version [.d (verD v), .d (natD n)] μ = .ok (.d (.bl true), μ) := by
  apply wp_eq
  unfold F_is_version
  rw [w_Body]
  simp [S_is_version, startR, verD, i_is_version_1, are_parents_ok h.ups, is_act_ok h.deed]
def takesK (chs : List Str) : Option (Bool × Str) → List Str
  | none => chs
  | some (_, x) => addK chs x
theorem set_same {μ : Mu} {c : Nat} {x : Cell} (e : μ[c]? = some x) : μ.set c x = μ := by
  apply List.ext_getElem?
  intro i
  rw [List.getElem?_set]
  split
  · rename_i h
    subst h
    have := (List.getElem?_eq_some_iff.mp e).1
    have e3 := (List.getElem?_eq_some_iff.mp e).2
    simp [this, e3]
  · rfl
theorem get_app {μ l : Mu} {c : Nat} {x : Cell} (e : μ[c]? = some x) : (μ ++ l)[c]? = some x := by
  rw [List.getElem?_append_left (List.getElem?_eq_some_iff.mp e).1]
  exact e
theorem get_setS {μ : Mu} {c : Nat} {x y : Cell} (e : μ[c]? = some x) : (μ.set c y)[c]? = some y := by
  rw [List.getElem?_set_self (List.getElem?_eq_some_iff.mp e).1]
theorem get_setN {μ : Mu} {c k : Nat} {x y : Cell} (h : c ≠ k) (e : μ[k]? = some x) : (μ.set c y)[k]? = some x := by
  rw [List.getElem?_set_ne h]
  exact e
theorem dec_nat (a b : Nat) : decide ((a : Int) ≤ (b : Int)) = decide (a ≤ b) := decide_eq_decide.mpr (by omega)
theorem takes_ok {k c : Nat} {cls : Str} {ns : List Str} {vs : List Val} {chs : List Str} {μ : Mu} (e0 : μ[k]? = some (.ins cls ns vs)) (e1 : getF ns vs "h_changes" = some (.own c)) (e2 : μ[c]? = some (.lst (vD (chs.map D.str))))
    {a : Option (Bool × Str)} (h : DeedOk a) (hc : ∀ x ∈ chs, Chg x) (hl : chs.length ≤ 100) : F_History_takes [.own k, .d (actD a)] μ = .ok (.d (.bl (decide ((takesK chs a).length ≤ 8))), μ.set c (.lst (vD ((takesK chs a).map D.str)))) := by
  have hf : ∀ (μ' : Mu) (K : KE), μ'[k]? = some (.ins cls ns vs) → kFld "h_changes" K (.own k) μ' = K (.own c) μ' := fun μ' K e => k_Fld (c := cls) (ns := ns) (vs := vs) (by simp [e]) e1
  apply wp_eq
  unfold F_History_takes
  rw [w_Body]
  cases a with
  | none =>
    simp [S_History_takes, i_History_takes_1, startR, actD, e0, hf, e2, takesK, set_same e2]
    exact dec_nat _ _
  | some p =>
    obtain ⟨b, x⟩ := p
    have hi := oIn_strO (μ := μ) (x := x) (j := c) (ws := chs) true (by simp [e2]) (h b x rfl).ok fun z hz => (hc z hz).ok
    have hcl : c < μ.length := (List.getElem?_eq_some_iff.mp e2).1
    have hkc : k ≠ c := fun e => by rw [e, e2] at e0; cases e0
    by_cases hx : x ∈ chs
    · have ht : takesK chs (some (b, x)) = chs := by simp [takesK, addK, hx]
      simp [S_History_takes, i_History_takes_1, startR, actD, e0, hf, hi, hx, e2, ht, set_same e2]
      omega
    · have ht : takesK chs (some (b, x)) = chs ++ [x] := by simp [takesK, addK, hx]
      have hll : chs.length < 1000000 := by omega
      have g1 := fun y => get_setN (y := y) (Ne.symm hkc) e0
      have g2 := fun y => get_setS (y := y) e2
      simp [S_History_takes, i_History_takes_1, startR, actD, e0, hf, hi, hx, e2, ht, hll, g1, g2]
      exact ⟨by omega, List.take_of_length_le (by simp)⟩
/-- parents and their ancestors -/
theorem behind_all_ok {k c : Nat} {cls : Str} {ns : List Str} {vs : List Val} {B : List (List Nat)} {μ : Mu} (e0 : μ[k]? = some (.ins cls ns vs)) (e1 : getF ns vs "h_behind" = some (.own c)) (e2 : μ[c]? = some (.lst (vD (B.map natsD))))
    {us : List Nat} (hu : ∀ u ∈ us, u < B.length) (hul : us.length ≤ 2) (hb : ∀ u, (bAt B u).Nodup) (hbel : Bel B) (hl : B.length ≤ 100) : F_History_behind_all [.own k, .d (.tup (us.map natD))] μ = .ok (.d (natsD (bh B us)), μ) := by
  have hf : ∀ (μ' : Mu) (K : KE), μ'[k]? = some (.ins cls ns vs) → kFld "h_behind" K (.own k) μ' = K (.own c) μ' := fun μ' K e => k_Fld (c := cls) (ns := ns) (vs := vs) (by simp [e]) e1
  have g0 := fun l => get_app (l := l) e0
  have g2 := fun l => get_app (l := l) e2
  apply wp_eq
  unfold F_History_behind_all
  rw [w_Body]
  simp [S_History_behind_all, startR, c_History_behind_all_1]
  refine k_dcN (ks := us) (by omega) (fun u hu => by simp) ?_
  simp [setC]
  obtain ⟨J, hJ⟩ : ∃ J : Nat → Rho → Mu → Prop, J = fun j ρ μ' => ∃ (s3 s4 : Option Val) (ks : List Nat), ρ = ⟨μ.length, [some (.own k), some (.d (.tup (us.map natD))), some (.own μ.length), s3, s4]⟩ ∧
      μ' = μ ++ [.dK (ks.map nK) (vD (trs ks.length))] ∧ ks = (us.take j).foldl (fun ks u => addA ks (addA [] (bAt B u))) (addA [] us) ∧ ks.Nodup ∧ ∀ x ∈ ks, x < B.length := ⟨_, rfl⟩
  refine wp_forI J (by rw [hJ]; exact ⟨_, _, _, rfl, rfl, rfl, nodup_addA List.nodup_nil, fun x hx => by rw [mem_addA] at hx; exact hu x (by simpa using hx)⟩) ?_ ?_
  · intro j d ρ μ' hj hh
    rw [hJ] at hh
    obtain ⟨s3, s4, ks, rfl, rfl, hks, hnd, hlt⟩ := hh
    have hjl : j < us.length := by
      have := (List.getElem?_eq_some_iff.mp hj).1
      simpa using this
    have hux : us[j]? = some us[j] := List.getElem?_eq_getElem hjl
    rw [List.getElem?_map, hux] at hj
    have hd : natD us[j] = d := Option.some.inj hj
    subst hd
    generalize us[j] = u at hux
    have huB := hu u (List.mem_of_getElem? hux)
    have hix := fun (μ' : Mu) (e : μ'[c]? = some (.lst (vD (B.map natsD)))) => ix_ownD e (ix_B (B := B) (u := u) (by omega))
    have hdl : ∀ x ∈ bAt B u, x < B.length := fun x hx => by have := hbel.getD hx; omega
    have hdn := hb u
    simp [b_History_behind_all_3, c_History_behind_all_2, g0, g2, hf, hix, natsD]
    generalize hA : bAt B u = A at hdl hdn
    have hAl := nodup_lt hdn hdl
    have hkl2 := nodup_lt hnd hlt
    have hA2 := addA_len (ks := []) (js := A)
    simp at hA2
    refine k_dcN (ks := A) (by omega) (fun u hu => by simp) ?_
    have hup := fun (n0 : Nat) (μ' : Mu) (e : μ'[μ.length]? = some (.dK (ks.map nK) (vD (trs ks.length)))) => upd_setX (n0 := n0) (js := addA [] A) e (by omega)
    simp [hup]
    rw [hJ]
    refine ⟨_, _, addA ks (addA [] A), rfl, rfl, ?_, nodup_addA hnd, fun x hx => ?_⟩
    · rw [take_succ_map hux, List.foldl_append, ← hks]
      simp [hA]
    · rw [mem_addA, mem_addA] at hx
      rcases hx with hx | hx | hx
      · exact hlt x hx
      · simp at hx
      · exact hdl x hx
  · intro ρ μ' hh
    rw [hJ] at hh
    obtain ⟨s3, s4, ks, rfl, rfl, hks, hnd, hlt⟩ := hh
    have hkl2 := nodup_lt hnd hlt
    have hsr := fun (μ' : Mu) (e : μ'[μ.length]? = some (.dK (ks.map nK) (vD (trs ks.length)))) => sorted_setX e (by omega)
    simp [hsr]
    rw [hks]
    simp [bh]
end Zl
set_option Elab.async false
set_option linter.all false
set_option maxRecDepth 100000
set_option maxHeartbeats 4000000
namespace Zl
open PySem PySem.Spec L2 PySem.W
open PyProof.Rows hiding St
/-! # a history being made -/
theorem getF_0 {n : Str} {ns : List Str} {v : Val} {vs : List Val} : getF (n :: ns) (v :: vs) n = some v := by
  unfold getF
  rw [if_pos rfl]
theorem getF_S {n x : Str} {ns : List Str} {v : Val} {vs : List Val} (h : decide (x = n) = false) : getF (n :: ns) (v :: vs) x = getF ns vs x := by
  have h := of_decide_eq_false h
  conv => lhs; unfold getF
  rw [if_neg h]
abbrev hN3 : List Str := ["h_changes", "h_behind", "h_versions"]
theorem hf1 {a b c : Val} : getF hN3 [a, b, c] "h_changes" = some a := getF_0
theorem hf2 {a b c : Val} : getF hN3 [a, b, c] "h_behind" = some b := (getF_S (by decide +kernel)).trans getF_0
theorem hf3 {a b c : Val} : getF hN3 [a, b, c] "h_versions" = some c := (getF_S (by decide +kernel)).trans ((getF_S (by decide +kernel)).trans getF_0)
/-- the object while its contents are reckoned -/
structure LiveH (μ : Mu) (k c1 c2 : Nat) (line : List Ver) : Prop where
  e0 : μ[k]? = some (.ins "History" hN3 [.own c1, .own c2, .d (.tup (line.map verD))])
  e1 : μ[c1]? = some (.lst (vD ((named line).map D.str)))
  e2 : μ[c2]? = some (.lst (vD ((bhs line).map natsD)))
section
variable {μ : Mu} {k c1 c2 : Nat} {line : List Ver} {ws : List Str}
theorem LiveH.app (h : LiveH μ k c1 c2 line) (l : Mu) : LiveH (μ ++ l) k c1 c2 line := ⟨get_app h.e0, get_app h.e1, get_app h.e2⟩
theorem LiveH.nm (h : LiveH μ k c1 c2 line) : nmR μ (some (some (.own k))) = .ok (.own k, μ) := by simp [h.e0]
theorem LiveH.fc (h : LiveH μ k c1 c2 line) (K : KE) : kFld "h_changes" K (.own k) μ = K (.own c1) μ := k_Fld (by simp [h.e0]; exact ⟨rfl, rfl, rfl⟩) hf1
theorem LiveH.fb (h : LiveH μ k c1 c2 line) (K : KE) : kFld "h_behind" K (.own k) μ = K (.own c2) μ := k_Fld (by simp [h.e0]; exact ⟨rfl, rfl, rfl⟩) hf2
theorem LiveH.fv (h : LiveH μ k c1 c2 line) (K : KE) : kFld "h_versions" K (.own k) μ = K (.d (.tup (line.map verD))) μ := k_Fld (by simp [h.e0]; exact ⟨rfl, rfl, rfl⟩) hf3
theorem LiveH.me (h : LiveH μ k c1 c2 line) {m : Str} (hm : decide (m ∈ hN3) = false) {n : Nat} {Fn : FF} {Δ : MT} (hd : Δ "History" = some (n, Fn)) (g : FA) (ρ : Rho) (K : KE) : kMeth m Δ g ρ K (.own k) μ = Wp (g ρ μ) (kMethA n Fn (.own k) K) :=
  k_Meth (c := "History") (ns := hN3) (vs := [.own c1, .own c2, .d (.tup (line.map verD))]) (by simp [h.e0]) hm hd
theorem ix_vtup {line : List Ver} {u : Nat} (h : u < line.length) (μ : Mu) : oIx (.d (.tup (line.map verD))) (.d (natD u)) μ = .ok (.d (verD (vAt line u)), μ) := ix_tupN (ix_V h)
theorem touches_ok (L : LiveH μ k c1 c2 line) (h : LineOk ws line) (hl : line.length ≤ 100) {spot : Nat} (hs : spot < line.length) {w : Str} (hw : Chg w) : F_History_touches [.own k, .d (natD spot), .d (.str w)] μ = .ok (.d (natsD (touches line (bhs line) spot w)), μ) := by
  have hix := ix_ownD (μ := μ) L.e2 (ix_B (B := bhs line) (u := spot) (by rw [bhs_len]; omega))
  have hseen := seen_lt h.bel hs
  have hbl : (bAt (bhs line) spot).length ≤ spot := nodup_lt (bhs_nodup line spot) fun x hx => h.bel.getD hx
  apply wp_eq
  unfold F_History_touches
  rw [w_Body]
  simp [S_History_touches, startR, L.e0, L.fb, hix, k_AStar, natsD]
  simp [c_History_touches_1]
  refine ⟨by omega, ?_⟩
  rw [show (bAt (bhs line) spot).map natD ++ [natD spot] = (bAt (bhs line) spot ++ [spot]).map natD by simp]
  refine k_lcF natD (fun u => touched (vAt line u) w) natD (by simp; omega) (fun u hu => ?_) ?_
  · have hul := hseen u hu
    have hd := h.deed hul
    cases e : (vAt line u).deed with
    | none => simp [L.e0, L.fv, ix_vtup hul, verD, e, actD, touched_none e]
    | some p =>
      obtain ⟨b, x⟩ := p
      simp [L.e0, L.fv, ix_vtup hul, verD, e, actD, oEq_str false (hd b x e).ok hw.ok, touched_some e]
  · simp [touches]
theorem touches_len (h : LineOk ws line) {spot : Nat} (w : Str) : (touches line (bhs line) spot w).length ≤ spot + 1 := by
  have h2 := List.length_filter_le (fun u => touched (vAt line u) w) (bAt (bhs line) spot ++ [spot])
  have h3 : (bAt (bhs line) spot).length ≤ spot := nodup_lt (bhs_nodup line spot) fun y hy => h.bel.getD hy
  rw [List.length_append, List.length_cons, List.length_nil] at h2
  unfold touches
  omega
theorem lastT_len (h : LineOk ws line) {spot : Nat} (w : Str) : (lastT line (bhs line) spot w).length ≤ spot + 1 := by
  have h2 := touches_len h (spot := spot) w
  have h3 := List.length_filter_le (fun u => !((touches line (bhs line) spot w).any fun t => decide (u ∈ bAt (bhs line) t))) (touches line (bhs line) spot w)
  unfold lastT
  omega
theorem last_of_ok (L : LiveH μ k c1 c2 line) (h : LineOk ws line) (hl : line.length ≤ 100) {spot : Nat} (hs : spot < line.length) {w : Str} (hw : Chg w) : F_History_last_of [.own k, .d (natD spot), .d (.str w)] μ = .ok (.d (natsD (lastT line (bhs line) spot w)), μ) := by
  have hseen := seen_lt h.bel hs
  have htl := touches_len h (spot := spot) w
  have hm := L.me (m := "touches") (by decide +kernel) (Δ := Δ_touches) (n := 3) (Fn := F_History_touches) rfl
  apply wp_eq
  unfold F_History_last_of
  rw [w_Body]
  simp [S_History_last_of, startR, L.e0, hm, touches_ok L h hl hs hw, natsD, c_History_last_of_2]
  refine k_lcF natD (fun u => !((touches line (bhs line) spot w).any fun t => decide (u ∈ bAt (bhs line) t))) natD (by omega) (fun u hu => ?_) (by simp [lastT])
  simp [c_History_last_of_1]
  refine k_lcA natD (fun t => .bl (decide (u ∈ bAt (bhs line) t))) (by omega) (fun t ht => ?_) ?_
  · have htl := hseen t (touches_sub t ht)
    have hix := ix_ownD (μ := μ) L.e2 (ix_B (B := bhs line) (u := t) (by rw [bhs_len]; omega))
    simp [L.e0, L.fb, hix, oIn_nats]
  · simp [oAny_map]
theorem content_at_ok (L : LiveH μ k c1 c2 line) (h : LineOk ws line) (hl : line.length ≤ 100) {spot : Nat} (hs : spot < line.length) : F_History_content_at [.own k, .d (natD spot)] μ = .ok (.d (packD (packAt line (bhs line) spot)), μ) := by
  have hseen := seen_lt h.bel hs
  have hn1 := named_len line
  have hns := (sortS_perm (named line)).length_eq
  have hnc : ∀ x ∈ sortS (named line), Chg x := fun x hx => h.named_chg (mem_sortS.mp hx)
  have hL := fun l => L.app l
  have g0 := fun l => (hL l).e0
  have gc := fun l => (hL l).fc
  have gv := fun l => (hL l).fv
  have gm := fun l => (hL l).me (m := "last_of") (by decide +kernel) (Δ := Δ_last_of) (n := 3) (Fn := F_History_last_of) rfl
  have hsr := fun l => sorted_own (μ := μ ++ l) (j := c1) (ws := named line) (by simp [(hL l).e1]) (by omega)
  apply wp_eq
  unfold F_History_content_at
  rw [w_Body]
  simp [S_History_content_at, startR, g0, gc, hsr]
  obtain ⟨QS, hQ0, hQS, hQl⟩ : ∃ QS : Nat → List D, QS 0 = [] ∧ (∀ j x, (sortS (named line))[j]? = some x → QS (j + 1) = if inForce line (bhs line) spot x = true then QS j ++ [D.str x] else QS j) ∧ ∀ j, QS j = (((sortS (named line)).take j).filter (inForce line (bhs line) spot)).map D.str :=
    ⟨fun j => (((sortS (named line)).take j).filter (inForce line (bhs line) spot)).map D.str, rfl, fun j x hx => by
      simp only [take_succ_map hx, List.filter_append, List.map_append]
      split <;> simp [*], fun _ => rfl⟩
  have hQle : ∀ j, (QS j).length < 1000000 := fun j => by
    rw [hQl]
    have := List.length_filter_le (inForce line (bhs line) spot) ((sortS (named line)).take j)
    rw [List.length_take] at this
    rw [List.length_map]
    omega
  obtain ⟨J, hJ⟩ : ∃ J : Nat → Rho → Mu → Prop, J = fun j ρ μ' => ∃ (s3 s4 : Option Val), ρ = ⟨μ.length, [some (.own k), some (.d (natD spot)), some (.own μ.length), s3, s4]⟩ ∧ μ' = μ ++ [.lst (vD (QS j))] := ⟨_, rfl⟩
  refine wp_forI J (by rw [hJ]; exact ⟨_, _, rfl, by rw [hQ0]; rfl⟩) ?_ ?_
  · intro j d ρ μ' hj hh
    rw [hJ] at hh
    obtain ⟨s3, s4, rfl, rfl⟩ := hh
    have hjl : j < (sortS (named line)).length := by
      have := (List.getElem?_eq_some_iff.mp hj).1
      simpa using this
    have hx : (sortS (named line))[j]? = some (sortS (named line))[j] := List.getElem?_eq_getElem hjl
    rw [List.getElem?_map, hx] at hj
    have hd : D.str (sortS (named line))[j] = d := Option.some.inj hj
    subst hd
    generalize (sortS (named line))[j] = x at hx
    have hxc := hnc x (List.mem_of_getElem? hx)
    have hlo := fun l => last_of_ok (hL l) h hl hs hxc
    have htl := lastT_len h (spot := spot) x
    simp [b_History_content_at_3, i_History_content_at_2, c_History_content_at_1, g0, gm, hlo, natsD]
    refine k_lcA natD (fun u => .bl (deedB line u)) (by omega) (fun u hu => ?_) ?_
    · have hut := lastT_sub u hu
      have hul := seen_lt h.bel hs u (touches_sub u hut)
      obtain ⟨b, e⟩ := touch_deed hut
      simp [g0, gv, ix_vtup hul, verD, e, actD, eq_act, deedB_some e]
    · simp [oAny_map]
      have hq := hQS j x hx
      have e1 : ((lastT line (bhs line) spot x).any fun u => deedB line u) = inForce line (bhs line) spot x := rfl
      rw [e1]
      cases e2 : inForce line (bhs line) spot x with
      | true =>
        rw [e2, if_pos rfl] at hq
        simp [hQle]
        rw [hJ]
        exact ⟨_, _, rfl, by rw [hq]⟩
      | false =>
        rw [e2, if_neg (by simp)] at hq
        simp
        rw [hJ]
        exact ⟨_, _, rfl, by rw [hq]⟩
  · intro ρ μ' hh
    rw [hJ] at hh
    obtain ⟨s3, s4, rfl, rfl⟩ := hh
    rw [List.length_map]
    simp
    rw [hQl, List.take_length]
    rfl
end
end Zl
set_option Elab.async false
set_option linter.all false
set_option maxRecDepth 100000
set_option maxHeartbeats 4000000
namespace Zl
open PySem PySem.Spec L2 PySem.W
open PyProof.Rows hiding St
/-! # a history is made -/
@[simp] theorem okW_own {n0 k j : Nat} : okW n0 k (.own j) = decide (n0 ≤ k ∨ j < k) := (rfl)
@[simp] theorem k_SetF2S {x : Str} {v : Val} {k : Nat} {ρ : Rho} {μ : Mu} {S : KS} : kSetF2 x v ρ S (.own k) μ = (match μ[k]? with
    | some (.ins c ns vs) => if okW ρ.n0 k v = true ∧ ns.length < 1000 then S .nx (ρ, μ.set k (.ins c (putP ns vs x v).1 (putP ns vs x v).2)) else False
    | _ => False) := (rfl)
@[simp] theorem putP_nil {x : Str} {v : Val} : putP [] [] x v = ([x], [v]) := (rfl)
theorem putP_S {n x : Str} {ns : List Str} {v w : Val} {vs : List Val} (h : decide (n = x) = false) : putP (n :: ns) (v :: vs) x w = (n :: (putP ns vs x w).1, v :: (putP ns vs x w).2) := by
  have h := of_decide_eq_false h
  conv => lhs; unfold putP
  rw [if_neg h]
theorem putP_cb {a b : Val} : putP ["h_changes"] [a] "h_behind" b = ((["h_changes", "h_behind"] : List Str), [a, b]) := by rw [putP_S (by decide +kernel)]; simp
theorem putP_cbv {a b c : Val} : putP ["h_changes", "h_behind"] [a, b] "h_versions" c = ((["h_changes", "h_behind", "h_versions"] : List Str), [a, b, c]) := by rw [putP_S (by decide +kernel), putP_S (by decide +kernel)]; simp
theorem putP_cbvc {a b c d : Val} : putP ["h_changes", "h_behind", "h_versions"] [a, b, c] "h_contents" d = ((["h_changes", "h_behind", "h_versions", "h_contents"] : List Str), [a, b, c, d]) := by rw [putP_S (by decide +kernel), putP_S (by decide +kernel), putP_S (by decide +kernel)]; simp
theorem hg1 {a b : Val} : getF ["h_changes", "h_behind"] [a, b] "h_changes" = some a := getF_0
theorem hg2 {a b : Val} : getF ["h_changes", "h_behind"] [a, b] "h_behind" = some b := (getF_S (by decide +kernel)).trans getF_0
theorem named_snoc (line : List Ver) (v : Ver) : named (line ++ [v]) = takesK (named line) v.deed := by
  unfold named
  rw [List.filterMap_append]
  cases e : v.deed with
  | none => simp [e, takesK]
  | some p => obtain ⟨b, x⟩ := p; simp [e, takesK, addA_snoc]
theorem named_nodup (line : List Ver) : (named line).Nodup := nodup_addA List.nodup_nil
theorem LineOk.named_le {ws : List Str} {line : List Ver} (h : LineOk ws line) : (named line).length ≤ ws.length := nodup_len (named_nodup line) fun x hx => by
  obtain ⟨v, hv, b, e⟩ := mem_named.mp hx
  exact h.word v hv b x e
theorem LineOk.take {ws : List Str} {line : List Ver} (h : LineOk ws line) (i : Nat) : LineOk ws (line.take i) := by
  refine ⟨fun j v hj => ?_, fun v hv => h.word v (List.mem_of_mem_take hv)⟩
  rw [List.getElem?_take] at hj
  split at hj
  · exact h.ver j v hj
  · cases hj
theorem me_own {μ : Mu} {k : Nat} {c m : Str} {ns : List Str} {vs : List Val} (e0 : μ[k]? = some (.ins c ns vs)) (hm : decide (m ∈ ns) = false) {n : Nat} {Fn : FF} {Δ : MT} (hd : Δ c = some (n, Fn)) (g : FA) (ρ : Rho) (K : KE) : kMeth m Δ g ρ K (.own k) μ = Wp (g ρ μ) (kMethA n Fn (.own k) K) :=
  k_Meth (c := c) (ns := ns) (vs := vs) (by simp [e0]) hm hd
theorem fld_own {μ : Mu} {k : Nat} {c x : Str} {ns : List Str} {vs : List Val} {v : Val} (e0 : μ[k]? = some (.ins c ns vs)) (e1 : getF ns vs x = some v) (K : KE) : kFld x K (.own k) μ = K v μ := k_Fld (c := c) (ns := ns) (vs := vs) (by simp [e0]) e1
abbrev hN4 : List Str := ["h_changes", "h_behind", "h_versions", "h_contents"]
def histD (line : List Ver) : D := .ins "History" hN4 [.lst ((named line).map D.str), .lst ((bhs line).map natsD), .tup (line.map verD), .lst ((packs line).map packD)]
theorem ver0 {v : Ver} (μ : Mu) : oIx (.d (verD v)) (.d (.int 0)) μ = .ok (.d (.tup (v.ups.map natD)), μ) := by simp [verD]
theorem ver1 {v : Ver} (μ : Mu) : oIx (.d (verD v)) (.d (.int 1)) μ = .ok (.d (actD v.deed), μ) := by simp [verD]
theorem rngD_map (n : Nat) : rngD 0 n = (List.range n).map natD := by
  unfold rngD
  apply List.map_congr_left
  intro i _
  rw [Int.zero_add]
  rfl
theorem init_wp {ws : List Str} {line : List Ver} (h : LineOk ws line) (hl : line.length ≤ 16) (hw : ws.length ≤ 8) (μ : Mu) {K : KE}
    (hK : ∀ μ', μ'.take μ.length = μ → μ'[μ.length]? = some (.ins "History" hN4 [.own (μ.length + 1), .own (μ.length + 2), .d (.tup (line.map verD)), .d (.lst ((packs line).map packD))]) →
      μ'[μ.length + 1]? = some (.lst (vD ((named line).map D.str))) → μ'[μ.length + 2]? = some (.lst (vD ((bhs line).map natsD))) → K (.d .non) μ') :
    Wp (F_History_init [.own μ.length, .d (lineD line)] (μ ++ [.ins "History" [] []])) K := by
  unfold F_History_init
  rw [w_BodyK]
  simp [S_History_init, startR, i_History_init_1, lineD, putP_cb]
  obtain ⟨I, hI⟩ : ∃ I : Nat → Rho → Mu → Prop, I = fun i ρ μ' => ∃ (s2 s3 s4 : Option Val), ρ = ⟨μ.length, [some (.own μ.length), some (.d (.lst (line.map verD))), s2, s3, s4]⟩ ∧
      μ' = μ ++ [.ins "History" ["h_changes", "h_behind"] [.own (μ.length + 1), .own (μ.length + 2)], .lst (vD ((named (line.take i)).map D.str)), .lst (vD ((bhs (line.take i)).map natsD))] := ⟨_, rfl⟩
  refine wp_forI I (by rw [hI]; exact ⟨_, _, _, rfl, rfl⟩) ?_ ?_
  · intro i d ρ μ' hi hh
    rw [hI] at hh
    obtain ⟨s2, s3, s4, rfl, rfl⟩ := hh
    have hil : i < line.length := by
      have := (List.getElem?_eq_some_iff.mp hi).1
      rw [enumD_length] at this
      simpa using this
    have hv : line[i]? = some line[i] := List.getElem?_eq_getElem hil
    rw [enumD_get, List.getElem?_map, hv] at hi
    have hd : D.tup [.int ((0 + i : Nat) : Int), verD line[i]] = d := Option.some.inj hi
    rw [Nat.zero_add] at hd
    subst hd
    have hok := h.ver i _ hv
    generalize hvv : line[i] = v at hok hv
    have hi16 : ¬ ((i : Int) = 16) := by omega
    rw [show D.int (i : Int) = natD i from rfl]
    have htk : line.take (i + 1) = line.take i ++ [v] := take_succ_map hv
    have hnl : (takesK (named (line.take i)) v.deed).length ≤ 8 := by
      rw [← named_snoc, ← htk]
      have := (h.take (i + 1)).named_le
      omega
    have hchg : ∀ x ∈ named (line.take i), Chg x := fun x hx => (h.take i).named_chg hx
    have hnl2 := named_len (line.take i)
    rw [List.length_take] at hnl2
    generalize hM : μ ++ [Cell.ins "History" ["h_changes", "h_behind"] [.own (μ.length + 1), .own (μ.length + 2)], .lst (vD ((named (line.take i)).map D.str)), .lst (vD ((bhs (line.take i)).map natsD))] = M
    have e0 : M[μ.length]? = some (Cell.ins "History" ["h_changes", "h_behind"] [.own (μ.length + 1), .own (μ.length + 2)]) := by rw [← hM]; simp
    have e1 : M[μ.length + 1]? = some (.lst (vD ((named (line.take i)).map D.str))) := by rw [← hM]; simp
    have e2 : M[μ.length + 2]? = some (.lst (vD ((bhs (line.take i)).map natsD))) := by rw [← hM]; simp
    have hm1 := me_own e0 (m := "takes") (by decide +kernel) (Δ := Δ_takes) (n := 2) (Fn := F_History_takes) rfl
    have ht := takes_ok e0 hg1 e1 hok.deed hchg (by omega)
    have hM2 : M.set (μ.length + 1) (.lst (vD ((takesK (named (line.take i)) v.deed).map D.str))) = μ ++ [Cell.ins "History" ["h_changes", "h_behind"] [.own (μ.length + 1), .own (μ.length + 2)], .lst (vD ((named (line.take (i + 1))).map D.str)), .lst (vD ((bhs (line.take i)).map natsD))] := by
      rw [← hM, htk, named_snoc]; simp
    rw [hM2] at ht
    generalize hN : μ ++ [Cell.ins "History" ["h_changes", "h_behind"] [.own (μ.length + 1), .own (μ.length + 2)], .lst (vD ((named (line.take (i + 1))).map D.str)), .lst (vD ((bhs (line.take i)).map natsD))] = N at ht
    have d0 : N[μ.length]? = some (Cell.ins "History" ["h_changes", "h_behind"] [.own (μ.length + 1), .own (μ.length + 2)]) := by rw [← hN]; simp
    have d2 : N[μ.length + 2]? = some (.lst (vD ((bhs (line.take i)).map natsD))) := by rw [← hN]; simp
    have hm2 := me_own d0 (m := "behind_all") (by decide +kernel) (Δ := Δ_behind_all) (n := 2) (Fn := F_History_behind_all) rfl
    have hB : (bhs (line.take i)).length = i := by rw [bhs_len]; simp; omega
    have hba := behind_all_ok d0 hg2 d2 (us := v.ups) (fun u hu => by rw [hB]; exact hok.ups.lt u hu) hok.ups.len (bhs_nodup _) (h.take i).bel (by omega)
    have hBl : (bhs (line.take i)).length < 1000000 := by omega
    simp [w_gTup, b_History_init_3, i_History_init_2, hi16, natD]
    rw [show D.int (i : Int) = natD i from rfl]
    simp [is_version_ok hok, e0, hm1, ver0, ver1, ht, hnl, d0, fld_own d0 hg2, d2, hm2, hba, hBl]
    rw [hI]
    refine ⟨_, _, _, rfl, ?_⟩
    rw [← hN, htk, bhs_snoc]
    simp
  · intro ρ μ' hh
    rw [hI] at hh
    obtain ⟨s2, s3, s4, rfl, rfl⟩ := hh
    rw [enumD_length, List.length_map, List.take_length]
    simp [putP_cbv, c_History_init_4]
    generalize hM : μ ++ [Cell.ins "History" ["h_changes", "h_behind", "h_versions"] [.own (μ.length + 1), .own (μ.length + 2), .d (.tup (line.map verD))], .lst (vD ((named line).map D.str)), .lst (vD ((bhs line).map natsD))] = M
    have L : LiveH M μ.length (μ.length + 1) (μ.length + 2) line := ⟨by rw [← hM]; simp, by rw [← hM]; simp, by rw [← hM]; simp⟩
    have hm := L.me (m := "content_at") (by decide +kernel) (Δ := Δ_content_at) (n := 2) (Fn := F_History_content_at) rfl
    have hl2 : line.length < 2 ^ 62 := by omega
    simp [L.fv, show line.length < 4611686018427387904 by omega]
    rw [rngD_map]
    refine k_lcA (xs := List.range line.length) natD (fun v => packD (packAt line (bhs line) v)) (by simp; omega) (fun v hv => ?_) ?_
    · simp [L.e0, hm, content_at_ok L h (by omega) (List.mem_range.mp hv)]
    · simp [L.e0, putP_cbvc]
      rw [← hM]
      simp [putP_cbvc]
      refine hK _ (by simp) ?_ (by simp) (by simp)
      simp [packs, Function.comp_def]
/-- the finished history -/
theorem hist_ok {ws : List Str} {line : List Ver} (h : LineOk ws line) (hl : line.length ≤ 16) (hw : ws.length ≤ 8) (ρ : Rho) (μ : Mu) {f : FA} {K : KE} (hf : ∀ k : KA, k [.d (lineD line)] μ → Wp (f ρ μ) k) (hK : K (.d (histD line)) μ) :
    Wp (fMake "History" 2 F_History_init [] false f ρ μ) K := by
  simp
  apply hf
  simp
  refine init_wp h hl hw μ fun μ' h1 h2 h3 h4 => ?_
  have ht : treeV 40 μ.length μ' (.own μ.length) = some (histD line) := by
    have t1 : treeV 39 μ.length μ' (.own (μ.length + 1)) = some (.lst ((named line).map D.str)) := by
      rw [show (39 : Nat) = 37 + 1 + 1 from rfl, treeV, if_neg (by omega)]
      simp only [h3, vD, mapM_d, Option.map]
    have t2 : treeV 39 μ.length μ' (.own (μ.length + 2)) = some (.lst ((bhs line).map natsD)) := by
      rw [show (39 : Nat) = 37 + 1 + 1 from rfl, treeV, if_neg (by omega)]
      simp only [h4, vD, mapM_d, Option.map]
    have t3 : ∀ x, treeV 39 μ.length μ' (.d x) = some x := fun x => rfl
    rw [show (40 : Nat) = 39 + 1 from rfl, treeV, if_neg (by omega)]
    simp only [h2, List.mapM_cons, List.mapM_nil, t1, t2, t3, Option.bind_eq_bind, Option.bind_some, Option.pure_def, Option.map]
    rfl
  rw [k_Mk_f ht, h1]
  exact hK
end Zl
set_option Elab.async false
set_option linter.all false
set_option maxRecDepth 100000
set_option maxHeartbeats 4000000
namespace Zl
open PySem PySem.Spec L2 PySem.W
open PyProof.Rows hiding St
/-! # plans, as mathematics -/
def insP (C S : List Str) : List Str := S.filter fun x => decide (x ∈ C)
def outP (C S : List Str) : List Str := S.filter fun x => !decide (x ∈ C)
def partsB (C S : List Str) : Bool := !(insP C S).isEmpty && !(outP C S).isEmpty
def pAt (P : List (List Str)) (v : Nat) : List Str := P.getD v []
def parting (P : List (List Str)) (S : List Str) : List Nat := (List.range P.length).filter fun v => partsB (pAt P v) S
theorem ins_out (C S : List Str) : (insP C S).length + (outP C S).length = S.length := by
  unfold insP outP
  induction S with
  | nil => rfl
  | cons x S ih =>
    by_cases h : x ∈ C
    · simp [h] at ih ⊢; omega
    · simp [h] at ih ⊢; omega
theorem partsB_len {C S : List Str} (h : partsB C S = true) : 1 ≤ (insP C S).length ∧ 1 ≤ (outP C S).length ∧ (insP C S).length < S.length ∧ (outP C S).length < S.length := by
  have e := ins_out C S
  unfold partsB at h
  simp only [Bool.and_eq_true, Bool.not_eq_true', List.isEmpty_eq_false_iff] at h
  have h1 := List.length_pos_iff.mpr h.1
  have h2 := List.length_pos_iff.mpr h.2
  omega
theorem insP_sub {C S : List Str} {x : Str} (h : x ∈ insP C S) : x ∈ S := (List.mem_filter.mp h).1
theorem outP_sub {C S : List Str} {x : Str} (h : x ∈ outP C S) : x ∈ S := (List.mem_filter.mp h).1
theorem insP_nodup {C S : List Str} (h : S.Nodup) : (insP C S).Nodup := h.filter _
theorem outP_nodup {C S : List Str} (h : S.Nodup) : (outP C S).Nodup := h.filter _
def better (a : Option (Nat × Nat)) (c : Nat × Nat) : Option (Nat × Nat) := match a with
  | none => some c
  | some b => if c.1 < b.1 then some c else some b
def bst (P : List (List Str)) : Nat → List Str → Option (Nat × Nat)
  | 0, _ => none
  | n + 1, S => if S.length ≤ 1 then some (0, 0) else
    ((parting P S).map fun v => (1 + max ((bst P n (insP (pAt P v) S)).getD (0, 0)).1 ((bst P n (outP (pAt P v) S)).getD (0, 0)).1, v)).foldl better none
theorem bst_fuel {P : List (List Str)} : ∀ {n m : Nat} {S : List Str}, 1 ≤ S.length → S.length ≤ n → S.length ≤ m → bst P n S = bst P m S
  | 0, _, S, h1, h2, _ => by omega
  | _ + 1, 0, S, h1, _, h3 => by omega
  | n + 1, m + 1, S, h1, h2, h3 => by
    unfold bst
    by_cases h : S.length ≤ 1
    · rw [if_pos h, if_pos h]
    · rw [if_neg h, if_neg h]
      congr 1
      apply List.map_congr_left
      intro v hv
      have hp := partsB_len (List.mem_filter.mp hv).2
      rw [bst_fuel (n := n) (m := m) hp.1 (by omega) (by omega), bst_fuel (n := n) (m := m) hp.2.1 (by omega) (by omega)]
/-- the best test for some suspects: its depth and its version -/
def bestV (P : List (List Str)) (S : List Str) : Nat × Nat := (bst P S.length S).getD (0, 0)
def cand (P : List (List Str)) (S : List Str) (v : Nat) : Nat × Nat := (1 + max (bestV P (insP (pAt P v) S)).1 (bestV P (outP (pAt P v) S)).1, v)
theorem bestV_1 {P : List (List Str)} {S : List Str} (h : S.length = 1) : bestV P S = (0, 0) := by
  unfold bestV
  rw [h]
  unfold bst
  rw [if_pos (by omega)]
  rfl
theorem bst_2 {P : List (List Str)} {S : List Str} (h : 2 ≤ S.length) : bst P S.length S = ((parting P S).map (cand P S)).foldl better none := by
  obtain ⟨n, hn⟩ : ∃ n, S.length = n + 1 := ⟨S.length - 1, by omega⟩
  rw [hn]
  unfold bst
  rw [if_neg (by omega)]
  congr 1
  apply List.map_congr_left
  intro v hv
  have hp := partsB_len (List.mem_filter.mp hv).2
  unfold cand bestV
  rw [bst_fuel (n := n) (m := (insP (pAt P v) S).length) hp.1 (by omega) (by omega), bst_fuel (n := n) (m := (outP (pAt P v) S).length) hp.2.1 (by omega) (by omega)]
theorem fold_better_some : ∀ (l : List (Nat × Nat)) (b : Nat × Nat), ∃ c, l.foldl better (some b) = some c ∧ (c = b ∨ c ∈ l)
  | [], b => ⟨b, rfl, .inl rfl⟩
  | x :: l, b => by
    rw [List.foldl_cons]
    unfold better
    simp only
    by_cases h : x.1 < b.1
    · rw [if_pos h]
      obtain ⟨c, e, h⟩ := fold_better_some l x
      exact ⟨c, e, .inr (h.elim (fun h => h ▸ List.mem_cons_self ..) fun h => List.mem_cons_of_mem _ h)⟩
    · rw [if_neg h]
      obtain ⟨c, e, h⟩ := fold_better_some l b
      exact ⟨c, e, h.elim .inl fun h => .inr (List.mem_cons_of_mem _ h)⟩
theorem fold_better_ne {l : List (Nat × Nat)} (h : l ≠ []) : ∃ c, l.foldl better none = some c ∧ c ∈ l := by
  cases l with
  | nil => exact absurd rfl h
  | cons x l =>
    obtain ⟨c, e, h⟩ := fold_better_some l x
    exact ⟨c, e, h.elim (fun h => h ▸ List.mem_cons_self ..) fun h => List.mem_cons_of_mem _ h⟩
theorem bestV_2 {P : List (List Str)} {S : List Str} (h : 2 ≤ S.length) (hp : parting P S ≠ []) : ∃ v ∈ parting P S, bestV P S = cand P S v ∧ ((parting P S).map (cand P S)).foldl better none = some (cand P S v) := by
  obtain ⟨c, e, hc⟩ := fold_better_ne (l := (parting P S).map (cand P S)) (by simpa using hp)
  obtain ⟨v, hv, rfl⟩ := List.mem_map.mp hc
  refine ⟨v, hv, ?_, e⟩
  unfold bestV
  rw [bst_2 h, e]
  rfl
/-- the plan -/
def planF (P : List (List Str)) : Nat → List Str → D
  | 0, _ => .non
  | n + 1, S => if S.length ≤ 1 then .tup [.str "found", .str (S.headD "")] else
    .tup [.str "test", natD (bestV P S).2, planF P n (insP (pAt P (bestV P S).2) S), planF P n (outP (pAt P (bestV P S).2) S)]
/-- suspects: different changes that are in force together -/
structure Sus (P : List (List Str)) (S : List Str) : Prop where
  nd : S.Nodup
  ne : 1 ≤ S.length
  hold : ∃ u, u < P.length ∧ ∀ x ∈ S, x ∈ pAt P u
theorem Sus.ins {P : List (List Str)} {S C : List Str} (h : Sus P S) (hn : 1 ≤ (insP C S).length) : Sus P (insP C S) := ⟨insP_nodup h.nd, hn, let ⟨u, hu, hx⟩ := h.hold; ⟨u, hu, fun x hx' => hx x (insP_sub hx')⟩⟩
theorem Sus.out {P : List (List Str)} {S C : List Str} (h : Sus P S) (hn : 1 ≤ (outP C S).length) : Sus P (outP C S) := ⟨outP_nodup h.nd, hn, let ⟨u, hu, hx⟩ := h.hold; ⟨u, hu, fun x hx' => hx x (outP_sub hx')⟩⟩
/-- histories whose suspects are parted by some version -/
def Parted (P : List (List Str)) : Prop := ∀ S, Sus P S → 2 ≤ S.length → parting P S ≠ []
theorem planF_fuel {P : List (List Str)} (hP : Parted P) : ∀ {n m : Nat} {S : List Str}, Sus P S → S.length ≤ n → S.length ≤ m → planF P n S = planF P m S
  | 0, _, S, h1, h2, _ => by have := h1.ne; omega
  | _ + 1, 0, S, h1, _, h3 => by have := h1.ne; omega
  | n + 1, m + 1, S, h1, h2, h3 => by
    unfold planF
    by_cases h : S.length ≤ 1
    · rw [if_pos h, if_pos h]
    · rw [if_neg h, if_neg h]
      obtain ⟨v, hv, e, _⟩ := bestV_2 (by omega) (hP S h1 (by omega))
      have hp := partsB_len (List.mem_filter.mp hv).2
      have e2 : (bestV P S).2 = v := by rw [e]; rfl
      rw [e2, planF_fuel hP (n := n) (m := m) (h1.ins hp.1) (by omega) (by omega), planF_fuel hP (n := n) (m := m) (h1.out hp.2.1) (by omega) (by omega)]
def planD (P : List (List Str)) (S : List Str) : D := planF P S.length S
theorem planD_1 {P : List (List Str)} {x : Str} : planD P [x] = .tup [.str "found", .str x] := rfl
theorem planD_2 {P : List (List Str)} (hP : Parted P) {S : List Str} (h1 : Sus P S) (h : 2 ≤ S.length) :
    planD P S = .tup [.str "test", natD (bestV P S).2, planD P (insP (pAt P (bestV P S).2) S), planD P (outP (pAt P (bestV P S).2) S)] := by
  obtain ⟨n, hn⟩ : ∃ n, S.length = n + 1 := ⟨S.length - 1, by omega⟩
  obtain ⟨v, hv, e, _⟩ := bestV_2 h (hP S h1 h)
  have hp := partsB_len (List.mem_filter.mp hv).2
  have e2 : (bestV P S).2 = v := by rw [e]; rfl
  unfold planD
  rw [hn]
  conv => lhs; unfold planF
  rw [if_neg (by omega), e2]
  rw [planF_fuel hP (n := n) (m := (insP (pAt P v) S).length) (h1.ins hp.1) (by omega) (by omega), planF_fuel hP (n := n) (m := (outP (pAt P v) S).length) (h1.out hp.2.1) (by omega) (by omega)]
/-! ## every history parts its suspects -/
theorem force_self {line : List Ver} {B : List (List Nat)} (hb : Bel B) {t : Nat} {y : Str} (ht : touched (vAt line t) y = true) (hd : deedB line t = true) : inForce line B t y = true := by
  unfold inForce
  rw [List.any_eq_true]
  refine ⟨t, ?_, hd⟩
  have htt : t ∈ touches line B t y := List.mem_filter.mpr ⟨by simp, ht⟩
  refine List.mem_filter.mpr ⟨htt, ?_⟩
  simp only [Bool.not_eq_true', List.any_eq_false, decide_eq_true_eq]
  intro s hs hts
  have h1 := hb.getD hts
  have h2 := (List.mem_filter.mp hs).1
  rcases List.mem_append.mp h2 with h2 | h2
  · have := hb.getD h2; omega
  · simp at h2; omega
theorem force_from {line : List Ver} {B : List (List Nat)} (hb : Bel B) {v : Nat} {y : Str} (h : inForce line B v y = true) : ∃ t, t ≤ v ∧ touched (vAt line t) y = true ∧ inForce line B t y = true := by
  have h0 := h
  unfold inForce at h
  rw [List.any_eq_true] at h
  obtain ⟨t, ht, hd⟩ := h
  have h1 := List.mem_filter.mp (List.mem_filter.mp ht).1
  refine ⟨t, ?_, h1.2, force_self hb h1.2 hd⟩
  rcases List.mem_append.mp h1.1 with h2 | h2
  · have := hb.getD h2; omega
  · simp at h2; omega
theorem packs_len (line : List Ver) : (packs line).length = line.length := by simp [packs]
theorem pAt_packs {line : List Ver} {v : Nat} (h : v < line.length) : pAt (packs line) v = packAt line (bhs line) v := by simp [pAt, packs, h]
theorem touched_word {v : Ver} {x y : Str} (h1 : touched v x = true) (h2 : touched v y = true) : x = y := by
  unfold touched at h1 h2
  cases e : v.deed with
  | none => rw [e] at h1; cases h1
  | some p =>
    rw [e] at h1 h2
    have h1 := of_decide_eq_true h1
    have h2 := of_decide_eq_true h2
    exact h1.symm.trans h2
theorem parted_of {line : List Ver} (hb : Bel (bhs line)) : Parted (packs line) := by
  intro S hS h2
  obtain ⟨u, hu, hx⟩ := hS.hold
  rw [packs_len] at hu
  rw [pAt_packs hu] at hx
  obtain ⟨a, ha⟩ : ∃ a, a ∈ S := List.exists_mem_of_length_pos (by omega)
  -- the least version at which any of them is in force
  have least : ∀ n, (∃ v, v ≤ n ∧ v < line.length ∧ ∃ x ∈ S, x ∈ packAt line (bhs line) v) → ∃ v, v < line.length ∧ (∃ x ∈ S, x ∈ packAt line (bhs line) v) ∧ ∀ t, t < v → ¬ ∃ x ∈ S, x ∈ packAt line (bhs line) t := by
    intro n
    induction n with
    | zero =>
      rintro ⟨v, hv, hvl, hx⟩
      exact ⟨v, hvl, hx, fun t ht => by omega⟩
    | succ n ih =>
      rintro ⟨v, hv, hvl, hx⟩
      by_cases h : ∃ w, w ≤ n ∧ w < line.length ∧ ∃ x ∈ S, x ∈ packAt line (bhs line) w
      · exact ih h
      · refine ⟨v, hvl, hx, fun t ht hh => h ⟨t, ?_, by omega, hh⟩⟩
        omega
  obtain ⟨v, hvl, ⟨x, hxS, hxv⟩, hmin⟩ := least u ⟨u, Nat.le_refl _, hu, a, ha, hx a ha⟩
  have key : ∀ y ∈ S, y ∈ packAt line (bhs line) v → touched (vAt line v) y = true := by
    intro y hyS hyv
    have hm := List.mem_filter.mp hyv
    obtain ⟨t, ht, h3, h4⟩ := force_from hb hm.2
    have : ¬ t < v := fun hlt => hmin t hlt ⟨y, hyS, List.mem_filter.mpr ⟨hm.1, h4⟩⟩
    have : t = v := by omega
    exact this ▸ h3
  have hz : ∃ z ∈ S, z ∉ packAt line (bhs line) v := by
    apply Classical.byContradiction
    intro hno
    have hall : ∀ z ∈ S, z ∈ [x] := fun z hz => by
      have hzv : z ∈ packAt line (bhs line) v := Classical.byContradiction fun h => hno ⟨z, hz, h⟩
      simp
      exact touched_word (key z hz hzv) (key x hxS hxv)
    have := nodup_len hS.nd hall
    simp at this
    omega
  obtain ⟨z, hzS, hzv⟩ := hz
  have hin : v ∈ parting (packs line) S := by
    refine List.mem_filter.mpr ⟨by rw [packs_len]; exact List.mem_range.mpr hvl, ?_⟩
    rw [pAt_packs hvl]
    unfold partsB
    have h1 : x ∈ insP (packAt line (bhs line) v) S := List.mem_filter.mpr ⟨hxS, by simpa using hxv⟩
    have h2 : z ∈ outP (packAt line (bhs line) v) S := List.mem_filter.mpr ⟨hzS, by simpa using hzv⟩
    rw [Bool.and_eq_true, Bool.not_eq_true', Bool.not_eq_true']
    exact ⟨by cases e : insP (packAt line (bhs line) v) S with
      | nil => rw [e] at h1; cases h1
      | cons _ _ => rfl, by cases e : outP (packAt line (bhs line) v) S with
      | nil => rw [e] at h2; cases h2
      | cons _ _ => rfl⟩
  intro e
  rw [e] at hin
  cases hin
end Zl
set_option Elab.async false
set_option linter.all false
set_option maxRecDepth 100000
set_option maxHeartbeats 4000000
namespace Zl
open PySem PySem.Spec L2 PySem.W
open PyProof.Rows hiding St
/-! # the finished history in use -/
theorem hh1 {a b c d : Val} : getF hN4 [a, b, c, d] "h_changes" = some a := getF_0
theorem hh2 {a b c d : Val} : getF hN4 [a, b, c, d] "h_behind" = some b := (getF_S (by decide +kernel)).trans getF_0
theorem hh3 {a b c d : Val} : getF hN4 [a, b, c, d] "h_versions" = some c := (getF_S (by decide +kernel)).trans ((getF_S (by decide +kernel)).trans getF_0)
theorem hh4 {a b c d : Val} : getF hN4 [a, b, c, d] "h_contents" = some d := (getF_S (by decide +kernel)).trans ((getF_S (by decide +kernel)).trans ((getF_S (by decide +kernel)).trans getF_0))
section
variable {μ : Mu} {line : List Ver} {ws : List Str}
theorem ins_hist : insV μ (.d (histD line)) = some (("History" : Str), hN4, ([.d (.lst ((named line).map D.str)), .d (.lst ((bhs line).map natsD)), .d (.tup (line.map verD)), .d (.lst ((packs line).map packD))] : List Val)) := rfl
theorem hfc (K : KE) : kFld "h_changes" K (.d (histD line)) μ = K (.d (.lst ((named line).map D.str))) μ := k_Fld ins_hist hh1
theorem hfb (K : KE) : kFld "h_behind" K (.d (histD line)) μ = K (.d (.lst ((bhs line).map natsD))) μ := k_Fld ins_hist hh2
theorem hfv (K : KE) : kFld "h_versions" K (.d (histD line)) μ = K (.d (.tup (line.map verD))) μ := k_Fld ins_hist hh3
theorem hfp (K : KE) : kFld "h_contents" K (.d (histD line)) μ = K (.d (.lst ((packs line).map packD))) μ := k_Fld ins_hist hh4
theorem hme {m : Str} (hm : decide (m ∈ hN4) = false) {n : Nat} {Fn : FF} {Δ : MT} (hd : Δ "History" = some (n, Fn)) (g : FA) (ρ : Rho) (K : KE) : kMeth m Δ g ρ K (.d (histD line)) μ = Wp (g ρ μ) (kMethA n Fn (.d (histD line)) K) := k_Meth ins_hist hm hd
theorem hneed (g : FA) (ρ : Rho) (K : KE) : kMeth "need" Δ_need g ρ K (.d (histD line)) μ = Wp (g ρ μ) (kMethA 2 F_History_need (.d (histD line)) K) := hme (by decide +kernel) rfl g ρ K
theorem hcontent (g : FA) (ρ : Rho) (K : KE) : kMeth "content" Δ_content g ρ K (.d (histD line)) μ = Wp (g ρ μ) (kMethA 2 F_History_content (.d (histD line)) K) := hme (by decide +kernel) rfl g ρ K
theorem hcontents (g : FA) (ρ : Rho) (K : KE) : kMeth "contents" Δ_contents g ρ K (.d (histD line)) μ = Wp (g ρ μ) (kMethA 1 F_History_contents (.d (histD line)) K) := hme (by decide +kernel) rfl g ρ K
theorem need_ok {v : Nat} (hv : v < line.length) : F_History_need [.d (histD line), .d (natD v)] μ = .ok (.d .non, μ) := by
  apply wp_eq
  unfold F_History_need
  rw [w_Body]
  have h1 : (0 : Int) ≤ v := by omega
  have h2 : (v : Int) < line.length := by omega
  simp [S_History_need, i_History_need_1, startR, is_number_nat, natD, hfv, h1, h2, is_number_int]
theorem ix_P {v : Nat} (h : v < line.length) : ((packs line).map packD)[v]? = some (packD (pAt (packs line) v)) := by simp [pAt, packs, h]
theorem content_ok {v : Nat} (hv : v < line.length) : F_History_content [.d (histD line), .d (natD v)] μ = .ok (.d (packD (pAt (packs line) v)), μ) := by
  apply wp_eq
  unfold F_History_content
  rw [w_Body]
  simp [S_History_content, startR, hneed, need_ok hv, hfp, ix_nD (ix_P hv)]
theorem contents_ok : F_History_contents [.d (histD line)] μ = .ok (.d (.lst ((packs line).map packD)), μ) := by
  apply wp_eq
  unfold F_History_contents
  rw [w_Body]
  simp [S_History_contents, startR, hfp]
theorem hlen_ok : F_History_len [.d (histD line)] μ = .ok (.d (natD line.length), μ) := by
  apply wp_eq
  unfold F_History_len
  rw [w_Body]
  simp [S_History_len, startR, hfv, natD]
/-- a list of words, as a list or as a tuple -/
def rowD (t : Bool) (S : List Str) : D := if t then .tup (S.map D.str) else .lst (S.map D.str)
theorem pack_chg (h : LineOk ws line) {v : Nat} {x : Str} (hx : x ∈ packAt line (bhs line) v) : Chg x := h.named_chg (mem_sortS.mp (List.mem_filter.mp hx).1)
theorem packs_chg (h : LineOk ws line) {p : List Str} (hp : p ∈ packs line) {x : Str} (hx : x ∈ p) : Chg x := by
  obtain ⟨v, hv, rfl⟩ := List.mem_map.mp hp
  exact pack_chg h hx
theorem pAt_chg (h : LineOk ws line) {v : Nat} (hv : v < line.length) {x : Str} (hx : x ∈ pAt (packs line) v) : Chg x := by
  rw [pAt_packs hv] at hx
  exact pack_chg h hx
theorem sus_chg (h : LineOk ws line) {S : List Str} (hS : Sus (packs line) S) {x : Str} (hx : x ∈ S) : Chg x := by
  obtain ⟨u, hu, hc⟩ := hS.hold
  rw [packs_len] at hu
  exact pAt_chg h hu (hc x hx)
theorem packAt_len (h : LineOk ws line) (hl : line.length ≤ 100) (v : Nat) : (packAt line (bhs line) v).length ≤ 100 := by
  have h1 := List.length_filter_le (inForce line (bhs line) v) (sortS (named line))
  have h2 := named_len line
  have h3 := (sortS_perm (named line)).length_eq
  unfold packAt
  omega
theorem sus_len (h : LineOk ws line) {S : List Str} (hS : Sus (packs line) S) : S.length ≤ ws.length := by
  obtain ⟨u, hu, hc⟩ := hS.hold
  rw [packs_len] at hu
  have h1 := nodup_len hS.nd (m := named line) fun x hx => by
    have := hc x hx
    rw [pAt_packs hu] at this
    exact mem_sortS.mp (List.mem_filter.mp this).1
  have h2 := h.named_le
  omega
theorem oIn_pack {x : Str} {p : List Str} (n : Bool) (hx : Chg x) (hp : ∀ y ∈ p, Chg y) : oIn n (.d (.str x)) (.d (packD p)) μ = .ok (.d (.bl (if n then !decide (x ∈ p) else decide (x ∈ p))), μ) := oIn_strT n hx.ok fun w hw => (hp w hw).ok
theorem nodup_take {α : Type} {S : List α} (h : S.Nodup) {i : Nat} {x : α} (hx : S[i]? = some x) : x ∉ S.take i := by
  intro hm
  obtain ⟨hi, e⟩ := List.getElem?_eq_some_iff.mp hx
  obtain ⟨j, hj, e2⟩ := List.getElem_of_mem hm
  rw [List.length_take] at hj
  rw [List.getElem_take] at e2
  have := (List.getElem_inj h).mp (e2.trans e.symm)
  omega
@[simp] theorem row_kT {S : List Str} : kindD (rowD true S) = some (.ty "tuple") := rfl
@[simp] theorem row_kF {S : List Str} : kindD (rowD false S) = some (.ty "list") := rfl
@[simp] theorem row_len {t : Bool} {S : List Str} : lenD (rowD t S) = some S.length := by cases t <;> simp [rowD]
@[simp] theorem row_it {t : Bool} {S : List Str} (J : KI) : kiAny J (.d (rowD t S)) μ = J (S.map D.str) μ := by cases t <;> simp [rowD]
@[simp] theorem row_en {t : Bool} {S : List Str} (J : KI) : kiEnumA J [.d (rowD t S)] μ = J (enumD 0 (S.map D.str)) μ := by cases t <;> simp [rowD]
theorem row_sorted {t : Bool} {S : List Str} (hl : S.length ≤ 100000) : oSorted false [.d (rowD t S)] μ = .ok (.d (.lst ((sortS S).map D.str)), μ) := by
  cases t
  · simp only [rowD]; exact sorted_strs hl
  · simp only [rowD]; exact sorted_strsT hl
theorem cut_lst {ds : List D} {i : Nat} : oCut none (some (i : Int)) (.d (.lst ds)) μ = .ok (.d (.lst (ds.take i)), μ) := by
  have e : HT.sIx ds.length ds.length (some (i : Int)) = min i ds.length := HT.sIx_nat ds.length ds.length i
  have e0 : HT.sIx ds.length 0 none = 0 := rfl
  simp only [oCut, lstV_d, cutD, e, e0, List.drop_zero, Nat.sub_zero]
  rw [← List.take_eq_take_min]
theorem cut_tup {ds : List D} {i : Nat} : oCut none (some (i : Int)) (.d (.tup ds)) μ = .ok (.d (.tup (ds.take i)), μ) := by
  have e : HT.sIx ds.length ds.length (some (i : Int)) = min i ds.length := HT.sIx_nat ds.length ds.length i
  have e0 : HT.sIx ds.length 0 none = 0 := rfl
  simp only [oCut, cutD, e, e0, List.drop_zero, Nat.sub_zero]
  rw [← List.take_eq_take_min]
theorem enum_mem {ds : List D} {d : D} (h : d ∈ enumD 0 ds) : ∃ (i : Nat) (x : D), ds[i]? = some x ∧ d = .tup [natD i, x] := by
  obtain ⟨i, hi, e⟩ := List.getElem_of_mem h
  have e2 := List.getElem?_eq_some_iff.mpr ⟨hi, e⟩
  rw [enumD_get] at e2
  cases e3 : ds[i]? with
  | none => rw [e3] at e2; cases e2
  | some x =>
    rw [e3] at e2
    have := Option.some.inj e2
    exact ⟨i, x, e3, by rw [← this, Nat.zero_add]; rfl⟩
theorem are_suspects_ok (h : LineOk ws line) (hl : line.length ≤ 16) (hw : ws.length ≤ 8) {S : List Str} (hS : Sus (packs line) S) (t : Bool) : F_are_suspects [.d (histD line), .d (rowD t S)] μ = .ok (.d (.bl true), μ) := by
  have hSc := fun x hx => sus_chg h hS (x := x) hx
  have hSl := sus_len h hS
  have hS0 : S ≠ [] := by
    intro e
    have := hS.ne
    rw [e] at this
    simp at this
  obtain ⟨u, hu, hc⟩ := hS.hold
  have hPl := packs_len line
  have hany : (packs line).any (fun p => S.all fun x => decide (x ∈ p)) = true := by
    rw [List.any_eq_true]
    refine ⟨pAt (packs line) u, ?_, ?_⟩
    · unfold pAt
      rw [List.getD_eq_getElem?_getD, List.getElem?_eq_getElem hu]
      exact List.getElem_mem hu
    · rw [List.all_eq_true]
      intro x hx
      exact decide_eq_true (hc x hx)
  have hnot : ∀ (i : Nat) x, (S.map D.str)[i]? = some x → oIn false (.d x) (.d (rowD t (S.take i))) μ = .ok (.d (.bl false), μ) := by
    intro i x hx
    rw [List.getElem?_map] at hx
    cases e : S[i]? with
    | none => rw [e] at hx; cases hx
    | some y =>
      rw [e] at hx
      have hx := Option.some.inj hx
      subst hx
      have hy := hSc y (List.mem_of_getElem? e)
      have hn := nodup_take hS.nd e
      unfold rowD
      cases t with
      | true =>
        have := oIn_strT (μ := μ) (x := y) (ws := S.take i) false hy.ok fun w hw => (hSc w (List.mem_of_mem_take hw)).ok
        simpa [hn] using this
      | false =>
        have := oIn_strL (μ := μ) (x := y) (ws := S.take i) false hy.ok fun w hw => (hSc w (List.mem_of_mem_take hw)).ok
        simpa [hn] using this
  have hcut : ∀ i : Nat, oCut none (some (i : Int)) (.d (rowD t S)) μ = .ok (.d (rowD t (S.take i)), μ) := by
    intro i
    unfold rowD
    cases t with
    | true => simp [cut_tup, List.map_take]
    | false => simp [cut_lst, List.map_take]
  apply wp_eq
  unfold F_are_suspects
  rw [w_Body]
  have fin : ∀ t', t' = t → kLc false (fgName 5) fYes (fCall 1 F_is_change [] (fACons (fName 5) fANil)) ⟨μ.length, [some (.d (histD line)), some (.d (rowD t' S)), none, none, none, none]⟩ (kACons1 fANil ⟨μ.length, [some (.d (histD line)), some (.d (rowD t' S)), none, none, none, none]⟩ (kCB oAll (kTr (kNotT (kIfS (fRet (fC (.bl false))) fNext ⟨μ.length, [some (.d (histD line)), some (.d (rowD t' S)), none, none, none, none]⟩ (kSeq (fSeq i_are_suspects_4 (fRet (fCB oAny (fACons c_are_suspects_6 fANil)))) (kBody μ.length fun x' y' => x' = .d (.bl true) ∧ y' = μ))))))) (S.map D.str) μ := by
    rintro t' rfl
    refine k_lcA D.str (fun _ => .bl true) (by omega) (fun x hx => by simp [is_change_ok (hSc x hx)]) ?_
    simp [oAll_map, i_are_suspects_4, c_are_suspects_3]
    refine k_lc (fun _ => true) (fun _ => .bl false) (by rw [enumD_length]; simp; omega) (fun d hd => ?_) ?_
    · obtain ⟨i, x, hx, rfl⟩ := enum_mem hd
      simp [w_gTup, natD, hcut, hnot i x hx]
    · have hany0 := oAny_map (μ := μ) (fun _ => false) (enumD 0 (S.map D.str))
      have hK' : (enumD 0 (S.map D.str)).any (fun _ => false) = false := by simp
      rw [filter_tt]
      simp [hany0, hK', c_are_suspects_6, hcontents, contents_ok]
      refine k_lcA packD (fun p => .bl (S.all fun x => decide (x ∈ p))) (by omega) (fun p hp => ?_) ?_
      · simp [c_are_suspects_5]
        refine k_lcA D.str (fun x => .bl (decide (x ∈ p))) (by omega) (fun x hx => ?_) ?_
        · simp [oIn_pack false (hSc x hx) fun y hy => packs_chg h hp hy]
        · simp [oAll_map]
      · simp [oAny_map, hany]
  cases t with
  | true =>
    simp [S_are_suspects, startR, i_are_suspects_2, hS0, c_are_suspects_1]
    exact fin true rfl
  | false =>
    simp [S_are_suspects, startR, i_are_suspects_2, hS0, c_are_suspects_1]
    exact fin false rfl
end
end Zl
set_option Elab.async false
set_option linter.all false
set_option maxRecDepth 100000
set_option maxHeartbeats 4000000
namespace Zl
open PySem PySem.Spec L2 PySem.W
open PyProof.Rows hiding St
/-! # needed, parted, cut, held -/
section
variable {μ : Mu} {line : List Ver} {ws : List Str}
theorem needed_ok (h : LineOk ws line) (hl : line.length ≤ 16) (hw : ws.length ≤ 8) {S : List Str} (hS : Sus (packs line) S) (t : Bool) : F_needed [.d (histD line), .d (rowD t S)] μ = .ok (.d (packD (sortS S)), μ) := by
  have hSl := sus_len h hS
  apply wp_eq
  unfold F_needed
  rw [w_Body]
  simp [S_needed, startR, i_needed_1, are_suspects_ok h hl hw hS]
  rw [row_sorted (by omega)]
  simp [packD]
theorem parted_ok (h : LineOk ws line) {S : List Str} (hSc : ∀ x ∈ S, Chg x) (hSl : S.length ≤ 100) {v : Nat} (hv : v < line.length) : F_parted [.d (histD line), .d (packD S), .d (natD v)] μ = .ok (.d (.tup [packD (insP (pAt (packs line) v) S), packD (outP (pAt (packs line) v) S)]), μ) := by
  have hpc := fun y hy => pAt_chg h hv (x := y) hy
  apply wp_eq
  unfold F_parted
  rw [w_Body]
  simp [S_parted, startR, hcontent, content_ok hv, packD]
  rw [show D.tup ((pAt (packs line) v).map D.str) = packD (pAt (packs line) v) from rfl]
  simp [c_parted_1]
  refine k_lcF D.str (fun x => decide (x ∈ pAt (packs line) v)) D.str (by omega) (fun x hx => ?_) ?_
  · simp [oIn_pack false (hSc x hx) hpc]
  · simp [c_parted_2]
    refine k_lcF D.str (fun x => !decide (x ∈ pAt (packs line) v)) D.str (by omega) (fun x hx => ?_) ?_
    · simp [oIn_pack true (hSc x hx) hpc]
    · simp [insP, outP]
theorem cut_ok {C S : List Str} (hC : ∀ x ∈ C, Chg x) (hSc : ∀ x ∈ S, Chg x) (hSl : S.length ≤ 100) : F_law_cut [.d (packD C), .d (packD S)] μ = .ok (.d (.tup [packD (insP C S), packD (outP C S)]), μ) := by
  apply wp_eq
  unfold F_law_cut
  rw [w_Body]
  simp [S_law_cut, startR, c_law_cut_2]
  rw [show packD S = .tup (S.map D.str) from rfl]
  simp
  refine k_lcF D.str (fun x => decide (x ∈ C)) D.str (by omega) (fun x hx => ?_) ?_
  · simp [oIn_pack false (hSc x hx) hC]
  · simp [c_law_cut_1]
    refine k_lcF D.str (fun x => !decide (x ∈ C)) D.str (by omega) (fun x hx => ?_) ?_
    · simp [oIn_pack true (hSc x hx) hC]
    · simp [insP, outP, packD]
theorem packD_inj {p q : List Str} (h : packD p = packD q) : p = q := by
  unfold packD at h
  simp only [D.tup.injEq] at h
  have : ∀ {p q : List Str}, p.map D.str = q.map D.str → p = q := by
    intro p
    induction p with
    | nil => intro q h; cases q with
      | nil => rfl
      | cons b q => simp at h
    | cons a p ih => intro q h; cases q with
      | nil => simp at h
      | cons b q => simp at h; rw [h.1, ih h.2]
  exact this h
theorem cutD_sub {xs : List D} {lo hi : Option Int} {x : D} (h : x ∈ cutD xs lo hi) : x ∈ xs := List.mem_of_mem_drop (List.mem_of_mem_take h)
theorem cutD_len {xs : List D} {lo hi : Option Int} : (cutD xs lo hi).length ≤ xs.length := by
  unfold cutD
  rw [List.length_take, List.length_drop]
  omega
theorem mem_sortLen {ds : List D} {x : D} : x ∈ sortLenD ds ↔ x ∈ ds := (List.mergeSort_perm _ _).mem_iff
theorem sortLen_len (ds : List D) : (sortLenD ds).length = ds.length := (List.mergeSort_perm _ _).length_eq
def unS : D → Str
  | .str x => x
  | _ => ""
theorem perm_strs {es : List D} {q : List Str} (h : es.Perm (q.map D.str)) : ∃ S : List Str, S.Perm q ∧ es = S.map D.str := by
  refine ⟨es.map unS, ?_, ?_⟩
  · have := h.map unS
    rw [List.map_map] at this
    have e : q.map (unS ∘ D.str) = q := by
      have : (unS ∘ D.str) = id := rfl
      rw [this, List.map_id]
    rwa [e] at this
  · have key : ∀ d ∈ es, D.str (unS d) = d := by
      intro d hd
      obtain ⟨x, _, rfl⟩ := List.mem_map.mp (h.mem_iff.mp hd)
      rfl
    rw [List.map_map]
    conv => lhs; rw [← List.map_id es]
    exact List.map_congr_left fun d hd => (key d hd).symm
theorem packAt_nodup (line : List Ver) (v : Nat) : (packAt line (bhs line) v).Nodup := ((sortS_perm _).nodup_iff.mpr (named_nodup line)).filter _
theorem sus_of {q S : List Str} (hq : q ∈ packs line) (hS : ∀ x ∈ S, x ∈ q) (hn : S.Nodup) (h1 : 1 ≤ S.length) : Sus (packs line) S := by
  refine ⟨hn, h1, ?_⟩
  obtain ⟨i, hi, e⟩ := List.getElem_of_mem hq
  refine ⟨i, hi, fun x hx => ?_⟩
  have : pAt (packs line) i = q := by simp [pAt, hi, e]
  rw [this]
  exact hS x hx
theorem okd_pack {p : List Str} (hp : ∀ x ∈ p, Chg x) : OkD 1 (packD p) := okd_tup (okd_strs fun w hw => (hp w hw).ok)
theorem held_wp {n : Nat} {w : Draw} (hd : DrOk n w) (hn : n + 1000 < 1000000) (h : LineOk ws line) (hl : line.length ≤ 16) (hw : ws.length ≤ 8) (r : Mu) {K : KE}
    (h0 : K (.d (.lst [])) (drw w ++ r))
    (hK : ∀ S w', Sus (packs line) S → DrOk (n + 20) w' → K (.d (.lst (S.map D.str))) (drw w' ++ r)) :
    Wp (F_law_held [.own 2, .d (.lst ((packs line).map packD))] (drw w ++ r)) K := by
  unfold F_law_held
  rw [w_Body]
  simp [S_law_held, startR, c_law_held_1]
  refine k_lcF packD (fun p => !p.isEmpty) packD (by rw [packs_len]; omega) (fun p hp => ?_) ?_
  · have := oEq_nilT (μ := drw w ++ r) (k := 0) (ds := p.map D.str) true (okd_strs fun w hw => (packs_chg h hp hw).ok) (by omega)
    simp [packD, this]
  · have hfl : ((packs line).filter fun p => !p.isEmpty).length ≤ 16 := by
      have := List.length_filter_le (fun p : List Str => !p.isEmpty) (packs line)
      rw [packs_len] at this
      omega
    have hfm : ∀ p ∈ (packs line).filter (fun p => !p.isEmpty), p ∈ packs line ∧ p ≠ [] := by
      intro p hp
      have := List.mem_filter.mp hp
      refine ⟨this.1, fun e => ?_⟩
      rw [e] at this
      simp at this
    generalize (packs line).filter (fun p => !p.isEmpty) = Fl at hfl hfm
    have hok : ∀ d ∈ Fl.map packD, OkD 1 d := by
      intro d hd
      obtain ⟨p, hp, rfl⟩ := List.mem_map.mp hd
      exact okd_pack fun x hx => packs_chg h (hfm p hp).1 hx
    have heq := fun μ => oEq_nilL (μ := μ) (k := 1) (ds := Fl.map packD) false hok (by omega)
    cases hFl : Fl with
    | nil =>
      rw [hFl] at heq
      simp only [List.map_nil] at heq
      simp [i_law_held_2, heq]
      exact h0
    | cons p0 ps =>
      have hne : Fl ≠ [] := by rw [hFl]; simp
      rw [← hFl]
      have hemp : (Fl.map packD).isEmpty = false := by rw [hFl]; rfl
      have hall : (Fl.map packD).all isTup = true := by
        rw [List.all_eq_true]
        intro d hd
        obtain ⟨p, hp, rfl⟩ := List.mem_map.mp hd
        have : p.length ≤ 100 := by
          obtain ⟨v, _, rfl⟩ := List.mem_map.mp (hfm p hp).1
          exact packAt_len h (by omega) v
        simp only [isTup, packD, List.length_map]
        exact decide_eq_true (by omega)
      have hsl := sortLen_len (Fl.map packD)
      have hcl := cutD_len (xs := sortLenD (Fl.map packD)) (lo := some (-2)) (hi := none)
      rw [hsl, List.length_map] at hcl
      have hmem : ∀ d ∈ Fl.map packD ++ cutD (sortLenD (Fl.map packD)) (some (-2)) none, ∃ q ∈ Fl, d = packD q := by
        intro d hd
        have : d ∈ Fl.map packD := (List.mem_append.mp hd).elim id fun h => mem_sortLen.mp (cutD_sub h)
        obtain ⟨q, hq, e⟩ := List.mem_map.mp this
        exact ⟨q, hq, e.symm⟩
      have hcut : ∀ μ, oCut (some (-2)) none (.d (.lst (sortLenD (Fl.map packD)))) μ = .ok (.d (.lst (cutD (sortLenD (Fl.map packD)) (some (-2)) none)), μ) := fun μ => rfl
      have hfl2 : Fl.length ≤ 100000 := by omega
      have hall2 : ∀ x ∈ Fl, isTup (packD x) = true := by
        intro x hx
        rw [List.all_eq_true] at hall
        exact hall _ (List.mem_map_of_mem hx)
      have hneg : ∀ μ, oNeg (.d (.int 2)) μ = .ok (.d (.int (-2)), μ) := fun μ => rfl
      have hcat := fun μ => cat_lst (μ := μ) (a := Fl.map packD) (b := cutD (sortLenD (Fl.map packD)) (some (-2)) none) (by rw [List.length_map]; omega)
      simp [i_law_held_2, heq, hemp, hfl2, hneg, hcut, hcat, hne]
      refine ⟨hall2, ?_⟩
      generalize hX : Fl.map packD ++ cutD (sortLenD (Fl.map packD)) (some (-2)) none = X at hmem
      have hXl : X.length < 1000 := by rw [← hX]; simp; omega
      have hX0 : X ≠ [] := by rw [← hX, hFl]; simp
      refine pick_wp hd (by omega) hX0 (by omega) r fun x w1 hx ok1 => ?_
      obtain ⟨q, hq, rfl⟩ := hmem x hx
      have hqP := hfm q hq
      have hql : q.length ≤ 8 := by
        obtain ⟨v, hv, rfl⟩ := List.mem_map.mp hqP.1
        have h1 := List.length_filter_le (inForce line (bhs line) v) (sortS (named line))
        have h2 := h.named_le
        have h3 := (sortS_perm (named line)).length_eq
        unfold packAt
        omega
      have hqn : q.Nodup := by
        obtain ⟨v, hv, rfl⟩ := List.mem_map.mp hqP.1
        exact packAt_nodup line v
      have hq0 : 0 < q.length := List.length_pos_iff.mpr hqP.2
      simp [packD]
      refine shuf_wp ok1 (okd_strs fun w hw => (packs_chg h hqP.1 hw).ok) (by simp; omega) (by simp; omega) r fun es w2 pm ok2 => ?_
      obtain ⟨S, hSq, rfl⟩ := perm_strs pm
      rw [List.length_map] at ok2
      have hSl := hSq.length_eq
      simp
      refine next_wp ok2 (by omega) (by omega) (by omega) r fun z w3 z0 z1 ok3 => ?_
      by_cases hz : z = 0
      · simp [hz]
        exact hK S w3 (sus_of hqP.1 (fun x hx => hSq.mem_iff.mp hx) (hSq.nodup_iff.mpr hqn) (by omega)) (ok3.mono (by omega))
      · simp [hz]
        refine next_wp ok3 (by omega) (by omega) (by omega) r fun y w4 y0 y1 ok4 => ?_
        simp
        obtain ⟨m, hm⟩ : ∃ m : Nat, 1 + y = (m : Int) := ⟨(1 + y).toNat, by omega⟩
        rw [hm, cut_lst]
        simp
        rw [← List.map_take]
        exact hK (S.take m) w4 (sus_of hqP.1 (fun x hx => hSq.mem_iff.mp (List.mem_of_mem_take hx)) ((hSq.nodup_iff.mpr hqn).sublist (List.take_sublist _ _)) (by rw [List.length_take]; omega)) (ok4.mono (by omega))
end
end Zl
set_option Elab.async false
set_option linter.all false
set_option maxRecDepth 100000
set_option maxHeartbeats 4000000
namespace Zl
open PySem PySem.Spec L2 PySem.W
open PyProof.Rows hiding St
/-! # texts of plain data -/
theorem strOk_iff {x : Str} : PyData.strOk x = true ↔ ∀ c ∈ x.cps.toList, c < 0x110000 := by
  unfold PyData.strOk
  rw [← Array.all_toList, List.all_eq_true]
  simp
theorem strOk_app {a b : Str} (ha : PyData.strOk a = true) (hb : PyData.strOk b = true) : PyData.strOk (a ++ b) = true := by
  rw [strOk_iff] at ha hb ⊢
  intro c hc
  rcases mem_cps_append.mp hc with h | h
  · exact ha c h
  · exact hb c h
theorem reprChar_lt {q c : Nat} (hq : q < 0x110000) (hc : c < 0x110000) : ∀ d ∈ Builtin.Str.reprChar q c, d < 0x110000 := by
  have hx : ∀ (w : Nat), ∀ d ∈ List.replicate (w - ((Nat.toDigits 16 c).map Char.toNat).length) 48 ++ (Nat.toDigits 16 c).map Char.toNat, d < 0x110000 := by
    intro w d hd
    rcases List.mem_append.mp hd with hd | hd
    · have := (List.mem_replicate.mp hd).2; omega
    · obtain ⟨ch, _, rfl⟩ := List.mem_map.mp hd
      have := ch.valid
      unfold UInt32.isValidChar Nat.isValidChar at this
      show ch.val.toNat < _
      omega
  unfold Builtin.Str.reprChar
  simp only
  intro d hd
  split at hd
  · simp at hd; omega
  · split at hd
    · simp at hd; omega
    · split at hd
      · simp at hd; omega
      · split at hd
        · simp at hd; omega
        · split at hd
          · simp at hd; omega
          · split at hd
            · rcases List.mem_append.mp hd with hd | hd
              · simp at hd; omega
              · exact hx _ d hd
            · split at hd
              · rcases List.mem_append.mp hd with hd | hd
                · simp at hd; omega
                · exact hx _ d hd
              · rcases List.mem_append.mp hd with hd | hd
                · simp at hd; omega
                · exact hx _ d hd
theorem foldl_repr_mem (q : Nat) : ∀ (l : List Nat) (acc : Array Nat) (c : Nat), c ∈ (l.foldl (fun out c => out ++ (Builtin.Str.reprChar q c).toArray) acc).toList → c ∈ acc.toList ∨ ∃ d ∈ l, c ∈ Builtin.Str.reprChar q d
  | [], acc, c, h => .inl h
  | d :: l, acc, c, h => by
    rcases foldl_repr_mem q l _ c h with h | ⟨e, he, h⟩
    · rw [Array.toList_append] at h
      rcases List.mem_append.mp h with h | h
      · exact .inl h
      · exact .inr ⟨d, List.mem_cons_self .., by simpa using h⟩
    · exact .inr ⟨e, List.mem_cons_of_mem _ he, h⟩
theorem strOk_repr {x : Str} (h : PyData.strOk x = true) : PyData.strOk (reprText x) = true := by
  rw [strOk_iff] at h ⊢
  have hq : reprQuote x < 0x110000 := by
    unfold reprQuote
    split <;> omega
  intro c hc
  unfold reprText at hc
  simp only [Array.toList_push, List.mem_append, List.mem_singleton] at hc
  rcases hc with hc | hc
  · rw [← Array.foldl_toList] at hc
    rcases foldl_repr_mem _ _ _ _ hc with hc | ⟨d, hd, hc⟩
    · simp at hc; omega
    · exact reprChar_lt hq (h d hd) c hc
  · omega
theorem strOk_join {sep : Str} (hs : PyData.strOk sep = true) {ts : List Str} (h : ∀ t ∈ ts, PyData.strOk t = true) : PyData.strOk (Str.join sep ts) = true := by
  rw [strOk_iff] at hs ⊢
  intro c hc
  rcases (mem_join sep c ts).mp hc with ⟨t, ht, hc⟩ | ⟨_, hc⟩
  · exact strOk_iff.mp (h t ht) c hc
  · exact hs c hc
theorem strOk_tuple {ts : List Str} (h : ∀ t ∈ ts, PyData.strOk t = true) : PyData.strOk (tupleText ts) = true := by
  unfold tupleText
  refine strOk_app (strOk_app (by decide +kernel) (strOk_join (by decide +kernel) h)) ?_
  split <;> decide +kernel

/-- data with a short text -/
structure Rp (k w : Nat) (d : D) : Prop where
  ok : OkD k d
  wt : (pyOf d).weight ≤ w
  sh : (pyOf d).intsShort 13 = true
  show_ : (pyOf d).showable = true
  text : PyData.strOk (pyOf d).shown = true
theorem Rp.mono {k k' w w' : Nat} {d : D} (h : Rp k w d) (hk : k ≤ k') (hw : w ≤ w') : Rp k' w' d := ⟨h.ok.mono hk, Nat.le_trans h.wt hw, h.sh, h.show_, h.text⟩
theorem small_ints : ∀ i < 64, ((PyData.int (i : Nat)).weight ≤ 6 ∧ (PyData.int (i : Nat)).intsShort 13 = true) ∧ ((PyData.int (i : Nat)).showable = true ∧ PyData.strOk (PyData.int (i : Nat)).shown = true) := by decide +kernel
theorem rp_nat {k i : Nat} (h : i < 64) : Rp k 6 (natD i) := by
  have := small_ints i h
  exact ⟨okd_int _, this.1.1, this.1.2, this.2.1, this.2.2⟩
theorem rp_str {k : Nat} {x : Str} (h : PyData.strOk x = true) (hl : x.length ≤ 6) : Rp k 6 (.str x) := ⟨okd_str h, by show x.cps.size ≤ 6; exact hl, rfl, rfl, strOk_repr h⟩
theorem rp_tup {k : Nat} {ds : List D} {ws : List Nat} (h : ds.length = ws.length ∧ ∀ p ∈ ds.zip ws, Rp k p.2 p.1) : Rp (k + 1) ((ws.map (· + 1)).sum) (.tup ds) := by
  have key : ∀ (ds : List D) (ws : List Nat), (ds.length = ws.length ∧ ∀ p ∈ ds.zip ws, Rp k p.2 p.1) → (∀ d ∈ ds, OkD k d) ∧ PyData.weightAll (ds.map pyOf) ≤ (ws.map (· + 1)).sum ∧ PyData.intsShortAll 13 (ds.map pyOf) = true ∧ PyData.showableAll (ds.map pyOf) = true ∧ ∀ t ∈ PyData.shownAll (ds.map pyOf), PyData.strOk t = true := by
    intro ds
    induction ds with
    | nil =>
      intro ws h
      have : ws = [] := List.eq_nil_of_length_eq_zero h.1.symm
      subst this
      exact ⟨by simp, by simp [PyData.weightAll], rfl, rfl, by simp [PyData.shownAll]⟩
    | cons d ds ih =>
      intro ws h
      cases ws with
      | nil => simp at h
      | cons w ws =>
        obtain ⟨h1, h2, h3, h4, h5⟩ := ih ws ⟨by simpa using h.1, fun p hp => h.2 p (by simp [hp])⟩
        have hd := h.2 (d, w) (by simp)
        refine ⟨?_, ?_, ?_, ?_, ?_⟩
        · intro e he
          rcases List.mem_cons.mp he with he | he
          · exact he ▸ hd.ok
          · exact h1 e he
        · have : (pyOf d).weight ≤ w := hd.wt
          simp only [List.map_cons, PyData.weightAll, List.sum_cons]
          omega
        · simp only [List.map_cons, PyData.intsShortAll, hd.sh, h3]
          rfl
        · simp only [List.map_cons, PyData.showableAll, hd.show_, h4]
          rfl
        · intro t ht
          simp only [List.map_cons, PyData.shownAll] at ht
          rcases List.mem_cons.mp ht with ht | ht
          · exact ht ▸ hd.text
          · exact h5 t ht
  obtain ⟨h1, h2, h3, h4, h5⟩ := key ds ws h
  have e := py_tup h1
  refine ⟨okd_tup h1, ?_, ?_, ?_, ?_⟩
  · rw [e]; exact h2
  · rw [e]; exact h3
  · rw [e]; exact h4
  · rw [e]; exact strOk_tuple h5
theorem Rp.okRepr {k w : Nat} {ds : List D} (h : Rp k w (.tup ds)) (hk : k ≤ 60) (hw : w ≤ 60000) : okRepr (.tup ds) = true := by
  have h1 := PyData.shown_le 13 (by decide) _ (PyData.leavesShort_of_canLay0 13 _ h.ok.lay h.sh)
  have h2 := h.wt
  have h3 := h.ok.dep
  unfold Zl.okRepr
  rw [h.ok.py]
  simp only [h.show_, PyData.hasDict_of_canLay _ h.ok.lay, Bool.not_false, Bool.and_true, Bool.true_and, Bool.and_eq_true, decide_eq_true_eq]
  exact ⟨by omega, by omega⟩
theorem repr_ok {k w : Nat} {ds : List D} {μ : Mu} (h : Rp k w (.tup ds)) (hk : k ≤ 60) (hw : w ≤ 60000) : oRepr [.d (.tup ds)] μ = .ok (.d (.str (pyOf (.tup ds)).shown), μ) := by
  show (if okRepr (.tup ds) = true then R.ok (Val.d (.str (pyOf (.tup ds)).shown), μ) else .bad) = _
  rw [if_pos (h.okRepr hk hw)]
/-! plans -/
theorem chgLen {x : Str} (h : Chg x) : x.length ≤ 6 := h.2.1
theorem best_le {P : List (List Str)} (hP : Parted P) : ∀ (n : Nat) (S : List Str), Sus P S → S.length ≤ n → (bestV P S).1 + 1 ≤ S.length
  | 0, S, hS, hn => by have := hS.ne; omega
  | n + 1, S, hS, hn => by
    by_cases h1 : S.length = 1
    · rw [bestV_1 h1, h1]; exact Nat.le_refl _
    · have h2 : 2 ≤ S.length := by have := hS.ne; omega
      obtain ⟨v, hv, e1, _⟩ := bestV_2 h2 (hP S hS h2)
      have hpl := partsB_len (List.mem_filter.mp hv).2
      have i1 := best_le hP n (insP (pAt P v) S) (hS.ins hpl.1) (by omega)
      have i2 := best_le hP n (outP (pAt P v) S) (hS.out hpl.2.1) (by omega)
      rw [e1]
      show 1 + max _ _ + 1 ≤ _
      omega
theorem plan_rp {P : List (List Str)} (hP : Parted P) (hl : P.length ≤ 16) : ∀ (n : Nat) (S : List Str), Sus P S → (∀ x ∈ S, Chg x) → S.length ≤ n → Rp S.length (40 * S.length - 20) (planD P S)
  | 0, S, hS, _, hn => by have := hS.ne; omega
  | n + 1, S, hS, hc, hn => by
    by_cases h1 : S.length = 1
    · obtain ⟨x, rfl⟩ : ∃ x, S = [x] := List.length_eq_one_iff.mp h1
      have hx := hc x (by simp)
      rw [planD_1]
      refine (rp_tup (k := 0) (ws := [6, 6]) ⟨rfl, fun p hp => ?_⟩).mono (by simp) (by simp)
      simp at hp
      rcases hp with rfl | rfl
      · exact rp_str (by decide +kernel) (by decide +kernel)
      · exact rp_str hx.ok (chgLen hx)
    · have h2 : 2 ≤ S.length := by have := hS.ne; omega
      obtain ⟨v, hv, e1, _⟩ := bestV_2 h2 (hP S hS h2)
      have e2 : (bestV P S).2 = v := by rw [e1]; rfl
      have hpl := partsB_len (List.mem_filter.mp hv).2
      have hvl := List.mem_range.mp (List.mem_filter.mp hv).1
      have hsum := ins_out (pAt P v) S
      rw [planD_2 hP hS h2, e2]
      have i1 := plan_rp hP hl n (insP (pAt P v) S) (hS.ins hpl.1) (fun x hx => hc x (insP_sub hx)) (by omega)
      have i2 := plan_rp hP hl n (outP (pAt P v) S) (hS.out hpl.2.1) (fun x hx => hc x (outP_sub hx)) (by omega)
      obtain ⟨m, hm⟩ : ∃ m, S.length = m + 1 := ⟨S.length - 1, by omega⟩
      rw [hm]
      refine (rp_tup (k := m) (ws := [6, 6, 40 * (insP (pAt P v) S).length - 20, 40 * (outP (pAt P v) S).length - 20]) ⟨rfl, fun p hp => ?_⟩).mono (Nat.le_refl _) (by simp; omega)
      simp at hp
      rcases hp with rfl | rfl | rfl | rfl
      · exact rp_str (by decide +kernel) (by decide +kernel)
      · exact rp_nat (by omega)
      · exact i1.mono (by omega) (Nat.le_refl _)
      · exact i2.mono (by omega) (Nat.le_refl _)
end Zl
set_option Elab.async false
set_option linter.all false
set_option maxRecDepth 100000
set_option maxHeartbeats 4000000
namespace Zl
open PySem PySem.Spec L2 PySem.W
open PyProof.Rows hiding St
/-! # the law -/
theorem story_wp {n : Nat} {w : Draw} (h : DrOk n w) (hn : n + 2000 < 1000000) (r : Mu) {K : KE}
    (hK : ∀ (ws : List Str) (line : List Ver) (w' : Draw), ws.length ≤ 8 → 0 < line.length → line.length ≤ 16 → LineOk ws line → DrOk (n + 250) w' → K (.d (.tup [.lst (ws.map D.str), lineD line])) (drw w' ++ r)) :
    Wp (F_law_story [.own 2, .d (.int 8), .d (.int 16)] (drw w ++ r)) K := by
  unfold F_law_story
  rw [w_Body]
  simp [S_law_story, startR]
  refine next_wp h (by omega) (by omega) (by omega) r fun z w1 z0 z1 ok1 => ?_
  simp
  obtain ⟨m, hm⟩ : ∃ m : Nat, 1 + z = (m : Int) := ⟨(1 + z).toNat, by omega⟩
  rw [hm]
  have a1 : m < 20 := by omega
  have a2 : n + 1 + 9 * m + 20 < 1000000 := by omega
  have hh := @words_wp (n + 1) m w1 ok1 a1 a2 r
  generalize F_law_words [.own 2, .d (.int m)] (drw w1 ++ r) = X at hh ⊢
  refine hh ?_
  intro ws w2 hl hc hnd ok2
  simp
  have hh2 := @line_wp (n + 1 + 9 * m) 16 w2 ws ok2 (by omega) (by omega) (by omega) hc (by intro e; rw [e] at hl; simp at hl; omega) (by omega) r
  generalize F_law_line [.own 2, .d (.lst (ws.map D.str)), .d (.int 16)] (drw w2 ++ r) = X2 at hh2 ⊢
  refine hh2 fun line w3 l0 l1 hL ok3 => ?_
  simp
  exact hK ws line w3 (by omega) l0 (by omega) hL (ok3.mono (by omega))
theorem ten18 {μ : Mu} : oPow (.d (.int 10)) (.d (.int 18)) μ = .ok (.d (.int 1000000000000000000), μ) := by
  rw [oPow_i (by omega) (by decide)]
  rfl
def kDisp2 (k : Key) (v : Val) (Q : List Key × List Val → Mu → Prop) : List Key × List Val → Mu → Prop := fun q μ => Q (k :: q.1, v :: q.2) μ
def kDisp1 (k : Key) (r : List (Key × FE)) (ρ : Rho) (Q : List Key × List Val → Mu → Prop) : KE := fun v μ => Wp (dispGo r ρ μ) (kDisp2 k v Q)
@[simp ↓] theorem w_disp0 {ρ : Rho} {μ : Mu} {Q : List Key × List Val → Mu → Prop} : Wp (dispGo [] ρ μ) Q = Q ([], []) μ := (rfl)
@[simp ↓] theorem w_disp1 {k : Key} {f : FE} {r : List (Key × FE)} {ρ : Rho} {μ : Mu} {Q : List Key × List Val → Mu → Prop} : Wp (dispGo ((k, f) :: r) ρ μ) Q = Wp (f ρ μ) (kDisp1 k r ρ Q) := by
  show Wp ((f ρ μ).bind fun p => (dispGo r ρ p.2).bind fun q => .ok ((k :: q.1.1, p.1 :: q.1.2), q.2)) Q = _
  rw [wp_bind]
  congr 1
  funext v μ
  exact wp_bind
@[simp] theorem k_disp1 {k : Key} {r : List (Key × FE)} {ρ : Rho} {μ : Mu} {Q : List Key × List Val → Mu → Prop} {v : Val} : kDisp1 k r ρ Q v μ = Wp (dispGo r ρ μ) (kDisp2 k v Q) := (rfl)
@[simp] theorem k_disp2 {k : Key} {μ : Mu} {Q : List Key × List Val → Mu → Prop} {v : Val} {q : List Key × List Val} : kDisp2 k v Q q μ = Q (k :: q.1, v :: q.2) μ := (rfl)
def kDispL (K : KE) : List Key × List Val → Mu → Prop := fun q μ => K (.own μ.length) (μ ++ [.dK (mergeKs [] [] q.1 q.2).1 (mergeKs [] [] q.1 q.2).2])
@[simp ↓] theorem w_DispL {fs : List (Key × FE)} {ρ : Rho} {μ : Mu} {K : KE} : Wp (fDisp true fs ρ μ) K = Wp (dispGo fs ρ μ) (kDispL K) := wp_bind
@[simp] theorem k_dispL {K : KE} {q : List Key × List Val} {μ : Mu} : kDispL K q μ = K (.own μ.length) (μ ++ [.dK (mergeKs [] [] q.1 q.2).1 (mergeKs [] [] q.1 q.2).2]) := (rfl)
theorem disp4 {a b c d : Val} : mergeKs [] [] [.inr "digits", .inr "great", .inr "lumps", .inr "turn"] [a, b, c, d] = (([.inr "digits", .inr "great", .inr "lumps", .inr "turn"] : List Key), [a, b, c, d]) := by
  simp [mergeKs, putKs, n1, n2, n3, n4, n5, n6, Ne.symm n1, Ne.symm n2, Ne.symm n3, Ne.symm n4, Ne.symm n5, Ne.symm n6]
theorem ivals_map (p : Int → Bool) (v : Int → Int) (P : D → Bool) (V : D → Val) (hP : ∀ i, P (.int i) = p i) (hV : ∀ i, V (.int i) = .d (.int (v i))) (ns : List Int) : ((ns.map D.int).filter P).map V = ivals ((ns.filter p).map v) := by
  induction ns with
  | nil => rfl
  | cons i ns ih =>
    rw [List.map_cons, List.filter_cons, List.filter_cons, hP]
    by_cases h : p i = true
    · rw [if_pos h, if_pos h, List.map_cons, List.map_cons, hV, ih]
      rfl
    · rw [if_neg h, if_neg h, ih]
def absI (i : Int) : Int := if i < 0 then -i else i
theorem begun_ok {ns : List Int} (hl : ns.length ≤ 63) {K : KE} (hK : ∀ w, DrOk 0 w → K (.own 2) (drw w)) : Wp (F_law_begun [.d (.scr ns)] []) K := by
  unfold F_law_begun
  rw [w_BodyK]
  have hf : ∀ j μ, oFdiv (.d (.int j)) (.d (.int 1000000000000000000)) μ = .ok (.d (.int (j / 1000000000000000000)), μ) := fun j μ => oFdiv_i j (by omega) (by omega)
  have hm : ∀ j μ, oMod (.d (.int j)) (.d (.int 1000000000000000000)) μ = .ok (.d (.int (j % 1000000000000000000)), μ) := fun j μ => oMod_i j (by omega)
  have ha : ∀ j μ, oAbs [.d (.int j)] μ = .ok (.d (.int (absI j)), μ) := fun j μ => rfl
  simp [S_law_begun, startR, c_law_begun_1]
  refine k_lcL (fun d => match d with | .int i => decide (1000000000000000000 ≤ absI i) | _ => false) (fun d => match d with | .int i => .d (.int (absI i / 1000000000000000000)) | _ => .d .non) (by simp; omega) (fun d hd => ?_) ?_
  · obtain ⟨i, hi, rfl⟩ := List.mem_map.mp hd
    simp [ha, ten18, hf]
  · rw [ivals_map (fun i => decide (1000000000000000000 ≤ absI i)) (fun i => absI i / 1000000000000000000) _ _ (fun _ => rfl) (fun _ => rfl)]
    generalize hgs : (ns.filter fun i => decide (1000000000000000000 ≤ absI i)).map (fun i => absI i / 1000000000000000000) = gs
    have hgl : gs.length ≤ 63 := by
      have := List.length_filter_le (fun i => decide (1000000000000000000 ≤ absI i)) ns
      rw [← hgs, List.length_map]
      omega
    simp [c_law_begun_2]
    refine k_lcL (fun _ => true) (fun d => match d with | .int i => .d (.int (absI i % 1000000000000000000)) | _ => .d .non) (by simp; omega) (fun d hd => ?_) ?_
    · obtain ⟨i, hi, rfl⟩ := List.mem_map.mp hd
      simp [ha, ten18, hm]
    · rw [ivals_map (fun _ => true) (fun i => absI i % 1000000000000000000) _ _ (fun _ => rfl) (fun _ => rfl)]
      simp [disp4]
      exact hK ⟨gs, ns.map fun i => absI i % 1000000000000000000, 0, 0⟩ ⟨hgl, Int.le_refl _, Int.le_refl _⟩
end Zl
set_option Elab.async false
set_option linter.all false
set_option maxRecDepth 100000
set_option maxHeartbeats 4000000
namespace Zl
open PySem PySem.Spec L2 PySem.W
open PyProof.Rows hiding St
/-! # lengths, ranges (shared) -/
def lenK (q : Val × Mu) : R (Val × Mu) := match q.1 with
  | .d (.int i) => if 0 ≤ i ∧ i < 1000000 then .ok (.d (.int i), q.2) else .bad
  | _ => .bad
theorem lenK_ok {i : Int} {μ : Mu} (h : 0 ≤ i ∧ i < 1000000) : lenK (.d (.int i), μ) = .ok (.d (.int i), μ) := if_pos h
theorem oLenO_eq {Δ : MT} {v : Val} {μ : Mu} {c : Str} {ns : List Str} {vs : List Val} {Fn : FF} (e : insV μ v = some (c, ns, vs)) (hd : Δ c = some (1, Fn)) : oLenO Δ [v] μ = (Fn [v] μ).noex.bind lenK := by
  show (match insV μ v with
    | some (k, _, _) => (match Δ k with
      | some (n, Fn) => if n = 1 then (Fn [v] μ).noex.bind lenK else .bad
      | none => .bad)
    | none => oLen [v] μ) = _
  rw [e]
  show (match Δ c with
      | some (n, Fn) => if n = 1 then (Fn [v] μ).noex.bind lenK else .bad
      | none => .bad) = _
  rw [hd]
  exact if_pos rfl
theorem oLenO_nat {Δ : MT} {v : Val} {μ : Mu} {c : Str} {ns : List Str} {vs : List Val} {Fn : FF} {n : Nat} (e : insV μ v = some (c, ns, vs)) (hd : Δ c = some (1, Fn)) (h : Fn [v] μ = .ok (.d (.int n), μ)) (hn : n < 1000000) : oLenO Δ [v] μ = .ok (.d (.int n), μ) := by
  have hb : 0 ≤ (n : Int) ∧ (n : Int) < 1000000 := by omega
  rw [oLenO_eq e hd, h, R.noex_ok, R.bind_ok]
  exact lenK_ok hb
theorem ki_rngD {J : KI} {j : Nat} {μ : Mu} (h : j < 1000000) : kiRng1 J [.d (natD j)] μ = J ((List.range j).map natD) μ := by
  rw [← rngD_map]
  rw [show Val.d (natD j) = .d (.int (j : Int)) from rfl, ki_rngN, if_pos (by omega)]
section
variable {μ : Mu} {line : List Ver}
theorem lenO_hist (hl : line.length ≤ 100) : oLenO Δ___len__ [.d (histD line)] μ = .ok (.d (natD line.length), μ) := oLenO_nat ins_hist rfl hlen_ok (by omega)
end
end Zl
set_option Elab.async false
set_option linter.all false
set_option maxRecDepth 100000
set_option maxHeartbeats 4000000
namespace Zl
open PySem PySem.Spec L2 PySem.W
open PyProof.Rows hiding St
/-! # History(line), in a law -/
theorem hist_tree {line : List Ver} {n : Nat} {μ' : Mu} (h2 : μ'[n]? = some (.ins "History" hN4 [.own (n + 1), .own (n + 2), .d (.tup (line.map verD)), .d (.lst ((packs line).map packD))]))
    (h3 : μ'[n + 1]? = some (.lst (vD ((named line).map D.str)))) (h4 : μ'[n + 2]? = some (.lst (vD ((bhs line).map natsD)))) : treeV 40 n μ' (.own n) = some (histD line) := by
  have t1 : treeV 39 n μ' (.own (n + 1)) = some (.lst ((named line).map D.str)) := by
    rw [show (39 : Nat) = 37 + 1 + 1 from rfl, treeV, if_neg (by omega)]
    simp only [h3, vD, mapM_d, Option.map]
  have t2 : treeV 39 n μ' (.own (n + 2)) = some (.lst ((bhs line).map natsD)) := by
    rw [show (39 : Nat) = 37 + 1 + 1 from rfl, treeV, if_neg (by omega)]
    simp only [h4, vD, mapM_d, Option.map]
  have t3 : ∀ x, treeV 39 n μ' (.d x) = some x := fun x => rfl
  rw [show (40 : Nat) = 39 + 1 from rfl, treeV, if_neg (by omega)]
  simp only [h2, List.mapM_cons, List.mapM_nil, t1, t2, t3, Option.bind_eq_bind, Option.bind_some, Option.pure_def, Option.map]
  rfl
theorem hist_mk {ws : List Str} {line : List Ver} (h : LineOk ws line) (hl : line.length ≤ 16) (hw : ws.length ≤ 8) (μ : Mu) (K : KE) : kMake "History" 2 F_History_init [] false K [.d (lineD line)] μ = K (.d (histD line)) μ := by
  have hi := init_wp h hl hw μ (K := fun v μ' => v = .d .non ∧ μ'.take μ.length = μ ∧ treeV 40 μ.length μ' (.own μ.length) = some (histD line)) fun μ' h1 h2 h3 h4 => ⟨rfl, h1, hist_tree h2 h3 h4⟩
  generalize hX : F_History_init [.own μ.length, .d (lineD line)] (μ ++ [.ins "History" [] []]) = X at hi
  obtain ⟨v, μ', e, rfl, h1, ht⟩ := hi.elim
  rw [e] at hX
  rw [k_Make, if_pos (by simp)]
  have hX' : F_History_init (.own μ.length :: ([.d (lineD line)] ++ ([] : List D).map Val.d)) (μ ++ [.ins "History" [] []]) = .ok (.d .non, μ') := hX
  rw [hX', wp_ok, k_Mk_f ht, h1]
theorem eq_strs {S : List Str} (hS : ∀ x ∈ S, Chg x) (n : Bool) (μ : Mu) : oEq n (.d (.lst (S.map D.str))) (.d (.lst [])) μ = .ok (.d (.bl (if n then !S.isEmpty else S.isEmpty)), μ) := by
  rw [oEq_nilL (k := 0) n (okd_strs fun w hw => (hS w hw).ok) (by omega)]
  cases S <;> rfl
end Zl
set_option Elab.async false
set_option linter.all false
set_option maxRecDepth 100000
set_option maxHeartbeats 4000000
namespace Zl
open PySem PySem.Spec L2 PySem.W
open PyProof.Rows hiding St
/-! # halving, as mathematics -/
def grt (P : List (List Str)) (S : List Str) (v : Nat) : Nat := max (insP (pAt P v) S).length (outP (pAt P v) S).length
theorem argBest_first {g : Nat → Nat} {bt : Nat → Nat → Bool} {N : Nat} (hbt : ∀ i j, j < i → i ≤ N → bt i j = decide (g i < g j)) : ∀ n i, n ≤ N → i ≤ n → g (argBest bt n) ≤ g i ∧ (i < argBest bt n → g (argBest bt n) < g i)
  | 0, i, _, h => by
    have : i = 0 := by omega
    subst this
    exact ⟨Nat.le_refl _, fun h => absurd h (Nat.lt_irrefl _)⟩
  | n + 1, i, hN, h => by
    have ih := fun i h => argBest_first hbt n i (by omega) h
    have hle := argBest_le bt n
    have e := hbt (n + 1) (argBest bt n) (by omega) hN
    unfold argBest
    rw [e]
    by_cases hg : g (n + 1) < g (argBest bt n)
    · rw [decide_eq_true hg, if_pos rfl]
      by_cases hi : i = n + 1
      · subst hi; exact ⟨Nat.le_refl _, fun h => absurd h (Nat.lt_irrefl _)⟩
      · have := (ih i (by omega)).1
        exact ⟨by omega, fun _ => by omega⟩
    · rw [decide_eq_false hg, if_neg Bool.false_ne_true]
      by_cases hi : i = n + 1
      · subst hi; exact ⟨by omega, fun _ => by omega⟩
      · exact ih i (by omega)
/-- the halving test -/
def hvV (P : List (List Str)) (S : List Str) : Nat := argBest (fun i j => decide (grt P S i < grt P S j)) (P.length - 1)
theorem hvV_first (P : List (List Str)) (S : List Str) {i : Nat} (h : i < P.length) : grt P S (hvV P S) ≤ grt P S i ∧ (i < hvV P S → grt P S (hvV P S) < grt P S i) := argBest_first (g := grt P S) (N := P.length - 1) (fun _ _ _ _ => rfl) _ i (Nat.le_refl _) (by omega)
theorem hvV_lt {P : List (List Str)} (S : List Str) (h : 0 < P.length) : hvV P S < P.length := by
  have := argBest_le (fun i j => decide (grt P S i < grt P S j)) (P.length - 1)
  unfold hvV
  omega
theorem hvV_one {P : List (List Str)} {S : List Str} {v : Nat} (h : 0 < P.length) (hv : v < P.length) (h1 : ∀ i < P.length, grt P S v ≤ grt P S i ∧ (i < v → grt P S v < grt P S i)) : v = hvV P S := by
  have a := hvV_first P S hv
  have b := h1 _ (hvV_lt S h)
  omega
theorem hv_parts {P : List (List Str)} (hP : Parted P) {S : List Str} (hS : Sus P S) (h2 : 2 ≤ S.length) : hvV P S < P.length ∧ partsB (pAt P (hvV P S)) S = true := by
  obtain ⟨v, hv⟩ := List.exists_mem_of_ne_nil _ (hP S hS h2)
  have hm := List.mem_filter.mp hv
  have hvl := List.mem_range.mp hm.1
  have hp := partsB_len hm.2
  have hh := (hvV_first P S hvl).1
  refine ⟨hvV_lt S (by omega), ?_⟩
  have hs := ins_out (pAt P (hvV P S)) S
  have hg : grt P S v < S.length := by unfold grt; omega
  unfold grt at hh hg
  have h3 : 1 ≤ (insP (pAt P (hvV P S)) S).length := by omega
  have h4 : 1 ≤ (outP (pAt P (hvV P S)) S).length := by omega
  unfold partsB
  rw [Bool.and_eq_true, Bool.not_eq_true', Bool.not_eq_true']
  exact ⟨by
    cases e : insP (pAt P (hvV P S)) S with
    | nil => rw [e] at h3; simp at h3
    | cons _ _ => rfl, by
    cases e : outP (pAt P (hvV P S)) S with
    | nil => rw [e] at h4; simp at h4
    | cons _ _ => rfl⟩
def halfF (P : List (List Str)) : Nat → List Str → D
  | 0, _ => .non
  | n + 1, S => if S.length ≤ 1 then .tup [.str "found", .str (S.headD "")] else
    .tup [.str "test", natD (hvV P S), halfF P n (insP (pAt P (hvV P S)) S), halfF P n (outP (pAt P (hvV P S)) S)]
theorem halfF_fuel {P : List (List Str)} (hP : Parted P) : ∀ {n m : Nat} {S : List Str}, Sus P S → S.length ≤ n → S.length ≤ m → halfF P n S = halfF P m S
  | 0, _, S, h1, h2, _ => by have := h1.ne; omega
  | _ + 1, 0, S, h1, _, h3 => by have := h1.ne; omega
  | n + 1, m + 1, S, h1, h2, h3 => by
    unfold halfF
    by_cases h : S.length ≤ 1
    · rw [if_pos h, if_pos h]
    · rw [if_neg h, if_neg h]
      have hp := partsB_len (hv_parts hP h1 (by omega)).2
      rw [halfF_fuel hP (n := n) (m := m) (h1.ins hp.1) (by omega) (by omega), halfF_fuel hP (n := n) (m := m) (h1.out hp.2.1) (by omega) (by omega)]
def halfD (P : List (List Str)) (S : List Str) : D := halfF P S.length S
theorem halfD_1 {P : List (List Str)} {x : Str} : halfD P [x] = .tup [.str "found", .str x] := rfl
theorem halfD_2 {P : List (List Str)} (hP : Parted P) {S : List Str} (h1 : Sus P S) (h : 2 ≤ S.length) :
    halfD P S = .tup [.str "test", natD (hvV P S), halfD P (insP (pAt P (hvV P S)) S), halfD P (outP (pAt P (hvV P S)) S)] := by
  obtain ⟨n, hn⟩ : ∃ n, S.length = n + 1 := ⟨S.length - 1, by omega⟩
  have hp := partsB_len (hv_parts hP h1 h).2
  unfold halfD
  rw [hn]
  conv => lhs; unfold halfF
  rw [if_neg (by omega)]
  rw [halfF_fuel hP (n := n) (m := (insP (pAt P (hvV P S)) S).length) (h1.ins hp.1) (by omega) (by omega), halfF_fuel hP (n := n) (m := (outP (pAt P (hvV P S)) S).length) (h1.out hp.2.1) (by omega) (by omega)]
theorem half_rp {P : List (List Str)} (hP : Parted P) (hl : P.length ≤ 16) : ∀ (n : Nat) (S : List Str), Sus P S → (∀ x ∈ S, Chg x) → S.length ≤ n → Rp S.length (40 * S.length - 20) (halfD P S)
  | 0, S, hS, _, hn => by have := hS.ne; omega
  | n + 1, S, hS, hc, hn => by
    by_cases h1 : S.length = 1
    · obtain ⟨x, rfl⟩ : ∃ x, S = [x] := List.length_eq_one_iff.mp h1
      have hx := hc x (by simp)
      rw [halfD_1]
      refine (rp_tup (k := 0) (ws := [6, 6]) ⟨rfl, fun p hp => ?_⟩).mono (by simp) (by simp)
      simp at hp
      rcases hp with rfl | rfl
      · exact rp_str (by decide +kernel) (by decide +kernel)
      · exact rp_str hx.ok (chgLen hx)
    · have h2 : 2 ≤ S.length := by have := hS.ne; omega
      obtain ⟨hvl, hpt⟩ := hv_parts hP hS h2
      have hpl := partsB_len hpt
      have hsum := ins_out (pAt P (hvV P S)) S
      rw [halfD_2 hP hS h2]
      generalize hvV P S = v at *
      have i1 := half_rp hP hl n (insP (pAt P v) S) (hS.ins hpl.1) (fun x hx => hc x (insP_sub hx)) (by omega)
      have i2 := half_rp hP hl n (outP (pAt P v) S) (hS.out hpl.2.1) (fun x hx => hc x (outP_sub hx)) (by omega)
      obtain ⟨m, hm⟩ : ∃ m, S.length = m + 1 := ⟨S.length - 1, by omega⟩
      rw [hm]
      refine (rp_tup (k := m) (ws := [6, 6, 40 * (insP (pAt P v) S).length - 20, 40 * (outP (pAt P v) S).length - 20]) ⟨rfl, fun p hp => ?_⟩).mono (Nat.le_refl _) (by simp; omega)
      simp at hp
      rcases hp with rfl | rfl | rfl | rfl
      · exact rp_str (by decide +kernel) (by decide +kernel)
      · exact rp_nat (by omega)
      · exact i1.mono (by omega) (Nat.le_refl _)
      · exact i2.mono (by omega) (Nat.le_refl _)
/-! min, max of numbers -/
theorem oMax_nats {μ : Mu} (a : Nat) (ns : List Nat) : oMax [.d (.lst ((a :: ns).map natD))] μ = .ok (.d (.int (maxI ((a :: ns).map fun (i : Nat) => (i : Int)))), μ) := by
  have e : intsD ((a :: ns).map natD) = some ((a :: ns).map fun (i : Nat) => (i : Int)) := by
    generalize a :: ns = l
    induction l with
    | nil => rfl
    | cons x l ih => rw [List.map_cons, natD, intsD, ih]; rfl
  show (match (some ((a :: ns).map natD)).bind intsD with
    | some (n :: ns) => R.ok (Val.d (D.int (maxI (n :: ns))), μ)
    | _ => .bad) = _
  rw [Option.bind_some, e]
  rfl
theorem oMin_nats {μ : Mu} (a : Nat) (ns : List Nat) : oMin [.d (.lst ((a :: ns).map natD))] μ = .ok (.d (.int (minI ((a :: ns).map fun (i : Nat) => (i : Int)))), μ) := by
  have e : intsD ((a :: ns).map natD) = some ((a :: ns).map fun (i : Nat) => (i : Int)) := by
    generalize a :: ns = l
    induction l with
    | nil => rfl
    | cons x l ih => rw [List.map_cons, natD, intsD, ih]; rfl
  show (match (some ((a :: ns).map natD)).bind intsD with
    | some (n :: ns) => R.ok (Val.d (D.int (minI (n :: ns))), μ)
    | _ => .bad) = _
  rw [Option.bind_some, e]
  rfl
end Zl
set_option Elab.async false
set_option linter.all false
set_option maxRecDepth 100000
set_option maxHeartbeats 4000000
namespace Zl
open PySem PySem.Spec L2 PySem.W
open PyProof.Rows hiding St
/-! # halving: the program's defs -/
def kMinK (kb : FE) (N : Nat) (js : List Nat) (ρ : Rho) (K : KE) : KI := fun ds μ => Wp (minKey kb N js ρ μ ds) K
@[simp ↓] theorem w_MinK {fi : FI} {kb : FE} {N : Nat} {js : List Nat} {ρ : Rho} {μ : Mu} {K : KE} : Wp (fMinK fi kb N js ρ μ) K = Wp (fi ρ μ) (kMinK kb N js ρ K) := by
  unfold fMinK
  rw [wp_bind]
  rfl
theorem k_MinK {kb : FE} {N : Nat} {js : List Nat} {ρ : Rho} {K : KE} {ds ks : List D} {d : D} {μ : Mu} (h : KeysOf kb N js ρ μ ds ks) (ok : okMin ks = true) (hd : leastK ds ks = some d) (hK : K (.d d) μ) : kMinK kb N js ρ K ds μ := by
  unfold kMinK
  rw [minKey_of h ok hd, wp_ok]
  exact hK
def keyG (g : Nat → Nat) (v : Nat) : D := .tup [natD (g v), natD v]
theorem py_keyG (g : Nat → Nat) (v : Nat) : D.py (keyG g v) = some (.tuple [.int (g v), .int v]) := rfl
theorem pyOf_keyG (g : Nat → Nat) (v : Nat) : pyOf (keyG g v) = .tuple [.int (g v), .int v] := rfl
theorem okMin_keyG (g : Nat → Nat) (n : Nat) : okMin ((List.range n).map (keyG g)) = true := by
  unfold okMin
  rw [Bool.and_eq_true, Bool.and_eq_true]
  refine ⟨⟨?_, ?_⟩, ?_⟩
  · rw [List.all_eq_true]
    intro d hd
    obtain ⟨v, _, rfl⟩ := List.mem_map.mp hd
    rfl
  · rw [List.all_eq_true]
    intro d hd
    rw [List.all_eq_true]
    intro d' hd'
    obtain ⟨v, _, rfl⟩ := List.mem_map.mp hd
    obtain ⟨v', _, rfl⟩ := List.mem_map.mp hd'
    rw [pyOf_keyG, pyOf_keyG]
    simp [alike, alikeAll]
  · rw [decide_eq_true_eq, List.map_map]
    have : ∀ l : List Nat, PyData.depthAll (l.map (pyOf ∘ keyG g)) ≤ 60 := by
      intro l
      induction l with
      | nil => simp [PyData.depthAll]
      | cons v l ih =>
        rw [List.map_cons]
        show PyData.depthAll (pyOf (keyG g v) :: _) ≤ 60
        rw [pyOf_keyG]
        simp only [PyData.depthAll, PyData.depth] at ih ⊢
        omega
    exact this _
theorem ltK_keyG (g : Nat → Nat) (n : Nat) {i j : Nat} (hi : i < n) (hj : j < n) : ltK ((List.range n).map (keyG g)) i j = decide (g i < g j ∨ (g i = g j ∧ i < j)) := by
  unfold ltK
  have e : ∀ k, k < n → ((List.range n).map (keyG g)).getD k D.non = keyG g k := fun k hk => by
    rw [List.getD_eq_getElem?_getD, List.getElem?_map, List.getElem?_range hk]
    rfl
  rw [e i hi, e j hj, pyOf_keyG, pyOf_keyG, dataLt_ii]
  have e1 : ((g i : Int) < (g j : Int) ∨ ((g i : Int) = (g j : Int) ∧ (i : Int) < (j : Int))) ↔ (g i < g j ∨ (g i = g j ∧ i < j)) := by omega
  exact decide_eq_decide.mpr e1
section
variable {μ : Mu} {line : List Ver} {ws : List Str}
theorem greater_ok (h : LineOk ws line) {S : List Str} (hSc : ∀ x ∈ S, Chg x) (hSl : S.length ≤ 100) {v : Nat} (hv : v < line.length) : F_greater_part [.d (histD line), .d (packD S), .d (natD v)] μ = .ok (.d (natD (grt (packs line) S v)), μ) := by
  have hs := ins_out (pAt (packs line) v) S
  apply wp_eq
  unfold F_greater_part
  rw [w_Body]
  simp [S_greater_part, startR, c_greater_part_1, parted_ok h hSc hSl hv]
  rw [show [packD (insP (pAt (packs line) v) S), packD (outP (pAt (packs line) v) S)] = [insP (pAt (packs line) v) S, outP (pAt (packs line) v) S].map packD from rfl]
  refine k_lcA packD (fun p => natD p.length) (by simp) (fun p hp => ?_) ?_
  · have hl : lenD (packD p) = some p.length := by simp [packD]
    simp [oLen, hl, natD]
  · have := oMax_nats (μ := μ) (insP (pAt (packs line) v) S).length [(outP (pAt (packs line) v) S).length]
    simp at this ⊢
    rw [this]
    simp [natD, grt, maxI]
    omega
theorem halving_at_ok (h : LineOk ws line) (hl : line.length ≤ 16) (h0 : 0 < line.length) {S : List Str} (hSc : ∀ x ∈ S, Chg x) (hSl : S.length ≤ 100) : F_halving_at [.d (histD line), .d (packD S)] μ = .ok (.d (natD (hvV (packs line) S)), μ) := by
  have hl0 := fun μ => lenO_hist (μ := μ) (line := line) (by omega)
  have hpl := packs_len line
  apply wp_eq
  unfold F_halving_at
  rw [w_Body]
  simp [S_halving_at, startR, hl0]
  rw [ki_rngD (by omega)]
  have hb : argBest (ltK ((List.range line.length).map (keyG (grt (packs line) S)))) (line.length - 1) = hvV (packs line) S := by
    have hle := argBest_le (ltK ((List.range line.length).map (keyG (grt (packs line) S)))) (line.length - 1)
    refine hvV_one (by omega) (by omega) fun i hi => ?_
    refine argBest_first (g := grt (packs line) S) (N := line.length - 1) (fun i j hij hn => ?_) (line.length - 1) i (Nat.le_refl _) (by omega)
    rw [ltK_keyG _ _ (by omega) (by omega)]
    congr 1
    apply propext
    omega
  refine k_MinK (ks := (List.range line.length).map (keyG (grt (packs line) S))) (d := natD (hvV (packs line) S)) ⟨by simp, fun i d k hd hk => ?_⟩ (okMin_keyG _ _) ?_ ?_
  · have hi : i < line.length := by
      have := (List.getElem?_eq_some_iff.mp hd).1
      simpa using this
    rw [List.getElem?_map, List.getElem?_range hi] at hd hk
    cases hd
    cases hk
    apply wp_eq
    simp [l_halving_at_1, lamR, greater_ok h hSc hSl hi, keyG]
  · unfold leastK
    rw [List.length_map, List.length_range, hb, List.getElem?_map, List.getElem?_range (by rw [← hpl]; exact hvV_lt S (by omega))]
    rfl
  · simp
end
end Zl
set_option Elab.async false
set_option linter.all false
set_option maxRecDepth 100000
set_option maxHeartbeats 4000000
namespace Zl
open PySem PySem.Spec L2 PySem.W
open PyProof.Rows hiding St
section
variable {μ : Mu} {line : List Ver} {ws : List Str}
theorem sus_sort {S : List Str} (hS : Sus (packs line) S) : Sus (packs line) (sortS S) := by
  have hp := sortS_perm S
  obtain ⟨u, hu, hx⟩ := hS.hold
  exact ⟨hp.nodup_iff.mpr hS.nd, by rw [hp.length_eq]; exact hS.ne, u, hu, fun x h => hx x (hp.mem_iff.mp h)⟩
theorem halved_ok (h : LineOk ws line) (hl : line.length ≤ 16) (hw : ws.length ≤ 8) : ∀ (n : Nat) (S : List Str) (μ : Mu), Sus (packs line) S → S.length ≤ n → R_halved n [.d (histD line), .d (packD S)] μ = .ok (.d (halfD (packs line) S), μ)
  | 0, S, μ, hS, hn => by have := hS.ne; omega
  | n + 1, S, μ, hS, hn => by
    have hP : Parted (packs line) := parted_of h.bel
    have hSc := fun x hx => sus_chg h hS (x := x) hx
    have hSl := sus_len h hS
    have hlen : lenD (packD S) = some S.length := by simp [packD]
    have hpl := packs_len line
    apply wp_eq
    show Wp (fBody 5 (S_halved (R_halved n)) _ μ) _
    rw [w_Body]
    by_cases h1 : S.length = 1
    · obtain ⟨x, hx⟩ : ∃ x, S = [x] := List.length_eq_one_iff.mp h1
      have hix : oIx (.d (packD S)) (.d (.int 0)) μ = .ok (.d (.str x), μ) := by rw [hx]; exact ix0
      simp [S_halved, startR, i_halved_1, hlen, h1, hix]
      rw [hx, halfD_1]
    · have h1i : ¬ ((S.length : Int) = 1) := by omega
      have h2 : 2 ≤ S.length := by have := hS.ne; omega
      obtain ⟨hv, hpt⟩ := hv_parts hP hS h2
      have hpp := partsB_len hpt
      rw [hpl] at hv
      have hp := fun μ => parted_ok (μ := μ) h hSc (by omega) hv
      have ha := fun μ => halving_at_ok (μ := μ) h hl (by omega) hSc (by omega)
      have i1 := fun μ => halved_ok h hl hw n (insP (pAt (packs line) (hvV (packs line) S)) S) μ (hS.ins hpp.1) (by omega)
      have i2 := fun μ => halved_ok h hl hw n (outP (pAt (packs line) (hvV (packs line) S)) S) μ (hS.out hpp.2.1) (by omega)
      simp [S_halved, startR, i_halved_1, hlen, h1i, ha, hp, w_gTup, i1, i2]
      rw [halfD_2 hP hS h2]
theorem halving_test_ok (h : LineOk ws line) (hl : line.length ≤ 16) (hw : ws.length ≤ 8) {S : List Str} (hS : Sus (packs line) S) (t : Bool) : F_halving_test [.d (histD line), .d (rowD t S)] μ = .ok (.d (if S.length = 1 then .non else natD (hvV (packs line) (sortS S))), μ) := by
  have hSs := sus_sort hS
  have hSc := fun x hx => sus_chg h hSs (x := x) hx
  have hSl := sus_len h hSs
  have hsl := (sortS_perm S).length_eq
  have hlen : lenD (packD (sortS S)) = some S.length := by simp [packD, hsl]
  have h0 : 0 < line.length := by
    obtain ⟨u, hu, _⟩ := hS.hold
    rw [packs_len] at hu
    omega
  have ha := fun μ => halving_at_ok (μ := μ) h hl h0 hSc (by omega)
  apply wp_eq
  unfold F_halving_test
  rw [w_Body]
  by_cases h1 : S.length = 1
  · simp [S_halving_test, startR, needed_ok h hl hw hS, hlen, h1]
  · have h1i : ¬ ((S.length : Int) = 1) := by omega
    simp [S_halving_test, startR, needed_ok h hl hw hS, hlen, h1, h1i, ha]
theorem halving_plan_ok (h : LineOk ws line) (hl : line.length ≤ 16) (hw : ws.length ≤ 8) {S : List Str} (hS : Sus (packs line) S) (t : Bool) : F_halving_plan [.d (histD line), .d (rowD t S)] μ = .ok (.d (halfD (packs line) (sortS S)), μ) := by
  have hSs := sus_sort hS
  have hSl := sus_len h hSs
  have hh := fun μ => halved_ok h hl hw 9 (sortS S) μ hSs (by omega)
  have hF : F_halved = R_halved 9 := rfl
  apply wp_eq
  unfold F_halving_plan
  rw [w_Body]
  rw [← hF] at hh
  simp [S_halving_plan, startR, needed_ok h hl hw hS, hh]
/-! the law's own -/
theorem lgreater_ok {C S : List Str} (hC : ∀ x ∈ C, Chg x) (hSc : ∀ x ∈ S, Chg x) (hSl : S.length ≤ 100) : F_law_greater [.d (packD C), .d (packD S)] μ = .ok (.d (natD (max (insP C S).length (outP C S).length)), μ) := by
  have hs := ins_out C S
  apply wp_eq
  unfold F_law_greater
  rw [w_Body]
  simp [S_law_greater, startR, c_law_greater_1, cut_ok hC hSc hSl]
  rw [show [packD (insP C S), packD (outP C S)] = [insP C S, outP C S].map packD from rfl]
  refine k_lcA packD (fun p => natD p.length) (by simp) (fun p hp => ?_) ?_
  · have hl : lenD (packD p) = some p.length := by simp [packD]
    simp [oLen, hl, natD]
  · have := oMax_nats (μ := μ) (insP C S).length [(outP C S).length]
    simp at this ⊢
    rw [this]
    simp [natD, maxI]
    omega
theorem minI_nats {ns : List Nat} {m : Nat} (hm : m ∈ ns) (h : ∀ x ∈ ns, m ≤ x) : minI (ns.map fun (i : Nat) => (i : Int)) = (m : Int) := by
  have h1 := minI_le (ns := ns.map fun (i : Nat) => (i : Int)) (List.mem_map_of_mem hm)
  have h2 := minI_mem (ns := ns.map fun (i : Nat) => (i : Int)) (by intro e; rw [List.map_eq_nil_iff] at e; rw [e] at hm; cases hm)
  obtain ⟨x, hx, e⟩ := List.mem_map.mp h2
  have := h x hx
  omega
theorem enumD_packs (P : List (List Str)) : enumD 0 (P.map packD) = (List.range P.length).map fun i => D.tup [natD i, packD (pAt P i)] := by
  refine List.ext_getElem? fun i => ?_
  rw [enumD_get, List.getElem?_map]
  by_cases hi : i < P.length
  · rw [List.getElem?_map, List.getElem?_range hi, List.getElem?_eq_getElem hi]
    have e : pAt P i = P[i] := by simp [pAt, hi]
    rw [show (0 + i) = i by omega]
    simp only [Option.map_some, natD, e]
  · rw [List.getElem?_eq_none (by omega), List.getElem?_eq_none (by simpa using hi)]
    rfl
theorem filter_first {n v : Nat} {p : Nat → Bool} (hv : v < n) (h1 : p v = true) (h2 : ∀ i < v, p i = false) : ∃ r, (List.range n).filter p = v :: r := by
  have e : List.range n = List.range v ++ (v :: (List.range (n - v - 1)).map (v + 1 + ·)) := by
    refine List.ext_getElem? fun i => ?_
    by_cases h : i < v
    · rw [List.getElem?_append_left (by simpa using h), List.getElem?_range h, List.getElem?_range (by omega)]
    · rw [List.getElem?_append_right (by simpa using h), List.length_range]
      by_cases h3 : i = v
      · subst h3; rw [List.getElem?_range hv]; simp
      · obtain ⟨k, hk⟩ : ∃ k, i - v = k + 1 := ⟨i - v - 1, by omega⟩
        rw [hk, List.getElem?_cons_succ, List.getElem?_map]
        by_cases h4 : i < n
        · rw [List.getElem?_range h4, List.getElem?_range (by omega)]
          simp; omega
        · rw [List.getElem?_eq_none (by simpa using h4), List.getElem?_eq_none (by simp; omega)]
          rfl
  rw [e, List.filter_append, List.filter_cons_of_pos (by simpa using h1)]
  have : (List.range v).filter p = [] := by
    rw [List.filter_eq_nil_iff]
    intro i hi
    rw [h2 i (List.mem_range.mp hi)]
    simp
  rw [this]
  exact ⟨_, rfl⟩
def lhv (P : List (List Str)) (S : List Str) : D := .tup [if S.length = 1 then .non else natD (hvV P S), halfD P S]
theorem lhalved_ok (h : LineOk ws line) (hl : line.length ≤ 16) (hw : ws.length ≤ 8) : ∀ (n : Nat) (S : List Str) (μ : Mu), Sus (packs line) S → S.length ≤ n → R_law_halved n [.d (.lst ((packs line).map packD)), .d (packD S)] μ = .ok (.d (lhv (packs line) S), μ)
  | 0, S, μ, hS, hn => by have := hS.ne; omega
  | n + 1, S, μ, hS, hn => by
    have hP : Parted (packs line) := parted_of h.bel
    have hSc := fun x hx => sus_chg h hS (x := x) hx
    have hSl := sus_len h hS
    have hlen : lenD (packD S) = some S.length := by simp [packD]
    have hpl := packs_len line
    apply wp_eq
    show Wp (fBody 8 (S_law_halved (R_law_halved n)) _ μ) _
    rw [w_Body]
    by_cases h1 : S.length = 1
    · obtain ⟨x, hx⟩ : ∃ x, S = [x] := List.length_eq_one_iff.mp h1
      have hix : oIx (.d (packD S)) (.d (.int 0)) μ = .ok (.d (.str x), μ) := by rw [hx]; exact ix0
      simp [S_law_halved, startR, i_law_halved_1, hlen, h1, hix]
      rw [hx]
      rfl
    · have h1i : ¬ ((S.length : Int) = 1) := by omega
      have h2 : 2 ≤ S.length := by have := hS.ne; omega
      obtain ⟨hv, hpt⟩ := hv_parts hP hS h2
      have hpp := partsB_len hpt
      have hfirst := fun i hi => hvV_first (packs line) S (i := i) hi
      have hpc := fun (i : Nat) (hi : i < line.length) => fun y hy => pAt_chg h hi (x := y) hy
      have hg : ∀ i, i < line.length → ∀ μ, F_law_greater [.d (packD (pAt (packs line) i)), .d (packD S)] μ = .ok (.d (natD (grt (packs line) S i)), μ) := fun i hi μ => lgreater_ok (hpc i hi) hSc (by omega)
      simp [S_law_halved, startR, i_law_halved_1, hlen, h1i, c_law_halved_2]
      have hmap : (packs line).map packD = (List.range line.length).map fun i => packD (pAt (packs line) i) := by
        refine List.ext_getElem? fun i => ?_
        by_cases hi : i < line.length
        · rw [List.getElem?_map, List.getElem?_map, List.getElem?_range hi, List.getElem?_eq_getElem (by omega)]
          simp [pAt, hi, hpl]
        · rw [List.getElem?_eq_none (by simp [hpl]; omega), List.getElem?_eq_none (by simp; omega)]
      rw [hmap]
      refine k_lcA (fun i => packD (pAt (packs line) i)) (fun i => natD (grt (packs line) S i)) (by simp; omega) (fun i hi => ?_) ?_
      · simp [hg i (List.mem_range.mp hi)]
      · rw [← hmap]
        have hmin : oMin [.d (.lst ((List.range line.length).map fun i => natD (grt (packs line) S i)))] μ = .ok (.d (natD (grt (packs line) S (hvV (packs line) S))), μ) := by
          have e : ((List.range line.length).map fun i => natD (grt (packs line) S i)) = ((List.range line.length).map (grt (packs line) S)).map natD := by rw [List.map_map]; rfl
          have hm := minI_nats (ns := (List.range line.length).map (grt (packs line) S)) (m := grt (packs line) S (hvV (packs line) S)) (List.mem_map_of_mem (List.mem_range.mpr (by omega))) (fun x hx => by
            obtain ⟨i, hi, rfl⟩ := List.mem_map.mp hx
            exact (hfirst i (by have := List.mem_range.mp hi; omega)).1)
          rw [e]
          cases hl2 : (List.range line.length).map (grt (packs line) S) with
          | nil =>
            have hlen2 : ((List.range line.length).map (grt (packs line) S)).length = line.length := by simp
            rw [hl2, List.length_nil] at hlen2
            omega
          | cons a r =>
            rw [oMin_nats, ← hl2, hm]
            rfl
        simp [hmin, c_law_halved_3]
        rw [enumD_packs, hpl]
        refine k_lcF (fun i => D.tup [natD i, packD (pAt (packs line) i)]) (fun i => decide (grt (packs line) S i = grt (packs line) S (hvV (packs line) S))) natD (by simp; omega) (fun i hi => ?_) ?_
        · simp [w_gTup, hg i (List.mem_range.mp hi), natD]
          omega
        · obtain ⟨r, hr⟩ := filter_first (n := line.length) (v := hvV (packs line) S) (p := fun i => decide (grt (packs line) S i = grt (packs line) S (hvV (packs line) S))) (by omega) (by simp) (fun i hi => by
            have := (hfirst i (by omega)).2 hi
            simp; omega)
          rw [hr]
          have i1 := fun μ => lhalved_ok h hl hw n (insP (pAt (packs line) (hvV (packs line) S)) S) μ (hS.ins hpp.1) (by omega)
          have i2 := fun μ => lhalved_ok h hl hw n (outP (pAt (packs line) (hvV (packs line) S)) S) μ (hS.out hpp.2.1) (by omega)
          have hc := fun μ => cut_ok (μ := μ) (hpc (hvV (packs line) S) (by omega)) hSc (by omega)
          have hix0 : ∀ μ, oIx (.d (.lst (natD (hvV (packs line) S) :: r.map natD))) (.d (.int 0)) μ = .ok (.d (natD (hvV (packs line) S)), μ) := fun μ => ix0
          have hixp : ∀ μ, oIx (.d (.lst ((packs line).map packD))) (.d (natD (hvV (packs line) S))) μ = .ok (.d (packD (pAt (packs line) (hvV (packs line) S))), μ) := fun μ => ix_nD (ix_P (show hvV (packs line) S < line.length by omega))
          have hl1 : ∀ S μ, oIx (.d (lhv (packs line) S)) (.d (.int 1)) μ = .ok (.d (halfD (packs line) S), μ) := fun S μ => ix1
          simp [hix0, hixp, hc, w_gTup, i1, i2, hl1]
          unfold lhv
          rw [if_neg h1, halfD_2 hP hS h2]
end
end Zl
set_option Elab.async false
set_option linter.all false
set_option maxRecDepth 100000
set_option maxHeartbeats 4000000
namespace Zl
open PySem PySem.Spec L2 PySem.W
open PyProof.Rows hiding St
/-! # the order of a list makes no difference; shuffled lists -/
theorem sortS_le (ws : List Str) : sortS ws = ws.mergeSort fun a b => decide (a.cps.toList ≤ b.cps.toList) := by
  unfold sortS
  congr 1
  funext a b
  have := congrFun (congrFun (dataLe_str (fun x : Str => x)) a) b
  exact this
theorem eq_of_sorted {α : Type} (le : α → α → Prop) (anti : ∀ a b, le a b → le b a → a = b) : ∀ {p q : List α}, p.Perm q → p.Pairwise le → q.Pairwise le → p = q
  | [], q, h, _, _ => (List.nil_perm.mp h).symm
  | a :: p, q, h, hp, hq => by
    cases q with
    | nil => exact absurd h.symm (by simp)
    | cons b q =>
      rw [List.pairwise_cons] at hp hq
      have hab : a = b := by
        have h1 : a ∈ b :: q := h.mem_iff.mp (List.mem_cons_self ..)
        have h2 : b ∈ a :: p := h.mem_iff.mpr (List.mem_cons_self ..)
        rcases List.mem_cons.mp h1 with e | h1
        · exact e
        · rcases List.mem_cons.mp h2 with e | h2
          · exact e.symm
          · exact anti a b (hp.1 b h2) (hq.1 a h1)
      subst hab
      rw [eq_of_sorted le anti (List.Perm.cons_inv h) hp.2 hq.2]
theorem sortS_congr {p q : List Str} (h : p.Perm q) : sortS p = sortS q := by
  rw [sortS_le, sortS_le]
  have tr : ∀ a b c : Str, decide (a.cps.toList ≤ b.cps.toList) = true → decide (b.cps.toList ≤ c.cps.toList) = true → decide (a.cps.toList ≤ c.cps.toList) = true := fun a b c h1 h2 => decide_eq_true (List.le_trans (of_decide_eq_true h1) (of_decide_eq_true h2))
  have to : ∀ a b : Str, (decide (a.cps.toList ≤ b.cps.toList) || decide (b.cps.toList ≤ a.cps.toList)) = true := fun a b => by
    rw [Bool.or_eq_true, decide_eq_true_eq, decide_eq_true_eq]
    exact List.le_total _ _
  refine eq_of_sorted (fun a b : Str => decide (a.cps.toList ≤ b.cps.toList) = true) (fun a b h1 h2 => str_ext (List.le_antisymm (of_decide_eq_true h1) (of_decide_eq_true h2))) ?_ (List.pairwise_mergeSort tr to p) (List.pairwise_mergeSort tr to q)
  exact ((List.mergeSort_perm p _).trans h).trans (List.mergeSort_perm q _).symm
theorem rp_non {k : Nat} : Rp k 6 .non := ⟨okd_non, by decide, rfl, rfl, by decide +kernel⟩
end Zl
set_option Elab.async false
set_option linter.all false
set_option maxRecDepth 100000
set_option maxHeartbeats 4000000
namespace Zl
open PySem PySem.Spec L2 PySem.W
open PyProof.Rows hiding St
/-! # one turn of the law -/
section
variable {line : List Ver} {ws : List Str}
theorem lhv_rp (hP : Parted (packs line)) (h : LineOk ws line) (hl : line.length ≤ 16) {S : List Str} (hS : Sus (packs line) S) (hSl : S.length ≤ 8) : Rp (S.length + 1) (8 + 40 * S.length) (lhv (packs line) S) := by
  have hne := hS.ne
  have hhv : hvV (packs line) S < 64 := by
    obtain ⟨u, hu, _⟩ := hS.hold
    have := hvV_lt (P := packs line) S (by omega)
    rw [packs_len] at this
    omega
  have hr := half_rp hP (by rw [packs_len]; exact hl) S.length S hS (fun x hx => sus_chg h hS hx) (Nat.le_refl _)
  refine (rp_tup (k := S.length) (ws := [6, 40 * S.length - 20]) ⟨rfl, fun p hp => ?_⟩).mono (Nat.le_refl _) (by simp; omega)
  simp at hp
  rcases hp with rfl | rfl
  · split
    · exact rp_non
    · exact rp_nat hhv
  · exact hr
theorem again_wp {n : Nat} {w : Draw} (hd : DrOk n w) (hn : n + 3000 < 1000000) (h : LineOk ws line) (hl : line.length ≤ 16) (hw : ws.length ≤ 8) (r : Mu) {s0 s2 s3 s4 s7 s8 s9 s10 s11 : Option Val} {S : KS}
    (hS : ∀ (w' : Draw) (s8 s9 s10 s11 : Option Val), DrOk (n + 40) w' → S .nx (⟨0, [s0, some (.own 2), s2, s3, s4, some (.d (.lst ((packs line).map packD))), some (.d (histD line)), s7, s8, s9, s10, s11]⟩, drw w' ++ r)) :
    Wp (b_law_4 ⟨0, [s0, some (.own 2), s2, s3, s4, some (.d (.lst ((packs line).map packD))), some (.d (histD line)), s7, s8, s9, s10, s11]⟩ (drw w ++ r)) S := by
  simp [b_law_4]
  have hh := @held_wp line ws n w hd (by omega) h hl hw r
  generalize F_law_held [.own 2, .d (.lst ((packs line).map packD))] (drw w ++ r) = X at hh ⊢
  refine hh ?_ fun H w2 hH ok2 => ?_
  · have he := fun μ => eq_strs (S := []) (by simp) true μ
    simp only [List.map_nil] at he
    simp [i_law_3, he]
    exact hS _ _ _ _ _ (hd.mono (by omega))
  · have hHc := fun x hx => sus_chg h hH (x := x) hx
    have hHl := sus_len h hH
    have hHn : H.isEmpty = false := by
      cases e : H with
      | nil => have := hH.ne; rw [e] at this; simp at this
      | cons _ _ => rfl
    have hP : Parted (packs line) := parted_of h.bel
    have hSs := sus_sort hH
    have hSl := sus_len h hSs
    have hsl := (sortS_perm H).length_eq
    simp [i_law_3, eq_strs hHc, hHn]
    have hHl2 : H.length ≤ 100000 := by omega
    rw [sorted_strs hHl2]
    simp
    rw [show D.tup ((sortS H).map D.str) = packD (sortS H) from rfl]
    have hlh := fun μ => lhalved_ok h hl hw 9 (sortS H) μ hSs (by omega)
    have hF : F_law_halved = R_law_halved 9 := rfl
    rw [← hF] at hlh
    have hrF : D.lst (H.map D.str) = rowD false H := rfl
    have ht := fun μ => halving_test_ok (μ := μ) h hl hw hH false
    have hp := fun μ => halving_plan_ok (μ := μ) h hl hw hH false
    have hrp := lhv_rp hP h hl hSs (by omega)
    have hlhv : lhv (packs line) (sortS H) = .tup [if H.length = 1 then .non else natD (hvV (packs line) (sortS H)), halfD (packs line) (sortS H)] := by
      unfold lhv
      rw [hsl]
    have hrepr : ∀ μ, oRepr [.d (lhv (packs line) (sortS H))] μ = .ok (.d (.str (pyOf (lhv (packs line) (sortS H))).shown), μ) := fun μ => by
      rw [hlhv] at hrp ⊢
      exact repr_ok hrp (by omega) (by omega)
    have hself := fun μ => oEq_self (μ := μ) true hrp.ok (by omega)
    have htext := fun μ => oEq_str (μ := μ) true hrp.text hrp.text
    rw [hrF] at *
    simp [hlh, ht, hp, i_law_1]
    rw [← hlhv]
    simp [hrepr, htext]
    rw [show rowD false H = .lst (H.map D.str) from rfl]
    refine shufL_wp ok2 (okd_strs fun w hw => (hHc w hw).ok) (by simp; omega) (by simp; omega) r fun es w3 pm ok3 => ?_
    obtain ⟨S', hSq, rfl⟩ := perm_strs pm
    rw [List.length_map] at ok3
    have hS' : Sus (packs line) S' := by
      obtain ⟨u, hu, hx⟩ := hH.hold
      exact ⟨hSq.nodup_iff.mpr hH.nd, by rw [hSq.length_eq]; exact hH.ne, u, hu, fun x hx' => hx x (hSq.mem_iff.mp hx')⟩
    have e1 := sortS_congr hSq
    have e2 := hSq.length_eq
    have ht' := fun t μ => halving_test_ok (μ := μ) h hl hw hS' t
    have hp' := fun t μ => halving_plan_ok (μ := μ) h hl hw hS' t
    rw [e1, e2] at ht'
    rw [e1] at hp'
    have hrow : ∀ μ, oTuple [.d (rowD false S')] μ = .ok (.d (rowD true S'), μ) := fun μ => rfl
    have hpick : ∀ a b : Val, pick [1, 0] [a, b] = [b, a] := fun a b => rfl
    rw [show D.lst (S'.map D.str) = rowD false S' from rfl]
    simp [i_law_2, hrow, hpick, ht', hp']
    rw [← hlhv]
    simp [hself]
    exact hS _ _ _ _ _ (ok3.mono (by omega))
end
end Zl
set_option Elab.async false
set_option linter.all false
set_option maxRecDepth 100000
set_option maxHeartbeats 4000000
namespace Zl
open PySem PySem.Spec L2 PySem.W
open PyProof.Rows hiding St
theorem turn_wp {n : Nat} {w : Draw} (hd : DrOk n w) (hn : n + 5000 < 1000000) (r : Mu) {s0 s2 s3 s4 s5 s6 s7 s8 s9 s10 s11 : Option Val} {S : KS}
    (hS : ∀ (w' : Draw) (s3 s4 s5 s6 s7 s8 s9 s10 s11 : Option Val), DrOk (n + 400) w' → S .nx (⟨0, [s0, some (.own 2), s2, s3, s4, s5, s6, s7, s8, s9, s10, s11]⟩, drw w' ++ r)) :
    Wp (b_law_5 ⟨0, [s0, some (.own 2), s2, s3, s4, s5, s6, s7, s8, s9, s10, s11]⟩ (drw w ++ r)) S := by
  simp [b_law_5]
  have hh := @story_wp n w hd (by omega) r
  generalize F_law_story [.own 2, .d (.int 8), .d (.int 16)] (drw w ++ r) = X at hh ⊢
  refine hh fun ws line w1 hws l0 l1 hL ok1 => ?_
  simp [-k_Make, w_gTup, pack_wp hL (by omega), hist_mk hL l1 hws]
  rw [show Val.d (.int 2) = .d (natD 2) from rfl, ki_rngD (by omega)]
  obtain ⟨I, hI⟩ : ∃ I : Nat → Rho → Mu → Prop, I = fun i ρ μ => ∃ (w' : Draw) (s7 s8 s9 s10 s11 : Option Val), ρ = ⟨0, [s0, some (.own 2), s2, some (.d (.lst (ws.map D.str))), some (.d (lineD line)), some (.d (.lst ((packs line).map packD))), some (.d (histD line)), s7, s8, s9, s10, s11]⟩ ∧ μ = drw w' ++ r ∧ DrOk (n + 250 + 40 * i) w' := ⟨_, rfl⟩
  refine wp_forI I (by rw [hI]; exact ⟨w1, s7, s8, s9, s10, s11, rfl, rfl, ok1⟩) ?_ ?_
  · intro i d ρ μ hi hh
    rw [hI] at hh
    obtain ⟨w2, s7, s8, s9, s10, s11, rfl, rfl, ok2⟩ := hh
    have hik : i < 2 := by
      have := (List.getElem?_eq_some_iff.mp hi).1
      simpa using this
    simp
    refine again_wp ok2 (by omega) hL l1 hws r fun w3 s8 s9 s10 s11 ok3 => ?_
    simp
    rw [hI]
    exact ⟨w3, _, _, _, _, _, rfl, rfl, ok3.mono (by omega)⟩
  · intro ρ μ hh
    rw [hI] at hh
    obtain ⟨w2, s7, s8, s9, s10, s11, rfl, rfl, ok2⟩ := hh
    exact hS _ _ _ _ _ _ _ _ _ _ (ok2.mono (by simp <;> omega))
theorem law_plain (ns : List Int) (hl : ns.length ≤ 63) : F_law [.d (.scr ns)] [] = .ok (.d (.bl true), []) := by
  apply wp_eq
  unfold F_law
  rw [w_Body]
  simp [S_law, startR]
  have hh := @begun_ok ns hl
  generalize F_law_begun [.d (.scr ns)] [] = X at hh ⊢
  refine hh fun w ok => ?_
  simp [lenD]
  obtain ⟨k, hk, hk1⟩ : ∃ k : Nat, (if 1 < (if (ns.length : Int) < 4 then (ns.length : Int) else 4) then (if (ns.length : Int) < 4 then (ns.length : Int) else 4) else 1) = (k : Int) ∧ k ≤ 4 := by
    by_cases h1 : (ns.length : Int) < 4
    · by_cases h2 : 1 < (ns.length : Int)
      · exact ⟨ns.length, by simp [h1, h2], by omega⟩
      · exact ⟨1, by simp [h1, h2], by omega⟩
    · exact ⟨4, by simp [h1], by omega⟩
  rw [hk, show Val.d (.int (k : Int)) = .d (natD k) from rfl, ki_rngD (by omega)]
  obtain ⟨I, hI⟩ : ∃ I : Nat → Rho → Mu → Prop, I = fun i ρ μ => ∃ (w : Draw) (r : Mu) (s2 s3 s4 s5 s6 s7 s8 s9 s10 s11 : Option Val), ρ = ⟨0, [some (.d (.scr ns)), some (.own 2), s2, s3, s4, s5, s6, s7, s8, s9, s10, s11]⟩ ∧ μ = drw w ++ r ∧ DrOk (400 * i) w := ⟨_, rfl⟩
  simp
  refine wp_forI I (by rw [hI]; exact ⟨w, [], none, none, none, none, none, none, none, none, none, none, rfl, by simp, ok⟩) ?_ ?_
  · intro i d ρ μ hi hh
    rw [hI] at hh
    obtain ⟨w1, r, s2, s3, s4, s5, s6, s7, s8, s9, s10, s11, rfl, rfl, ok1⟩ := hh
    have hik : i < k := by
      have := (List.getElem?_eq_some_iff.mp hi).1
      simpa using this
    simp
    refine turn_wp ok1 (by omega) r fun w2 s3 s4 s5 s6 s7 s8 s9 s10 s11 ok2 => ?_
    simp
    rw [hI]
    exact ⟨w2, r, _, _, _, _, _, _, _, _, _, _, rfl, rfl, ok2.mono (by omega)⟩
  · intro ρ μ hh
    rw [hI] at hh
    obtain ⟨w1, r, s2, s3, s4, s5, s6, s7, s8, s9, s10, s11, rfl, rfl, ok1⟩ := hh
    simp
end Zl
set_option Elab.async false
set_option linter.all false
set_option maxRecDepth 100000
set_option maxHeartbeats 0
namespace Zl
open PySem PySem.Spec L2 PySem.W
open PyProof.Rows hiding St
abbrev Rw : PySem.W.OpenRow := PySem.W.OpenLaw.row PySem.Challenge.rw_mergeblame_k75_halving
def topNames : List PySem.Str := (["_wall", "__name__", "BlameError", "NoHistory", "NoVersion", "NoSuspects", "LETTERS", "LONGEST_CHANGE", "MOST_PARENTS", "MOST_VERSIONS", "MOST_CHANGES", "is_number", "is_change", "is_act", "are_parents", "is_version", "History", "are_suspects", "needed", "parted", "greater_part", "halving_at", "halving_test", "halved", "halving_plan"] : List PySem.Str) ++ (["_law_begun", "_law_next", "_law_pick", "_law_shuffled", "_law_words", "_law_line", "_law_behind", "_law_last", "_law_named", "_law_packs", "_law_story", "_law_held", "_law_cut", "_law_greater", "_law_halved"] : List PySem.Str)
abbrev hk : PySem.W.Hook := hookZT 7 fa fnl prl (tfl.map (·.1))
def ob (s : PySem.W.SharedT) : AlZT := obsZT 7 fa fnl prl (tfl.map (·.1)) (HandSHeadRun.getT s)
theorem ob_eq (s : PySem.W.SharedT) : ob s = hk.obs s.abs := obsZT_eq (HandSHeadRun.getT_eq s)
theorem run (w : World) : HandSHeadRun.RunEq Rw (PySem.W.view Rw.prog [43]) hk ob 6000 topNames w := by
  intro os
  kernel_rfl
end Zl
set_option Elab.async false
set_option linter.all false
set_option maxRecDepth 100000
set_option maxHeartbeats 0
namespace Zl
open PySem PySem.Spec L2 PySem.W
open PyProof.Rows hiding St
abbrev csT (K : PySem.W.Frag) : List (Addr × Addr) := tfl.map fun p => He.cT K p.1
theorem tabsK_of {K : PySem.W.Frag} {mg : Str → Option Value} {base h0 : Heap} (c : SaysZT fa fnl prl (tfl.map (·.1)) h0 K) (T : ∀ p ∈ csT K, LamX.TabB base mg p.1 p.2) : TabsK K mg base tfl :=
  ⟨fun p hp => T _ (List.mem_map.mpr ⟨p, hp, rfl⟩), by have := c.nd; rw [List.map_map] at this; exact this⟩
theorem facts_ok {P : Program} {w : World} {K : PySem.W.Frag} {h0 : Heap} {mg : Str → Option Value} {f : Addr} (X : K.In h0) (G : h0.Ns mainGlobals mg) (hfa : mg ("law" : Str) = some (.ref f)) (c : SaysZT fa fnl prl (tfl.map (·.1)) h0 K) :
    ∃ fd : FuncData, (∀ (s : Shared) (v : Value), BindsTo s fd ⟨[v], []⟩ [("_law_script", v)]) ∧ ∀ base : Heap, K.In base → base.Ns mainGlobals mg → (∀ p ∈ csT K, LamX.TabB base mg p.1 p.2) → FnG P w K mg base 200 f fd ["_law_script"] (spZ (gm K) 1 F_law) := by
  obtain ⟨fd, F⟩ := c.z.a.def_ (fnl.length - 1) (d := d_law) rfl
  have ef : f = d_law.at_ K := by
    have e1 := He.glo_ok X G (c.z.a.fact 61 (f := .glo "law") rfl)
    rw [hfa] at e1
    injection e1 with e1
    injection e1
  subst ef
  refine ⟨fd, fun s v => FunD.bindsA (ps := ["_law_script"]) F (fun _ _ _ _ _ _ us hl => match us, hl with | [_], _ => rfl) s [v] rfl, fun base _ _ T => ?_⟩
  have h : Hd K mg base := ⟨c.z, ⟨h0, X, G⟩, tabsK_of c T⟩
  obtain ⟨fd2, G2, F2⟩ := og_law (P := P) (w := w) h
  have ef : fd2 = fd := by
    obtain ⟨oc, od, dV, kV, doc, pm, an, cdv, ct, osl, e1, lk, _⟩ := F.ex
    obtain ⟨oc2, od2, dV2, kV2, doc2, pm2, an2, cdv2, ct2, osl2, e2, lk2, _⟩ := F2.ex
    rw [lk] at lk2
    injection lk2 with z
    injection z with z z2 z3
    injection z3 with z4
    exact z4.symm
  rw [ef] at G2
  exact G2.mono (by omega)
end Zl
open PySem PySem.W PySem.Calls PyProof.Rows in
theorem holds_of (plain : ∀ ns : List Int, ns.length ≤ 63 → (∀ z ∈ ns, Builtin.Int.intBits z ≤ 1048576) → Zl.F_law [.d (.scr ns)] [] = .ok (.d (.bl true), [])) : PySem.Challenge.rw_mergeblame_k75_halving.Holds := by
  w_on; o_law
  refine HandSHeadRun.head_any (r := OpenLaw.row PySem.Challenge.rw_mergeblame_k75_halving) (q := view (OpenLaw.row PySem.Challenge.rw_mergeblame_k75_halving).prog [43]) (H := Zl.hk) (ob := Zl.ob) (M := 6000) (loose := Zl.topNames) (d := HandSHeadRun.topDef (OpenLaw.row PySem.Challenge.rw_mergeblame_k75_halving).prog 43) (kwd := []) Zl.ob_eq
    (by kernel_rfl) (fun s => by kernel_rfl) Zl.run (by kernel_rfl) (by kernel_rfl) (by kernel_rfl) (by rfl) (by first | assumption | decide +kernel) (by decide +kernel) ⟨rfl, rfl, rfl, rfl, rfl, by decide +kernel⟩ ?hw ?hc
  case hw => w_witness2
  case hc =>
    refine Zl.walk_ofGT (l := PySem.Challenge.rw_mergeblame_k75_halving) (n := 63) (k := 200) (x := "_law_script") rfl (by decide) (by kernel_rfl) ⟨rfl, by decide, by decide⟩ ?F
    intro w mg fa h Y G hmg0
    obtain ⟨K, KX, c⟩ := Y
    have hmg : mg ("law" : PySem.Str) = some (.ref fa) := by
      have e : (HandSHeadRun.topDef (OpenLaw.row PySem.Challenge.rw_mergeblame_k75_halving).prog 43).name = ("law" : PySem.Str) := by kernel_rfl
      rw [← e]
      exact hmg0
    obtain ⟨fd, hb, hF⟩ := Zl.facts_ok (P := (PySem.Challenge.rw_mergeblame_k75_halving).prog) (w := w) KX G hmg c
    have mem : ∀ {p : Addr × Addr}, p ∈ Zl.csT K → ∃ r ∈ Zl.tfl.map (·.1), p = He.cT K r := fun hp => by
      obtain ⟨r, hr, e⟩ := List.mem_map.mp hp
      exact ⟨r.1, List.mem_map.mpr ⟨r, hr, rfl⟩, e.symm⟩
    refine ⟨K, fd, Zl.spZ (Zl.gm K) 1 Zl.F_law, Zl.csT K, KX, fun p hp => ?_, fun p hp => ?_, fun p hp => ?_, hb, fun H a ns h1 h2 hT hS => Zl.prom_T (fun p hp => ?_) H a ns (plain ns h1 h2) hT hS, hF⟩
    · obtain ⟨r, hr, rfl⟩ := mem hp
      exact c.empty r hr
    · obtain ⟨r, hr, rfl⟩ := mem hp
      exact c.out r hr
    · obtain ⟨r, hr, rfl⟩ := mem hp
      exact PySem.W.codeHd_of_K KX (c.hd r hr)
    · obtain ⟨r, hr, rfl⟩ := List.mem_map.mp (show p ∈ Zl.tbOf K Zl.tfl from hp)
      exact List.mem_map.mpr ⟨He.cT K r.1, List.mem_map.mpr ⟨r, hr, rfl⟩, rfl⟩
theorem PySem.Challenge.cw_mergeblame_k75_halving_holds : PySem.Challenge.rw_mergeblame_k75_halving.Holds :=
  holds_of fun ns h1 h2 => Zl.law_plain ns h1
