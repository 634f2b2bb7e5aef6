import PyProof.Rows.All
import Wide.All
import OpenK.AllK
import Wide.FinOn
import PyProof.EqAt
import PyProof.EqKinds
import PyProof.TupleCall
import HandS.ForMost
import HandS.ForExc
import HandS.ExcInit
import HandS.ExcField
import HandS.IsInst
import HandS.Wide
import HandS.ClsMeth
import HandS.Codes
import PySem.Challenge.RW_ownchain_k07_whole_parts_exchanged
import HandS.ExcIs
/-! The plain law: trees, their numbers, the nodes by place, one node exchanged. -/
namespace K07

inductive Tree where
  | node (k : Int) (own : List Int) (ps : List Tree)

mutual
def Tree.enc : Tree → List Int
  | .node k own ps => k :: (own ++ encs ps)
def encs : List Tree → List Int
  | [] => []
  | t :: r => t.enc ++ encs r
end
mutual
def Tree.cnt : Tree → Nat
  | .node _ _ ps => cnts ps + 1
def cnts : List Tree → Nat
  | [] => 0
  | t :: r => t.cnt + cnts r
end
mutual
def Tree.dep : Tree → Nat
  | .node _ _ ps => deps ps + 1
def deps : List Tree → Nat
  | [] => 0
  | t :: r => max t.dep (deps r)
end

def partsOf (k : Int) : Nat := if k = 19 then 0 else if k = 7 ∨ k = 18 then 1 else if k = 17 then 3 else 2

/-- what a node's own numbers and the number of its parts may be -/
inductive HeadOk (hs : List (Nat × Nat)) (bx : Nat) : Int → List Int → Nat → Prop
  | num (n : Int) : HeadOk hs bx 0 [n] 0
  | get (b : Nat) : b < bx → HeadOk hs bx 1 [(b : Int)] 0
  | set (b : Nat) : b < bx → HeadOk hs bx 2 [(b : Int)] 1
  | all (m : Nat) : 1 ≤ m → m ≤ 12 → HeadOk hs bx 3 [(m : Int)] m
  | pick (m : Nat) : 2 ≤ m → m ≤ 12 → HeadOk hs bx 4 [(m : Int)] (m + 1)
  | loop : HeadOk hs bx 5 [] 2
  | call (f p b : Nat) : hs[f]? = some (p, b) → HeadOk hs bx 6 [(f : Int)] p
  | rest (k : Int) : 7 ≤ k → k ≤ 19 → HeadOk hs bx k [] (partsOf k)

mutual
def Tree.wf (hs : List (Nat × Nat)) (bx : Nat) : Tree → Prop
  | .node k own ps => HeadOk hs bx k own ps.length ∧ wfs hs bx ps
def wfs (hs : List (Nat × Nat)) (bx : Nat) : List Tree → Prop
  | [] => True
  | t :: r => t.wf hs bx ∧ wfs hs bx r
end

/-- a node: its place, how deep, the number of its function, itself -/
structure Rec where
  pl : Nat
  d : Nat
  f : Nat
  t : Tree

mutual
def Tree.pre : Tree → Nat → Nat → Nat → List Rec
  | .node k own ps, f, d, p => ⟨p, d, f, .node k own ps⟩ :: pres ps f (d + 1) (p + 1 + own.length)
def pres : List Tree → Nat → Nat → Nat → List Rec
  | [], _, _, _ => []
  | t :: r, f, d, p => t.pre f d p ++ pres r f d (p + t.enc.length)
end
/-- the bodies of functions f, f + 1, .., the first one at p -/
def preB : List Tree → Nat → Nat → List Rec
  | [], _, _ => []
  | t :: r, f, p => t.pre f 1 p ++ preB r (f + 1) (p + t.enc.length)

def Tree.head : Tree → Int × List Int
  | .node k own _ => (k, own)
def Rec.bare (r : Rec) : Int × List Int := r.t.head
def Tree.parts : Tree → List Tree
  | .node _ _ ps => ps

theorem enc_node (k : Int) (own : List Int) (ps : List Tree) : (Tree.node k own ps).enc = k :: (own ++ encs ps) := by simp [Tree.enc]
theorem encs_nil : encs [] = [] := by simp [encs]
theorem encs_cons (t : Tree) (r : List Tree) : encs (t :: r) = t.enc ++ encs r := by simp [encs]
theorem cnt_node (k : Int) (own : List Int) (ps : List Tree) : (Tree.node k own ps).cnt = cnts ps + 1 := by simp [Tree.cnt]
theorem cnts_nil : cnts [] = 0 := by simp [cnts]
theorem cnts_cons (t : Tree) (r : List Tree) : cnts (t :: r) = t.cnt + cnts r := by simp [cnts]
theorem dep_node (k : Int) (own : List Int) (ps : List Tree) : (Tree.node k own ps).dep = deps ps + 1 := by simp [Tree.dep]
theorem deps_nil : deps [] = 0 := by simp [deps]
theorem deps_cons (t : Tree) (r : List Tree) : deps (t :: r) = max t.dep (deps r) := by simp [deps]
theorem wf_node (hs : List (Nat × Nat)) (bx : Nat) (k : Int) (own : List Int) (ps : List Tree) : (Tree.node k own ps).wf hs bx ↔ HeadOk hs bx k own ps.length ∧ wfs hs bx ps := by simp [Tree.wf]
theorem wfs_nil (hs : List (Nat × Nat)) (bx : Nat) : wfs hs bx [] := by simp [wfs]
theorem wfs_cons (hs : List (Nat × Nat)) (bx : Nat) (t : Tree) (r : List Tree) : wfs hs bx (t :: r) ↔ t.wf hs bx ∧ wfs hs bx r := by simp [wfs]
theorem pre_node (k : Int) (own : List Int) (ps : List Tree) (f d p : Nat) : (Tree.node k own ps).pre f d p = ⟨p, d, f, .node k own ps⟩ :: pres ps f (d + 1) (p + 1 + own.length) := by simp [Tree.pre]
theorem pres_nil (f d p : Nat) : pres [] f d p = [] := by simp [pres]
theorem pres_cons (t : Tree) (r : List Tree) (f d p : Nat) : pres (t :: r) f d p = t.pre f d p ++ pres r f d (p + t.enc.length) := by simp [pres]

theorem encs_app : ∀ a b : List Tree, encs (a ++ b) = encs a ++ encs b
  | [], b => by simp [encs_nil]
  | t :: r, b => by rw [List.cons_append, encs_cons, encs_app r b, encs_cons, List.append_assoc]
theorem cnts_app : ∀ a b : List Tree, cnts (a ++ b) = cnts a + cnts b
  | [], b => by simp [cnts_nil]
  | t :: r, b => by rw [List.cons_append, cnts_cons, cnts_app r b, cnts_cons]; omega
theorem deps_app : ∀ a b : List Tree, deps (a ++ b) = max (deps a) (deps b)
  | [], b => by simp [deps_nil]
  | t :: r, b => by rw [List.cons_append, deps_cons, deps_app r b, deps_cons]; omega
theorem wfs_app (hs : List (Nat × Nat)) (bx : Nat) : ∀ a b : List Tree, wfs hs bx (a ++ b) ↔ wfs hs bx a ∧ wfs hs bx b
  | [], b => by simp [wfs_nil]
  | t :: r, b => by rw [List.cons_append, wfs_cons, wfs_app hs bx r b, wfs_cons]; exact and_assoc.symm
theorem pres_app : ∀ (a b : List Tree) (f d p : Nat), pres (a ++ b) f d p = pres a f d p ++ pres b f d (p + (encs a).length)
  | [], b, f, d, p => by simp [pres_nil, encs_nil]
  | t :: r, b, f, d, p => by
    rw [List.cons_append, pres_cons, pres_app r b, pres_cons, encs_cons, List.append_assoc, List.length_append, Nat.add_assoc]

theorem enc_pos : ∀ t : Tree, 0 < t.enc.length
  | .node k own ps => by rw [enc_node]; simp
theorem cnt_pos : ∀ t : Tree, 0 < t.cnt
  | .node k own ps => by rw [cnt_node]; omega
theorem dep_pos : ∀ t : Tree, 0 < t.dep
  | .node k own ps => by rw [dep_node]; omega
theorem len_node (k : Int) (own : List Int) (ps : List Tree) : (Tree.node k own ps).enc.length = 1 + own.length + (encs ps).length := by
  rw [enc_node, List.length_cons, List.length_append]; omega
theorem enc_ne : ∀ t : Tree, t.enc ≠ []
  | .node k own ps => by rw [enc_node]; simp

/-- an induction over lists of trees: parts and the rest -/
theorem forest_ind {P : List Tree → Prop} (h0 : P []) (h1 : ∀ k own ps r, P ps → P r → P (.node k own ps :: r)) : ∀ ts, P ts := by
  have key : ∀ (n : Nat) (ts : List Tree), cnts ts ≤ n → P ts := by
    intro n
    induction n with
    | zero =>
      intro ts h
      cases ts with
      | nil => exact h0
      | cons t r =>
        rw [cnts_cons] at h
        have := cnt_pos t
        omega
    | succ n ih =>
      intro ts h
      cases ts with
      | nil => exact h0
      | cons t r =>
        obtain ⟨k, own, ps⟩ := t
        rw [cnts_cons, cnt_node] at h
        exact h1 k own ps r (ih ps (by omega)) (ih r (by omega))
  exact fun ts => key _ ts (Nat.le_refl _)

theorem pres_len : ∀ (ts : List Tree) (f d p : Nat), (pres ts f d p).length = cnts ts := by
  intro ts
  induction ts using forest_ind with
  | h0 => intros; rw [pres_nil, cnts_nil]; rfl
  | h1 k own ps r ih1 ih2 =>
    intro f d p
    rw [pres_cons, pre_node, List.length_append, List.length_cons, ih1, ih2, cnts_cons, cnt_node]
theorem pre_len (t : Tree) (f d p : Nat) : (t.pre f d p).length = t.cnt := by
  have h := pres_len [t] f d p
  rw [pres_cons, pres_nil, List.append_nil, cnts_cons, cnts_nil, Nat.add_zero] at h
  exact h
theorem preB_len : ∀ (ts : List Tree) (f p : Nat), (preB ts f p).length = cnts ts
  | [], _, _ => by rw [cnts_nil]; rfl
  | t :: r, f, p => by
    show (t.pre f 1 p ++ preB r (f + 1) (p + t.enc.length)).length = _
    rw [List.length_append, pre_len, preB_len r, cnts_cons]
/-- nodes lie within -/
theorem pres_within : ∀ (ts : List Tree) (f d p : Nat), ∀ q ∈ pres ts f d p, p ≤ q.pl ∧ q.pl + q.t.enc.length ≤ p + (encs ts).length ∧ q.f = f := by
  intro ts
  induction ts using forest_ind with
  | h0 => intro f d p q h; rw [pres_nil] at h; cases h
  | h1 k own ps r ih1 ih2 =>
    intro f d p q h
    rw [pres_cons, pre_node, List.mem_append, List.mem_cons] at h
    have e := len_node k own ps
    rw [encs_cons, List.length_append]
    rcases h with (h | h) | h
    · subst h
      exact ⟨Nat.le_refl _, by show p + (Tree.node k own ps).enc.length ≤ _; omega, rfl⟩
    · obtain ⟨h1, h2, h3⟩ := ih1 _ _ _ q h
      exact ⟨by omega, by omega, h3⟩
    · obtain ⟨h1, h2, h3⟩ := ih2 _ _ _ q h
      exact ⟨by omega, by omega, h3⟩
theorem pre_within (t : Tree) (f d p : Nat) : ∀ q ∈ t.pre f d p, p ≤ q.pl ∧ q.pl + q.t.enc.length ≤ p + t.enc.length ∧ q.f = f := by
  intro q h
  have h2 := pres_within [t] f d p q (by rw [pres_cons, pres_nil, List.append_nil]; exact h)
  rw [encs_cons, encs_nil, List.append_nil] at h2
  exact h2

/-- what stands around the i-th node, and what stands there when it is exchanged -/
structure Around (hs : List (Nat × Nat)) (bx : Nat) (ts : List Tree) (f d p i : Nat) (r : Rec) : Prop where
  ex : ∃ (A B : List Rec) (U W : List Int), pres ts f d p = A ++ r.t.pre f r.d r.pl ++ B ∧ A.length = i ∧ encs ts = U ++ r.t.enc ++ W ∧ p + U.length = r.pl ∧
    (∀ q ∈ A, q.pl < r.pl) ∧ (∀ q ∈ B, r.pl + r.t.enc.length ≤ q.pl) ∧ r.f = f ∧ (wfs hs bx ts → r.t.wf hs bx) ∧ d ≤ r.d ∧ r.d + r.t.dep ≤ d + deps ts ∧
    ∀ t' : Tree, ∃ (ts' : List Tree) (A' B' : List Rec), ts'.length = ts.length ∧ pres ts' f d p = A' ++ t'.pre f r.d r.pl ++ B' ∧ A'.map Rec.bare = A.map Rec.bare ∧ B'.map Rec.bare = B.map Rec.bare ∧
      encs ts' = U ++ t'.enc ++ W ∧ (wfs hs bx ts → t'.wf hs bx → wfs hs bx ts') ∧ ∀ D, d + deps ts ≤ D → (d + deps ts' ≤ D ↔ r.d + t'.dep ≤ D)

theorem bare_shift : ∀ (ts : List Tree) (f d p f' d' p' : Nat), (pres ts f d p).map Rec.bare = (pres ts f' d' p').map Rec.bare := by
  intro ts
  induction ts using forest_ind with
  | h0 => intros; rw [pres_nil, pres_nil]
  | h1 k own ps r ih1 ih2 =>
    intro f d p f' d' p'
    rw [pres_cons, pres_cons, pre_node, pre_node, List.map_append, List.map_append, List.map_cons, List.map_cons, ih1 f (d + 1) (p + 1 + own.length) f' (d' + 1) (p' + 1 + own.length),
      ih2 f d (p + (Tree.node k own ps).enc.length) f' d' (p' + (Tree.node k own ps).enc.length)]
    rfl
theorem bare_shiftB : ∀ (ts : List Tree) (f p f' p' : Nat), (preB ts f p).map Rec.bare = (preB ts f' p').map Rec.bare
  | [], _, _, _, _ => rfl
  | t :: r, f, p, f', p' => by
    show (t.pre f 1 p ++ preB r (f + 1) (p + t.enc.length)).map Rec.bare = (t.pre f' 1 p' ++ preB r (f' + 1) (p' + t.enc.length)).map Rec.bare
    have h := bare_shift [t] f 1 p f' 1 p'
    rw [pres_cons, pres_nil, List.append_nil, pres_cons, pres_nil, List.append_nil] at h
    rw [List.map_append, List.map_append, h, bare_shiftB r (f + 1) (p + t.enc.length) (f' + 1) (p' + t.enc.length)]

theorem around (hs : List (Nat × Nat)) (bx : Nat) : ∀ (ts : List Tree) (f d p i : Nat) (r : Rec), (pres ts f d p)[i]? = some r → Around hs bx ts f d p i r := by
  intro ts
  induction ts using forest_ind with
  | h0 => intro f d p i r h; rw [pres_nil] at h; cases h
  | h1 k own ps rr ih1 ih2 =>
    intro f d p i r h
    rw [pres_cons, pre_node] at h
    have el := len_node k own ps
    cases i with
    | zero =>
      have e : r = ⟨p, d, f, .node k own ps⟩ := by
        rw [List.cons_append, List.getElem?_cons_zero] at h
        exact (Option.some.inj h).symm
      subst e
      refine ⟨[], pres rr f d (p + (Tree.node k own ps).enc.length), [], encs rr, ?_, rfl, ?_, rfl, ?_, ?_, rfl, ?_, Nat.le_refl _, ?_, ?_⟩
      · rw [List.nil_append, pres_cons]
      · rw [List.nil_append, encs_cons]
      · intro q hq; cases hq
      · intro q hq
        exact (pres_within _ _ _ _ q hq).1
      · intro hw
        exact ((wfs_cons _ _ _ _).mp hw).1
      · rw [deps_cons]; show d + (Tree.node k own ps).dep ≤ _; omega
      · intro t'
        refine ⟨t' :: rr, [], pres rr f d (p + t'.enc.length), rfl, ?_, rfl, ?_, ?_, ?_, ?_⟩
        · rw [pres_cons, List.nil_append]
        · exact bare_shift _ _ _ _ _ _ _
        · rw [encs_cons, List.nil_append]
        · intro h1 h2
          exact (wfs_cons _ _ _ _).mpr ⟨h2, ((wfs_cons _ _ _ _).mp h1).2⟩
        · intro D hD
          rw [deps_cons] at hD ⊢
          show _ ↔ d + t'.dep ≤ D
          omega
    | succ i =>
      rw [List.cons_append, List.getElem?_cons_succ] at h
      by_cases hi : i < (pres ps f (d + 1) (p + 1 + own.length)).length
      · rw [List.getElem?_append_left hi] at h
        obtain ⟨A, B, U, W, e1, e2, e3, e4, e5, e6, e7, e8, e9, e10, e11⟩ := (ih1 f (d + 1) (p + 1 + own.length) i r h).ex
        have e3l : (encs ps).length = U.length + r.t.enc.length + W.length := by rw [e3, List.length_append, List.length_append]
        refine ⟨⟨p, d, f, .node k own ps⟩ :: A, B ++ pres rr f d (p + (Tree.node k own ps).enc.length), k :: (own ++ U), W ++ encs rr, ?_, ?_, ?_, ?_, ?_, ?_, e7, ?_, ?_, ?_, ?_⟩
        · rw [pres_cons, pre_node, e1]
          simp only [List.cons_append, List.append_assoc]
        · rw [List.length_cons, e2]
        · rw [encs_cons, enc_node, e3]
          simp only [List.cons_append, List.append_assoc]
        · rw [List.length_cons, List.length_append]; omega
        · intro q hq
          rcases List.mem_cons.mp hq with z | z
          · subst z; show p < r.pl; omega
          · exact e5 q z
        · intro q hq
          rcases List.mem_append.mp hq with z | z
          · exact e6 q z
          · have := (pres_within _ _ _ _ q z).1
            omega
        · intro hw
          exact e8 ((wf_node _ _ _ _ _).mp ((wfs_cons _ _ _ _).mp hw).1).2
        · omega
        · rw [deps_cons, dep_node]; omega
        · intro t'
          obtain ⟨ts', A', B', g1, g2, g3, g4, g5, g6, g7⟩ := e11 t'
          refine ⟨.node k own ts' :: rr, ⟨p, d, f, .node k own ts'⟩ :: A', B' ++ pres rr f d (p + (Tree.node k own ts').enc.length), rfl, ?_, ?_, ?_, ?_, ?_, ?_⟩
          · rw [pres_cons, pre_node, g2]
            simp only [List.cons_append, List.append_assoc]
          · rw [List.map_cons, List.map_cons, g3]; rfl
          · rw [List.map_append, List.map_append, g4, bare_shift rr f d (p + (Tree.node k own ts').enc.length) f d (p + (Tree.node k own ps).enc.length)]
          · rw [encs_cons, enc_node, g5]
            simp only [List.cons_append, List.append_assoc]
          · intro h1 h2
            have h3 := (wfs_cons _ _ _ _).mp h1
            have h4 := (wf_node _ _ _ _ _).mp h3.1
            exact (wfs_cons _ _ _ _).mpr ⟨(wf_node _ _ _ _ _).mpr ⟨by rw [g1]; exact h4.1, g6 h4.2 h2⟩, h3.2⟩
          · intro D hD
            rw [deps_cons, dep_node] at hD ⊢
            have := g7 D (by omega)
            omega
      · rw [List.getElem?_append_right (by omega)] at h
        obtain ⟨A, B, U, W, e1, e2, e3, e4, e5, e6, e7, e8, e9, e10, e11⟩ := (ih2 f d (p + (Tree.node k own ps).enc.length) _ r h).ex
        refine ⟨(Tree.node k own ps).pre f d p ++ A, B, (Tree.node k own ps).enc ++ U, W, ?_, ?_, ?_, ?_, ?_, e6, e7, ?_, e9, ?_, ?_⟩
        · rw [pres_cons, e1]
          simp only [List.append_assoc]
        · rw [List.length_append, e2, pre_node, List.length_cons]; omega
        · rw [encs_cons, e3]
          simp only [List.append_assoc]
        · rw [List.length_append]; omega
        · intro q hq
          rcases List.mem_append.mp hq with z | z
          · obtain ⟨w1, w2, _⟩ := pre_within _ _ _ _ q z
            have := enc_pos q.t
            omega
          · exact e5 q z
        · intro hw
          exact e8 ((wfs_cons _ _ _ _).mp hw).2
        · rw [deps_cons]; omega
        · intro t'
          obtain ⟨ts', A', B', g1, g2, g3, g4, g5, g6, g7⟩ := e11 t'
          refine ⟨.node k own ps :: ts', (Tree.node k own ps).pre f d p ++ A', B', ?_, ?_, ?_, g4, ?_, ?_, ?_⟩
          · rw [List.length_cons, List.length_cons, g1]
          · rw [pres_cons, g2]
            simp only [List.append_assoc]
          · rw [List.map_append, List.map_append, g3]
          · rw [encs_cons, g5]
            simp only [List.append_assoc]
          · intro h1 h2
            have h3 := (wfs_cons _ _ _ _).mp h1
            exact (wfs_cons _ _ _ _).mpr ⟨h3.1, g6 h3.2 h2⟩
          · intro D hD
            rw [deps_cons] at hD ⊢
            have := g7 D (by omega)
            omega

/-- the bodies fit the heads, from function f on -/
def wfB (hs : List (Nat × Nat)) : List Tree → List (Nat × Nat) → Prop
  | [], [] => True
  | t :: r, h :: q => t.wf hs h.2 ∧ wfB hs r q
  | _, _ => False

theorem wfB_len (hs : List (Nat × Nat)) : ∀ (ts : List Tree) (q : List (Nat × Nat)), wfB hs ts q → ts.length = q.length
  | [], [], _ => rfl
  | t :: r, h :: q, x => by rw [List.length_cons, List.length_cons, wfB_len hs r q x.2]
  | [], _ :: _, x => x.elim
  | _ :: _, [], x => x.elim

structure AroundB (hs : List (Nat × Nat)) (ts : List Tree) (q : List (Nat × Nat)) (f p i : Nat) (r : Rec) : Prop where
  ex : ∃ (A B : List Rec) (U W : List Int), preB ts f p = A ++ r.t.pre r.f r.d r.pl ++ B ∧ A.length = i ∧ encs ts = U ++ r.t.enc ++ W ∧ p + U.length = r.pl ∧
    (∀ q ∈ A, q.pl < r.pl) ∧ (∀ q ∈ B, r.pl + r.t.enc.length ≤ q.pl) ∧ f ≤ r.f ∧ (∃ h, q[r.f - f]? = some h ∧ r.t.wf hs h.2) ∧ 1 ≤ r.d ∧ r.d + r.t.dep ≤ 1 + deps ts ∧
    ∀ t' : Tree, (∀ h, q[r.f - f]? = some h → t'.wf hs h.2) → ∃ (ts' : List Tree) (A' B' : List Rec), ts'.length = ts.length ∧ preB ts' f p = A' ++ t'.pre r.f r.d r.pl ++ B' ∧ A'.map Rec.bare = A.map Rec.bare ∧ B'.map Rec.bare = B.map Rec.bare ∧
      encs ts' = U ++ t'.enc ++ W ∧ wfB hs ts' q ∧ ∀ D, 1 + deps ts ≤ D → (1 + deps ts' ≤ D ↔ r.d + t'.dep ≤ D)

theorem preB_within : ∀ (ts : List Tree) (f p : Nat), ∀ q ∈ preB ts f p, p ≤ q.pl ∧ q.pl + q.t.enc.length ≤ p + (encs ts).length ∧ f ≤ q.f ∧ q.f < f + ts.length
  | [], _, _, q, h => nomatch h
  | t :: r, f, p, q, h => by
    have h' : q ∈ t.pre f 1 p ++ preB r (f + 1) (p + t.enc.length) := h
    rw [encs_cons, List.length_append, List.length_cons]
    rcases List.mem_append.mp h' with z | z
    · obtain ⟨h1, h2, h3⟩ := pre_within _ _ _ _ q z
      exact ⟨h1, by omega, by omega, by omega⟩
    · obtain ⟨h1, h2, h3, h4⟩ := preB_within r (f + 1) (p + t.enc.length) q z
      exact ⟨by omega, by omega, by omega, by omega⟩

theorem aroundB (hs : List (Nat × Nat)) : ∀ (ts : List Tree) (q : List (Nat × Nat)) (f p i : Nat) (r : Rec), wfB hs ts q → (preB ts f p)[i]? = some r → AroundB hs ts q f p i r
  | [], _, f, p, i, r, _, h => by
    have h' : ([] : List Rec)[i]? = some r := h
    simp at h'
  | t :: rr, [], f, p, i, r, w, _ => w.elim
  | t :: rr, h0 :: q, f, p, i, r, w, h => by
    have h' : (t.pre f 1 p ++ preB rr (f + 1) (p + t.enc.length))[i]? = some r := h
    by_cases hi : i < (t.pre f 1 p).length
    · rw [List.getElem?_append_left hi] at h'
      have h2 : (pres [t] f 1 p)[i]? = some r := by rw [pres_cons, pres_nil, List.append_nil]; exact h'
      obtain ⟨A, B, U, W, e1, e2, e3, e4, e5, e6, e7, e8, e9, e10, e11⟩ := (around hs h0.2 [t] f 1 p i r h2).ex
      rw [pres_cons, pres_nil, List.append_nil] at e1
      rw [encs_cons, encs_nil, List.append_nil] at e3
      rw [deps_cons, deps_nil] at e10
      have e3l : t.enc.length = U.length + r.t.enc.length + W.length := by rw [e3, List.length_append, List.length_append]
      refine ⟨A, B ++ preB rr (f + 1) (p + t.enc.length), U, W ++ encs rr, ?_, e2, ?_, e4, e5, ?_, by omega, ⟨h0, ?_, e8 ((wfs_cons _ _ _ _).mpr ⟨w.1, wfs_nil _ _⟩)⟩, e9, ?_, ?_⟩
      · show t.pre f 1 p ++ preB rr (f + 1) (p + t.enc.length) = _
        rw [e1, e7]
        simp only [List.append_assoc]
      · rw [encs_cons, e3]
        simp only [List.append_assoc]
      · intro x hx
        rcases List.mem_append.mp hx with z | z
        · exact e6 x z
        · have := (preB_within _ _ _ x z).1
          omega
      · rw [e7, Nat.sub_self]; rfl
      · rw [deps_cons]; omega
      · intro t' hw'
        have ht' := hw' h0 (by rw [e7, Nat.sub_self]; rfl)
        obtain ⟨ts', A', B', g1, g2, g3, g4, g5, g6, g7⟩ := e11 t'
        obtain ⟨t2, rfl⟩ : ∃ t2, ts' = [t2] := by
          match ts', g1 with
          | [t2], _ => exact ⟨t2, rfl⟩
        rw [pres_cons, pres_nil, List.append_nil] at g2
        rw [encs_cons, encs_nil, List.append_nil] at g5
        have g6' := ((wfs_cons _ _ _ _).mp (g6 ((wfs_cons _ _ _ _).mpr ⟨w.1, wfs_nil _ _⟩) ht')).1
        refine ⟨t2 :: rr, A', B' ++ preB rr (f + 1) (p + t2.enc.length), rfl, ?_, g3, ?_, ?_, ⟨g6', w.2⟩, ?_⟩
        · show t2.pre f 1 p ++ preB rr (f + 1) (p + t2.enc.length) = _
          rw [g2, e7]
          simp only [List.append_assoc]
        · rw [List.map_append, List.map_append, g4, bare_shiftB rr (f + 1) (p + t2.enc.length) (f + 1) (p + t.enc.length)]
        · rw [encs_cons, g5]
          simp only [List.append_assoc]
        · intro D hD
          rw [deps_cons] at hD ⊢
          have := g7 D (by rw [deps_cons, deps_nil]; omega)
          rw [deps_cons, deps_nil] at this
          omega
    · rw [List.getElem?_append_right (by omega)] at h'
      obtain ⟨A, B, U, W, e1, e2, e3, e4, e5, e6, e7, e8, e9, e10, e11⟩ := (aroundB hs rr q (f + 1) (p + t.enc.length) _ r w.2 h').ex
      have ef : r.f - f = (r.f - (f + 1)) + 1 := by omega
      refine ⟨t.pre f 1 p ++ A, B, t.enc ++ U, W, ?_, ?_, ?_, ?_, ?_, e6, by omega, ?_, e9, ?_, ?_⟩
      · show t.pre f 1 p ++ preB rr (f + 1) (p + t.enc.length) = _
        rw [e1]
        simp only [List.append_assoc]
      · rw [List.length_append, e2]; omega
      · rw [encs_cons, e3]
        simp only [List.append_assoc]
      · rw [List.length_append]; omega
      · intro x hx
        rcases List.mem_append.mp hx with z | z
        · obtain ⟨w1, w2, _⟩ := pre_within _ _ _ _ x z
          have := enc_pos x.t
          omega
        · exact e5 x z
      · rw [ef, List.getElem?_cons_succ]; exact e8
      · rw [deps_cons]; omega
      · intro t' hw'
        obtain ⟨ts', A', B', g1, g2, g3, g4, g5, g6, g7⟩ := e11 t' (fun h hh => hw' h (by rw [ef, List.getElem?_cons_succ]; exact hh))
        refine ⟨t :: ts', t.pre f 1 p ++ A', B', ?_, ?_, ?_, g4, ?_, ⟨w.1, g6⟩, ?_⟩
        · rw [List.length_cons, List.length_cons, g1]
        · show t.pre f 1 p ++ preB ts' (f + 1) (p + t.enc.length) = _
          rw [g2]
          simp only [List.append_assoc]
        · rw [List.map_append, List.map_append, g3]
        · rw [encs_cons, g5]
          simp only [List.append_assoc]
        · intro D hD
          rw [deps_cons] at hD ⊢
          have := g7 D (by omega)
          omega

/-! ### the sheet -/
def encH : List (Nat × Nat) → List Int
  | [] => []
  | h :: r => (h.1 : Int) :: (h.2 : Int) :: encH r
theorem encH_len : ∀ hs, (encH hs).length = 2 * hs.length
  | [] => rfl
  | h :: r => by
    show (encH r).length + 1 + 1 = 2 * (r.length + 1)
    rw [encH_len r]; omega
def sheet (hs : List (Nat × Nat)) (ts : List Tree) : List Int := (hs.length : Int) :: (encH hs ++ encs ts)
theorem sheet_len (hs : List (Nat × Nat)) (ts : List Tree) : (sheet hs ts).length = 1 + 2 * hs.length + (encs ts).length := by
  show (encH hs ++ encs ts).length + 1 = _
  rw [List.length_append, encH_len]; omega

/-- heads as they may be -/
structure HeadsOk (hs : List (Nat × Nat)) : Prop where
  one : 1 ≤ hs.length
  most : hs.length ≤ 16
  each : ∀ (i : Nat) (h : Nat × Nat), hs[i]? = some h → h.1 ≤ 4 ∧ h.1 ≤ h.2 ∧ h.2 ≤ 12 ∧ (i = 0 → h.1 = 0)

/-! ### the depths, by a stack of ends (its top first) -/
structure MS where
  stk : List Nat
  fn : Int
  out : List (Nat × Int)
def popW (p : Nat) (l : List Nat) : List Nat := l.dropWhile fun e => decide (e ≤ p)
def mstep (s : MS) (r : Rec) : MS :=
  ⟨(r.pl + r.t.enc.length) :: popW r.pl s.stk, if popW r.pl s.stk = [] then s.fn + 1 else s.fn, s.out ++ [((popW r.pl s.stk).length + 1, if popW r.pl s.stk = [] then s.fn + 1 else s.fn)]⟩
theorem popW_all (p : Nat) : ∀ (X S : List Nat), (∀ x ∈ X, x ≤ p) → popW p (X ++ S) = popW p S
  | [], S, _ => rfl
  | x :: X, S, h => by
    have hx : decide (x ≤ p) = true := decide_eq_true (h x List.mem_cons_self)
    show List.dropWhile _ (x :: (X ++ S)) = _
    rw [List.dropWhile_cons, if_pos hx]
    exact popW_all p X S fun y hy => h y (List.mem_cons_of_mem _ hy)
theorem popW_stop (p e : Nat) (S : List Nat) (h : p < e) : popW p (e :: S) = e :: S := by
  have hx : ¬ (decide (e ≤ p) = true) := by simp; omega
  show List.dropWhile _ (e :: S) = _
  rw [List.dropWhile_cons, if_neg hx]
theorem popW_nil (p : Nat) (X : List Nat) (h : ∀ x ∈ X, x ≤ p) : popW p X = [] := by
  have := popW_all p X [] h
  rw [List.append_nil] at this
  exact this

theorem mach_pres : ∀ (ts : List Tree) (f d p : Nat) (X S : List Nat) (e0 : Nat) (fn : Int) (out : List (Nat × Int)), (∀ x ∈ X, x ≤ p) → p + (encs ts).length ≤ e0 → S.length + 1 + 1 = d →
    ∃ X' : List Nat, (∀ x ∈ X', x ≤ p + (encs ts).length) ∧ (pres ts f d p).foldl mstep ⟨X ++ e0 :: S, fn, out⟩ = ⟨X' ++ e0 :: S, fn, out ++ (pres ts f d p).map fun r => (r.d, fn)⟩ := by
  intro ts
  induction ts using forest_ind with
  | h0 =>
    intro f d p X S e0 fn out hX he hd
    refine ⟨X, fun x hx => ?_, ?_⟩
    · have := hX x hx; omega
    · rw [pres_nil]; simp
  | h1 k own ps r ih1 ih2 =>
    intro f d p X S e0 fn out hX he hd
    have el := len_node k own ps
    have er : (encs (Tree.node k own ps :: r)).length = (Tree.node k own ps).enc.length + (encs r).length := by rw [encs_cons, List.length_append]
    have hp : popW p (X ++ e0 :: S) = e0 :: S := by rw [popW_all p X _ hX, popW_stop p e0 S (by omega)]
    have st : mstep ⟨X ++ e0 :: S, fn, out⟩ ⟨p, d, f, .node k own ps⟩ = ⟨(p + (Tree.node k own ps).enc.length) :: e0 :: S, fn, out ++ [(d, fn)]⟩ := by
      show MS.mk _ _ _ = _
      dsimp only
      rw [hp, if_neg (List.cons_ne_nil _ _), List.length_cons, hd]
    obtain ⟨X1, h1, g1⟩ := ih1 f (d + 1) (p + 1 + own.length) [] (e0 :: S) (p + (Tree.node k own ps).enc.length) fn (out ++ [(d, fn)]) (fun _ h => nomatch h) (by omega) (by rw [List.length_cons]; omega)
    obtain ⟨X2, h2, g2⟩ := ih2 f d (p + (Tree.node k own ps).enc.length) (X1 ++ [p + (Tree.node k own ps).enc.length]) S e0 fn (out ++ [(d, fn)] ++ (pres ps f (d + 1) (p + 1 + own.length)).map fun r => (r.d, fn)) (fun x hx => by
      rcases List.mem_append.mp hx with z | z
      · have := h1 x z; omega
      · have : x = p + (Tree.node k own ps).enc.length := by simpa using z
        omega) (by omega) hd
    refine ⟨X2, fun x hx => by have := h2 x hx; omega, ?_⟩
    rw [pres_cons, pre_node, List.cons_append, List.foldl_cons, st, List.foldl_append]
    have g1' : List.foldl mstep ⟨(p + (Tree.node k own ps).enc.length) :: e0 :: S, fn, out ++ [(d, fn)]⟩ (pres ps f (d + 1) (p + 1 + own.length)) = _ := g1
    rw [g1', show X1 ++ (p + (Tree.node k own ps).enc.length) :: e0 :: S = (X1 ++ [p + (Tree.node k own ps).enc.length]) ++ e0 :: S by simp, g2]
    simp only [List.map_cons, List.map_append, List.append_assoc, List.cons_append, List.nil_append]

theorem mach_preB : ∀ (ts : List Tree) (f p : Nat) (X : List Nat) (out : List (Nat × Int)), (∀ x ∈ X, x ≤ p) →
    ∃ (X' : List Nat) (fn' : Int), (preB ts f p).foldl mstep ⟨X, (f : Int) - 1, out⟩ = ⟨X', fn', out ++ (preB ts f p).map fun r => (r.d, (r.f : Int))⟩
  | [], f, p, X, out, _ => ⟨X, (f : Int) - 1, by show MS.mk X ((f : Int) - 1) out = _; simp [preB]⟩
  | .node k own ps :: r, f, p, X, out, hX => by
    have el := len_node k own ps
    have hp : popW p X = [] := popW_nil p X hX
    have st : mstep ⟨X, (f : Int) - 1, out⟩ ⟨p, 1, f, .node k own ps⟩ = ⟨(p + (Tree.node k own ps).enc.length) :: [], (f : Int), out ++ [(1, (f : Int))]⟩ := by
      show MS.mk _ _ _ = _
      dsimp only
      rw [hp, if_pos rfl]
      have e : (f : Int) - 1 + 1 = f := by omega
      rw [e]
      rfl
    obtain ⟨X1, h1, g1⟩ := mach_pres ps f 2 (p + 1 + own.length) [] [] (p + (Tree.node k own ps).enc.length) (f : Int) (out ++ [(1, (f : Int))]) (fun _ h => nomatch h) (by omega) rfl
    have c : (((f + 1 : Nat) : Int) - 1) = (f : Int) := by omega
    obtain ⟨X2, fn', g2⟩ := mach_preB r (f + 1) (p + (Tree.node k own ps).enc.length) (X1 ++ (p + (Tree.node k own ps).enc.length) :: []) (out ++ [(1, (f : Int))] ++ (pres ps f 2 (p + 1 + own.length)).map fun r => (r.d, (f : Int))) (fun x hx => by
      rcases List.mem_append.mp hx with z | z
      · have := h1 x z; omega
      · have : x = p + (Tree.node k own ps).enc.length := by simpa using z
        omega)
    rw [c] at g2
    refine ⟨X2, fn', ?_⟩
    show ((Tree.node k own ps).pre f 1 p ++ preB r (f + 1) (p + (Tree.node k own ps).enc.length)).foldl mstep _ = _
    rw [pre_node, List.cons_append, List.foldl_cons, st, List.foldl_append]
    have g1' : List.foldl mstep ⟨(p + (Tree.node k own ps).enc.length) :: [], (f : Int), out ++ [(1, (f : Int))]⟩ (pres ps f (1 + 1) (p + 1 + own.length)) = _ := g1
    rw [g1', g2]
    have hm : (pres ps f 2 (p + 1 + own.length)).map (fun r => (r.d, (f : Int))) = (pres ps f (1 + 1) (p + 1 + own.length)).map fun r => (r.d, (r.f : Int)) := by
      refine List.map_congr_left fun a ha => ?_
      rw [(pres_within _ _ _ _ a ha).2.2]
    rw [hm]
    show _ = MS.mk X2 fn' (out ++ ((⟨p, 1, f, .node k own ps⟩ :: pres ps f (1 + 1) (p + 1 + own.length)) ++ preB r (f + 1) (p + (Tree.node k own ps).enc.length)).map fun r => (r.d, (r.f : Int)))
    simp only [List.map_cons, List.map_append, List.append_assoc, List.cons_append, List.nil_append]
/-- what the stack finds of the bodies -/
theorem mach_all (ts : List Tree) (p : Nat) : ((preB ts 0 p).foldl mstep ⟨[], -1, []⟩).out = (preB ts 0 p).map fun r => (r.d, (r.f : Int)) := by
  obtain ⟨X', fn', h⟩ := mach_preB ts 0 p [] [] (fun _ h => nomatch h)
  have h' : (preB ts 0 p).foldl mstep ⟨[], -1, []⟩ = _ := h
  rw [h']; simp

end K07

/-! One node exchanged, as the law asks it. Plain Lean. -/
namespace K07

theorem pre_cons (t : Tree) (f d p : Nat) : ∃ q, t.pre f d p = ⟨p, d, f, t⟩ :: q := by
  obtain ⟨k, own, ps⟩ := t
  exact ⟨_, pre_node k own ps f d p⟩
theorem filter_all {α : Type} (g : α → Bool) : ∀ l : List α, (∀ x ∈ l, g x = true) → l.filter g = l
  | [], _ => rfl
  | x :: l, h => by
    rw [List.filter_cons, if_pos (h x List.mem_cons_self), filter_all g l fun y hy => h y (List.mem_cons_of_mem _ hy)]
theorem filter_none {α : Type} (g : α → Bool) : ∀ l : List α, (∀ x ∈ l, g x = false) → l.filter g = []
  | [], _ => rfl
  | x :: l, h => by
    rw [List.filter_cons, if_neg (by rw [h x List.mem_cons_self]; exact Bool.false_ne_true), filter_none g l fun y hy => h y (List.mem_cons_of_mem _ hy)]

/-- whether a node begins within another one -/
def inR (r q : Rec) : Bool := decide (r.pl ≤ q.pl) && decide (q.pl < r.pl + r.t.enc.length)

structure Exch (hs : List (Nat × Nat)) (ts : List Tree) (i : Nat) (r : Rec) (t' : Tree) (ts' : List Tree) : Prop where
  wf : wfB hs ts' hs
  new : (sheet hs ts).take r.pl ++ t'.enc ++ (sheet hs ts).drop (r.pl + r.t.enc.length) = sheet hs ts'
  deep : deps ts' ≤ 10 ↔ r.d + t'.dep ≤ 11
  one : 1 ≤ r.d
  ahead : ((preB ts' 0 (1 + 2 * hs.length)).take i).map Rec.bare = ((preB ts 0 (1 + 2 * hs.length)).take i).map Rec.bare
  here : (preB ts' 0 (1 + 2 * hs.length))[i]? = some ⟨r.pl, r.d, r.f, t'⟩
  behind : ((preB ts' 0 (1 + 2 * hs.length)).drop (i + t'.cnt)).map Rec.bare = ((preB ts 0 (1 + 2 * hs.length)).drop (i + r.t.cnt)).map Rec.bare
  len : (preB ts' 0 (1 + 2 * hs.length)).length + r.t.cnt = (preB ts 0 (1 + 2 * hs.length)).length + t'.cnt
  fits : i + r.t.cnt ≤ (preB ts 0 (1 + 2 * hs.length)).length
  inner : ((preB ts 0 (1 + 2 * hs.length)).filter (inR r)).length = r.t.cnt
  own : ((sheet hs ts).drop r.pl).take r.t.enc.length = r.t.enc
  back : (sheet hs ts').take r.pl ++ r.t.enc ++ (sheet hs ts').drop (r.pl + t'.enc.length) = sheet hs ts
  size : (sheet hs ts').length + r.t.enc.length = (sheet hs ts).length + t'.enc.length
  room : r.pl + r.t.enc.length ≤ (sheet hs ts).length

theorem exch {hs : List (Nat × Nat)} {ts : List Tree} {i : Nat} {r : Rec} {t' : Tree} (hw : wfB hs ts hs) (hd : deps ts ≤ 10) (hr : (preB ts 0 (1 + 2 * hs.length))[i]? = some r) (ht : ∀ h, hs[r.f]? = some h → t'.wf hs h.2) : ∃ ts', Exch hs ts i r t' ts' := by
  obtain ⟨A, B, U, W, e1, e2, e3, e4, e5, e6, e7, e8, e9, e10, e11⟩ := (aroundB hs ts hs 0 (1 + 2 * hs.length) i r hw hr).ex
  rw [Nat.sub_zero] at e8
  obtain ⟨ts', A', B', g1, g2, g3, g4, g5, g6, g7⟩ := e11 t' (fun h hh => ht h (by rw [Nat.sub_zero] at hh; exact hh))
  have lA : A'.length = i := by
    have := congrArg List.length g3
    rw [List.length_map, List.length_map] at this
    omega
  have lB : B'.length = B.length := by
    have := congrArg List.length g4
    rw [List.length_map, List.length_map] at this
    exact this
  have lt : (r.t.pre r.f r.d r.pl).length = r.t.cnt := pre_len _ _ _ _
  have lt' : (t'.pre r.f r.d r.pl).length = t'.cnt := pre_len _ _ _ _
  have sg : ∃ G : List Int, G.length = r.pl ∧ sheet hs ts = G ++ (r.t.enc ++ W) ∧ sheet hs ts' = G ++ (t'.enc ++ W) := by
    refine ⟨(hs.length : Int) :: (encH hs ++ U), ?_, ?_, ?_⟩
    · rw [List.length_cons, List.length_append, encH_len]; omega
    · show (hs.length : Int) :: (encH hs ++ encs ts) = _
      rw [e3]
      simp only [List.cons_append, List.append_assoc]
    · show (hs.length : Int) :: (encH hs ++ encs ts') = _
      rw [g5]
      simp only [List.cons_append, List.append_assoc]
  obtain ⟨G, lG, s1, s2⟩ := sg
  refine ⟨ts', g6, ?_, ?_, e9, ?_, ?_, ?_, ?_, ?_, ?_, ?_, ?_, ?_, ?_⟩
  · rw [s1, s2, ← lG, List.take_left, ← List.drop_drop, List.drop_left, List.drop_left, List.append_assoc]
  · have := g7 11 (by omega)
    omega
  · rw [g2, e1, List.append_assoc, List.append_assoc, List.take_append_of_le_length (by omega), List.take_append_of_le_length (by omega), List.take_of_length_le (by omega), List.take_of_length_le (by omega), g3]
  · obtain ⟨q, hq⟩ := pre_cons t' r.f r.d r.pl
    rw [g2, hq, List.append_assoc, List.getElem?_append_right (by omega), lA, Nat.sub_self]
    rfl
  · rw [g2, e1, show i + t'.cnt = (A' ++ t'.pre r.f r.d r.pl).length by rw [List.length_append]; omega, show i + r.t.cnt = (A ++ r.t.pre r.f r.d r.pl).length by rw [List.length_append]; omega, List.drop_left, List.drop_left, g4]
  · rw [g2, e1, List.length_append, List.length_append, List.length_append, List.length_append]
    omega
  · rw [e1, List.length_append, List.length_append]
    omega
  · rw [e1, List.filter_append, List.filter_append, filter_none _ A, filter_none _ B, filter_all _ (r.t.pre r.f r.d r.pl), List.append_nil, List.nil_append, lt]
    · intro q hq
      obtain ⟨w1, w2, w3⟩ := pre_within _ _ _ _ q hq
      have := enc_pos q.t
      unfold inR
      rw [decide_eq_true w1, decide_eq_true (show q.pl < r.pl + r.t.enc.length by omega)]
      rfl
    · intro q hq
      have := e6 q hq
      unfold inR
      rw [decide_eq_false (show ¬ q.pl < r.pl + r.t.enc.length by omega), Bool.and_false]
    · intro q hq
      have := e5 q hq
      unfold inR
      rw [decide_eq_false (show ¬ r.pl ≤ q.pl by omega), Bool.false_and]
  · rw [s1, ← lG, List.drop_left, List.take_left]
  · rw [s1, s2, ← lG, List.take_left, ← List.drop_drop, List.drop_left, List.drop_left, List.append_assoc]
  · rw [s1, s2, List.length_append, List.length_append, List.length_append, List.length_append]
    omega
  · rw [s1, List.length_append, List.length_append]
    omega
/-- a node of the bodies: where it is, what it is -/
theorem preB_at {hs : List (Nat × Nat)} {ts : List Tree} {i : Nat} {r : Rec} (hw : wfB hs ts hs) (hr : (preB ts 0 (1 + 2 * hs.length))[i]? = some r) :
    (∃ h, hs[r.f]? = some h ∧ r.t.wf hs h.2) ∧ 1 ≤ r.d ∧ r.d + r.t.dep ≤ 1 + deps ts ∧ ((sheet hs ts).drop r.pl).take r.t.enc.length = r.t.enc ∧ r.pl + r.t.enc.length ≤ (sheet hs ts).length := by
  obtain ⟨A, B, U, W, e1, e2, e3, e4, e5, e6, e7, e8, e9, e10, e11⟩ := (aroundB hs ts hs 0 (1 + 2 * hs.length) i r hw hr).ex
  rw [Nat.sub_zero] at e8
  have sg : ∃ G : List Int, G.length = r.pl ∧ sheet hs ts = G ++ (r.t.enc ++ W) := by
    refine ⟨(hs.length : Int) :: (encH hs ++ U), ?_, ?_⟩
    · rw [List.length_cons, List.length_append, encH_len]; omega
    · show (hs.length : Int) :: (encH hs ++ encs ts) = _
      rw [e3]
      simp only [List.cons_append, List.append_assoc]
  obtain ⟨G, lG, s1⟩ := sg
  refine ⟨e8, e9, e10, ?_, ?_⟩
  · rw [s1, ← lG, List.drop_left, List.take_left]
  · rw [s1, List.length_append, List.length_append]
    omega
/-- each function has a node -/
theorem preB_fun : ∀ (ts : List Tree) (f p n : Nat), f ≤ n → n < f + ts.length → ∃ (i : Nat) (r : Rec), (preB ts f p)[i]? = some r ∧ r.f = n
  | [], f, p, n, h1, h2 => by
    have h2' : n < f + 0 := h2
    omega
  | t :: q, f, p, n, h1, h2 => by
    have h2' : n < f + (q.length + 1) := h2
    by_cases hn : n = f
    · obtain ⟨z, hz⟩ := pre_cons t f 1 p
      refine ⟨0, ⟨p, 1, f, t⟩, ?_, hn.symm⟩
      show (t.pre f 1 p ++ preB q (f + 1) (p + t.enc.length))[0]? = _
      rw [hz]
      rfl
    · obtain ⟨i, r, e1, e2⟩ := preB_fun q (f + 1) (p + t.enc.length) n (by omega) (by omega)
      refine ⟨(t.pre f 1 p).length + i, r, ?_, e2⟩
      show (t.pre f 1 p ++ preB q (f + 1) (p + t.enc.length))[(t.pre f 1 p).length + i]? = _
      rw [List.getElem?_append_right (by omega), Nat.add_sub_cancel_left]
      exact e1
end K07

set_option Elab.async false
set_option linter.all false
set_option maxRecDepth 100000
/-! The text by places; how the objects stand in the heap; three rules more. -/
namespace K07
open PySem PySem.Spec PyProof.Rows L2

def topS (i : Nat) : Stmt := PySem.Challenge.pw_ownchain_k07_whole_parts_exchanged.main.body.getD i (.Pass ⟨0, 0, 0, 0⟩)

/-! ### heaps -/
/-- all that was tracked is as it was, but at a -/
def But (a : Addr) (H H' : Hp) : Prop := ∀ b o, H b = some o → b ≠ a → H' b = some o
/-- tuples stay -/
def Tps (H H' : Hp) : Prop := ∀ b xs, H b = some (.tup xs) → H' b = some (.tup xs)
theorem same_but {H H' : Hp} (h : Same H H') (a : Addr) : But a H H' := fun b o e _ => h b o e
theorem same_tps {H H' : Hp} (h : Same H H') : Tps H H' := fun b xs e => h b _ e
theorem But.refl (a : Addr) (H : Hp) : But a H H := fun _ _ h _ => h
theorem But.trans {a : Addr} {H H1 H2 : Hp} (x : But a H H1) (y : But a H1 H2) : But a H H2 := fun b o e n => y b o (x b o e n) n
theorem Tps.refl (H : Hp) : Tps H H := fun _ _ h => h
theorem Tps.trans {H H1 H2 : Hp} (x : Tps H H1) (y : Tps H1 H2) : Tps H H2 := fun b xs e => y b xs (x b xs e)
theorem same_upd {H : Hp} {p : Addr} {o : HO} (h : H p = none) : Same H (upd H p o) := fun b x e => by
  rw [upd_ne (ne_of_none e h)]
  exact e
theorem but_upd {H : Hp} {p : Addr} {o : HO} : But p H (upd H p o) := fun b x e n => by
  rw [upd_ne n]
  exact e
theorem But.tps {a : Addr} {H H' : Hp} (x : But a H H') (h : ∀ xs, H a ≠ some (.tup xs)) : Tps H H' := fun b xs e => x b _ e fun z => h xs (by rw [← z]; exact e)
/-- what is changed was not there at the start -/
theorem But.same {a : Addr} {H H1 H2 : Hp} (s : Same H H1) (x : But a H1 H2) (n : H a = none) : Same H H2 := fun b o e => x b o (s b o e) (ne_of_none e n)
theorem But.free {a b : Addr} {H H' : Hp} (x : But a H H') (h : H' b = none) (hab : b ≠ a) : H b = none := by
  cases q : H b with
  | none => rfl
  | some o =>
    rw [x b o q hab] at h
    cases h

/-! ### a node in the heap: (kind, place, numbers, parts) -/
mutual
def NodeAt (H : Hp) : Tree → Nat → Addr → Prop
  | .node k own ps, p, a => ∃ (an ap : Addr) (as : List Addr), H a = some (.tup [.int k, .int (p : Int), .ref an, .ref ap]) ∧ H an = some (.tup (own.map V.int)) ∧ H ap = some (.tup (as.map V.ref)) ∧ NodesAt H ps (p + 1 + own.length) as
def NodesAt (H : Hp) : List Tree → Nat → List Addr → Prop
  | [], _, as => as = []
  | t :: r, p, as => ∃ (a : Addr) (q : List Addr), as = a :: q ∧ NodeAt H t p a ∧ NodesAt H r (p + t.enc.length) q
end
theorem nodeAt_node {H : Hp} {k : Int} {own : List Int} {ps : List Tree} {p : Nat} {a : Addr} : NodeAt H (.node k own ps) p a ↔ ∃ (an ap : Addr) (as : List Addr), H a = some (.tup [.int k, .int (p : Int), .ref an, .ref ap]) ∧ H an = some (.tup (own.map V.int)) ∧ H ap = some (.tup (as.map V.ref)) ∧ NodesAt H ps (p + 1 + own.length) as := by
  rw [NodeAt]
theorem nodesAt_nil {H : Hp} {p : Nat} {as : List Addr} : NodesAt H [] p as ↔ as = [] := by rw [NodesAt]
theorem nodesAt_cons {H : Hp} {t : Tree} {r : List Tree} {p : Nat} {as : List Addr} : NodesAt H (t :: r) p as ↔ ∃ (a : Addr) (q : List Addr), as = a :: q ∧ NodeAt H t p a ∧ NodesAt H r (p + t.enc.length) q := by rw [NodesAt]
theorem nodesAt_tps {H H' : Hp} (x : Tps H H') : ∀ (ts : List Tree) (p : Nat) (as : List Addr), NodesAt H ts p as → NodesAt H' ts p as := by
  intro ts
  induction ts using forest_ind with
  | h0 => intro p as h; rw [nodesAt_nil] at h ⊢; exact h
  | h1 k own ps r ih1 ih2 =>
    intro p as h
    rw [nodesAt_cons] at h ⊢
    obtain ⟨a, q, e, h1, h2⟩ := h
    rw [nodeAt_node] at h1
    obtain ⟨an, ap, bs, g1, g2, g3, g4⟩ := h1
    exact ⟨a, q, e, nodeAt_node.mpr ⟨an, ap, bs, x _ _ g1, x _ _ g2, x _ _ g3, ih1 _ _ g4⟩, ih2 _ _ h2⟩
theorem nodesAt_one {H : Hp} {t : Tree} {p : Nat} {a : Addr} : NodesAt H [t] p [a] ↔ NodeAt H t p a := by
  rw [nodesAt_cons]
  constructor
  · rintro ⟨b, q, e, h, _⟩
    injection e with e1 _
    rw [e1]; exact h
  · exact fun h => ⟨a, [], rfl, h, nodesAt_nil.mpr rfl⟩
theorem nodeAt_tps {H H' : Hp} (x : Tps H H') {t : Tree} {p : Nat} {a : Addr} (h : NodeAt H t p a) : NodeAt H' t p a := nodesAt_one.mp (nodesAt_tps x [t] p [a] (nodesAt_one.mpr h))
theorem nodesAt_app {H : Hp} : ∀ (us ts : List Tree) (p : Nat) (as bs : List Addr), NodesAt H us p as → NodesAt H ts (p + (encs us).length) bs → NodesAt H (us ++ ts) p (as ++ bs)
  | [], ts, p, as, bs, h, g => by
    rw [nodesAt_nil] at h
    subst h
    rw [encs_nil] at g
    exact g
  | t :: r, ts, p, as, bs, h, g => by
    rw [nodesAt_cons] at h
    obtain ⟨a, q, rfl, h1, h2⟩ := h
    rw [encs_cons, List.length_append, ← Nat.add_assoc] at g
    exact nodesAt_cons.mpr ⟨a, q ++ bs, rfl, h1, nodesAt_app r ts _ q bs h2 g⟩
theorem nodesAt_len {H : Hp} : ∀ (us : List Tree) (p : Nat) (as : List Addr), NodesAt H us p as → as.length = us.length
  | [], p, as, h => by
    rw [nodesAt_nil] at h
    subst h; rfl
  | t :: r, p, as, h => by
    rw [nodesAt_cons] at h
    obtain ⟨a, q, rfl, h1, h2⟩ := h
    rw [List.length_cons, List.length_cons, nodesAt_len r _ q h2]
theorem nodesAt_get {H : Hp} : ∀ (us : List Tree) (p : Nat) (as : List Addr) (i : Nat) (t : Tree), NodesAt H us p as → us[i]? = some t → ∃ a, as[i]? = some a ∧ NodeAt H t (p + (encs (us.take i)).length) a
  | [], p, as, i, t, h, e => by simp at e
  | u :: r, p, as, 0, t, h, e => by
    rw [nodesAt_cons] at h
    obtain ⟨a, q, rfl, h1, h2⟩ := h
    have e' : u = t := Option.some.inj e
    subst e'
    exact ⟨a, rfl, by rw [List.take_zero, encs_nil]; exact h1⟩
  | u :: r, p, as, i + 1, t, h, e => by
    rw [nodesAt_cons] at h
    obtain ⟨a, q, rfl, h1, h2⟩ := h
    obtain ⟨b, g1, g2⟩ := nodesAt_get r _ q i t h2 (by simpa using e)
    refine ⟨b, by simpa using g1, ?_⟩
    rw [List.take_succ_cons, encs_cons, List.length_append, ← Nat.add_assoc]
    exact g2

/-- the heads of functions, as a list of pairs -/
def HeadsAt (H : Hp) (a : Addr) (hs : List (Nat × Nat)) : Prop := ∃ ts : List Addr, H a = some (.lst (ts.map V.ref)) ∧ ts.length = hs.length ∧ ∀ (i : Nat) (t : Addr) (h : Nat × Nat), ts[i]? = some t → hs[i]? = some h → H t = some (.tup [.int (h.1 : Int), .int (h.2 : Int)])
theorem HeadsAt.but {H H' : Hp} {a b : Addr} {hs : List (Nat × Nat)} (h : HeadsAt H a hs) (x : But b H H') (t : Tps H H') (n : a ≠ b) : HeadsAt H' a hs := by
  obtain ⟨ts, h1, h2, h3⟩ := h
  exact ⟨ts, x _ _ h1 n, h2, fun i t' h e1 e2 => t _ _ (h3 i t' h e1 e2)⟩
theorem HeadsAt.same {H H' : Hp} {a : Addr} {hs : List (Nat × Nat)} (h : HeadsAt H a hs) (x : Same H H') : HeadsAt H' a hs := by
  obtain ⟨ts, h1, h2, h3⟩ := h
  exact ⟨ts, x _ _ h1, h2, fun i t' h e1 e2 => x _ _ (h3 i t' h e1 e2)⟩

/-- nodes by their records -/
def RecsAt (H : Hp) (rs : List Rec) (as : List Addr) : Prop := as.length = rs.length ∧ ∀ (i : Nat) (r : Rec) (a : Addr), rs[i]? = some r → as[i]? = some a → NodeAt H r.t r.pl a
theorem RecsAt.tps {H H' : Hp} {rs : List Rec} {as : List Addr} (h : RecsAt H rs as) (x : Tps H H') : RecsAt H' rs as := ⟨h.1, fun i r a e1 e2 => nodeAt_tps x (h.2 i r a e1 e2)⟩
theorem RecsAt.nil {H : Hp} : RecsAt H [] [] := ⟨rfl, fun i r a e => by simp at e⟩
theorem RecsAt.one {H : Hp} {r : Rec} {a : Addr} (h : NodeAt H r.t r.pl a) : RecsAt H [r] [a] := ⟨rfl, fun i r' a' e1 e2 => by
  cases i with
  | zero =>
    have z1 : r = r' := Option.some.inj e1
    have z2 : a = a' := Option.some.inj e2
    rw [← z1, ← z2]; exact h
  | succ i => simp at e1⟩
theorem RecsAt.app {H : Hp} {rs qs : List Rec} {as bs : List Addr} (h : RecsAt H rs as) (g : RecsAt H qs bs) : RecsAt H (rs ++ qs) (as ++ bs) := by
  refine ⟨by rw [List.length_append, List.length_append, h.1, g.1], fun i r a e1 e2 => ?_⟩
  by_cases hi : i < rs.length
  · rw [List.getElem?_append_left hi] at e1
    rw [List.getElem?_append_left (by rw [h.1]; exact hi)] at e2
    exact h.2 i r a e1 e2
  · rw [List.getElem?_append_right (by omega)] at e1
    rw [List.getElem?_append_right (by rw [h.1]; omega), h.1] at e2
    exact g.2 _ r a e1 e2
theorem RecsAt.get {H : Hp} {rs : List Rec} {as : List Addr} (h : RecsAt H rs as) {i : Nat} {r : Rec} (e : rs[i]? = some r) : ∃ a, as[i]? = some a ∧ NodeAt H r.t r.pl a := by
  obtain ⟨hi, _⟩ := List.getElem?_eq_some_iff.mp e
  have hi2 : i < as.length := by rw [h.1]; exact hi
  exact ⟨as[i], List.getElem?_eq_getElem hi2, h.2 i r _ e (List.getElem?_eq_getElem hi2)⟩
theorem RecsAt.get' {H : Hp} {rs : List Rec} {as : List Addr} (h : RecsAt H rs as) {i : Nat} {a : Addr} (e : as[i]? = some a) : ∃ r, rs[i]? = some r ∧ NodeAt H r.t r.pl a := by
  obtain ⟨hi, _⟩ := List.getElem?_eq_some_iff.mp e
  have hi2 : i < rs.length := by rw [← h.1]; exact hi
  exact ⟨rs[i], List.getElem?_eq_getElem hi2, h.2 i _ a (List.getElem?_eq_getElem hi2) e⟩

/-- a node's own tuple -/
theorem NodeAt.tup {H : Hp} {t : Tree} {p : Nat} {a : Addr} (h : NodeAt H t p a) : ∃ (an ap : Addr) (as : List Addr), H a = some (.tup [.int t.head.1, .int (p : Int), .ref an, .ref ap]) ∧ H an = some (.tup (t.head.2.map V.int)) ∧ H ap = some (.tup (as.map V.ref)) ∧ NodesAt H t.parts (p + 1 + t.head.2.length) as := by
  obtain ⟨k, own, ps⟩ := t
  exact nodeAt_node.mp h

/-! ### lists -/
theorem line_of {n : Nat} (h : n ≤ 100000) : n ≤ sizeLine := Nat.le_trans h (by rw [sizeLine_eq]; decide)
theorem line_lt {n : Nat} (h : n ≤ 100000) : n < sizeLine := Nat.lt_of_le_of_lt h (by rw [sizeLine_eq]; decide)
theorem cut_to (xs : List V) (k : Nat) : cutV xs none (some (k : Int)) = xs.take k := by
  unfold cutV
  rw [HT.sIx_none, HT.sIx_nat, List.drop_zero, Nat.sub_zero]
  by_cases h : k ≤ xs.length
  · rw [Nat.min_eq_left h]
  · rw [Nat.min_eq_right (by omega), List.take_of_length_le (Nat.le_refl _), List.take_of_length_le (by omega)]
theorem cut_from (xs : List V) (k : Nat) : cutV xs (some (k : Int)) none = xs.drop k := by
  unfold cutV
  rw [HT.sIx_none, HT.sIx_nat]
  by_cases h : k ≤ xs.length
  · rw [Nat.min_eq_left h, List.take_of_length_le (by rw [List.length_drop]; omega)]
  · rw [Nat.min_eq_right (by omega), List.drop_of_length_le (Nat.le_refl _), List.drop_of_length_le (by omega), List.take_nil]
theorem cut_mid (xs : List V) (i j : Nat) : cutV xs (some (i : Int)) (some (j : Int)) = (xs.drop i).take (j - i) := by
  unfold cutV
  rw [HT.sIx_nat, HT.sIx_nat]
  by_cases h : i ≤ xs.length
  · rw [Nat.min_eq_left h]
    by_cases h2 : j ≤ xs.length
    · rw [Nat.min_eq_left h2]
    · rw [Nat.min_eq_right (by omega), List.take_of_length_le (by rw [List.length_drop]; omega), List.take_of_length_le (by rw [List.length_drop]; omega)]
  · rw [show min i xs.length = xs.length by omega, List.drop_of_length_le (Nat.le_refl _), List.drop_of_length_le (show xs.length ≤ i by omega), List.take_nil, List.take_nil]

/-! ### rules -/
section
variable {X : Cx}
/-- xs != [], xs == [] by the length -/
def rNeNil (K : PySem.W.Frag) : R2 := fun x y H Q => ∃ a b xs, x = .ref a ∧ y = .ref b ∧ SqL K H a xs ∧ SqL K H b [] ∧ Q (.bl (!xs.isEmpty)) H
theorem op_ne_nil (hu : X.A.units < cLine) : OpR X (compareOp .NotEq) (rNeNil X.K) := by
  intro pins s σ H x y v u Q I rx ry h
  obtain ⟨a, b, xs, rfl, rfl, ha, hb, q⟩ := h
  cases rx
  cases ry
  obtain ⟨its, r1, p1, _⟩ := I.list ha
  obtain ⟨its2, r2, p2, _⟩ := I.list hb
  cases r2
  cases r1 with
  | nil => exact SeqAt.RcNeAt.lists (e := fun _ => true) p1.isList p2.isList rfl hu (fun j h1 _ => absurd h1 (Nat.not_lt_zero _)) _ _ _ _ ⟨.bl _, H, I, rfl, q⟩
  | cons r t => exact SeqAt.RcNeAt.lists_lengths p1.isList p2.isList (by simp) hu _ _ _ _ ⟨.bl _, H, I, rfl, q⟩
def rEqNil (K : PySem.W.Frag) : R2 := fun x y H Q => ∃ a b xs, x = .ref a ∧ y = .ref b ∧ SqL K H a xs ∧ SqL K H b [] ∧ Q (.bl xs.isEmpty) H
theorem op_eq_nil (hu : X.A.units < cLine) : OpR X (compareOp .Eq) (rEqNil X.K) := by
  intro pins s σ H x y v u Q I rx ry h
  obtain ⟨a, b, xs, rfl, rfl, ha, hb, q⟩ := h
  cases rx
  cases ry
  obtain ⟨its, r1, p1, _⟩ := I.list ha
  obtain ⟨its2, r2, p2, _⟩ := I.list hb
  cases r2
  cases r1 with
  | nil => exact SeqAt.eq_listAt (e := fun _ => true) p1.isList p2.isList rfl hu (fun j h1 _ => absurd h1 (Nat.not_lt_zero _)) ⟨.bl _, H, I, rfl, q⟩
  | cons r t => exact SeqAt.eq_list_lengthsAt p1.isList p2.isList (by simp) hu ⟨.bl _, H, I, rfl, q⟩
/-- C.__init__(self, ..), C an own class over ValueError without an __init__ of its own -/
theorem pe_chinit {e : Expr} {es : List Expr} {ta : TA} {x : Str} {C0 : Addr} {mc : Value} {p1 p2 pos : Pos} {pl : Sem Bool} (hg : Gl X x) (hm : X.mg x = some (.ref C0)) (r : ClX.CRead X.K C0 mc)
    (vV : PySem.W.findCls X.K (.ref C0) mc "__init__" = some (.val (.builtin "ValueError.__init__"))) (ha : PA X (e :: es) ta) (hdb : (x == ("__debug__" : Str)) = false := by decide)
    (hc : eval (.Call (.Attribute (.Name x p1) "__init__" p2) (e :: es) [] pos) X.env = (do
      let ov ← eval (.Name x p1) X.env
      standAt p2.atName
      let (f, first) ← holding [ov] (getMethod ov "__init__" pl)
      callWith pos f first (backTo pos (starEach (e :: es) X.env)) (backToKw pos (keywordEach [] X.env))) := by rfl)
    (he : starEach (e :: es) X.env = (false, eval e X.env) :: starEach es X.env := by rfl) (hpl : (backTo pos (starEach es X.env)).any (·.1) = false := by rfl) :
    PE X (.Call (.Attribute (.Name x p1) "__init__" p2) (e :: es) [] pos) (tVeI X.K ta) := by
  refine ⟨fun pins s σ H Q I h => ?_⟩
  refine PySem.W.methodCall_KW (ld_glob I hg hm ?_ hdb) hc
  refine PySem.W.method_cls I.kIn r.ga ?_
  refine PySem.W.cls_value I.kIn r.rd vV rfl ?_
  show wpAny _ _ (callWith pos (Value.builtin "ValueError.__init__") [] (backTo pos (starEach (e :: es) X.env)) []) _ _ _
  refine PyProof.Rows.callWith_method1 (thn (ha.run pos pins _ σ H _ (I.tok _) h) fun us s1 ⟨vs, H1, I1, r1, a, C, ws, ev, hl, T, ea, q⟩ => ?_) he hpl
  subst ev
  cases r1 with
  | @cons _ u0 _ ur ra rw' =>
    obtain rfl : u0 = Value.ref a := ra
    have hlen : ur.length ≤ sizeLine := by
      rw [← Paired.length rw', sizeLine_eq]
      omega
    exact oinit_ok T I1 ea hlen fun s' J => ⟨.non, H1, J, rfl, q⟩
end
end K07

set_option Elab.async false
set_option linter.all false
set_option maxRecDepth 100000
set_option maxHeartbeats 4000000
/-! kinds and sheets: parts_of, Look, heads_in, own_numbers. -/
namespace K07
open PySem PySem.Spec PyProof.Rows L2

abbrev sParts : Stmt := topS 15
abbrev sLookI : Stmt := inClass (topS 22) 0
abbrev sDue : Stmt := inClass (topS 22) 1
abbrev sWithin : Stmt := inClass (topS 22) 2
abbrev sHeadsIn : Stmt := topS 23
abbrev sOwn : Stmt := topS 24

/-- a module's constant -/
def IntC (mg : Str → Option Value) (x : Str) (n : Int) : Prop := ∃ t, mg x = some (.int n t)
/-- what of the module's names is used -/
structure Tx (K : PySem.W.Frag) (mg : Str → Option Value) (CL : Addr) : Prop where
  NUMBER : IntC mg "NUMBER" 0
  GET : IntC mg "GET" 1
  SET : IntC mg "SET" 2
  ALL : IntC mg "ALL" 3
  PICK : IntC mg "PICK" 4
  LOOP : IntC mg "LOOP" 5
  CALL : IntC mg "CALL" 6
  FAIL : IntC mg "FAIL" 7
  PUT : IntC mg "PUT" 17
  SIZE : IntC mg "SIZE" 18
  NEW : IntC mg "NEW" 19
  mFun : IntC mg "MOST_FUNCTIONS" 16
  mPar : IntC mg "MOST_PARAMS" 4
  mBox : IntC mg "MOST_BOXES" 12
  mPrt : IntC mg "MOST_PARTS" 12
  mDeep : IntC mg "MOST_DEEP" 10
  zlist : mg "list" = none
  zlen : mg "len" = none
  zrange : mg "range" = none
  zint : mg "int" = none
  ztuple : mg "tuple" = none
  zisi : mg "isinstance" = none
  zabs : mg "abs" = none
  zmax : mg "max" = none
  cl : Cls K CL
  nNum : NoAttr K CL "numbers"
  nPl : NoAttr K CL "place"

/-- a def of the top -/
def Df (K : PySem.W.Frag) (mg : Str → Option Value) (x : Str) (st : Stmt) (ps : List Str) : Prop := ∃ f fd, Fun K x x st f fd ∧ Binds K fd ps [] ∧ mg x = some (.ref f)
/-- a def that keeps its promise -/
def Kp (P : Program) (w : World) (K : PySem.W.Frag) (mg : Str → Option Value) (base : Heap) (CX : CXT) (k : Nat) (x : Str) (ps : List Str) (sp : Sp) : Prop :=
  ∃ f fd, FnOk P w K mg base CX k f fd ps sp ∧ Binds K fd ps [] ∧ mg x = some (.ref f) ∧ PySem.W.keepIn K (.ref f) = true
/-- a method of the class at C -/
def Dm (K : PySem.W.Frag) (C : Addr) (m qual : Str) (st : Stmt) (ps : List Str) : Prop := ∃ f fd, Fun K m qual st f fd ∧ Binds K fd ps [] ∧ Meth K C m f
def Km (P : Program) (w : World) (K : PySem.W.Frag) (mg : Str → Option Value) (base : Heap) (CX : CXT) (k : Nat) (C : Addr) (m : Str) (ps : List Str) (sp : Sp) : Prop :=
  ∃ f fd, FnOk P w K mg base CX k f fd ps sp ∧ Binds K fd ps [] ∧ Meth K C m f

theorem eqT {a b : Int} (h : decide (V.int a = V.int b) = true) : a = b := V.int.inj (of_decide_eq_true h)
theorem eqF {a b : Int} (h : ¬ decide (V.int a = V.int b) = true) : a ≠ b := fun e => h (decide_eq_true (by rw [e]))
theorem inT2 {a b c : Int} : inV (.int a) [.int b, .int c] = decide (a = b ∨ a = c) := by
  have e1 : (a == b) = decide (a = b) := by simp [Bool.beq_eq_decide_eq]
  have e2 : (a == c) = decide (a = c) := by simp [Bool.beq_eq_decide_eq]
  simp [inV, eqV, eq_comm, Bool.beq_eq_decide_eq]

section
variable {P : Program} {w : World} {K : PySem.W.Frag} {mg : Str → Option Value} {base : Heap} {CL : Addr}

/-! ### parts_of -/
def spParts : Sp := fun vs H Q _ => ∃ k : Int, vs = [.int k] ∧ 7 ≤ k ∧ k ≤ 19 ∧ ∀ H', Same H H' → Q (.int (partsOf k : Nat)) H'
theorem scParts : FnScope ["kind"] ["kind"] (defScope sParts) := ⟨rfl, rfl, rfl, by decide +kernel, rfl, by decide +kernel, by decide +kernel⟩
theorem ok_parts (D : Df K mg "parts_of" sParts ["kind"]) (T : Tx K mg CL) : Kp P w K mg base CX0 1 "parts_of" ["kind"] spParts := by
  obtain ⟨f, fd, F, b, g⟩ := D
  refine ⟨f, fd, ?_, b, g, F.kp⟩
  refine F.ok scParts (fun vs H Q E h => ?_) (fun cdv A outer s H vs Q E hr h => ?_)
  · obtain ⟨k, rfl, _⟩ := h
    rfl
  · obtain ⟨k, rfl, h1, h2, q⟩ := h
    obtain ⟨t1, NEW⟩ := T.NEW
    obtain ⟨t2, FAIL⟩ := T.FAIL
    obtain ⟨t3, SIZE⟩ := T.SIZE
    obtain ⟨t4, PUT⟩ := T.PUT
    refine ⟨_, pss_cons (ps_if (pt_cmpR op_eq (pv 0) (pe_glob (v := .int 19) (by rfl) NEW ⟨_, rfl⟩) (nomark _)) (pss_one (ps_ret pe_int)) pss_nil)
      (pss_cons (ps_if (pt_cmpR op_in_seq (pv 0) (pe_tup (pa_cons (pe_glob (v := .int 7) (by rfl) FAIL ⟨_, rfl⟩) (pa_cons (pe_glob (v := .int 18) (by rfl) SIZE ⟨_, rfl⟩) pa_nil))) (by rfl)) (pss_one (ps_ret pe_int)) pss_nil)
      (pss_cons (ps_if (pt_cmpR op_eq (pv 0) (pe_glob (v := .int 17) (by rfl) PUT ⟨_, rfl⟩) (nomark _)) (pss_one (ps_ret pe_int)) pss_nil)
      (pss_one (ps_ret pe_int)))), ?_⟩
    refine ⟨_, rfl, rfl, _, rfl, ite2 (fun c => ?_) (fun c => ?_)⟩
    · have e := eqT c
      have := q H (Same.refl H)
      rw [show partsOf k = 0 by unfold partsOf; rw [if_pos e]] at this
      exact this
    · have n1 := eqF c
      refine ⟨_, rfl, (by show 2 ≤ sizeLine; rw [sizeLine_eq]; decide), fun p np => ?_⟩
      have s1 : Same H (upd H p (.tup [.int 7, .int 18])) := same_upd np
      refine ⟨p, _, rfl, .inr (SqT.of upd_same), rfl, rfl, _, rfl, ?_⟩
      rw [if_neg Bool.false_ne_true, inT2]
      refine ite2 (fun c2 => ?_) (fun c2 => ?_)
      · have e := of_decide_eq_true c2
        have := q _ s1
        rw [show partsOf k = 1 by unfold partsOf; rw [if_neg n1, if_pos e]] at this
        exact this
      · have n2 : ¬ (k = 7 ∨ k = 18) := fun z => c2 (decide_eq_true z)
        refine ⟨_, rfl, rfl, _, rfl, ite2 (fun c3 => ?_) (fun c3 => ?_)⟩
        · have e := eqT c3
          have := q _ s1
          rw [show partsOf k = 3 by unfold partsOf; rw [if_neg n1, if_neg n2, if_pos e]] at this
          exact this
        · have n3 := eqF c3
          have := q _ s1
          rw [show partsOf k = 2 by unfold partsOf; rw [if_neg n1, if_neg n2, if_neg n3]] at this
          exact this

/-! ### Look -/
def lkf (l : Addr) (p : Nat) : List (Str × V) := putF "place" (.int (p : Int)) (putF "numbers" (.ref l) [])
theorem nump : ¬ (("numbers" : Str) = "place") := by decide +kernel
theorem lkf_num (l : Addr) (p : Nat) : (lkf l p).lookup ("numbers" : Str) = some (.ref l) := by
  unfold lkf
  rw [lookup_putF, if_neg nump, lookup_putF, if_pos rfl]
theorem lkf_pl (l : Addr) (p : Nat) : (lkf l p).lookup ("place" : Str) = some (.int (p : Int)) := by
  unfold lkf
  rw [lookup_putF, if_pos rfl]
theorem lkf_no (l : Addr) (p : Nat) {m : Str} (h1 : ¬ m = "place") (h2 : ¬ m = "numbers") : (lkf l p).lookup m = none := by
  unfold lkf
  rw [lookup_putF, if_neg h1, lookup_putF, if_neg h2]
  all_goals rfl
theorem lkf_eq (l : Addr) (p : Nat) : lkf l p = ([("numbers", V.ref l), ("place", V.int (p : Int))] : List (Str × V)) := by
  show (if ("numbers" : Str) = "place" then [(("numbers" : Str), V.int (p : Int))] else (("numbers" : Str), V.ref l) :: putF "place" (V.int (p : Int)) []) = ([("numbers", V.ref l), ("place", V.int (p : Int))] : List (Str × V))
  rw [if_neg nump]
  all_goals rfl
theorem lkf_put (l : Addr) (p q : Nat) : putF "place" (.int (q : Int)) (lkf l p) = lkf l q := by
  rw [lkf_eq, lkf_eq]
  show (if ("numbers" : Str) = "place" then _ else (("numbers" : Str), V.ref l) :: (if ("place" : Str) = "place" then [(("place" : Str), V.int (q : Int))] else _)) = ([("numbers", V.ref l), ("place", V.int (q : Int))] : List (Str × V))
  rw [if_neg nump, if_pos rfl]
/-- a Look over the numbers ns, at place p -/
def LookAt (CL : Addr) (H : Hp) (a : Addr) (ns : List Int) (p : Nat) : Prop := ∃ l dx : Addr, H a = some (.ins CL dx (lkf l p)) ∧ H l = some (.lst (ns.map V.int))
theorem LookAt.nl {H : Hp} {a l dx : Addr} {ns : List Int} {p : Nat} (h1 : H a = some (.ins CL dx (lkf l p))) (h2 : H l = some (.lst (ns.map V.int))) : l ≠ a := fun e => by
  rw [e, h1] at h2
  cases h2
theorem LookAt.ntup {H : Hp} {a : Addr} {ns : List Int} {p : Nat} (h : LookAt CL H a ns p) : ∀ xs, H a ≠ some (.tup xs) := fun xs e => by
  obtain ⟨l, dx, h1, _⟩ := h
  rw [h1] at e
  cases e
theorem LookAt.nlst {H : Hp} {a : Addr} {ns : List Int} {p : Nat} (h : LookAt CL H a ns p) : ∀ xs, H a ≠ some (.lst xs) := fun xs e => by
  obtain ⟨l, dx, h1, _⟩ := h
  rw [h1] at e
  cases e
theorem LookAt.same {H H' : Hp} {a : Addr} {ns : List Int} {p : Nat} (h : LookAt CL H a ns p) (x : Same H H') : LookAt CL H' a ns p := by
  obtain ⟨l, dx, h1, h2⟩ := h
  exact ⟨l, dx, x _ _ h1, x _ _ h2⟩

def spLookI (K : PySem.W.Frag) (CL : Addr) : Sp := fun vs H Q _ => ∃ (a l : Addr) (dx : Addr) (ns : List Int), vs = [.ref a, .ref l] ∧ H a = some (.ins CL dx []) ∧ SqL K H l (ns.map V.int) ∧
  ∀ H', LookAt CL H' a ns 0 → (∀ b o, H b = some o → b ≠ a → H' b = some o) → Q .non H'
theorem scLookI : FnScope ["self", "numbers"] ["self", "numbers"] (defScope sLookI) := ⟨rfl, rfl, rfl, by decide +kernel, rfl, by decide +kernel, by decide +kernel⟩
theorem ok_lookI {f : Addr} {fd : FuncData} (F : Fun K "__init__" "Look.__init__" sLookI f fd) (T : Tx K mg CL) : FnOk P w K mg base CX0 1 f fd ["self", "numbers"] (spLookI K CL) := by
  refine F.ok scLookI (fun vs H Q E h => ?_) (fun cdv A outer s H vs Q E hr h => ?_)
  · obtain ⟨a, l, dx, ns, rfl, _⟩ := h
    rfl
  · obtain ⟨a, l, dx, ns, rfl, ha, hl, q⟩ := h
    refine ⟨_, pss_cons (ps_fld (pv 0) (pe_callTy call_list_of (by rfl) T.zlist (by decide +kernel) (pa_cons (pv 1) pa_nil)) rfl) (pss_one (ps_fld (pv 0) pe_int rfl)), ?_⟩
    refine ⟨_, rfl, l, _, rfl, .inl hl, fun m nm => ?_⟩
    have nam : a ≠ m := ne_of_none ha nm
    refine ⟨_, rfl, a, CL, dx, [], rfl, (by rw [upd_ne nam]; exact ha), T.cl, T.nNum, (by show 0 < 1000; decide), ?_⟩
    refine ⟨_, rfl, a, CL, dx, _, rfl, upd_same, T.cl, T.nPl, (by show 1 < 1000; decide), ?_⟩
    refine q _ ⟨m, dx, upd_same, ?_⟩ fun b o e hb => ?_
    · rw [upd_ne nam.symm, upd_ne nam.symm, upd_same]
    · rw [upd_ne hb, upd_ne hb, upd_ne (ne_of_none e nm)]
      exact e

def spDue (CL : Addr) : Sp := fun vs H Q _ => ∃ (a : Addr) (ns : List Int) (p : Nat) (z : Int), vs = [.ref a] ∧ LookAt CL H a ns p ∧ ns[p]? = some z ∧ ns.length ≤ 100000 ∧ ∀ H', LookAt CL H' a ns (p + 1) → But a H H' → Q (.int z) H'
theorem scDue : FnScope ["self"] ["self"] (defScope sDue) := ⟨rfl, rfl, rfl, by decide +kernel, rfl, by decide +kernel, by decide +kernel⟩
theorem ok_due (D : Dm K CL "due" "Look.due" sDue ["self"]) (T : Tx K mg CL) : Km P w K mg base CX0 1 CL "due" ["self"] (spDue CL) := by
  obtain ⟨f, fd, F, b, g⟩ := D
  refine ⟨f, fd, ?_, b, g⟩
  refine F.ok scDue (fun vs H Q E h => ?_) (fun cdv A outer s H vs Q E hr h => ?_)
  · obtain ⟨a, ns, p, z, rfl, _⟩ := h
    rfl
  · obtain ⟨a, ns, p, z, rfl, ⟨l, dx, h1, h2⟩, hz, hlen, q⟩ := h
    have nl : l ≠ a := LookAt.nl h1 h2
    have hp : p < ns.length := (List.getElem?_eq_some_iff.mp hz).1
    refine ⟨_, pss_cons (ps_if (pt_cmpR op_eq (pe_fld (pv 0) rfl) (pe_callB call_len_seq (by rfl) T.zlen PySem.boot_len (pa_cons (pe_fld (pv 0) rfl) pa_nil)) (nomark _)) pss_never pss_nil)
      (pss_cons (ps_fld (pv 0) (pe_op op_add (pe_fld (pv 0) rfl) pe_int) rfl)
      (pss_one (ps_ret (pe_ix ix_list (pe_fld (pv 0) rfl) (pe_op op_sub (pe_fld (pv 0) rfl) pe_int) (fun _ _ => rfl))))), ?_⟩
    refine ⟨_, rfl, a, CL, dx, _, _, rfl, h1, T.cl, T.nPl, lkf_pl _ _, _, rfl, a, CL, dx, _, _, rfl, h1, T.cl, T.nNum, lkf_num _ _, l, _, rfl, .inl (SqL.of h2), rfl, _, rfl, ite2 (fun c => ?_) (fun c => ?_)⟩
    · have e := eqT c
      rw [List.length_map] at e
      omega
    · refine ⟨_, rfl, a, CL, dx, _, _, rfl, h1, T.cl, T.nPl, lkf_pl _ _, _, _, rfl, rfl, _, rfl, a, CL, dx, _, rfl, h1, T.cl, T.nPl, (by rw [lkf_eq]; show 2 < 1000; decide), ?_⟩
      have e1 : putF "place" (V.int ((p : Int) + 1)) (lkf l p) = lkf l (p + 1) := lkf_put l p (p + 1)
      rw [e1]
      have h1' : (upd H a (.ins CL dx (lkf l (p + 1)))) a = some (.ins CL dx (lkf l (p + 1))) := upd_same
      have h2' : (upd H a (.ins CL dx (lkf l (p + 1)))) l = some (.lst (ns.map V.int)) := by rw [upd_ne nl]; exact h2
      refine ⟨_, rfl, a, CL, dx, _, _, rfl, h1', T.cl, T.nNum, lkf_num _ _, _, rfl, a, CL, dx, _, _, rfl, h1', T.cl, T.nPl, lkf_pl _ _, _, _, rfl, rfl, l, _, _, _, rfl, rfl, SqL.of h2', at_of (j := p) (v := V.int z) (by omega) (by rw [List.getElem?_map, hz]; rfl), ?_⟩
      exact q _ ⟨l, dx, h1', h2'⟩ but_upd

def spWithin (CL : Addr) : Sp := fun vs H Q _ => ∃ (a : Addr) (ns : List Int) (p : Nat) (z lo hi : Int), vs = [.ref a, .int lo, .int hi] ∧ LookAt CL H a ns p ∧ ns[p]? = some z ∧ ns.length ≤ 100000 ∧ lo ≤ z ∧ z ≤ hi ∧ ∀ H', LookAt CL H' a ns (p + 1) → But a H H' → Q (.int z) H'
theorem scWithin : FnScope ["self", "low", "high", "number"] ["self", "low", "high"] (defScope sWithin) := ⟨rfl, rfl, rfl, by decide +kernel, rfl, by decide +kernel, by decide +kernel⟩
theorem ok_within (D : Dm K CL "within" "Look.within" sWithin ["self", "low", "high"]) (T : Tx K mg CL) (M : Km P w K mg base CX0 1 CL "due" ["self"] (spDue CL)) : Km P w K mg base CX0 2 CL "within" ["self", "low", "high"] (spWithin CL) := by
  obtain ⟨f, fd, F, b, g⟩ := D
  obtain ⟨fD, fdD, GD, bD, mD⟩ := M
  refine ⟨f, fd, ?_, b, g⟩
  refine F.ok scWithin (fun vs H Q E h => ?_) (fun cdv A outer s H vs Q E hr h => ?_)
  · obtain ⟨a, ns, p, z, lo, hi, rfl, _⟩ := h
    rfl
  · obtain ⟨a, ns, p, z, lo, hi, rfl, L, hz, hlen, hlo, hhi, q⟩ := h
    obtain ⟨l, dx, h1, h2⟩ := id L
    refine ⟨_, pss_cons (ps_set (i := 3) scWithin.nd rfl (.inl rfl) (pe_meth0 (pv 0) T.cl mD GD hr bD .nil pass0))
      (pss_cons (ps_if (pt_not (pt_chain op_le op_le (pv 1) (pv 3) (pv 2))) pss_never pss_nil)
      (pss_one (ps_ret (pv 3)))), ?_⟩
    refine ⟨_, rfl, a, dx, _, rfl, h1, lkf_no _ _ (by decide +kernel) (by decide +kernel), a, ns, p, z, rfl, L, hz, hlen, fun H' L' B' => ?_⟩
    refine ⟨_, rfl, _, rfl, _, _, rfl, rfl, _, rfl, ?_⟩
    rw [decide_eq_true hlo]
    refine iteT ⟨_, rfl, _, _, rfl, rfl, _, rfl, ?_⟩
    rw [decide_eq_true hhi]
    exact iteF ⟨_, rfl, q H' L' B'⟩
end
end K07

set_option Elab.async false
set_option linter.all false
set_option maxRecDepth 100000
set_option maxHeartbeats 4000000
/-! heads_in, own_numbers. -/
namespace K07
open PySem PySem.Spec PyProof.Rows L2

theorem encH_get : ∀ (hs : List (Nat × Nat)) (i : Nat) (h : Nat × Nat), hs[i]? = some h → (encH hs)[2 * i]? = some (h.1 : Int) ∧ (encH hs)[2 * i + 1]? = some (h.2 : Int)
  | [], i, h, e => by simp at e
  | x :: r, 0, h, e => by
    have e' : x = h := Option.some.inj e
    subst e'
    exact ⟨rfl, rfl⟩
  | x :: r, i + 1, h, e => encH_get r i h (by simpa using e)
theorem headOk_inv {hs : List (Nat × Nat)} {bx : Nat} {k : Int} {own : List Int} {m : Nat} (h : HeadOk hs bx k own m) :
    (k = 0 ∧ ∃ n, own = [n] ∧ m = 0) ∨ (k = 1 ∧ ∃ b : Nat, own = [(b : Int)] ∧ b < bx ∧ m = 0) ∨ (k = 2 ∧ ∃ b : Nat, own = [(b : Int)] ∧ b < bx ∧ m = 1) ∨ (k = 3 ∧ own = [(m : Int)] ∧ 1 ≤ m ∧ m ≤ 12) ∨
    (k = 4 ∧ ∃ j : Nat, own = [(j : Int)] ∧ 2 ≤ j ∧ j ≤ 12 ∧ m = j + 1) ∨ (k = 5 ∧ own = [] ∧ m = 2) ∨ (k = 6 ∧ ∃ f p b : Nat, hs[f]? = some (p, b) ∧ own = [(f : Int)] ∧ m = p) ∨ (7 ≤ k ∧ k ≤ 19 ∧ own = [] ∧ m = partsOf k) := by
  cases h with
  | num n => exact .inl ⟨rfl, n, rfl, rfl⟩
  | get b hb => exact .inr (.inl ⟨rfl, b, rfl, hb, rfl⟩)
  | set b hb => exact .inr (.inr (.inl ⟨rfl, b, rfl, hb, rfl⟩))
  | all m h1 h2 => exact .inr (.inr (.inr (.inl ⟨rfl, rfl, h1, h2⟩)))
  | pick m h1 h2 => exact .inr (.inr (.inr (.inr (.inl ⟨rfl, m, rfl, h1, h2, rfl⟩))))
  | loop => exact .inr (.inr (.inr (.inr (.inr (.inl ⟨rfl, rfl, rfl⟩)))))
  | call f p b e => exact .inr (.inr (.inr (.inr (.inr (.inr (.inl ⟨rfl, f, _, b, e, rfl, rfl⟩))))))
  | rest k h1 h2 => exact .inr (.inr (.inr (.inr (.inr (.inr (.inr ⟨h1, h2, rfl, rfl⟩))))))

section
variable {P : Program} {w : World} {K : PySem.W.Frag} {mg : Str → Option Value} {base : Heap} {CL : Addr}

/-! ### heads_in -/
def spHeadsIn (CL : Addr) : Sp := fun vs H Q _ => ∃ (a : Addr) (hs : List (Nat × Nat)) (rest : List Int), vs = [.ref a] ∧ LookAt CL H a ((hs.length : Int) :: (encH hs ++ rest)) 0 ∧ HeadsOk hs ∧ rest.length ≤ 90000 ∧
  ∀ H' o, LookAt CL H' a ((hs.length : Int) :: (encH hs ++ rest)) (1 + 2 * hs.length) → HeadsAt H' o hs → H o = none → But a H H' → Q (.ref o) H'
theorem scHeadsIn : FnScope ["look", "found", "function", "params"] ["look"] (defScope sHeadsIn) := ⟨rfl, rfl, rfl, by decide +kernel, rfl, by decide +kernel, by decide +kernel⟩
theorem ok_headsIn (D : Df K mg "heads_in" sHeadsIn ["look"]) (T : Tx K mg CL) (M : Km P w K mg base CX0 2 CL "within" ["self", "low", "high"] (spWithin CL)) : Kp P w K mg base CX0 3 "heads_in" ["look"] (spHeadsIn CL) := by
  obtain ⟨f, fd, F, b, g⟩ := D
  obtain ⟨fW, fdW, GW, bW, mW⟩ := M
  refine ⟨f, fd, ?_, b, g, F.kp⟩
  refine F.ok scHeadsIn (fun vs H Q E h => ?_) (fun cdv A outer s H vs Q E hr h => ?_)
  · obtain ⟨a, hs, rest, rfl, _⟩ := h
    rfl
  · obtain ⟨a, hs, rest, rfl, L, ho, hz, q⟩ := h
    obtain ⟨t1, mFun⟩ := T.mFun
    obtain ⟨t2, mPar⟩ := T.mPar
    obtain ⟨t3, mBox⟩ := T.mBox
    have hlen : ((hs.length : Int) :: (encH hs ++ rest)).length ≤ 100000 := by
      rw [List.length_cons, List.length_append, encH_len]
      have := ho.most
      omega
    have h1 := ho.one
    have h16 := ho.most
    refine ⟨_, pss_cons (ps_set (i := 1) scHeadsIn.nd rfl (.inl rfl) (pe_lst pa_nil))
      (pss_cons (ps_for PassesOwn.never rfl (pi_range1 (by rfl) T.zrange (pa_cons (pe_meth (pv 0) T.cl mW GW hr bW .nil pass0 (pa_cons pe_int (pa_cons (pe_glob (v := .int 16) (by rfl) mFun ⟨_, rfl⟩) pa_nil))) pa_nil)) (pg_name (i := 2) scHeadsIn.nd rfl (.inl rfl))
        (pss_cons (ps_set (i := 3) scHeadsIn.nd rfl (.inl rfl) (pe_meth (pv 0) T.cl mW GW hr bW .nil pass0 (pa_cons pe_int (pa_cons (pe_op op_mul (pe_glob (v := .int 4) (by rfl) mPar ⟨_, rfl⟩) (pe_callTy call_int1 (by rfl) T.zint (by decide +kernel) (pa_cons (pe_cmpR op_gt (pv 2) pe_int (nomark _)) pa_nil))) pa_nil))))
        (pss_one (ps_expr (pe_bm PySem.F.plainAttrs_list PySem.F.slot_list_append PySem.F.type_list_append mt_append (pv 1) (pa_cons (pe_tup (pa_cons (pv 3) (pa_cons (pe_meth (pv 0) T.cl mW GW hr bW .nil pass0 (pa_cons (pv 3) (pa_cons (pe_glob (v := .int 12) (by rfl) mBox ⟨_, rfl⟩) pa_nil))) pa_nil))) pa_nil))))))
      (pss_one (ps_ret (pv 1)))), ?_⟩
    -- found = []
    refine ⟨Nat.zero_le _, fun o no => ?_⟩
    obtain ⟨l, dx, e1, e2⟩ := id L
    have oa : o ≠ a := fun z => by rw [z, e1] at no; cases no
    have s1 : Same H (upd H o (.lst [])) := same_upd no
    have L1 := L.same s1
    obtain ⟨l1, dx1, f1, f2⟩ := id L1
    -- range(look.within(1, MOST_FUNCTIONS))
    refine ⟨_, rfl, a, dx1, _, rfl, f1, lkf_no _ _ (by decide +kernel) (by decide +kernel), a, _, 0, (hs.length : Int), 1, 16, rfl, L1, rfl, hlen, by omega, by omega, fun H2 L2 B2 => ?_⟩
    refine ⟨_, rfl, by omega, by omega, ?_⟩
    rw [Int.toNat_natCast]
    refine for_range (lo := 0) (n := hs.length) (fun i σ H' => ∃ (ts : List Addr) (v2 v3 : Option V), σ = [some (.ref a), some (.ref o), v2, v3] ∧ LookAt CL H' a ((hs.length : Int) :: (encH hs ++ rest)) (1 + 2 * i) ∧
      H' o = some (.lst (ts.map V.ref)) ∧ ts.length = i ∧ (∀ (j : Nat) (t : Addr) (h : Nat × Nat), ts[j]? = some t → hs[j]? = some h → H' t = some (.tup [.int (h.1 : Int), .int (h.2 : Int)])) ∧ But a H H')
      ⟨[], none, none, rfl, L2, B2 _ _ upd_same oa, rfl, fun j t h e => (by simp at e), (same_but s1 a).trans B2⟩ ?_ ?_
    · rintro i σ H3 hi ⟨ts, v2, v3, rfl, L3, eo, hl, hts, B3⟩
      obtain ⟨h, hh⟩ : ∃ h, hs[i]? = some h := ⟨hs[i], List.getElem?_eq_getElem hi⟩
      obtain ⟨b1, b2, b3, b4⟩ := ho.each i h hh
      obtain ⟨g1, g2⟩ := encH_get hs i h hh
      have le : (encH hs).length = 2 * hs.length := encH_len hs
      have n1 : ((hs.length : Int) :: (encH hs ++ rest))[1 + 2 * i]? = some (h.1 : Int) := by
        rw [show 1 + 2 * i = 2 * i + 1 by omega, List.getElem?_cons_succ, List.getElem?_append_left (by omega)]
        exact g1
      have n2 : ((hs.length : Int) :: (encH hs ++ rest))[1 + 2 * i + 1]? = some (h.2 : Int) := by
        rw [show 1 + 2 * i + 1 = 2 * i + 1 + 1 by omega, List.getElem?_cons_succ, List.getElem?_append_left (by omega)]
        exact g2
      obtain ⟨l3, dx3, k1, k2⟩ := id L3
      -- params = look.within(0, MOST_PARAMS * int(function > 0))
      refine ⟨_, rfl, a, dx3, _, rfl, k1, lkf_no _ _ (by decide +kernel) (by decide +kernel), _, rfl, _, _, rfl, rfl, .inr ⟨_, rfl, _, _, rfl, rfl, .inl ⟨by decide, by decide⟩, ?_⟩⟩
      refine ⟨a, _, 1 + 2 * i, (h.1 : Int), 0, _, rfl, L3, n1, hlen, by omega, ?_, fun H4 L4 B4 => ?_⟩
      · by_cases hi0 : i = 0
        · have := b4 hi0
          rw [this]
          split <;> decide
        · rw [if_pos (decide_eq_true (show (0 : Int) < 0 + (i : Int) by omega))]
          omega
      obtain ⟨l4, dx4, m1, m2⟩ := id L4
      have T34 : Tps H3 H4 := B4.tps L3.ntup
      have eo4 : H4 o = some (.lst (ts.map V.ref)) := B4 _ _ eo oa
      -- found.append((params, look.within(params, MOST_BOXES)))
      refine ⟨.ref o, rfl, .inl ⟨rfl, _, .inl (.inl eo4)⟩, _, rfl, _, rfl, a, dx4, _, rfl, m1, lkf_no _ _ (by decide +kernel) (by decide +kernel), _, rfl, ?_⟩
      refine ⟨a, _, 1 + 2 * i + 1, (h.2 : Int), (h.1 : Int), 12, rfl, L4, n2, hlen, by omega, by omega, fun H5 L5 B5 => ?_⟩
      refine ⟨line_of (by show 2 ≤ 100000; decide), fun p np => ?_⟩
      have eo5 : H5 o = some (.lst (ts.map V.ref)) := B5 _ _ eo4 oa
      have s5 : Same H5 (upd H5 p (.tup [.int (h.1 : Int), .int (h.2 : Int)])) := same_upd np
      have T45 : Tps H4 H5 := B5.tps L4.ntup
      refine ⟨o, _, _, rfl, rfl, s5 _ _ eo5, line_lt (by rw [List.length_map, hl]; omega), ?_⟩
      have L6 := L5.same s5
      obtain ⟨l6, dx6, r1, r2⟩ := id L6
      have pn : o ≠ p := ne_of_none eo5 np
      refine ⟨ts ++ [p], _, _, rfl, ⟨l6, dx6, by rw [upd_ne oa.symm]; exact r1, ?_⟩, ?_, by rw [List.length_append, hl]; rfl, fun j t h' e1 e2 => ?_, fun b x e n => ?_⟩
      · have : l6 ≠ o := fun z => by
          rw [z, s5 _ _ eo5] at r2
          have r3 := Option.some.inj r2
          injection r3 with r4
          have r5 := congrArg List.length r4
          rw [List.length_map, List.length_map, List.length_cons, List.length_append, le, hl] at r5
          omega
        rw [upd_ne this]
        exact r2
      · rw [upd_same, List.map_append]
        rfl
      · by_cases hj : j < ts.length
        · rw [List.getElem?_append_left hj] at e1
          have := T45 _ _ (T34 _ _ (hts j t h' e1 e2))
          rw [upd_ne (ne_of (s5 _ _ this) (s5 _ _ eo5) (by intro z; cases z))]
          exact s5 _ _ this
        · have hj2 : j = ts.length := by
            have := (List.getElem?_eq_some_iff.mp e1).1
            rw [List.length_append] at this
            have : j < ts.length + 1 := this
            omega
          subst hj2
          rw [List.getElem?_append_right (Nat.le_refl _), Nat.sub_self] at e1
          have e1' : p = t := Option.some.inj e1
          subst e1'
          rw [hl, hh] at e2
          cases e2
          rw [upd_ne pn.symm, upd_same]
      · have := B5 b x (B4 b x (B3 b x e n) n) n
        rw [upd_ne (ne_of_none e no)]
        exact s5 _ _ this
    · rintro σ H3 ⟨ts, v2, v3, rfl, L3, eo, hl, hts, B3⟩
      exact ⟨_, rfl, q H3 o L3 ⟨ts, eo, hl, hts⟩ no B3⟩

/-! ### own_numbers -/
def spOwn (CL : Addr) : Sp := fun vs H Q _ => ∃ (a ha : Addr) (hs : List (Nat × Nat)) (bx : Nat) (k : Int) (ns : List Int) (p : Nat) (own : List Int) (m : Nat), vs = [.ref a, .ref ha, .int (bx : Int), .int k] ∧ LookAt CL H a ns p ∧ HeadsAt H ha hs ∧
  HeadOk hs bx k own m ∧ (∀ i z, own[i]? = some z → ns[p + i]? = some z) ∧ ns.length ≤ 100000 ∧
  ∀ H' t an, H' t = some (.tup [.ref an, .int (m : Int)]) → H' an = some (.tup (own.map V.int)) → LookAt CL H' a ns (p + own.length) → But a H H' → Q (.ref t) H'
theorem scOwn : FnScope ["look", "heads", "boxes", "kind", "many", "function"] ["look", "heads", "boxes", "kind"] (defScope sOwn) := ⟨rfl, rfl, rfl, by decide +kernel, rfl, by decide +kernel, by decide +kernel⟩
/-- the two tuples of an answer -/
theorem own_end {H H1 : Hp} {Q : VK} {a : Addr} {ns : List Int} {p : Nat} {own : List Int} {m : Nat} {vm : V} (em : vm = .int (m : Int))
    (q : ∀ H' t an, H' t = some (.tup [.ref an, .int (m : Int)]) → H' an = some (.tup (own.map V.int)) → LookAt CL H' a ns (p + own.length) → But a H H' → Q (.ref t) H') (L : LookAt CL H1 a ns (p + own.length)) (B : But a H H1) :
    ∀ an, H1 an = none → ∀ t, (upd H1 an (.tup (own.map V.int))) t = none → Q (.ref t) (upd (upd H1 an (.tup (own.map V.int))) t (.tup [.ref an, vm])) := fun an nan t nt => by
  subst em
  have s1 : Same H1 (upd H1 an (.tup (own.map V.int))) := same_upd nan
  have s2 : Same (upd H1 an (.tup (own.map V.int))) (upd (upd H1 an (.tup (own.map V.int))) t (.tup [.ref an, .int (m : Int)])) := same_upd nt
  exact q _ t an upd_same (s2 _ _ upd_same) (L.same (s1.trans s2)) (B.trans (same_but (s1.trans s2) a))
theorem two_line : 2 ≤ sizeLine := line_of (by decide)
theorem one_line : 1 ≤ sizeLine := line_of (by decide)
theorem ok_own (D : Df K mg "own_numbers" sOwn ["look", "heads", "boxes", "kind"]) (T : Tx K mg CL) (M : Km P w K mg base CX0 2 CL "within" ["self", "low", "high"] (spWithin CL)) (MD : Km P w K mg base CX0 1 CL "due" ["self"] (spDue CL))
    (MP : Kp P w K mg base CX0 1 "parts_of" ["kind"] spParts) : Kp P w K mg base CX0 3 "own_numbers" ["look", "heads", "boxes", "kind"] (spOwn CL) := by
  obtain ⟨f, fd, F, b, g⟩ := D
  obtain ⟨fW, fdW, GW, bW, mW⟩ := M
  obtain ⟨fU, fdU, GU, bU, mU⟩ := MD
  obtain ⟨fP, fdP, GP, bP, mP, kP⟩ := MP
  refine ⟨f, fd, ?_, b, g, F.kp⟩
  refine F.ok scOwn (fun vs H Q E h => ?_) (fun cdv A outer s H vs Q E hr h => ?_)
  · obtain ⟨a, ha, hs, bx, k, ns, p, own, m, rfl, _⟩ := h
    rfl
  · obtain ⟨a, ha, hs, bx, k, ns, p, own, m, rfl, L, hH, hok, hns, hlen, q⟩ := h
    obtain ⟨t0, NUMBER⟩ := T.NUMBER
    obtain ⟨t1, GET⟩ := T.GET
    obtain ⟨t2, SET⟩ := T.SET
    obtain ⟨t3, ALL⟩ := T.ALL
    obtain ⟨t4, PICK⟩ := T.PICK
    obtain ⟨t5, LOOP⟩ := T.LOOP
    obtain ⟨t6, CALL⟩ := T.CALL
    obtain ⟨t7, mPrt⟩ := T.mPrt
    have hv := headOk_inv hok
    have hr1 : Room 1 _ := hr.mono (by decide)
    refine ⟨_, pss_cons (ps_if (pt_cmpR op_eq (pv 3) (pe_glob (v := .int 0) (by rfl) NUMBER ⟨_, rfl⟩) (nomark _)) (pss_one (ps_ret (pe_tup (pa_cons (pe_tup (pa_cons (pe_meth0 (pv 0) T.cl mU GU hr1 bU .nil pass0) pa_nil)) (pa_cons pe_int pa_nil))))) pss_nil)
      (pss_cons (ps_if (pt_cmpR op_eq (pv 3) (pe_glob (v := .int 1) (by rfl) GET ⟨_, rfl⟩) (nomark _)) (pss_one (ps_ret (pe_tup (pa_cons (pe_tup (pa_cons (pe_meth (pv 0) T.cl mW GW hr bW .nil pass0 (pa_cons pe_int (pa_cons (pe_op op_sub (pv 2) pe_int) pa_nil))) pa_nil)) (pa_cons pe_int pa_nil))))) pss_nil)
      (pss_cons (ps_if (pt_cmpR op_eq (pv 3) (pe_glob (v := .int 2) (by rfl) SET ⟨_, rfl⟩) (nomark _)) (pss_one (ps_ret (pe_tup (pa_cons (pe_tup (pa_cons (pe_meth (pv 0) T.cl mW GW hr bW .nil pass0 (pa_cons pe_int (pa_cons (pe_op op_sub (pv 2) pe_int) pa_nil))) pa_nil)) (pa_cons pe_int pa_nil))))) pss_nil)
      (pss_cons (ps_if (pt_cmpR op_eq (pv 3) (pe_glob (v := .int 3) (by rfl) ALL ⟨_, rfl⟩) (nomark _)) (pss_cons (ps_set (i := 4) scOwn.nd rfl (.inl rfl) (pe_meth (pv 0) T.cl mW GW hr bW .nil pass0 (pa_cons pe_int (pa_cons (pe_glob (v := .int 12) (by rfl) mPrt ⟨_, rfl⟩) pa_nil)))) (pss_one (ps_ret (pe_tup (pa_cons (pe_tup (pa_cons (pv 4) pa_nil)) (pa_cons (pv 4) pa_nil)))))) pss_nil)
      (pss_cons (ps_if (pt_cmpR op_eq (pv 3) (pe_glob (v := .int 4) (by rfl) PICK ⟨_, rfl⟩) (nomark _)) (pss_cons (ps_set (i := 4) scOwn.nd rfl (.inl rfl) (pe_meth (pv 0) T.cl mW GW hr bW .nil pass0 (pa_cons pe_int (pa_cons (pe_glob (v := .int 12) (by rfl) mPrt ⟨_, rfl⟩) pa_nil)))) (pss_one (ps_ret (pe_tup (pa_cons (pe_tup (pa_cons (pv 4) pa_nil)) (pa_cons (pe_op op_add (pv 4) pe_int) pa_nil)))))) pss_nil)
      (pss_cons (ps_if (pt_cmpR op_eq (pv 3) (pe_glob (v := .int 6) (by rfl) CALL ⟨_, rfl⟩) (nomark _)) (pss_cons (ps_set (i := 5) scOwn.nd rfl (.inl rfl) (pe_meth (pv 0) T.cl mW GW hr bW .nil pass0 (pa_cons pe_int (pa_cons (pe_op op_sub (pe_callB call_len_seq (by rfl) T.zlen PySem.boot_len (pa_cons (pv 1) pa_nil)) pe_int) pa_nil)))) (pss_one (ps_ret (pe_tup (pa_cons (pe_tup (pa_cons (pv 5) pa_nil)) (pa_cons (pe_ix ix_tup (pe_ix ix_list (pv 1) (pv 5) (fun _ _ => rfl)) pe_int (fun _ _ => rfl)) pa_nil)))))) pss_nil)
      (pss_cons (ps_if (pt_cmpR op_eq (pv 3) (pe_glob (v := .int 5) (by rfl) LOOP ⟨_, rfl⟩) (nomark _)) (pss_one (ps_ret (pe_tup (pa_cons (pe_tup pa_nil) (pa_cons pe_int pa_nil))))) pss_nil)
      (pss_one (ps_ret (pe_tup (pa_cons (pe_tup pa_nil) (pa_cons (pe_call GP hr1 (by rfl) mP kP bP .nil pass0 (pa_cons (pv 3) pa_nil)) pa_nil)))))))))))  , ?_⟩
    obtain ⟨l, dx, e1, e2⟩ := id L
    have no1 : (lkf l p).lookup ("within" : Str) = none := lkf_no _ _ (by decide +kernel) (by decide +kernel)
    have no2 : (lkf l p).lookup ("due" : Str) = none := lkf_no _ _ (by decide +kernel) (by decide +kernel)
    refine ⟨_, rfl, rfl, _, rfl, ite2 (fun c => ?_) (fun c => ?_)⟩
    · have e := eqT c
      obtain ⟨n, rfl, rfl⟩ : ∃ n, own = [n] ∧ m = 0 := by
        rcases hv with h | h | h | h | h | h | h | h
        · exact h.2
        all_goals (exfalso; have := h.1; omega)
      refine ⟨_, rfl, a, dx, _, rfl, e1, no2, a, ns, p, n, rfl, L, hns 0 n rfl, hlen, fun H1 L1 B1 => ?_⟩
      exact ⟨one_line, fun an nan => ⟨two_line, fun t nt => own_end rfl q L1 B1 an nan t nt⟩⟩
    have n0 := eqF c
    refine ⟨_, rfl, rfl, _, rfl, ite2 (fun c => ?_) (fun c => ?_)⟩
    · have e := eqT c
      obtain ⟨i, rfl, hi, rfl⟩ : ∃ i : Nat, own = [(i : Int)] ∧ i < bx ∧ m = 0 := by
        rcases hv with h | h | h | h | h | h | h | h
        · exfalso; have := h.1; omega
        · exact h.2
        all_goals (exfalso; have := h.1; omega)
      refine ⟨_, rfl, a, dx, _, rfl, e1, no1, _, rfl, _, _, rfl, rfl, a, ns, p, (i : Int), 0, (bx : Int) - 1, rfl, L, hns 0 _ rfl, hlen, by omega, by omega, fun H1 L1 B1 => ?_⟩
      exact ⟨one_line, fun an nan => ⟨two_line, fun t nt => own_end rfl q L1 B1 an nan t nt⟩⟩
    have n1 := eqF c
    refine ⟨_, rfl, rfl, _, rfl, ite2 (fun c => ?_) (fun c => ?_)⟩
    · have e := eqT c
      obtain ⟨i, rfl, hi, rfl⟩ : ∃ i : Nat, own = [(i : Int)] ∧ i < bx ∧ m = 1 := by
        rcases hv with h | h | h | h | h | h | h | h
        · exfalso; have := h.1; omega
        · exfalso; have := h.1; omega
        · exact h.2
        all_goals (exfalso; have := h.1; omega)
      refine ⟨_, rfl, a, dx, _, rfl, e1, no1, _, rfl, _, _, rfl, rfl, a, ns, p, (i : Int), 0, (bx : Int) - 1, rfl, L, hns 0 _ rfl, hlen, by omega, by omega, fun H1 L1 B1 => ?_⟩
      exact ⟨one_line, fun an nan => ⟨two_line, fun t nt => own_end rfl q L1 B1 an nan t nt⟩⟩
    have n2 := eqF c
    refine ⟨_, rfl, rfl, _, rfl, ite2 (fun c => ?_) (fun c => ?_)⟩
    · have e := eqT c
      obtain ⟨rfl, h1, h2⟩ : own = [(m : Int)] ∧ 1 ≤ m ∧ m ≤ 12 := by
        rcases hv with h | h | h | h | h | h | h | h
        · exfalso; have := h.1; omega
        · exfalso; have := h.1; omega
        · exfalso; have := h.1; omega
        · exact h.2
        all_goals (exfalso; have := h.1; omega)
      refine ⟨_, rfl, a, dx, _, rfl, e1, no1, a, ns, p, (m : Int), 1, 12, rfl, L, hns 0 _ rfl, hlen, by omega, by omega, fun H1 L1 B1 => ?_⟩
      exact ⟨_, rfl, one_line, fun an nan => ⟨_, rfl, two_line, fun t nt => own_end rfl q L1 B1 an nan t nt⟩⟩
    have n3 := eqF c
    refine ⟨_, rfl, rfl, _, rfl, ite2 (fun c => ?_) (fun c => ?_)⟩
    · have e := eqT c
      obtain ⟨j, rfl, h1, h2, rfl⟩ : ∃ j : Nat, own = [(j : Int)] ∧ 2 ≤ j ∧ j ≤ 12 ∧ m = j + 1 := by
        rcases hv with h | h | h | h | h | h | h | h
        · exfalso; have := h.1; omega
        · exfalso; have := h.1; omega
        · exfalso; have := h.1; omega
        · exfalso; have := h.1; omega
        · exact h.2
        all_goals (exfalso; have := h.1; omega)
      refine ⟨_, rfl, a, dx, _, rfl, e1, no1, a, ns, p, (j : Int), 2, 12, rfl, L, hns 0 _ rfl, hlen, by omega, by omega, fun H1 L1 B1 => ?_⟩
      exact ⟨_, rfl, one_line, fun an nan => ⟨_, rfl, _, _, rfl, rfl, two_line, fun t nt => own_end rfl q L1 B1 an nan t nt⟩⟩
    have n4 := eqF c
    refine ⟨_, rfl, rfl, _, rfl, ite2 (fun c => ?_) (fun c => ?_)⟩
    · have e := eqT c
      obtain ⟨j, pp, bb, hj, rfl, rfl⟩ : ∃ f p b : Nat, hs[f]? = some (p, b) ∧ own = [(f : Int)] ∧ m = p := by
        rcases hv with h | h | h | h | h | h | h | h
        · exfalso; have := h.1; omega
        · exfalso; have := h.1; omega
        · exfalso; have := h.1; omega
        · exfalso; have := h.1; omega
        · exfalso; have := h.1; omega
        · exfalso; have := h.1; omega
        · exact h.2
        · exfalso; have := h.1; omega
      have hjl := (List.getElem?_eq_some_iff.mp hj).1
      obtain ⟨ts, k1, k2, k3⟩ := id hH
      refine ⟨_, rfl, a, dx, _, rfl, e1, no1, _, rfl, ha, _, rfl, .inl (SqL.of k1), _, _, rfl, rfl, ?_⟩
      refine ⟨a, ns, p, (j : Int), 0, _, rfl, L, hns 0 _ rfl, hlen, by omega, ?_, fun H1 L1 B1 => ?_⟩
      · rw [List.length_map, k2]
        omega
      have hna : ha ≠ a := fun z => by rw [z, e1] at k1; cases k1
      have hH1 : HeadsAt H1 ha hs := hH.but B1 (B1.tps L.ntup) hna
      refine ⟨_, rfl, one_line, fun an nan => ?_⟩
      have s1 : Same H1 (upd H1 an (.tup [V.int (j : Int)])) := same_upd nan
      obtain ⟨ts1, r1, r2, r3⟩ := hH1.same s1
      have htl : j < ts1.length := by omega
      refine ⟨_, rfl, _, rfl, ha, _, _, _, rfl, rfl, SqL.of r1, atI_nat (v := V.ref ts1[j]) (by rw [List.getElem?_map, List.getElem?_eq_getElem htl]; rfl), ts1[j], _, 0, .int (m : Int), rfl, rfl, SqT.of (r3 j _ _ (List.getElem?_eq_getElem htl) hj), rfl, two_line, fun t nt => own_end rfl q L1 B1 an nan t nt⟩
    have n6 := eqF c
    refine ⟨_, rfl, rfl, _, rfl, ite2 (fun c => ?_) (fun c => ?_)⟩
    · have e := eqT c
      obtain ⟨rfl, rfl⟩ : own = [] ∧ m = 2 := by
        rcases hv with h | h | h | h | h | h | h | h
        · exfalso; have := h.1; omega
        · exfalso; have := h.1; omega
        · exfalso; have := h.1; omega
        · exfalso; have := h.1; omega
        · exfalso; have := h.1; omega
        · exact h.2
        all_goals (exfalso; have := h.1; omega)
      exact ⟨Nat.zero_le _, fun an nan => ⟨two_line, fun t nt => own_end rfl q L (But.refl a H) an nan t nt⟩⟩
    have n5 := eqF c
    obtain ⟨h7, h19, rfl, rfl⟩ : 7 ≤ k ∧ k ≤ 19 ∧ own = [] ∧ m = partsOf k := by
      rcases hv with h | h | h | h | h | h | h | h
      all_goals first | exact h | (exfalso; have := h.1; omega)
    refine ⟨Nat.zero_le _, fun an nan => ⟨_, rfl, k, rfl, h7, h19, fun H2 s2 => ⟨two_line, fun t nt => ?_⟩⟩⟩
    have s1 : Same H (upd H an (.tup [])) := same_upd nan
    have s3 : Same H2 (upd H2 t (.tup [.ref an, .int (partsOf k : Nat)])) := same_upd nt
    exact q _ t an upd_same (s3 _ _ (s2 _ _ upd_same)) (L.same ((s1.trans s2).trans s3)) (same_but ((s1.trans s2).trans s3) a)
end
end K07

set_option Elab.async false
set_option linter.all false
set_option maxRecDepth 100000
set_option maxHeartbeats 4000000
/-! NoSheet, node_in. -/
namespace K07
open PySem PySem.Spec PyProof.Rows L2

abbrev sNoI : Stmt := inClass (topS 2) 0
abbrev sNode : Stmt := topS 25

/-- the error's class, at CN, and its base's, at C0 -/
structure Nx (K : PySem.W.Frag) (mg : Str → Option Value) (C0 CN fI : Addr) (mc : Value) : Prop where
  oex : OexC K CN
  iC : PySem.W.findIn K (.ref CN) "__init__" = some (some (.ref fI))
  tI : PySem.W.typeIn K (.ref fI) = some (.type "function")
  gN : mg "NoSheet" = some (.ref CN)
  g0 : mg "ChainError" = some (.ref C0)
  rd : ClX.CRead K C0 mc
  vV : PySem.W.findCls K (.ref C0) mc "__init__" = some (.val (.builtin "ValueError.__init__"))
  nPl : PySem.W.findIn K (.ref CN) "place" = some none
  nWo : PySem.W.findIn K (.ref CN) "word" = some none
  xf : XfC K CN
  te : PySem.W.exmOne K (.ref CN) (.ref CN) = some true

/-- an error of the class at CN, with the word deep: its own dict at d -/
def DeepX (CN : Addr) (cls : Value) (d : Option Addr) (H : Hp) : Prop := cls = .ref CN ∧ ∃ (dd : Addr) (fs : List (Str × V)) (z : Int), d = some dd ∧ H dd = some (.xd fs) ∧ fs.lookup ("place" : Str) = some (V.int z) ∧ fs.lookup ("word" : Str) = some (V.str "deep")

section
variable {P : Program} {w : World} {K : PySem.W.Frag} {mg : Str → Option Value} {base : Heap} {CL C0 CN fI : Addr} {mc : Value}

def spNoI (CN : Addr) : Sp := fun vs H Q _ => ∃ (a : Addr) (p : Int) (x : Str), vs = [.ref a, .int p, .str x] ∧ H a = some (exo a CN none) ∧
  ∀ H' d, H d = none → d ≠ a → H' a = some (exo a CN (some d)) → H' d = some (exd d [("word", .str x), ("place", .int p)]) → (∀ b o, H b = some o → b ≠ a → H' b = some o) → Q .non H'
theorem scNoI : FnScope ["self", "place", "word"] ["self", "place", "word"] (defScope sNoI) := ⟨rfl, rfl, rfl, by decide +kernel, rfl, by decide +kernel, by decide +kernel⟩
theorem ok_noI {fd : FuncData} (F : Fun K "__init__" "NoSheet.__init__" sNoI fI fd) (N : Nx K mg C0 CN fI mc) : FnOk P w K mg base CX0 1 fI fd ["self", "place", "word"] (spNoI CN) := by
  refine F.ok scNoI (fun vs H Q E h => ?_) (fun cdv A outer s H vs Q E hr h => ?_)
  · obtain ⟨a, p, x, rfl, _⟩ := h
    rfl
  · obtain ⟨a, p, x, rfl, ha, q⟩ := h
    refine ⟨_, pss_cons (ps_expr (pe_chinit (by rfl) N.g0 N.rd N.vV (pa_cons (pv 0) (pa_cons pe_str pa_nil)))) (pss_cons (ps_ost (pv 0) (pv 1)) (pss_one (ps_ost (pv 0) (pv 2)))), ?_⟩
    refine ⟨_, rfl, a, CN, [_], rfl, (by show 1 ≤ 1000; decide), N.oex, ha, ?_⟩
    refine ⟨_, rfl, _, rfl, a, CN, rfl, N.oex, N.nPl, .inl ⟨ha, fun dx nd nda => ?_⟩⟩
    refine ⟨_, rfl, _, rfl, a, CN, rfl, N.oex, N.nWo, .inr ⟨dx, _, upd_same, (by rw [upd_ne nda, upd_same]), (by show 1 ≤ 900; decide), ?_⟩⟩
    refine q _ dx nd nda (by rw [upd_ne nda.symm, upd_same]) upd_same fun b o e hb => ?_
    rw [upd_ne (ne_of_none e nd), upd_ne hb, upd_ne (ne_of_none e nd)]
    exact e

theorem lk_word (x : Str) (p : Int) : List.lookup ("word" : Str) [(("word" : Str), V.str x), ("place", .int p)] = some (.str x) := by
  rw [lookup_put, if_pos rfl]
theorem lk_place (x : Str) (p : Int) : List.lookup ("place" : Str) [(("word" : Str), V.str x), ("place", .int p)] = some (.int p) := by
  rw [lookup_put, if_neg (by decide +kernel), lookup_put, if_pos rfl]
/-- NoSheet(p, "deep"), made: what an error leaves -/
theorem deep_end {H : Hp} {p : Int} {E : XK} (h : ∀ cls d H', DeepX CN cls d H' → Same H H' → E cls d H') (a : Addr) (na : H a = none) :
    spNoI CN (.ref a :: ([.int p, .str "deep"] ++ [])) (upd H a (exo a CN none)) (fun v H2 => v = .non ∧ ∃ (d : Addr) (fs : List (Str × V)), H2 a = some (exo a CN (some d)) ∧ H2 d = some (exd d fs) ∧ H d = none ∧ E (.ref CN) (some d) (upd (del H2 a) d (.xd fs))) (fun _ _ _ => False) := by
  refine ⟨a, p, "deep", rfl, upd_same, fun H' d nd nda ea ed fr => ⟨rfl, d, _, ea, ed, ?_, ?_⟩⟩
  · rw [upd_ne nda] at nd
    exact nd
  · have nd' : H d = none := by
      rw [upd_ne nda] at nd
      exact nd
    refine h _ _ _ ⟨rfl, d, _, p, rfl, upd_same, lk_place _ _, lk_word _ _⟩ fun b o e => ?_
    have nba : b ≠ a := ne_of_none e na
    rw [upd_ne (ne_of_none e nd'), del_ne nba]
    exact fr b o (by rw [upd_ne nba]; exact e) nba

/-! ### node_in -/
/-- by n calls at most, one within another -/
def spNode (CL CN : Addr) (n : Nat) : Sp := fun vs H Q E => ∃ (a ha : Addr) (hs : List (Nat × Nat)) (bx d : Nat) (ns : List Int) (p : Nat) (t : Tree) (rest : List Int), vs = [.ref a, .ref ha, .int (bx : Int), .int (d : Int)] ∧ d + n = 11 ∧ LookAt CL H a ns p ∧ HeadsAt H ha hs ∧
  t.wf hs bx ∧ ns.drop p = t.enc ++ rest ∧ ns.length ≤ 100000 ∧
  (d + t.dep ≤ 11 → ∀ H' o, NodeAt H' t p o → LookAt CL H' a ns (p + t.enc.length) → But a H H' → Q (.ref o) H') ∧
  (¬ d + t.dep ≤ 11 → ∀ cls dd H', DeepX CN cls dd H' → But a H H' → E cls dd H')
theorem scNode : FnScope ["look", "heads", "boxes", "deep", "place", "kind", "numbers", "many", "parts", "part"] ["look", "heads", "boxes", "deep"] (defScope sNode) := ⟨rfl, rfl, rfl, by decide +kernel, rfl, by decide +kernel, by decide +kernel⟩

theorem headOk_kind {hs : List (Nat × Nat)} {bx : Nat} {k : Int} {own : List Int} {m : Nat} (h : HeadOk hs bx k own m) : 0 ≤ k ∧ k ≤ 19 := by
  rcases headOk_inv h with h | h | h | h | h | h | h | h
  all_goals (have := h.1; first | omega | (have := h.2.1; omega))
theorem headOk_many {hs : List (Nat × Nat)} {bx : Nat} {k : Int} {own : List Int} {m : Nat} (h : HeadOk hs bx k own m) : own.length ≤ 1 := by
  cases h <;> simp
theorem drop_at {ns us vs : List Int} {p i : Nat} {z : Int} (h : ns.drop p = us ++ vs) (e : us[i]? = some z) : ns[p + i]? = some z := by
  have h2 : (ns.drop p)[i]? = some z := by
    rw [h, List.getElem?_append_left (List.getElem?_eq_some_iff.mp e).1]
    exact e
  rw [List.getElem?_drop] at h2
  exact h2
theorem drop_more {ns us vs : List Int} {p : Nat} (h : ns.drop p = us ++ vs) : ns.drop (p + us.length) = vs := by
  rw [← List.drop_drop, h, List.drop_left]
theorem encs_take (ps : List Tree) (i : Nat) : encs ps = encs (ps.take i) ++ encs (ps.drop i) := by
  rw [← encs_app, List.take_append_drop]
theorem deps_ge : ∀ (ps : List Tree) (i : Nat) (t : Tree), ps[i]? = some t → t.dep ≤ deps ps
  | [], i, t, e => by simp at e
  | u :: r, 0, t, e => by
    have e' : u = t := Option.some.inj e
    subst e'
    rw [deps_cons]; omega
  | u :: r, i + 1, t, e => by
    have := deps_ge r i t (by simpa using e)
    rw [deps_cons]; omega
theorem deps_le : ∀ (ps : List Tree) (n : Nat), (∀ (i : Nat) (t : Tree), ps[i]? = some t → t.dep ≤ n) → deps ps ≤ n
  | [], n, _ => by rw [deps_nil]; omega
  | u :: r, n, h => by
    have h1 := h 0 u rfl
    have h2 := deps_le r n fun i t e => h (i + 1) t (by simpa using e)
    rw [deps_cons]; omega
theorem wfs_get {hs : List (Nat × Nat)} {bx : Nat} : ∀ (ps : List Tree) (i : Nat) (t : Tree), wfs hs bx ps → ps[i]? = some t → t.wf hs bx
  | [], i, t, _, e => by simp at e
  | u :: r, 0, t, h, e => by
    have e' : u = t := Option.some.inj e
    subst e'
    exact ((wfs_cons _ _ _ _).mp h).1
  | u :: r, i + 1, t, h, e => wfs_get r i t ((wfs_cons _ _ _ _).mp h).2 (by simpa using e)
theorem take_succ_app {α : Type} {l : List α} {i : Nat} {x : α} (h : l[i]? = some x) : l.take (i + 1) = l.take i ++ [x] := by
  rw [List.take_add_one, h]; rfl

theorem ok_node (D : Df K mg "node_in" sNode ["look", "heads", "boxes", "deep"]) (T : Tx K mg CL) (N : Nx K mg C0 CN fI mc) {fdI : FuncData} (FI : Fun K "__init__" "NoSheet.__init__" sNoI fI fdI) (bI : Binds K fdI ["self", "place", "word"] [])
    (M : Km P w K mg base CX0 2 CL "within" ["self", "low", "high"] (spWithin CL)) (MO : Kp P w K mg base CX0 3 "own_numbers" ["look", "heads", "boxes", "kind"] (spOwn CL)) :
    ∀ n, Kp P w K mg base (L2.CX P w) (n + 4) "node_in" ["look", "heads", "boxes", "deep"] (spNode CL CN n) := by
  obtain ⟨f, fd, F, b, g⟩ := D
  obtain ⟨fW, fdW, GW, bW, mW⟩ := M
  obtain ⟨fO, fdO, GO, bO, mO, kO⟩ := MO
  have GI : FnOk P w K mg base CX0 1 fI fdI ["self", "place", "word"] (spNoI CN) := ok_noI FI N
  obtain ⟨t1, mDeep⟩ := T.mDeep
  obtain ⟨t2, NEW⟩ := T.NEW
  suffices G : ∀ n, FnOk P w K mg base (L2.CX P w) (n + 4) f fd ["look", "heads", "boxes", "deep"] (spNode CL CN n) from fun n => ⟨f, fd, G n, b, g, F.kp⟩
  -- the body, for both
  have body : ∀ n, (∀ m, n = m + 1 → FnOk P w K mg base (L2.CX P w) (m + 4) f fd ["look", "heads", "boxes", "deep"] (spNode CL CN m)) → FnOk P w K mg base (L2.CX P w) (n + 4) f fd ["look", "heads", "boxes", "deep"] (spNode CL CN n) := by
    intro n ih
    refine F.okX scNode (fun vs H Q E h => ?_) (fun cdv A outer s H vs Q E hr h => ?_)
    · obtain ⟨a, ha, hs, bx, d, ns, p, t, rest, rfl, _⟩ := h
      rfl
    obtain ⟨a, ha, hs, bx, d, ns, p, t, rest, rfl, hdn, L, hH, hwf, hns, hlen, kQ, kE⟩ := h
    obtain ⟨l, dx, e1, e2⟩ := id L
    have hr2 : Room 2 _ := hr.mono (by omega)
    have hr3 : Room 3 _ := hr.mono (by omega)
    have hrI : Room (1 + 1) _ := hr.mono (by omega)
    cases n with
    | zero =>
      refine ⟨_, pss_cons (ps_if (pt_cmpR op_gt (pv 3) (pe_glob (v := .int 10) (by rfl) mDeep ⟨_, rfl⟩) (nomark _)) (pss_one (ps_raise rfl (takes_of rfl rfl rfl rfl) (pmk_oex N.oex N.iC N.tI GI hrI bI .nil pass0 (by rfl) N.gN (pa_cons (pe_fld (pv 0) rfl) (pa_cons pe_str pa_nil))))) pss_nil) pss_never, ?_⟩
      refine ⟨_, rfl, _, _, rfl, rfl, _, rfl, ?_⟩
      rw [decide_eq_true (show (10 : Int) < (d : Int) by omega)]
      refine iteT ?_
      refine ⟨_, rfl, a, CL, dx, _, _, rfl, e1, T.cl, T.nPl, lkf_pl _ _, (by show 2 ≤ 1000; decide), fun x nx => ?_⟩
      exact deep_end (fun cls dd H' hx hs' => kE (by have := dep_pos t; omega) cls dd H' hx (same_but hs' a)) x nx
    | succ n =>
      have G := ih n rfl
      have hrn : Room (n + 4) _ := hr.mono (by omega)
      refine ⟨_, pss_cons (ps_if (pt_cmpR op_gt (pv 3) (pe_glob (v := .int 10) (by rfl) mDeep ⟨_, rfl⟩) (nomark _)) pss_never pss_nil)
        (pss_cons (ps_set (i := 4) scNode.nd rfl (.inl rfl) (pe_fld (pv 0) rfl))
        (pss_cons (ps_set (i := 5) scNode.nd rfl (.inl rfl) (pe_meth (pv 0) T.cl mW GW hr2 bW .nil pass0 (pa_cons pe_int (pa_cons (pe_glob (v := .int 19) (by rfl) NEW ⟨_, rfl⟩) pa_nil))))
        (pss_cons (ps_asg (pe_call GO hr3 (by rfl) mO kO bO .nil pass0 (pa_cons (pv 0) (pa_cons (pv 1) (pa_cons (pv 2) (pa_cons (pv 5) pa_nil))))) (pg_tup (by rfl) (pgs_cons (pg_name (i := 6) scNode.nd rfl (.inl rfl)) (pgs_cons (pg_name (i := 7) scNode.nd rfl (.inl rfl)) pgs_nil))))
        (pss_cons (ps_set (i := 8) scNode.nd rfl (.inl rfl) (pe_lst pa_nil))
        (pss_cons (ps_for (passes_of rfl) rfl (pi_range1 (by rfl) T.zrange (pa_cons (pv 7) pa_nil)) (pg_name (i := 9) scNode.nd rfl (.inl rfl))
          (pss_one (ps_expr (pe_bm PySem.F.plainAttrs_list PySem.F.slot_list_append PySem.F.type_list_append mt_append (pv 8) (pa_cons (pe_call G hrn (by rfl) g F.kp b .nil (passes_call (takes_of rfl rfl rfl rfl) (fun _ _ _ _ z => z)) (pa_cons (pv 0) (pa_cons (pv 1) (pa_cons (pv 2) (pa_cons (pe_op op_add (pv 3) pe_int) pa_nil))))) pa_nil)))))
        (pss_one (ps_ret (pe_tup (pa_cons (pv 5) (pa_cons (pv 4) (pa_cons (pv 6) (pa_cons (pe_callTy call_tuple_of (by rfl) T.ztuple (by decide +kernel) (pa_cons (pv 8) pa_nil)) pa_nil)))))))))))), ?_⟩
      refine ⟨_, rfl, _, _, rfl, rfl, _, rfl, ?_⟩
      rw [decide_eq_false (show ¬ (10 : Int) < (d : Int) by omega)]
      refine iteF ?_
      obtain ⟨k, own, ps⟩ := t
      obtain ⟨hok, hps⟩ := (wf_node _ _ _ _ _).mp hwf
      rw [enc_node] at hns
      have hpl : p < ns.length := by
        have := congrArg List.length hns
        rw [List.length_drop, List.length_append, List.length_cons] at this
        omega
      have hk := headOk_kind hok
      -- place, kind
      refine ⟨_, rfl, a, CL, dx, _, _, rfl, e1, T.cl, T.nPl, lkf_pl _ _, ?_⟩
      refine ⟨_, rfl, a, dx, _, rfl, e1, lkf_no _ _ (by decide +kernel) (by decide +kernel), a, ns, p, k, 0, 19, rfl, L, drop_at (i := 0) hns rfl, hlen, hk.1, hk.2, fun H1 L1 B1 => ?_⟩
      have hna : ha ≠ a := fun z => by
        obtain ⟨ts, k1, _⟩ := hH
        rw [z, e1] at k1
        cases k1
      have T1 : Tps H H1 := B1.tps L.ntup
      have hH1 := hH.but B1 T1 hna
      -- numbers, many
      refine ⟨_, rfl, _, rfl, _, rfl, _, rfl, a, ha, hs, bx, k, ns, p + 1, own, ps.length, rfl, L1, hH1, hok, fun i z e => ?_, hlen, fun H2 u an ht han L2 B2 => ?_⟩
      · have e' : (k :: (own ++ encs ps))[i + 1]? = some z := by
          rw [List.getElem?_cons_succ, List.getElem?_append_left (List.getElem?_eq_some_iff.mp e).1]
          exact e
        have := drop_at (i := i + 1) hns e'
        rw [show p + 1 + i = p + (i + 1) by omega]
        exact this
      have T2 : Tps H1 H2 := B2.tps L1.ntup
      have hH2 := hH1.but B2 T2 hna
      refine ⟨u, _, rfl, SqT.of ht, rfl, _, [_], rfl, _, [], rfl, rfl, ?_⟩
      -- parts = []
      refine ⟨Nat.zero_le _, fun o no => ?_⟩
      have s3 : Same H2 (upd H2 o (.lst [])) := same_upd no
      have L3 := L2.same s3
      obtain ⟨l2, dx2, x1, x2⟩ := id L2
      have oa : o ≠ a := fun z => by rw [z, x1] at no; cases no
      have nlen : own.length ≤ 1 := headOk_many hok
      have eln := len_node k own ps
      have hps1 : ns.drop (p + 1 + own.length) = encs ps ++ rest := by
        have h1 : ns.drop p = (k :: own) ++ (encs ps ++ rest) := by
          rw [hns]; simp
        have := drop_more h1
        rw [List.length_cons, show p + (own.length + 1) = p + 1 + own.length by omega] at this
        exact this
      have psl : ps.length ≤ 100000 := by
        have key : ∀ l : List Tree, l.length ≤ (encs l).length := by
          intro l
          induction l with
          | nil => exact Nat.zero_le _
          | cons x r ih =>
            rw [encs_cons, List.length_append, List.length_cons]
            have := enc_pos x
            omega
        have h2 := key ps
        have h3 := congrArg List.length hps1
        rw [List.length_drop, List.length_append] at h3
        omega
      -- for part in range(many)
      refine ⟨_, rfl, _, rfl, by omega, by omega, ?_⟩
      rw [Int.toNat_natCast]
      refine for_range (lo := 0) (n := ps.length) (fun i σ H' => ∃ (as : List Addr) (v9 : Option V), σ = [some (.ref a), some (.ref ha), some (.int (bx : Int)), some (.int (d : Int)), some (.int (p : Int)), some (.int k), some (.ref an), some (.int (ps.length : Int)), some (.ref o), v9] ∧
          LookAt CL H' a ns (p + 1 + own.length + (encs (ps.take i)).length) ∧ H' o = some (.lst (as.map V.ref)) ∧ NodesAt H' (ps.take i) (p + 1 + own.length) as ∧ HeadsAt H' ha hs ∧ H' an = some (.tup (own.map V.int)) ∧ (∀ (j : Nat) (t : Tree), j < i → ps[j]? = some t → d + 1 + t.dep ≤ 11) ∧ But a H H')
        ⟨[], none, rfl, ?_, upd_same, nodesAt_nil.mpr rfl, hH2.same s3, s3 _ _ han, fun j t h => absurd h (Nat.not_lt_zero _), (B1.trans B2).trans (same_but s3 a)⟩ ?_ ?_
      · rw [List.take_zero, encs_nil]
        exact L3
      · rintro i σ H4 hi ⟨as, v9, rfl, L4, eo, hN4, hH4, han4, hd4, B4⟩
        obtain ⟨ti, hti⟩ : ∃ t, ps[i]? = some t := ⟨ps[i], List.getElem?_eq_getElem hi⟩
        have hde : (Tree.node k own ps).dep = deps ps + 1 := dep_node k own ps
        have hge := deps_ge ps i ti hti
        have htk := take_succ_app hti
        refine ⟨.ref o, rfl, .inl ⟨rfl, _, .inl (.inl eo)⟩, _, rfl, _, rfl, _, rfl, _, rfl, _, _, rfl, rfl, ?_⟩
        refine ⟨a, ha, hs, bx, d + 1, ns, p + 1 + own.length + (encs (ps.take i)).length, ti, encs (ps.drop (i + 1)) ++ rest, rfl, by omega, L4, hH4, wfs_get ps i ti hps hti, ?_, hlen, fun hle H5 c hc L5 B5 => ?_, fun hle cls dd H5 hx B5 => ?_⟩
        · refine drop_more (us := encs (ps.take i)) ?_
          rw [hps1, encs_take ps (i + 1), htk, encs_app, encs_cons, encs_nil, List.append_nil]
          simp only [List.append_assoc]
        · have T5 : Tps H4 H5 := B5.tps L4.ntup
          have eo5 := B5 _ _ eo oa
          have lal : as.length = i := by
            rw [nodesAt_len _ _ _ hN4, List.length_take]; omega
          refine ⟨o, _, _, rfl, rfl, eo5, line_lt (by rw [List.length_map]; omega), ?_⟩
          have tp : Tps H5 (upd H5 o (.lst (as.map V.ref ++ [.ref c]))) := fun b' xs e => by
            rw [upd_ne (ne_of e eo5 (by intro z; cases z))]
            exact e
          obtain ⟨l5, dx5, y1, y2⟩ := id L5
          have nl5 : l5 ≠ o ∨ ns = [] ∨ True := .inr (.inr trivial)
          refine ⟨as ++ [c], _, rfl, ?_, by rw [upd_same, List.map_append]; rfl, ?_, ?_, tp _ _ (T5 _ _ han4), ?_, ?_⟩
          · rw [htk, encs_app, encs_cons, encs_nil, List.append_nil, List.length_append, ← Nat.add_assoc]
            refine ⟨l5, dx5, by rw [upd_ne oa.symm]; exact y1, ?_⟩
            have : l5 ≠ o := fun z => by
              rw [z, eo5] at y2
              have r3 := Option.some.inj y2
              injection r3 with r4
              cases as with
              | nil =>
                have r5 := congrArg List.length r4
                rw [List.length_map] at r5
                have r6 : (0 : Nat) = ns.length := by simpa using r5
                omega
              | cons x r =>
                cases ns with
                | nil =>
                  have r5 : ([] : List Int).length = 0 := rfl
                  rw [r5] at hpl
                  omega
                | cons y q =>
                  have r5 := congrArg (fun l => l.head?) r4
                  simp at r5
            rw [upd_ne this]
            exact y2
          · rw [htk]
            refine nodesAt_tps tp _ _ _ (nodesAt_app _ _ _ _ _ (nodesAt_tps T5 _ _ _ hN4) (nodesAt_one.mpr hc))
          · obtain ⟨ts, z1, z2, z3⟩ := hH4.but B5 T5 hna
            obtain ⟨ts0, w1, _⟩ := hH
            have : ha ≠ o := fun z => by
              have n1 := (B1.trans B2) _ _ w1 hna
              rw [z, no] at n1
              cases n1
            exact ⟨ts, by rw [upd_ne this]; exact z1, z2, fun j t' h' q1 q2 => tp _ _ (z3 j t' h' q1 q2)⟩
          · intro j t' hj htj
            by_cases hji : j = i
            · subst hji
              rw [hti] at htj
              cases htj
              omega
            · exact hd4 j t' (by omega) htj
          · intro b' x' e' n'
            have h2 := B5 b' x' (B4 b' x' e' n') n'
            have nb : b' ≠ o := fun z => by
              have n1 := (B1.trans B2) _ _ e' n'
              rw [z, no] at n1
              cases n1
            rw [upd_ne nb]
            exact h2
        · exact kE (by omega) cls dd H5 hx (B4.trans B5)
      · rintro σ H4 ⟨as, v9, rfl, L4, eo, hN4, hH4, han4, hd4, B4⟩
        rw [List.take_of_length_le (Nat.le_refl _)] at L4 hN4
        have hle : deps ps ≤ 10 - d := deps_le ps (10 - d) fun i t e => by
          have := hd4 i t (List.getElem?_eq_some_iff.mp e).1 e
          omega
        have hde : (Tree.node k own ps).dep = deps ps + 1 := dep_node k own ps
        refine ⟨_, rfl, _, rfl, _, rfl, _, rfl, o, _, rfl, .inl ⟨SqL.of eo, fun ap nap => ?_⟩⟩
        refine ⟨line_of (by show 4 ≤ 100000; decide), fun q nq => ?_⟩
        have sa : Same H4 (upd H4 ap (.tup (as.map V.ref))) := same_upd nap
        have sb : Same (upd H4 ap (.tup (as.map V.ref))) (upd (upd H4 ap (.tup (as.map V.ref))) q (.tup [.int k, .int (p : Int), .ref an, .ref ap])) := same_upd nq
        refine kQ (by omega) _ q (nodeAt_node.mpr ⟨an, ap, as, upd_same, sb _ _ (sa _ _ han4), sb _ _ upd_same, nodesAt_tps (same_tps (sa.trans sb)) _ _ _ hN4⟩) ?_ (B4.trans (same_but (sa.trans sb) a))
        rw [eln, show p + (1 + own.length + (encs ps).length) = p + 1 + own.length + (encs ps).length by omega]
        exact L4.same (sa.trans sb)
  intro n
  induction n with
  | zero => exact body 0 fun m e => absurd e (by omega)
  | succ n ih =>
    refine body (n + 1) fun m e => ?_
    have e2 : m = n := by omega
    rw [e2]
    exact ih
end
end K07

set_option Elab.async false
set_option linter.all false
set_option maxRecDepth 100000
set_option maxHeartbeats 4000000
/-! functions, wrong, nodes_in, nodes. -/
namespace K07
open PySem PySem.Spec PyProof.Rows L2

abbrev sFuns : Stmt := topS 26
abbrev sWrong : Stmt := topS 27
abbrev sNodesIn : Stmt := topS 28
abbrev sNodes : Stmt := topS 29

theorem wfB_get {hs : List (Nat × Nat)} : ∀ (ts : List Tree) (q : List (Nat × Nat)) (i : Nat) (t : Tree), wfB hs ts q → ts[i]? = some t → ∃ h, q[i]? = some h ∧ t.wf hs h.2
  | [], q, i, t, _, e => by simp at e
  | u :: r, [], i, t, x, _ => x.elim
  | u :: r, h :: q, 0, t, x, e => by
    have e' : u = t := Option.some.inj e
    subst e'
    exact ⟨h, rfl, x.1⟩
  | u :: r, h :: q, i + 1, t, x, e => by
    obtain ⟨h', e1, e2⟩ := wfB_get r q i t x.2 (by simpa using e)
    exact ⟨h', by simpa using e1, e2⟩
theorem preB_app : ∀ (a b : List Tree) (f p : Nat), preB (a ++ b) f p = preB a f p ++ preB b (f + a.length) (p + (encs a).length)
  | [], b, f, p => by rw [encs_nil]; rfl
  | t :: r, b, f, p => by
    show t.pre f 1 p ++ preB (r ++ b) (f + 1) (p + t.enc.length) = (t.pre f 1 p ++ preB r (f + 1) (p + t.enc.length)) ++ preB b (f + (r.length + 1)) (p + (encs (t :: r)).length)
    rw [preB_app r b, encs_cons, List.length_append, List.append_assoc, Nat.add_assoc p, show f + 1 + r.length = f + (r.length + 1) by omega]
theorem preB_one (t : Tree) (f p : Nat) : preB [t] f p = t.pre f 1 p := by
  show t.pre f 1 p ++ [] = _
  rw [List.append_nil]

/-- the functions of a sheet, as a list of (params, boxes, body); the first body at place p -/
def FunsAt (H : Hp) (o : Addr) (hs : List (Nat × Nat)) (ts : List Tree) (p : Nat) : Prop := ∃ us : List Addr, H o = some (.lst (us.map V.ref)) ∧ us.length = ts.length ∧
  ∀ (i : Nat) (u : Addr), us[i]? = some u → ∃ (h : Nat × Nat) (t : Tree) (c : Addr), hs[i]? = some h ∧ ts[i]? = some t ∧ H u = some (.tup [.int (h.1 : Int), .int (h.2 : Int), .ref c]) ∧ NodeAt H t (p + (encs (ts.take i)).length) c

section
variable {P : Program} {w : World} {K : PySem.W.Frag} {mg : Str → Option Value} {base : Heap} {CL C0 CN fI : Addr} {mc : Value}

/-! ### functions -/
def spFuns (K : PySem.W.Frag) (CN : Addr) : Sp := fun vs H Q E => ∃ (a : Addr) (hs : List (Nat × Nat)) (ts : List Tree), vs = [.ref a] ∧ SqL K H a ((sheet hs ts).map V.int) ∧ HeadsOk hs ∧ wfB hs ts hs ∧ (sheet hs ts).length ≤ 90000 ∧
  (deps ts ≤ 10 → ∀ H' o, FunsAt H' o hs ts (1 + 2 * hs.length) → Same H H' → Q (.ref o) H') ∧ (¬ deps ts ≤ 10 → ∀ cls d H', DeepX CN cls d H' → Same H H' → E cls d H')
theorem scFuns : FnScope ["sheet", "look", "heads", "found", "params", "boxes"] ["sheet"] (defScope sFuns) := ⟨rfl, rfl, rfl, by decide +kernel, rfl, by decide +kernel, by decide +kernel⟩
theorem ok_funs (D : Df K mg "functions" sFuns ["sheet"]) (T : Tx K mg CL) {fLI : Addr} {fdLI : FuncData} (ML : Mk K CL fLI) (gL : mg "Look" = some (.ref CL)) (FL : Fun K "__init__" "Look.__init__" sLookI fLI fdLI) (bL : Binds K fdLI ["self", "numbers"] [])
    (MH : Kp P w K mg base CX0 3 "heads_in" ["look"] (spHeadsIn CL)) (MN : Kp P w K mg base (L2.CX P w) 14 "node_in" ["look", "heads", "boxes", "deep"] (spNode CL CN 10)) : Kp P w K mg base (L2.CX P w) 15 "functions" ["sheet"] (spFuns K CN) := by
  obtain ⟨f, fd, F, b, g⟩ := D
  obtain ⟨fH, fdH, GH, bH, mH, kH⟩ := MH
  obtain ⟨fN, fdN, GN, bN, mN, kN⟩ := MN
  have GL : FnOk P w K mg base CX0 1 fLI fdLI ["self", "numbers"] (spLookI K CL) := ok_lookI FL T
  refine ⟨f, fd, ?_, b, g, F.kp⟩
  refine F.okX scFuns (fun vs H Q E h => ?_) (fun cdv A outer s H vs Q E hr h => ?_)
  · obtain ⟨a, hs, ts, rfl, _⟩ := h
    rfl
  · obtain ⟨a, hs, ts, rfl, hS, ho, hw, hlen, kQ, kE⟩ := h
    have hrL : Room (1 + 1) _ := hr.mono (by decide)
    have hr3 : Room 3 _ := hr.mono (by decide)
    refine ⟨_, pss_cons (ps_set (i := 1) scFuns.nd rfl (.inl rfl) (pe_make ML GL hrL rfl gL bL .nil pass0 (pa_cons (pv 0) pa_nil)))
      (pss_cons (ps_set (i := 2) scFuns.nd rfl (.inl rfl) (pe_call GH hr3 (by rfl) mH kH bH .nil pass0 (pa_cons (pv 1) pa_nil)))
      (pss_cons (ps_set (i := 3) scFuns.nd rfl (.inl rfl) (pe_lst pa_nil))
      (pss_cons (ps_for (passes_of rfl) rfl (pi_list (pv 2)) (pg_tup (by rfl) (pgs_cons (pg_name (i := 4) scFuns.nd rfl (.inl rfl)) (pgs_cons (pg_name (i := 5) scFuns.nd rfl (.inl rfl)) pgs_nil)))
        (pss_one (ps_expr (pe_bm PySem.F.plainAttrs_list PySem.F.slot_list_append PySem.F.type_list_append mt_append (pv 3) (pa_cons (pe_tup (pa_cons (pv 4) (pa_cons (pv 5) (pa_cons (pe_call GN hr (by rfl) mN kN bN .nil (passes_call (takes_of rfl rfl rfl rfl) (fun _ _ _ _ z => z)) (pa_cons (pv 1) (pa_cons (pv 2) (pa_cons (pv 5) (pa_cons pe_int pa_nil))))) pa_nil)))) pa_nil)))))
      (pss_cons (ps_if (pt_cmpR op_lt (pe_fld (pv 1) rfl) (pe_callB call_len_seq (by rfl) T.zlen PySem.boot_len (pa_cons (pe_fld (pv 1) rfl) pa_nil)) (nomark _)) pss_never pss_nil)
      (pss_one (ps_ret (pv 3))))))), ?_⟩
    -- look = Look(sheet)
    refine ⟨_, rfl, ?_⟩
    intro x dx nx ndx nex
    have s0 : Same H (upd (upd H dx (.own x)) x (.ins CL dx [])) := fun b o e => by
      rw [upd_ne (ne_of_none e nx), upd_ne (ne_of_none e ndx)]
      exact e
    refine ⟨x, a, dx, sheet hs ts, rfl, upd_same, s0.seq hS, fun H1 L1 fr => ⟨rfl, ?_⟩⟩
    have s1 : Same H H1 := Same.made nx ndx fr
    have hsh : (encH hs).length = 2 * hs.length := encH_len hs
    have hl0 : (encs ts).length ≤ 90000 := by
      rw [sheet_len] at hlen
      omega
    have htl := wfB_len hs ts hs hw
    have h16 := ho.most
    -- heads = heads_in(look)
    refine ⟨_, rfl, x, hs, encs ts, rfl, L1, ho, hl0, fun H2 ha L2 hH2 na B2 => ?_⟩
    have s2 : Same H H2 := But.same s1 B2 nx
    have hxa : ha ≠ x := fun z => by
      obtain ⟨l, q, e1, _⟩ := L1
      rw [z, e1] at na
      cases na
    -- found = []
    refine ⟨Nat.zero_le _, fun o no => ?_⟩
    have s3 : Same H2 (upd H2 o (.lst [])) := same_upd no
    obtain ⟨us0, g1, g2, g3⟩ := id hH2
    have oha : ha ≠ o := ne_of_none g1 no
    have ox : o ≠ x := fun z => by
      obtain ⟨l, q, e1, _⟩ := L2
      rw [z, e1] at no
      cases no
    have nso : H o = none := s2.free no
    have hd0 : (sheet hs ts).drop (1 + 2 * hs.length) = encs ts := by
      show ((hs.length : Int) :: (encH hs ++ encs ts)).drop (1 + 2 * hs.length) = encs ts
      rw [show 1 + 2 * hs.length = (encH hs).length + 1 by omega, List.drop_succ_cons, List.drop_left]
    -- for params, boxes in heads
    refine ⟨_, rfl, ha, rfl, ⟨_, SqL.of (s3 _ _ g1)⟩, for_list (K := K) (a := ha) (xs := us0.map V.ref) (fun i σ H' => ∃ (us : List Addr) (v4 v5 : Option V), σ = [some (.ref a), some (.ref x), some (.ref ha), some (.ref o), v4, v5] ∧
        LookAt CL H' x (sheet hs ts) (1 + 2 * hs.length + (encs (ts.take i)).length) ∧ HeadsAt H' ha hs ∧ H' ha = some (.lst (us0.map V.ref)) ∧ H' o = some (.lst (us.map V.ref)) ∧ us.length = i ∧
        (∀ (j : Nat) (u : Addr), us[j]? = some u → ∃ (h : Nat × Nat) (t : Tree) (c : Addr), hs[j]? = some h ∧ ts[j]? = some t ∧ H' u = some (.tup [.int (h.1 : Int), .int (h.2 : Int), .ref c]) ∧ NodeAt H' t (1 + 2 * hs.length + (encs (ts.take j)).length) c) ∧
        (∀ (j : Nat) (t : Tree), j < i → ts[j]? = some t → t.dep ≤ 10) ∧ Same H H')
      ⟨[], none, none, rfl, ?_, hH2.same s3, s3 _ _ g1, upd_same, rfl, fun j u e => (by simp at e), fun j t h => absurd h (Nat.not_lt_zero _), s2.trans s3⟩ (fun i σ H' _ ⟨_, _, _, _, _, _, e, _⟩ => SqL.of e) ?_ ?_⟩
    · rw [List.take_zero, encs_nil]
      exact L2.same s3
    · rintro i y σ H3 hi ⟨us, v4, v5, rfl, L3, hH3, eha, eo, hul, hus, hdp, s03⟩
      obtain ⟨u0, hu0, rfl⟩ : ∃ c, us0[i]? = some c ∧ y = V.ref c := by
        rw [List.getElem?_map] at hi
        cases e : us0[i]? with
        | none => rw [e] at hi; cases hi
        | some c =>
          rw [e] at hi
          exact ⟨c, rfl, (Option.some.inj hi).symm⟩
      have hi0 : i < us0.length := (List.getElem?_eq_some_iff.mp hu0).1
      obtain ⟨t, ht⟩ : ∃ t, ts[i]? = some t := ⟨ts[i]'(by omega), List.getElem?_eq_getElem (by omega)⟩
      obtain ⟨h, hh, hwf⟩ := wfB_get ts hs i t hw ht
      obtain ⟨ws, w1, w2, w3⟩ := id hH3
      have hu3 : H3 u0 = some (.tup [.int (h.1 : Int), .int (h.2 : Int)]) := by
        rw [eha] at w1
        have z1 := Option.some.inj w1
        injection z1 with z2
        have z3 : us0 = ws := by
          have inj : ∀ (l m : List Addr), l.map V.ref = m.map V.ref → l = m := fun l m e => by
            have := congrArg (List.map fun v : V => match v with | .ref a => a | _ => 0) e
            simpa [List.map_map, Function.comp_def] using this
          exact inj _ _ z2
        exact w3 i u0 h (by rw [← z3]; exact hu0) hh
      have htk := take_succ_app ht
      refine ⟨u0, _, rfl, SqT.of hu3, rfl, _, [_], rfl, _, [], rfl, rfl, ?_⟩
      -- found.append((params, boxes, node_in(look, heads, boxes, 1)))
      refine ⟨.ref o, rfl, .inl ⟨rfl, _, .inl (.inl eo)⟩, _, rfl, _, rfl, _, rfl, _, rfl, _, rfl, ?_⟩
      refine ⟨x, ha, hs, h.2, 1, sheet hs ts, 1 + 2 * hs.length + (encs (ts.take i)).length, t, encs (ts.drop (i + 1)), rfl, rfl, L3, hH3, hwf, ?_, by omega, fun hle H4 c hc L4 B4 => ?_, fun hle cls dd H4 hx B4 => ?_⟩
      · refine drop_more (us := encs (ts.take i)) ?_
        rw [hd0, encs_take ts (i + 1), htk, encs_app, encs_cons, encs_nil, List.append_nil]
        simp only [List.append_assoc]
      · refine ⟨line_of (by show 3 ≤ 100000; decide), fun q nq => ?_⟩
        have T4 : Tps H3 H4 := B4.tps L3.ntup
        have eo4 := B4 _ _ eo ox
        have s5 : Same H4 (upd H4 q (.tup [.int (h.1 : Int), .int (h.2 : Int), .ref c])) := same_upd nq
        have qo : o ≠ q := ne_of_none eo4 nq
        refine ⟨o, _, _, rfl, rfl, s5 _ _ eo4, line_lt (by rw [List.length_map]; omega), ?_⟩
        have tp : Tps (upd H4 q (.tup [.int (h.1 : Int), .int (h.2 : Int), .ref c])) (upd (upd H4 q (.tup [.int (h.1 : Int), .int (h.2 : Int), .ref c])) o (.lst (us.map V.ref ++ [.ref q]))) := fun b' xs e => by
          rw [upd_ne (ne_of e (s5 _ _ eo4) (by intro z; cases z))]
          exact e
        have tq := (T4.trans (same_tps s5)).trans tp
        obtain ⟨l4, d4, y1, y2⟩ := L4.same s5
        have ep : 1 + 2 * hs.length + (encs (ts.take (i + 1))).length = 1 + 2 * hs.length + (encs (ts.take i)).length + t.enc.length := by
          rw [htk, encs_app, encs_cons, encs_nil, List.append_nil, List.length_append, ← Nat.add_assoc]
        refine ⟨us ++ [q], _, _, rfl, ⟨l4, d4, by rw [upd_ne ox.symm, ep]; exact y1, ?_⟩, ?_, ?_, by rw [upd_same, List.map_append]; rfl, by rw [List.length_append, hul]; rfl, ?_, ?_, ?_⟩
        · have : l4 ≠ o := fun z => by
            rw [z, s5 _ _ eo4] at y2
            have r3 := Option.some.inj y2
            injection r3 with r4
            cases us with
            | nil =>
              have r5 := congrArg List.length r4
              have r6 : (0 : Nat) = (sheet hs ts).length := by simpa using r5
              rw [sheet_len] at r6
              omega
            | cons x r =>
              have r5 := congrArg (fun l => l.head?) r4
              simp [sheet] at r5
          rw [upd_ne this]
          exact y2
        · obtain ⟨ws', q1, q2, q3⟩ := (hH3.but B4 T4 hxa).same s5
          exact ⟨ws', by rw [upd_ne oha]; exact q1, q2, fun j t' h' e1 e2 => tp _ _ (q3 j t' h' e1 e2)⟩
        · rw [upd_ne oha]
          exact s5 _ _ (B4 _ _ eha hxa)
        · intro j u e
          by_cases hj : j < us.length
          · rw [List.getElem?_append_left hj] at e
            obtain ⟨h', t', c', r1, r2, r3, r4⟩ := hus j u e
            exact ⟨h', t', c', r1, r2, tq _ _ r3, nodeAt_tps tq r4⟩
          · have hj2 : j = us.length := by
              have := (List.getElem?_eq_some_iff.mp e).1
              rw [List.length_append] at this
              have : j < us.length + 1 := this
              omega
            subst hj2
            rw [List.getElem?_append_right (Nat.le_refl _), Nat.sub_self] at e
            have e' : q = u := Option.some.inj e
            subst e'
            rw [hul]
            exact ⟨h, t, c, hh, ht, tp _ _ upd_same, nodeAt_tps ((same_tps s5).trans tp) hc⟩
        · intro j t' hj htj
          by_cases hji : j = i
          · subst hji
            rw [ht] at htj
            cases htj
            omega
          · exact hdp j t' (by omega) htj
        · intro b' x' e'
          have h2 := B4 b' x' (s03 b' x' e') (ne_of_none e' nx)
          rw [upd_ne (ne_of_none e' nso)]
          exact s5 _ _ h2
      · have := deps_ge ts i t ht
        exact kE (by omega) cls dd H4 hx (But.same s03 B4 nx)
    · rintro σ H3 ⟨us, v4, v5, rfl, L3, hH3, eha, eo, hul, hus, hdp, s03⟩
      have e9 : (us0.map V.ref).length = ts.length := by rw [List.length_map, g2, htl]
      rw [e9] at hul hdp L3
      rw [List.take_of_length_le (Nat.le_refl _)] at L3
      obtain ⟨l3, d3, y1, y2⟩ := id L3
      refine ⟨_, rfl, x, CL, d3, _, _, rfl, y1, T.cl, T.nPl, lkf_pl _ _, _, rfl, x, CL, d3, _, _, rfl, y1, T.cl, T.nNum, lkf_num _ _, l3, _, rfl, .inl (SqL.of y2), _, _, rfl, rfl, _, rfl, ?_⟩
      rw [decide_eq_false (show ¬ ((1 + 2 * hs.length + (encs ts).length : Nat) : Int) < (((sheet hs ts).map V.int).length : Nat) by rw [List.length_map, sheet_len]; omega)]
      refine iteF ⟨_, rfl, kQ (deps_le ts 10 fun i t e => hdp i t (List.getElem?_eq_some_iff.mp e).1 e) H3 o ⟨us, eo, hul, hus⟩ s03⟩

/-! ### wrong -/
def spWrong (K : PySem.W.Frag) : Sp := fun vs H Q _ => ∃ (a : Addr) (hs : List (Nat × Nat)) (ts : List Tree), vs = [.ref a] ∧ SqL K H a ((sheet hs ts).map V.int) ∧ HeadsOk hs ∧ wfB hs ts hs ∧ (sheet hs ts).length ≤ 90000 ∧
  (deps ts ≤ 10 → ∀ H', Same H H' → Q .non H') ∧ (¬ deps ts ≤ 10 → ∀ H' t z, H' t = some (.tup [.int z, .str "deep"]) → Same H H' → Q (.ref t) H')
theorem scWrong : FnScope ["numbers", "found", "e"] ["numbers"] (defScope sWrong) := ⟨rfl, rfl, rfl, by decide +kernel, rfl, by decide +kernel, by decide +kernel⟩
theorem ok_wrong (D : Df K mg "wrong" sWrong ["numbers"]) (N : Nx K mg C0 CN fI mc) (MF : Kp P w K mg base (L2.CX P w) 15 "functions" ["sheet"] (spFuns K CN)) : Kp P w K mg base CX0 16 "wrong" ["numbers"] (spWrong K) := by
  obtain ⟨f, fd, F, b, g⟩ := D
  obtain ⟨fF, fdF, GF, bF, mF, kF⟩ := MF
  refine ⟨f, fd, ?_, b, g, F.kp⟩
  refine F.ok scWrong (fun vs H Q E h => ?_) (fun cdv A outer s H vs Q E hr h => ?_)
  · obtain ⟨a, hs, ts, rfl, _⟩ := h
    rfl
  · obtain ⟨a, hs, ts, rfl, hS, ho, hw, hlen, kQ, kE⟩ := h
    refine ⟨_, pss_cons (ps_set (i := 1) scWrong.nd rfl (.inl rfl) pe_non)
      (pss_cons (ps_try_as (i := 2) (tb := fun W => tDrop (tCallS (spFuns K CN) (WE W) (tCons (tVar 0) tNil)))
          (ts := fun a0 cls d => tAsg (tTup (tCons (tXf a0 cls d CN "place" (tVar 2)) (tCons (tXf a0 cls d CN "word" (tVar 2)) tNil))) (gName 1)) (Wout := fun _ _ _ _ => False) rfl rfl scWrong.nd rfl rfl ⟨rfl, by decide, .inl N.gN⟩ takes0
          (fun W pn xe tk _ => pss_one (ps_expr (by exact (pe_callS GF hr rfl mF kF bF (fun σ => passAt tk σ) (by exact (pa_cons (pv 0) pa_nil))))))
          (fun a0 oe cls d pn hz hf => pss_one (ps_set (i := 1) scWrong.nd rfl (.inl rfl) (by exact (pe_tup (pa_cons (pe_xf N.xf N.nPl hz hf (pv 2)) (pa_cons (pe_xf N.xf N.nWo hz hf (pv 2)) pa_nil)))))))
      (pss_one (ps_ret (pv 1)))), ?_⟩
    refine ⟨_, rfl, a, hs, ts, rfl, hS, ho, hw, hlen, fun hle H1 o hF s1 => ?_, fun hle cls d H1 hx s1 => ?_⟩
    · exact ⟨_, rfl, kQ hle H1 s1⟩
    · obtain ⟨rfl, dd, fs, z, rfl, h1, h2, h3⟩ := hx
      refine ⟨true, N.te, fun _ a0 na0 => ?_, fun z => Bool.noConfusion z⟩
      refine ⟨_, rfl, rfl, rfl, dd, fs, _, rfl, h1, h2, _, rfl, rfl, rfl, dd, fs, _, rfl, h1, h3, two_line, fun t nt => ?_⟩
      exact ⟨_, rfl, kE hle _ t z upd_same (s1.trans (same_upd nt))⟩

/-! ### nodes_in, nodes -/
def spNodesIn (n : Nat) : Sp := fun vs H Q _ => ∃ (a : Addr) (t : Tree) (p f d : Nat), vs = [.ref a] ∧ NodeAt H t p a ∧ t.dep ≤ n ∧ t.cnt ≤ 90000 ∧
  ∀ H' o as, H' o = some (.lst (as.map V.ref)) → RecsAt H' (t.pre f d p) as → H o = none → Same H H' → Q (.ref o) H'
theorem scNodesIn : FnScope ["node", "found", "part"] ["node"] (defScope sNodesIn) := ⟨rfl, rfl, rfl, by decide +kernel, rfl, by decide +kernel, by decide +kernel⟩
theorem cnts_get : ∀ (ps : List Tree) (i : Nat) (t : Tree), ps[i]? = some t → cnts (ps.take i) + t.cnt ≤ cnts ps
  | [], i, t, e => by simp at e
  | u :: r, 0, t, e => by
    have e' : u = t := Option.some.inj e
    subst e'
    rw [List.take_zero, cnts_nil, cnts_cons]; omega
  | u :: r, i + 1, t, e => by
    have := cnts_get r i t (by simpa using e)
    rw [List.take_succ_cons, cnts_cons, cnts_cons]; omega
theorem ok_nodesIn (D : Df K mg "nodes_in" sNodesIn ["node"]) : ∀ n, Kp P w K mg base CX0 n "nodes_in" ["node"] (spNodesIn n) := by
  obtain ⟨f, fd, F, b, g⟩ := D
  suffices G : ∀ n, FnOk P w K mg base CX0 n f fd ["node"] (spNodesIn n) from fun n => ⟨f, fd, G n, b, g, F.kp⟩
  intro n
  induction n with
  | zero =>
    have no : ∀ vs H Q E, ¬ spNodesIn 0 vs H Q E := fun vs H Q E h => by
      obtain ⟨a, t, p, f, d, _, _, h1, _⟩ := h
      have := dep_pos t
      omega
    exact ⟨fun vs H Q E h => absurd h (no vs H Q E), fun A outer s H args us vs Q E _ _ _ _ h => absurd h (no vs H Q E)⟩
  | succ n ih =>
    refine F.ok scNodesIn (fun vs H Q E h => ?_) (fun cdv A outer s H vs Q E hr h => ?_)
    · obtain ⟨a, t, p, f, d, rfl, _⟩ := h
      rfl
    obtain ⟨a, t, p, f', d, rfl, hN, hdep, hcnt, q⟩ := h
    refine ⟨_, pss_cons (ps_set (i := 1) scNodesIn.nd rfl (.inl rfl) (pe_lst (pa_cons (pv 0) pa_nil)))
      (pss_cons (ps_for PassesOwn.never rfl (pi_tup (pe_ix ix_tup (pv 0) pe_int (fun _ _ => rfl))) (pg_name (i := 2) scNodesIn.nd rfl (.inl rfl))
        (pss_one (ps_expr (pe_bm PySem.F.plainAttrs_list PySem.F.slot_list_extend PySem.F.type_list_extend mt_extend (pv 1) (pa_cons (pe_call ih hr (by rfl) g F.kp b .nil pass0 (pa_cons (pv 2) pa_nil)) pa_nil)))))
      (pss_one (ps_ret (pv 1)))), ?_⟩
    obtain ⟨k, own, ps⟩ := t
    rw [dep_node] at hdep
    rw [cnt_node] at hcnt
    have hN0 := hN
    obtain ⟨an, ap, bs, h1, h2, h3, h4⟩ := nodeAt_node.mp hN
    have hbl := nodesAt_len _ _ _ h4
    refine ⟨_, rfl, one_line, fun o no => ?_⟩
    have s1 : Same H (upd H o (.lst [.ref a])) := same_upd no
    refine ⟨_, rfl, a, _, 3, .ref ap, rfl, rfl, SqT.of (s1 _ _ h1), rfl, ap, rfl, ⟨_, SqT.of (s1 _ _ h3)⟩, for_tup (K := K) (a := ap) (xs := bs.map V.ref) (fun i σ H' => ∃ (as : List Addr) (v2 : Option V), σ = [some (.ref a), some (.ref o), v2] ∧
        H' o = some (.lst (as.map V.ref)) ∧ RecsAt H' (⟨p, d, f', .node k own ps⟩ :: pres (ps.take i) f' (d + 1) (p + 1 + own.length)) as ∧ Same H H')
      ⟨[a], none, rfl, upd_same, ?_, s1⟩ (fun i σ H' _ ⟨_, _, _, _, _, s⟩ => SqT.of (s _ _ h3)) ?_ ?_⟩
    · rw [List.take_zero, pres_nil]
      exact RecsAt.one (nodeAt_tps (same_tps s1) hN0)
    · rintro i y σ H2 hi ⟨as, v2, rfl, eo, hR, s2⟩
      obtain ⟨c, hc, rfl⟩ : ∃ c, bs[i]? = some c ∧ y = V.ref c := by
        rw [List.getElem?_map] at hi
        cases e : bs[i]? with
        | none => rw [e] at hi; cases hi
        | some c =>
          rw [e] at hi
          exact ⟨c, rfl, (Option.some.inj hi).symm⟩
      have hi0 : i < ps.length := by
        have := (List.getElem?_eq_some_iff.mp hc).1
        omega
      obtain ⟨ti, hti⟩ : ∃ t, ps[i]? = some t := ⟨ps[i], List.getElem?_eq_getElem hi0⟩
      obtain ⟨c', hc', hNc⟩ := nodesAt_get _ _ _ i ti h4 hti
      rw [hc] at hc'
      cases hc'
      have htk := take_succ_app hti
      have hge := deps_ge ps i ti hti
      have hcg := cnts_get ps i ti hti
      refine ⟨.ref o, rfl, .inl ⟨rfl, _, .inl (.inl eo)⟩, _, rfl, c, ti, _, f', d + 1, rfl, nodeAt_tps (same_tps s2) hNc, by omega, by omega, fun H3 o2 as2 e2 hR2 n2 s3 => ?_⟩
      have eo3 := s3 _ _ eo
      have oo : o ≠ o2 := ne_of_none eo n2
      have hl1 : as.length = 1 + cnts (ps.take i) := by
        rw [hR.1, List.length_cons, pres_len]; omega
      have hl2 : as2.length = ti.cnt := by
        rw [hR2.1, pre_len]
      refine ⟨o, o2, _, _, rfl, rfl, eo3, e2, line_of (by rw [List.length_map, List.length_map]; omega), ?_⟩
      have tp : Tps H3 (upd H3 o (.lst (as.map V.ref ++ as2.map V.ref))) := fun b' xs e => by
        rw [upd_ne (ne_of e eo3 (by intro z; cases z))]
        exact e
      refine ⟨as ++ as2, _, rfl, by rw [upd_same, List.map_append], ?_, fun b' x' e' => ?_⟩
      · rw [htk, pres_app, pres_cons, pres_nil, List.append_nil, ← List.cons_append]
        exact ((hR.tps (same_tps s3)).tps tp).app (hR2.tps tp)
      · rw [upd_ne (ne_of_none e' no)]
        exact s3 _ _ (s2 _ _ e')
    · rintro σ H2 ⟨as, v2, rfl, eo, hR, s2⟩
      rw [List.length_map, hbl, List.take_of_length_le (Nat.le_refl _)] at hR
      refine ⟨_, rfl, q H2 o as eo ?_ no s2⟩
      rw [pre_node]
      exact hR

def spNodes (K : PySem.W.Frag) : Sp := fun vs H Q _ => ∃ (a : Addr) (hs : List (Nat × Nat)) (ts : List Tree), vs = [.ref a] ∧ SqL K H a ((sheet hs ts).map V.int) ∧ HeadsOk hs ∧ wfB hs ts hs ∧ (sheet hs ts).length ≤ 90000 ∧ deps ts ≤ 10 ∧
  ∀ H' o as, H' o = some (.lst (as.map V.ref)) → RecsAt H' (preB ts 0 (1 + 2 * hs.length)) as → H o = none → Same H H' → Q (.ref o) H'
theorem scNodes : FnScope ["sheet", "found", "params", "boxes", "body"] ["sheet"] (defScope sNodes) := ⟨rfl, rfl, rfl, by decide +kernel, rfl, by decide +kernel, by decide +kernel⟩
theorem cnt_le_enc : ∀ ts : List Tree, cnts ts ≤ (encs ts).length := by
  intro ts
  induction ts using forest_ind with
  | h0 => rw [cnts_nil, encs_nil]; exact Nat.le_refl _
  | h1 k own ps r ih1 ih2 =>
    rw [cnts_cons, encs_cons, List.length_append, cnt_node, len_node]
    omega
theorem ok_nodes (D : Df K mg "nodes" sNodes ["sheet"]) (MF : Kp P w K mg base (L2.CX P w) 15 "functions" ["sheet"] (spFuns K CN)) (MI : Kp P w K mg base CX0 10 "nodes_in" ["node"] (spNodesIn 10)) : Kp P w K mg base CX0 16 "nodes" ["sheet"] (spNodes K) := by
  obtain ⟨f, fd, F, b, g⟩ := D
  obtain ⟨fF, fdF, GF, bF, mF, kF⟩ := MF
  obtain ⟨fI, fdI, GI, bI, mI, kI⟩ := MI
  refine ⟨f, fd, ?_, b, g, F.kp⟩
  refine F.ok scNodes (fun vs H Q E h => ?_) (fun cdv A outer s H vs Q E hr h => ?_)
  · obtain ⟨a, hs, ts, rfl, _⟩ := h
    rfl
  · obtain ⟨a, hs, ts, rfl, hS, ho, hw, hlen, hdep, q⟩ := h
    have hr10 : Room 10 _ := hr.mono (by decide)
    refine ⟨_, pss_cons (ps_set (i := 1) scNodes.nd rfl (.inl rfl) (pe_lst pa_nil))
      (pss_cons (ps_for PassesOwn.never rfl (pi_list (pe_call (E := E0) GF hr (by rfl) mF kF bF .nil passL (pa_cons (pv 0) pa_nil))) (pg_tup (by rfl) (pgs_cons (pg_name (i := 2) scNodes.nd rfl (.inl rfl)) (pgs_cons (pg_name (i := 3) scNodes.nd rfl (.inl rfl)) (pgs_cons (pg_name (i := 4) scNodes.nd rfl (.inl rfl)) pgs_nil))))
        (pss_one (ps_expr (pe_bm PySem.F.plainAttrs_list PySem.F.slot_list_extend PySem.F.type_list_extend mt_extend (pv 1) (pa_cons (pe_call GI hr10 (by rfl) mI kI bI .nil pass0 (pa_cons (pv 4) pa_nil)) pa_nil)))))
      (pss_one (ps_ret (pv 1)))), ?_⟩
    have htl := wfB_len hs ts hs hw
    have hce := cnt_le_enc ts
    rw [sheet_len] at hlen
    refine ⟨Nat.zero_le _, fun o no => ?_⟩
    have s1 : Same H (upd H o (.lst [])) := same_upd no
    refine ⟨_, rfl, a, hs, ts, rfl, s1.seq hS, ho, hw, by rw [sheet_len]; omega, fun _ H2 fo hF s2 => ?_, fun hle => absurd hdep hle⟩
    obtain ⟨us, u1, u2, u3⟩ := hF
    have ofo : fo ≠ o ∨ True := .inr trivial
    have eo2 : H2 o = some (.lst []) := s2 _ _ upd_same
    refine ⟨fo, rfl, ⟨_, SqL.of u1⟩, for_list (K := K) (a := fo) (xs := us.map V.ref) (fun i σ H' => ∃ (as : List Addr) (v2 v3 v4 : Option V), σ = [some (.ref a), some (.ref o), v2, v3, v4] ∧
        H' o = some (.lst (as.map V.ref)) ∧ RecsAt H' (preB (ts.take i) 0 (1 + 2 * hs.length)) as ∧ But o H2 H' ∧ Same H H')
      ⟨[], none, none, none, rfl, eo2, ?_, But.refl _ _, s1.trans s2⟩ (fun i σ H' _ ⟨_, _, _, _, _, _, _, bt, _⟩ => ?_) ?_ ?_⟩
    · rw [List.take_zero]
      exact RecsAt.nil
    · by_cases hz : us = []
      · -- no functions at all: cannot be
        have := ho.one
        rw [hz] at u2
        have : (0 : Nat) = ts.length := u2
        omega
      · refine SqL.of (bt _ _ u1 fun z => ?_)
        rw [z, eo2] at u1
        have r3 := Option.some.inj u1
        injection r3 with r4
        cases us with
        | nil => exact hz rfl
        | cons x r => cases r4
    · rintro i y σ H3 hi ⟨as, v2, v3, v4, rfl, eo, hR, bt, s3⟩
      obtain ⟨u, hu, rfl⟩ : ∃ c, us[i]? = some c ∧ y = V.ref c := by
        rw [List.getElem?_map] at hi
        cases e : us[i]? with
        | none => rw [e] at hi; cases hi
        | some c =>
          rw [e] at hi
          exact ⟨c, rfl, (Option.some.inj hi).symm⟩
      obtain ⟨h, t, c, r1, r2, r3, r4⟩ := u3 i u hu
      have t23 : Tps H2 H3 := bt.tps fun xs e => by rw [eo2] at e; cases e
      have htk := take_succ_app r2
      have hge := deps_ge ts i t r2
      have hcg := cnts_get ts i t r2
      have hil : i < ts.length := (List.getElem?_eq_some_iff.mp r2).1
      refine ⟨u, _, rfl, SqT.of (t23 _ _ r3), rfl, _, [_, _], rfl, _, [_], rfl, _, [], rfl, rfl, ?_⟩
      refine ⟨.ref o, rfl, .inl ⟨rfl, _, .inl (.inl eo)⟩, _, rfl, c, t, _, i, 1, rfl, nodeAt_tps t23 r4, by omega, by omega, fun H4 o2 as2 e2 hR2 n2 s4 => ?_⟩
      have eo4 := s4 _ _ eo
      have hl1 : as.length = cnts (ts.take i) := by rw [hR.1, preB_len]
      have hl2 : as2.length = t.cnt := by rw [hR2.1, pre_len]
      refine ⟨o, o2, _, _, rfl, rfl, eo4, e2, line_of (by rw [List.length_map, List.length_map]; omega), ?_⟩
      have tp : Tps H4 (upd H4 o (.lst (as.map V.ref ++ as2.map V.ref))) := fun b' xs e => by
        rw [upd_ne (ne_of e eo4 (by intro z; cases z))]
        exact e
      refine ⟨as ++ as2, _, _, _, rfl, by rw [upd_same, List.map_append], ?_, fun b' x' e' n' => ?_, fun b' x' e' => ?_⟩
      · rw [htk, preB_app, preB_one, List.length_take, Nat.min_eq_left (by omega), Nat.zero_add]
        exact ((hR.tps (same_tps s4)).tps tp).app (hR2.tps tp)
      · rw [upd_ne n']
        exact s4 _ _ (bt _ _ e' n')
      · rw [upd_ne (ne_of_none e' no)]
        exact s4 _ _ (s3 _ _ e')
    · rintro σ H3 ⟨as, v2, v3, v4, rfl, eo, hR, bt, s3⟩
      rw [List.length_map, u2, List.take_of_length_le (Nat.le_refl _)] at hR
      exact ⟨_, rfl, q H3 o as eo hR no s3⟩
end
end K07

set_option Elab.async false
set_option linter.all false
set_option maxRecDepth 100000
set_option maxHeartbeats 4000000
/-! The law's draws: any number below the asked one. -/
namespace K07
open PySem PySem.Spec PyProof.Rows L2

abbrev sMixed : Stmt := topS 31
abbrev sTake : Stmt := topS 32
abbrev sHeads : Stmt := topS 33
abbrev sNumber : Stmt := topS 34
abbrev sLeaf : Stmt := topS 35

/-- the script: never changed -/
def Scr (K : PySem.W.Frag) (H : Hp) (a : Addr) (ns : List Int) : Prop := (∃ o, H a = some (.frz o (.lst (ns.map V.int)))) ∨
  ∃ (o : Obj) (its : Array Value) (n : Nat), K.lookup a = some o ∧ o.cls = .type "list" ∧ o.dict = none ∧ o.data = .seq its n ∧ its.size ≤ sizeLine ∧ Vals (ns.map V.int) its.toList
theorem Scr.seq {K : PySem.W.Frag} {H : Hp} {a : Addr} {ns : List Int} (h : Scr K H a ns) : SqL K H a (ns.map V.int) := by
  rcases h with h | h
  · exact .inl (.inr h)
  · exact .inr h
theorem Scr.same {K : PySem.W.Frag} {H H' : Hp} {a : Addr} {ns : List Int} (h : Scr K H a ns) (s : Same H H') : Scr K H' a ns := by
  rcases h with ⟨o, h⟩ | h
  · exact .inl ⟨o, s _ _ h⟩
  · exact .inr h
theorem Scr.but {K : PySem.W.Frag} {H H' : Hp} {a b : Addr} {ns : List Int} (h : Scr K H a ns) (s : But b H H') {xs : List V} (hb : H b = some (.lst xs)) : Scr K H' a ns := by
  rcases h with ⟨o, h⟩ | h
  · exact .inl ⟨o, s _ _ h (ne_of h hb (by intro z; cases z))⟩
  · exact .inr h
/-- the draws' state at st: the script, how many were taken, what is left of a great cell -/
def StateAt (K : PySem.W.Frag) (H : Hp) (st : Addr) : Prop := ∃ (sa : Addr) (ns : List Int) (k d : Int), H st = some (.lst [.ref sa, .int k, .int d]) ∧ 0 ≤ k ∧ 0 ≤ d ∧ Scr K H sa ns
theorem StateAt.same {K : PySem.W.Frag} {H H' : Hp} {st : Addr} (h : StateAt K H st) (s : Same H H') : StateAt K H' st := by
  obtain ⟨sa, ns, k, d, h1, h2, h3, h4⟩ := h
  exact ⟨sa, ns, k, d, s _ _ h1, h2, h3, h4.same s⟩
theorem StateAt.but {K : PySem.W.Frag} {H H' : Hp} {st b : Addr} (h : StateAt K H st) (s : But b H H') {xs : List V} (hb : H b = some (.lst xs)) (n : st ≠ b) : StateAt K H' st := by
  obtain ⟨sa, ns, k, d, h1, h2, h3, h4⟩ := h
  exact ⟨sa, ns, k, d, s _ _ h1 n, h2, h3, h4.but s hb⟩
theorem StateAt.ntup {K : PySem.W.Frag} {H : Hp} {st : Addr} (h : StateAt K H st) : ∀ xs, H st ≠ some (.tup xs) := fun xs e => by
  obtain ⟨sa, ns, k, d, h1, _⟩ := h
  rw [h1] at e
  cases e
theorem StateAt.tps {K : PySem.W.Frag} {H H' : Hp} {st : Addr} (h : StateAt K H st) (s : But st H H') : Tps H H' := s.tps h.ntup
theorem StateAt.ne {K : PySem.W.Frag} {H : Hp} {st a : Addr} (h : StateAt K H st) (na : H a = none) : st ≠ a := by
  obtain ⟨sa, ns, k, d, h1, _⟩ := h
  exact ne_of_none h1 na

section
variable {P : Program} {w : World} {K : PySem.W.Frag} {mg : Str → Option Value} {base : Heap} {CL : Addr}

/-! ### mixed -/
def spMixed : Sp := fun vs H Q _ => ∃ c k : Int, vs = [.int c, .int k] ∧ ∀ r : Int, Q (.int r) H
theorem scMixed : FnScope ["_law_cell", "_law_k", "_law_one", "_law_two"] ["_law_cell", "_law_k"] (defScope sMixed) := ⟨rfl, rfl, rfl, by decide +kernel, rfl, by decide +kernel, by decide +kernel⟩
theorem ok_mixed (D : Df K mg "_law_mixed" sMixed ["_law_cell", "_law_k"]) : Kp P w K mg base CX0 1 "_law_mixed" ["_law_cell", "_law_k"] spMixed := by
  obtain ⟨f, fd, F, b, g⟩ := D
  refine ⟨f, fd, ?_, b, g, F.kp⟩
  refine F.ok scMixed (fun vs H Q E h => ?_) (fun cdv A outer s H vs Q E hr h => ?_)
  · obtain ⟨c, k, rfl, _⟩ := h
    rfl
  · obtain ⟨c, k, rfl, q⟩ := h
    refine ⟨_, C8.pss_cut (ps_set (i := 2) scMixed.nd rfl (.inl rfl) (pe_op op_mod (pe_op op_mul (pe_op op_add (pe_op op_add (pe_op op_mod (pv 0) pe_int) (pe_op op_mul pe_int (pv 1))) pe_int) pe_int) pe_int))
      (C8.pss_cut (ps_set (i := 3) scMixed.nd rfl (.inl rfl) (pe_op op_mod (pe_op op_add (pe_op op_add (pe_op op_mul (pv 2) (pv 2)) (pe_op op_mul pe_int (pv 2))) (pe_op op_mul pe_int (pv 1))) pe_int))
      (pss_one (ps_ret (pe_op op_fdiv (pe_op op_mod (pe_op op_mul (pv 3) (pe_op op_add (pv 3) pe_int)) pe_int) pe_int)))), ?_⟩
    refine ⟨fun σ H' => ∃ one : Int, σ = [some (.int c), some (.int k), some (.int one), none] ∧ 0 ≤ one ∧ one < 2147483647 ∧ H' = H, ?_, ?_⟩
    · refine ⟨_, rfl, _, _, rfl, rfl, (by show (0 : Int) < 2147483587; decide), _, rfl, _, _, rfl, rfl, .inl ⟨by decide, by decide⟩, _, _, rfl, rfl, _, _, rfl, rfl, _, _, rfl, rfl, .inr ⟨by decide, by decide⟩, _, _, rfl, rfl, (by show (0 : Int) < 2147483647; decide), ?_⟩
      exact ⟨_, rfl, Int.emod_nonneg _ (by decide), Int.emod_lt_of_pos _ (by decide), rfl⟩
    · rintro σ H1 ⟨one, rfl, h0, h1, rfl⟩
      refine ⟨fun σ H' => ∃ two : Int, σ = [some (.int c), some (.int k), some (.int one), some (.int two)] ∧ 0 ≤ two ∧ two < 2147483563 ∧ H' = H1, ?_, ?_⟩
      · refine ⟨_, rfl, _, rfl, _, _, rfl, rfl, .inl ⟨by omega, by omega⟩, _, rfl, _, _, rfl, rfl, .inl ⟨by decide, by decide⟩, _, _, rfl, rfl, _, rfl, _, _, rfl, rfl, .inl ⟨by decide, by decide⟩, _, _, rfl, rfl, _, _, rfl, rfl, (by show (0 : Int) < 2147483563; decide), ?_⟩
        exact ⟨_, rfl, Int.emod_nonneg _ (by decide), Int.emod_lt_of_pos _ (by decide), rfl⟩
      · rintro σ H2 ⟨two, rfl, g0, g1, rfl⟩
        exact ⟨_, rfl, _, rfl, _, _, rfl, rfl, _, _, rfl, rfl, .inl ⟨by omega, by omega⟩, _, _, rfl, rfl, (by show (0 : Int) < 1073741783; decide), _, _, rfl, rfl, ⟨by decide, by decide⟩, q _⟩

/-! ### take: any number from 0 on below m -/
def spTake (K : PySem.W.Frag) : Sp := fun vs H Q _ => ∃ (st : Addr) (m : Int), vs = [.ref st, .int m] ∧ 0 < m ∧ m ≤ 2 * 10 ^ 60 ∧ StateAt K H st ∧ ∀ H' (r : Int), 0 ≤ r → r < m → StateAt K H' st → But st H H' → Q (.int r) H'
theorem scTake : FnScope ["_law_state", "_law_many_here", "_law_script", "_law_k", "_law_cell", "_law_found"] ["_law_state", "_law_many_here"] (defScope sTake) := ⟨rfl, rfl, rfl, by decide +kernel, rfl, by decide +kernel, by decide +kernel⟩
theorem ok_take (D : Df K mg "_law_take" sTake ["_law_state", "_law_many_here"]) (T : Tx K mg CL) (M : Kp P w K mg base CX0 1 "_law_mixed" ["_law_cell", "_law_k"] spMixed) : Kp P w K mg base CX0 2 "_law_take" ["_law_state", "_law_many_here"] (spTake K) := by
  obtain ⟨f, fd, F, b, g⟩ := D
  obtain ⟨fM, fdM, GM, bM, mM, kM⟩ := M
  refine ⟨f, fd, ?_, b, g, F.kp⟩
  refine F.ok scTake (fun vs H Q E h => ?_) (fun cdv A outer s H vs Q E hr h => ?_)
  · obtain ⟨st, m, rfl, _⟩ := h
    rfl
  · obtain ⟨st, m, rfl, m0, m1, ⟨sa, ns, k, d, h1, hk, hd, hS⟩, q⟩ := h
    have m2 : m.natAbs < 2 ^ 210 := by
      have : (2 * 10 ^ 60 : Int) < 2 ^ 210 := by decide
      have e : (m.natAbs : Int) = m := by omega
      have : (m.natAbs : Int) < ((2 ^ 210 : Nat) : Int) := by
        rw [e]
        have e2 : ((2 ^ 210 : Nat) : Int) = (2 : Int) ^ 210 := by decide
        rw [e2]
        exact Int.lt_of_le_of_lt m1 (by decide)
      omega
    refine ⟨_, C8.pss_cut (ps_if (pt_cmpR op_eq (pe_ix ix_list (pv 0) pe_int (fun _ _ => rfl)) pe_int (nomark _))
        (pss_cons (ps_set (i := 2) scTake.nd rfl (.inl rfl) (pe_ix ix_list (pv 0) pe_int (fun _ _ => rfl)))
        (pss_cons (ps_set (i := 3) scTake.nd rfl (.inl rfl) (pe_ix ix_list (pv 0) pe_int (fun _ _ => rfl)))
        (pss_cons (ps_asg (pe_op op_add (pv 3) pe_int) (pg_sub (pv 0) pe_int set_list))
        (pss_cons (ps_set (i := 4) scTake.nd rfl (.inl rfl) pe_int)
        (C8.pss_cut (ps_if (pt_cmpR op_lt (pv 3) (pe_callB call_len_seq (by rfl) T.zlen PySem.boot_len (pa_cons (pv 2) pa_nil)) (nomark _))
            (pss_one (ps_set (i := 4) scTake.nd rfl (.inl rfl) (pe_ix ix_list (pv 2) (pv 3) (fun _ _ => rfl))))
            (pss_one (ps_if (pt_cmpR op_gt (pe_callB call_len_seq (by rfl) T.zlen PySem.boot_len (pa_cons (pv 2) pa_nil)) pe_int (nomark _))
              (pss_one (ps_set (i := 4) scTake.nd rfl (.inl rfl) (pe_op op_mod (pe_ix ix_list (pv 2) (pe_op op_mod (pv 3) (pe_callB call_len_seq (by rfl) T.zlen PySem.boot_len (pa_cons (pv 2) pa_nil))) (fun _ _ => rfl)) (pe_op op_pow pe_int pe_int)))) pss_nil)))
        (pss_cons (ps_if (pt_cmpR op_lt (pe_callB call_abs (by rfl) T.zabs (by decide +kernel) (pa_cons (pv 4) pa_nil)) (pe_op op_pow pe_int pe_int) (nomark _))
            (pss_one (ps_ret (pe_op op_mod (pe_call GM hr (by rfl) mM kM bM .nil pass0 (pa_cons (pv 4) (pa_cons (pv 3) pa_nil))) (pv 1)))) pss_nil)
        (pss_one (ps_asg (pe_callB call_abs (by rfl) T.zabs (by decide +kernel) (pa_cons (pv 4) pa_nil)) (pg_sub (pv 0) pe_int set_list)))))))))
        pss_nil)
      (pss_cons (ps_set (i := 5) scTake.nd rfl (.inl rfl) (pe_op op_mod (pe_ix ix_list (pv 0) pe_int (fun _ _ => rfl)) (pv 1)))
      (pss_cons (ps_asg (pe_op op_fdivW (pe_ix ix_list (pv 0) pe_int (fun _ _ => rfl)) (pv 1)) (pg_sub (pv 0) pe_int set_list))
      (pss_one (ps_ret (pv 5))))), ?_⟩
    refine ⟨fun σ H' => ∃ (v2 v3 v4 : Option V) (k d : Int), σ = [some (.ref st), some (.int m), v2, v3, v4, none] ∧ H' st = some (.lst [.ref sa, .int k, .int d]) ∧ 0 ≤ k ∧ 0 ≤ d ∧ Scr K H' sa ns ∧ But st H H', ?_, ?_⟩
    · refine ⟨_, rfl, st, _, 2, .int d, rfl, rfl, SqL.of h1, rfl, rfl, _, rfl, ite2 (fun c => ?_) (fun c => ?_)⟩
      · refine ⟨_, rfl, st, _, 0, .ref sa, rfl, rfl, SqL.of h1, rfl, ?_⟩
        refine ⟨_, rfl, st, _, 1, .int k, rfl, rfl, SqL.of h1, rfl, ?_⟩
        refine ⟨_, rfl, _, _, rfl, rfl, _, rfl, st, _, 1, 1, rfl, rfl, h1, rfl, ?_⟩
        show C8.tCut _ _ _ _ (upd H st (.lst [.ref sa, .int (k + 1), .int d]))
        have b1 : But st H (upd H st (.lst [.ref sa, .int (k + 1), .int d])) := but_upd
        have hS1 := hS.but b1 h1
        have g1 : (upd H st (.lst [.ref sa, .int (k + 1), .int d])) st = some (.lst [.ref sa, .int (k + 1), .int d]) := upd_same
        generalize upd H st (.lst [.ref sa, .int (k + 1), .int d]) = H1 at b1 hS1 g1
        refine ⟨fun σ H' => ∃ c : Int, σ = [some (.ref st), some (.int m), some (.ref sa), some (.int k), some (.int c), none] ∧ H' = H1, ?_, ?_⟩
        · refine ⟨_, rfl, _, rfl, sa, _, rfl, .inl hS1.seq, _, _, rfl, rfl, _, rfl, ite2 (fun c1 => ?_) (fun c1 => ?_)⟩
          · have e1 := of_decide_eq_true c1
            rw [List.length_map] at e1
            obtain ⟨j, rfl⟩ : ∃ j : Nat, k = (j : Int) := ⟨k.toNat, by omega⟩
            have hj : j < ns.length := by omega
            refine ⟨_, rfl, _, rfl, sa, _, _, .int ns[j], rfl, rfl, hS1.seq, atI_nat (by rw [List.getElem?_map, List.getElem?_eq_getElem hj]; rfl), _, rfl, rfl⟩
          · refine ⟨_, rfl, sa, _, rfl, .inl hS1.seq, _, _, rfl, rfl, _, rfl, ite2 (fun c2 => ?_) (fun c2 => ?_)⟩
            · have e2 := of_decide_eq_true c2
              rw [List.length_map] at e2
              have z0 : 0 ≤ k % (ns.length : Int) := Int.emod_nonneg _ (by omega)
              have z1 : k % (ns.length : Int) < (ns.length : Int) := Int.emod_lt_of_pos _ (by omega)
              obtain ⟨j, ej⟩ : ∃ j : Nat, k % (ns.length : Int) = (j : Int) := ⟨(k % (ns.length : Int)).toNat, by omega⟩
              have hj : j < ns.length := by omega
              refine ⟨_, rfl, _, rfl, _, rfl, sa, _, rfl, .inl hS1.seq, _, _, rfl, rfl, (by show (0 : Int) < _; rw [List.length_map]; omega), sa, _, _, .int ns[j], rfl, rfl, hS1.seq, ?_, _, _, rfl, rfl, ⟨by decide, by decide, by decide⟩, _, _, rfl, rfl, (by show (0 : Int) < _; decide), _, rfl, rfl⟩
              rw [List.length_map, ej]
              exact atI_nat (by rw [List.getElem?_map, List.getElem?_eq_getElem hj]; rfl)
            · exact ⟨_, rfl, rfl⟩
        · rintro σ H2 ⟨c, rfl, rfl⟩
          refine ⟨_, rfl, _, rfl, _, _, rfl, rfl, ⟨by decide, by decide, by decide⟩, _, _, rfl, rfl, _, rfl, ite2 (fun c1 => ?_) (fun c1 => ?_)⟩
          · refine ⟨_, rfl, _, rfl, c, k, rfl, fun r => ?_⟩
            exact ⟨_, rfl, _, _, rfl, rfl, m0, q H2 _ (Int.emod_nonneg _ (by omega)) (Int.emod_lt_of_pos _ m0) ⟨sa, ns, k + 1, d, g1, by omega, hd, hS1⟩ b1⟩
          · refine ⟨_, rfl, _, rfl, _, rfl, st, _, 2, 2, rfl, rfl, g1, rfl, ?_⟩
            have b2 : But st H2 (upd H2 st (.lst [.ref sa, .int (k + 1), .int (if c < 0 then -c else c)])) := but_upd
            exact ⟨_, _, _, k + 1, (if c < 0 then -c else c), rfl, upd_same, by omega, by split <;> omega, hS1.but b2 g1, b1.trans b2⟩
      · exact ⟨none, none, none, k, d, rfl, h1, hk, hd, hS, But.refl _ _⟩
    · rintro σ H1 ⟨v2, v3, v4, k1, d1, rfl, g1, hk1, hd1, hS1, b1⟩
      refine ⟨_, rfl, st, _, 2, .int d1, rfl, rfl, SqL.of g1, rfl, _, rfl, _, _, rfl, rfl, m0, ?_⟩
      refine ⟨_, rfl, st, _, 2, .int d1, rfl, rfl, SqL.of g1, rfl, _, rfl, _, _, rfl, rfl, wide_div m0 m2 (by decide) (by decide), _, rfl, st, _, 2, 2, rfl, rfl, g1, rfl, ?_⟩
      have b2 : But st H1 (upd H1 st (.lst [.ref sa, .int k1, .int (d1 / m)])) := but_upd
      exact ⟨_, rfl, q _ _ (Int.emod_nonneg _ (by omega)) (Int.emod_lt_of_pos _ m0) ⟨sa, ns, k1, d1 / m, upd_same, hk1, Int.ediv_nonneg hd1 (by omega), hS1.but b2 g1⟩ (b1.trans b2)⟩
end
end K07

set_option Elab.async false
set_option linter.all false
set_option maxRecDepth 100000
set_option maxHeartbeats 4000000
/-! The law's heads, numbers, leaves and nodes' heads. -/
namespace K07
open PySem PySem.Spec PyProof.Rows L2

abbrev sHead : Stmt := topS 36

theorem HeadsAt.ne_st {K : PySem.W.Frag} {H : Hp} {a st : Addr} {hs : List (Nat × Nat)} (h : HeadsAt H a hs) (S : StateAt K H st) : a ≠ st := fun z => by
  obtain ⟨ts, h1, _⟩ := h
  obtain ⟨sa, ns, k, d, g1, _⟩ := S
  rw [z, g1] at h1
  have r3 := Option.some.inj h1
  injection r3 with r4
  match ts, r4 with
  | [], r4 => cases r4
  | [_], r4 => cases r4
  | _ :: _ :: _, r4 =>
    injection r4 with _ r5
    injection r5 with r6 _
    cases r6

section
variable {P : Program} {w : World} {K : PySem.W.Frag} {mg : Str → Option Value} {base : Heap} {CL : Addr}

/-! ### heads -/
def spLHeads (K : PySem.W.Frag) : Sp := fun vs H Q _ => ∃ st : Addr, vs = [.ref st] ∧ StateAt K H st ∧ ∀ H' a hs, HeadsOk hs → HeadsAt H' a hs → StateAt K H' st → H a = none → But st H H' → Q (.ref a) H'
theorem scHeads : FnScope ["_law_state", "_law_many_here", "_law_heads_here", "_law_k", "_law_params"] ["_law_state"] (defScope sHeads) := ⟨rfl, rfl, rfl, by decide +kernel, rfl, by decide +kernel, by decide +kernel⟩
theorem ok_heads (D : Df K mg "_law_heads" sHeads ["_law_state"]) (T : Tx K mg CL) (M : Kp P w K mg base CX0 2 "_law_take" ["_law_state", "_law_many_here"] (spTake K)) : Kp P w K mg base CX0 3 "_law_heads" ["_law_state"] (spLHeads K) := by
  obtain ⟨f, fd, F, b, g⟩ := D
  obtain ⟨fM, fdM, GM, bM, mM, kM⟩ := M
  refine ⟨f, fd, ?_, b, g, F.kp⟩
  refine F.ok scHeads (fun vs H Q E h => ?_) (fun cdv A outer s H vs Q E hr h => ?_)
  · obtain ⟨st, rfl, _⟩ := h
    rfl
  · obtain ⟨st, rfl, S, q⟩ := h
    refine ⟨_, pss_cons (ps_set (i := 1) scHeads.nd rfl (.inl rfl) (pe_op op_add pe_int (pe_call GM hr (by rfl) mM kM bM .nil pass0 (pa_cons (pv 0) (pa_cons pe_int pa_nil)))))
      (C8.pss_cut (ps_if (pt_cmpR op_eq (pe_call GM hr (by rfl) mM kM bM .nil pass0 (pa_cons (pv 0) (pa_cons pe_int pa_nil))) pe_int (nomark _)) (pss_one (ps_set (i := 1) scHeads.nd rfl (.inl rfl) (pe_op op_add pe_int (pe_call GM hr (by rfl) mM kM bM .nil pass0 (pa_cons (pv 0) (pa_cons pe_int pa_nil)))))) pss_nil)
      (pss_cons (ps_set (i := 2) scHeads.nd rfl (.inl rfl) (pe_lst pa_nil))
      (pss_cons (ps_for PassesOwn.never rfl (pi_range1 (by rfl) T.zrange (pa_cons (pv 1) pa_nil)) (pg_name (i := 3) scHeads.nd rfl (.inl rfl))
        (pss_cons (ps_set (i := 4) scHeads.nd rfl (.inl rfl) (pe_op op_mul (pe_call GM hr (by rfl) mM kM bM .nil pass0 (pa_cons (pv 0) (pa_cons pe_int pa_nil))) (pe_callTy call_int1 (by rfl) T.zint (by decide +kernel) (pa_cons (pe_cmpR op_gt (pv 3) pe_int (nomark _)) pa_nil))))
        (pss_one (ps_expr (pe_bm PySem.F.plainAttrs_list PySem.F.slot_list_append PySem.F.type_list_append mt_append (pv 2) (pa_cons (pe_tup (pa_cons (pv 4) (pa_cons (pe_op op_add (pv 4) (pe_call GM hr (by rfl) mM kM bM .nil pass0 (pa_cons (pv 0) (pa_cons (pe_ix ix_list (pe_lst (pa_cons (pe_op op_sub pe_int (pv 4)) (pa_cons pe_int pa_nil))) (pe_call GM hr (by rfl) mM kM bM .nil pass0 (pa_cons (pv 0) (pa_cons pe_int pa_nil))) (fun _ _ => rfl)) pa_nil)))) pa_nil))) pa_nil))))))
      (pss_one (ps_ret (pv 2)))))), ?_⟩
    -- many
    refine ⟨_, rfl, st, 4, rfl, by decide, by decide, S, fun H1 r1 r10 r11 S1 B1 => ⟨_, _, rfl, rfl, ?_⟩⟩
    refine ⟨fun σ H' => ∃ many : Nat, σ = [some (.ref st), some (.int (many : Int)), none, none, none] ∧ 1 ≤ many ∧ many ≤ 16 ∧ StateAt K H' st ∧ But st H H', ?_, ?_⟩
    · refine ⟨_, rfl, st, 8, rfl, by decide, by decide, S1, fun H2 r2 r20 r21 S2 B2 => ⟨rfl, _, rfl, ite2 (fun c => ?_) (fun c => ?_)⟩⟩
      · refine ⟨_, rfl, st, 16, rfl, by decide, by decide, S2, fun H3 r3 r30 r31 S3 B3 => ⟨_, _, rfl, rfl, ?_⟩⟩
        exact ⟨(1 + r3).toNat, by rw [Int.toNat_of_nonneg (by omega)]; rfl, by omega, by omega, S3, (B1.trans B2).trans B3⟩
      · exact ⟨(1 + r1).toNat, by rw [Int.toNat_of_nonneg (by omega)]; rfl, by omega, by omega, S2, B1.trans B2⟩
    · rintro σ H2 ⟨many, rfl, hm1, hm2, S2, B2⟩
      refine ⟨Nat.zero_le _, fun o no => ?_⟩
      have s3 : Same H2 (upd H2 o (.lst [])) := same_upd no
      have so : st ≠ o := S2.ne no
      have noH : H o = none := B2.free no so.symm
      refine ⟨_, rfl, _, rfl, by omega, by omega, ?_⟩
      rw [Int.toNat_natCast]
      refine for_range (lo := 0) (n := many) (fun i σ H' => ∃ (ts : List Addr) (hs : List (Nat × Nat)) (v3 v4 : Option V), σ = [some (.ref st), some (.int (many : Int)), some (.ref o), v3, v4] ∧ H' o = some (.lst (ts.map V.ref)) ∧ ts.length = i ∧ hs.length = i ∧
          (∀ (j : Nat) (t : Addr) (h : Nat × Nat), ts[j]? = some t → hs[j]? = some h → H' t = some (.tup [.int (h.1 : Int), .int (h.2 : Int)])) ∧
          (∀ (j : Nat) (h : Nat × Nat), hs[j]? = some h → h.1 ≤ 4 ∧ h.1 ≤ h.2 ∧ h.2 ≤ 12 ∧ (j = 0 → h.1 = 0)) ∧ StateAt K H' st ∧ But st H H')
        ⟨[], [], none, none, rfl, upd_same, rfl, rfl, fun j t h e => (by simp at e), fun j h e => (by simp at e), S2.same s3, B2.trans (same_but s3 st)⟩ ?_ ?_
      · rintro i σ H3 hi ⟨ts, hs, v3, v4, rfl, eo, hl, hl2, hts, hhs, S3, B3⟩
        -- params
        refine ⟨_, rfl, st, 5, rfl, by decide, by decide, S3, fun H4 r4 r40 r41 S4 B4 => ⟨_, rfl, _, _, rfl, rfl, .inr ⟨_, rfl, _, _, rfl, rfl, .inl ⟨by omega, by omega⟩, ?_⟩⟩⟩
        obtain ⟨p, ep, hp, hp0⟩ : ∃ p : Nat, r4 * (if decide ((0 : Int) < 0 + (i : Int)) = true then 1 else 0) = (p : Int) ∧ p ≤ 4 ∧ (i = 0 → p = 0) := by
          by_cases hi0 : i = 0
          · refine ⟨0, ?_, by omega, fun _ => rfl⟩
            rw [if_neg (by rw [decide_eq_true_eq]; omega)]
            omega
          · refine ⟨r4.toNat, ?_, by omega, fun z => absurd z hi0⟩
            rw [if_pos (decide_eq_true (show (0 : Int) < 0 + (i : Int) by omega))]
            omega
        show gName 4 (V.int (r4 * (if decide ((0 : Int) < 0 + (i : Int)) = true then 1 else 0))) _ _ _
        rw [ep]
        have T4 : Tps H3 H4 := S3.tps B4
        have eo4 : H4 o = some (.lst (ts.map V.ref)) := B4 _ _ eo so.symm
        -- heads.append((params, params + ..))
        refine ⟨.ref o, rfl, .inl ⟨rfl, _, .inl (.inl eo4)⟩, _, rfl, _, rfl, _, rfl, _, rfl, _, _, rfl, rfl, two_line, fun l nl => ?_⟩
        have s5 : Same H4 (upd H4 l (.lst [.int (13 - (p : Int)), .int 4])) := same_upd nl
        have S5 := S4.same s5
        have sl : st ≠ l := S4.ne nl
        refine ⟨_, rfl, st, 2, rfl, by decide, by decide, S5, fun H6 r6 r60 r61 S6 B6 => ?_⟩
        have el6 : H6 l = some (.lst [.int (13 - (p : Int)), .int 4]) := B6 _ _ upd_same sl.symm
        obtain ⟨m, hm, hmv⟩ : ∃ m : Int, atI [V.int (13 - (p : Int)), .int 4] r6 = some (.int m) ∧ (m = 13 - (p : Int) ∨ m = 4) := by
          have : r6 = 0 ∨ r6 = 1 := by omega
          rcases this with rfl | rfl
          · exact ⟨_, rfl, .inl rfl⟩
          · exact ⟨_, rfl, .inr rfl⟩
        refine ⟨l, _, _, .int m, rfl, rfl, SqL.of el6, hm, ?_⟩
        refine ⟨st, m, rfl, by omega, by rcases hmv with rfl | rfl <;> omega, S6, fun H7 r7 r70 r71 S7 B7 => ⟨_, _, rfl, rfl, two_line, fun t nt => ?_⟩⟩
        obtain ⟨x, ex, hx⟩ : ∃ x : Nat, (p : Int) + r7 = (x : Int) ∧ p ≤ x ∧ x ≤ 12 := ⟨((p : Int) + r7).toNat, by omega, by omega, by omega⟩
        have B37 : But st H3 H7 := ((B4.trans (same_but s5 st)).trans B6).trans B7
        have T37 : Tps H3 H7 := S3.tps B37
        have eo7 : H7 o = some (.lst (ts.map V.ref)) := B37 _ _ eo so.symm
        have s8 : Same H7 (upd H7 t (.tup [.int (p : Int), .int ((p : Int) + r7)])) := same_upd nt
        have ot : o ≠ t := ne_of_none eo7 nt
        refine ⟨o, _, _, rfl, rfl, s8 _ _ eo7, line_lt (by rw [List.length_map, hl]; omega), ?_⟩
        have B9 : But o (upd H7 t (.tup [.int (p : Int), .int ((p : Int) + r7)])) (upd (upd H7 t (.tup [.int (p : Int), .int ((p : Int) + r7)])) o (.lst (ts.map V.ref ++ [.ref t]))) := but_upd
        have T9 := B9.tps fun xs e => by rw [s8 _ _ eo7] at e; cases e
        refine ⟨ts ++ [t], hs ++ [(p, x)], _, _, rfl, by rw [upd_same, List.map_append]; rfl, by rw [List.length_append, hl]; rfl, by rw [List.length_append, hl2]; rfl, fun j t' h' e1 e2 => ?_, fun j h' e => ?_, (S7.same s8).but B9 (s8 _ _ eo7) so, fun b' x' e' n' => ?_⟩
        · by_cases hj : j < i
          · rw [List.getElem?_append_left (by omega)] at e1 e2
            exact T9 _ _ (s8 _ _ (T37 _ _ (hts j t' h' e1 e2)))
          · have hj2 : j = i := by
              have := (List.getElem?_eq_some_iff.mp e1).1
              rw [List.length_append, hl] at this
              have : j < i + 1 := this
              omega
            subst hj2
            rw [List.getElem?_append_right (by omega), hl, Nat.sub_self] at e1
            rw [List.getElem?_append_right (by omega), hl2, Nat.sub_self] at e2
            cases e1
            cases e2
            show _ = some (HO.tup [.int (p : Int), .int (x : Int)])
            rw [← ex]
            exact T9 _ _ upd_same
        · by_cases hj : j < i
          · rw [List.getElem?_append_left (by omega)] at e
            exact hhs j h' e
          · have hj2 : j = i := by
              have := (List.getElem?_eq_some_iff.mp e).1
              rw [List.length_append, hl2] at this
              have : j < i + 1 := this
              omega
            subst hj2
            rw [List.getElem?_append_right (by omega), hl2, Nat.sub_self] at e
            cases e
            exact ⟨hp, hx.1, hx.2, hp0⟩
        · rw [upd_ne (ne_of_none e' noH)]
          exact s8 _ _ (B37 _ _ (B3 _ _ e' n') n')
      · rintro σ H3 ⟨ts, hs, v3, v4, rfl, eo, hl, hl2, hts, hhs, S3, B3⟩
        exact ⟨_, rfl, q H3 o hs ⟨by omega, by omega, hhs⟩ ⟨ts, eo, by omega, hts⟩ S3 noH B3⟩

/-! ### number, leaf -/
def spNumber (K : PySem.W.Frag) : Sp := fun vs H Q _ => ∃ st : Addr, vs = [.ref st] ∧ StateAt K H st ∧ ∀ H' (r : Int), StateAt K H' st → But st H H' → Q (.int r) H'
theorem scNumber : FnScope ["_law_state", "_law_way"] ["_law_state"] (defScope sNumber) := ⟨rfl, rfl, rfl, by decide +kernel, rfl, by decide +kernel, by decide +kernel⟩
theorem ok_number (D : Df K mg "_law_number" sNumber ["_law_state"]) (M : Kp P w K mg base CX0 2 "_law_take" ["_law_state", "_law_many_here"] (spTake K)) : Kp P w K mg base CX0 3 "_law_number" ["_law_state"] (spNumber K) := by
  obtain ⟨f, fd, F, b, g⟩ := D
  obtain ⟨fM, fdM, GM, bM, mM, kM⟩ := M
  refine ⟨f, fd, ?_, b, g, F.kp⟩
  refine F.ok scNumber (fun vs H Q E h => ?_) (fun cdv A outer s H vs Q E hr h => ?_)
  · obtain ⟨st, rfl, _⟩ := h
    rfl
  · obtain ⟨st, rfl, S, q⟩ := h
    refine ⟨_, pss_cons (ps_set (i := 1) scNumber.nd rfl (.inl rfl) (pe_call GM hr (by rfl) mM kM bM .nil pass0 (pa_cons (pv 0) (pa_cons pe_int pa_nil))))
      (pss_cons (ps_if (pt_cmpR op_lt (pv 1) pe_int (nomark _)) (pss_one (ps_ret (pe_op op_sub (pe_call GM hr (by rfl) mM kM bM .nil pass0 (pa_cons (pv 0) (pa_cons pe_int pa_nil))) pe_int))) pss_nil)
      (pss_cons (ps_if (pt_cmpR op_eq (pv 1) pe_int (nomark _)) (pss_one (ps_ret (pe_op op_sub (pe_call GM hr (by rfl) mM kM bM .nil pass0 (pa_cons (pv 0) (pa_cons pe_int pa_nil))) pe_int))) pss_nil)
      (pss_one (ps_ret (pe_op op_add (pe_op op_sub (pe_call GM hr (by rfl) mM kM bM .nil pass0 (pa_cons (pv 0) (pa_cons (pe_op op_sub (pe_op op_mul pe_int (pe_op op_pow pe_int pe_int)) pe_int) pa_nil))) (pe_op op_pow pe_int pe_int)) pe_int))))), ?_⟩
    refine ⟨_, rfl, st, 6, rfl, by decide, by decide, S, fun H1 r1 r10 r11 S1 B1 => ?_⟩
    refine ⟨_, rfl, _, _, rfl, rfl, _, rfl, ite2 (fun c => ?_) (fun c => ?_)⟩
    · exact ⟨_, rfl, st, 9, rfl, by decide, by decide, S1, fun H2 r2 r20 r21 S2 B2 => ⟨_, _, rfl, rfl, q H2 _ S2 (B1.trans B2)⟩⟩
    · refine ⟨_, rfl, rfl, _, rfl, ite2 (fun c2 => ?_) (fun c2 => ?_)⟩
      · exact ⟨_, rfl, st, 400, rfl, by decide, by decide, S1, fun H2 r2 r20 r21 S2 B2 => ⟨_, _, rfl, rfl, q H2 _ S2 (B1.trans B2)⟩⟩
      · refine ⟨_, rfl, _, _, rfl, rfl, ⟨by decide, by decide, by decide⟩, _, _, rfl, rfl, .inl ⟨by decide, by decide⟩, _, _, rfl, rfl, st, _, rfl, ?_, ?_, S1, fun H2 r2 r20 r21 S2 B2 => ?_⟩
        · show (0 : Int) < 2 * 10 ^ 60 - 1
          decide
        · show (2 : Int) * 10 ^ 60 - 1 ≤ 2 * 10 ^ 60
          decide
        · exact ⟨_, _, rfl, rfl, ⟨by decide, by decide, by decide⟩, _, _, rfl, rfl, _, _, rfl, rfl, q H2 _ S2 (B1.trans B2)⟩

def spLeaf (K : PySem.W.Frag) : Sp := fun vs H Q _ => ∃ (st : Addr) (hs : List (Nat × Nat)) (bx : Nat), vs = [.ref st, .int (bx : Int)] ∧ bx ≤ 12 ∧ StateAt K H st ∧
  ∀ H' a (t : Tree), t.wf hs bx → t.dep = 1 → t.cnt = 1 → H' a = some (.lst (t.enc.map V.int)) → StateAt K H' st → But st H H' → Q (.ref a) H'
theorem scLeaf : FnScope ["_law_state", "_law_boxes", "_law_way"] ["_law_state", "_law_boxes"] (defScope sLeaf) := ⟨rfl, rfl, rfl, by decide +kernel, rfl, by decide +kernel, by decide +kernel⟩
theorem leaf_dep (k : Int) (own : List Int) : (Tree.node k own []).dep = 1 ∧ (Tree.node k own []).cnt = 1 ∧ (Tree.node k own []).enc = k :: own := by
  rw [dep_node, cnt_node, enc_node, deps_nil, cnts_nil, encs_nil, List.append_nil]
  exact ⟨rfl, rfl, rfl⟩
theorem ok_leaf (D : Df K mg "_law_leaf" sLeaf ["_law_state", "_law_boxes"]) (M : Kp P w K mg base CX0 2 "_law_take" ["_law_state", "_law_many_here"] (spTake K)) (MN : Kp P w K mg base CX0 3 "_law_number" ["_law_state"] (spNumber K)) :
    Kp P w K mg base CX0 4 "_law_leaf" ["_law_state", "_law_boxes"] (spLeaf K) := by
  obtain ⟨f, fd, F, b, g⟩ := D
  obtain ⟨fM, fdM, GM, bM, mM, kM⟩ := M
  obtain ⟨fN, fdN, GN, bN, mN, kN⟩ := MN
  refine ⟨f, fd, ?_, b, g, F.kp⟩
  refine F.ok scLeaf (fun vs H Q E h => ?_) (fun cdv A outer s H vs Q E hr h => ?_)
  · obtain ⟨st, hs, bx, rfl, _⟩ := h
    rfl
  · obtain ⟨st, hs, bx, rfl, hbx, S, q⟩ := h
    have hr2 : Room 2 _ := hr.mono (by decide)
    refine ⟨_, pss_cons (ps_set (i := 2) scLeaf.nd rfl (.inl rfl) (pe_call GM hr2 (by rfl) mM kM bM .nil pass0 (pa_cons (pv 0) (pa_cons pe_int pa_nil))))
      (C8.pss_cut (ps_if (PW.pt (pw_and (pt_cmpR op_lt (pv 2) pe_int (nomark _)) (pw_and1 (pt_cmpR op_gt (pv 1) pe_int (nomark _))))) (pss_one (ps_ret (pe_lst (pa_cons pe_int (pa_cons (pe_call GM hr2 (by rfl) mM kM bM .nil pass0 (pa_cons (pv 0) (pa_cons (pv 1) pa_nil))) pa_nil))))) pss_nil)
      (pss_cons (ps_if (pt_cmpR op_eq (pv 2) pe_int (nomark _)) (pss_one (ps_ret (pe_lst (pa_cons pe_int pa_nil)))) pss_nil)
      (pss_one (ps_ret (pe_lst (pa_cons pe_int (pa_cons (pe_call GN hr (by rfl) mN kN bN .nil pass0 (pa_cons (pv 0) pa_nil)) pa_nil))))))), ?_⟩
    refine ⟨_, rfl, st, 5, rfl, by decide, by decide, S, fun H1 r1 r10 r11 S1 B1 => ?_⟩
    refine ⟨fun σ H' => σ = [some (.ref st), some (.int (bx : Int)), some (.int r1)] ∧ H' = H1, ?_, ?_⟩
    · refine ⟨_, rfl, _, _, rfl, rfl, _, rfl, ite2 (fun c => ?_) (fun c => ?_)⟩
      · refine ⟨_, rfl, _, _, rfl, rfl, _, rfl, ite2 (fun c2 => ?_) (fun c2 => ?_)⟩
        · have hb := of_decide_eq_true c2
          refine ⟨_, rfl, _, rfl, st, (bx : Int), rfl, hb, by omega, S1, fun H2 r2 r20 r21 S2 B2 => ⟨two_line, fun a na => ?_⟩⟩
          have s3 : Same H2 (upd H2 a (.lst [.int 1, .int r2])) := same_upd na
          obtain ⟨d1, d2, d3⟩ := leaf_dep 1 [r2]
          obtain ⟨j, ej⟩ : ∃ j : Nat, r2 = (j : Int) := ⟨r2.toNat, by omega⟩
          refine q _ a (.node 1 [r2] []) ((wf_node _ _ _ _ _).mpr ⟨?_, wfs_nil _ _⟩) d1 d2 (by rw [upd_same, d3]; rfl) (S2.same s3) ((B1.trans B2).trans (same_but s3 st))
          rw [ej]
          exact HeadOk.get j (by omega)
        · exact ⟨rfl, rfl⟩
      · exact iteF ⟨rfl, rfl⟩
    · rintro σ H2 ⟨rfl, rfl⟩
      refine ⟨_, rfl, rfl, _, rfl, ite2 (fun c => ?_) (fun c => ?_)⟩
      · refine ⟨one_line, fun a na => ?_⟩
        have s3 : Same H2 (upd H2 a (.lst [.int 19])) := same_upd na
        obtain ⟨d1, d2, d3⟩ := leaf_dep 19 []
        exact q _ a (.node 19 [] []) ((wf_node _ _ _ _ _).mpr ⟨HeadOk.rest 19 (by decide) (by decide), wfs_nil _ _⟩) d1 d2 (by rw [upd_same, d3]; rfl) (S1.same s3) (B1.trans (same_but s3 st))
      · refine ⟨_, rfl, st, rfl, S1, fun H3 r3 S3 B3 => ⟨two_line, fun a na => ?_⟩⟩
        have s3 : Same H3 (upd H3 a (.lst [.int 0, .int r3])) := same_upd na
        obtain ⟨d1, d2, d3⟩ := leaf_dep 0 [r3]
        exact q _ a (.node 0 [r3] []) ((wf_node _ _ _ _ _).mpr ⟨HeadOk.num r3, wfs_nil _ _⟩) d1 d2 (by rw [upd_same, d3]; rfl) (S3.same s3) ((B1.trans B3).trans (same_but s3 st))

/-! ### a node's head -/
def tab : List Nat := [0, 0, 0, 0, 0, 2, 0, 1, 2, 2, 2, 2, 2, 2, 2, 2, 2, 3, 1, 0]
def tabB (k : Nat) : Bool := k == 3 || k == 4 || k == 6 || (decide (k ≤ 2) && tab[k]? == some 0) || (k == 5 && tab[k]? == some 2) || (decide (7 ≤ k) && decide (k ≤ 19) && tab[k]? == some (partsOf (k : Int)))
theorem tabB_ok : (List.range 20).all tabB = true := by decide
theorem tab_ok (k : Nat) (hk : k < 20) (h3 : k ≠ 3) (h4 : k ≠ 4) (h6 : k ≠ 6) : (k ≤ 2 ∧ tab[k]? = some 0) ∨ (k = 5 ∧ tab[k]? = some 2) ∨ (7 ≤ k ∧ k ≤ 19 ∧ tab[k]? = some (partsOf (k : Int))) := by
  have h := List.all_eq_true.mp tabB_ok k (List.mem_range.mpr hk)
  unfold tabB at h
  simp only [Bool.or_eq_true, Bool.and_eq_true, beq_iff_eq, decide_eq_true_eq] at h
  rcases h with ((((h | h) | h) | h) | h) | h
  · exact absurd h h3
  · exact absurd h h4
  · exact absurd h h6
  · exact .inl h
  · exact .inr (.inl h)
  · exact .inr (.inr ⟨h.1.1, h.1.2, h.2⟩)
def spHead (K : PySem.W.Frag) : Sp := fun vs H Q _ => ∃ (st ha : Addr) (hs : List (Nat × Nat)) (bx : Nat), vs = [.ref st, .ref ha, .int (bx : Int)] ∧ bx ≤ 12 ∧ StateAt K H st ∧ HeadsAt H ha hs ∧ HeadsOk hs ∧
  ∀ H' t l (k : Int) own (m : Nat), H' t = some (.tup [.ref l, .int (m : Int)]) → H' l = some (.lst ((k :: own).map V.int)) → H l = none → (HeadOk hs bx k own m ∨ (k < 3 ∧ own = [])) → StateAt K H' st → But st H H' → Q (.ref t) H'
theorem scHead : FnScope ["_law_state", "_law_heads_here", "_law_boxes", "_law_kind", "_law_many_here", "_law_function"] ["_law_state", "_law_heads_here", "_law_boxes"] (defScope sHead) := ⟨rfl, rfl, rfl, by decide +kernel, rfl, by decide +kernel, by decide +kernel⟩
theorem at4 {a b : Int} {r : Int} (h0 : 0 ≤ r) (h1 : r < 4) : ∃ m, atI [V.int a, .int a, .int a, .int b] r = some (.int m) ∧ (m = a ∨ m = b) := by
  have : r = 0 ∨ r = 1 ∨ r = 2 ∨ r = 3 := by omega
  rcases this with rfl | rfl | rfl | rfl
  · exact ⟨_, rfl, .inl rfl⟩
  · exact ⟨_, rfl, .inl rfl⟩
  · exact ⟨_, rfl, .inl rfl⟩
  · exact ⟨_, rfl, .inr rfl⟩
end
end K07

set_option Elab.async false
set_option linter.all false
set_option maxRecDepth 100000
set_option maxHeartbeats 4000000
/-! The law's nodes. -/
namespace K07
open PySem PySem.Spec PyProof.Rows L2

abbrev sLNode : Stmt := topS 37

section
variable {P : Program} {w : World} {K : PySem.W.Frag} {mg : Str → Option Value} {base : Heap} {CL : Addr}

theorem head_end {H H1 : Hp} {Q : VK} {st : Addr} {hs : List (Nat × Nat)} {bx : Nat} (S : StateAt K H st)
    (q : ∀ H' t l (k : Int) own (m : Nat), H' t = some (.tup [.ref l, .int (m : Int)]) → H' l = some (.lst ((k :: own).map V.int)) → H l = none → (HeadOk hs bx k own m ∨ (k < 3 ∧ own = [])) → StateAt K H' st → But st H H' → Q (.ref t) H')
    (S1 : StateAt K H1 st) (B : But st H H1) (k : Int) (own : List Int) (m : Nat) (vs : List V) (vm : V) (ev : vs = (k :: own).map V.int) (em : vm = .int (m : Int)) (hk : HeadOk hs bx k own m ∨ (k < 3 ∧ own = [])) :
    ∀ l, H1 l = none → ∀ t, (upd H1 l (.lst vs)) t = none → Q (.ref t) (upd (upd H1 l (.lst vs)) t (.tup [.ref l, vm])) := fun l nl t nt => by
  subst ev em
  have s1 : Same H1 (upd H1 l (.lst ((k :: own).map V.int))) := same_upd nl
  have s2 : Same (upd H1 l (.lst ((k :: own).map V.int))) (upd (upd H1 l (.lst ((k :: own).map V.int))) t (.tup [.ref l, .int (m : Int)])) := same_upd nt
  have nls : l ≠ st := (S1.ne nl).symm
  exact q _ t l k own m upd_same (s2 _ _ upd_same) (B.free nl nls) hk (S1.same (s1.trans s2)) (B.trans (same_but (s1.trans s2) st))

theorem ok_head (D : Df K mg "_law_head" sHead ["_law_state", "_law_heads_here", "_law_boxes"]) (T : Tx K mg CL) (M : Kp P w K mg base CX0 2 "_law_take" ["_law_state", "_law_many_here"] (spTake K)) :
    Kp P w K mg base CX0 3 "_law_head" ["_law_state", "_law_heads_here", "_law_boxes"] (spHead K) := by
  obtain ⟨f, fd, F, b, g⟩ := D
  obtain ⟨fM, fdM, GM, bM, mM, kM⟩ := M
  refine ⟨f, fd, ?_, b, g, F.kp⟩
  refine F.ok scHead (fun vs H Q E h => ?_) (fun cdv A outer s H vs Q E hr h => ?_)
  · obtain ⟨st, ha, hs, bx, rfl, _⟩ := h
    rfl
  · obtain ⟨st, ha, hs, bx, rfl, hbx, S, hH, ho, q⟩ := h
    refine ⟨_, pss_cons (ps_set (i := 3) scHead.nd rfl (.inl rfl) (pe_call GM hr (by rfl) mM kM bM .nil pass0 (pa_cons (pv 0) (pa_cons pe_int pa_nil))))
      (C8.pss_cut (ps_if (PW.pt (pw_and (pt_cmpR op_eq (pv 3) pe_int (nomark _)) (pw_and1 (pt_cmpR op_gt (pv 2) pe_int (nomark _))))) (pss_one (ps_ret (pe_tup (pa_cons (pe_lst (pa_cons pe_int (pa_cons (pe_call GM hr (by rfl) mM kM bM .nil pass0 (pa_cons (pv 0) (pa_cons (pv 2) pa_nil))) pa_nil))) (pa_cons pe_int pa_nil))))) pss_nil)
      (pss_cons (ps_if (pt_cmpR op_eq (pv 3) pe_int (nomark _)) (pss_cons (ps_set (i := 4) scHead.nd rfl (.inl rfl) (pe_op op_add pe_int (pe_call GM hr (by rfl) mM kM bM .nil pass0 (pa_cons (pv 0) (pa_cons (pe_ix ix_list (pe_lst (pa_cons pe_int (pa_cons pe_int (pa_cons pe_int (pa_cons pe_int pa_nil))))) (pe_call GM hr (by rfl) mM kM bM .nil pass0 (pa_cons (pv 0) (pa_cons pe_int pa_nil))) (fun _ _ => rfl)) pa_nil)))))
          (pss_one (ps_ret (pe_tup (pa_cons (pe_lst (pa_cons pe_int (pa_cons (pv 4) pa_nil))) (pa_cons (pv 4) pa_nil)))))) pss_nil)
      (pss_cons (ps_if (pt_cmpR op_eq (pv 3) pe_int (nomark _)) (pss_cons (ps_set (i := 4) scHead.nd rfl (.inl rfl) (pe_op op_add pe_int (pe_call GM hr (by rfl) mM kM bM .nil pass0 (pa_cons (pv 0) (pa_cons (pe_ix ix_list (pe_lst (pa_cons pe_int (pa_cons pe_int (pa_cons pe_int (pa_cons pe_int pa_nil))))) (pe_call GM hr (by rfl) mM kM bM .nil pass0 (pa_cons (pv 0) (pa_cons pe_int pa_nil))) (fun _ _ => rfl)) pa_nil)))))
          (pss_one (ps_ret (pe_tup (pa_cons (pe_lst (pa_cons pe_int (pa_cons (pv 4) pa_nil))) (pa_cons (pe_op op_add (pv 4) pe_int) pa_nil)))))) pss_nil)
      (pss_cons (ps_if (pt_cmpR op_eq (pv 3) pe_int (nomark _)) (pss_cons (ps_set (i := 5) scHead.nd rfl (.inl rfl) (pe_call GM hr (by rfl) mM kM bM .nil pass0 (pa_cons (pv 0) (pa_cons (pe_callB call_len_seq (by rfl) T.zlen PySem.boot_len (pa_cons (pv 1) pa_nil)) pa_nil))))
          (pss_one (ps_ret (pe_tup (pa_cons (pe_lst (pa_cons pe_int (pa_cons (pv 5) pa_nil))) (pa_cons (pe_ix ix_tup (pe_ix ix_list (pv 1) (pv 5) (fun _ _ => rfl)) pe_int (fun _ _ => rfl)) pa_nil)))))) pss_nil)
      (pss_one (ps_ret (pe_tup (pa_cons (pe_lst (pa_cons (pv 3) pa_nil)) (pa_cons (pe_ix ix_list (pe_lst (pa_cons pe_int (pa_cons pe_int (pa_cons pe_int (pa_cons pe_int (pa_cons pe_int (pa_cons pe_int (pa_cons pe_int (pa_cons pe_int (pa_cons pe_int (pa_cons pe_int
          (pa_cons pe_int (pa_cons pe_int (pa_cons pe_int (pa_cons pe_int (pa_cons pe_int (pa_cons pe_int (pa_cons pe_int (pa_cons pe_int (pa_cons pe_int (pa_cons pe_int pa_nil))))))))))))))))))))) (pv 3) (fun _ _ => rfl)) pa_nil))))))))), ?_⟩
    refine ⟨_, rfl, st, 20, rfl, by decide, by decide, S, fun H1 r r0 r1 S1 B1 => ?_⟩
    obtain ⟨k, rfl⟩ : ∃ k : Nat, r = (k : Int) := ⟨r.toNat, by omega⟩
    have hk20 : k < 20 := by omega
    have hH1 : HeadsAt H1 ha hs := hH.but B1 (S.tps B1) (hH.ne_st S)
    refine ⟨fun σ H' => σ = [some (.ref st), some (.ref ha), some (.int (bx : Int)), some (.int (k : Int)), none, none] ∧ H' = H1 ∧ ¬ (k = 2 ∧ 0 < bx), ?_, ?_⟩
    · refine ⟨_, rfl, rfl, _, rfl, ite2 (fun c => ?_) (fun c => ?_)⟩
      · have e := eqT c
        refine ⟨_, rfl, _, _, rfl, rfl, _, rfl, ite2 (fun c2 => ?_) (fun c2 => ?_)⟩
        · have hb := of_decide_eq_true c2
          refine ⟨_, rfl, _, rfl, st, (bx : Int), rfl, hb, by omega, S1, fun H2 r2 r20 r21 S2 B2 => ⟨two_line, fun l nl => ⟨two_line, fun t nt => ?_⟩⟩⟩
          obtain ⟨j, ej⟩ : ∃ j : Nat, r2 = (j : Int) := ⟨r2.toNat, by omega⟩
          exact head_end S q S2 (B1.trans B2) 2 [r2] 1 _ _ rfl rfl (.inl (by rw [ej]; exact HeadOk.set j (by omega))) l nl t nt
        · exact ⟨rfl, rfl, fun z => c2 (decide_eq_true (by omega))⟩
      · exact iteF ⟨rfl, rfl, fun z => c (decide_eq_true (by rw [z.1]; rfl))⟩
    · rintro σ H2 ⟨rfl, rfl, hn2⟩
      refine ⟨_, rfl, rfl, _, rfl, ite2 (fun c => ?_) (fun c => ?_)⟩
      · -- all
        refine ⟨_, rfl, (line_of (by show 4 ≤ 100000; decide)), fun l nl => ?_⟩
        have s3 : Same H2 (upd H2 l (.lst [.int 4, .int 4, .int 4, .int 12])) := same_upd nl
        have S3 := S1.same s3
        have sl : st ≠ l := S1.ne nl
        refine ⟨_, rfl, st, 4, rfl, by decide, by decide, S3, fun H4 r4 r40 r41 S4 B4 => ?_⟩
        have el : H4 l = some (.lst [.int 4, .int 4, .int 4, .int 12]) := B4 _ _ upd_same sl.symm
        obtain ⟨m, hm, hmv⟩ := at4 (a := 4) (b := 12) r40 r41
        refine ⟨l, _, _, .int m, rfl, rfl, SqL.of el, hm, st, m, rfl, by rcases hmv with rfl | rfl <;> decide, by rcases hmv with rfl | rfl <;> decide, S4, fun H5 r5 r50 r51 S5 B5 => ⟨_, _, rfl, rfl, ?_⟩⟩
        obtain ⟨x, ex, hx1, hx2⟩ : ∃ x : Nat, (1 : Int) + r5 = (x : Int) ∧ 1 ≤ x ∧ x ≤ 12 := ⟨((1 : Int) + r5).toNat, by omega, by omega, by rcases hmv with rfl | rfl <;> omega⟩
        refine ⟨_, rfl, two_line, fun l2 nl2 => ⟨_, rfl, two_line, fun t nt => ?_⟩⟩
        exact head_end S q S5 (((B1.trans (same_but s3 st)).trans B4).trans B5) 3 [(x : Int)] x _ _ (by rw [← ex]; rfl) (by rw [← ex]) (.inl (HeadOk.all x hx1 hx2)) l2 nl2 t nt
      have n3 : k ≠ 3 := fun z => eqF c (by rw [z]; rfl)
      refine ⟨_, rfl, rfl, _, rfl, ite2 (fun c => ?_) (fun c => ?_)⟩
      · -- pick
        refine ⟨_, rfl, (line_of (by show 4 ≤ 100000; decide)), fun l nl => ?_⟩
        have s3 : Same H2 (upd H2 l (.lst [.int 3, .int 3, .int 3, .int 11])) := same_upd nl
        have S3 := S1.same s3
        have sl : st ≠ l := S1.ne nl
        refine ⟨_, rfl, st, 4, rfl, by decide, by decide, S3, fun H4 r4 r40 r41 S4 B4 => ?_⟩
        have el : H4 l = some (.lst [.int 3, .int 3, .int 3, .int 11]) := B4 _ _ upd_same sl.symm
        obtain ⟨m, hm, hmv⟩ := at4 (a := 3) (b := 11) r40 r41
        refine ⟨l, _, _, .int m, rfl, rfl, SqL.of el, hm, st, m, rfl, by rcases hmv with rfl | rfl <;> decide, by rcases hmv with rfl | rfl <;> decide, S4, fun H5 r5 r50 r51 S5 B5 => ⟨_, _, rfl, rfl, ?_⟩⟩
        obtain ⟨x, ex, hx1, hx2⟩ : ∃ x : Nat, (2 : Int) + r5 = (x : Int) ∧ 2 ≤ x ∧ x ≤ 12 := ⟨((2 : Int) + r5).toNat, by omega, by omega, by rcases hmv with rfl | rfl <;> omega⟩
        refine ⟨_, rfl, two_line, fun l2 nl2 => ⟨_, rfl, _, _, rfl, rfl, two_line, fun t nt => ?_⟩⟩
        exact head_end S q S5 (((B1.trans (same_but s3 st)).trans B4).trans B5) 4 [(x : Int)] (x + 1) _ _ (by rw [← ex]; rfl) (by show V.int ((2 : Int) + r5 + 1) = _; rw [ex]; rfl) (.inl (HeadOk.pick x hx1 hx2)) l2 nl2 t nt
      have n4 : k ≠ 4 := fun z => eqF c (by rw [z]; rfl)
      refine ⟨_, rfl, rfl, _, rfl, ite2 (fun c => ?_) (fun c => ?_)⟩
      · -- call
        obtain ⟨ts, g1, g2, g3⟩ := id hH1
        have h1 := ho.one
        have h16 := ho.most
        refine ⟨_, rfl, _, rfl, ha, _, rfl, .inl (SqL.of g1), ?_⟩
        refine ⟨st, _, rfl, by rw [List.length_map]; omega, by rw [List.length_map]; omega, S1, fun H3 r3 r30 r31 S3 B3 => ?_⟩
        rw [List.length_map, g2] at r31
        obtain ⟨j, rfl⟩ : ∃ j : Nat, r3 = (j : Int) := ⟨r3.toNat, by omega⟩
        have hj : j < hs.length := by omega
        refine ⟨_, rfl, two_line, fun l nl => ?_⟩
        have s4 : Same H3 (upd H3 l (.lst [.int 6, .int (j : Int)])) := same_upd nl
        obtain ⟨ts4, k1, k2, k3⟩ := (hH1.but B3 (S1.tps B3) (hH1.ne_st S1)).same s4
        have hj4 : j < ts4.length := by omega
        refine ⟨_, rfl, _, rfl, ha, _, _, _, rfl, rfl, SqL.of k1, atI_nat (v := V.ref ts4[j]) (by rw [List.getElem?_map, List.getElem?_eq_getElem hj4]; rfl), ts4[j], _, 0, .int ((hs[j].1 : Nat) : Int), rfl, rfl, SqT.of (k3 j _ hs[j] (List.getElem?_eq_getElem hj4) (List.getElem?_eq_getElem hj)), rfl, two_line, fun t nt => ?_⟩
        exact head_end S q S3 (B1.trans B3) 6 [(j : Int)] hs[j].1 _ _ rfl rfl (.inl (HeadOk.call j hs[j].1 hs[j].2 (List.getElem?_eq_getElem hj))) l nl t nt
      have n6 : k ≠ 6 := fun z => eqF c (by rw [z]; rfl)
      refine ⟨_, rfl, one_line, fun l nl => ⟨(line_of (by show 20 ≤ 100000; decide)), fun l2 nl2 => ?_⟩⟩
      have s3 : Same H2 (upd H2 l (.lst [.int (k : Int)])) := same_upd nl
      have e2 : (([.int 0, .int 0, .int 0, .int 0, .int 0, .int 2, .int 0, .int 1, .int 2, .int 2, .int 2, .int 2, .int 2, .int 2, .int 2, .int 2, .int 2, .int 3, .int 1, .int 0] : List V)) = tab.map fun n : Nat => V.int (n : Int) := rfl
      obtain ⟨m, hm, hmk⟩ : ∃ m : Nat, tab[k]? = some m ∧ (HeadOk hs bx (k : Int) [] m ∨ ((k : Int) < 3 ∧ ([] : List Int) = [])) := by
        rcases tab_ok k hk20 n3 n4 n6 with ⟨h1, h2⟩ | ⟨h1, h2⟩ | ⟨h1, h2, h3⟩
        · exact ⟨0, h2, .inr ⟨by omega, rfl⟩⟩
        · exact ⟨2, h2, .inl (by rw [h1]; exact HeadOk.loop)⟩
        · exact ⟨_, h3, .inl (HeadOk.rest _ (by omega) (by omega))⟩
      have s4 : Same (upd H2 l (.lst [.int (k : Int)])) (upd (upd H2 l (.lst [.int (k : Int)])) l2 (.lst (tab.map fun n : Nat => V.int (n : Int)))) := same_upd nl2
      refine ⟨_, rfl, l2, _, _, .int (m : Int), rfl, rfl, SqL.of upd_same, atI_nat (by rw [e2, List.getElem?_map, hm]; rfl), two_line, fun t nt => ?_⟩
      have s5 : Same (upd (upd H2 l (.lst [.int (k : Int)])) l2 (.lst (tab.map fun n : Nat => V.int (n : Int)))) (upd (upd (upd H2 l (.lst [.int (k : Int)])) l2 (.lst (tab.map fun n : Nat => V.int (n : Int)))) t (.tup [.ref l, .int (m : Int)])) := same_upd nt
      have sA := s4.trans s5
      exact q _ t l (k : Int) [] m upd_same (sA _ _ upd_same) (B1.free nl (S1.ne nl).symm) hmk (S1.same (s3.trans sA)) (B1.trans (same_but (s3.trans sA) st))
end
end K07

set_option Elab.async false
set_option linter.all false
set_option maxRecDepth 100000
set_option maxHeartbeats 4000000
/-! The law's node. -/
namespace K07
open PySem PySem.Spec PyProof.Rows L2

/-- all that was tracked is as it was, but at a and c -/
def But2 (a c : Addr) (H H' : Hp) : Prop := ∀ b o, H b = some o → b ≠ a → b ≠ c → H' b = some o
theorem But2.trans {a c : Addr} {H H1 H2 : Hp} (x : But2 a c H H1) (y : But2 a c H1 H2) : But2 a c H H2 := fun b o e n m => y b o (x b o e n m) n m
theorem But.two {a c : Addr} {H H1 : Hp} (x : But a H H1) : But2 a c H H1 := fun b o e n _ => x b o e n
theorem But.two' {a c : Addr} {H H1 : Hp} (x : But c H H1) : But2 a c H H1 := fun b o e _ n => x b o e n
theorem But2.tps {a c : Addr} {H H' : Hp} (x : But2 a c H H') (h : ∀ xs, H a ≠ some (.tup xs)) (h' : ∀ xs, H c ≠ some (.tup xs)) : Tps H H' := fun b xs e =>
  x b _ e (fun z => h xs (by rw [← z]; exact e)) (fun z => h' xs (by rw [← z]; exact e))
theorem But2.free {a c b : Addr} {H H' : Hp} (x : But2 a c H H') (h : H' b = none) (ha : b ≠ a) (hc : b ≠ c) : H b = none := by
  cases q : H b with
  | none => rfl
  | some o =>
    rw [x b o q ha hc] at h
    cases h

theorem enc_two {hs : List (Nat × Nat)} {bx : Nat} : ∀ ts : List Tree, wfs hs bx ts → (encs ts).length ≤ 2 * cnts ts := by
  intro ts
  induction ts using forest_ind with
  | h0 => intro _; rw [encs_nil]; exact Nat.zero_le _
  | h1 k own ps r ih1 ih2 =>
    intro h
    obtain ⟨h1, h2⟩ := (wfs_cons _ _ _ _).mp h
    obtain ⟨h3, h4⟩ := (wf_node _ _ _ _ _).mp h1
    have a1 := ih1 h4
    have a2 := ih2 h2
    have a3 := headOk_many h3
    rw [encs_cons, List.length_append, len_node, cnts_cons, cnt_node]
    omega
theorem enc_two1 {hs : List (Nat × Nat)} {bx : Nat} (t : Tree) (h : t.wf hs bx) : t.enc.length ≤ 2 * t.cnt := by
  have := enc_two [t] ((wfs_cons hs bx t []).mpr ⟨h, wfs_nil _ _⟩)
  rw [encs_cons, encs_nil, List.append_nil, cnts_cons, cnts_nil] at this
  exact this

section
variable {P : Program} {w : World} {K : PySem.W.Frag} {mg : Str → Option Value} {base : Heap} {CL : Addr}

theorem HeadsAt.ne_one {H : Hp} {a rm : Addr} {hs : List (Nat × Nat)} {r : Int} (h : HeadsAt H a hs) (R : H rm = some (.lst [.int r])) : a ≠ rm := fun z => by
  obtain ⟨ts, h1, _⟩ := h
  rw [z, R] at h1
  have r3 := Option.some.inj h1
  injection r3 with r4
  match ts, r4 with
  | [], r4 => cases r4
  | _ :: _, r4 =>
    injection r4 with r5 _
    cases r5
theorem StateAt.ne_one {H : Hp} {st rm : Addr} {r : Int} (h : StateAt K H st) (R : H rm = some (.lst [.int r])) : st ≠ rm := fun z => by
  obtain ⟨sa, ns, k, d, g1, _⟩ := h
  rw [z, R] at g1
  have r3 := Option.some.inj g1
  injection r3 with r4
  cases r4
theorem StateAt.two {H H' : Hp} {st c : Addr} {xs : List V} (h : StateAt K H st) (x : But c H H') (hc : H c = some (.lst xs)) (n : st ≠ c) : StateAt K H' st := h.but x hc n
theorem HeadsAt.two {H H' : Hp} {a st c : Addr} {hs : List (Nat × Nat)} (h : HeadsAt H a hs) (x : But2 st c H H') (t : Tps H H') (n : a ≠ st) (m : a ≠ c) : HeadsAt H' a hs := by
  obtain ⟨ts, h1, h2, h3⟩ := h
  exact ⟨ts, x _ _ h1 n m, h2, fun i t' h e1 e2 => t _ _ (h3 i t' h e1 e2)⟩

def spLNode (K : PySem.W.Frag) (n : Nat) : Sp := fun vs H Q _ => ∃ (st ha : Addr) (hs : List (Nat × Nat)) (bx d : Nat) (rm : Addr) (r : Nat), vs = [.ref st, .ref ha, .int (bx : Int), .int (d : Int), .ref rm] ∧ d + n = 10 ∧ bx ≤ 12 ∧ StateAt K H st ∧ HeadsAt H ha hs ∧ HeadsOk hs ∧
  H rm = some (.lst [.int (r : Int)]) ∧ r ≤ 1000 ∧
  ∀ H' a (t : Tree) (r' : Nat), t.wf hs bx → d + t.dep ≤ 11 → t.cnt + r' = 1 + r → H' a = some (.lst (t.enc.map V.int)) → H' rm = some (.lst [.int (r' : Int)]) → StateAt K H' st → But2 st rm H H' → Q (.ref a) H'
theorem scLNode : FnScope ["_law_state", "_law_heads_here", "_law_boxes", "_law_deep", "_law_room", "_law_found", "_law_many_here", "_law_part"] ["_law_state", "_law_heads_here", "_law_boxes", "_law_deep", "_law_room"] (defScope sLNode) := ⟨rfl, rfl, rfl, by decide +kernel, rfl, by decide +kernel, by decide +kernel⟩

theorem ok_lnode (D : Df K mg "_law_node" sLNode ["_law_state", "_law_heads_here", "_law_boxes", "_law_deep", "_law_room"]) (T : Tx K mg CL) (MH : Kp P w K mg base CX0 3 "_law_head" ["_law_state", "_law_heads_here", "_law_boxes"] (spHead K))
    (ML : Kp P w K mg base CX0 4 "_law_leaf" ["_law_state", "_law_boxes"] (spLeaf K)) : ∀ n, Kp P w K mg base CX0 (n + 5) "_law_node" ["_law_state", "_law_heads_here", "_law_boxes", "_law_deep", "_law_room"] (spLNode K n) := by
  obtain ⟨f, fd, F, b, g⟩ := D
  obtain ⟨fH, fdH, GH, bH, mH, kH⟩ := MH
  obtain ⟨fL, fdL, GL, bL, mL, kL⟩ := ML
  suffices G : ∀ n, FnOk P w K mg base CX0 (n + 5) f fd ["_law_state", "_law_heads_here", "_law_boxes", "_law_deep", "_law_room"] (spLNode K n) from fun n => ⟨f, fd, G n, b, g, F.kp⟩
  -- the part ahead of the loop, for both: what the test leaves
  have body : ∀ n, (n = 0 ∨ ∃ m, n = m + 1 ∧ FnOk P w K mg base CX0 (m + 5) f fd ["_law_state", "_law_heads_here", "_law_boxes", "_law_deep", "_law_room"] (spLNode K m)) → FnOk P w K mg base CX0 (n + 5) f fd ["_law_state", "_law_heads_here", "_law_boxes", "_law_deep", "_law_room"] (spLNode K n) := by
    intro n ih
    refine F.ok scLNode (fun vs H Q E h => ?_) (fun cdv A outer s H vs Q E hr h => ?_)
    · obtain ⟨st, ha, hs, bx, d, rm, r, rfl, _⟩ := h
      rfl
    obtain ⟨st, ha, hs, bx, d, rm, r, rfl, hdn, hbx, S, hH, ho, hR, hr1000, q⟩ := h
    have hr3 : Room 3 _ := hr.mono (by omega)
    have hr4 : Room 4 _ := hr.mono (by omega)
    have nHst : ha ≠ st := hH.ne_st S
    have nHrm : ha ≠ rm := hH.ne_one hR
    have nsr : st ≠ rm := S.ne_one hR
    have rmtup : ∀ {H2 : Hp} {z : Int}, H2 rm = some (.lst [.int z]) → ∀ xs, H2 rm ≠ some (.tup xs) := fun h xs e => by rw [h] at e; cases e
    -- one for each way: what the test, once walked, leads to
    have lead : ∀ {Qb : Bool → Hp → Prop} (H1 : Hp) (t l : Addr) (k : Int) (own : List Int) (m : Nat), H1 l = some (.lst ((k :: own).map V.int)) → H1 rm = some (.lst [.int (r : Int)]) → own.length ≤ 1 →
        (((k < 3 ∧ own = []) ∨ r < m ∨ (0 < m ∧ 9 < d)) → Qb true H1) → ((¬ (k < 3 ∧ own = []) ∧ m ≤ r ∧ (m = 0 ∨ d ≤ 9)) → Qb false H1) →
        (tOr (tAnd (tTest (tOp (rI0 fun i j => .bl (decide (i < j))) (tOp (rIxL K) (tVar 5) (tC (.int 0))) (tC (.int 3)))) (tTest (tOp (rI0 fun i j => .bl (decide (i < j))) (tCB (fun xs H Q => ∃ p ys, xs = [.ref p] ∧ (SqL K H p ys ∨ SqT K H p ys) ∧ Q (.int ys.length) H) (tCons (tVar 5) tNil)) (tC (.int 2)))))
          (tOr (tTest (tOp (rI0 fun i j => .bl (decide (j < i))) (tVar 6) (tOp (rIxL K) (tVar 4) (tC (.int 0))))) (tAnd (tTest (tOp (rI0 fun i j => .bl (decide (j < i))) (tVar 6) (tC (.int 0)))) (tTest (tOp (rI0 fun i j => .bl (decide (j < i))) (tVar 3) (tC (.int 9)))))))
          [some (.ref st), some (.ref ha), some (.int (bx : Int)), some (.int (d : Int)), some (.ref rm), some (.ref l), some (.int (m : Int)), none] H1 Qb := by
      intro Qb H1 t l k own m hl hrm hown yes no
      -- the part behind the first or
      have behind : ¬ (k < 3 ∧ own = []) → (tOr (tTest (tOp (rI0 fun i j => .bl (decide (j < i))) (tVar 6) (tOp (rIxL K) (tVar 4) (tC (.int 0))))) (tAnd (tTest (tOp (rI0 fun i j => .bl (decide (j < i))) (tVar 6) (tC (.int 0)))) (tTest (tOp (rI0 fun i j => .bl (decide (j < i))) (tVar 3) (tC (.int 9))))))
          [some (.ref st), some (.ref ha), some (.int (bx : Int)), some (.int (d : Int)), some (.ref rm), some (.ref l), some (.int (m : Int)), none] H1 Qb := by
        intro hn
        refine ⟨_, rfl, _, rfl, rm, _, 0, .int (r : Int), rfl, rfl, SqL.of hrm, rfl, _, _, rfl, rfl, _, rfl, ite2 (fun c => ?_) (fun c => ?_)⟩
        · exact yes (.inr (.inl (by have := of_decide_eq_true c; omega)))
        · have c' : ¬ ((r : Int) < (m : Int)) := fun z => c (decide_eq_true z)
          refine ⟨_, rfl, _, _, rfl, rfl, _, rfl, ite2 (fun c2 => ?_) (fun c2 => ?_)⟩
          · have e2 := of_decide_eq_true c2
            refine ⟨_, rfl, _, _, rfl, rfl, _, rfl, ?_⟩
            by_cases h9 : (9 : Int) < (d : Int)
            · rw [decide_eq_true h9]
              exact yes (.inr (.inr ⟨by omega, by omega⟩))
            · rw [decide_eq_false h9]
              exact no ⟨hn, by omega, .inr (by omega)⟩
          · have c2' : ¬ ((0 : Int) < (m : Int)) := fun z => c2 (decide_eq_true z)
            exact no ⟨hn, by omega, .inl (by omega)⟩
      refine ⟨_, rfl, l, _, 0, .int k, rfl, rfl, SqL.of hl, at_of (j := 0) rfl rfl, _, _, rfl, rfl, _, rfl, ite2 (fun c => ?_) (fun c => ?_)⟩
      · have e1 := of_decide_eq_true c
        refine ⟨_, rfl, l, _, rfl, .inl (SqL.of hl), _, _, rfl, rfl, _, rfl, ite2 (fun c2 => ?_) (fun c2 => ?_)⟩
        · have e2 := of_decide_eq_true c2
          rw [List.length_map, List.length_cons] at e2
          exact yes (.inl ⟨e1, List.length_eq_zero_iff.mp (by omega)⟩)
        · refine behind fun z => c2 (decide_eq_true ?_)
          rw [List.length_map, List.length_cons, z.2]
          decide
      · exact iteF (behind fun z => c (decide_eq_true z.1))
    -- numbers of a leaf
    have leaf : ∀ (H1 : Hp) (l : Addr) (m : Nat), StateAt K H1 st → H1 rm = some (.lst [.int (r : Int)]) → But2 st rm H H1 →
        tCall (spLeaf K) [] E0 (tCons (tVar 0) (tCons (tVar 2) tNil)) [some (.ref st), some (.ref ha), some (.int (bx : Int)), some (.int (d : Int)), some (.ref rm), some (.ref l), some (.int (m : Int)), none] H1 Q := by
      intro H1 l m S1 hR1 B1
      refine ⟨_, rfl, _, rfl, st, hs, bx, rfl, hbx, S1, fun H2 a t hw hd hc e S2 B2 => ?_⟩
      exact q H2 a t r hw (by omega) (by omega) e (B2 _ _ hR1 nsr.symm) S2 (B1.trans B2.two)
    rcases ih with rfl | ⟨n', rfl, G⟩
    · -- ten deep: no parts
      refine ⟨_, pss_cons (ps_asg (pe_call GH hr3 (by rfl) mH kH bH .nil pass0 (pa_cons (pv 0) (pa_cons (pv 1) (pa_cons (pv 2) pa_nil)))) (pg_tup (by rfl) (pgs_cons (pg_name (i := 5) scLNode.nd rfl (.inl rfl)) (pgs_cons (pg_name (i := 6) scLNode.nd rfl (.inl rfl)) pgs_nil))))
        (pss_cons (ps_if (PW.pt (pw_or (PW.pt (pw_and (pt_cmpR op_lt (pe_ix ix_list (pv 5) pe_int (fun _ _ => rfl)) pe_int (nomark _)) (pw_and1 (pt_cmpR op_lt (pe_callB call_len_seq (by rfl) T.zlen PySem.boot_len (pa_cons (pv 5) pa_nil)) pe_int (nomark _)))))
            (pw_or (pt_cmpR op_gt (pv 6) (pe_ix ix_list (pv 4) pe_int (fun _ _ => rfl)) (nomark _)) (pw_or1 (PW.pt (pw_and (pt_cmpR op_gt (pv 6) pe_int (nomark _)) (pw_and1 (pt_cmpR op_gt (pv 3) pe_int (nomark _)))))))))
            (pss_one (ps_ret (pe_call GL hr4 (by rfl) mL kL bL .nil pass0 (pa_cons (pv 0) (pa_cons (pv 2) pa_nil))))) pss_nil)
        (pss_cons (ps_asg (pe_op op_sub (pe_ix ix_list (pv 4) pe_int (fun _ _ => rfl)) (pv 6)) (pg_sub (pv 4) pe_int set_list))
        (pss_cons (ps_for PassesOwn.never rfl (pi_range1 (by rfl) T.zrange (pa_cons (pv 6) pa_nil)) (pg_name (i := 7) scLNode.nd rfl (.inl rfl)) pss_never)
        (pss_one (ps_ret (pv 5)))))), ?_⟩
      refine ⟨_, rfl, _, rfl, _, rfl, st, ha, hs, bx, rfl, hbx, S, hH, ho, fun H1 t l k own m ht hl nl hk S1 B1 => ?_⟩
      have hR1 := B1 _ _ hR nsr.symm
      refine ⟨t, _, rfl, SqT.of ht, rfl, _, [_], rfl, _, [], rfl, rfl, ?_⟩
      have hown : own.length ≤ 1 := by
        rcases hk with hk | hk
        · exact headOk_many hk
        · rw [hk.2]; exact Nat.zero_le _
      refine lead H1 t l k own m hl hR1 hown (fun _ => leaf H1 l m S1 hR1 B1.two) fun hno => ?_
      obtain ⟨h1, h2, h3⟩ := hno
      have hok : HeadOk hs bx k own m := by
        rcases hk with hk | hk
        · exact hk
        · exact absurd hk h1
      have hm0 : m = 0 := by omega
      subst hm0
      refine ⟨_, rfl, rm, _, 0, .int (r : Int), rfl, rfl, SqL.of hR1, rfl, _, rfl, _, _, rfl, rfl, _, rfl, rm, _, 0, 0, rfl, rfl, hR1, rfl, ?_⟩
      have nlrm : l ≠ rm := fun z => by rw [z, hR] at nl; cases nl
      have Brm : But rm H1 (upd H1 rm (.lst [.int ((r : Int) - ((0 : Nat) : Int))])) := but_upd
      refine ⟨_, rfl, _, rfl, by decide, by decide, for_range (lo := 0) (n := 0) (fun i σ H' => σ = [some (.ref st), some (.ref ha), some (.int (bx : Int)), some (.int (d : Int)), some (.ref rm), some (.ref l), some (.int ((0 : Nat) : Int)), none] ∧ H' = upd H1 rm (.lst [.int ((r : Int) - ((0 : Nat) : Int))])) ⟨rfl, rfl⟩ (fun i σ H' hi => absurd hi (Nat.not_lt_zero _)) ?_⟩
      rintro σ H2 ⟨rfl, rfl⟩
      obtain ⟨d1, d2, d3⟩ := leaf_dep k own
      refine ⟨_, rfl, q _ l (.node k own []) r ((wf_node _ _ _ _ _).mpr ⟨hok, wfs_nil _ _⟩) (by omega) (by omega) (by rw [upd_ne nlrm, d3]; exact hl) ?_ (S1.but Brm hR1 nsr) (B1.two.trans Brm.two')⟩
      rw [upd_same, show (r : Int) - ((0 : Nat) : Int) = (r : Int) by omega]
    · have hrn : Room (n' + 5) _ := hr.mono (by omega)
      refine ⟨_, pss_cons (ps_asg (pe_call GH hr3 (by rfl) mH kH bH .nil pass0 (pa_cons (pv 0) (pa_cons (pv 1) (pa_cons (pv 2) pa_nil)))) (pg_tup (by rfl) (pgs_cons (pg_name (i := 5) scLNode.nd rfl (.inl rfl)) (pgs_cons (pg_name (i := 6) scLNode.nd rfl (.inl rfl)) pgs_nil))))
        (pss_cons (ps_if (PW.pt (pw_or (PW.pt (pw_and (pt_cmpR op_lt (pe_ix ix_list (pv 5) pe_int (fun _ _ => rfl)) pe_int (nomark _)) (pw_and1 (pt_cmpR op_lt (pe_callB call_len_seq (by rfl) T.zlen PySem.boot_len (pa_cons (pv 5) pa_nil)) pe_int (nomark _)))))
            (pw_or (pt_cmpR op_gt (pv 6) (pe_ix ix_list (pv 4) pe_int (fun _ _ => rfl)) (nomark _)) (pw_or1 (PW.pt (pw_and (pt_cmpR op_gt (pv 6) pe_int (nomark _)) (pw_and1 (pt_cmpR op_gt (pv 3) pe_int (nomark _)))))))))
            (pss_one (ps_ret (pe_call GL hr4 (by rfl) mL kL bL .nil pass0 (pa_cons (pv 0) (pa_cons (pv 2) pa_nil))))) pss_nil)
        (pss_cons (ps_asg (pe_op op_sub (pe_ix ix_list (pv 4) pe_int (fun _ _ => rfl)) (pv 6)) (pg_sub (pv 4) pe_int set_list))
        (pss_cons (ps_for PassesOwn.never rfl (pi_range1 (by rfl) T.zrange (pa_cons (pv 6) pa_nil)) (pg_name (i := 7) scLNode.nd rfl (.inl rfl))
          (pss_one (ps_set (i := 5) scLNode.nd rfl (.inl rfl) (pe_op op_cat (pv 5) (pe_call G hrn (by rfl) g F.kp b .nil pass0 (pa_cons (pv 0) (pa_cons (pv 1) (pa_cons (pv 2) (pa_cons (pe_op op_add (pv 3) pe_int) (pa_cons (pv 4) pa_nil))))))))))
        (pss_one (ps_ret (pv 5)))))), ?_⟩
      refine ⟨_, rfl, _, rfl, _, rfl, st, ha, hs, bx, rfl, hbx, S, hH, ho, fun H1 t l k own m ht hl nl hk S1 B1 => ?_⟩
      have hR1 := B1 _ _ hR nsr.symm
      have T1 := S.tps B1
      have hH1 := hH.but B1 T1 nHst
      refine ⟨t, _, rfl, SqT.of ht, rfl, _, [_], rfl, _, [], rfl, rfl, ?_⟩
      have hown : own.length ≤ 1 := by
        rcases hk with hk | hk
        · exact headOk_many hk
        · rw [hk.2]; exact Nat.zero_le _
      refine lead H1 t l k own m hl hR1 hown (fun _ => leaf H1 l m S1 hR1 B1.two) fun hno => ?_
      obtain ⟨h1, h2, h3⟩ := hno
      have hok : HeadOk hs bx k own m := by
        rcases hk with hk | hk
        · exact hk
        · exact absurd hk h1
      refine ⟨_, rfl, rm, _, 0, .int (r : Int), rfl, rfl, SqL.of hR1, rfl, _, rfl, _, _, rfl, rfl, _, rfl, rm, _, 0, 0, rfl, rfl, hR1, rfl, ?_⟩
      have nlrm : l ≠ rm := fun z => by rw [z, hR] at nl; cases nl
      have nlst : l ≠ st := (S.ne nl).symm
      have Brm : But rm H1 (upd H1 rm (.lst [.int ((r : Int) - (m : Int))])) := but_upd
      have Trm : Tps H1 (upd H1 rm (.lst [.int ((r : Int) - (m : Int))])) := Brm.tps (rmtup hR1)
      have er : (r : Int) - (m : Int) = ((r - m : Nat) : Int) := by omega
      refine ⟨_, rfl, _, rfl, by omega, by omega, ?_⟩
      rw [Int.toNat_natCast]
      refine for_range (lo := 0) (n := m) (fun i σ H' => ∃ (ts : List Tree) (fo : Addr) (ri : Nat) (v7 : Option V), σ = [some (.ref st), some (.ref ha), some (.int (bx : Int)), some (.int (d : Int)), some (.ref rm), some (.ref fo), some (.int (m : Int)), v7] ∧
          H' fo = some (.lst ((k :: (own ++ encs ts)).map V.int)) ∧ H fo = none ∧ ts.length = i ∧ wfs hs bx ts ∧ deps ts ≤ 10 - d ∧ cnts ts + ri = (r - m) + i ∧ H' rm = some (.lst [.int (ri : Int)]) ∧ StateAt K H' st ∧ HeadsAt H' ha hs ∧ But2 st rm H H')
        ⟨[], l, r - m, none, rfl, by rw [upd_ne nlrm, encs_nil, List.append_nil]; exact hl, nl, rfl, wfs_nil _ _, by rw [deps_nil]; omega, by rw [cnts_nil]; omega, by rw [upd_same, ← er]; rfl, S1.but Brm hR1 nsr, hH1.but Brm Trm nHrm, B1.two.trans Brm.two'⟩ ?_ ?_
      · rintro i σ H3 hi ⟨ts, fo, ri, v7, rfl, efo, nfo, hl3, hw3, hd3, hc3, hR3, S3, hH3, B3⟩
        refine ⟨_, rfl, _, rfl, _, rfl, _, rfl, _, rfl, _, _, rfl, rfl, _, rfl, st, ha, hs, bx, d + 1, rm, ri, rfl, by omega, hbx, S3, hH3, ho, hR3, by omega, fun H4 a t' r' hw' hd' hc' ea hR4 S4 B4 => ?_⟩
        have nfost : fo ≠ st := (S.ne nfo).symm
        have nform : fo ≠ rm := fun z => by rw [z, hR] at nfo; cases nfo
        have efo4 := B4 _ _ efo nfost nform
        have e1 := enc_two ts hw3
        have e2 := enc_two1 t' hw'
        refine ⟨fo, a, _, _, rfl, rfl, efo4, ea, line_of (by rw [List.length_map, List.length_map, List.length_cons, List.length_append]; omega), fun p np => ?_⟩
        have s5 : Same H4 (upd H4 p (.lst ((k :: (own ++ encs ts)).map V.int ++ t'.enc.map V.int))) := same_upd np
        have T4 : Tps H3 H4 := B4.tps S3.ntup (rmtup hR3)
        have B5 : But2 st rm H (upd H4 p (.lst ((k :: (own ++ encs ts)).map V.int ++ t'.enc.map V.int))) := (B3.trans B4).trans (same_but s5 st).two
        have npst : p ≠ st := (S4.ne np).symm
        have nprm : p ≠ rm := fun z => by rw [z, hR4] at np; cases np
        refine ⟨ts ++ [t'], p, r', _, rfl, ?_, (B3.trans B4).free np npst nprm, by rw [List.length_append, hl3]; rfl, (wfs_app _ _ _ _).mpr ⟨hw3, (wfs_cons _ _ _ _).mpr ⟨hw', wfs_nil _ _⟩⟩, ?_, ?_, s5 _ _ hR4, S4.same s5, (hH3.two B4 T4 nHst nHrm).same s5, B5⟩
        · rw [upd_same, ← List.map_append, encs_app, encs_cons, encs_nil, List.append_nil, ← List.append_assoc]
          rfl
        · rw [deps_app, deps_cons, deps_nil]
          omega
        · rw [cnts_app, cnts_cons, cnts_nil]
          omega
      · rintro σ H3 ⟨ts, fo, ri, v7, rfl, efo, nfo, hl3, hw3, hd3, hc3, hR3, S3, hH3, B3⟩
        refine ⟨_, rfl, q H3 fo (.node k own ts) ri ((wf_node _ _ _ _ _).mpr ⟨by rw [hl3]; exact hok, hw3⟩) (by rw [dep_node]; omega) (by rw [cnt_node]; omega) (by rw [enc_node]; exact efo) hR3 S3 B3⟩
  intro n
  induction n with
  | zero => exact body 0 (.inl rfl)
  | succ n ih => exact body (n + 1) (.inr ⟨n, rfl, ih⟩)
end
end K07

set_option Elab.async false
set_option linter.all false
set_option maxRecDepth 100000
set_option maxHeartbeats 4000000
/-! The law's sheets. -/
namespace K07
open PySem PySem.Spec PyProof.Rows L2

abbrev sSheet : Stmt := topS 38
abbrev sSheetW : Stmt := topS 39

theorem encH_app : ∀ a b : List (Nat × Nat), encH (a ++ b) = encH a ++ encH b
  | [], b => rfl
  | h :: r, b => by
    show (h.1 : Int) :: (h.2 : Int) :: encH (r ++ b) = _
    rw [encH_app r b]
    rfl
theorem wfB_of {hs : List (Nat × Nat)} : ∀ (ts : List Tree) (q : List (Nat × Nat)), ts.length = q.length → (∀ (i : Nat) (t : Tree) (h : Nat × Nat), ts[i]? = some t → q[i]? = some h → t.wf hs h.2) → wfB hs ts q
  | [], [], _, _ => trivial
  | t :: r, h :: q, e, w => ⟨w 0 t h rfl rfl, wfB_of r q (by simpa using e) fun i t' h' e1 e2 => w (i + 1) t' h' (by simpa using e1) (by simpa using e2)⟩
  | [], _ :: _, e, _ => by simp at e
  | _ :: _, [], e, _ => by simp at e
theorem map_at {α : Type} {g : α → V} {l : List α} {i : Nat} {y : V} (h : (l.map g)[i]? = some y) : ∃ c, l[i]? = some c ∧ y = g c := by
  rw [List.getElem?_map] at h
  cases e : l[i]? with
  | none => rw [e] at h; cases h
  | some c =>
    rw [e] at h
    exact ⟨c, rfl, (Option.some.inj h).symm⟩

section
variable {P : Program} {w : World} {K : PySem.W.Frag} {mg : Str → Option Value} {base : Heap} {CL : Addr}

def spSheet (K : PySem.W.Frag) : Sp := fun vs H Q _ => ∃ (st : Addr) (most : Int), vs = [.ref st, .int most] ∧ 0 < most ∧ most ≤ 20 ∧ StateAt K H st ∧
  ∀ H' a (hs : List (Nat × Nat)) (ts : List Tree), HeadsOk hs → wfB hs ts hs → deps ts ≤ 10 → (sheet hs ts).length ≤ 2000 → H' a = some (.lst ((sheet hs ts).map V.int)) → StateAt K H' st → H a = none → But st H H' → Q (.ref a) H'
theorem scSheet : FnScope ["_law_state", "_law_most", "_law_heads_here", "_law_found", "_law_params", "_law_boxes"] ["_law_state", "_law_most"] (defScope sSheet) := ⟨rfl, rfl, rfl, by decide +kernel, rfl, by decide +kernel, by decide +kernel⟩
def spSheetW (K : PySem.W.Frag) : Sp := fun vs H Q _ => ∃ (st ha : Addr) (hs : List (Nat × Nat)) (most : Int), vs = [.ref st, .ref ha, .int most] ∧ 0 < most ∧ most ≤ 20 ∧ StateAt K H st ∧ HeadsAt H ha hs ∧ HeadsOk hs ∧
  ∀ H' a (ts : List Tree), wfB hs ts hs → deps ts ≤ 10 → (sheet hs ts).length ≤ 2000 → H' a = some (.lst ((sheet hs ts).map V.int)) → StateAt K H' st → H a = none → But st H H' → Q (.ref a) H'
theorem scSheetW : FnScope ["_law_state", "_law_heads_here", "_law_most", "_law_found", "_law_params", "_law_boxes"] ["_law_state", "_law_heads_here", "_law_most"] (defScope sSheetW) := ⟨rfl, rfl, rfl, by decide +kernel, rfl, by decide +kernel, by decide +kernel⟩

theorem ok_sheet (D : Df K mg "_law_sheet" sSheet ["_law_state", "_law_most"]) (T : Tx K mg CL) (M : Kp P w K mg base CX0 2 "_law_take" ["_law_state", "_law_many_here"] (spTake K))
    (MH : Kp P w K mg base CX0 3 "_law_heads" ["_law_state"] (spLHeads K))
    (MN : Kp P w K mg base CX0 14 "_law_node" ["_law_state", "_law_heads_here", "_law_boxes", "_law_deep", "_law_room"] (spLNode K 9)) : Kp P w K mg base CX0 15 "_law_sheet" ["_law_state", "_law_most"] (spSheet K) := by
  obtain ⟨f, fd, F, b, g⟩ := D
  obtain ⟨fM, fdM, GM, bM, mM, kM⟩ := M
  obtain ⟨fN, fdN, GN, bN, mN, kN⟩ := MN
  obtain ⟨fH, fdH, GH, bH, mH, kH⟩ := MH
  refine ⟨f, fd, ?_, b, g, F.kp⟩
  refine F.ok scSheet (fun vs H Q E h => ?_) (fun cdv A outer s H vs Q E hr h => ?_)
  · obtain ⟨st, most, rfl, _⟩ := h
    rfl
  · obtain ⟨st, most, rfl, hm0, hm1, S, q⟩ := h
    have hr2 : Room 2 _ := hr.mono (by decide)
    have hr3 : Room 3 _ := hr.mono (by decide)
    refine ⟨_, pss_cons (ps_set (i := 2) scSheet.nd rfl (.inl rfl) (pe_call GH hr3 (by rfl) mH kH bH .nil pass0 (pa_cons (pv 0) pa_nil)))
      (pss_cons (ps_set (i := 3) scSheet.nd rfl (.inl rfl) (pe_lst (pa_cons (pe_callB call_len_seq (by rfl) T.zlen PySem.boot_len (pa_cons (pv 2) pa_nil)) pa_nil)))
      (pss_cons (ps_for PassesOwn.never rfl (pi_list (pv 2)) (pg_tup (by rfl) (pgs_cons (pg_name (i := 4) scSheet.nd rfl (.inl rfl)) (pgs_cons (pg_name (i := 5) scSheet.nd rfl (.inl rfl)) pgs_nil)))
        (pss_one (ps_expr (pe_bm PySem.F.plainAttrs_list PySem.F.slot_list_extend PySem.F.type_list_extend mt_extend (pv 3) (pa_cons (pe_lst (pa_cons (pv 4) (pa_cons (pv 5) pa_nil))) pa_nil)))))
      (pss_cons (ps_for PassesOwn.never rfl (pi_list (pv 2)) (pg_tup (by rfl) (pgs_cons (pg_name (i := 4) scSheet.nd rfl (.inl rfl)) (pgs_cons (pg_name (i := 5) scSheet.nd rfl (.inl rfl)) pgs_nil)))
        (pss_one (ps_expr (pe_bm PySem.F.plainAttrs_list PySem.F.slot_list_extend PySem.F.type_list_extend mt_extend (pv 3) (pa_cons (pe_call GN hr (by rfl) mN kN bN .nil pass0 (pa_cons (pv 0) (pa_cons (pv 2) (pa_cons (pv 5) (pa_cons pe_int (pa_cons (pe_lst (pa_cons (pe_call GM hr2 (by rfl) mM kM bM .nil pass0 (pa_cons (pv 0) (pa_cons (pv 1) pa_nil))) pa_nil)) pa_nil)))))) pa_nil)))))
      (pss_one (ps_ret (pv 3)))))), ?_⟩
    refine ⟨_, rfl, st, rfl, S, fun H1 ha hs ho hH1 S1 na B1 => ?_⟩
    obtain ⟨us, g1, g2, g3⟩ := id hH1
    have h1 := ho.one
    have h16 := ho.most
    -- found = [len(heads)]
    refine ⟨_, rfl, ha, _, rfl, .inl (SqL.of g1), one_line, fun o no => ?_⟩
    have s2 : Same H1 (upd H1 o (.lst [.int ((us.map V.ref).length : Nat)])) := same_upd no
    have so : st ≠ o := S1.ne no
    have noH : H o = none := B1.free no so.symm
    have hao : ha ≠ o := ne_of_none g1 no
    have S2 := S1.same s2
    have nHst : ha ≠ st := hH1.ne_st S1
    -- the heads' numbers
    refine ⟨_, rfl, ha, rfl, ⟨_, SqL.of (s2 _ _ g1)⟩, for_list (K := K) (a := ha) (xs := us.map V.ref) (fun i σ H' => ∃ v4 v5 : Option V, σ = [some (.ref st), some (.int most), some (.ref ha), some (.ref o), v4, v5] ∧ H' o = some (.lst (((hs.length : Int) :: encH (hs.take i)).map V.int)) ∧ But o (upd H1 o (.lst [.int ((us.map V.ref).length : Nat)])) H')
      ⟨none, none, rfl, ?_, But.refl _ _⟩ (fun i σ H' _ ⟨_, _, _, _, bt⟩ => SqL.of (bt _ _ (s2 _ _ g1) hao)) ?_ ?_⟩
    · rw [upd_same, List.length_map, g2]
      rfl
    · rintro i y σ H3 hi ⟨v4, v5, rfl, eo, bt⟩
      obtain ⟨u, hu, rfl⟩ := map_at hi
      have hil : i < hs.length := by
        have := (List.getElem?_eq_some_iff.mp hu).1
        omega
      obtain ⟨h, hh⟩ : ∃ h, hs[i]? = some h := ⟨hs[i], List.getElem?_eq_getElem hil⟩
      have t23 : Tps (upd H1 o (.lst [.int ((us.map V.ref).length : Nat)])) H3 := bt.tps fun xs e => by rw [upd_same] at e; cases e
      have hu3 := t23 _ _ (s2 _ _ (g3 i u h hu hh))
      refine ⟨u, _, rfl, SqT.of hu3, rfl, _, [_], rfl, _, [], rfl, rfl, ?_⟩
      refine ⟨.ref o, rfl, .inl ⟨rfl, _, .inl (.inl eo)⟩, _, rfl, _, rfl, two_line, fun l2 nl2 => ?_⟩
      have s4 : Same H3 (upd H3 l2 (.lst [.int (h.1 : Int), .int (h.2 : Int)])) := same_upd nl2
      refine ⟨o, l2, _, _, rfl, rfl, s4 _ _ eo, upd_same, line_of (by rw [List.length_map, List.length_cons, encH_len, List.length_take]; show 2 * min i hs.length + 1 + 2 ≤ 100000; omega), ?_⟩
      refine ⟨_, _, rfl, ?_, fun b' x' e' n' => ?_⟩
      · rw [upd_same, take_succ_app hh, encH_app]
        simp [encH]
      · rw [upd_ne n']
        exact s4 _ _ (bt _ _ e' n')
    · rintro σ H3 ⟨v4, v5, rfl, eo, bt⟩
      rw [List.length_map, g2, List.take_of_length_le (Nat.le_refl _)] at eo
      have t23 : Tps (upd H1 o (.lst [.int ((us.map V.ref).length : Nat)])) H3 := bt.tps fun xs e => by rw [upd_same] at e; cases e
      have S3 : StateAt K H3 st := S2.but bt upd_same so
      have eha : H3 ha = some (.lst (us.map V.ref)) := bt _ _ (s2 _ _ g1) hao
      have hu3 : ∀ (i : Nat) (t : Addr) (h : Nat × Nat), us[i]? = some t → hs[i]? = some h → H3 t = some (.tup [.int (h.1 : Int), .int (h.2 : Int)]) := fun i t h e1 e2 => t23 _ _ (s2 _ _ (g3 i t h e1 e2))
      have B3 : But st H H3 := fun b' x' e' n' => bt _ _ (s2 _ _ (B1 _ _ e' n')) (ne_of_none e' noH)
      -- the bodies
      refine ⟨_, rfl, ha, rfl, ⟨_, SqL.of eha⟩, for_list (K := K) (a := ha) (xs := us.map V.ref) (fun i σ H' => ∃ (ts : List Tree) (v4 v5 : Option V), σ = [some (.ref st), some (.int most), some (.ref ha), some (.ref o), v4, v5] ∧ H' o = some (.lst (((hs.length : Int) :: (encH hs ++ encs ts)).map V.int)) ∧ ts.length = i ∧
          (∀ (j : Nat) (t : Tree) (h : Nat × Nat), ts[j]? = some t → hs[j]? = some h → t.wf hs h.2) ∧ deps ts ≤ 10 ∧ (encs ts).length ≤ 60 * i ∧ StateAt K H' st ∧ H' ha = some (.lst (us.map V.ref)) ∧ Tps H3 H' ∧ But st H H')
        ⟨[], v4, v5, rfl, by rw [encs_nil, List.append_nil]; exact eo, rfl, fun j t h e => (by simp at e), by rw [deps_nil]; omega, by rw [encs_nil]; exact Nat.zero_le _, S3, eha, Tps.refl _, B3⟩ (fun i σ H' _ ⟨_, _, _, _, _, _, _, _, _, _, e, _, _⟩ => SqL.of e) ?_ ?_⟩
      · rintro i y σ H4 hi ⟨ts, w4, w5, rfl, eo4, hl, hwf, hdp, hen, S4, eha4, T4, B4⟩
        obtain ⟨u, hu, rfl⟩ := map_at hi
        have hil : i < hs.length := by
          have := (List.getElem?_eq_some_iff.mp hu).1
          omega
        obtain ⟨h, hh⟩ : ∃ h, hs[i]? = some h := ⟨hs[i], List.getElem?_eq_getElem hil⟩
        have hH4 : HeadsAt H4 ha hs := ⟨us, eha4, g2, fun i t h e1 e2 => T4 _ _ (hu3 i t h e1 e2)⟩
        refine ⟨u, _, rfl, SqT.of (T4 _ _ (hu3 i u h hu hh)), rfl, _, [_], rfl, _, [], rfl, rfl, ?_⟩
        refine ⟨.ref o, rfl, .inl ⟨rfl, _, .inl (.inl eo4)⟩, _, rfl, _, rfl, _, rfl, _, rfl, _, rfl, ?_⟩
        refine ⟨st, most, rfl, hm0, by omega, S4, fun H5 r r0 r1 S5 B5 => ?_⟩
        refine ⟨one_line, fun rm nrm => ?_⟩
        have T5 : Tps H4 H5 := S4.tps B5
        have s6 : Same H5 (upd H5 rm (.lst [.int r])) := same_upd nrm
        obtain ⟨rn, ern, hrn⟩ : ∃ rn : Nat, r = (rn : Int) ∧ rn ≤ 20 := ⟨(r).toNat, by omega, by omega⟩
        have hx := ho.each i h hh
        have eo5 : H5 o = some (.lst (((hs.length : Int) :: (encH hs ++ encs ts)).map V.int)) := B5 _ _ eo4 so.symm
        have eha5 := B5 _ _ eha4 nHst
        have orm : o ≠ rm := ne_of_none eo5 nrm
        have harm : ha ≠ rm := ne_of_none eha5 nrm
        refine ⟨st, ha, hs, h.2, 1, rm, rn, rfl, rfl, hx.2.2.1, S5.same s6, ((hH4.but B5 T5 nHst).same s6), ho, by rw [upd_same, ← ern], by omega, fun H7 a t r' hw' hd' hc' ea hR7 S7 B7 => ?_⟩
        have T7 : Tps (upd H5 rm (.lst [.int r])) H7 := B7.tps (S5.same s6).ntup fun xs e => by rw [upd_same] at e; cases e
        have eo7 := B7 _ _ (s6 _ _ eo5) so.symm orm
        have eha7 := B7 _ _ (s6 _ _ eha5) nHst harm
        have e2 := enc_two1 t hw'
        have l1 : (((hs.length : Int) :: (encH hs ++ encs ts)).map V.int).length ≤ 1100 := by
          rw [List.length_map, List.length_cons, List.length_append, encH_len]
          omega
        refine ⟨o, a, _, _, rfl, rfl, eo7, ea, line_of (by rw [List.length_map (f := V.int) (as := t.enc)]; omega), ?_⟩
        have Bo : But o H7 (upd H7 o (.lst ((((hs.length : Int) :: (encH hs ++ encs ts)).map V.int) ++ t.enc.map V.int))) := but_upd
        have To := Bo.tps fun xs e => by rw [eo7] at e; cases e
        refine ⟨ts ++ [t], _, _, rfl, ?_, by rw [List.length_append, hl]; rfl, fun j t' h' e1 e2' => ?_, ?_, ?_, S7.but Bo eo7 so, by rw [upd_ne hao]; exact eha7, (((T4.trans T5).trans (same_tps s6)).trans T7).trans To, fun b' x' e' n' => ?_⟩
        · rw [upd_same, ← List.map_append, encs_app, encs_cons, encs_nil, List.append_nil, ← List.append_assoc]
          rfl
        · by_cases hj : j < i
          · rw [List.getElem?_append_left (by omega)] at e1
            exact hwf j t' h' e1 e2'
          · have hj2 : j = i := by
              have := (List.getElem?_eq_some_iff.mp e1).1
              rw [List.length_append, hl] at this
              have : j < i + 1 := this
              omega
            subst hj2
            rw [List.getElem?_append_right (by omega), hl, Nat.sub_self] at e1
            cases e1
            rw [hh] at e2'
            cases e2'
            exact hw'
        · rw [deps_app, deps_cons, deps_nil]
          omega
        · rw [encs_app, encs_cons, encs_nil, List.append_nil, List.length_append]
          omega
        · have e4 := B4 _ _ e' n'
          have e5 := B5 _ _ e4 n'
          rw [upd_ne (ne_of_none e' noH)]
          exact B7 _ _ (s6 _ _ e5) n' (ne_of_none e5 nrm)
      · rintro σ H4 ⟨ts, w4, w5, rfl, eo4, hl, hwf, hdp, hen, S4, eha4, T4, B4⟩
        rw [List.length_map, g2] at hl hen
        refine ⟨_, rfl, q H4 o hs ts ho (wfB_of ts hs hl hwf) hdp (by rw [sheet_len]; omega) eo4 S4 noH B4⟩

theorem ok_sheetW (D : Df K mg "_law_sheet_with" sSheetW ["_law_state", "_law_heads_here", "_law_most"]) (T : Tx K mg CL) (M : Kp P w K mg base CX0 2 "_law_take" ["_law_state", "_law_many_here"] (spTake K))
    (MN : Kp P w K mg base CX0 14 "_law_node" ["_law_state", "_law_heads_here", "_law_boxes", "_law_deep", "_law_room"] (spLNode K 9)) : Kp P w K mg base CX0 15 "_law_sheet_with" ["_law_state", "_law_heads_here", "_law_most"] (spSheetW K) := by
  obtain ⟨f, fd, F, b, g⟩ := D
  obtain ⟨fM, fdM, GM, bM, mM, kM⟩ := M
  obtain ⟨fN, fdN, GN, bN, mN, kN⟩ := MN
  refine ⟨f, fd, ?_, b, g, F.kp⟩
  refine F.ok scSheetW (fun vs H Q E h => ?_) (fun cdv A outer s H vs Q E hr h => ?_)
  · obtain ⟨st, ha, hs, most, rfl, _⟩ := h
    rfl
  · obtain ⟨st, ha, hs, most, rfl, hm0, hm1, S, hH, ho, q⟩ := h
    have hr2 : Room 2 _ := hr.mono (by decide)
    have hr3 : Room 3 _ := hr.mono (by decide)
    refine ⟨_, (pss_cons (ps_set (i := 3) scSheetW.nd rfl (.inl rfl) (pe_lst (pa_cons (pe_callB call_len_seq (by rfl) T.zlen PySem.boot_len (pa_cons (pv 1) pa_nil)) pa_nil)))
      (pss_cons (ps_for PassesOwn.never rfl (pi_list (pv 1)) (pg_tup (by rfl) (pgs_cons (pg_name (i := 4) scSheetW.nd rfl (.inl rfl)) (pgs_cons (pg_name (i := 5) scSheetW.nd rfl (.inl rfl)) pgs_nil)))
        (pss_one (ps_expr (pe_bm PySem.F.plainAttrs_list PySem.F.slot_list_extend PySem.F.type_list_extend mt_extend (pv 3) (pa_cons (pe_lst (pa_cons (pv 4) (pa_cons (pv 5) pa_nil))) pa_nil)))))
      (pss_cons (ps_for PassesOwn.never rfl (pi_list (pv 1)) (pg_tup (by rfl) (pgs_cons (pg_name (i := 4) scSheetW.nd rfl (.inl rfl)) (pgs_cons (pg_name (i := 5) scSheetW.nd rfl (.inl rfl)) pgs_nil)))
        (pss_one (ps_expr (pe_bm PySem.F.plainAttrs_list PySem.F.slot_list_extend PySem.F.type_list_extend mt_extend (pv 3) (pa_cons (pe_call GN hr (by rfl) mN kN bN .nil pass0 (pa_cons (pv 0) (pa_cons (pv 1) (pa_cons (pv 5) (pa_cons pe_int (pa_cons (pe_lst (pa_cons (pe_op op_add pe_int (pe_call GM hr2 (by rfl) mM kM bM .nil pass0 (pa_cons (pv 0) (pa_cons (pv 2) pa_nil)))) pa_nil)) pa_nil)))))) pa_nil)))))
      (pss_one (ps_ret (pv 3)))))), ?_⟩
    obtain ⟨H1, hHH, hH1, S1, B1⟩ : ∃ H1, H1 = H ∧ HeadsAt H1 ha hs ∧ StateAt K H1 st ∧ But st H H1 := ⟨H, rfl, hH, S, But.refl _ _⟩
    have goal1 : ∀ {G : Hp → Prop}, G H1 → G H := fun {G} h => by rw [← hHH]; exact h
    refine goal1 ?_
    obtain ⟨us, g1, g2, g3⟩ := id hH1
    have h1 := ho.one
    have h16 := ho.most
    -- found = [len(heads)]
    refine ⟨_, rfl, ha, _, rfl, .inl (SqL.of g1), one_line, fun o no => ?_⟩
    have s2 : Same H1 (upd H1 o (.lst [.int ((us.map V.ref).length : Nat)])) := same_upd no
    have so : st ≠ o := S1.ne no
    have noH : H o = none := B1.free no so.symm
    have hao : ha ≠ o := ne_of_none g1 no
    have S2 := S1.same s2
    have nHst : ha ≠ st := hH1.ne_st S1
    -- the heads' numbers
    refine ⟨_, rfl, ha, rfl, ⟨_, SqL.of (s2 _ _ g1)⟩, for_list (K := K) (a := ha) (xs := us.map V.ref) (fun i σ H' => ∃ v4 v5 : Option V, σ = [some (.ref st), some (.ref ha), some (.int most), some (.ref o), v4, v5] ∧ H' o = some (.lst (((hs.length : Int) :: encH (hs.take i)).map V.int)) ∧ But o (upd H1 o (.lst [.int ((us.map V.ref).length : Nat)])) H')
      ⟨none, none, rfl, ?_, But.refl _ _⟩ (fun i σ H' _ ⟨_, _, _, _, bt⟩ => SqL.of (bt _ _ (s2 _ _ g1) hao)) ?_ ?_⟩
    · rw [upd_same, List.length_map, g2]
      rfl
    · rintro i y σ H3 hi ⟨v4, v5, rfl, eo, bt⟩
      obtain ⟨u, hu, rfl⟩ := map_at hi
      have hil : i < hs.length := by
        have := (List.getElem?_eq_some_iff.mp hu).1
        omega
      obtain ⟨h, hh⟩ : ∃ h, hs[i]? = some h := ⟨hs[i], List.getElem?_eq_getElem hil⟩
      have t23 : Tps (upd H1 o (.lst [.int ((us.map V.ref).length : Nat)])) H3 := bt.tps fun xs e => by rw [upd_same] at e; cases e
      have hu3 := t23 _ _ (s2 _ _ (g3 i u h hu hh))
      refine ⟨u, _, rfl, SqT.of hu3, rfl, _, [_], rfl, _, [], rfl, rfl, ?_⟩
      refine ⟨.ref o, rfl, .inl ⟨rfl, _, .inl (.inl eo)⟩, _, rfl, _, rfl, two_line, fun l2 nl2 => ?_⟩
      have s4 : Same H3 (upd H3 l2 (.lst [.int (h.1 : Int), .int (h.2 : Int)])) := same_upd nl2
      refine ⟨o, l2, _, _, rfl, rfl, s4 _ _ eo, upd_same, line_of (by rw [List.length_map, List.length_cons, encH_len, List.length_take]; show 2 * min i hs.length + 1 + 2 ≤ 100000; omega), ?_⟩
      refine ⟨_, _, rfl, ?_, fun b' x' e' n' => ?_⟩
      · rw [upd_same, take_succ_app hh, encH_app]
        simp [encH]
      · rw [upd_ne n']
        exact s4 _ _ (bt _ _ e' n')
    · rintro σ H3 ⟨v4, v5, rfl, eo, bt⟩
      rw [List.length_map, g2, List.take_of_length_le (Nat.le_refl _)] at eo
      have t23 : Tps (upd H1 o (.lst [.int ((us.map V.ref).length : Nat)])) H3 := bt.tps fun xs e => by rw [upd_same] at e; cases e
      have S3 : StateAt K H3 st := S2.but bt upd_same so
      have eha : H3 ha = some (.lst (us.map V.ref)) := bt _ _ (s2 _ _ g1) hao
      have hu3 : ∀ (i : Nat) (t : Addr) (h : Nat × Nat), us[i]? = some t → hs[i]? = some h → H3 t = some (.tup [.int (h.1 : Int), .int (h.2 : Int)]) := fun i t h e1 e2 => t23 _ _ (s2 _ _ (g3 i t h e1 e2))
      have B3 : But st H H3 := fun b' x' e' n' => bt _ _ (s2 _ _ (B1 _ _ e' n')) (ne_of_none e' noH)
      -- the bodies
      refine ⟨_, rfl, ha, rfl, ⟨_, SqL.of eha⟩, for_list (K := K) (a := ha) (xs := us.map V.ref) (fun i σ H' => ∃ (ts : List Tree) (v4 v5 : Option V), σ = [some (.ref st), some (.ref ha), some (.int most), some (.ref o), v4, v5] ∧ H' o = some (.lst (((hs.length : Int) :: (encH hs ++ encs ts)).map V.int)) ∧ ts.length = i ∧
          (∀ (j : Nat) (t : Tree) (h : Nat × Nat), ts[j]? = some t → hs[j]? = some h → t.wf hs h.2) ∧ deps ts ≤ 10 ∧ (encs ts).length ≤ 60 * i ∧ StateAt K H' st ∧ H' ha = some (.lst (us.map V.ref)) ∧ Tps H3 H' ∧ But st H H')
        ⟨[], v4, v5, rfl, by rw [encs_nil, List.append_nil]; exact eo, rfl, fun j t h e => (by simp at e), by rw [deps_nil]; omega, by rw [encs_nil]; exact Nat.zero_le _, S3, eha, Tps.refl _, B3⟩ (fun i σ H' _ ⟨_, _, _, _, _, _, _, _, _, _, e, _, _⟩ => SqL.of e) ?_ ?_⟩
      · rintro i y σ H4 hi ⟨ts, w4, w5, rfl, eo4, hl, hwf, hdp, hen, S4, eha4, T4, B4⟩
        obtain ⟨u, hu, rfl⟩ := map_at hi
        have hil : i < hs.length := by
          have := (List.getElem?_eq_some_iff.mp hu).1
          omega
        obtain ⟨h, hh⟩ : ∃ h, hs[i]? = some h := ⟨hs[i], List.getElem?_eq_getElem hil⟩
        have hH4 : HeadsAt H4 ha hs := ⟨us, eha4, g2, fun i t h e1 e2 => T4 _ _ (hu3 i t h e1 e2)⟩
        refine ⟨u, _, rfl, SqT.of (T4 _ _ (hu3 i u h hu hh)), rfl, _, [_], rfl, _, [], rfl, rfl, ?_⟩
        refine ⟨.ref o, rfl, .inl ⟨rfl, _, .inl (.inl eo4)⟩, _, rfl, _, rfl, _, rfl, _, rfl, _, rfl, ?_⟩
        refine ⟨st, most, rfl, hm0, by omega, S4, fun H5 r r0 r1 S5 B5 => ?_⟩
        refine ⟨_, _, rfl, rfl, one_line, fun rm nrm => ?_⟩
        have T5 : Tps H4 H5 := S4.tps B5
        have s6 : Same H5 (upd H5 rm (.lst [.int (1 + r)])) := same_upd nrm
        obtain ⟨rn, ern, hrn⟩ : ∃ rn : Nat, (1 + r) = (rn : Int) ∧ rn ≤ 20 := ⟨((1 + r)).toNat, by omega, by omega⟩
        have hx := ho.each i h hh
        have eo5 : H5 o = some (.lst (((hs.length : Int) :: (encH hs ++ encs ts)).map V.int)) := B5 _ _ eo4 so.symm
        have eha5 := B5 _ _ eha4 nHst
        have orm : o ≠ rm := ne_of_none eo5 nrm
        have harm : ha ≠ rm := ne_of_none eha5 nrm
        refine ⟨st, ha, hs, h.2, 1, rm, rn, rfl, rfl, hx.2.2.1, S5.same s6, ((hH4.but B5 T5 nHst).same s6), ho, by rw [upd_same, ← ern], by omega, fun H7 a t r' hw' hd' hc' ea hR7 S7 B7 => ?_⟩
        have T7 : Tps (upd H5 rm (.lst [.int (1 + r)])) H7 := B7.tps (S5.same s6).ntup fun xs e => by rw [upd_same] at e; cases e
        have eo7 := B7 _ _ (s6 _ _ eo5) so.symm orm
        have eha7 := B7 _ _ (s6 _ _ eha5) nHst harm
        have e2 := enc_two1 t hw'
        have l1 : (((hs.length : Int) :: (encH hs ++ encs ts)).map V.int).length ≤ 1100 := by
          rw [List.length_map, List.length_cons, List.length_append, encH_len]
          omega
        refine ⟨o, a, _, _, rfl, rfl, eo7, ea, line_of (by rw [List.length_map (f := V.int) (as := t.enc)]; omega), ?_⟩
        have Bo : But o H7 (upd H7 o (.lst ((((hs.length : Int) :: (encH hs ++ encs ts)).map V.int) ++ t.enc.map V.int))) := but_upd
        have To := Bo.tps fun xs e => by rw [eo7] at e; cases e
        refine ⟨ts ++ [t], _, _, rfl, ?_, by rw [List.length_append, hl]; rfl, fun j t' h' e1 e2' => ?_, ?_, ?_, S7.but Bo eo7 so, by rw [upd_ne hao]; exact eha7, (((T4.trans T5).trans (same_tps s6)).trans T7).trans To, fun b' x' e' n' => ?_⟩
        · rw [upd_same, ← List.map_append, encs_app, encs_cons, encs_nil, List.append_nil, ← List.append_assoc]
          rfl
        · by_cases hj : j < i
          · rw [List.getElem?_append_left (by omega)] at e1
            exact hwf j t' h' e1 e2'
          · have hj2 : j = i := by
              have := (List.getElem?_eq_some_iff.mp e1).1
              rw [List.length_append, hl] at this
              have : j < i + 1 := this
              omega
            subst hj2
            rw [List.getElem?_append_right (by omega), hl, Nat.sub_self] at e1
            cases e1
            rw [hh] at e2'
            cases e2'
            exact hw'
        · rw [deps_app, deps_cons, deps_nil]
          omega
        · rw [encs_app, encs_cons, encs_nil, List.append_nil, List.length_append]
          omega
        · have e4 := B4 _ _ e' n'
          have e5 := B5 _ _ e4 n'
          rw [upd_ne (ne_of_none e' noH)]
          exact B7 _ _ (s6 _ _ e5) n' (ne_of_none e5 nrm)
      · rintro σ H4 ⟨ts, w4, w5, rfl, eo4, hl, hwf, hdp, hen, S4, eha4, T4, B4⟩
        rw [List.length_map, g2] at hl hen
        refine ⟨_, rfl, q H4 o ts (wfB_of ts hs hl hwf) hdp (by rw [sheet_len]; omega) eo4 S4 noH B4⟩
end
end K07

set_option Elab.async false
set_option linter.all false
set_option maxRecDepth 100000
set_option maxHeartbeats 4000000
/-! How many numbers a node has; how deep it is. -/
namespace K07
open PySem PySem.Spec PyProof.Rows L2

abbrev sMany : Stmt := topS 40
abbrev sDepth : Stmt := topS 41

/-- numbers in waiting nodes; nodes in them; the deepest, one more -/
def wlen : List Rec → Nat
  | [] => 0
  | r :: q => r.t.enc.length + wlen q
def wcnt : List Rec → Nat
  | [] => 0
  | r :: q => r.t.cnt + wcnt q
def wdep : List Rec → Nat
  | [] => 0
  | r :: q => max (r.d + r.t.dep) (wdep q)
theorem wlen_app : ∀ a b, wlen (a ++ b) = wlen a + wlen b
  | [], b => by simp [wlen]
  | r :: q, b => by simp only [List.cons_append, wlen, wlen_app q b]; omega
theorem wcnt_app : ∀ a b, wcnt (a ++ b) = wcnt a + wcnt b
  | [], b => by simp [wcnt]
  | r :: q, b => by simp only [List.cons_append, wcnt, wcnt_app q b]; omega
theorem wdep_app : ∀ a b, wdep (a ++ b) = max (wdep a) (wdep b)
  | [], b => by simp [wdep]
  | r :: q, b => by simp only [List.cons_append, wdep, wdep_app q b]; omega
theorem len_wlen : ∀ a : List Rec, a.length ≤ wlen a
  | [] => Nat.le_refl _
  | r :: q => by
    have := len_wlen q
    have := enc_pos r.t
    simp only [List.length_cons, wlen]
    omega
theorem len_wcnt : ∀ a : List Rec, a.length ≤ wcnt a
  | [] => Nat.le_refl _
  | r :: q => by
    have := len_wcnt q
    have := cnt_pos r.t
    simp only [List.length_cons, wcnt]
    omega
/-- parts as records, each d deep -/
def kids (d : Nat) : List Tree → Nat → List Rec
  | [], _ => []
  | t :: r, p => ⟨p, d, 0, t⟩ :: kids d r (p + t.enc.length)
theorem kids_len (d : Nat) : ∀ ts p, (kids d ts p).length = ts.length
  | [], _ => rfl
  | t :: r, p => by simp only [kids, List.length_cons, kids_len d r]
theorem kids_wlen (d : Nat) : ∀ ts p, wlen (kids d ts p) = (encs ts).length
  | [], _ => by rw [encs_nil]; rfl
  | t :: r, p => by simp only [kids, wlen, kids_wlen d r, encs_cons, List.length_append]
theorem kids_wcnt (d : Nat) : ∀ ts p, wcnt (kids d ts p) = cnts ts
  | [], _ => by rw [cnts_nil]; rfl
  | t :: r, p => by simp only [kids, wcnt, kids_wcnt d r, cnts_cons]
theorem kids_wdep (d : Nat) : ∀ ts p, wdep (kids d ts p) = if ts = [] then 0 else d + deps ts
  | [], _ => rfl
  | [t], p => by
    simp only [kids, wdep, deps_cons, deps_nil]
    rw [if_neg (by simp)]
    omega
  | t :: u :: r, p => by
    have h := kids_wdep d (u :: r) (p + t.enc.length)
    rw [if_neg (List.cons_ne_nil _ _)] at h ⊢
    rw [deps_cons t]
    show max (d + t.dep) (wdep (kids d (u :: r) (p + t.enc.length))) = _
    rw [h]
    omega
theorem kids_at (d : Nat) {H : Hp} : ∀ ts p as, NodesAt H ts p as → RecsAt H (kids d ts p) as
  | [], p, as, h => by
    rw [nodesAt_nil] at h
    subst h
    exact RecsAt.nil
  | t :: r, p, as, h => by
    rw [nodesAt_cons] at h
    obtain ⟨a, q, rfl, h1, h2⟩ := h
    exact (RecsAt.one (r := ⟨p, d, 0, t⟩) h1).app (kids_at d r _ q h2)
theorem snoc_of {α : Type} (l : List α) : l = [] ∨ ∃ q x, l = q ++ [x] := by
  rcases List.eq_nil_or_concat l with h | ⟨q, x, h⟩
  · exact .inl h
  · exact .inr ⟨q, x, by rw [h, List.concat_eq_append]⟩
theorem RecsAt.snoc {H : Hp} {rs : List Rec} {q : List Addr} {x : Addr} (h : RecsAt H rs (q ++ [x])) : ∃ rs' r, rs = rs' ++ [r] ∧ RecsAt H rs' q ∧ NodeAt H r.t r.pl x := by
  obtain ⟨h1, h2⟩ := h
  rcases snoc_of rs with rfl | ⟨rs', r, rfl⟩
  · rw [List.length_append] at h1
    have h1' : q.length + 1 = 0 := h1
    omega
  · rw [List.length_append, List.length_append] at h1
    have h1' : q.length + 1 = rs'.length + 1 := h1
    refine ⟨rs', r, rfl, ⟨by omega, fun i r' a e1 e2 => ?_⟩, ?_⟩
    · refine h2 i r' a ?_ ?_
      · rw [List.getElem?_append_left (List.getElem?_eq_some_iff.mp e1).1]; exact e1
      · rw [List.getElem?_append_left (List.getElem?_eq_some_iff.mp e2).1]; exact e2
    · refine h2 q.length r x ?_ ?_
      · rw [List.getElem?_append_right (by omega), show q.length - rs'.length = 0 by omega]; rfl
      · rw [List.getElem?_append_right (Nat.le_refl _), Nat.sub_self]; rfl
theorem last_snoc {α : Type} (q : List α) (x : α) : (q ++ [x])[(q ++ [x]).length - 1]? = some x := by
  rw [List.length_append]
  show (q ++ [x])[q.length + 1 - 1]? = some x
  rw [Nat.add_sub_cancel, List.getElem?_append_right (Nat.le_refl _), Nat.sub_self]
  rfl

section
variable {P : Program} {w : World} {K : PySem.W.Frag} {mg : Str → Option Value} {base : Heap} {CL : Addr}

/-! ### many -/
def spMany : Sp := fun vs H Q _ => ∃ (a : Addr) (t : Tree) (p : Nat), vs = [.ref a] ∧ NodeAt H t p a ∧ t.enc.length ≤ 90000 ∧ ∀ H', Same H H' → Q (.int ((t.enc.length : Nat) : Int)) H'
theorem scMany : FnScope ["_law_node_here", "_law_found", "_law_wait", "_law_one"] ["_law_node_here"] (defScope sMany) := ⟨rfl, rfl, rfl, by decide +kernel, rfl, by decide +kernel, by decide +kernel⟩
theorem ok_many (D : Df K mg "_law_many" sMany ["_law_node_here"]) (T : Tx K mg CL) : Kp P w K mg base CX0 1 "_law_many" ["_law_node_here"] spMany := by
  obtain ⟨f, fd, F, b, g⟩ := D
  refine ⟨f, fd, ?_, b, g, F.kp⟩
  refine F.ok scMany (fun vs H Q E h => ?_) (fun cdv A outer s H vs Q E hr h => ?_)
  · obtain ⟨a, t, p, rfl, _⟩ := h
    rfl
  · obtain ⟨a, t, p, rfl, hN, hsz, q⟩ := h
    refine ⟨_, pss_cons (ps_set (i := 1) scMany.nd rfl (.inl rfl) pe_int)
      (pss_cons (ps_set (i := 2) scMany.nd rfl (.inl rfl) (pe_lst (pa_cons (pv 0) pa_nil)))
      (pss_cons (ps_while PassesOwn.never (pt_cmpR (op_ne_nil hr.units0) (pv 2) (pe_lst pa_nil) (nomark _))
        (pss_cons (ps_set (i := 3) scMany.nd rfl (.inl rfl) (pe_bm0 PySem.F.plainAttrs_list PySem.F.slot_list_pop PySem.F.type_list_pop mt_pop (pv 2)))
        (pss_cons (ps_set (i := 1) scMany.nd rfl (.inl rfl) (pe_op op_add (pe_op op_add (pv 1) pe_int) (pe_callB call_len_seq (by rfl) T.zlen PySem.boot_len (pa_cons (pe_ix ix_tup (pv 3) pe_int (fun _ _ => rfl)) pa_nil))))
        (pss_one (ps_set (i := 2) scMany.nd rfl (.inl rfl) (pe_op op_cat (pv 2) (pe_callTy call_list_of (by rfl) T.zlist (by decide +kernel) (pa_cons (pe_ix ix_tup (pv 3) pe_int (fun _ _ => rfl)) pa_nil))))))))
      (pss_one (ps_ret (pv 1))))), ?_⟩
    refine ⟨_, rfl, one_line, fun o no => ?_⟩
    have s1 : Same H (upd H o (.lst [.ref a])) := same_upd no
    refine ⟨fun m σ H' => ∃ (wl : Addr) (as : List Addr) (rs : List Rec) (fo : Nat) (v3 : Option V), σ = [some (.ref a), some (.int (fo : Int)), some (.ref wl), v3] ∧ H' wl = some (.lst (as.map V.ref)) ∧ H wl = none ∧ RecsAt H' rs as ∧ fo + wlen rs = t.enc.length ∧ m = wcnt rs ∧ Same H H',
      ⟨_, o, [a], [⟨p, 0, 0, t⟩], 0, none, rfl, upd_same, no, RecsAt.one (nodeAt_tps (same_tps s1) hN), by simp [wlen], rfl, s1⟩, ?_⟩
    rintro m σ H1 ⟨wl, as, rs, fo, v3, rfl, e1, nw, hR, hf, rfl, s2⟩
    refine ⟨_, rfl, Nat.zero_le _, fun e ne => ?_⟩
    have s3 : Same H1 (upd H1 e (.lst [])) := same_upd ne
    refine ⟨wl, e, _, rfl, rfl, SqL.of (s3 _ _ e1), SqL.of upd_same, _, rfl, ?_⟩
    rcases snoc_of as with rfl | ⟨as', c, rfl⟩
    · -- nothing waits
      have hrs : rs = [] := List.length_eq_zero_iff.mp hR.1.symm
      subst hrs
      have hf' : fo = t.enc.length := by simpa [wlen] using hf
      refine iteF ⟨_, rfl, ?_⟩
      rw [hf']
      exact q _ (s2.trans s3)
    · obtain ⟨rs', r, rfl, hR', hc⟩ := hR.snoc
      have ee : (!((as' ++ [c]).map V.ref).isEmpty) = true := by simp
      rw [ee]
      refine iteT ?_
      refine ⟨fun σ' H' => ∃ m', m' < wcnt (rs' ++ [r]) ∧ ∃ (wl : Addr) (as : List Addr) (rs : List Rec) (fo : Nat) (v3 : Option V), σ' = [some (.ref a), some (.int (fo : Int)), some (.ref wl), v3] ∧ H' wl = some (.lst (as.map V.ref)) ∧ H wl = none ∧ RecsAt H' rs as ∧ fo + wlen rs = t.enc.length ∧ m' = wcnt rs ∧ Same H H', fun σ' H' h => h, ?_⟩
      -- one = wait.pop()
      have e3 := s3 _ _ e1
      refine ⟨_, rfl, .inl ⟨rfl, _, .inl (.inl e3)⟩, wl, _, .ref c, rfl, rfl, e3, by rw [List.map_append]; exact last_snoc _ _, ?_⟩
      have ed : ((as' ++ [c]).map V.ref).dropLast = as'.map V.ref := by rw [List.map_append]; simp
      rw [ed]
      have B4 : But wl (upd H1 e (.lst [])) (upd (upd H1 e (.lst [])) wl (.lst (as'.map V.ref))) := but_upd
      have T4 : Tps (upd H1 e (.lst [])) (upd (upd H1 e (.lst [])) wl (.lst (as'.map V.ref))) := B4.tps fun xs z => by rw [e3] at z; cases z
      have T14 := (same_tps s3).trans T4
      have s4 : Same H (upd (upd H1 e (.lst [])) wl (.lst (as'.map V.ref))) := But.same (s2.trans s3) B4 nw
      have e4 : (upd (upd H1 e (.lst [])) wl (.lst (as'.map V.ref))) wl = some (.lst (as'.map V.ref)) := upd_same
      generalize upd (upd H1 e (.lst [])) wl (.lst (as'.map V.ref)) = H4 at T14 s4 e4
      obtain ⟨rp, rd, rf, rt⟩ := r
      obtain ⟨k, own, ps⟩ := rt
      obtain ⟨an, ap, bs, n1, n2, n3, n4⟩ := nodeAt_node.mp hc
      have wl1 : wlen (rs' ++ [⟨rp, rd, rf, .node k own ps⟩]) = wlen rs' + (1 + own.length + (encs ps).length) := by
        rw [wlen_app]
        simp only [wlen, len_node, Nat.add_zero]
      have wc1 : wcnt (rs' ++ [⟨rp, rd, rf, .node k own ps⟩]) = wcnt rs' + (cnts ps + 1) := by
        rw [wcnt_app]
        simp only [wcnt, cnt_node, Nat.add_zero]
      rw [wl1] at hf
      -- found = found + 1 + len(one[2])
      refine ⟨_, rfl, _, _, rfl, rfl, _, rfl, c, _, 2, .ref an, rfl, rfl, SqT.of (T14 _ _ n1), rfl, an, _, rfl, .inr (SqT.of (T14 _ _ n2)), _, _, rfl, rfl, ?_⟩
      -- wait = wait + list(one[3])
      refine ⟨_, rfl, _, rfl, c, _, 3, .ref ap, rfl, rfl, SqT.of (T14 _ _ n1), rfl, ap, _, rfl, .inr (SqT.of (T14 _ _ n3)), fun l2 nl2 => ?_⟩
      have s5 : Same H4 (upd H4 l2 (.lst (bs.map V.ref))) := same_upd nl2
      have hl1 := hR'.1
      have hl2 := len_wlen rs'
      have hl3 := nodesAt_len _ _ _ n4
      have hl4 : ps.length ≤ (encs ps).length := by
        have := len_wlen (kids 0 ps 0)
        rw [kids_len, kids_wlen] at this
        exact this
      refine ⟨wl, l2, _, _, rfl, rfl, s5 _ _ e4, upd_same, line_of (by rw [List.length_map, List.length_map]; omega), fun w2 nw2 => ?_⟩
      have s6 : Same (upd H4 l2 (.lst (bs.map V.ref))) (upd (upd H4 l2 (.lst (bs.map V.ref))) w2 (.lst (as'.map V.ref ++ bs.map V.ref))) := same_upd nw2
      have T6 := T14.trans (same_tps (s5.trans s6))
      refine ⟨_, ?_, w2, as' ++ bs, rs' ++ kids 0 ps (rp + 1 + own.length), fo + 1 + own.length, some (.ref c), ?_, by rw [upd_same, List.map_append], s4.free (s5.free nw2), (hR'.tps T6).app ((kids_at 0 _ _ _ n4).tps T6), ?_, rfl, s4.trans (s5.trans s6)⟩
      · rw [wcnt_app, kids_wcnt, wc1]; omega
      · show [_, some (V.int ((fo : Int) + 1 + (((own.map V.int).length : Nat) : Int))), _, _] = _
        rw [List.length_map]
        rfl
      · rw [wlen_app, kids_wlen]; omega

/-! ### depth -/
def spDepth : Sp := fun vs H Q _ => ∃ (a : Addr) (t : Tree) (p : Nat), vs = [.ref a] ∧ NodeAt H t p a ∧ t.cnt ≤ 90000 ∧ ∀ H', Same H H' → Q (.int ((t.dep : Nat) : Int)) H'
theorem scDepth : FnScope ["_law_node_here", "_law_deep", "_law_wait", "_law_one", "_law_here", "_law_part"] ["_law_node_here"] (defScope sDepth) := ⟨rfl, rfl, rfl, by decide +kernel, rfl, by decide +kernel, by decide +kernel⟩
/-- pairs (node, how deep) that wait, by records -/
def PairsAt (H : Hp) (rs : List Rec) (us : List Addr) : Prop := us.length = rs.length ∧ ∀ (i : Nat) (r : Rec) (u : Addr), rs[i]? = some r → us[i]? = some u → ∃ c, H u = some (.tup [.ref c, .int (r.d : Int)]) ∧ NodeAt H r.t r.pl c
theorem PairsAt.tps {H H' : Hp} {rs : List Rec} {us : List Addr} (h : PairsAt H rs us) (x : Tps H H') : PairsAt H' rs us := ⟨h.1, fun i r u e1 e2 => by
  obtain ⟨c, h1, h2⟩ := h.2 i r u e1 e2
  exact ⟨c, x _ _ h1, nodeAt_tps x h2⟩⟩
theorem PairsAt.nil {H : Hp} : PairsAt H [] [] := ⟨rfl, fun i r a e => by simp at e⟩
theorem PairsAt.one {H : Hp} {r : Rec} {u c : Addr} (h1 : H u = some (.tup [.ref c, .int (r.d : Int)])) (h : NodeAt H r.t r.pl c) : PairsAt H [r] [u] := ⟨rfl, fun i r' u' e1 e2 => by
  cases i with
  | zero =>
    have z1 : r = r' := Option.some.inj e1
    have z2 : u = u' := Option.some.inj e2
    subst z1 z2
    exact ⟨c, h1, h⟩
  | succ i => simp at e1⟩
theorem PairsAt.app {H : Hp} {rs qs : List Rec} {as bs : List Addr} (h : PairsAt H rs as) (g : PairsAt H qs bs) : PairsAt H (rs ++ qs) (as ++ bs) := by
  refine ⟨by rw [List.length_append, List.length_append, h.1, g.1], fun i r a e1 e2 => ?_⟩
  by_cases hi : i < rs.length
  · rw [List.getElem?_append_left hi] at e1
    rw [List.getElem?_append_left (by rw [h.1]; exact hi)] at e2
    exact h.2 i r a e1 e2
  · rw [List.getElem?_append_right (by omega)] at e1
    rw [List.getElem?_append_right (by rw [h.1]; omega), h.1] at e2
    exact g.2 _ r a e1 e2
theorem PairsAt.snoc {H : Hp} {rs : List Rec} {q : List Addr} {x : Addr} (h : PairsAt H rs (q ++ [x])) : ∃ rs' r, rs = rs' ++ [r] ∧ PairsAt H rs' q ∧ ∃ c, H x = some (.tup [.ref c, .int (r.d : Int)]) ∧ NodeAt H r.t r.pl c := by
  obtain ⟨h1, h2⟩ := h
  rcases snoc_of rs with rfl | ⟨rs', r, rfl⟩
  · rw [List.length_append] at h1
    have h1' : q.length + 1 = 0 := h1
    omega
  · rw [List.length_append, List.length_append] at h1
    have h1' : q.length + 1 = rs'.length + 1 := h1
    refine ⟨rs', r, rfl, ⟨by omega, fun i r' a e1 e2 => ?_⟩, ?_⟩
    · refine h2 i r' a ?_ ?_
      · rw [List.getElem?_append_left (List.getElem?_eq_some_iff.mp e1).1]; exact e1
      · rw [List.getElem?_append_left (List.getElem?_eq_some_iff.mp e2).1]; exact e2
    · refine h2 q.length r x ?_ ?_
      · rw [List.getElem?_append_right (by omega), show q.length - rs'.length = 0 by omega]; rfl
      · rw [List.getElem?_append_right (Nat.le_refl _), Nat.sub_self]; rfl
theorem kids_get (d : Nat) : ∀ (ts : List Tree) (p i : Nat) (t : Tree), ts[i]? = some t → ∃ pl, (kids d ts p)[i]? = some ⟨pl, d, 0, t⟩
  | [], p, i, t, e => by simp at e
  | u :: r, p, 0, t, e => by
    have e' : u = t := Option.some.inj e
    subst e'
    exact ⟨p, rfl⟩
  | u :: r, p, i + 1, t, e => kids_get d r _ i t (by simpa using e)
theorem ok_depth (D : Df K mg "_law_depth" sDepth ["_law_node_here"]) (T : Tx K mg CL) : Kp P w K mg base CX0 1 "_law_depth" ["_law_node_here"] spDepth := by
  obtain ⟨f, fd, F, b, g⟩ := D
  refine ⟨f, fd, ?_, b, g, F.kp⟩
  refine F.ok scDepth (fun vs H Q E h => ?_) (fun cdv A outer s H vs Q E hr h => ?_)
  · obtain ⟨a, t, p, rfl, _⟩ := h
    rfl
  · obtain ⟨a, t, p, rfl, hN, hsz, q⟩ := h
    refine ⟨_, pss_cons (ps_set (i := 1) scDepth.nd rfl (.inl rfl) pe_int)
      (pss_cons (ps_set (i := 2) scDepth.nd rfl (.inl rfl) (pe_lst (pa_cons (pe_tup (pa_cons (pv 0) (pa_cons pe_int pa_nil))) pa_nil)))
      (pss_cons (ps_while PassesOwn.never (pt_cmpR (op_ne_nil hr.units0) (pv 2) (pe_lst pa_nil) (nomark _))
        (pss_cons (ps_asg (pe_bm0 PySem.F.plainAttrs_list PySem.F.slot_list_pop PySem.F.type_list_pop mt_pop (pv 2)) (pg_tup (by rfl) (pgs_cons (pg_name (i := 3) scDepth.nd rfl (.inl rfl)) (pgs_cons (pg_name (i := 4) scDepth.nd rfl (.inr rfl)) pgs_nil))))
        (pss_cons (ps_set (i := 1) scDepth.nd rfl (.inl rfl) (pe_callB (call_max2 rfl) (by rfl) T.zmax (by decide +kernel) (pa_cons (pv 1) (pa_cons (pv 4) pa_nil))))
        (pss_one (ps_set (i := 2) scDepth.nd rfl (.inl rfl) (pe_op op_cat (pv 2) (pe_lc (own := [("_law_part", 5)]) (g := gName 5) (tt := tYes) rfl scDepth.nd (pi_tup (pe_ix ix_tup (pv 3) pe_int (fun _ _ => rfl)))
            (blkOk_by (own := [("_law_part", 5)]) (N := ["_law_node_here", "_law_deep", "_law_wait", "_law_one", "_law_here", "_law_part"]) (sc := defScope sDepth) (by decide +kernel))
            (fun _ _ _ _ _ => pg_name (i := 5) scDepth.nd rfl (Or.inl rfl)) (fun _ _ _ _ _ => pts_nil) (fun _ _ _ _ _ => pe_tup (pa_cons (pv 5) (pa_cons (pe_op op_add (pv 4) pe_int) pa_nil))))))))))
      (pss_one (ps_ret (pv 1))))), ?_⟩
    refine ⟨_, rfl, two_line, fun u0 nu0 => ⟨one_line, fun o no => ?_⟩⟩
    have s0 : Same H (upd H u0 (.tup [.ref a, .int 1])) := same_upd nu0
    have s1 : Same (upd H u0 (.tup [.ref a, .int 1])) (upd (upd H u0 (.tup [.ref a, .int 1])) o (.lst [.ref u0])) := same_upd no
    refine ⟨fun m σ H' => ∃ (wl : Addr) (us : List Addr) (rs : List Rec) (dp : Nat) (v3 v4 : Option V), σ = [some (.ref a), some (.int (dp : Int)), some (.ref wl), v3, v4, none] ∧ H' wl = some (.lst (us.map V.ref)) ∧ H wl = none ∧ PairsAt H' rs us ∧ max (dp + 1) (wdep rs) = t.dep + 1 ∧ wcnt rs ≤ 90000 ∧ m = wcnt rs ∧ Same H H',
      ⟨_, o, [u0], [⟨p, 1, 0, t⟩], 0, none, none, rfl, upd_same, s0.free no, PairsAt.one (r := ⟨p, 1, 0, t⟩) (s1 _ _ upd_same) (nodeAt_tps (same_tps (s0.trans s1)) hN), by simp only [wdep]; omega, by simp only [wcnt]; omega, rfl, s0.trans s1⟩, ?_⟩
    rintro m σ H1 ⟨wl, us, rs, dp, v3, v4, rfl, e1, nw, hR, hf, hcn, rfl, s2⟩
    refine ⟨_, rfl, Nat.zero_le _, fun e ne => ?_⟩
    have s3 : Same H1 (upd H1 e (.lst [])) := same_upd ne
    refine ⟨wl, e, _, rfl, rfl, SqL.of (s3 _ _ e1), SqL.of upd_same, _, rfl, ?_⟩
    rcases snoc_of us with rfl | ⟨us', u, rfl⟩
    · have hrs : rs = [] := List.length_eq_zero_iff.mp hR.1.symm
      subst hrs
      have hf' : dp = t.dep := by simp only [wdep] at hf; omega
      refine iteF ⟨_, rfl, ?_⟩
      rw [hf']
      exact q _ (s2.trans s3)
    · obtain ⟨rs', r, rfl, hR', c, hu, hc⟩ := hR.snoc
      have ee : (!((us' ++ [u]).map V.ref).isEmpty) = true := by simp
      rw [ee]
      refine iteT ?_
      refine ⟨fun σ' H' => ∃ m', m' < wcnt (rs' ++ [r]) ∧ ∃ (wl : Addr) (us : List Addr) (rs : List Rec) (dp : Nat) (v3 v4 : Option V), σ' = [some (.ref a), some (.int (dp : Int)), some (.ref wl), v3, v4, none] ∧ H' wl = some (.lst (us.map V.ref)) ∧ H wl = none ∧ PairsAt H' rs us ∧ max (dp + 1) (wdep rs) = t.dep + 1 ∧ wcnt rs ≤ 90000 ∧ m' = wcnt rs ∧ Same H H', fun σ' H' h => h, ?_⟩
      -- one, here = wait.pop()
      have e3 := s3 _ _ e1
      refine ⟨_, rfl, .inl ⟨rfl, _, .inl (.inl e3)⟩, wl, _, .ref u, rfl, rfl, e3, by rw [List.map_append]; exact last_snoc _ _, ?_⟩
      have ed : ((us' ++ [u]).map V.ref).dropLast = us'.map V.ref := by rw [List.map_append]; simp
      rw [ed]
      have B4 : But wl (upd H1 e (.lst [])) (upd (upd H1 e (.lst [])) wl (.lst (us'.map V.ref))) := but_upd
      have T4 : Tps (upd H1 e (.lst [])) (upd (upd H1 e (.lst [])) wl (.lst (us'.map V.ref))) := B4.tps fun xs z => by rw [e3] at z; cases z
      have T14 := (same_tps s3).trans T4
      have s4 : Same H (upd (upd H1 e (.lst [])) wl (.lst (us'.map V.ref))) := But.same (s2.trans s3) B4 nw
      have e4 : (upd (upd H1 e (.lst [])) wl (.lst (us'.map V.ref))) wl = some (.lst (us'.map V.ref)) := upd_same
      generalize upd (upd H1 e (.lst [])) wl (.lst (us'.map V.ref)) = H4 at T14 s4 e4
      obtain ⟨rp, rd, rf, rt⟩ := r
      obtain ⟨k, own, ps⟩ := rt
      obtain ⟨an, ap, bs, n1, n2, n3, n4⟩ := nodeAt_node.mp hc
      have wd1 : wdep (rs' ++ [⟨rp, rd, rf, .node k own ps⟩]) = max (wdep rs') (rd + (deps ps + 1)) := by
        rw [wdep_app]
        simp only [wdep, dep_node]
        omega
      have wc1 : wcnt (rs' ++ [⟨rp, rd, rf, .node k own ps⟩]) = wcnt rs' + (cnts ps + 1) := by
        rw [wcnt_app]
        simp only [wcnt, cnt_node, Nat.add_zero]
      rw [wd1] at hf
      rw [wc1] at hcn ⊢
      refine ⟨u, _, rfl, SqT.of (T14 _ _ hu), rfl, _, [_], rfl, _, [], rfl, rfl, ?_⟩
      -- deep = max(deep, here)
      refine ⟨_, rfl, _, rfl, _, _, rfl, ?_⟩
      obtain ⟨dq, edq, hdq⟩ : ∃ dq : Nat, (if (rd : Int) > (dp : Int) then (rd : Int) else (dp : Int)) = (dq : Int) ∧ dq = max dp rd := by
        refine ⟨max dp rd, ?_, rfl⟩
        split <;> omega
      show gName 1 (V.int (if (rd : Int) > (dp : Int) then (rd : Int) else (dp : Int))) _ _ _
      rw [edq]
      -- wait = wait + [(part, here + 1) for part in one[3]]
      have hl3 := nodesAt_len _ _ _ n4
      have hl1 := hR'.1
      have hl2 := len_wcnt rs'
      have hl4 : ps.length ≤ cnts ps := by
        have := len_wcnt (kids 0 ps 0)
        rw [kids_len, kids_wcnt] at this
        exact this
      refine ⟨_, rfl, _, rfl, c, _, 3, .ref ap, rfl, rfl, SqT.of (T14 _ _ n1), rfl, ap, rfl, ⟨_, SqT.of (T14 _ _ n3)⟩, fun D nD => ?_⟩
      have sD : Same H4 (upd H4 D (.lst [])) := same_upd nD
      refine lc_tup (K := K) (a := ap) (xs := bs.map V.ref) (fun i H' => ∃ xs : List Addr, H' D = some (.lst (xs.map V.ref)) ∧ PairsAt H' ((kids (rd + 1) ps (rp + 1 + own.length)).take i) xs ∧ Same H4 H')
        ⟨[], upd_same, PairsAt.nil, sD⟩ (fun i H' _ ⟨_, _, _, s⟩ => SqT.of (s _ _ (T14 _ _ n3))) ?_ ?_
      · rintro i y H5 hi ⟨xs, eD, hP, s5⟩
        obtain ⟨b0, hb0, rfl⟩ := map_at hi
        have hil : i < ps.length := by
          have := (List.getElem?_eq_some_iff.mp hb0).1
          omega
        obtain ⟨ti, hti⟩ : ∃ t, ps[i]? = some t := ⟨ps[i], List.getElem?_eq_getElem hil⟩
        obtain ⟨pl, hki⟩ := kids_get (rd + 1) ps (rp + 1 + own.length) i ti hti
        have hNi := ((kids_at (rd + 1) _ _ _ n4).tps (T14.trans (same_tps s5))).2 i _ b0 hki hb0
        refine ⟨rfl, _, rfl, _, rfl, _, _, rfl, rfl, two_line, fun t2 nt2 => ?_⟩
        have s6 : Same H5 (upd H5 t2 (.tup [.ref b0, .int ((rd : Int) + 1)])) := same_upd nt2
        have Dt : D ≠ t2 := ne_of_none eD nt2
        have xl := hP.1
        refine ⟨_, s6 _ _ eD, line_lt (by rw [List.length_map, xl, List.length_take]; omega), xs ++ [t2], by rw [upd_same, List.map_append]; rfl, ?_, fun b' x' e' => ?_⟩
        · have Tn : Tps (upd H5 t2 (.tup [.ref b0, .int ((rd : Int) + 1)])) (upd (upd H5 t2 (.tup [.ref b0, .int ((rd : Int) + 1)])) D (.lst (xs.map V.ref ++ [.ref t2]))) := fun b' xs' e' => by
            rw [upd_ne (ne_of e' (s6 _ _ eD) (by intro z; cases z))]
            exact e'
          rw [take_succ_app hki]
          exact (hP.tps ((same_tps s6).trans Tn)).app (PairsAt.one (r := ⟨pl, rd + 1, 0, ti⟩) (Tn _ _ upd_same) (nodeAt_tps ((same_tps s6).trans Tn) hNi))
        · rw [upd_ne (ne_of_none e' nD)]
          exact s6 _ _ (s5 _ _ e')
      · rintro H5 ⟨xs, eD, hP, s5⟩
        rw [List.length_map, hl3, List.take_of_length_le (by rw [kids_len]; exact Nat.le_refl _)] at hP
        have xl := hP.1
        rw [kids_len] at xl
        refine ⟨wl, D, _, _, rfl, rfl, s5 _ _ e4, eD, line_of (by rw [List.length_map, List.length_map]; omega), fun w2 nw2 => ?_⟩
        have s6 : Same H5 (upd H5 w2 (.lst (us'.map V.ref ++ xs.map V.ref))) := same_upd nw2
        have T6 := (T14.trans (same_tps s5)).trans (same_tps s6)
        refine ⟨_, ?_, w2, us' ++ xs, rs' ++ kids (rd + 1) ps (rp + 1 + own.length), dq, _, _, rfl, by rw [upd_same, List.map_append], s4.free (s5.free nw2), (hR'.tps T6).app (hP.tps (same_tps s6)), ?_, ?_, rfl, (s4.trans s5).trans s6⟩
        · rw [wcnt_app, kids_wcnt]; omega
        · rw [wdep_app, kids_wdep]
          by_cases hps : ps = []
          · rw [if_pos hps]
            rw [hps, deps_nil] at hf
            omega
          · rw [if_neg hps]
            omega
        · rw [wcnt_app, kids_wcnt]; omega
end
end K07

set_option Elab.async false
set_option linter.all false
set_option maxRecDepth 100000
set_option maxHeartbeats 4000000
/-! depths, in_function, heads_of, put, all_bare. -/
namespace K07
open PySem PySem.Spec PyProof.Rows L2

abbrev sDepths : Stmt := topS 42
abbrev sInFun : Stmt := topS 43
abbrev sHeadsOf : Stmt := topS 44
abbrev sPut : Stmt := topS 45
abbrev sBare : Stmt := topS 46

/-- a list of pairs of numbers -/
def DepAt (H : Hp) (o : Addr) (out : List (Nat × Int)) : Prop := ∃ us : List Addr, H o = some (.lst (us.map V.ref)) ∧ us.length = out.length ∧ ∀ (i : Nat) (u : Addr) (q : Nat × Int), us[i]? = some u → out[i]? = some q → H u = some (.tup [.int (q.1 : Int), .int q.2])
theorem DepAt.same {H H' : Hp} {o : Addr} {out : List (Nat × Int)} (h : DepAt H o out) (s : Same H H') : DepAt H' o out := by
  obtain ⟨us, h1, h2, h3⟩ := h
  exact ⟨us, s _ _ h1, h2, fun i u q e1 e2 => s _ _ (h3 i u q e1 e2)⟩
/-- a list of (kind, numbers) -/
def BareAt (H : Hp) (o : Addr) (bs : List (Int × List Int)) : Prop := ∃ us : List Addr, H o = some (.lst (us.map V.ref)) ∧ us.length = bs.length ∧ ∀ (i : Nat) (u : Addr) (q : Int × List Int), us[i]? = some u → bs[i]? = some q → ∃ an, H u = some (.tup [.int q.1, .ref an]) ∧ H an = some (.tup (q.2.map V.int))
theorem BareAt.same {H H' : Hp} {o : Addr} {bs : List (Int × List Int)} (h : BareAt H o bs) (s : Same H H') : BareAt H' o bs := by
  obtain ⟨us, h1, h2, h3⟩ := h
  refine ⟨us, s _ _ h1, h2, fun i u q e1 e2 => ?_⟩
  obtain ⟨an, g1, g2⟩ := h3 i u q e1 e2
  exact ⟨an, s _ _ g1, s _ _ g2⟩

theorem mstep_out (s : MS) (r : Rec) : (mstep s r).stk = (r.pl + r.t.enc.length) :: popW r.pl s.stk ∧ (mstep s r).fn = (if popW r.pl s.stk = [] then s.fn + 1 else s.fn) ∧ (mstep s r).out = s.out ++ [((popW r.pl s.stk).length + 1, if popW r.pl s.stk = [] then s.fn + 1 else s.fn)] := ⟨rfl, rfl, rfl⟩
theorem popW_len (p : Nat) : ∀ l : List Nat, (popW p l).length ≤ l.length
  | [] => Nat.le_refl _
  | e :: r => by
    unfold popW
    rw [List.dropWhile_cons]
    split
    · have := popW_len p r
      unfold popW at this
      rw [List.length_cons]
      omega
    · exact Nat.le_refl _
theorem foldl_stk (rs : List Rec) : ∀ s : MS, (rs.foldl mstep s).stk.length ≤ s.stk.length + rs.length := by
  induction rs with
  | nil => intro s; exact Nat.le_refl _
  | cons r q ih =>
    intro s
    have h := ih (mstep s r)
    have h2 := popW_len r.pl s.stk
    rw [List.foldl_cons, List.length_cons]
    have h3 : (mstep s r).stk.length = (popW r.pl s.stk).length + 1 := rfl
    omega
theorem foldl_outlen (rs : List Rec) : ∀ s : MS, (rs.foldl mstep s).out.length = s.out.length + rs.length := by
  induction rs with
  | nil => intro s; rfl
  | cons r q ih =>
    intro s
    rw [List.foldl_cons, ih, (mstep_out s r).2.2, List.length_append, List.length_cons]
    show s.out.length + 1 + q.length = s.out.length + (q.length + 1)
    omega

section
variable {P : Program} {w : World} {K : PySem.W.Frag} {mg : Str → Option Value} {base : Heap} {CL : Addr}

/-! ### depths -/
def spDepths : Sp := fun vs H Q _ => ∃ (l : Addr) (as : List Addr) (rs : List Rec), vs = [.ref l] ∧ H l = some (.lst (as.map V.ref)) ∧ RecsAt H rs as ∧ (∀ r ∈ rs, r.t.enc.length ≤ 90000) ∧ rs.length ≤ 90000 ∧
  ∀ H' o, DepAt H' o (rs.foldl mstep ⟨[], -1, []⟩).out → Same H H' → Q (.ref o) H'
theorem scDepths : FnScope ["_law_some", "_law_found", "_law_behind", "_law_function", "_law_node_here"] ["_law_some"] (defScope sDepths) := ⟨rfl, rfl, rfl, by decide +kernel, rfl, by decide +kernel, by decide +kernel⟩
theorem ints_last (e : Nat) (r : List Nat) : (((e :: r).reverse.map fun n : Nat => V.int (n : Int))) = (r.reverse.map fun n : Nat => V.int (n : Int)) ++ [V.int (e : Int)] := by
  rw [List.reverse_cons, List.map_append]
  rfl
theorem ok_depths (D : Df K mg "_law_depths" sDepths ["_law_some"]) (T : Tx K mg CL) (M : Kp P w K mg base CX0 1 "_law_many" ["_law_node_here"] spMany) : Kp P w K mg base CX0 2 "_law_depths" ["_law_some"] spDepths := by
  obtain ⟨f, fd, F, b, g⟩ := D
  obtain ⟨fM, fdM, GM, bM, mM, kM⟩ := M
  refine ⟨f, fd, ?_, b, g, F.kp⟩
  refine F.ok scDepths (fun vs H Q E h => ?_) (fun cdv A outer s H vs Q E hr h => ?_)
  · obtain ⟨l, as, rs, rfl, _⟩ := h
    rfl
  · obtain ⟨l, as, rs, rfl, hL, hR, hsz, hlen, q⟩ := h
    refine ⟨_, pss_cons (ps_set (i := 1) scDepths.nd rfl (.inl rfl) (pe_lst pa_nil))
      (pss_cons (ps_set (i := 2) scDepths.nd rfl (.inl rfl) (pe_lst pa_nil))
      (pss_cons (ps_set (i := 3) scDepths.nd rfl (.inl rfl) (pe_un un_neg pe_int))
      (pss_cons (ps_for PassesOwn.never rfl (pi_list (pv 0)) (pg_name (i := 4) scDepths.nd rfl (.inl rfl))
        (C8.pss_cut (ps_while PassesOwn.never (PW.pt (pw_and (pt_cmpR (op_ne_nil hr.units0) (pv 2) (pe_lst pa_nil) (nomark _)) (pw_and1 (pt_cmpR op_ge (pe_ix ix_tup (pv 4) pe_int (fun _ _ => rfl)) (pe_ix ix_list (pv 2) (pe_un un_neg pe_int) (fun _ _ => rfl)) (nomark _)))))
          (pss_one (ps_expr (pe_bm0 PySem.F.plainAttrs_list PySem.F.slot_list_pop PySem.F.type_list_pop mt_pop (pv 2)))))
        (C8.pss_cut (ps_if (pt_cmpR (op_eq_nil hr.units0) (pv 2) (pe_lst pa_nil) (nomark _)) (pss_one (ps_set (i := 3) scDepths.nd rfl (.inl rfl) (pe_op op_add (pv 3) pe_int))) pss_nil)
        (pss_cons (ps_expr (pe_bm PySem.F.plainAttrs_list PySem.F.slot_list_append PySem.F.type_list_append mt_append (pv 2) (pa_cons (pe_op op_add (pe_ix ix_tup (pv 4) pe_int (fun _ _ => rfl)) (pe_call GM hr (by rfl) mM kM bM .nil pass0 (pa_cons (pv 4) pa_nil))) pa_nil)))
        (pss_one (ps_expr (pe_bm PySem.F.plainAttrs_list PySem.F.slot_list_append PySem.F.type_list_append mt_append (pv 1) (pa_cons (pe_tup (pa_cons (pe_callB call_len_seq (by rfl) T.zlen PySem.boot_len (pa_cons (pv 2) pa_nil)) (pa_cons (pv 3) pa_nil))) pa_nil))))))))
      (pss_one (ps_ret (pv 1)))))), ?_⟩
    refine ⟨Nat.zero_le _, fun o no => ⟨Nat.zero_le _, fun bl nbl => ⟨_, rfl, ?_⟩⟩⟩
    have s1 : Same H (upd H o (.lst [])) := same_upd no
    have s2 : Same (upd H o (.lst [])) (upd (upd H o (.lst [])) bl (.lst [])) := same_upd nbl
    have s12 := s1.trans s2
    have nblH : H bl = none := s1.free nbl
    have eo0 : (upd (upd H o (.lst [])) bl (.lst [])) o = some (.lst []) := s2 _ _ upd_same
    have obl : o ≠ bl := fun z => by rw [← z, upd_same] at nbl; cases nbl
    refine ⟨_, rfl, l, rfl, ⟨_, SqL.of (s12 _ _ hL)⟩, for_list (K := K) (a := l) (xs := as.map V.ref) (fun i σ H' => ∃ (us : List Addr) (v4 : Option V), σ = [some (.ref l), some (.ref o), some (.ref bl), some (.int ((rs.take i).foldl mstep ⟨[], -1, []⟩).fn), v4] ∧
        H' o = some (.lst (us.map V.ref)) ∧ us.length = i ∧ (∀ (j : Nat) (u : Addr) (q : Nat × Int), us[j]? = some u → ((rs.take i).foldl mstep ⟨[], -1, []⟩).out[j]? = some q → H' u = some (.tup [.int (q.1 : Int), .int q.2])) ∧
        H' bl = some (.lst (((rs.take i).foldl mstep ⟨[], -1, []⟩).stk.reverse.map fun n : Nat => V.int (n : Int))) ∧ Same H H')
      ⟨[], none, rfl, eo0, rfl, fun j u q e => (by simp at e), upd_same, s12⟩ (fun i σ H' _ ⟨_, _, _, _, _, _, _, s⟩ => SqL.of (s _ _ hL)) ?_ ?_⟩
    · rintro i y σ H1 hi ⟨us, v4, rfl, eo, hul, hus, ebl, s3⟩
      obtain ⟨c, hc, rfl⟩ := map_at hi
      obtain ⟨r, hr0, hN⟩ := hR.get' hc
      have hil : i < rs.length := (List.getElem?_eq_some_iff.mp hr0).1
      have htk := take_succ_app hr0
      have hfs : (rs.take (i + 1)).foldl mstep ⟨[], -1, []⟩ = mstep ((rs.take i).foldl mstep ⟨[], -1, []⟩) r := by rw [htk, List.foldl_append]; rfl
      have hsl := foldl_stk (rs.take i) ⟨[], -1, []⟩
      have hol := foldl_outlen (rs.take i) ⟨[], -1, []⟩
      rw [List.length_take] at hsl hol
      have hsz1 := hsz r (List.mem_of_getElem? hr0)
      rw [hfs]
      generalize (rs.take i).foldl mstep ⟨[], -1, []⟩ = ms at hus ebl hsl hol
      obtain ⟨stk, fn, out⟩ := ms
      obtain ⟨m1, m2, m3⟩ := mstep_out ⟨stk, fn, out⟩ r
      rw [m1, m2, m3]
      dsimp only at hus ebl hsl hol ⊢
      have hst : stk.length ≤ i := by
        have h0 : stk.length ≤ 0 + min i rs.length := hsl
        omega
      have hol' : out.length = i := by
        have h0 : out.length = 0 + min i rs.length := hol
        omega
      obtain ⟨an, ap, bs, n1, n2, n3, n4⟩ := (nodeAt_tps (same_tps s3) hN).tup
      -- while behind != [] and node[1] >= behind[-1]
      refine ⟨fun σ' H' => σ' = [some (.ref l), some (.ref o), some (.ref bl), some (.int fn), some (.ref c)] ∧ H' bl = some (.lst ((popW r.pl stk).reverse.map fun n : Nat => V.int (n : Int))) ∧ But bl H1 H', ?_, ?_⟩
      · refine ⟨fun m σ' H' => ∃ (X S : List Nat), stk = X ++ S ∧ (∀ x ∈ X, x ≤ r.pl) ∧ σ' = [some (.ref l), some (.ref o), some (.ref bl), some (.int fn), some (.ref c)] ∧ H' bl = some (.lst (S.reverse.map fun n : Nat => V.int (n : Int))) ∧ But bl H1 H' ∧ m = S.length,
          ⟨_, [], stk, rfl, (fun _ h => nomatch h), rfl, ebl, But.refl _ _, rfl⟩, ?_⟩
        rintro m σ' H2 ⟨X, S, hXS, hX, rfl, e2, B2, rfl⟩
        have T2 : Tps H1 H2 := B2.tps fun xs z => by rw [ebl] at z; cases z
        have hpop : popW r.pl stk = popW r.pl S := by rw [hXS, popW_all r.pl X S hX]
        refine ⟨_, rfl, Nat.zero_le _, fun e ne => ?_⟩
        have s4 : Same H2 (upd H2 e (.lst [])) := same_upd ne
        refine ⟨bl, e, _, rfl, rfl, SqL.of (s4 _ _ e2), SqL.of upd_same, _, rfl, ?_⟩
        cases S with
        | nil =>
          refine iteF (iteF ⟨rfl, ?_, B2.trans (same_but s4 bl)⟩)
          rw [hpop]
          exact s4 _ _ e2
        | cons h S' =>
          have ee : (!((h :: S').reverse.map fun n : Nat => V.int (n : Int)).isEmpty) = true := by rw [ints_last]; simp
          rw [ee]
          refine iteT ?_
          refine ⟨_, rfl, c, _, 1, .int (r.pl : Int), rfl, rfl, SqT.of (s4 _ _ (T2 _ _ n1)), rfl, _, rfl, _, rfl, bl, _, _, .int (h : Int), rfl, rfl, SqL.of (s4 _ _ e2), (by rw [ints_last]; exact atI_last _ _), _, _, rfl, rfl, _, rfl, ite2 (fun c1 => ?_) (fun c1 => ?_)⟩
          · have h1 := of_decide_eq_true c1
            refine ⟨fun σ'' H'' => ∃ m', m' < (h :: S').length ∧ ∃ (X S : List Nat), stk = X ++ S ∧ (∀ x ∈ X, x ≤ r.pl) ∧ σ'' = [some (.ref l), some (.ref o), some (.ref bl), some (.int fn), some (.ref c)] ∧ H'' bl = some (.lst (S.reverse.map fun n : Nat => V.int (n : Int))) ∧ But bl H1 H'' ∧ m' = S.length, fun σ'' H'' z => z, ?_⟩
            have e4 := s4 _ _ e2
            refine ⟨_, rfl, .inl ⟨rfl, _, .inl (.inl e4)⟩, bl, _, _, rfl, rfl, e4, by rw [ints_last]; exact last_snoc _ _, ?_⟩
            refine ⟨S'.length, Nat.lt_succ_self _, X ++ [h], S', by rw [hXS]; simp, fun x hx => ?_, rfl, by rw [upd_same, ints_last, List.dropLast_concat], (B2.trans (same_but s4 bl)).trans but_upd, rfl⟩
            rcases List.mem_append.mp hx with z | z
            · exact hX x z
            · have : x = h := by simpa using z
              omega
          · have h1 : ¬ ((h : Int) ≤ (r.pl : Int)) := fun z => c1 (decide_eq_true z)
            refine ⟨rfl, ?_, B2.trans (same_but s4 bl)⟩
            rw [hpop, popW_stop r.pl h S' (by omega)]
            exact s4 _ _ e2
      · rintro σ' H2 ⟨rfl, e2, B2⟩
        have hpl := popW_len r.pl stk
        generalize hP : popW r.pl stk = pw at e2 hpl ⊢
        have T2 : Tps H1 H2 := B2.tps fun xs z => by rw [ebl] at z; cases z
        -- if behind == []
        refine ⟨fun σ'' H'' => σ'' = [some (.ref l), some (.ref o), some (.ref bl), some (.int (if pw = [] then fn + 1 else fn)), some (.ref c)] ∧ H'' bl = some (.lst (pw.reverse.map fun n : Nat => V.int (n : Int))) ∧ But bl H1 H'', ?_, ?_⟩
        · refine ⟨_, rfl, Nat.zero_le _, fun e ne => ?_⟩
          have s4 : Same H2 (upd H2 e (.lst [])) := same_upd ne
          refine ⟨bl, e, _, rfl, rfl, SqL.of (s4 _ _ e2), SqL.of upd_same, _, rfl, ?_⟩
          cases pw with
          | nil => exact iteT ⟨_, rfl, _, _, rfl, rfl, rfl, s4 _ _ e2, B2.trans (same_but s4 bl)⟩
          | cons h S' =>
            have ee : (((h :: S').reverse.map fun n : Nat => V.int (n : Int)).isEmpty) = false := by rw [ints_last]; simp
            rw [ee]
            exact iteF ⟨rfl, s4 _ _ e2, B2.trans (same_but s4 bl)⟩
        · rintro σ'' H3 ⟨rfl, e3, B3⟩
          have T3 : Tps H1 H3 := B3.tps fun xs z => by rw [ebl] at z; cases z
          -- behind.append(node[1] + many(node))
          refine ⟨.ref bl, rfl, .inl ⟨rfl, _, .inl (.inl e3)⟩, _, rfl, c, _, 1, .int (r.pl : Int), rfl, rfl, SqT.of (T3 _ _ n1), rfl, _, rfl, c, r.t, r.pl, rfl, nodeAt_tps ((same_tps s3).trans T3) hN, hsz1, fun H4 s4 => ⟨_, _, rfl, rfl, ?_⟩⟩
          have e4 := s4 _ _ e3
          refine ⟨bl, _, _, rfl, rfl, e4, line_lt (by rw [List.length_map, List.length_reverse]; omega), ?_⟩
          have B5 : But bl H4 (upd H4 bl (.lst ((pw.reverse.map fun n : Nat => V.int (n : Int)) ++ [.int ((r.pl : Int) + (r.t.enc.length : Nat))]))) := but_upd
          have T5 := B5.tps fun xs z => by rw [e4] at z; cases z
          have B15 := (B3.trans (same_but s4 bl)).trans B5
          have e5 : (upd H4 bl (.lst ((pw.reverse.map fun n : Nat => V.int (n : Int)) ++ [.int ((r.pl : Int) + (r.t.enc.length : Nat))]))) bl = some (.lst ((((r.pl + r.t.enc.length) :: pw).reverse).map fun n : Nat => V.int (n : Int))) := by
            rw [upd_same, ints_last]
            rfl
          have eo5 := B15 _ _ eo obl
          -- found.append((len(behind), function))
          refine ⟨.ref o, rfl, .inl ⟨rfl, _, .inl (.inl eo5)⟩, _, rfl, bl, _, rfl, .inl (SqL.of e5), _, rfl, two_line, fun u nu => ?_⟩
          have elen : (((((r.pl + r.t.enc.length) :: pw).reverse).map fun n : Nat => V.int (n : Int)).length : Nat) = pw.length + 1 := by
            rw [List.length_map, List.length_reverse, List.length_cons]
          have s6 : Same (upd H4 bl (.lst ((pw.reverse.map fun n : Nat => V.int (n : Int)) ++ [.int ((r.pl : Int) + (r.t.enc.length : Nat))]))) (upd (upd H4 bl (.lst ((pw.reverse.map fun n : Nat => V.int (n : Int)) ++ [.int ((r.pl : Int) + (r.t.enc.length : Nat))]))) u (.tup [.int (((((r.pl + r.t.enc.length) :: pw).reverse.map fun n : Nat => V.int (n : Int)).length : Nat) : Int), .int (if pw = [] then fn + 1 else fn)])) := same_upd nu
          have eo6 := s6 _ _ eo5
          have ebl6 := s6 _ _ e5
          have s06 : Same H (upd (upd H4 bl (.lst ((pw.reverse.map fun n : Nat => V.int (n : Int)) ++ [.int ((r.pl : Int) + (r.t.enc.length : Nat))]))) u (.tup [.int (((((r.pl + r.t.enc.length) :: pw).reverse.map fun n : Nat => V.int (n : Int)).length : Nat) : Int), .int (if pw = [] then fn + 1 else fn)])) := (But.same s3 B15 nblH).trans s6
          have T16 := (T3.trans (same_tps s4)).trans (T5.trans (same_tps s6))
          have eu6 : (upd (upd H4 bl (.lst ((pw.reverse.map fun n : Nat => V.int (n : Int)) ++ [.int ((r.pl : Int) + (r.t.enc.length : Nat))]))) u (.tup [.int (((((r.pl + r.t.enc.length) :: pw).reverse.map fun n : Nat => V.int (n : Int)).length : Nat) : Int), .int (if pw = [] then fn + 1 else fn)])) u = some (.tup [.int ((pw.length + 1 : Nat) : Int), .int (if pw = [] then fn + 1 else fn)]) := by rw [upd_same, elen]
          generalize upd (upd H4 bl (.lst ((pw.reverse.map fun n : Nat => V.int (n : Int)) ++ [.int ((r.pl : Int) + (r.t.enc.length : Nat))]))) u (.tup [.int (((((r.pl + r.t.enc.length) :: pw).reverse.map fun n : Nat => V.int (n : Int)).length : Nat) : Int), .int (if pw = [] then fn + 1 else fn)]) = H6 at eo6 ebl6 s06 T16 eu6
          refine ⟨o, _, _, rfl, rfl, eo6, line_lt (by rw [List.length_map, hul]; omega), ?_⟩
          have B7 : But o H6 (upd H6 o (.lst (us.map V.ref ++ [.ref u]))) := but_upd
          have T7 := B7.tps fun xs z => by rw [eo6] at z; cases z
          refine ⟨us ++ [u], _, rfl, by rw [upd_same, List.map_append]; rfl, by rw [List.length_append, hul]; rfl, fun j u' q' h1 h2 => ?_, by rw [upd_ne obl.symm]; exact ebl6, But.same s06 B7 no⟩
          by_cases hj : j < i
          · rw [List.getElem?_append_left (by omega)] at h1 h2
            exact T7 _ _ (T16 _ _ (hus j u' q' h1 h2))
          · have hj2 : j = i := by
              have := (List.getElem?_eq_some_iff.mp h1).1
              rw [List.length_append, hul] at this
              have : j < i + 1 := this
              omega
            subst hj2
            rw [List.getElem?_append_right (by omega), hul, Nat.sub_self] at h1
            rw [List.getElem?_append_right (by omega), hol', Nat.sub_self] at h2
            cases h1
            have h2' : (pw.length + 1, if pw = [] then fn + 1 else fn) = q' := Option.some.inj h2
            rw [← h2']
            exact T7 _ _ eu6
    · rintro σ H1 ⟨us, v4, rfl, eo, hul, hus, ebl, s3⟩
      rw [List.length_map, hR.1] at hul hus
      rw [List.take_of_length_le (Nat.le_refl _)] at hus
      refine ⟨_, rfl, q H1 o ⟨us, eo, ?_, hus⟩ s3⟩
      rw [hul, foldl_outlen]
      show rs.length = 0 + rs.length
      omega
end
end K07

set_option Elab.async false
set_option linter.all false
set_option maxRecDepth 100000
set_option maxHeartbeats 4000000
/-! in_function, heads_of, put, all_bare. -/
namespace K07
open PySem PySem.Spec PyProof.Rows L2

/-- the numbers of the nodes in a function -/
def inF (out : List (Nat × Int)) (f : Int) (j : Nat) : Bool := match out[j]? with
  | some q => decide (q.2 = f)
  | none => false
def idx (out : List (Nat × Int)) (f : Int) (n : Nat) : List Nat := (List.range n).filter (inF out f)
theorem idx_succ (out : List (Nat × Int)) (f : Int) (n : Nat) : idx out f (n + 1) = if inF out f n = true then idx out f n ++ [n] else idx out f n := by
  unfold idx
  rw [List.range_succ, List.filter_append]
  by_cases h : inF out f n = true
  · rw [if_pos h, List.filter_cons, if_pos h]
    rfl
  · rw [if_neg h, List.filter_cons, if_neg h]
    exact List.append_nil _
theorem idx_len (out : List (Nat × Int)) (f : Int) (n : Nat) : (idx out f n).length ≤ n := by
  unfold idx
  have := List.length_filter_le (inF out f) (List.range n)
  rw [List.length_range] at this
  exact this

section
variable {P : Program} {w : World} {K : PySem.W.Frag} {mg : Str → Option Value} {base : Heap} {CL : Addr}

/-! ### in_function -/
def spInFun : Sp := fun vs H Q _ => ∃ (o : Addr) (out : List (Nat × Int)) (fn : Int), vs = [.ref o, .int fn] ∧ DepAt H o out ∧ out.length ≤ 90000 ∧
  ∀ H' q, H' q = some (.lst ((idx out fn out.length).map fun j : Nat => V.int (j : Int))) → Same H H' → Q (.ref q) H'
theorem scInFun : FnScope ["_law_depths_here", "_law_function", "_law_k"] ["_law_depths_here", "_law_function"] (defScope sInFun) := ⟨rfl, rfl, rfl, by decide +kernel, rfl, by decide +kernel, by decide +kernel⟩
theorem ok_inFun (D : Df K mg "_law_in_function" sInFun ["_law_depths_here", "_law_function"]) (T : Tx K mg CL) : Kp P w K mg base CX0 1 "_law_in_function" ["_law_depths_here", "_law_function"] spInFun := by
  obtain ⟨f, fd, F, b, g⟩ := D
  refine ⟨f, fd, ?_, b, g, F.kp⟩
  refine F.ok scInFun (fun vs H Q E h => ?_) (fun cdv A outer s H vs Q E hr h => ?_)
  · obtain ⟨o, out, fn, rfl, _⟩ := h
    rfl
  · obtain ⟨o, out, fn, rfl, hD, hlen, q⟩ := h
    refine ⟨_, pss_one (ps_ret (pe_lc (own := [("_law_k", 2)]) (g := gName 2) rfl scInFun.nd (pi_range1 (by rfl) T.zrange (pa_cons (pe_callB call_len_seq (by rfl) T.zlen PySem.boot_len (pa_cons (pv 0) pa_nil)) pa_nil))
        (blkOk_by (own := [("_law_k", 2)]) (N := ["_law_depths_here", "_law_function", "_law_k"]) (sc := defScope sInFun) (by decide +kernel))
        (fun _ _ _ _ _ => pg_name (i := 2) scInFun.nd rfl (Or.inl rfl))
        (fun _ _ _ _ _ => pts_one (pt_cmpR op_eq (pe_ix (r := rIxT K) ix_tup (pe_ix (r := rIxL K) ix_list (pv 0) (pv 2) (fun _ _ => rfl)) pe_int (fun _ _ => rfl)) (pv 1) (nomark _))) (fun _ _ _ _ _ => pv 2))), ?_⟩
    obtain ⟨us, h1, h2, h3⟩ := id hD
    refine ⟨_, rfl, o, _, rfl, .inl (SqL.of h1), _, rfl, by rw [List.length_map]; omega, by rw [List.length_map]; omega, fun D nD => ?_⟩
    rw [Int.toNat_natCast, List.length_map, h2]
    have sD : Same H (upd H D (.lst [])) := same_upd nD
    refine lc_range (lo := 0) (n := out.length) (fun i H' => H' D = some (.lst ((idx out fn i).map fun j : Nat => V.int (j : Int))) ∧ Same H H') ⟨upd_same, sD⟩ ?_ ?_
    · rintro i H1 hi ⟨eD, s1⟩
      have hiu : i < us.length := by omega
      obtain ⟨qi, hqi⟩ : ∃ q, out[i]? = some q := ⟨out[i], List.getElem?_eq_getElem hi⟩
      have hu := h3 i us[i] qi (List.getElem?_eq_getElem hiu) hqi
      have hin : inF out fn i = decide (qi.2 = fn) := by unfold inF; rw [hqi]
      refine ⟨rfl, _, rfl, _, rfl, o, _, _, .ref us[i], rfl, rfl, SqL.of (s1 _ _ h1), at_of (j := i) (by omega) (by rw [List.getElem?_map, List.getElem?_eq_getElem hiu]; rfl), us[i], _, 1, .int qi.2, rfl, rfl, SqT.of (s1 _ _ hu), rfl, _, rfl, rfl, _, rfl, ite2 (fun c => ?_) (fun c => ?_)⟩
      · have e := eqT c
        refine ⟨_, rfl, _, eD, line_lt (by have := idx_len out fn i; rw [List.length_map]; omega), ?_, fun b' x' e' => ?_⟩
        · rw [upd_same, idx_succ, hin, if_pos (decide_eq_true e), List.map_append]
          have ei : (0 : Int) + (i : Int) = (i : Int) := by omega
          rw [ei]
          rfl
        · rw [upd_ne (ne_of_none e' nD)]
          exact s1 _ _ e'
      · have e := eqF c
        refine ⟨?_, s1⟩
        rw [idx_succ, hin, if_neg (by rw [decide_eq_true_eq]; exact e)]
        exact eD
    · rintro H1 ⟨eD, s1⟩
      exact q H1 D eD s1

/-! ### heads_of -/
def spHeadsOf (K : PySem.W.Frag) : Sp := fun vs H Q _ => ∃ (a : Addr) (hs : List (Nat × Nat)) (ts : List Tree), vs = [.ref a] ∧ SqL K H a ((sheet hs ts).map V.int) ∧ hs.length ≤ 16 ∧ ∀ H' o, HeadsAt H' o hs → Same H H' → Q (.ref o) H'
theorem scHeadsOf : FnScope ["_law_sheet_here", "_law_k"] ["_law_sheet_here"] (defScope sHeadsOf) := ⟨rfl, rfl, rfl, by decide +kernel, rfl, by decide +kernel, by decide +kernel⟩
theorem sheet_get {hs : List (Nat × Nat)} {ts : List Tree} {i : Nat} {h : Nat × Nat} (e : hs[i]? = some h) : (sheet hs ts)[1 + 2 * i]? = some (h.1 : Int) ∧ (sheet hs ts)[2 + 2 * i]? = some (h.2 : Int) := by
  obtain ⟨g1, g2⟩ := encH_get hs i h e
  have hi := (List.getElem?_eq_some_iff.mp e).1
  have le : (encH hs).length = 2 * hs.length := encH_len hs
  constructor
  · show ((hs.length : Int) :: (encH hs ++ encs ts))[1 + 2 * i]? = _
    rw [show 1 + 2 * i = 2 * i + 1 by omega, List.getElem?_cons_succ, List.getElem?_append_left (by omega)]
    exact g1
  · show ((hs.length : Int) :: (encH hs ++ encs ts))[2 + 2 * i]? = _
    rw [show 2 + 2 * i = 2 * i + 1 + 1 by omega, List.getElem?_cons_succ, List.getElem?_append_left (by omega)]
    exact g2
theorem ok_headsOf (D : Df K mg "_law_heads_of" sHeadsOf ["_law_sheet_here"]) (T : Tx K mg CL) : Kp P w K mg base CX0 1 "_law_heads_of" ["_law_sheet_here"] (spHeadsOf K) := by
  obtain ⟨f, fd, F, b, g⟩ := D
  refine ⟨f, fd, ?_, b, g, F.kp⟩
  refine F.ok scHeadsOf (fun vs H Q E h => ?_) (fun cdv A outer s H vs Q E hr h => ?_)
  · obtain ⟨a, hs, ts, rfl, _⟩ := h
    rfl
  · obtain ⟨a, hs, ts, rfl, hS, h16, q⟩ := h
    refine ⟨_, pss_one (ps_ret (pe_lc (own := [("_law_k", 1)]) (g := gName 1) (tt := tYes) rfl scHeadsOf.nd (pi_range1 (by rfl) T.zrange (pa_cons (pe_ix ix_list (pv 0) pe_int (fun _ _ => rfl)) pa_nil))
        (blkOk_by (own := [("_law_k", 1)]) (N := ["_law_sheet_here", "_law_k"]) (sc := defScope sHeadsOf) (by decide +kernel))
        (fun _ _ _ _ _ => pg_name (i := 1) scHeadsOf.nd rfl (Or.inl rfl)) (fun _ _ _ _ _ => pts_nil)
        (fun _ _ _ _ _ => pe_tup (pa_cons (pe_ix (r := rIxL K) ix_list (pv 0) (pe_op op_add pe_int (pe_op op_mul pe_int (pv 1))) (fun _ _ => rfl)) (pa_cons (pe_ix (r := rIxL K) ix_list (pv 0) (pe_op op_add pe_int (pe_op op_mul pe_int (pv 1))) (fun _ _ => rfl)) pa_nil))))), ?_⟩
    refine ⟨_, rfl, a, _, 0, .int (hs.length : Int), rfl, rfl, hS, at_of (j := 0) rfl rfl, _, rfl, by omega, by omega, fun D nD => ?_⟩
    rw [Int.toNat_natCast]
    have sD : Same H (upd H D (.lst [])) := same_upd nD
    refine lc_range (lo := 0) (n := hs.length) (fun i H' => ∃ xs : List Addr, H' D = some (.lst (xs.map V.ref)) ∧ xs.length = i ∧ (∀ (j : Nat) (t : Addr) (h : Nat × Nat), xs[j]? = some t → hs[j]? = some h → H' t = some (.tup [.int (h.1 : Int), .int (h.2 : Int)])) ∧ Same H H')
      ⟨[], upd_same, rfl, fun j t h e => (by simp at e), sD⟩ ?_ ?_
    · rintro i H1 hi ⟨xs, eD, hl, hx, s1⟩
      obtain ⟨h, hh⟩ : ∃ h, hs[i]? = some h := ⟨hs[i], List.getElem?_eq_getElem hi⟩
      obtain ⟨g1, g2⟩ := sheet_get (ts := ts) hh
      have S1 : SqL K H1 a ((sheet hs ts).map V.int) := s1.seq hS
      refine ⟨rfl, _, rfl, _, rfl, _, _, rfl, rfl, .inl ⟨by decide, by decide⟩, _, _, rfl, rfl, a, _, _, .int (h.1 : Int), rfl, rfl, S1, at_of (j := 1 + 2 * i) (by omega) (by rw [List.getElem?_map, g1]; rfl),
        _, rfl, _, rfl, _, _, rfl, rfl, .inl ⟨by decide, by decide⟩, _, _, rfl, rfl, a, _, _, .int (h.2 : Int), rfl, rfl, S1, at_of (j := 2 + 2 * i) (by omega) (by rw [List.getElem?_map, g2]; rfl), two_line, fun t nt => ?_⟩
      have s2 : Same H1 (upd H1 t (.tup [.int (h.1 : Int), .int (h.2 : Int)])) := same_upd nt
      have T3 : Tps (upd H1 t (.tup [.int (h.1 : Int), .int (h.2 : Int)])) (upd (upd H1 t (.tup [.int (h.1 : Int), .int (h.2 : Int)])) D (.lst (xs.map V.ref ++ [.ref t]))) := fun b' xs' e' => by
        rw [upd_ne (ne_of e' (s2 _ _ eD) (by intro z; cases z))]
        exact e'
      refine ⟨_, s2 _ _ eD, line_lt (by rw [List.length_map, hl]; omega), xs ++ [t], by rw [upd_same, List.map_append]; rfl, by rw [List.length_append, hl]; rfl, fun j t' h' e1 e2 => ?_, fun b' x' e' => ?_⟩
      · by_cases hj : j < i
        · rw [List.getElem?_append_left (by omega)] at e1
          exact T3 _ _ (s2 _ _ (hx j t' h' e1 e2))
        · have hj2 : j = i := by
            have := (List.getElem?_eq_some_iff.mp e1).1
            rw [List.length_append, hl] at this
            have : j < i + 1 := this
            omega
          subst hj2
          rw [List.getElem?_append_right (by omega), hl, Nat.sub_self] at e1
          cases e1
          rw [hh] at e2
          cases e2
          exact T3 _ _ upd_same
      · rw [upd_ne (ne_of_none e' nD)]
        exact s2 _ _ (s1 _ _ e')
    · rintro H1 ⟨xs, eD, hl, hx, s1⟩
      exact q H1 D ⟨xs, eD, hl, hx⟩ s1

/-! ### put -/
def spPut (K : PySem.W.Frag) : Sp := fun vs H Q _ => ∃ (a c b : Addr) (ns ms : List Int) (t : Tree) (p : Nat), vs = [.ref a, .ref c, .ref b] ∧ SqL K H a (ns.map V.int) ∧ NodeAt H t p c ∧ H b = some (.lst (ms.map V.int)) ∧ t.enc.length ≤ 20000 ∧ ns.length ≤ 20000 ∧ ms.length ≤ 20000 ∧
  ∀ H' o, H' o = some (.lst ((ns.take p ++ ms ++ ns.drop (p + t.enc.length)).map V.int)) → Same H H' → Q (.ref o) H'
theorem scPut : FnScope ["_law_sheet_here", "_law_node_here", "_law_numbers", "_law_behind"] ["_law_sheet_here", "_law_node_here", "_law_numbers"] (defScope sPut) := ⟨rfl, rfl, rfl, by decide +kernel, rfl, by decide +kernel, by decide +kernel⟩
theorem ok_put (D : Df K mg "_law_put" sPut ["_law_sheet_here", "_law_node_here", "_law_numbers"]) (M : Kp P w K mg base CX0 1 "_law_many" ["_law_node_here"] spMany) : Kp P w K mg base CX0 2 "_law_put" ["_law_sheet_here", "_law_node_here", "_law_numbers"] (spPut K) := by
  obtain ⟨f, fd, F, b, g⟩ := D
  obtain ⟨fM, fdM, GM, bM, mM, kM⟩ := M
  refine ⟨f, fd, ?_, b, g, F.kp⟩
  refine F.ok scPut (fun vs H Q E h => ?_) (fun cdv A outer s H vs Q E hr h => ?_)
  · obtain ⟨a, c, b, ns, ms, t, p, rfl, _⟩ := h
    rfl
  · obtain ⟨a, c, b, ns, ms, t, p, rfl, hS, hN, hB, z1, z2, z3, q⟩ := h
    refine ⟨_, pss_cons (ps_set (i := 3) scPut.nd rfl (.inl rfl) (pe_op op_add (pe_ix ix_tup (pv 1) pe_int (fun _ _ => rfl)) (pe_call GM hr (by rfl) mM kM bM .nil pass0 (pa_cons (pv 1) pa_nil))))
      (pss_one (ps_ret (pe_op op_cat (pe_op op_cat (pe_slice sl_list (pv 0) po_none (po_some (pe_ix ix_tup (pv 1) pe_int (fun _ _ => rfl)))) (pv 2)) (pe_slice sl_list (pv 0) (po_some (pv 3)) po_none)))), ?_⟩
    obtain ⟨an, ap, bs, n1, n2, n3, n4⟩ := hN.tup
    refine ⟨_, rfl, c, _, 1, .int (p : Int), rfl, rfl, SqT.of n1, rfl, _, rfl, c, t, p, rfl, hN, by omega, fun H1 s1 => ⟨_, _, rfl, rfl, ?_⟩⟩
    refine ⟨_, rfl, _, rfl, c, _, 1, .int (p : Int), rfl, rfl, SqT.of (s1 _ _ n1), rfl, _, rfl, a, _, rfl, s1.seq hS, fun l1 nl1 => ?_⟩
    rw [cut_to]
    have s2 : Same H1 (upd H1 l1 (.lst ((ns.map V.int).take p))) := same_upd nl1
    refine ⟨_, rfl, l1, b, _, _, rfl, rfl, upd_same, s2 _ _ (s1 _ _ hB), line_of (by rw [List.length_map, List.length_take, List.length_map]; omega), fun l2 nl2 => ?_⟩
    have s3 : Same (upd H1 l1 (.lst ((ns.map V.int).take p))) (upd (upd H1 l1 (.lst ((ns.map V.int).take p))) l2 (.lst ((ns.map V.int).take p ++ ms.map V.int))) := same_upd nl2
    have s13 := s1.trans (s2.trans s3)
    refine ⟨_, rfl, _, rfl, _, rfl, a, _, rfl, s13.seq hS, fun l3 nl3 => ?_⟩
    have ec : cutV (ns.map V.int) (some ((p : Int) + ((t.enc.length : Nat) : Int))) none = (ns.map V.int).drop (p + t.enc.length) := cut_from _ (p + t.enc.length)
    have s4 : Same (upd (upd H1 l1 (.lst ((ns.map V.int).take p))) l2 (.lst ((ns.map V.int).take p ++ ms.map V.int))) (upd (upd (upd H1 l1 (.lst ((ns.map V.int).take p))) l2 (.lst ((ns.map V.int).take p ++ ms.map V.int))) l3 (.lst (cutV (ns.map V.int) (some ((p : Int) + ((t.enc.length : Nat) : Int))) none))) := same_upd nl3
    refine ⟨l2, l3, _, _, rfl, rfl, s4 _ _ upd_same, upd_same, line_of (by rw [ec, List.length_append, List.length_map, List.length_take, List.length_map, List.length_drop, List.length_map]; omega), fun l4 nl4 => ?_⟩
    refine q _ l4 ?_ (s13.trans (s4.trans (same_upd nl4)))
    rw [upd_same, List.map_append, List.map_append, List.map_take, List.map_drop]
    rw [← ec]

/-! ### all_bare -/
def spBare (K : PySem.W.Frag) : Sp := fun vs H Q _ => ∃ (l : Addr) (as : List Addr) (rs : List Rec), vs = [.ref l] ∧ SqL K H l (as.map V.ref) ∧ RecsAt H rs as ∧ rs.length ≤ 90000 ∧ ∀ H' o, BareAt H' o (rs.map Rec.bare) → Same H H' → Q (.ref o) H'
theorem scBare : FnScope ["_law_some", "_law_one"] ["_law_some"] (defScope sBare) := ⟨rfl, rfl, rfl, by decide +kernel, rfl, by decide +kernel, by decide +kernel⟩
theorem ok_bare (D : Df K mg "_law_all_bare" sBare ["_law_some"]) : Kp P w K mg base CX0 1 "_law_all_bare" ["_law_some"] (spBare K) := by
  obtain ⟨f, fd, F, b, g⟩ := D
  refine ⟨f, fd, ?_, b, g, F.kp⟩
  refine F.ok scBare (fun vs H Q E h => ?_) (fun cdv A outer s H vs Q E hr h => ?_)
  · obtain ⟨l, as, rs, rfl, _⟩ := h
    rfl
  · obtain ⟨l, as, rs, rfl, hS, hR, hlen, q⟩ := h
    refine ⟨_, pss_one (ps_ret (pe_lc (own := [("_law_one", 1)]) (g := gName 1) (tt := tYes) rfl scBare.nd (pi_list (pv 0))
        (blkOk_by (own := [("_law_one", 1)]) (N := ["_law_some", "_law_one"]) (sc := defScope sBare) (by decide +kernel))
        (fun _ _ _ _ _ => pg_name (i := 1) scBare.nd rfl (Or.inl rfl)) (fun _ _ _ _ _ => pts_nil)
        (fun _ _ _ _ _ => pe_tup (pa_cons (pe_ix (r := rIxT K) ix_tup (pv 1) pe_int (fun _ _ => rfl)) (pa_cons (pe_ix (r := rIxT K) ix_tup (pv 1) pe_int (fun _ _ => rfl)) pa_nil))))), ?_⟩
    refine ⟨_, rfl, l, rfl, ⟨_, hS⟩, fun D nD => ?_⟩
    have sD : Same H (upd H D (.lst [])) := same_upd nD
    refine lc_list (K := K) (a := l) (xs := as.map V.ref) (fun i H' => ∃ xs : List Addr, H' D = some (.lst (xs.map V.ref)) ∧ xs.length = i ∧ (∀ (j : Nat) (u : Addr) (r : Rec), xs[j]? = some u → rs[j]? = some r → ∃ an, H' u = some (.tup [.int r.t.head.1, .ref an]) ∧ H' an = some (.tup (r.t.head.2.map V.int))) ∧ Same H H')
      ⟨[], upd_same, rfl, fun j t h e => (by simp at e), sD⟩ (fun i H' _ ⟨_, _, _, _, s⟩ => s.seq hS) ?_ ?_
    · rintro i y H1 hi ⟨xs, eD, hl, hx, s1⟩
      obtain ⟨c, hc, rfl⟩ := map_at hi
      obtain ⟨r, hr0, hN⟩ := hR.get' hc
      have hil : i < rs.length := (List.getElem?_eq_some_iff.mp hr0).1
      obtain ⟨an, ap, bs, n1, n2, n3, n4⟩ := (nodeAt_tps (same_tps s1) hN).tup
      refine ⟨rfl, _, rfl, c, _, 0, .int r.t.head.1, rfl, rfl, SqT.of n1, rfl, _, rfl, c, _, 2, .ref an, rfl, rfl, SqT.of n1, rfl, two_line, fun t nt => ?_⟩
      have s2 : Same H1 (upd H1 t (.tup [.int r.t.head.1, .ref an])) := same_upd nt
      have T3 : Tps (upd H1 t (.tup [.int r.t.head.1, .ref an])) (upd (upd H1 t (.tup [.int r.t.head.1, .ref an])) D (.lst (xs.map V.ref ++ [.ref t]))) := fun b' xs' e' => by
        rw [upd_ne (ne_of e' (s2 _ _ eD) (by intro z; cases z))]
        exact e'
      refine ⟨_, s2 _ _ eD, line_lt (by rw [List.length_map, hl]; omega), xs ++ [t], by rw [upd_same, List.map_append]; rfl, by rw [List.length_append, hl]; rfl, fun j u r' e1 e2 => ?_, fun b' x' e' => ?_⟩
      · by_cases hj : j < i
        · rw [List.getElem?_append_left (by omega)] at e1
          obtain ⟨an', g1, g2⟩ := hx j u r' e1 e2
          exact ⟨an', T3 _ _ (s2 _ _ g1), T3 _ _ (s2 _ _ g2)⟩
        · have hj2 : j = i := by
            have := (List.getElem?_eq_some_iff.mp e1).1
            rw [List.length_append, hl] at this
            have : j < i + 1 := this
            omega
          subst hj2
          rw [List.getElem?_append_right (by omega), hl, Nat.sub_self] at e1
          cases e1
          rw [hr0] at e2
          cases e2
          exact ⟨an, T3 _ _ upd_same, T3 _ _ (s2 _ _ n2)⟩
      · rw [upd_ne (ne_of_none e' nD)]
        exact s2 _ _ (s1 _ _ e')
    · rintro H1 ⟨xs, eD, hl, hx, s1⟩
      rw [List.length_map, hR.1] at hl
      refine q H1 D ⟨xs, eD, by rw [hl, List.length_map], fun i u q' e1 e2 => ?_⟩ s1
      rw [List.getElem?_map] at e2
      cases e3 : rs[i]? with
      | none => rw [e3] at e2; cases e2
      | some r =>
        rw [e3] at e2
        have e4 : r.bare = q' := Option.some.inj e2
        rw [← e4]
        exact hx i u r e1 e3
end
end K07

set_option Elab.async false
set_option linter.all false
set_option maxRecDepth 100000
set_option maxHeartbeats 8000000
/-! exchanged. -/
namespace K07
open PySem PySem.Spec PyProof.Rows L2

abbrev sExch : Stmt := topS 47

/-! ### data that are compared -/
def intsD (ns : List Int) : List PyData := ns.map PyData.int
def bareD (bs : List (Int × List Int)) : List PyData := bs.map fun b => .tuple [.int b.1, .tuple (intsD b.2)]
theorem lay_ints : ∀ ns : List Int, PyData.canLayAll0 (intsD ns) = true
  | [] => by simp [intsD, PyData.canLayAll0]
  | n :: r => by
    have h := lay_ints r
    have e : intsD (n :: r) = .int n :: intsD r := rfl
    rw [e, PyData.canLayAll0, PyData.canLay0, h]
    rfl
theorem deep_ints : ∀ ns : List Int, PyData.depthAll (intsD ns) = 0
  | [] => by simp [intsD, PyData.depthAll]
  | n :: r => by
    have h := deep_ints r
    have e : intsD (n :: r) = .int n :: intsD r := rfl
    rw [e, PyData.depthAll, PyData.depth, h]
    rfl
theorem lay_bare : ∀ bs : List (Int × List Int), PyData.canLayAll0 (bareD bs) = true
  | [] => by simp [bareD, PyData.canLayAll0]
  | b :: r => by
    have h := lay_bare r
    have e : bareD (b :: r) = .tuple [.int b.1, .tuple (intsD b.2)] :: bareD r := rfl
    rw [e, PyData.canLayAll0, h]
    simp [PyData.canLay0, PyData.canLayAll0, lay_ints]
theorem deep_bare : ∀ bs : List (Int × List Int), PyData.depthAll (bareD bs) ≤ 2
  | [] => by simp [bareD, PyData.depthAll]
  | b :: r => by
    have h := deep_bare r
    have e : bareD (b :: r) = .tuple [.int b.1, .tuple (intsD b.2)] :: bareD r := rfl
    rw [e, PyData.depthAll]
    have e2 : PyData.depth (.tuple [.int b.1, .tuple (intsD b.2)]) = 2 := by simp [PyData.depth, PyData.depthAll, deep_ints]
    omega
theorem shaped_ints (ns : List Int) : SeqAt.shaped (.list (intsD ns)) = true := by
  unfold SeqAt.shaped
  rw [PyData.canLay0, lay_ints, PyData.depth, deep_ints]
  rfl
theorem shaped_bare (bs : List (Int × List Int)) : SeqAt.shaped (.list (bareD bs)) = true := by
  unfold SeqAt.shaped
  have h := deep_bare bs
  rw [PyData.canLay0, lay_bare, PyData.depth, Bool.true_and]
  exact decide_eq_true (by omega)
theorem dp_ints {K : PySem.W.Frag} {H : Hp} : ∀ ns : List Int, DpAll K H (ns.map V.int) (intsD ns)
  | [] => .nil
  | n :: r => .cons (.int n) (dp_ints r)
theorem dp_bare {K : PySem.W.Frag} {H : Hp} : ∀ (bs : List (Int × List Int)) (us : List Addr), us.length = bs.length → (∀ (i : Nat) (u : Addr) (q : Int × List Int), us[i]? = some u → bs[i]? = some q → ∃ an, H u = some (.tup [.int q.1, .ref an]) ∧ H an = some (.tup (q.2.map V.int))) → DpAll K H (us.map V.ref) (bareD bs)
  | [], [], _, _ => .nil
  | b :: r, u :: us, e, h => by
    obtain ⟨an, h1, h2⟩ := h 0 u b rfl rfl
    exact .cons (.tup (SqT.of h1) (.cons (.int b.1) (.cons (.tup (SqT.of h2) (dp_ints b.2)) .nil))) (dp_bare r us (by simpa using e) fun i u' q e1 e2 => h (i + 1) u' q (by simpa using e1) (by simpa using e2))
  | [], _ :: _, e, _ => by simp at e
  | _ :: _, [], e, _ => by simp at e
theorem BareAt.dp {K : PySem.W.Frag} {H : Hp} {o : Addr} {bs : List (Int × List Int)} (h : BareAt H o bs) : Dp K H (.ref o) (.list (bareD bs)) := by
  obtain ⟨us, h1, h2, h3⟩ := h
  exact .lst (SqL.of h1) (dp_bare bs us h2 h3)
theorem same_bare (bs : List (Int × List Int)) : PyData.eqv (.list (bareD bs)) (.list (bareD bs)) = true := SeqAt.eqv_refl _ (SeqAt.canLay_of_shaped (shaped_bare bs))
theorem same_ints (ns : List Int) : PyData.eqv (.list (intsD ns)) (.list (intsD ns)) = true := SeqAt.eqv_refl _ (SeqAt.canLay_of_shaped (shaped_ints ns))

theorem RecsAt.take {H : Hp} {rs : List Rec} {as : List Addr} (h : RecsAt H rs as) (n : Nat) : RecsAt H (rs.take n) (as.take n) := ⟨by rw [List.length_take, List.length_take, h.1], fun i r a e1 e2 => by
  rw [List.getElem?_take] at e1 e2
  split at e1
  · rename_i hi
    rw [if_pos hi] at e2
    exact h.2 i r a e1 e2
  · cases e1⟩
theorem RecsAt.drop {H : Hp} {rs : List Rec} {as : List Addr} (h : RecsAt H rs as) (n : Nat) : RecsAt H (rs.drop n) (as.drop n) := ⟨by rw [List.length_drop, List.length_drop, h.1], fun i r a e1 e2 => by
  rw [List.getElem?_drop] at e1 e2
  exact h.2 _ r a e1 e2⟩
theorem enc_big (ts : List Tree) (r : Rec) (f p i : Nat) (h : (preB ts f p)[i]? = some r) : r.t.enc.length ≤ (encs ts).length := by
  obtain ⟨h1, h2, _⟩ := preB_within ts f p r (List.mem_of_getElem? h)
  omega

section
variable {P : Program} {w : World} {K : PySem.W.Frag} {mg : Str → Option Value} {base : Heap} {CL : Addr}

def spExch (K : PySem.W.Frag) : Sp := fun vs H Q _ => ∃ (sa l nb : Addr) (hs : List (Nat × Nat)) (ts : List Tree) (as : List Addr) (i : Nat) (r : Rec) (t' : Tree), vs = [.ref sa, .ref l, .int (i : Int), .ref nb, .int ((t'.dep : Nat) : Int)] ∧
  H sa = some (.lst ((sheet hs ts).map V.int)) ∧ H l = some (.lst (as.map V.ref)) ∧ RecsAt H (preB ts 0 (1 + 2 * hs.length)) as ∧ HeadsOk hs ∧ wfB hs ts hs ∧ deps ts ≤ 10 ∧ (sheet hs ts).length ≤ 2000 ∧ (preB ts 0 (1 + 2 * hs.length))[i]? = some r ∧
  H nb = some (.lst (t'.enc.map V.int)) ∧ (∀ h, hs[r.f]? = some h → t'.wf hs h.2) ∧ t'.enc.length ≤ 3000 ∧ ∀ H', Same H H' → Q (.bl true) H'
theorem scExch : FnScope ["_law_sheet_here", "_law_some", "_law_at", "_law_numbers", "_law_deep", "_law_node_here", "_law_here", "_law_new", "_law_found", "_law_end", "_law_inner", "_law_told", "_law_left", "_law_later", "_law_before", "_law_one"] ["_law_sheet_here", "_law_some", "_law_at", "_law_numbers", "_law_deep"] (defScope sExch) := ⟨rfl, rfl, rfl, by decide +kernel, rfl, by decide +kernel, by decide +kernel⟩
theorem ok_exch (D : Df K mg "_law_exchanged" sExch ["_law_sheet_here", "_law_some", "_law_at", "_law_numbers", "_law_deep"]) (T : Tx K mg CL) (MD : Kp P w K mg base CX0 2 "_law_depths" ["_law_some"] spDepths) (MP : Kp P w K mg base CX0 2 "_law_put" ["_law_sheet_here", "_law_node_here", "_law_numbers"] (spPut K))
    (MW : Kp P w K mg base CX0 16 "wrong" ["numbers"] (spWrong K)) (MM : Kp P w K mg base CX0 1 "_law_many" ["_law_node_here"] spMany) (MN : Kp P w K mg base CX0 16 "nodes" ["sheet"] (spNodes K)) (MB : Kp P w K mg base CX0 1 "_law_all_bare" ["_law_some"] (spBare K)) :
    Kp P w K mg base CX0 17 "_law_exchanged" ["_law_sheet_here", "_law_some", "_law_at", "_law_numbers", "_law_deep"] (spExch K) := by
  obtain ⟨f, fd, F, b, g⟩ := D
  obtain ⟨fD, fdD, GD, bD, mD, kD⟩ := MD
  obtain ⟨fP, fdP, GP, bP, mP, kP⟩ := MP
  obtain ⟨fW, fdW, GW, bW, mW, kW⟩ := MW
  obtain ⟨fM, fdM, GM, bM, mM, kM⟩ := MM
  obtain ⟨fN, fdN, GN, bN, mN, kN⟩ := MN
  obtain ⟨fB, fdB, GB, bB, mB, kB⟩ := MB
  refine ⟨f, fd, ?_, b, g, F.kp⟩
  refine F.ok scExch (fun vs H Q E h => ?_) (fun cdv A outer s H vs Q E hr h => ?_)
  · obtain ⟨sa, l, nb, hs, ts, as, i, r, t', rfl, _⟩ := h
    rfl
  · obtain ⟨sa, l, nb, hs, ts, as, i, r, t', rfl, hsa, hl, hR, ho, hw, hd, hz, hri, hnb, hwt, hz', q⟩ := h
    have hr2 : Room 2 _ := hr.mono (by decide)
    have hr1 : Room 1 _ := hr.mono (by decide)
    refine ⟨_, pss_cons (ps_set (i := 5) scExch.nd rfl (.inr rfl) (pe_ix ix_list (pv 1) (pv 2) (fun _ _ => rfl)))
      (pss_cons (ps_set (i := 6) scExch.nd rfl (.inl rfl) (pe_ix ix_tup (pe_ix ix_list (pe_call GD hr2 (by rfl) mD kD bD .nil pass0 (pa_cons (pv 1) pa_nil)) (pv 2) (fun _ _ => rfl)) pe_int (fun _ _ => rfl)))
      (pss_cons (ps_set (i := 7) scExch.nd rfl (.inl rfl) (pe_call GP hr2 (by rfl) mP kP bP .nil pass0 (pa_cons (pv 0) (pa_cons (pv 5) (pa_cons (pv 3) pa_nil)))))
      (pss_cons (ps_set (i := 8) scExch.nd rfl (.inl rfl) (pe_call GW hr (by rfl) mW kW bW .nil pass0 (pa_cons (pv 7) pa_nil)))
      (pss_cons (ps_if (pt_cmpR op_gt (pe_op op_add (pe_op op_sub (pv 6) pe_int) (pv 4)) pe_int (nomark _))
        (pss_one (ps_ret (pe_and (pe_callB call_isi (by rfl) T.zisi (by decide +kernel) (pa_cons (pv 8) (pa_cons (pe_bltn (v := .ty "tuple") (by rfl) T.ztuple (by decide +kernel) rfl) pa_nil))) (pe_one (pe_cmpR op_eq (pe_ix ix_tup (pv 8) pe_int (fun _ _ => rfl)) pe_str (nomark _)))))) pss_nil)
      (pss_cons (ps_if (pt_cmpR op_notN (pv 8) pe_non (nomark _)) pss_never pss_nil)
      (pss_cons (ps_set (i := 9) scExch.nd rfl (.inr rfl) (pe_op op_add (pe_ix ix_tup (pv 5) pe_int (fun _ _ => rfl)) (pe_call GM hr1 (by rfl) mM kM bM .nil pass0 (pa_cons (pv 5) pa_nil))))
      (pss_cons (ps_set (i := 10) scExch.nd rfl (.inl rfl) (pe_callB call_len_seq (by rfl) T.zlen PySem.boot_len (pa_cons (pe_lc (own := [("_law_one", 15)]) (g := gName 15) rfl scExch.nd (pi_list (pv 1))
          (blkOk_by (own := [("_law_one", 15)]) (N := ["_law_sheet_here", "_law_some", "_law_at", "_law_numbers", "_law_deep", "_law_node_here", "_law_here", "_law_new", "_law_found", "_law_end", "_law_inner", "_law_told", "_law_left", "_law_later", "_law_before", "_law_one"]) (sc := defScope sExch) (by decide +kernel))
          (fun _ _ _ _ _ => pg_name (i := 15) scExch.nd rfl (Or.inl rfl))
          (fun _ _ _ _ _ => pts_one (pt_chain op_le op_lt (pe_ix (r := rIxT K) ix_tup (pv 5) pe_int (fun _ _ => rfl)) (pe_ix (r := rIxT K) ix_tup (pv 15) pe_int (fun _ _ => rfl)) (pv 9))) (fun _ _ _ _ _ => pv 15)) pa_nil)))
      (pss_cons (ps_set (i := 11) scExch.nd rfl (.inl rfl) (pe_call GN hr (by rfl) mN kN bN .nil pass0 (pa_cons (pv 7) pa_nil)))
      (pss_cons (ps_set (i := 12) scExch.nd rfl (.inl rfl) (pe_op op_sub (pe_op op_sub (pe_callB call_len_seq (by rfl) T.zlen PySem.boot_len (pa_cons (pv 1) pa_nil)) (pv 2)) (pv 10)))
      (pss_cons (ps_if (pt_cmpR (op_neD hr.units) (pe_call GB hr1 (by rfl) mB kB bB .nil pass0 (pa_cons (pe_slice sl_list (pv 11) po_none (po_some (pv 2))) pa_nil)) (pe_call GB hr1 (by rfl) mB kB bB .nil pass0 (pa_cons (pe_slice sl_list (pv 1) po_none (po_some (pv 2))) pa_nil)) (nomark _)) pss_never pss_nil)
      (pss_cons (ps_set (i := 13) scExch.nd rfl (.inl rfl) (pe_slice sl_list (pv 11) (po_some (pe_op op_sub (pe_callB call_len_seq (by rfl) T.zlen PySem.boot_len (pa_cons (pv 11) pa_nil)) (pv 12))) po_none))
      (pss_cons (ps_if (pt_cmpR (op_neD hr.units) (pe_call GB hr1 (by rfl) mB kB bB .nil pass0 (pa_cons (pv 13) pa_nil)) (pe_call GB hr1 (by rfl) mB kB bB .nil pass0 (pa_cons (pe_slice sl_list (pv 1) (po_some (pe_op op_add (pv 2) (pv 10))) po_none) pa_nil)) (nomark _)) pss_never pss_nil)
      (pss_cons (ps_set (i := 14) scExch.nd rfl (.inl rfl) (pe_slice sl_list (pv 0) (po_some (pe_ix ix_tup (pv 5) pe_int (fun _ _ => rfl))) (po_some (pe_op op_add (pe_ix ix_tup (pv 5) pe_int (fun _ _ => rfl)) (pe_call GM hr1 (by rfl) mM kM bM .nil pass0 (pa_cons (pv 5) pa_nil))))))
      (pss_one (ps_ret (pe_cmpR (op_eqD hr.units) (pe_call GP hr2 (by rfl) mP kP bP .nil pass0 (pa_cons (pv 7) (pa_cons (pe_ix ix_list (pv 11) (pv 2) (fun _ _ => rfl)) (pa_cons (pv 14) pa_nil)))) (pv 0) (nomark _))))))))))))))))), ?_⟩
    -- the facts
    obtain ⟨ts', X⟩ := exch hw hd hri hwt
    have hpl := preB_len ts 0 (1 + 2 * hs.length)
    have hce := cnt_le_enc ts
    have hsl := sheet_len hs ts
    obtain ⟨c, hc, hN⟩ := hR.get hri
    obtain ⟨an, ap, bs, n1, n2, n3, n4⟩ := hN.tup
    have hrz := enc_big ts r _ _ _ hri
    have hil : i < (preB ts 0 (1 + 2 * hs.length)).length := (List.getElem?_eq_some_iff.mp hri).1
    have atI_i : atI (as.map V.ref) (i : Int) = some (.ref c) := atI_nat (by rw [List.getElem?_map, hc]; rfl)
    -- node_here, here
    refine ⟨_, rfl, _, rfl, l, _, _, .ref c, rfl, rfl, SqL.of hl, atI_i, ?_⟩
    refine ⟨_, rfl, l, as, _, rfl, hl, hR, (fun q hq => ?_), by omega, fun H1 o hD s1 => ?_⟩
    · obtain ⟨j, hj⟩ := List.getElem?_of_mem hq
      have := enc_big ts q _ _ _ hj
      omega
    rw [mach_all] at hD
    obtain ⟨us, d1, d2, d3⟩ := hD
    rw [List.length_map] at d2
    have hiu : i < us.length := by omega
    have hui := d3 i us[i] (r.d, (r.f : Int)) (List.getElem?_eq_getElem hiu) (by rw [List.getElem?_map, hri]; rfl)
    refine ⟨_, rfl, o, _, _, .ref us[i], rfl, rfl, SqL.of d1, atI_nat (by rw [List.getElem?_map, List.getElem?_eq_getElem hiu]; rfl), us[i], _, 0, .int (r.d : Int), rfl, rfl, SqT.of hui, rfl, ?_⟩
    -- new
    refine ⟨_, rfl, _, rfl, _, rfl, sa, c, nb, sheet hs ts, t'.enc, r.t, r.pl, rfl, SqL.of (s1 _ _ hsa), nodeAt_tps (same_tps s1) hN, s1 _ _ hnb, by omega, by omega, by omega, fun H2 n hn s2 => ?_⟩
    rw [X.new] at hn
    have hX := X.size
    have s02 := s1.trans s2
    -- found = wrong(new)
    refine ⟨_, rfl, n, hs, ts', rfl, SqL.of hn, ho, X.wf, by omega, fun hle H3 s3 => ?_, fun hle H3 t z ht s3 => ?_⟩
    · -- it is a sheet
      have hnd : r.d + t'.dep ≤ 11 := X.deep.mp hle
      refine ⟨_, rfl, _, _, rfl, rfl, _, rfl, _, _, rfl, rfl, _, _, rfl, rfl, _, rfl, ?_⟩
      rw [decide_eq_false (show ¬ (10 : Int) < (r.d : Int) - 1 + ((t'.dep : Nat) : Int) by omega)]
      refine iteF ?_
      refine ⟨_, rfl, rfl, _, rfl, iteF ?_⟩
      have s03 := s02.trans s3
      have hN3 := nodeAt_tps (same_tps s03) hN
      have c3 : H3 c = some (.tup [.int r.t.head.1, .int (r.pl : Int), .ref an, .ref ap]) := s03 _ _ n1
      -- end
      refine ⟨_, rfl, c, _, 1, .int (r.pl : Int), rfl, rfl, SqT.of c3, rfl, _, rfl, c, r.t, r.pl, rfl, hN3, by omega, fun H4 s4 => ⟨_, _, rfl, rfl, ?_⟩⟩
      have s04 := s03.trans s4
      -- inner
      refine ⟨_, rfl, l, rfl, ⟨_, SqL.of (s04 _ _ hl)⟩, fun D nD => ?_⟩
      have sD : Same H4 (upd H4 D (.lst [])) := same_upd nD
      refine lc_list (K := K) (a := l) (xs := as.map V.ref) (fun j H' => ∃ xs : List V, H' D = some (.lst xs) ∧ xs.length = (((preB ts 0 (1 + 2 * hs.length)).take j).filter (inR r)).length ∧ Same H4 H')
        ⟨[], upd_same, rfl, sD⟩ (fun j H' _ ⟨_, _, _, s⟩ => SqL.of (s _ _ (s04 _ _ hl))) ?_ ?_
      · rintro j y H5 hj ⟨xs, eD, hxl, s5⟩
        obtain ⟨cj, hcj, rfl⟩ := map_at hj
        obtain ⟨rj, hrj, hNj⟩ := hR.get' hcj
        obtain ⟨anj, apj, bsj, m1, m2, m3, m4⟩ := hNj.tup
        have s05 := s04.trans s5
        have hjl : j < (preB ts 0 (1 + 2 * hs.length)).length := (List.getElem?_eq_some_iff.mp hrj).1
        have hstep : ((preB ts 0 (1 + 2 * hs.length)).take (j + 1)).filter (inR r) = ((preB ts 0 (1 + 2 * hs.length)).take j).filter (inR r) ++ [rj].filter (inR r) := by rw [take_succ_app hrj, List.filter_append]
        have hxb : xs.length ≤ j := by
          rw [hxl]
          have := List.length_filter_le (inR r) ((preB ts 0 (1 + 2 * hs.length)).take j)
          rw [List.length_take] at this
          omega
        have yes : inR r rj = true → ∃ acc, H5 D = some (.lst acc) ∧ acc.length < sizeLine ∧ ∃ xs : List V, (upd H5 D (.lst (acc ++ [.ref cj]))) D = some (.lst xs) ∧ xs.length = (((preB ts 0 (1 + 2 * hs.length)).take (j + 1)).filter (inR r)).length ∧ Same H4 (upd H5 D (.lst (acc ++ [.ref cj]))) := by
          intro hin
          refine ⟨xs, eD, line_lt (by omega), _, upd_same, ?_, fun b' x' e' => ?_⟩
          · rw [hstep, List.length_append, List.length_append, hxl, List.filter_cons, if_pos hin]
            rfl
          · rw [upd_ne (ne_of_none e' nD)]
            exact s5 _ _ e'
        have no : inR r rj = false → ∃ xs : List V, H5 D = some (.lst xs) ∧ xs.length = (((preB ts 0 (1 + 2 * hs.length)).take (j + 1)).filter (inR r)).length ∧ Same H4 H5 := by
          intro hin
          refine ⟨xs, eD, ?_, s5⟩
          rw [hstep, List.length_append, hxl, List.filter_cons, if_neg (by rw [hin]; exact Bool.false_ne_true)]
          rfl
        refine ⟨rfl, _, rfl, c, _, 1, .int (r.pl : Int), rfl, rfl, SqT.of (s05 _ _ n1), rfl, _, rfl, cj, _, 1, .int (rj.pl : Int), rfl, rfl, SqT.of (s05 _ _ m1), rfl, _, _, rfl, rfl, _, rfl, ?_⟩
        by_cases h1 : r.pl ≤ rj.pl
        · rw [decide_eq_true (show (r.pl : Int) ≤ (rj.pl : Int) by omega)]
          refine iteT ⟨_, rfl, _, _, rfl, rfl, _, rfl, ?_⟩
          by_cases h2 : rj.pl < r.pl + r.t.enc.length
          · rw [decide_eq_true (show (rj.pl : Int) < (r.pl : Int) + ((r.t.enc.length : Nat) : Int) by omega)]
            exact iteT ⟨_, rfl, yes (by unfold inR; rw [decide_eq_true h1, decide_eq_true h2]; rfl)⟩
          · rw [decide_eq_false (show ¬ (rj.pl : Int) < (r.pl : Int) + ((r.t.enc.length : Nat) : Int) by omega)]
            exact iteF (no (by unfold inR; rw [decide_eq_false h2, Bool.and_false]))
        · rw [decide_eq_false (show ¬ (r.pl : Int) ≤ (rj.pl : Int) by omega)]
          exact iteF ⟨_, rfl, iteF (no (by unfold inR; rw [decide_eq_false h1, Bool.false_and]))⟩
      · rintro H5 ⟨xs, eD, hxl, s5⟩
        rw [List.length_map, hR.1, List.take_of_length_le (Nat.le_refl _), X.inner] at hxl
        have s05 := s04.trans s5
        have s25 := (s3.trans s4).trans s5
        refine ⟨D, _, rfl, .inl (SqL.of eD), ?_⟩
        -- told = nodes(new)
        refine ⟨_, rfl, n, hs, ts', rfl, SqL.of (s25 _ _ hn), ho, X.wf, by omega, hle, fun H6 l2 as2 hl2 hR2 nl2 s6 => ?_⟩
        have s06 := s05.trans s6
        have hfit := X.fits
        have hlen := X.len
        have hasl := hR.1
        have has2 := hR2.1
        -- left
        refine ⟨_, rfl, l, _, rfl, .inl (SqL.of (s06 _ _ hl)), _, rfl, _, _, rfl, rfl, _, rfl, _, _, rfl, rfl, ?_⟩
        -- the nodes ahead
        have hR6 := hR.tps (same_tps s06)
        refine ⟨_, rfl, _, rfl, _, rfl, l2, _, rfl, SqL.of hl2, fun p1 np1 => ?_⟩
        rw [cut_to]
        have q1 : Same H6 (upd H6 p1 (.lst ((as2.map V.ref).take i))) := same_upd np1
        refine ⟨p1, as2.take i, (preB ts' 0 (1 + 2 * hs.length)).take i, rfl, SqL.of (by rw [upd_same, List.map_take]), (hR2.take i).tps (same_tps q1), by rw [List.length_take]; omega, fun H7 o1 hb1 s7 => ?_⟩
        have s67 := q1.trans s7
        refine ⟨_, rfl, _, rfl, _, rfl, l, _, rfl, SqL.of ((s06.trans s67) _ _ hl), fun p2 np2 => ?_⟩
        rw [cut_to]
        have q2 : Same H7 (upd H7 p2 (.lst ((as.map V.ref).take i))) := same_upd np2
        refine ⟨p2, as.take i, (preB ts 0 (1 + 2 * hs.length)).take i, rfl, SqL.of (by rw [upd_same, List.map_take]), (hR6.take i).tps (same_tps (s67.trans q2)), by rw [List.length_take]; omega, fun H8 o2 hb2 s8 => ?_⟩
        have s78 := q2.trans s8
        have s68 := s67.trans s78
        rw [X.ahead] at hb1
        refine ⟨_, _, (hb1.same s78).dp, hb2.dp, shaped_bare _, shaped_bare _, _, rfl, ?_⟩
        rw [same_bare]
        refine iteF ?_
        -- later
        refine ⟨_, rfl, _, rfl, l2, _, rfl, .inl (SqL.of (s68 _ _ hl2)), _, rfl, _, _, rfl, rfl, _, rfl, ?_⟩
        refine ⟨l2, _, rfl, SqL.of (s68 _ _ hl2), fun p3 np3 => ?_⟩
        have ecut : ((((as2.map V.ref).length : Nat) : Int) - ((((as.map V.ref).length : Nat) : Int) - (i : Int) - ((xs.length : Nat) : Int))) = ((i + t'.cnt : Nat) : Int) := by
          rw [List.length_map, List.length_map, has2, hasl, hxl]
          omega
        have ec3 : cutV (as2.map V.ref) (some ((((as2.map V.ref).length : Nat) : Int) - ((((as.map V.ref).length : Nat) : Int) - (i : Int) - ((xs.length : Nat) : Int)))) none = (as2.drop (i + t'.cnt)).map V.ref := by
          rw [ecut, cut_from, List.map_drop]
        have q3 : Same H8 (upd H8 p3 (.lst (cutV (as2.map V.ref) (some ((((as2.map V.ref).length : Nat) : Int) - ((((as.map V.ref).length : Nat) : Int) - (i : Int) - ((xs.length : Nat) : Int)))) none))) := same_upd np3
        refine ⟨_, rfl, p3, as2.drop (i + t'.cnt), (preB ts' 0 (1 + 2 * hs.length)).drop (i + t'.cnt), rfl, SqL.of (by rw [← ec3]; exact upd_same), (hR2.drop _).tps (same_tps (s68.trans q3)), by rw [List.length_drop]; omega, fun H9 o3 hb3 s9 => ?_⟩
        have s69 := (s68.trans q3).trans s9
        refine ⟨_, rfl, _, rfl, _, rfl, _, _, rfl, rfl, _, rfl, ?_⟩
        refine ⟨l, _, rfl, SqL.of ((s06.trans s69) _ _ hl), fun p4 np4 => ?_⟩
        have ecut4 : ((i : Int) + ((xs.length : Nat) : Int)) = ((i + r.t.cnt : Nat) : Int) := by
          rw [hxl]
          omega
        have ec4 : cutV (as.map V.ref) (some ((i : Int) + ((xs.length : Nat) : Int))) none = (as.drop (i + r.t.cnt)).map V.ref := by
          rw [ecut4, cut_from, List.map_drop]
        have q4 : Same H9 (upd H9 p4 (.lst (cutV (as.map V.ref) (some ((i : Int) + ((xs.length : Nat) : Int))) none))) := same_upd np4
        refine ⟨p4, as.drop (i + r.t.cnt), (preB ts 0 (1 + 2 * hs.length)).drop (i + r.t.cnt), rfl, SqL.of (by rw [← ec4]; exact upd_same), (hR6.drop _).tps (same_tps (s69.trans q4)), by rw [List.length_drop]; omega, fun H10 o4 hb4 s10 => ?_⟩
        have s910 := q4.trans s10
        have s610 := s69.trans s910
        rw [X.behind] at hb3
        refine ⟨_, _, (hb3.same s910).dp, hb4.dp, shaped_bare _, shaped_bare _, _, rfl, ?_⟩
        rw [same_bare]
        refine iteF ?_
        -- before
        have s010 := s06.trans s610
        have hN10 := nodeAt_tps (same_tps s010) hN
        refine ⟨_, rfl, _, rfl, c, _, 1, .int (r.pl : Int), rfl, rfl, SqT.of (s010 _ _ n1), rfl, _, rfl, _, rfl, c, _, 1, .int (r.pl : Int), rfl, rfl, SqT.of (s010 _ _ n1), rfl, _, rfl, c, r.t, r.pl, rfl, hN10, by omega, fun H11 s11 => ⟨_, _, rfl, rfl, _, rfl, ?_⟩⟩
        have s011 := s010.trans s11
        refine ⟨sa, _, rfl, SqL.of ((s1.trans s2).trans (s3.trans s4) |>.trans s5 |>.trans s6 |>.trans s610 |>.trans s11 |> fun z => z _ _ hsa), fun p5 np5 => ?_⟩
        have q5 : Same H11 (upd H11 p5 (.lst (cutV ((sheet hs ts).map V.int) (some (r.pl : Int)) (some ((r.pl : Int) + ((r.t.enc.length : Nat) : Int)))))) := same_upd np5
        have ec5 : cutV ((sheet hs ts).map V.int) (some (r.pl : Int)) (some ((r.pl : Int) + ((r.t.enc.length : Nat) : Int))) = r.t.enc.map V.int := by
          have e := congrArg (List.map V.int) X.own
          rw [List.map_take, List.map_drop] at e
          rw [show ((r.pl : Int) + ((r.t.enc.length : Nat) : Int)) = ((r.pl + r.t.enc.length : Nat) : Int) by omega, cut_mid, Nat.add_sub_cancel_left]
          exact e
        have s611 := s610.trans s11
        have sn : Same H2 (upd H11 p5 (.lst (cutV ((sheet hs ts).map V.int) (some (r.pl : Int)) (some ((r.pl : Int) + ((r.t.enc.length : Nat) : Int)))))) := ((s25.trans s6).trans s611).trans q5
        -- the sheet comes back
        obtain ⟨c2, hc2, hN2⟩ := hR2.get X.here
        have hN2' := nodeAt_tps (same_tps (s611.trans q5)) hN2
        refine ⟨_, rfl, _, rfl, _, rfl, l2, _, _, .ref c2, rfl, rfl, SqL.of ((s611.trans q5) _ _ hl2), atI_nat (by rw [List.getElem?_map, hc2]; rfl), _, rfl, n, c2, p5, sheet hs ts', r.t.enc, t', r.pl, rfl, SqL.of (sn _ _ hn), hN2', by rw [← ec5]; exact upd_same, by omega, by omega, by omega, fun H12 m hm s12 => ?_⟩
        rw [X.back] at hm
        have s012 := (s02.trans (sn.trans s12))
        refine ⟨_, rfl, _, _, .lst (SqL.of hm) (dp_ints _), .lst (SqL.of (s012 _ _ hsa)) (dp_ints _), shaped_ints _, shaped_ints _, ?_⟩
        rw [same_ints]
        exact q _ s012
    · -- it is too deep
      have hnd : ¬ r.d + t'.dep ≤ 11 := fun z => hle (X.deep.mpr z)
      refine ⟨_, rfl, _, _, rfl, rfl, _, rfl, _, _, rfl, rfl, _, _, rfl, rfl, _, rfl, ?_⟩
      rw [decide_eq_true (show (10 : Int) < (r.d : Int) - 1 + ((t'.dep : Nat) : Int) by omega)]
      refine iteT ?_
      refine ⟨_, rfl, .ref t, .ty "tuple", .type "tuple", .type "tuple", true, rfl, .ty _, .base (.tup ht), kit_ty (by decide +kernel), true, rfl, iteT ⟨_, rfl, t, _, 1, .str "deep", rfl, rfl, SqT.of ht, rfl, rfl, ?_⟩⟩
      rw [decide_eq_true rfl]
      exact q _ (s02.trans s3)
end
end K07

set_option Elab.async false
set_option linter.all false
set_option maxRecDepth 100000
set_option maxHeartbeats 8000000
/-! law. -/
namespace K07
open PySem PySem.Spec PyProof.Rows L2

abbrev sLaw : Stmt := topS 48

/-! ### what one turn rests on -/
theorem ints_ne {K : PySem.W.Frag} {H : Hp} {st x : Addr} {α : Type} {g : α → Int} {l : List α} (S : StateAt K H st) (h : H x = some (.lst (l.map fun j => V.int (g j)))) : x ≠ st := fun e => by
  obtain ⟨sa, ns, k, d, h1, _⟩ := S
  rw [e, h1] at h
  have h' : [V.ref sa, .int k, .int d] = l.map fun j => V.int (g j) := HO.lst.inj (Option.some.inj h)
  cases l with
  | nil => cases h'
  | cons z r =>
    have := (List.cons.inj h').1
    cases this
theorem refs_ne {K : PySem.W.Frag} {H : Hp} {st x : Addr} {us : List Addr} (S : StateAt K H st) (h : H x = some (.lst (us.map V.ref))) : x ≠ st := fun e => by
  obtain ⟨sa, ns, k, d, h1, _⟩ := S
  rw [e, h1] at h
  have h' : [V.ref sa, .int k, .int d] = us.map V.ref := HO.lst.inj (Option.some.inj h)
  cases us with
  | nil => cases h'
  | cons z r =>
    have h2 := (List.cons.inj h').2
    cases r with
    | nil => cases h2
    | cons z' r' =>
      have := (List.cons.inj h2).1
      cases this
theorem DepAt.but {K : PySem.W.Frag} {H H' : Hp} {o st : Addr} {out : List (Nat × Int)} (h : DepAt H o out) (S : StateAt K H st) (B : But st H H') : DepAt H' o out := by
  obtain ⟨us, h1, h2, h3⟩ := h
  exact ⟨us, B _ _ h1 (refs_ne S h1), h2, fun i u q e1 e2 => B.tps S.ntup _ _ (h3 i u q e1 e2)⟩
structure EnvL (K : PySem.W.Frag) (H : Hp) (st sh ot so os mi yo : Addr) (hs : List (Nat × Nat)) (ts us : List Tree) (as bs : List Addr) : Prop where
  S : StateAt K H st
  h1 : H sh = some (.lst ((sheet hs ts).map V.int))
  h2 : H ot = some (.lst ((sheet hs us).map V.int))
  h3 : H so = some (.lst (as.map V.ref))
  h4 : H os = some (.lst (bs.map V.ref))
  r1 : RecsAt H (preB ts 0 (1 + 2 * hs.length)) as
  r2 : RecsAt H (preB us 0 (1 + 2 * hs.length)) bs
  d1 : DepAt H mi ((preB ts 0 (1 + 2 * hs.length)).map fun r => (r.d, (r.f : Int)))
  d2 : DepAt H yo ((preB us 0 (1 + 2 * hs.length)).map fun r => (r.d, (r.f : Int)))
theorem EnvL.same {K : PySem.W.Frag} {H H' : Hp} {st sh ot so os mi yo : Addr} {hs : List (Nat × Nat)} {ts us : List Tree} {as bs : List Addr} (e : EnvL K H st sh ot so os mi yo hs ts us as bs) (s : Same H H') : EnvL K H' st sh ot so os mi yo hs ts us as bs :=
  ⟨e.S.same s, s _ _ e.h1, s _ _ e.h2, s _ _ e.h3, s _ _ e.h4, e.r1.tps (same_tps s), e.r2.tps (same_tps s), e.d1.same s, e.d2.same s⟩
theorem EnvL.but {K : PySem.W.Frag} {H H' : Hp} {st sh ot so os mi yo : Addr} {hs : List (Nat × Nat)} {ts us : List Tree} {as bs : List Addr} (e : EnvL K H st sh ot so os mi yo hs ts us as bs) (S' : StateAt K H' st) (B : But st H H') : EnvL K H' st sh ot so os mi yo hs ts us as bs :=
  ⟨S', B _ _ e.h1 (ints_ne e.S e.h1), B _ _ e.h2 (ints_ne e.S e.h2), B _ _ e.h3 (refs_ne e.S e.h3), B _ _ e.h4 (refs_ne e.S e.h4), e.r1.tps (B.tps e.S.ntup), e.r2.tps (B.tps e.S.ntup), e.d1.but e.S B, e.d2.but e.S B⟩
theorem cnt_one (t : Tree) : t.cnt ≤ t.enc.length := by
  have h := cnt_le_enc [t]
  rw [cnts_cons, cnts_nil, encs_cons, encs_nil, List.append_nil] at h
  exact h
theorem idx_mem {out : List (Nat × Int)} {fn : Int} {n j : Nat} (h : j ∈ idx out fn n) : ∃ q, out[j]? = some q ∧ q.2 = fn := by
  unfold idx at h
  have h2 := (List.mem_filter.mp h).2
  unfold inF at h2
  cases e : out[j]? with
  | none => rw [e] at h2; cases h2
  | some q =>
    rw [e] at h2
    exact ⟨q, rfl, of_decide_eq_true h2⟩
theorem mem_idx {out : List (Nat × Int)} {fn : Int} {j : Nat} {q : Nat × Int} (h : out[j]? = some q) (e : q.2 = fn) : j ∈ idx out fn out.length := by
  unfold idx
  refine List.mem_filter.mpr ⟨List.mem_range.mpr (List.getElem?_eq_some_iff.mp h).1, ?_⟩
  unfold inF
  rw [h]
  exact decide_eq_true e
/-- the cut of a node's numbers -/
theorem cut_own {ns : List Int} {pl n : Nat} {own : List Int} (h : (ns.drop pl).take n = own) : cutV (ns.map V.int) (some (pl : Int)) (some ((pl : Int) + ((n : Nat) : Int))) = own.map V.int := by
  have e := congrArg (List.map V.int) h
  rw [List.map_take, List.map_drop] at e
  rw [show ((pl : Int) + ((n : Nat) : Int)) = ((pl + n : Nat) : Int) by omega, cut_mid, Nat.add_sub_cancel_left]
  exact e

section
variable {P : Program} {w : World} {K : PySem.W.Frag} {mg : Str → Option Value} {base : Heap} {CL : Addr}

def spLaw (K : PySem.W.Frag) : Sp := fun vs H Q _ => ∃ (a : Addr) (ns : List Int), vs = [.ref a] ∧ Scr K H a ns ∧ ∀ H', Q (.bl true) H'
theorem scLaw : FnScope ["_law_script", "_law_state", "_law_sheet_here", "_law_heads_here", "_law_other", "_law_some", "_law_others", "_law_mine", "_law_yours", "_law_turn", "_law_at", "_law_fitting", "_law_node_here", "_law_numbers", "_law_own", "_law_deep"] ["_law_script"] (defScope sLaw) := ⟨rfl, rfl, rfl, by decide +kernel, rfl, by decide +kernel, by decide +kernel⟩
theorem ok_law {f : Addr} {fd : FuncData} (F : Fun K "law" "law" sLaw f fd) (T : Tx K mg CL) (MS : Kp P w K mg base CX0 15 "_law_sheet" ["_law_state", "_law_most"] (spSheet K)) (MH : Kp P w K mg base CX0 1 "_law_heads_of" ["_law_sheet_here"] (spHeadsOf K))
    (MO : Kp P w K mg base CX0 15 "_law_sheet_with" ["_law_state", "_law_heads_here", "_law_most"] (spSheetW K)) (MN : Kp P w K mg base CX0 16 "nodes" ["sheet"] (spNodes K)) (MD : Kp P w K mg base CX0 2 "_law_depths" ["_law_some"] spDepths)
    (MT : Kp P w K mg base CX0 2 "_law_take" ["_law_state", "_law_many_here"] (spTake K)) (MI : Kp P w K mg base CX0 1 "_law_in_function" ["_law_depths_here", "_law_function"] spInFun) (MM : Kp P w K mg base CX0 1 "_law_many" ["_law_node_here"] spMany)
    (MP : Kp P w K mg base CX0 1 "_law_depth" ["_law_node_here"] spDepth) (MX : Kp P w K mg base CX0 17 "_law_exchanged" ["_law_sheet_here", "_law_some", "_law_at", "_law_numbers", "_law_deep"] (spExch K)) (MW : Kp P w K mg base CX0 16 "wrong" ["numbers"] (spWrong K)) :
    FnOk P w K mg base CX0 18 f fd ["_law_script"] (spLaw K) := by
  obtain ⟨fS, fdS, GS, bS, mS, kS⟩ := MS
  obtain ⟨fH, fdH, GH, bH, mH, kH⟩ := MH
  obtain ⟨fO, fdO, GO, bO, mO, kO⟩ := MO
  obtain ⟨fN, fdN, GN, bN, mN, kN⟩ := MN
  obtain ⟨fD, fdD, GD, bD, mD, kD⟩ := MD
  obtain ⟨fT, fdT, GT, bT, mT, kT⟩ := MT
  obtain ⟨fI, fdI, GI, bI, mI, kI⟩ := MI
  obtain ⟨fM, fdM, GM, bM, mM, kM⟩ := MM
  obtain ⟨fP, fdP, GP, bP, mP, kP⟩ := MP
  obtain ⟨fX, fdX, GX, bX, mX, kX⟩ := MX
  obtain ⟨fW, fdW, GW, bW, mW, kW⟩ := MW
  refine F.ok scLaw (fun vs H Q E h => ?_) (fun cdv A outer s H vs Q E hr h => ?_)
  · obtain ⟨a, ns, rfl, _⟩ := h
    rfl
  · obtain ⟨a, ns, rfl, hS, q⟩ := h
    have hr16 : Room 16 _ := hr.mono (by decide)
    have hr15 : Room 15 _ := hr.mono (by decide)
    have hr2 : Room 2 _ := hr.mono (by decide)
    have hr1 : Room 1 _ := hr.mono (by decide)
    refine ⟨_, pss_cons (ps_set (i := 1) scLaw.nd rfl (.inl rfl) (pe_lst (pa_cons (pv 0) (pa_cons pe_int (pa_cons pe_int pa_nil)))))
      (pss_cons (ps_set (i := 2) scLaw.nd rfl (.inl rfl) (pe_call GS hr15 (by rfl) mS kS bS .nil pass0 (pa_cons (pv 1) (pa_cons pe_int pa_nil))))
      (pss_cons (ps_set (i := 3) scLaw.nd rfl (.inl rfl) (pe_call GH hr1 (by rfl) mH kH bH .nil pass0 (pa_cons (pv 2) pa_nil)))
      (pss_cons (ps_set (i := 4) scLaw.nd rfl (.inl rfl) (pe_call GO hr15 (by rfl) mO kO bO .nil pass0 (pa_cons (pv 1) (pa_cons (pv 3) (pa_cons pe_int pa_nil)))))
      (pss_cons (ps_set (i := 5) scLaw.nd rfl (.inl rfl) (pe_call GN hr16 (by rfl) mN kN bN .nil pass0 (pa_cons (pv 2) pa_nil)))
      (pss_cons (ps_set (i := 6) scLaw.nd rfl (.inl rfl) (pe_call GN hr16 (by rfl) mN kN bN .nil pass0 (pa_cons (pv 4) pa_nil)))
      (pss_cons (ps_set (i := 7) scLaw.nd rfl (.inl rfl) (pe_call GD hr2 (by rfl) mD kD bD .nil pass0 (pa_cons (pv 5) pa_nil)))
      (pss_cons (ps_set (i := 8) scLaw.nd rfl (.inl rfl) (pe_call GD hr2 (by rfl) mD kD bD .nil pass0 (pa_cons (pv 6) pa_nil)))
      (pss_cons (ps_for PassesOwn.never rfl (pi_range1 (by rfl) T.zrange (pa_cons pe_int pa_nil)) (pg_name (i := 9) scLaw.nd rfl (.inl rfl))
        (pss_cons (ps_set (i := 10) scLaw.nd rfl (.inl rfl) (pe_call GT hr2 (by rfl) mT kT bT .nil pass0 (pa_cons (pv 1) (pa_cons (pe_callB call_len_seq (by rfl) T.zlen PySem.boot_len (pa_cons (pv 5) pa_nil)) pa_nil))))
        (pss_cons (ps_set (i := 11) scLaw.nd rfl (.inl rfl) (pe_call GI hr1 (by rfl) mI kI bI .nil pass0 (pa_cons (pv 8) (pa_cons (pe_ix ix_tup (pe_ix ix_list (pv 7) (pv 10) (fun _ _ => rfl)) pe_int (fun _ _ => rfl)) pa_nil))))
        (pss_cons (ps_set (i := 12) scLaw.nd rfl (.inl rfl) (pe_ix ix_list (pv 6) (pe_ix ix_list (pv 11) (pe_call GT hr2 (by rfl) mT kT bT .nil pass0 (pa_cons (pv 1) (pa_cons (pe_callB call_len_seq (by rfl) T.zlen PySem.boot_len (pa_cons (pv 11) pa_nil)) pa_nil))) (fun _ _ => rfl)) (fun _ _ => rfl)))
        (pss_cons (ps_set (i := 13) scLaw.nd rfl (.inl rfl) (pe_slice sl_list (pv 4) (po_some (pe_ix ix_tup (pv 12) pe_int (fun _ _ => rfl))) (po_some (pe_op op_add (pe_ix ix_tup (pv 12) pe_int (fun _ _ => rfl)) (pe_call GM hr1 (by rfl) mM kM bM .nil pass0 (pa_cons (pv 12) pa_nil))))))
        (pss_cons (ps_if (pt_not (pt_val (pe_call GX hr (by rfl) mX kX bX .nil pass0 (pa_cons (pv 2) (pa_cons (pv 5) (pa_cons (pv 10) (pa_cons (pv 13) (pa_cons (pe_call GP hr1 (by rfl) mP kP bP .nil pass0 (pa_cons (pv 12) pa_nil)) pa_nil)))))))) pss_never pss_nil)
        (pss_cons (ps_set (i := 14) scLaw.nd rfl (.inl rfl) (pe_slice sl_list (pv 2) (po_some (pe_ix ix_tup (pe_ix ix_list (pv 5) (pv 10) (fun _ _ => rfl)) pe_int (fun _ _ => rfl))) (po_some (pe_op op_add (pe_ix ix_tup (pe_ix ix_list (pv 5) (pv 10) (fun _ _ => rfl)) pe_int (fun _ _ => rfl)) (pe_call GM hr1 (by rfl) mM kM bM .nil pass0 (pa_cons (pe_ix ix_list (pv 5) (pv 10) (fun _ _ => rfl)) pa_nil))))))
        (pss_cons (ps_set (i := 15) scLaw.nd rfl (.inl rfl) (pe_op op_add pe_int (pe_call GP hr1 (by rfl) mP kP bP .nil pass0 (pa_cons (pe_ix ix_list (pv 5) (pv 10) (fun _ _ => rfl)) pa_nil))))
        (pss_one (ps_if (pt_not (pt_val (pe_call GX hr (by rfl) mX kX bX .nil pass0 (pa_cons (pv 2) (pa_cons (pv 5) (pa_cons (pv 10) (pa_cons (pe_op op_cat (pe_lst (pa_cons pe_int (pa_cons pe_int pa_nil))) (pv 14)) (pa_cons (pv 15) pa_nil)))))))) pss_never pss_nil))))))))))
      (pss_one (ps_ret (pe_cmpR op_isN (pe_call GW hr16 (by rfl) mW kW bW .nil pass0 (pa_cons (pv 2) pa_nil)) pe_non (nomark _)))))))))))), ?_⟩
    -- the state, the sheets
    refine ⟨_, rfl, line_of (show 3 ≤ 100000 by decide), fun st nst => ?_⟩
    have s1 : Same H (upd H st (.lst [.ref a, .int 0, .int 0])) := same_upd nst
    have S1 : StateAt K (upd H st (.lst [.ref a, .int 0, .int 0])) st := ⟨a, ns, 0, 0, upd_same, Int.le_refl _, Int.le_refl _, hS.same s1⟩
    refine ⟨_, rfl, st, 14, rfl, by decide, by decide, S1, fun H2 sh hs ts ho hw hd hz hH2 S2 nsh B2 => ?_⟩
    refine ⟨_, rfl, sh, hs, ts, rfl, SqL.of hH2, ho.most, fun H3 ha hha s3 => ?_⟩
    have S3 := S2.same s3
    refine ⟨_, rfl, _, rfl, st, ha, hs, 9, rfl, by decide, by decide, S3, hha, ho, fun H4 ot us hwu hdu hzu hH4 S4 not B4 => ?_⟩
    have hsh4 := B4 _ _ (s3 _ _ hH2) (ints_ne S2 hH2)
    refine ⟨_, rfl, sh, hs, ts, rfl, SqL.of hsh4, ho, hw, by omega, hd, fun H5 so as hso hR nso s5 => ?_⟩
    refine ⟨_, rfl, ot, hs, us, rfl, SqL.of (s5 _ _ hH4), ho, hwu, by omega, hdu, fun H6 os bs hos hRu nos s6 => ?_⟩
    have hsl := sheet_len hs ts
    have hsl' := sheet_len hs us
    have hpl := preB_len ts 0 (1 + 2 * hs.length)
    have hpl' := preB_len us 0 (1 + 2 * hs.length)
    have hce := cnt_le_enc ts
    have hce' := cnt_le_enc us
    have hal := hR.1
    have hbl := hRu.1
    refine ⟨_, rfl, so, as, _, rfl, s6 _ _ hso, hR.tps (same_tps s6), (fun q hq => ?_), by omega, fun H7 mi hmi s7 => ?_⟩
    · obtain ⟨j, hj⟩ := List.getElem?_of_mem hq
      have := enc_big ts q _ _ _ hj
      omega
    refine ⟨_, rfl, os, bs, _, rfl, s7 _ _ hos, hRu.tps (same_tps s7), (fun q hq => ?_), by omega, fun H8 yo hyo s8 => ?_⟩
    · obtain ⟨j, hj⟩ := List.getElem?_of_mem hq
      have := enc_big us q _ _ _ hj
      omega
    rw [mach_all] at hmi hyo
    have s78 := s7.trans s8
    have s68 := s6.trans s78
    have s58 := s5.trans s68
    have E0 : EnvL K H8 st sh ot so os mi yo hs ts us as bs := ⟨S4.same s58, s58 _ _ hsh4, s58 _ _ hH4, s68 _ _ hso, s78 _ _ hos, hR.tps (same_tps s68), hRu.tps (same_tps s78), hmi.same s8, hyo⟩
    have htl := wfB_len hs ts hs hw
    have hul := wfB_len hs us hs hwu
    have h1 := ho.one
    have pos : 0 < as.length := by
      obtain ⟨j, r, hj, _⟩ := preB_fun ts 0 (1 + 2 * hs.length) 0 (Nat.le_refl _) (by omega)
      have := (List.getElem?_eq_some_iff.mp hj).1
      omega
    -- the turns
    refine ⟨_, rfl, by decide, by decide, for_range (lo := 0) (n := 10) (fun i σ H' => ∃ v9 v10 v11 v12 v13 v14 v15 : Option V, σ = [some (.ref a), some (.ref st), some (.ref sh), some (.ref ha), some (.ref ot), some (.ref so), some (.ref os), some (.ref mi), some (.ref yo), v9, v10, v11, v12, v13, v14, v15] ∧ EnvL K H' st sh ot so os mi yo hs ts us as bs)
      ⟨none, none, none, none, none, none, none, rfl, E0⟩ ?_ ?_⟩
    · rintro n σ Ha hn ⟨v9, v10, v11, v12, v13, v14, v15, rfl, Ea⟩
      -- at
      refine ⟨_, rfl, _, rfl, so, _, rfl, .inl (SqL.of Ea.h3), st, _, rfl, by rw [List.length_map]; omega, by rw [List.length_map]; omega, Ea.S, fun Hb rb rb0 rb1 Sb Bb => ?_⟩
      have Eb := Ea.but Sb Bb
      rw [List.length_map] at rb1
      obtain ⟨i, rfl⟩ : ∃ i : Nat, rb = (i : Int) := ⟨rb.toNat, (Int.toNat_of_nonneg rb0).symm⟩
      have hi : i < (preB ts 0 (1 + 2 * hs.length)).length := by omega
      obtain ⟨r, hri⟩ : ∃ r, (preB ts 0 (1 + 2 * hs.length))[i]? = some r := ⟨_, List.getElem?_eq_getElem hi⟩
      obtain ⟨ci, hci, _⟩ := hR.get hri
      have atci : atI (as.map V.ref) (i : Int) = some (.ref ci) := atI_nat (by rw [List.getElem?_map, hci]; rfl)
      obtain ⟨⟨h, hh, hwr⟩, hd1, hdr, hown, hroom⟩ := preB_at hw hri
      -- fitting
      obtain ⟨ms, d1, d2, d3⟩ := id Eb.d1
      rw [List.length_map] at d2
      obtain ⟨u, hu⟩ : ∃ u, ms[i]? = some u := ⟨_, List.getElem?_eq_getElem (show i < ms.length by omega)⟩
      have hut := d3 i u (r.d, (r.f : Int)) hu (by rw [List.getElem?_map, hri]; rfl)
      refine ⟨_, rfl, _, rfl, _, rfl, mi, _, _, .ref u, rfl, rfl, SqL.of d1, atI_nat (by rw [List.getElem?_map, hu]; rfl), u, _, 1, .int (r.f : Int), rfl, rfl, SqT.of hut, rfl, yo, _, _, rfl, Eb.d2, by rw [List.length_map]; omega, fun Hc fi hfi sc => ?_⟩
      have Ec := Eb.same sc
      -- node_here
      have hfn : r.f < us.length := by
        have := preB_within ts 0 (1 + 2 * hs.length) r (List.mem_of_getElem? hri)
        omega
      have ipos : 0 < (idx ((preB us 0 (1 + 2 * hs.length)).map fun r => (r.d, (r.f : Int))) (r.f : Int) ((preB us 0 (1 + 2 * hs.length)).map fun r => (r.d, (r.f : Int))).length).length := by
        obtain ⟨j, q, hj, hq⟩ := preB_fun us 0 (1 + 2 * hs.length) r.f (Nat.zero_le _) (by omega)
        refine List.length_pos_of_mem (mem_idx (j := j) (q := (q.d, (q.f : Int))) (by rw [List.getElem?_map, hj]; rfl) ?_)
        show (q.f : Int) = (r.f : Int)
        rw [hq]
      have ilen := idx_len ((preB us 0 (1 + 2 * hs.length)).map fun r => (r.d, (r.f : Int))) (r.f : Int) ((preB us 0 (1 + 2 * hs.length)).map fun r => (r.d, (r.f : Int))).length
      generalize hI : idx ((preB us 0 (1 + 2 * hs.length)).map fun r => (r.d, (r.f : Int))) (r.f : Int) ((preB us 0 (1 + 2 * hs.length)).map fun r => (r.d, (r.f : Int))).length = I at hfi ipos ilen
      rw [List.length_map] at ilen
      refine ⟨_, rfl, _, rfl, _, rfl, _, rfl, fi, _, rfl, .inl (SqL.of hfi), st, _, rfl, by rw [List.length_map]; omega, by rw [List.length_map]; omega, Ec.S, fun Hd rd rd0 rd1 Sd Bd => ?_⟩
      have Ed := Ec.but Sd Bd
      have hfi' := Bd _ _ hfi (ints_ne Ec.S hfi)
      rw [List.length_map] at rd1
      obtain ⟨k, rfl⟩ : ∃ k : Nat, rd = (k : Int) := ⟨rd.toNat, (Int.toNat_of_nonneg rd0).symm⟩
      obtain ⟨j, hj⟩ : ∃ j, I[k]? = some j := ⟨_, List.getElem?_eq_getElem (show k < I.length by omega)⟩
      have hjm : j ∈ I := List.mem_of_getElem? hj
      rw [← hI] at hjm
      obtain ⟨o, ho1, ho2⟩ := idx_mem hjm
      rw [List.getElem?_map] at ho1
      obtain ⟨r2, hr2j, rfl⟩ := Option.map_eq_some_iff.mp ho1
      have hf2 : r2.f = r.f := Int.ofNat.inj ho2
      obtain ⟨c, hc, hNc⟩ := Ed.r2.get hr2j
      obtain ⟨cn, cp, cs, c1, c2, c3, c4⟩ := hNc.tup
      obtain ⟨⟨h', hh', hwr2⟩, hd12, hdr2, hown2, hroom2⟩ := preB_at hwu hr2j
      have hrz := enc_big us r2 _ _ _ hr2j
      have hrz' := enc_big ts r _ _ _ hri
      have hrc := cnt_one r2.t
      have hrc' := cnt_one r.t
      refine ⟨fi, _, _, .int (j : Int), rfl, rfl, SqL.of hfi', atI_nat (by rw [List.getElem?_map, hj]; rfl), os, _, _, .ref c, rfl, rfl, SqL.of Ed.h4, atI_nat (by rw [List.getElem?_map, hc]; rfl), ?_⟩
      -- numbers
      refine ⟨_, rfl, _, rfl, c, _, 1, .int (r2.pl : Int), rfl, rfl, SqT.of c1, rfl, _, rfl, _, rfl, c, _, 1, .int (r2.pl : Int), rfl, rfl, SqT.of c1, rfl, _, rfl, c, r2.t, r2.pl, rfl, hNc, by omega, fun He se => ⟨_, _, rfl, rfl, _, rfl, ?_⟩⟩
      have Ee := Ed.same se
      refine ⟨ot, _, rfl, SqL.of Ee.h2, fun nb nnb => ?_⟩
      rw [cut_own hown2]
      have sf : Same He (upd He nb (.lst (r2.t.enc.map V.int))) := same_upd nnb
      have Ef := Ee.same sf
      -- exchanged
      have hNc' := nodeAt_tps (same_tps (se.trans sf)) hNc
      refine ⟨_, rfl, _, rfl, _, rfl, _, rfl, _, rfl, c, r2.t, r2.pl, rfl, hNc', by omega, fun Hg sg => ?_⟩
      have Eg := Ef.same sg
      refine ⟨sh, so, nb, hs, ts, as, i, r, r2.t, rfl, Eg.h1, Eg.h3, Eg.r1, ho, hw, hd, hz, hri, sg _ _ upd_same, (fun h2 e2 => by rw [hf2] at hh'; rw [hh'] at e2; cases e2; exact hwr2), by omega, fun Hh sh' => ⟨true, rfl, iteF ?_⟩⟩
      have Eh := Eg.same sh'
      obtain ⟨ci', hci', hNi⟩ := Eh.r1.get hri
      cases (Option.some.inj (hci.symm.trans hci'))
      obtain ⟨ian, iap, ias, i1, i2, i3, i4⟩ := hNi.tup
      -- own
      refine ⟨_, rfl, _, rfl, _, rfl, so, _, _, .ref ci, rfl, rfl, SqL.of Eh.h3, atci, ci, _, 1, .int (r.pl : Int), rfl, rfl, SqT.of i1, rfl, _, rfl, _, rfl, _, rfl, so, _, _, .ref ci, rfl, rfl, SqL.of Eh.h3, atci, ci, _, 1, .int (r.pl : Int), rfl, rfl, SqT.of i1, rfl,
        _, rfl, _, rfl, so, _, _, .ref ci, rfl, rfl, SqL.of Eh.h3, atci, ci, r.t, r.pl, rfl, hNi, by omega, fun Hi si => ⟨_, _, rfl, rfl, _, rfl, ?_⟩⟩
      have Ei := Eh.same si
      refine ⟨sh, _, rfl, SqL.of Ei.h1, fun ow now => ?_⟩
      rw [cut_own hown]
      have sj : Same Hi (upd Hi ow (.lst (r.t.enc.map V.int))) := same_upd now
      have Ej := Ei.same sj
      -- deep
      have hNj := nodeAt_tps (same_tps (si.trans sj)) hNi
      refine ⟨_, rfl, _, rfl, so, _, _, .ref ci, rfl, rfl, SqL.of Ej.h3, atci, ci, r.t, r.pl, rfl, hNj, by omega, fun Hk sk => ⟨_, _, rfl, rfl, ?_⟩⟩
      have Ek := Ej.same sk
      -- exchanged, inside a longer one
      refine ⟨_, rfl, _, rfl, _, rfl, line_of (show 2 ≤ 100000 by decide), fun l1 nl1 => ?_⟩
      have sl : Same Hk (upd Hk l1 (.lst [.int 3, .int 1])) := same_upd nl1
      refine ⟨_, rfl, l1, ow, _, _, rfl, rfl, upd_same, sl _ _ (sk _ _ upd_same), line_of (by rw [List.length_map]; show 2 + _ ≤ _; omega), fun l2 nl2 => ?_⟩
      have sm := sl.trans (same_upd (o := .lst ([V.int 3, V.int 1] ++ r.t.enc.map V.int)) nl2)
      have Em := Ek.same sm
      have henc : (Tree.node 3 [1] [r.t]).enc = 3 :: 1 :: r.t.enc := by
        rw [enc_node, encs_cons, encs_nil, List.append_nil]
        rfl
      have hdep : (Tree.node 3 [1] [r.t]).dep = r.t.dep + 1 := by
        rw [dep_node, deps_cons, deps_nil, Nat.max_zero]
      refine ⟨_, rfl, sh, so, l2, hs, ts, as, i, r, .node 3 [1] [r.t], by rw [hdep, ← show (1 : Int) + ((r.t.dep : Nat) : Int) = ((r.t.dep + 1 : Nat) : Int) by omega]; rfl, Em.h1, Em.h3, Em.r1, ho, hw, hd, hz, hri, by rw [henc]; exact upd_same, (fun h2 e2 => ?_), by rw [henc, List.length_cons, List.length_cons]; omega, fun Hn sn => ⟨true, rfl, iteF ?_⟩⟩
      · rw [hh] at e2
        cases e2
        rw [wf_node, wfs_cons]
        exact ⟨.all 1 (by decide) (by decide), hwr, wfs_nil _ _⟩
      exact ⟨_, _, _, _, _, _, _, rfl, Em.same sn⟩
    · rintro σ Ha ⟨v9, v10, v11, v12, v13, v14, v15, rfl, Ea⟩
      refine ⟨_, rfl, sh, hs, ts, rfl, SqL.of Ea.h1, ho, hw, by omega, fun _ H' s' => ⟨rfl, ?_⟩, fun hle => absurd hd hle⟩
      exact q _
end
end K07

set_option Elab.async false
set_option linter.all false
set_option maxRecDepth 100000
set_option maxHeartbeats 4000000
/-! the whole law, from what the written part says. -/
namespace K07
open PySem PySem.Spec PyProof.Rows L2

section
variable {P : Program} {w : World} {K : PySem.W.Frag} {mg : Str → Option Value} {h base : Heap} {CL C0 CN : Addr}

theorem df_mk {x : Str} {st : Stmt} {ps : List Str} {f : Addr} {oc : Value} {od an : Option Addr} {osl : Array (Option Value)} {kV doc pm cdv ct : Value} (X : K.In h) (G : h.Ns mainGlobals mg)
    (hb : ∀ (kV doc pm : Value) (an : Option Addr) (cdv ct : Value) (us : List Value), us.length = ps.length → bindArgs (PySem.W.fnOf x x (defArgs st) (defBody st) (defScope st) .none kV doc pm an cdv ct) ⟨us, []⟩ = pure (ps.zip us))
    (a : PySem.W.nsIn K mainGlobals x = some (some (.ref f)))
    (l : K.lookup f = some ⟨oc, od, .func (PySem.W.fnOf x x (defArgs st) (defBody st) (defScope st) .none kV doc pm an cdv ct), osl⟩)
    (c : PySem.W.codeIn K cdv x = true) (k : PySem.W.keepIn K (.ref f) = true) : Df K mg x st ps :=
  ⟨f, _, fun_mk l c k, .all (hb kV doc pm an cdv ct), PySem.W.mg_of X G a⟩
theorem dm_mk {m qual : Str} {C : Addr} {st : Stmt} {ps : List Str} {f : Addr} {oc : Value} {od an : Option Addr} {osl : Array (Option Value)} {kV doc pm cdv ct : Value}
    (hb : ∀ (kV doc pm : Value) (an : Option Addr) (cdv ct : Value) (us : List Value), us.length = ps.length → bindArgs (PySem.W.fnOf m qual (defArgs st) (defBody st) (defScope st) .none kV doc pm an cdv ct) ⟨us, []⟩ = pure (ps.zip us))
    (a : PySem.W.findIn K (.ref C) m = some (some (.ref f))) (i : PySem.W.isFn K (.ref f) = true)
    (l : K.lookup f = some ⟨oc, od, .func (PySem.W.fnOf m qual (defArgs st) (defBody st) (defScope st) .none kV doc pm an cdv ct), osl⟩)
    (c : PySem.W.codeIn K cdv qual = true) (k : PySem.W.keepIn K (.ref f) = true) : Dm K C m qual st ps :=
  ⟨f, _, fun_mk l c k, .all (hb kV doc pm an cdv ct), a, i, k⟩
theorem int_mk {x : Str} {n : Int} {t : _} (X : K.In h) (G : h.Ns mainGlobals mg) (a : PySem.W.nsIn K mainGlobals x = some (some (.int n t))) : IntC mg x n := ⟨t, PySem.W.mg_of X G a⟩
theorem nx_mk {f1 : Addr} {mc : Value} (X : K.In h) (G : h.Ns mainGlobals mg) {nm q : Str} {N : Addr} {bs bm : List Value} {sn : List Str} {sub : List Value} {ab : Bool} {col : Option Bool} {dd : Option Addr} {m0 m1 m2 m3 m5 : Option Value}
    (gN : PySem.W.nsIn K mainGlobals "NoSheet" = some (some (.ref CN))) (g0 : PySem.W.nsIn K mainGlobals "ChainError" = some (some (.ref C0)))
    (xL : K.lookup CN = some (excClassObj nm q CN N bs bm true sn sub ab col dd m0 m1 m2 m3 m5 "ValueError.__new__")) (xB : PySem.HandSPX.refsVE bm = true)
    (sa : PySem.W.findIn K (.ref CN) "__setattr__" = some (some (.builtin "object.__setattr__"))) (exC : PySem.W.subIn K (.ref CN) (.type "BaseException") = some true) (tyC : PySem.W.typeIn K (.ref CN) = some (.type "type")) (kC : PySem.W.keepIn K (.ref CN) = true)
    (iC : PySem.W.findIn K (.ref CN) "__init__" = some (some (.ref f1))) (tI : PySem.W.typeIn K (.ref f1) = some (.type "function"))
    (tC0 : PySem.W.typeIn K (.ref C0) = some mc) (rd : PySem.W.readsIn K C0 mc = true) (ga0 : PySem.W.specialIn K (.ref C0) "__getattribute__" = some (some (.builtin "type.__getattribute__"))) (vV : PySem.W.findCls K (.ref C0) mc "__init__" = some (.val (.builtin "ValueError.__init__")))
    (nPl : PySem.W.findIn K (.ref CN) "place" = some none) (nWo : PySem.W.findIn K (.ref CN) "word" = some none)
    (ga : PySem.W.findIn K (.ref CN) "__getattribute__" = some (some (.builtin "BaseException.__getattribute__"))) (gg : PySem.W.findIn K (.ref CN) "__getattr__" = some none) (hd : PySem.W.hasDictIn K CN = true) (ss : PySem.W.subIn K (.ref CN) (.ref CN) = some true) :
    Nx K mg C0 CN f1 mc :=
  ⟨⟨⟨nm, q, N, bs, bm, sn, sub, ab, col, dd, m0, m1, m2, m3, m5, xL, xB⟩, sa, exC, tyC, kC⟩, iC, tI, PySem.W.mg_of X G gN, PySem.W.mg_of X G g0, ⟨rd, ga0⟩, vV, nPl, nWo, ⟨ga, gg, exC, hd⟩, PySem.W.exm_ref exC hd tyC ss⟩

/-- from the defs to the law's promise -/
theorem all_of {fI : Addr} {mc : Value} {fdI : FuncData} {fLI : Addr} {fdLI : FuncData} (T : Tx K mg CL) (N : Nx K mg C0 CN fI mc) (FI : Fun K "__init__" "NoSheet.__init__" sNoI fI fdI) (bI : Binds K fdI ["self", "place", "word"] [])
    (ML : Mk K CL fLI) (gL : mg "Look" = some (.ref CL)) (FL : Fun K "__init__" "Look.__init__" sLookI fLI fdLI) (bL : Binds K fdLI ["self", "numbers"] [])
    (Ddue : Dm K CL "due" "Look.due" sDue ["self"]) (Dwit : Dm K CL "within" "Look.within" sWithin ["self", "low", "high"])
    (D15 : Df K mg "parts_of" sParts ["kind"]) (D23 : Df K mg "heads_in" sHeadsIn ["look"]) (D24 : Df K mg "own_numbers" sOwn ["look", "heads", "boxes", "kind"]) (D25 : Df K mg "node_in" sNode ["look", "heads", "boxes", "deep"])
    (D26 : Df K mg "functions" sFuns ["sheet"]) (D27 : Df K mg "wrong" sWrong ["numbers"]) (D28 : Df K mg "nodes_in" sNodesIn ["node"]) (D29 : Df K mg "nodes" sNodes ["sheet"])
    (D31 : Df K mg "_law_mixed" sMixed ["_law_cell", "_law_k"]) (D32 : Df K mg "_law_take" sTake ["_law_state", "_law_many_here"]) (D33 : Df K mg "_law_heads" sHeads ["_law_state"]) (D34 : Df K mg "_law_number" sNumber ["_law_state"])
    (D35 : Df K mg "_law_leaf" sLeaf ["_law_state", "_law_boxes"]) (D36 : Df K mg "_law_head" sHead ["_law_state", "_law_heads_here", "_law_boxes"]) (D37 : Df K mg "_law_node" sLNode ["_law_state", "_law_heads_here", "_law_boxes", "_law_deep", "_law_room"])
    (D38 : Df K mg "_law_sheet" sSheet ["_law_state", "_law_most"]) (D39 : Df K mg "_law_sheet_with" sSheetW ["_law_state", "_law_heads_here", "_law_most"]) (D40 : Df K mg "_law_many" sMany ["_law_node_here"]) (D41 : Df K mg "_law_depth" sDepth ["_law_node_here"])
    (D42 : Df K mg "_law_depths" sDepths ["_law_some"]) (D43 : Df K mg "_law_in_function" sInFun ["_law_depths_here", "_law_function"]) (D44 : Df K mg "_law_heads_of" sHeadsOf ["_law_sheet_here"]) (D45 : Df K mg "_law_put" sPut ["_law_sheet_here", "_law_node_here", "_law_numbers"])
    (D46 : Df K mg "_law_all_bare" sBare ["_law_some"]) (D47 : Df K mg "_law_exchanged" sExch ["_law_sheet_here", "_law_some", "_law_at", "_law_numbers", "_law_deep"]) {f : Addr} {fd : FuncData} (F48 : Fun K "law" "law" sLaw f fd) :
    FnOk P w K mg base CX0 18 f fd ["_law_script"] (spLaw K) := by
  have Mdue := ok_due (P := P) (w := w) (base := base) Ddue T
  have Mwit := ok_within Dwit T Mdue
  have M15 := ok_parts (P := P) (w := w) (base := base) D15 T
  have M23 := ok_headsIn D23 T Mwit
  have M24 := ok_own D24 T Mwit Mdue M15
  have M25 := ok_node D25 T N FI bI Mwit M24 10
  have M26 := ok_funs D26 T ML gL FL bL M23 M25
  have M27 := ok_wrong D27 N M26
  have M28 := ok_nodesIn (P := P) (w := w) (base := base) D28 10
  have M29 := ok_nodes D29 M26 M28
  have M31 := ok_mixed (P := P) (w := w) (base := base) D31
  have M32 := ok_take D32 T M31
  have M33 := ok_heads D33 T M32
  have M34 := ok_number D34 M32
  have M35 := ok_leaf D35 M32 M34
  have M36 := ok_head D36 T M32
  have M37 := ok_lnode D37 T M36 M35 9
  have M38 := ok_sheet D38 T M32 M33 M37
  have M39 := ok_sheetW D39 T M32 M37
  have M40 := ok_many (P := P) (w := w) (base := base) D40 T
  have M41 := ok_depth (P := P) (w := w) (base := base) D41 T
  have M42 := ok_depths D42 T M40
  have M43 := ok_inFun (P := P) (w := w) (base := base) D43 T
  have M44 := ok_headsOf (P := P) (w := w) (base := base) D44 T
  have M45 := ok_put D45 M40
  have M46 := ok_bare (P := P) (w := w) (base := base) D46
  have M47 := ok_exch D47 T M42 M45 M27 M40 M29 M46
  exact ok_law F48 T M38 M44 M39 M29 M42 M32 M43 M40 M41 M47 M27
theorem end_of {fa f : Addr} {oc : Value} {od an : Option Addr} {osl : Array (Option Value)} {kV doc pm cdv ct : Value} (X : K.In h) (G : h.Ns mainGlobals mg) (hfa : mg "law" = some (.ref fa))
    (a : PySem.W.nsIn K mainGlobals "law" = some (some (.ref f)))
    (l : K.lookup f = some ⟨oc, od, .func (PySem.W.fnOf "law" "law" (defArgs sLaw) (defBody sLaw) (defScope sLaw) .none kV doc pm an cdv ct), osl⟩) (c : PySem.W.codeIn K cdv "law" = true) (k : PySem.W.keepIn K (.ref f) = true)
    (hall : ∀ (base : Heap) (fd : FuncData), Fun K "law" "law" sLaw f fd → FnOk P w K mg base CX0 18 f fd ["_law_script"] (spLaw K)) :
    ∃ fd : FuncData, (∀ (s : Shared) (u : Value), BindsTo s fd ⟨[u], []⟩ [("_law_script", u)]) ∧ ∀ base : Heap, K.In base → base.Ns mainGlobals mg → FnOk P w K mg base CX0 18 fa fd ["_law_script"] (spLaw K) := by
  have e := hfa.symm.trans (PySem.W.mg_of X G a)
  cases e
  exact ⟨_, fun s u => .of_eq rfl, fun base _ _ => hall base _ (fun_mk l c k)⟩
theorem law_start {K : PySem.W.Frag} {H : Hp} {a : Addr} {ns : List Int} (hO : Only H) (hS : SqL K H a (ns.map V.int)) : spLaw K [.ref a] H (fun v _ => v = .bl true) fun _ _ _ => False := by
  refine ⟨a, ns, rfl, ?_, fun _ => rfl⟩
  rcases hS with (h | h) | h
  · rcases hO a with e | ⟨o, xs, e⟩
    · rw [e] at h
      cases h
    · rw [e] at h
      cases h
  · exact .inl h
  · exact .inr h
end
end K07

open PySem PySem.W PyProof.Rows
set_option maxRecDepth 100000 in
set_option maxHeartbeats 0 in
theorem PySem.Challenge.cw_ownchain_k07_whole_parts_exchanged_holds : PySem.Challenge.rw_ownchain_k07_whole_parts_exchanged.Holds := by
  w_on; o_law; k_head; (case hw => w_witness2)
  k_fill
  refine L2.walk_ofK (l := PySem.Challenge.rw_ownchain_k07_whole_parts_exchanged) (n := 63) (k := 18) (x := "_law_script") (CX := L2.CX0) (sp := K07.spLaw) rfl (by decide) rfl ⟨rfl, by decide, by decide⟩ (fun w h Y => PySem.W.kIn_of Y) ?F (fun _ _ _ _ _ hO hS => K07.law_start hO hS) (fun _ _ _ _ z => z)
  case F =>
    intro w mg fa h KX G hmg
    refine' K07.end_of KX G hmg ?qa ?ql ?qc ?qk ?qhall
    (case qa => k_is); (case ql => k_is); (case qc => k_is); (case qk => k_is)
    case qhall =>
      intro base fd F48
      refine' K07.all_of ?qT ?qN ?qFI ?qbI ?qML ?qgL ?qFL ?qbL ?qDdue ?qDwit ?qD15 ?qD23 ?qD24 ?qD25 ?qD26 ?qD27 ?qD28 ?qD29 ?qD31 ?qD32 ?qD33 ?qD34 ?qD35 ?qD36 ?qD37 ?qD38 ?qD39 ?qD40 ?qD41 ?qD42 ?qD43 ?qD44 ?qD45 ?qD46 ?qD47 F48
      (case qgL => refine' PySem.W.mg_of KX G ?_; k_is)
      (case qN => refine' K07.nx_mk KX G ?qgN ?qg0 ?qxL ?qxB ?qsa ?qexC ?qtyC ?qkC ?qiC ?qtI ?qtC0 ?qrd ?qga0 ?qvV ?qnPl ?qnWo ?qga ?qgg ?qhd ?qss; (case qgN => k_is); (case qg0 => k_is); (case qxL => k_is); (case qxB => decide +kernel); (case qsa => k_is); (case qexC => k_is); (case qtyC => k_is); (case qkC => k_is); (case qiC => k_is); (case qtI => k_is); (case qtC0 => k_is); (case qrd => k_is); (case qga0 => k_is); (case qvV => k_is); (case qnPl => k_is); (case qnWo => k_is); (case qga => k_is); (case qgg => k_is); (case qhd => k_is); (case qss => first | rfl | k_is))
      (case qML => refine' ⟨?qm1, ?qm2, ?qm3, ?qm4⟩; (case qm1 => k_is); (case qm2 => k_is); (case qm3 => k_is); (case qm4 => k_is))
      (case qFI => refine' L2.fun_mk ?ql ?qc ?qk; (case ql => k_is); (case qc => k_is); (case qk => k_is))
      (case qbI => exact .all fun us hl => match us, hl with | [_, _, _], _ => rfl)
      (case qFL => refine' L2.fun_mk ?ql ?qc ?qk; (case ql => k_is); (case qc => k_is); (case qk => k_is))
      (case qbL => exact .all fun us hl => match us, hl with | [_, _], _ => rfl)
      (case qDdue => refine' K07.dm_mk (fun _ _ _ _ _ _ us hl => match us, hl with | [_], _ => rfl) ?qa ?qi ?ql ?qc ?qk; (case qa => k_is); (case qi => k_is); (case ql => k_is); (case qc => k_is); (case qk => k_is))
      (case qDwit => refine' K07.dm_mk (fun _ _ _ _ _ _ us hl => match us, hl with | [_, _, _], _ => rfl) ?qa ?qi ?ql ?qc ?qk; (case qa => k_is); (case qi => k_is); (case ql => k_is); (case qc => k_is); (case qk => k_is))
      case qT =>
        refine' ⟨K07.int_mk KX G ?qi0, K07.int_mk KX G ?qi1, K07.int_mk KX G ?qi2, K07.int_mk KX G ?qi3, K07.int_mk KX G ?qi4, K07.int_mk KX G ?qi5, K07.int_mk KX G ?qi6, K07.int_mk KX G ?qi7, K07.int_mk KX G ?qi8, K07.int_mk KX G ?qi9, K07.int_mk KX G ?qi10, K07.int_mk KX G ?qi11, K07.int_mk KX G ?qi12, K07.int_mk KX G ?qi13, K07.int_mk KX G ?qi14, K07.int_mk KX G ?qi15, PySem.W.mg_none_of KX G ?qz0, PySem.W.mg_none_of KX G ?qz1, PySem.W.mg_none_of KX G ?qz2, PySem.W.mg_none_of KX G ?qz3, PySem.W.mg_none_of KX G ?qz4, PySem.W.mg_none_of KX G ?qz5, PySem.W.mg_none_of KX G ?qz6, PySem.W.mg_none_of KX G ?qz7, ⟨?qpg, ?qhd, ?qpo, ?qsa⟩, ?qn1, ?qn2⟩
        (case qi0 => k_is); (case qi1 => k_is); (case qi2 => k_is); (case qi3 => k_is); (case qi4 => k_is); (case qi5 => k_is); (case qi6 => k_is); (case qi7 => k_is); (case qi8 => k_is); (case qi9 => k_is); (case qi10 => k_is); (case qi11 => k_is); (case qi12 => k_is); (case qi13 => k_is); (case qi14 => k_is); (case qi15 => k_is)
        (case qz0 => k_is); (case qz1 => k_is); (case qz2 => k_is); (case qz3 => k_is); (case qz4 => k_is); (case qz5 => k_is); (case qz6 => k_is); (case qz7 => k_is)
        (case qpg => k_is); (case qhd => k_is); (case qpo => k_is); (case qsa => k_is); (case qn1 => (show PySem.W.findIn _ _ _ = some none); k_is); (case qn2 => (show PySem.W.findIn _ _ _ = some none); k_is)
      (case qD15 => refine' K07.df_mk KX G (fun _ _ _ _ _ _ us hl => match us, hl with | [_], _ => rfl) ?qa ?ql ?qc ?qk; (case qa => k_is); (case ql => k_is); (case qc => k_is); (case qk => k_is))
      (case qD23 => refine' K07.df_mk KX G (fun _ _ _ _ _ _ us hl => match us, hl with | [_], _ => rfl) ?qa ?ql ?qc ?qk; (case qa => k_is); (case ql => k_is); (case qc => k_is); (case qk => k_is))
      (case qD24 => refine' K07.df_mk KX G (fun _ _ _ _ _ _ us hl => match us, hl with | [_, _, _, _], _ => rfl) ?qa ?ql ?qc ?qk; (case qa => k_is); (case ql => k_is); (case qc => k_is); (case qk => k_is))
      (case qD25 => refine' K07.df_mk KX G (fun _ _ _ _ _ _ us hl => match us, hl with | [_, _, _, _], _ => rfl) ?qa ?ql ?qc ?qk; (case qa => k_is); (case ql => k_is); (case qc => k_is); (case qk => k_is))
      (case qD26 => refine' K07.df_mk KX G (fun _ _ _ _ _ _ us hl => match us, hl with | [_], _ => rfl) ?qa ?ql ?qc ?qk; (case qa => k_is); (case ql => k_is); (case qc => k_is); (case qk => k_is))
      (case qD27 => refine' K07.df_mk KX G (fun _ _ _ _ _ _ us hl => match us, hl with | [_], _ => rfl) ?qa ?ql ?qc ?qk; (case qa => k_is); (case ql => k_is); (case qc => k_is); (case qk => k_is))
      (case qD28 => refine' K07.df_mk KX G (fun _ _ _ _ _ _ us hl => match us, hl with | [_], _ => rfl) ?qa ?ql ?qc ?qk; (case qa => k_is); (case ql => k_is); (case qc => k_is); (case qk => k_is))
      (case qD29 => refine' K07.df_mk KX G (fun _ _ _ _ _ _ us hl => match us, hl with | [_], _ => rfl) ?qa ?ql ?qc ?qk; (case qa => k_is); (case ql => k_is); (case qc => k_is); (case qk => k_is))
      (case qD31 => refine' K07.df_mk KX G (fun _ _ _ _ _ _ us hl => match us, hl with | [_, _], _ => rfl) ?qa ?ql ?qc ?qk; (case qa => k_is); (case ql => k_is); (case qc => k_is); (case qk => k_is))
      (case qD32 => refine' K07.df_mk KX G (fun _ _ _ _ _ _ us hl => match us, hl with | [_, _], _ => rfl) ?qa ?ql ?qc ?qk; (case qa => k_is); (case ql => k_is); (case qc => k_is); (case qk => k_is))
      (case qD33 => refine' K07.df_mk KX G (fun _ _ _ _ _ _ us hl => match us, hl with | [_], _ => rfl) ?qa ?ql ?qc ?qk; (case qa => k_is); (case ql => k_is); (case qc => k_is); (case qk => k_is))
      (case qD34 => refine' K07.df_mk KX G (fun _ _ _ _ _ _ us hl => match us, hl with | [_], _ => rfl) ?qa ?ql ?qc ?qk; (case qa => k_is); (case ql => k_is); (case qc => k_is); (case qk => k_is))
      (case qD35 => refine' K07.df_mk KX G (fun _ _ _ _ _ _ us hl => match us, hl with | [_, _], _ => rfl) ?qa ?ql ?qc ?qk; (case qa => k_is); (case ql => k_is); (case qc => k_is); (case qk => k_is))
      (case qD36 => refine' K07.df_mk KX G (fun _ _ _ _ _ _ us hl => match us, hl with | [_, _, _], _ => rfl) ?qa ?ql ?qc ?qk; (case qa => k_is); (case ql => k_is); (case qc => k_is); (case qk => k_is))
      (case qD37 => refine' K07.df_mk KX G (fun _ _ _ _ _ _ us hl => match us, hl with | [_, _, _, _, _], _ => rfl) ?qa ?ql ?qc ?qk; (case qa => k_is); (case ql => k_is); (case qc => k_is); (case qk => k_is))
      (case qD38 => refine' K07.df_mk KX G (fun _ _ _ _ _ _ us hl => match us, hl with | [_, _], _ => rfl) ?qa ?ql ?qc ?qk; (case qa => k_is); (case ql => k_is); (case qc => k_is); (case qk => k_is))
      (case qD39 => refine' K07.df_mk KX G (fun _ _ _ _ _ _ us hl => match us, hl with | [_, _, _], _ => rfl) ?qa ?ql ?qc ?qk; (case qa => k_is); (case ql => k_is); (case qc => k_is); (case qk => k_is))
      (case qD40 => refine' K07.df_mk KX G (fun _ _ _ _ _ _ us hl => match us, hl with | [_], _ => rfl) ?qa ?ql ?qc ?qk; (case qa => k_is); (case ql => k_is); (case qc => k_is); (case qk => k_is))
      (case qD41 => refine' K07.df_mk KX G (fun _ _ _ _ _ _ us hl => match us, hl with | [_], _ => rfl) ?qa ?ql ?qc ?qk; (case qa => k_is); (case ql => k_is); (case qc => k_is); (case qk => k_is))
      (case qD42 => refine' K07.df_mk KX G (fun _ _ _ _ _ _ us hl => match us, hl with | [_], _ => rfl) ?qa ?ql ?qc ?qk; (case qa => k_is); (case ql => k_is); (case qc => k_is); (case qk => k_is))
      (case qD43 => refine' K07.df_mk KX G (fun _ _ _ _ _ _ us hl => match us, hl with | [_, _], _ => rfl) ?qa ?ql ?qc ?qk; (case qa => k_is); (case ql => k_is); (case qc => k_is); (case qk => k_is))
      (case qD44 => refine' K07.df_mk KX G (fun _ _ _ _ _ _ us hl => match us, hl with | [_], _ => rfl) ?qa ?ql ?qc ?qk; (case qa => k_is); (case ql => k_is); (case qc => k_is); (case qk => k_is))
      (case qD45 => refine' K07.df_mk KX G (fun _ _ _ _ _ _ us hl => match us, hl with | [_, _, _], _ => rfl) ?qa ?ql ?qc ?qk; (case qa => k_is); (case ql => k_is); (case qc => k_is); (case qk => k_is))
      (case qD46 => refine' K07.df_mk KX G (fun _ _ _ _ _ _ us hl => match us, hl with | [_], _ => rfl) ?qa ?ql ?qc ?qk; (case qa => k_is); (case ql => k_is); (case qc => k_is); (case qk => k_is))
      (case qD47 => refine' K07.df_mk KX G (fun _ _ _ _ _ _ us hl => match us, hl with | [_, _, _, _, _], _ => rfl) ?qa ?ql ?qc ?qk; (case qa => k_is); (case ql => k_is); (case qc => k_is); (case qk => k_is))
#print axioms PySem.Challenge.cw_ownchain_k07_whole_parts_exchanged_holds

