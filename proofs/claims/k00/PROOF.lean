import PyProof.Rows.All
import Wide.All
import OpenK.AllK
import Wide.FinOn
import HandS.ForMost
import HandS.Walk
import HandS.TupAny
import HandS.Style
import HandS.IsInst
import HandS.Conv
import HandS.Replace
import HandS.Iter
import PyProof.Rows.StrMul
import PySem.Challenge.RW_stoneward_k00_whole_boreholes_turned_abo
set_option Elab.async false
set_option linter.all false
set_option maxRecDepth 100000
set_option maxHeartbeats 4000000
set_option autoImplicit false
/-! SL, the first part: data in slots, what stands in the heap for them, the judgements. -/
namespace SL
open PySem PySem.Spec PyProof.Rows L2
abbrev St := L2.St

/-- an object that may change: a dict -/
inductive SObj where
  | dk (kvs : List (Key × PyData))
/-- what a slot holds or an expression gives: data; a list of one's own (fresh); the i-th object of the store -/
inductive Sv where
  | dat (d : PyData) | own (ds : List PyData) | obj (i : Nat)
/-- a state: slots, store -/
structure AS where
  E : List (Option Sv)
  S : List SObj

section
variable {K : PySem.W.Frag} {F F' H H' : Hp}
theorem rd_mono {a : Addr} {u : HO} (h : Same F F') (r : Rd F a u) : Rd F' a u := by
  rcases r with r | ⟨o, r⟩
  · exact .inl (h _ _ r)
  · exact .inr ⟨o, h _ _ r⟩
theorem sql_mono {a : Addr} {xs : List V} (h : Same F F') (r : SqL K F a xs) : SqL K F' a xs := by
  rcases r with r | r
  · exact .inl (rd_mono h r)
  · exact .inr r
theorem sqt_mono {a : Addr} {xs : List V} (h : Same F F') (r : SqT K F a xs) : SqT K F' a xs := by
  rcases r with r | r
  · exact .inl (rd_mono h r)
  · exact .inr r
mutual
theorem dp_mono (h : Same F F') : ∀ (d : PyData) (v : V), Dp K F v d → Dp K F' v d
  | .none, _, r => by cases r; exact .non
  | .bool b, _, r => by cases r; exact .bl b
  | .int i, _, r => by cases r; exact .int i
  | .str x, _, r => by cases r; exact .str x
  | .list ds, _, r => by
    cases r with
    | lst hs ha => exact .lst (sql_mono h hs) (dpa_mono h ds _ ha)
  | .tuple ds, _, r => by
    cases r with
    | tup hs ha => exact .tup (sqt_mono h hs) (dpa_mono h ds _ ha)
  | .dict _, _, r => by cases r
theorem dpa_mono (h : Same F F') : ∀ (ds : List PyData) (vs : List V), DpAll K F vs ds → DpAll K F' vs ds
  | [], _, r => by cases r; exact .nil
  | d :: ds, _, r => by
    cases r with
    | cons h1 h2 => exact .cons (dp_mono h d _ h1) (dpa_mono h ds _ h2)
end
theorem dpa_len : ∀ {ds : List PyData} {vs : List V}, DpAll K F vs ds → vs.length = ds.length
  | [], _, r => by cases r; rfl
  | d :: ds, _, r => by
    cases r with
    | cons h1 h2 => rw [List.length_cons, List.length_cons, dpa_len h2]
theorem dpa_get : ∀ {ds : List PyData} {vs : List V} {i : Nat} {v : V}, DpAll K F vs ds → vs[i]? = some v → ∃ d, ds[i]? = some d ∧ Dp K F v d
  | [], _, i, v, r, e => by cases r; simp at e
  | d :: ds, _, 0, v, r, e => by
    cases r with
    | cons h1 h2 => simp at e; subst e; exact ⟨d, rfl, h1⟩
  | d :: ds, _, i + 1, v, r, e => by
    cases r with
    | cons h1 h2 => simpa using dpa_get h2 (by simpa using e)
theorem dpa_get' : ∀ {ds : List PyData} {vs : List V} {i : Nat} {d : PyData}, DpAll K F vs ds → ds[i]? = some d → ∃ v, vs[i]? = some v ∧ Dp K F v d
  | [], _, i, v, r, e => by simp at e
  | d :: ds, _, 0, v, r, e => by
    cases r with
    | cons h1 h2 => simp at e; subst e; exact ⟨_, rfl, h1⟩
  | d :: ds, _, i + 1, v, r, e => by
    cases r with
    | cons h1 h2 => simpa using dpa_get' h2 (by simpa using e)
theorem dpa_append : ∀ {ds es : List PyData} {vs us : List V}, DpAll K F vs ds → DpAll K F us es → DpAll K F (vs ++ us) (ds ++ es)
  | [], _, _, _, r, q => by cases r; exact q
  | d :: ds, _, _, _, r, q => by
    cases r with
    | cons h1 h2 => exact .cons h1 (dpa_append h2 q)
theorem dpa_set : ∀ {ds : List PyData} {vs : List V} (i : Nat) {d : PyData} {v : V}, DpAll K F vs ds → Dp K F v d → DpAll K F (vs.set i v) (ds.set i d)
  | [], _, _, _, _, r, q => by cases r; exact .nil
  | d :: ds, _, 0, _, _, r, q => by
    cases r with
    | cons h1 h2 => exact .cons q h2
  | d :: ds, _, i + 1, _, _, r, q => by
    cases r with
    | cons h1 h2 => exact .cons h1 (dpa_set i h2 q)
theorem dpa_erase : ∀ {ds : List PyData} {vs : List V} (i : Nat), DpAll K F vs ds → DpAll K F (vs.eraseIdx i) (ds.eraseIdx i)
  | [], _, _, r => by cases r; exact .nil
  | d :: ds, _, 0, r => by
    cases r with
    | cons h1 h2 => exact h2
  | d :: ds, _, i + 1, r => by
    cases r with
    | cons h1 h2 => exact .cons h1 (dpa_erase i h2)
theorem dpa_take : ∀ {ds : List PyData} {vs : List V} (i : Nat), DpAll K F vs ds → DpAll K F (vs.take i) (ds.take i)
  | _, _, 0, r => .nil
  | [], _, i + 1, r => by cases r; exact .nil
  | d :: ds, _, i + 1, r => by
    cases r with
    | cons h1 h2 => exact .cons h1 (dpa_take i h2)
theorem dpa_drop : ∀ {ds : List PyData} {vs : List V} (i : Nat), DpAll K F vs ds → DpAll K F (vs.drop i) (ds.drop i)
  | _, _, 0, r => r
  | [], _, i + 1, r => by cases r; exact .nil
  | d :: ds, _, i + 1, r => by
    cases r with
    | cons h1 h2 => exact dpa_drop i h2
theorem dpa_rev : ∀ {ds : List PyData} {vs : List V}, DpAll K F vs ds → DpAll K F vs.reverse ds.reverse
  | [], _, r => by cases r; exact .nil
  | d :: ds, _, r => by
    cases r with
    | cons h1 h2 =>
      rw [List.reverse_cons, List.reverse_cons]
      exact dpa_append (dpa_rev h2) (.cons h1 .nil)
theorem dpa_map {α : Type} {f : α → V} {g : α → PyData} : ∀ {xs : List α}, (∀ x ∈ xs, Dp K F (f x) (g x)) → DpAll K F (xs.map f) (xs.map g)
  | [], _ => .nil
  | x :: xs, h => .cons (h x (by simp)) (dpa_map fun y hy => h y (by simp [hy]))
theorem dpa_ints (ns : List Int) : DpAll K F (ns.map V.int) (ns.map PyData.int) := dpa_map fun x _ => .int x

/-- a frame: what must stay -/
structure Frm where
  H : Hp
  F : Hp
  P : List Addr

def RepO (K : PySem.W.Frag) (F : Hp) : SObj → Option HO → Prop
  | .dk kvs, ho => ∃ vs, ho = some (.dK vs) ∧ Paired (fun (p : Key × V) (q : Key × PyData) => p.1 = q.1 ∧ Dp K F p.2 q.2) vs kvs
theorem RepO.mono {o : SObj} {ho : Option HO} (h : Same F F') (r : RepO K F o ho) : RepO K F' o ho := by
  cases o with
  | dk kvs =>
    obtain ⟨vs, e, p⟩ := r
    exact ⟨vs, e, Paired.mapP p fun a b q => ⟨q.1, dp_mono h _ _ q.2⟩⟩
theorem RepO.some {o : SObj} {ho : Option HO} (r : RepO K F o ho) : ho ≠ none := by
  cases o with
  | dk kvs =>
    obtain ⟨vs, e, p⟩ := r
    rw [e]; intro z; cases z

/-- the state s stands in the slots σ and the heap H: F what will never change, P where the objects of the store are, M where the slots' own lists are -/
structure Rep (K : PySem.W.Frag) (f : Frm) (s : AS) (σ : St) (H F : Hp) (P : List Addr) (M : Nat → Addr) : Prop where
  sub : Same F H
  frame : ∀ a o, f.H a = some o → a ∉ f.P → H a = some o
  ffr : ∀ a o, f.H a = some o → F a = f.F a
  pre : f.P <+: P
  len : σ.length = s.E.length
  dat : ∀ (i : Nat) d, s.E[i]? = some (some (.dat d)) → ∃ v, σ[i]? = some (some v) ∧ Dp K F v d
  ob : ∀ (i j : Nat), s.E[i]? = some (some (.obj j)) → ∃ a, P[j]? = some a ∧ σ[i]? = some (some (.ref a))
  own : ∀ (i : Nat) ds, s.E[i]? = some (some (.own ds)) → σ[i]? = some (some (.ref (M i))) ∧ (∃ vs, H (M i) = some (.lst vs) ∧ DpAll K F vs ds) ∧ F (M i) = none ∧ M i ∉ P ∧ f.H (M i) = none
  inj : ∀ (i j : Nat) ds es, s.E[i]? = some (some (.own ds)) → s.E[j]? = some (some (.own es)) → M i = M j → i = j
  plen : P.length = s.S.length
  so : ∀ (i : Nat) o a, s.S[i]? = some o → P[i]? = some a → RepO K F o (H a) ∧ F a = none ∧ (a ∈ f.P ∨ f.H a = none)
  nd : P.Nodup

/-- what an expression gives -/
def RepR (K : PySem.W.Frag) (f : Frm) (s : AS) (H F : Hp) (P : List Addr) (M : Nat → Addr) : Sv → V → Prop
  | .dat d, v => Dp K F v d
  | .obj j, v => ∃ a, P[j]? = some a ∧ v = .ref a
  | .own ds, v => ∃ a vs, v = .ref a ∧ H a = some (.lst vs) ∧ DpAll K F vs ds ∧ F a = none ∧ a ∉ P ∧ f.H a = none ∧ ∀ (i : Nat) es, s.E[i]? = some (some (.own es)) → M i ≠ a

/-- what is passed: data, objects -/
def RepA (K : PySem.W.Frag) (F : Hp) (P : List Addr) : Sv → V → Prop
  | .dat d, v => Dp K F v d
  | .obj j, v => ∃ a, P[j]? = some a ∧ v = .ref a
  | .own _, _ => False
theorem RepA.mono {P P' : List Addr} {r : Sv} {v : V} (h : Same F F') (hp : P <+: P') (x : RepA K F P r v) : RepA K F' P' r v := by
  cases r with
  | dat d => exact dp_mono h _ _ x
  | obj j =>
    obtain ⟨a, e, q⟩ := x
    obtain ⟨l, rfl⟩ := hp
    exact ⟨a, by rw [List.getElem?_append_left (List.getElem?_eq_some_iff.mp e).1]; exact e, q⟩
  | own _ => exact x.elim

variable {f : Frm} {s : AS} {σ : St} {P : List Addr} {M : Nat → Addr}
theorem Rep.mem_so (R : Rep K f s σ H F P M) {a : Addr} (h : a ∈ P) : H a ≠ none ∧ F a = none ∧ (a ∈ f.P ∨ f.H a = none) := by
  obtain ⟨i, hi, e⟩ := List.mem_iff_getElem.mp h
  have hs : i < s.S.length := by rw [← R.plen]; exact hi
  obtain ⟨h1, h2, h3⟩ := R.so i s.S[i] a (by simp [hs]) (by rw [List.getElem?_eq_getElem hi, e])
  exact ⟨h1.some, h2, h3⟩
/-- a free address is none of the frame's -/
theorem Rep.free (R : Rep K f s σ H F P M) {p : Addr} (h : H p = none) : f.H p = none := by
  cases q : f.H p with
  | none => rfl
  | some o =>
    by_cases hp : p ∈ f.P
    · exact absurd h (R.mem_so (R.pre.subset hp)).1
    · rw [R.frame p o q hp] at h; cases h
theorem Rep.freeF (R : Rep K f s σ H F P M) {p : Addr} (h : H p = none) : F p = none := Same.free R.sub h
theorem Rep.freeP (R : Rep K f s σ H F P M) {p : Addr} (h : H p = none) : p ∉ P := fun hp => (R.mem_so hp).1 h
theorem Rep.freeM (R : Rep K f s σ H F P M) {p : Addr} (h : H p = none) {i : Nat} {ds : List PyData} (e : s.E[i]? = some (some (.own ds))) : M i ≠ p := fun z => by
  obtain ⟨_, ⟨vs, hv, _⟩, _⟩ := R.own i ds e
  rw [z, h] at hv; cases hv
theorem same_upd {p : Addr} {o : HO} (h : H p = none) : Same H (upd H p o) := fun b x e => by
  rw [upd_ne (ne_of_none e h)]; exact e
/-- a new object that never changes -/
theorem Rep.alloc (R : Rep K f s σ H F P M) {p : Addr} (o : HO) (h : H p = none) : Rep K f s σ (upd H p o) (upd F p o) P M where
  sub := fun a u e => by
    by_cases ha : a = p
    · subst ha; rw [upd_same] at e ⊢; exact e
    · rw [upd_ne ha] at e ⊢; exact R.sub a u e
  frame := fun a u e hp => by
    have ha : a ≠ p := ne_of_none e (R.free h)
    rw [upd_ne ha]; exact R.frame a u e hp
  ffr := fun a u e => by
    have ha : a ≠ p := ne_of_none e (R.free h)
    rw [upd_ne ha]; exact R.ffr a u e
  pre := R.pre
  len := R.len
  dat := fun i d e => by
    obtain ⟨v, h1, h2⟩ := R.dat i d e
    exact ⟨v, h1, dp_mono (same_upd (R.freeF h)) _ _ h2⟩
  ob := R.ob
  own := fun i ds e => by
    obtain ⟨h1, ⟨vs, h2, h3⟩, h4, h5, h6⟩ := R.own i ds e
    have ne := R.freeM h e
    exact ⟨h1, ⟨vs, by rw [upd_ne ne]; exact h2, dpa_mono (same_upd (R.freeF h)) _ _ h3⟩, by rw [upd_ne ne]; exact h4, h5, h6⟩
  inj := R.inj
  plen := R.plen
  so := fun i o a h1 h2 => by
    obtain ⟨q1, q2, q3⟩ := R.so i o a h1 h2
    have ne : a ≠ p := fun z => q1.some (by rw [z]; exact h)
    exact ⟨by rw [upd_ne ne]; exact q1.mono (same_upd (R.freeF h)), by rw [upd_ne ne]; exact q2, q3⟩
  nd := R.nd
/-- something is laid in the heap that no one of us knows -/
theorem Rep.laid (R : Rep K f s σ H F P M) {p : Addr} (o : HO) (h : H p = none) : Rep K f s σ (upd H p o) F P M where
  sub := fun a u e => same_upd h a u (R.sub a u e)
  frame := fun a u e hp => same_upd h a u (R.frame a u e hp)
  ffr := R.ffr
  pre := R.pre
  len := R.len
  dat := R.dat
  ob := R.ob
  own := fun i ds e => by
    obtain ⟨h1, ⟨vs, h2, h3⟩, h4, h5, h6⟩ := R.own i ds e
    exact ⟨h1, ⟨vs, same_upd h _ _ h2, h3⟩, h4, h5, h6⟩
  inj := R.inj
  plen := R.plen
  so := fun i o a h1 h2 => by
    obtain ⟨q1, q2, q3⟩ := R.so i o a h1 h2
    have ne : a ≠ p := fun z => q1.some (by rw [z]; exact h)
    exact ⟨by rw [upd_ne ne]; exact q1, q2, q3⟩
  nd := R.nd
/-- a fresh list becomes data -/
theorem Rep.freeze (R : Rep K f s σ H F P M) {ds : List PyData} {v : V} (r : RepR K f s H F P M (.own ds) v) :
    ∃ F', Same F F' ∧ Rep K f s σ H F' P M ∧ Dp K F' v (.list ds) := by
  obtain ⟨a, vs, rfl, h1, h2, h3, h4, h5, h6⟩ := r
  have sm : Same F (upd F a (.lst vs)) := same_upd h3
  refine ⟨upd F a (.lst vs), sm, ⟨fun b u e => ?_, R.frame, fun b u e => ?_, R.pre, R.len, fun i d e => ?_, R.ob, fun i es e => ?_, R.inj, R.plen, fun i o b e1 e2 => ?_, R.nd⟩, .lst (.inl (.inl upd_same)) (dpa_mono sm _ _ h2)⟩
  · by_cases hb : b = a
    · subst hb; rw [upd_same] at e; rw [← e]; exact h1
    · rw [upd_ne hb] at e; exact R.sub b u e
  · have hb : b ≠ a := ne_of_none e h5
    rw [upd_ne hb]; exact R.ffr b u e
  · obtain ⟨v, q1, q2⟩ := R.dat i d e
    exact ⟨v, q1, dp_mono sm _ _ q2⟩
  · obtain ⟨q1, ⟨ws, q2, q3⟩, q4, q5, q6⟩ := R.own i es e
    exact ⟨q1, ⟨ws, q2, dpa_mono sm _ _ q3⟩, by rw [upd_ne (h6 i es e)]; exact q4, q5, q6⟩
  · obtain ⟨q1, q2, q3⟩ := R.so i o b e1 e2
    have hb : b ≠ a := fun z => h4 (z ▸ List.mem_of_getElem? e2)
    exact ⟨q1.mono sm, by rw [upd_ne hb]; exact q2, q3⟩
/-- the frame of what stands now -/
theorem Rep.here (R : Rep K f s σ H F P M) : Rep K ⟨H, F, P⟩ ⟨[], s.S⟩ [] H F P M where
  sub := R.sub
  frame := fun _ _ e _ => e
  ffr := fun _ _ _ => rfl
  pre := List.prefix_refl _
  len := rfl
  dat := fun i d e => by simp at e
  ob := fun i j e => by simp at e
  own := fun i ds e => by simp at e
  inj := fun i j ds es e => by simp at e
  plen := R.plen
  so := fun i o a e1 e2 => by
    obtain ⟨q1, q2, q3⟩ := R.so i o a e1 e2
    exact ⟨q1, q2, .inl (List.mem_of_getElem? e2)⟩
  nd := R.nd
/-- behind something that kept the frame of what stood -/
theorem Rep.back {S' : List SObj} {F' : Hp} {P' : List Addr} {M' : Nat → Addr} (R : Rep K f s σ H F P M) (sm : Same F F') (R' : Rep K ⟨H, F, P⟩ ⟨[], S'⟩ [] H' F' P' M') : Rep K f ⟨s.E, S'⟩ σ H' F' P' M where
  sub := R'.sub
  frame := fun a o e hp => by
    by_cases hP : a ∈ P
    · rcases (R.mem_so hP).2.2 with z | z
      · exact absurd z hp
      · rw [z] at e; cases e
    · exact R'.frame a o (R.frame a o e hp) hP
  ffr := fun a o e => by
    by_cases hP : a ∈ f.P
    · have q := R.mem_so (R.pre.subset hP)
      have q2 := R'.mem_so (R'.pre.subset (R.pre.subset hP))
      rw [q2.2.1, ← R.ffr a o e, q.2.1]
    · rw [R'.ffr a o (R.frame a o e hP)]; exact R.ffr a o e
  pre := R.pre.trans R'.pre
  len := R.len
  dat := fun i d e => by
    obtain ⟨v, q1, q2⟩ := R.dat i d e
    exact ⟨v, q1, dp_mono sm _ _ q2⟩
  ob := fun i j e => by
    obtain ⟨a, q1, q2⟩ := R.ob i j e
    obtain ⟨l, rfl⟩ := R'.pre
    exact ⟨a, by rw [List.getElem?_append_left (List.getElem?_eq_some_iff.mp q1).1]; exact q1, q2⟩
  own := fun i ds e => by
    obtain ⟨q1, ⟨vs, q2, q3⟩, q4, q5, q6⟩ := R.own i ds e
    refine ⟨q1, ⟨vs, R'.frame _ _ q2 q5, dpa_mono sm _ _ q3⟩, by rw [R'.ffr _ _ q2]; exact q4, fun hP => ?_, q6⟩
    rcases (R'.mem_so hP).2.2 with z | z
    · exact q5 z
    · have z : H (M i) = none := z
      rw [q2] at z; cases z
  inj := R.inj
  plen := R'.plen
  so := fun i o a e1 e2 => by
    obtain ⟨q1, q2, q3⟩ := R'.so i o a e1 e2
    refine ⟨q1, q2, ?_⟩
    rcases q3 with z | z
    · exact (R.mem_so z).2.2
    · exact .inr (R.free z)
  nd := R'.nd
end
end SL

/-! SL, the second part: the judgements over states, expressions. -/
namespace SL
open PySem PySem.Spec PyProof.Rows L2

/-- where a piece of code stands -/
structure Ctx where
  P : Program
  w : World
  K : PySem.W.Frag
  mg : Str → Option Value
  base : Heap
  N : List Str
  sc : Scope
  k : Nat
  ow : Str → Bool
structure Good (X : Cx) (c : Ctx) : Prop where
  prog : X.prog = c.P
  ww : X.w = c.w
  K : X.K = c.K
  mg : X.mg = c.mg
  base : X.base = c.base
  N : X.N = c.N
  sc : X.env.scope = c.sc
  calm : X.calm = true
  nd : X.N.Nodup
  room : Room c.k X.A
  xe : X.xe = fun _ _ => False
  fn : ∀ x, c.ow x = true → Loc X.env.scope x → (X.fn x = true ∨ X.env.scope.names.lookup x = some .local)

section
variable {X : Cx}
/-- the code itself as its reading -/
def tB (X : Cx) (e : Expr) : TE := fun σ H Q => ∀ pins sh, Inv X pins σ H sh → wpAny (model X.prog X.w) X.A (eval e X.env) (EP X pins σ Q) X.xe sh
theorem peB {e : Expr} : PE X e (tB X e) := ⟨fun pins s σ H Q I h => h pins s I⟩
theorem tB_of {e : Expr} {t : TE} (p : PE X e t) {σ : St} {H : Hp} {Q : VK} (h : t σ H Q) : tB X e σ H Q := fun pins sh I => p.run pins sh σ H Q I h
def tBT (X : Cx) (e : Expr) : TT := fun σ H Q => ∀ pins sh, Inv X pins σ H sh → wpAny (model X.prog X.w) X.A (isTrue e X.env (eval e X.env)) (TP X pins σ Q) X.xe sh
theorem ptB {e : Expr} : PT X e (tBT X e) := ⟨fun pins s σ H Q I h => h pins s I⟩
theorem tBT_of {e : Expr} {t : TT} (p : PT X e t) {σ : St} {H : Hp} {Q : Bool → Hp → Prop} (h : t σ H Q) : tBT X e σ H Q := fun pins sh I => p.run pins sh σ H Q I h
def tBW (X : Cx) (e : Expr) : TT := fun σ H Q => ∀ whole pins sh, Inv X pins σ H sh → wpAny (model X.prog X.w) X.A (isTrue e X.env whole) (TP X pins σ Q) X.xe sh
theorem pwB {e : Expr} : PW X e (tBW X e) := ⟨fun wh pins s σ H Q I h => h wh pins s I⟩
theorem tBW_of {e : Expr} {t : TT} (p : PW X e t) {σ : St} {H : Hp} {Q : Bool → Hp → Prop} (h : t σ H Q) : tBW X e σ H Q := fun wh pins sh I => p.run wh pins sh σ H Q I h
def tBA (X : Cx) (es : List Expr) : TA := fun σ H Q => ∀ pos pins sh, Inv X pins σ H sh → wpAny (model X.prog X.w) X.A (spliced (backTo pos (starEach es X.env))) (AP X pins σ Q) X.xe sh
theorem paB {es : List Expr} : PA X es (tBA X es) := ⟨fun pos pins s σ H Q I h => h pos pins s I⟩
theorem tBA_of {es : List Expr} {t : TA} (p : PA X es t) {σ : St} {H : Hp} {Q : List V → Hp → Prop} (h : t σ H Q) : tBA X es σ H Q := fun pos pins sh I => p.run pos pins sh σ H Q I h
def tBSs (X : Cx) (st : List Stmt) : TS := fun D σ H => ∀ pins sh, Inv X pins σ H sh → wpAny (model X.prog X.w) X.A (execs st X.env) (SP X pins D) X.xe sh
theorem pssB {st : List Stmt} : PSs X st (tBSs X st) := ⟨fun pins s σ H D I h => h pins s I⟩
theorem tBSs_of {st : List Stmt} {t : TS} (p : PSs X st t) {σ : St} {H : Hp} {D : Ends} (h : t D σ H) : tBSs X st D σ H := fun pins sh I => p.run pins sh σ H D I h
def tBS (X : Cx) (st : Stmt) : TS := fun D σ H => ∀ pins sh, Inv X pins σ H sh → wpAny (model X.prog X.w) X.A (exec st X.env) (SP X pins D) X.xe sh
theorem psB {st : Stmt} : PS X st (tBS X st) := ⟨fun pins s σ H D I h => h pins s I⟩
theorem tBS_of {st : Stmt} {t : TS} (p : PS X st t) {σ : St} {H : Hp} {D : Ends} (h : t D σ H) : tBS X st D σ H := fun pins sh I => p.run pins sh σ H D I h
def tBI (X : Cx) (tg iter : Expr) : TI := fun σ H R => ∀ pins sh, Inv X pins σ H sh → wpAny (model X.prog X.w) X.A (eval iter X.env) (fun v s1 => wpAny (model X.prog X.w) X.A (pyIter v) (PIE X pins σ tg R) X.xe s1) X.xe sh
theorem piB {tg iter : Expr} : PI X tg iter (tBI X tg iter) := ⟨fun pins s σ H R I h => h pins s I⟩
theorem tBI_of {tg iter : Expr} {t : TI} (p : PI X tg iter t) {σ : St} {H : Hp} {R : It → Hp → Prop} (h : t σ H R) : tBI X tg iter σ H R := fun pins sh I => p.run pins sh σ H R I h
/-- what is known ahead may be used -/
theorem tB_inv {e : Expr} {σ : St} {H : Hp} {Q : VK} (h : (∃ pins sh, Inv X pins σ H sh) → tB X e σ H Q) : tB X e σ H Q := fun pins sh I => h ⟨pins, sh, I⟩ pins sh I

def Post (X : Cx) (f : Frm) (σ : St) (F : Hp) (P : List Addr) (s' : AS) (r : Sv) (Q : VK) : Prop :=
  ∀ v H' F' P' M', Same F F' → P <+: P' → Rep X.K f s' σ H' F' P' M' → RepR X.K f s' H' F' P' M' r v → Q v H'
end

/-- e gives r, from s to s' -/
def Ev (c : Ctx) (e : Expr) (s : AS) (r : Sv) (s' : AS) : Prop :=
  ∀ X, Good X c → ∀ f σ H F P M Q, Rep X.K f s σ H F P M → Post X f σ F P s' r Q → tB X e σ H Q
/-- a test gives b -/
def Tst (c : Ctx) (e : Expr) (s : AS) (b : Bool) (s' : AS) : Prop :=
  ∀ X, Good X c → ∀ f σ H F P M (Q : Bool → Hp → Prop), Rep X.K f s σ H F P M → (∀ H' F' P' M', Same F F' → P <+: P' → Rep X.K f s' σ H' F' P' M' → Q b H') → tBT X e σ H Q
def TstW (c : Ctx) (e : Expr) (s : AS) (b : Bool) (s' : AS) : Prop :=
  ∀ X, Good X c → ∀ f σ H F P M (Q : Bool → Hp → Prop), Rep X.K f s σ H F P M → (∀ H' F' P' M', Same F F' → P <+: P' → Rep X.K f s' σ H' F' P' M' → Q b H') → tBW X e σ H Q
inductive RepAs (K : PySem.W.Frag) (F : Hp) (P : List Addr) : List Sv → List V → Prop
  | nil : RepAs K F P [] []
  | cons {r : Sv} {rs : List Sv} {v : V} {vs : List V} : RepA K F P r v → RepAs K F P rs vs → RepAs K F P (r :: rs) (v :: vs)
/-- arguments -/
def EvA (c : Ctx) (es : List Expr) (s : AS) (rs : List Sv) (s' : AS) : Prop :=
  ∀ X, Good X c → ∀ f σ H F P M (Q : List V → Hp → Prop), Rep X.K f s σ H F P M → (∀ vs H' F' P' M', Same F F' → P <+: P' → Rep X.K f s' σ H' F' P' M' → RepAs X.K F' P' rs vs → Q vs H') → tBA X es σ H Q

section
variable {K : PySem.W.Frag} {F F' : Hp} {P P' : List Addr}
theorem RepAs.mono (h : Same F F') (hp : P <+: P') : ∀ {rs : List Sv} {vs : List V}, RepAs K F P rs vs → RepAs K F' P' rs vs
  | _, _, .nil => .nil
  | _, _, .cons a t => .cons (a.mono h hp) (RepAs.mono h hp t)
theorem RepAs.len : ∀ {rs : List Sv} {vs : List V}, RepAs K F P rs vs → rs.length = vs.length
  | _, _, .nil => rfl
  | _, _, .cons a t => congrArg (· + 1) (RepAs.len t)
theorem RepAs.dats : ∀ {ds : List PyData} {vs : List V}, RepAs K F P (ds.map .dat) vs → DpAll K F vs ds
  | [], _, .nil => .nil
  | d :: ds, _, .cons a t => .cons a (RepAs.dats t)
end

section
variable {c : Ctx} {s s1 s2 s3 : AS} {e a b : Expr} {pos : Pos}
theorem Same.rfl' (F : Hp) : Same F F := fun _ _ h => h
theorem Post.same {X : Cx} {f : Frm} {σ : St} {H F : Hp} {P : List Addr} {M : Nat → Addr} {d : PyData} {Q : VK} {v : V} (q : Post X f σ F P s (.dat d) Q) (R : Rep X.K f s σ H F P M) (h : Dp X.K F v d) : Q v H :=
  q v H F P M (Same.refl F) (List.prefix_refl P) R h
theorem Post.tup {X : Cx} {f : Frm} {σ : St} {H F : Hp} {P : List Addr} {M : Nat → Addr} {ds : List PyData} {vs : List V} {Q : VK} (q : Post X f σ F P s (.dat (.tuple ds)) Q) (R : Rep X.K f s σ H F P M) (h : DpAll X.K F vs ds) :
    ∀ p, H p = none → Q (.ref p) (upd H p (.tup vs)) := fun p hp =>
  q (.ref p) _ _ P M (same_upd (R.freeF hp)) (List.prefix_refl P) (R.alloc (.tup vs) hp) (.tup (.inl (.inl upd_same)) (dpa_mono (same_upd (R.freeF hp)) _ _ h))
theorem Post.lst {X : Cx} {f : Frm} {σ : St} {H F : Hp} {P : List Addr} {M : Nat → Addr} {ds : List PyData} {vs : List V} {Q : VK} (q : Post X f σ F P s (.own ds) Q) (R : Rep X.K f s σ H F P M) (h : DpAll X.K F vs ds) :
    ∀ p, H p = none → Q (.ref p) (upd H p (.lst vs)) := fun p hp =>
  q (.ref p) _ F P M (Same.refl F) (List.prefix_refl P) (R.laid (.lst vs) hp) ⟨p, vs, rfl, upd_same, h, R.freeF hp, R.freeP hp, R.free hp, fun i es e => R.freeM hp e⟩
theorem Post.mono {X : Cx} {f : Frm} {σ : St} {F F1 : Hp} {P P1 : List Addr} {r : Sv} {Q : VK} (q : Post X f σ F P s r Q) (h : Same F F1) (hp : P <+: P1) : Post X f σ F1 P1 s r Q :=
  fun v H' F' P' M' a b => q v H' F' P' M' (h.trans a) (hp.trans b)

/-- a fresh list is data from here on -/
theorem ev_frz {ds : List PyData} (h : Ev c e s (.own ds) s1) : Ev c e s (.dat (.list ds)) s1 := fun X g f σ H F P M Q R q =>
  h X g f σ H F P M Q R fun v H' F' P' M' sm hp R' r => by
    obtain ⟨F2, sm2, R2, r2⟩ := R'.freeze r
    exact q v H' F2 P' M' (sm.trans sm2) hp R2 r2
theorem ev_conv {d d' : PyData} (h : Ev c e s (.dat d) s1) (e1 : d = d') : Ev c e s (.dat d') s1 := e1 ▸ h
theorem ev_convO {d d' : List PyData} (h : Ev c e s (.own d) s1) (e1 : d = d') : Ev c e s (.own d') s1 := e1 ▸ h
theorem ev_res {r r' : Sv} (h : Ev c e s r s1) (e1 : r = r') : Ev c e s r' s1 := e1 ▸ h
/-- the state ahead -/
theorem ev_of {r : Sv} (h : s = s1) (k : Ev c e s1 r s2) : Ev c e s r s2 := h ▸ k

/-! ### names, constants -/
theorem ev_var (i : Nat) {x : Str} {d : PyData} (hs : s.E[i]? = some (some (.dat d)) := by rfl) (hN : c.N[i]? = some x := by rfl) (hv : Vis c.sc x := by first | exact Or.inl rfl | exact Or.inr (Or.inl rfl) | exact Or.inr (Or.inr rfl))
    (hd : (x == ("__debug__" : Str)) = false := by decide) (hcd : (x == ("__classdict__" : Str)) = false := by decide) : Ev c (.Name x pos) s (.dat d) s := by
  intro X g f σ H F P M Q R q
  refine tB_of (pe_var (i := i) (by rw [g.N]; exact hN) (by rw [g.sc]; exact hv) hd hcd) ?_
  obtain ⟨v, h1, h2⟩ := R.dat i d hs
  exact ⟨v, h1, q.same R h2⟩
theorem ev_obj (i : Nat) {x : Str} {j : Nat} (hs : s.E[i]? = some (some (.obj j)) := by rfl) (hN : c.N[i]? = some x := by rfl) (hv : Vis c.sc x := by first | exact Or.inl rfl | exact Or.inr (Or.inl rfl) | exact Or.inr (Or.inr rfl))
    (hd : (x == ("__debug__" : Str)) = false := by decide) (hcd : (x == ("__classdict__" : Str)) = false := by decide) : Ev c (.Name x pos) s (.obj j) s := by
  intro X g f σ H F P M Q R q
  refine tB_of (pe_var (i := i) (by rw [g.N]; exact hN) (by rw [g.sc]; exact hv) hd hcd) ?_
  obtain ⟨a, h1, h2⟩ := R.ob i j hs
  exact ⟨.ref a, h2, q _ H F P M (Same.refl F) (List.prefix_refl P) R ⟨a, h1, rfl⟩⟩
theorem ev_int {i : Int} {j : Nat} : Ev c (.Constant (.int i) j pos) s (.dat (.int i)) s := fun X g f σ H F P M Q R q => tB_of pe_int (q.same R (.int i))
theorem ev_bool {i : Bool} {j : Nat} : Ev c (.Constant (.bool i) j pos) s (.dat (.bool i)) s := fun X g f σ H F P M Q R q => tB_of pe_bl (q.same R (.bl i))
theorem ev_none {j : Nat} : Ev c (.Constant .none j pos) s (.dat .none) s := fun X g f σ H F P M Q R q => tB_of pe_non (q.same R .non)
theorem ev_str {x : Str} {j : Nat} : Ev c (.Constant (.str x) j pos) s (.dat (.str x)) s := fun X g f σ H F P M Q R q => tB_of pe_str (q.same R (.str x))


/-! ### two operands -/
theorem tB_know {X : Cx} {e : Expr} {σ : St} {H : Hp} {Q : VK} (h : tB X e σ H (fun v H' => (∃ pins sh, Inv X pins σ H' sh) → Q v H')) : tB X e σ H Q := fun pins sh I =>
  thn (h pins sh I) fun u s' ⟨v, H', I', r, q⟩ => ⟨v, H', I', r, q ⟨pins, s', I'⟩⟩
def Act1 (c : Ctx) (rr : Cx → V → Hp → VK → Prop) (s : AS) (x : PyData) (z : Sv) (s' : AS) : Prop :=
  ∀ X, Good X c → ∀ f σ H F P M v (Q : VK), (∃ pins sh, Inv X pins σ H sh) → Rep X.K f s σ H F P M → Dp X.K F v x → Post X f σ F P s' z Q → rr X v H Q
def Act2 (c : Ctx) (rr : Cx → R2) (s : AS) (x y : PyData) (z : Sv) (s' : AS) : Prop :=
  ∀ X, Good X c → ∀ f σ H F P M v u (Q : VK), (∃ pins sh, Inv X pins σ H sh) → Rep X.K f s σ H F P M → Dp X.K F v x → Dp X.K F u y → Post X f σ F P s' z Q → rr X v u H Q
theorem ev_two {x y : PyData} {z : Sv} {rr : Cx → R2} {e : Expr} (he : ∀ X, Good X c → PE X e (tOp (rr X) (tB X a) (tB X b))) (ha : Ev c a s (.dat x) s1) (hb : Ev c b s1 (.dat y) s2)
    (hr : Act2 c rr s2 x y z s3) : Ev c e s z s3 := by
  intro X g f σ H F P M Q R q
  refine tB_of (he X g) ?_
  refine ha X g f σ H F P M _ R fun v H1 F1 P1 M1 m1 p1 R1 r1 => ?_
  refine tB_know ?_
  refine hb X g f σ H1 F1 P1 M1 _ R1 fun u H2 F2 P2 M2 m2 p2 R2 r2 kn => ?_
  exact hr X g f σ H2 F2 P2 M2 v u Q kn R2 (dp_mono m2 _ _ r1) r2 ((q.mono m1 p1).mono m2 p2)
theorem ev_one {x : PyData} {z : Sv} {rr : Cx → V → Hp → VK → Prop} {e : Expr} (he : ∀ X, Good X c → PE X e (tUn (rr X) (tB X a))) (ha : Ev c a s (.dat x) s1)
    (hr : Act1 c rr s1 x z s2) : Ev c e s z s2 := by
  intro X g f σ H F P M Q R q
  refine tB_of (he X g) ?_
  refine tB_know ?_
  exact ha X g f σ H F P M _ R fun v H1 F1 P1 M1 m1 p1 R1 r1 kn => hr X g f σ H1 F1 P1 M1 v Q kn R1 r1 (q.mono m1 p1)
theorem ev_op {op : Operator} {x y : PyData} {z : Sv} {rr : Cx → R2} (ho : ∀ X, Good X c → OpR X (binaryOp op) (rr X)) (ha : Ev c a s (.dat x) s1) (hb : Ev c b s1 (.dat y) s2)
    (hr : Act2 c rr s2 x y z s3) : Ev c (.BinOp a op b pos) s z s3 := ev_two (fun X g => pe_op (ho X g) peB peB) ha hb hr
theorem ev_cmp {op : CmpOp} {x y : PyData} {z : Sv} {rr : Cx → R2} (ho : ∀ X, Good X c → OpR X (compareOp op) (rr X)) (ha : Ev c a s (.dat x) s1) (hb : Ev c b s1 (.dat y) s2)
    (hr : Act2 c rr s2 x y z s3) (hm : behindInMarks op b = false) : Ev c (.Compare a [op] [b] pos) s z s3 := ev_two (fun X g => pe_cmpR (ho X g) peB peB hm) ha hb hr
theorem tst_cmp {op : CmpOp} {x y : PyData} {z : Bool} {rr : Cx → R2} (ho : ∀ X, Good X c → OpR X (compareOp op) (rr X)) (ha : Ev c a s (.dat x) s1) (hb : Ev c b s1 (.dat y) s2)
    (hr : Act2 c rr s2 x y (.dat (.bool z)) s3) (hm : behindInMarks op b = false) : Tst c (.Compare a [op] [b] pos) s z s3 := by
  intro X g f σ H F P M Q R q
  refine tBT_of (pt_cmpR (ho X g) peB peB hm) ?_
  show tB X a σ H _
  refine ha X g f σ H F P M _ R fun v H1 F1 P1 M1 m1 p1 R1 r1 => ?_
  refine tB_know ?_
  refine hb X g f σ H1 F1 P1 M1 _ R1 fun u H2 F2 P2 M2 m2 p2 R2 r2 kn => ?_
  refine hr X g f σ H2 F2 P2 M2 v u _ kn R2 (dp_mono m2 _ _ r1) r2 fun w H3 F3 P3 M3 m3 p3 R3 r3 => ?_
  cases r3
  exact ⟨z, rfl, q H3 F3 P3 M3 ((m1.trans m2).trans m3) ((p1.trans p2).trans p3) R3⟩

theorem actI {rr : Cx → R2} {g : Int → Int → V} {C : Int → Int → Prop} {i j : Int} {d : PyData} (h : ∀ X, rr X = rI C g) (hC : C i j) (hd : ∀ K F, Dp K F (g i j) d) : Act2 c rr s (.int i) (.int j) (.dat d) s := by
  intro X gd f σ H F P M v u Q kn R rv ru q
  rw [h]
  cases rv
  cases ru
  exact ⟨i, j, rfl, rfl, hC, q.same R (hd _ _)⟩
theorem actI0 {rr : Cx → R2} {g : Int → Int → V} {i j : Int} {d : PyData} (h : ∀ X, rr X = rI0 g) (hd : ∀ K F, Dp K F (g i j) d) : Act2 c rr s (.int i) (.int j) (.dat d) s := by
  intro X gd f σ H F P M v u Q kn R rv ru q
  rw [h]
  cases rv
  cases ru
  exact ⟨i, j, rfl, rfl, q.same R (hd _ _)⟩
section
variable {i j : Int} (ha : Ev c a s (.dat (.int i)) s1) (hb : Ev c b s1 (.dat (.int j)) s2)
include ha hb
theorem ev_add : Ev c (.BinOp a .Add b pos) s (.dat (.int (i + j))) s2 := ev_op (fun X g => op_add) ha hb (actI0 (fun _ => rfl) fun _ _ => .int _)
theorem ev_sub : Ev c (.BinOp a .Sub b pos) s (.dat (.int (i - j))) s2 := ev_op (fun X g => op_sub) ha hb (actI0 (fun _ => rfl) fun _ _ => .int _)
theorem ev_mul (h : CMul i j) : Ev c (.BinOp a .Mult b pos) s (.dat (.int (i * j))) s2 := ev_op (fun X g => op_mul) ha hb (actI (fun _ => rfl) h fun _ _ => .int _)
theorem ev_fdiv (h : CDiv i j) : Ev c (.BinOp a .FloorDiv b pos) s (.dat (.int (i / j))) s2 := ev_op (fun X g => op_fdiv) ha hb (actI (fun _ => rfl) h fun _ _ => .int _)
theorem ev_mod (h : 0 < j) : Ev c (.BinOp a .Mod b pos) s (.dat (.int (i % j))) s2 := ev_op (fun X g => op_mod) ha hb (actI (fun _ => rfl) h fun _ _ => .int _)
theorem ev_pow (h : CPow i j) : Ev c (.BinOp a .Pow b pos) s (.dat (.int (i ^ j.toNat))) s2 := ev_op (fun X g => op_pow) ha hb (actI (fun _ => rfl) h fun _ _ => .int _)
theorem ev_xor : Ev c (.BinOp a .BitXor b pos) s (.dat (.int (Builtin.bitXor i j))) s2 := ev_op (fun X g => op_xor) ha hb (actI0 (fun _ => rfl) fun _ _ => .int _)
theorem ev_lt : Ev c (.Compare a [.Lt] [b] pos) s (.dat (.bool (decide (i < j)))) s2 := ev_cmp (fun X g => op_lt) ha hb (actI0 (fun _ => rfl) fun _ _ => .bl _) (nomark _)
theorem ev_le : Ev c (.Compare a [.LtE] [b] pos) s (.dat (.bool (decide (i ≤ j)))) s2 := ev_cmp (fun X g => op_le) ha hb (actI0 (fun _ => rfl) fun _ _ => .bl _) (nomark _)
theorem ev_gt : Ev c (.Compare a [.Gt] [b] pos) s (.dat (.bool (decide (j < i)))) s2 := ev_cmp (fun X g => op_gt) ha hb (actI0 (fun _ => rfl) fun _ _ => .bl _) (nomark _)
theorem ev_ge : Ev c (.Compare a [.GtE] [b] pos) s (.dat (.bool (decide (j ≤ i)))) s2 := ev_cmp (fun X g => op_ge) ha hb (actI0 (fun _ => rfl) fun _ _ => .bl _) (nomark _)
theorem tst_lt : Tst c (.Compare a [.Lt] [b] pos) s (decide (i < j)) s2 := tst_cmp (fun X g => op_lt) ha hb (actI0 (fun _ => rfl) fun _ _ => .bl _) (nomark _)
theorem tst_le : Tst c (.Compare a [.LtE] [b] pos) s (decide (i ≤ j)) s2 := tst_cmp (fun X g => op_le) ha hb (actI0 (fun _ => rfl) fun _ _ => .bl _) (nomark _)
theorem tst_gt : Tst c (.Compare a [.Gt] [b] pos) s (decide (j < i)) s2 := tst_cmp (fun X g => op_gt) ha hb (actI0 (fun _ => rfl) fun _ _ => .bl _) (nomark _)
theorem tst_ge : Tst c (.Compare a [.GtE] [b] pos) s (decide (j ≤ i)) s2 := tst_cmp (fun X g => op_ge) ha hb (actI0 (fun _ => rfl) fun _ _ => .bl _) (nomark _)
end
theorem ev_neg {i : Int} (ha : Ev c a s (.dat (.int i)) s1) : Ev c (.UnaryOp .USub a pos) s (.dat (.int (-i))) s1 := ev_one (rr := fun _ => rU fun i => .int (-i)) (fun X g => pe_un un_neg peB) ha fun X g f σ H F P M v Q kn R r q => by
  cases r
  exact ⟨i, rfl, q.same R (.int _)⟩
/-- == of data -/
def Shp (d : PyData) : Prop := SeqAt.shaped d = true
section
variable {x y : PyData} (ha : Ev c a s (.dat x) s1) (hb : Ev c b s1 (.dat y) s2) (hx : Shp x) (hy : Shp y)
include ha hb hx hy
theorem actEq : Act2 c (fun X => rEqD X.K) s2 x y (.dat (.bool (PyData.eqv x y))) s2 := fun X g f σ H F P M v u Q kn R r1 r2 q =>
  ⟨x, y, dp_mono R.sub _ _ r1, dp_mono R.sub _ _ r2, hx, hy, q.same R (.bl _)⟩
theorem actNe : Act2 c (fun X => rNeD X.K) s2 x y (.dat (.bool (!PyData.eqv x y))) s2 := fun X g f σ H F P M v u Q kn R r1 r2 q =>
  ⟨x, y, dp_mono R.sub _ _ r1, dp_mono R.sub _ _ r2, hx, hy, q.same R (.bl _)⟩
theorem ev_eq : Ev c (.Compare a [.Eq] [b] pos) s (.dat (.bool (PyData.eqv x y))) s2 := ev_cmp (fun X g => op_eqD g.room.units) ha hb (actEq ha hb hx hy) (nomark _)
theorem ev_ne : Ev c (.Compare a [.NotEq] [b] pos) s (.dat (.bool (!PyData.eqv x y))) s2 := ev_cmp (fun X g => op_neD g.room.units) ha hb (actNe ha hb hx hy) (nomark _)
theorem tst_eq : Tst c (.Compare a [.Eq] [b] pos) s (PyData.eqv x y) s2 := tst_cmp (fun X g => op_eqD g.room.units) ha hb (actEq ha hb hx hy) (nomark _)
theorem tst_ne : Tst c (.Compare a [.NotEq] [b] pos) s (!PyData.eqv x y) s2 := tst_cmp (fun X g => op_neD g.room.units) ha hb (actNe ha hb hx hy) (nomark _)
end
/-- is None -/
def isNoneD : PyData → Bool
  | .none => true
  | _ => false
theorem dp_none {K : PySem.W.Frag} {F : Hp} {v : V} {d : PyData} (h : Dp K F v d) : decide (v = .non) = isNoneD d := by
  cases h <;> rfl
section
variable {x : PyData} {j : Nat} {pos' : Pos} (ha : Ev c a s (.dat x) s1)
include ha
theorem ev_isN : Ev c (.Compare a [.Is] [.Constant .none j pos'] pos) s (.dat (.bool (isNoneD x))) s1 :=
  ev_cmp (rr := fun _ => fun x y H Q => y = .non ∧ Q (.bl (decide (x = .non))) H) (fun X g => op_isN) ha ev_none (fun X g f σ H F P M v u Q kn R r1 r2 q => by
    cases r2
    exact ⟨rfl, by rw [dp_none r1]; exact q.same R (.bl _)⟩) (nomark _)
theorem ev_notN : Ev c (.Compare a [.IsNot] [.Constant .none j pos'] pos) s (.dat (.bool (!isNoneD x))) s1 :=
  ev_cmp (rr := fun _ => fun x y H Q => y = .non ∧ Q (.bl (!decide (x = .non))) H) (fun X g => op_notN) ha ev_none (fun X g f σ H F P M v u Q kn R r1 r2 q => by
    cases r2
    exact ⟨rfl, by rw [dp_none r1]; exact q.same R (.bl _)⟩) (nomark _)
theorem tst_isN : Tst c (.Compare a [.Is] [.Constant .none j pos'] pos) s (isNoneD x) s1 :=
  tst_cmp (rr := fun _ => fun x y H Q => y = .non ∧ Q (.bl (decide (x = .non))) H) (fun X g => op_isN) ha ev_none (fun X g f σ H F P M v u Q kn R r1 r2 q => by
    cases r2
    exact ⟨rfl, by rw [dp_none r1]; exact q.same R (.bl _)⟩) (nomark _)
theorem tst_notN : Tst c (.Compare a [.IsNot] [.Constant .none j pos'] pos) s (!isNoneD x) s1 :=
  tst_cmp (rr := fun _ => fun x y H Q => y = .non ∧ Q (.bl (!decide (x = .non))) H) (fun X g => op_notN) ha ev_none (fun X g f σ H F P M v u Q kn R r1 r2 q => by
    cases r2
    exact ⟨rfl, by rw [dp_none r1]; exact q.same R (.bl _)⟩) (nomark _)
end

/-! ### tests -/
/-- a value that is True or False, as a test -/
theorem tst_val {k : Bool} (ha : Ev c e s (.dat (.bool k)) s1) (he : ∀ env whole, isTrue e env whole = (do let v ← whole; standAt e.pos; holding [v] (truthy v)) := by intro _ _; rfl) : Tst c e s k s1 := by
  intro X g f σ H F P M Q R q
  refine tBT_of (pt_val peB (he _)) ?_
  refine ha X g f σ H F P M _ R fun v H1 F1 P1 M1 m1 p1 R1 r1 => ?_
  cases r1
  exact ⟨k, rfl, q H1 F1 P1 M1 m1 p1 R1⟩
/-- the truth of data -/
def truD : PyData → Bool
  | .none => false
  | .bool b => b
  | .int i => i != 0
  | .str x => (x.length : Int) != 0
  | .list xs => !xs.isEmpty
  | .tuple xs => !xs.isEmpty
  | .dict _ => false
def strOk : PyData → Prop
  | .str x => x.length ≤ 16777216
  | _ => True
theorem dpa_emp {K : PySem.W.Frag} {F : Hp} {vs : List V} {ds : List PyData} (h : DpAll K F vs ds) : vs.isEmpty = ds.isEmpty := by
  cases h <;> rfl
theorem tru_dp {K : PySem.W.Frag} {F H : Hp} {v : V} {d : PyData} (h : Dp K F v d) (sm : Same F H) (ok : strOk d) : TruV K v H (truD d) := by
  cases h with
  | non => rfl
  | bl b => rfl
  | int i => rfl
  | str x => exact ⟨by rw [sizeLine_eq]; exact ok, rfl⟩
  | lst hs ha => exact .inl ⟨_, sql_mono sm hs, by rw [dpa_emp ha] <;> rfl⟩
  | tup hs ha => exact .inr (.inl ⟨_, sqt_mono sm hs, by rw [dpa_emp ha] <;> rfl⟩)
theorem tst_tru {x : PyData} (ha : Ev c e s (.dat x) s1) (ok : strOk x) (he : ∀ env whole, isTrue e env whole = (do let v ← whole; standAt e.pos; holding [v] (truthy v)) := by intro _ _; rfl) : Tst c e s (truD x) s1 := by
  intro X g f σ H F P M Q R q
  refine tBT_of (pt_truth peB (he _)) ?_
  refine ha X g f σ H F P M _ R fun v H1 F1 P1 M1 m1 p1 R1 r1 => ?_
  exact ⟨_, tru_dp r1 R1.sub ok, q H1 F1 P1 M1 m1 p1 R1⟩
theorem tst_not {k : Bool} (h : Tst c e s k s1) : Tst c (.UnaryOp .Not e pos) s (!k) s1 := by
  intro X g f σ H F P M Q R q
  refine tBT_of (pt_not ptB) ?_
  exact h X g f σ H F P M _ R fun H1 F1 P1 M1 m1 p1 R1 => q H1 F1 P1 M1 m1 p1 R1
theorem tw_and1 {k : Bool} (h : Tst c e s k s1) : TstW c (.BoolOp .And [e] pos) s k s1 := fun X g f σ H F P M Q R q => tBW_of (pw_and1 ptB) (h X g f σ H F P M Q R q)
theorem tw_or1 {k : Bool} (h : Tst c e s k s1) : TstW c (.BoolOp .Or [e] pos) s k s1 := fun X g f σ H F P M Q R q => tBW_of (pw_or1 ptB) (h X g f σ H F P M Q R q)
theorem tw_and {k l : Bool} {rest : List Expr} (h : Tst c a s k s1) (h2 : k = true → TstW c (.BoolOp .And (b :: rest) pos) s1 l s2) (h3 : k = false → s1 = s2) : TstW c (.BoolOp .And (a :: b :: rest) pos) s (k && l) s2 := by
  intro X g f σ H F P M Q R q
  refine tBW_of (pw_and ptB pwB) ?_
  refine h X g f σ H F P M _ R fun H1 F1 P1 M1 m1 p1 R1 => ?_
  cases k with
  | true =>
    rw [if_pos rfl]
    exact h2 rfl X g f σ H1 F1 P1 M1 _ R1 fun H2 F2 P2 M2 m2 p2 R2 => q H2 F2 P2 M2 (m1.trans m2) (p1.trans p2) R2
  | false =>
    rw [if_neg Bool.false_ne_true]
    have e := h3 rfl
    subst e
    exact q H1 F1 P1 M1 m1 p1 R1
theorem tw_or {k l : Bool} {rest : List Expr} (h : Tst c a s k s1) (h2 : k = false → TstW c (.BoolOp .Or (b :: rest) pos) s1 l s2) (h3 : k = true → s1 = s2) : TstW c (.BoolOp .Or (a :: b :: rest) pos) s (k || l) s2 := by
  intro X g f σ H F P M Q R q
  refine tBW_of (pw_or ptB pwB) ?_
  refine h X g f σ H F P M _ R fun H1 F1 P1 M1 m1 p1 R1 => ?_
  cases k with
  | false =>
    rw [if_neg Bool.false_ne_true]
    exact h2 rfl X g f σ H1 F1 P1 M1 _ R1 fun H2 F2 P2 M2 m2 p2 R2 => q H2 F2 P2 M2 (m1.trans m2) (p1.trans p2) R2
  | true =>
    rw [if_pos rfl]
    have e := h3 rfl
    subst e
    exact q H1 F1 P1 M1 m1 p1 R1
theorem tst_w {k : Bool} (h : TstW c e s k s1) : Tst c e s k s1 := fun X g f σ H F P M Q R q => fun pins sh I => h X g f σ H F P M Q R q _ pins sh I

/-! ### and, or, not, if as values -/
theorem ev_one1 {op : BoolOp} {r : Sv} (h : Ev c a s r s1) : Ev c (.BoolOp op [a] pos) s r s1 := fun X g f σ H F P M Q R q => tB_of (pe_one peB) (h X g f σ H F P M Q R q)
theorem ev_and {k : Bool} {l : PyData} {rest : List Expr} (h : Ev c a s (.dat (.bool k)) s1) (h2 : k = true → Ev c (.BoolOp .And (b :: rest) pos) s1 (.dat l) s2) (h3 : k = false → s1 = s2 ∧ l = .bool false) : Ev c (.BoolOp .And (a :: b :: rest) pos) s (.dat l) s2 := by
  intro X g f σ H F P M Q R q
  refine tB_of (pe_and peB peB) ?_
  refine h X g f σ H F P M _ R fun v H1 F1 P1 M1 m1 p1 R1 r1 => ?_
  cases r1
  refine ⟨k, rfl, ?_⟩
  cases k with
  | true =>
    rw [if_pos rfl]
    exact h2 rfl X g f σ H1 F1 P1 M1 _ R1 (q.mono m1 p1)
  | false =>
    rw [if_neg Bool.false_ne_true]
    obtain ⟨e1, e2⟩ := h3 rfl
    subst e1; subst e2
    exact (q.mono m1 p1).same R1 (.bl _)
theorem ev_or {k : Bool} {l : PyData} {rest : List Expr} (h : Ev c a s (.dat (.bool k)) s1) (h2 : k = false → Ev c (.BoolOp .Or (b :: rest) pos) s1 (.dat l) s2) (h3 : k = true → s1 = s2 ∧ l = .bool true) : Ev c (.BoolOp .Or (a :: b :: rest) pos) s (.dat l) s2 := by
  intro X g f σ H F P M Q R q
  refine tB_of (pe_or peB peB) ?_
  refine h X g f σ H F P M _ R fun v H1 F1 P1 M1 m1 p1 R1 r1 => ?_
  cases r1
  refine ⟨k, rfl, ?_⟩
  cases k with
  | false =>
    rw [if_neg Bool.false_ne_true]
    exact h2 rfl X g f σ H1 F1 P1 M1 _ R1 (q.mono m1 p1)
  | true =>
    rw [if_pos rfl]
    obtain ⟨e1, e2⟩ := h3 rfl
    subst e1; subst e2
    exact (q.mono m1 p1).same R1 (.bl _)
theorem ev_not {k : Bool} (h : Ev c a s (.dat (.bool k)) s1) : Ev c (.UnaryOp .Not a pos) s (.dat (.bool (!k))) s1 := by
  intro X g f σ H F P M Q R q
  refine tB_of (pe_not peB) ?_
  refine h X g f σ H F P M _ R fun v H1 F1 P1 M1 m1 p1 R1 r1 => ?_
  cases r1
  exact ⟨k, rfl, (q.mono m1 p1).same R1 (.bl _)⟩
theorem ev_ife {t : Expr} {k : Bool} {r : Sv} (h : Tst c t s k s1) (h1 : k = true → Ev c a s1 r s2) (h2 : k = false → Ev c b s1 r s2) : Ev c (.IfExp t a b pos) s r s2 := by
  intro X g f σ H F P M Q R q
  refine tB_of (pe_ifExp ptB peB peB) ?_
  refine h X g f σ H F P M _ R fun H1 F1 P1 M1 m1 p1 R1 => ?_
  cases k with
  | true => rw [if_pos rfl]; exact h1 rfl X g f σ H1 F1 P1 M1 _ R1 (q.mono m1 p1)
  | false => rw [if_neg Bool.false_ne_true]; exact h2 rfl X g f σ H1 F1 P1 M1 _ R1 (q.mono m1 p1)
/-- a op b op' c, ints -/
theorem ev_chain {op op' : CmpOp} {x y z : PyData} {k : Bool} {l : PyData} {d : Expr} {rr rr' : Cx → R2} (ho : ∀ X, Good X c → OpR X (compareOp op) (rr X)) (ho' : ∀ X, Good X c → OpR X (compareOp op') (rr' X)) (ha : Ev c a s (.dat x) s1) (hb : Ev c b s1 (.dat y) s2)
    (hr : Act2 c rr s2 x y (.dat (.bool k)) s2) (hd : k = true → Ev c d s2 (.dat z) s3) (hr' : k = true → Act2 c rr' s3 y z (.dat l) s3) (hF : k = false → s2 = s3 ∧ l = .bool false)
    (he : ∀ X, Good X c → PE X e (tChain (rr X) (rr' X) (tB X a) (tB X b) (tB X d))) : Ev c e s (.dat l) s3 := by
  intro X g f σ H F P M Q R q
  refine tB_of (he X g) ?_
  show tB X a σ H _
  refine ha X g f σ H F P M _ R fun v H1 F1 P1 M1 m1 p1 R1 r1 => ?_
  refine tB_know ?_
  refine hb X g f σ H1 F1 P1 M1 _ R1 fun u H2 F2 P2 M2 m2 p2 R2 r2 kn => ?_
  refine hr X g f σ H2 F2 P2 M2 v u _ kn R2 (dp_mono m2 _ _ r1) r2 fun w H3 F3 P3 M3 m3 p3 R3 r3 => ?_
  cases r3
  refine ⟨k, rfl, ?_⟩
  cases k with
  | true =>
    rw [if_pos rfl]
    refine tB_know ?_
    refine hd rfl X g f σ H3 F3 P3 M3 _ R3 fun w H4 F4 P4 M4 m4 p4 R4 r4 kn => ?_
    exact hr' rfl X g f σ H4 F4 P4 M4 u w _ kn R4 (dp_mono m4 _ _ (dp_mono m3 _ _ r2)) r4 ((((q.mono m1 p1).mono m2 p2).mono m3 p3).mono m4 p4)
  | false =>
    rw [if_neg Bool.false_ne_true]
    obtain ⟨e1, e2⟩ := hF rfl
    subst e1; subst e2
    exact (((q.mono m1 p1).mono m2 p2).mono m3 p3).same R3 (.bl _)

/-! ### displays -/
theorem eva_nil : EvA c [] s [] s := fun X g f σ H F P M Q R q => tBA_of pa_nil (q [] H F P M (Same.refl F) (List.prefix_refl P) R .nil)
theorem eva_cons {es : List Expr} {r : Sv} {rs : List Sv} (h : Ev c e s r s1) (h2 : EvA c es s1 rs s2) (hr : ∀ ds, r ≠ .own ds := by intro _ z; cases z) (hs : ∀ env, starEach (e :: es) env = (false, eval e env) :: starEach es env := by intro _; rfl) : EvA c (e :: es) s (r :: rs) s2 := by
  intro X g f σ H F P M Q R q
  refine tBA_of (pa_cons peB paB (hs _)) ?_
  refine h X g f σ H F P M _ R fun v H1 F1 P1 M1 m1 p1 R1 r1 => ?_
  refine h2 X g f σ H1 F1 P1 M1 _ R1 fun vs H2 F2 P2 M2 m2 p2 R2 r2 => ?_
  refine q (v :: vs) H2 F2 P2 M2 (m1.trans m2) (p1.trans p2) R2 (.cons ?_ r2)
  have : RepA X.K F1 P1 r v := by
    cases r with
    | dat d => exact r1
    | obj j => exact r1
    | own ds => exact absurd rfl (hr ds)
  exact this.mono m2 p2
theorem ev_tup {es : List Expr} {ds : List PyData} {k : Nat} (h : EvA c es s (ds.map .dat) s1) (hl : ds.length ≤ 16777216 := by simp) : Ev c (.Tuple es k pos) s (.dat (.tuple ds)) s1 := by
  intro X g f σ H F P M Q R q
  refine tB_of (pe_tup paB) ?_
  refine h X g f σ H F P M _ R fun vs H1 F1 P1 M1 m1 p1 R1 r1 => ⟨?_, ?_⟩
  · have := r1.len
    rw [List.length_map] at this
    rw [sizeLine_eq]; omega
  · exact (q.mono m1 p1).tup R1 r1.dats
theorem ev_lst {es : List Expr} {ds : List PyData} (h : EvA c es s (ds.map .dat) s1) (hl : ds.length ≤ 16777216 := by simp) : Ev c (.List es pos) s (.own ds) s1 := by
  intro X g f σ H F P M Q R q
  refine tB_of (pe_lst paB) ?_
  refine h X g f σ H F P M _ R fun vs H1 F1 P1 M1 m1 p1 R1 r1 => ⟨?_, ?_⟩
  · have := r1.len
    rw [List.length_map] at this
    rw [sizeLine_eq]; omega
  · exact (q.mono m1 p1).lst R1 r1.dats
end
end SL

/-! SL, the third part: calls, subscripts, slices. -/
namespace SL
open PySem PySem.Spec PyProof.Rows L2

/-- a readable list or tuple -/
def Sq (K : PySem.W.Frag) (H : Hp) (a : Addr) (vs : List V) : Prop := SqL K H a vs ∨ SqT K H a vs
/-- e gives a sequence that can be read: data, or a list of one's own -/
def EvQ (c : Ctx) (e : Expr) (s : AS) (ds : List PyData) (s' : AS) : Prop :=
  ∀ X, Good X c → ∀ f σ H F P M (Q : VK), Rep X.K f s σ H F P M → (∀ a vs H' F' P' M', Same F F' → P <+: P' → Rep X.K f s' σ H' F' P' M' → Sq X.K H' a vs → DpAll X.K F' vs ds → Q (.ref a) H') → tB X e σ H Q
/-- .. a list -/
def EvL (c : Ctx) (e : Expr) (s : AS) (ds : List PyData) (s' : AS) : Prop :=
  ∀ X, Good X c → ∀ f σ H F P M (Q : VK), Rep X.K f s σ H F P M → (∀ a vs H' F' P' M', Same F F' → P <+: P' → Rep X.K f s' σ H' F' P' M' → SqL X.K H' a vs → DpAll X.K F' vs ds → Q (.ref a) H') → tB X e σ H Q
section
variable {c : Ctx} {s s1 s2 s3 : AS} {e a b : Expr} {es : List Expr} {pos p : Pos} {ds : List PyData}
theorem evl_dat (h : Ev c e s (.dat (.list ds)) s1) : EvL c e s ds s1 := fun X g f σ H F P M Q R q =>
  h X g f σ H F P M Q R fun v H1 F1 P1 M1 m1 p1 R1 r1 => by
    have r : Dp X.K F1 v (.list ds) := r1
    cases r with
    | lst hs ha => exact q _ _ H1 F1 P1 M1 m1 p1 R1 (sql_mono R1.sub hs) ha
theorem evl_own (h : Ev c e s (.own ds) s1) : EvL c e s ds s1 := fun X g f σ H F P M Q R q =>
  h X g f σ H F P M Q R fun v H1 F1 P1 M1 m1 p1 R1 r1 => by
    obtain ⟨a, vs, rfl, h1, h2, _⟩ := r1
    exact q a vs H1 F1 P1 M1 m1 p1 R1 (.inl (.inl h1)) h2
theorem evl_var (i : Nat) {x : Str} (hs : s.E[i]? = some (some (.own ds)) := by rfl) (hN : c.N[i]? = some x := by rfl) (hv : Vis c.sc x := by first | exact Or.inl rfl | exact Or.inr (Or.inl rfl) | exact Or.inr (Or.inr rfl))
    (hd : (x == ("__debug__" : Str)) = false := by decide) (hcd : (x == ("__classdict__" : Str)) = false := by decide) : EvL c (.Name x pos) s ds s := by
  intro X g f σ H F P M Q R q
  refine tB_of (pe_var (i := i) (by rw [g.N]; exact hN) (by rw [g.sc]; exact hv) hd hcd) ?_
  obtain ⟨h1, ⟨vs, h2, h3⟩, _⟩ := R.own i ds hs
  exact ⟨_, h1, q _ vs H F P M (Same.refl F) (List.prefix_refl P) R (.inl (.inl h2)) h3⟩
theorem evq_l (h : EvL c e s ds s1) : EvQ c e s ds s1 := fun X g f σ H F P M Q R q =>
  h X g f σ H F P M Q R fun a vs H1 F1 P1 M1 m1 p1 R1 r1 d1 => q a vs H1 F1 P1 M1 m1 p1 R1 (.inl r1) d1
theorem evq_t (h : Ev c e s (.dat (.tuple ds)) s1) : EvQ c e s ds s1 := fun X g f σ H F P M Q R q =>
  h X g f σ H F P M Q R fun v H1 F1 P1 M1 m1 p1 R1 r1 => by
    have r : Dp X.K F1 v (.tuple ds) := r1
    cases r with
    | tup hs ha => exact q _ _ H1 F1 P1 M1 m1 p1 R1 (.inr (sqt_mono R1.sub hs)) ha
theorem evl_conv {ds' : List PyData} (h : EvL c e s ds s1) (e1 : ds = ds') : EvL c e s ds' s1 := e1 ▸ h
theorem evq_conv {ds' : List PyData} (h : EvQ c e s ds s1) (e1 : ds = ds') : EvQ c e s ds' s1 := e1 ▸ h

/-- the builtins that no module's name hides -/
structure Bl (mg : Str → Option Value) : Prop where
  len : mg "len" = none
  range : mg "range" = none
  tuple : mg "tuple" = none
  list : mg "list" = none
  int : mg "int" = none
  bool : mg "bool" = none
  str : mg "str" = none
  abs : mg "abs" = none
  sum : mg "sum" = none
  min : mg "min" = none
  max : mg "max" = none
  sorted : mg "sorted" = none
  all : mg "all" = none
  any : mg "any" = none
  isinstance : mg "isinstance" = none
  set : mg "set" = none
  enumerate : mg "enumerate" = none
  zip : mg "zip" = none

/-- a name of the module or a builtin -/
abbrev GlC (c : Ctx) (x : Str) : Prop := c.sc.names.lookup x = some .globalImplicit
theorem Good.gl {X : Cx} {x : Str} (g : Good X c) (h : GlC c x) : Gl X x := by
  show X.env.scope.names.lookup x = some .globalImplicit
  rw [g.sc]; exact h

/-- one argument, a builtin -/
theorem ev_b1 {id : String} {x : Str} {rr : Cx → List V → Hp → VK → Prop} {d : PyData} {z : Sv} (hc : ∀ X, Good X c → CallR X (.builtin id) (rr X)) (hv : bootBuiltins x = some (.builtin id)) (hn : x ≠ "__name__") (hdb : (x == ("__debug__" : Str)) = false)
    (hm : c.mg x = none) (hg : GlC c x) (ha : Ev c a s (.dat d) s1)
    (he : ∀ env, starEach [a] env = (false, eval a env) :: starEach [] env) (hr : Act1 c (fun X v H Q => rr X [v] H Q) s1 d z s2) : Ev c (.Call (.Name x p) [a] [] pos) s z s2 := by
  intro X g f σ H F P M Q R q
  refine tB_of (pe_callB (hc X g) (g.gl hg) (by rw [g.mg]; exact hm) hv (pa_cons peB pa_nil (he _)) hn hdb (he _) rfl) ?_
  show tB X a σ H _
  refine tB_know ?_
  exact ha X g f σ H F P M _ R fun v H1 F1 P1 M1 m1 p1 R1 r1 kn => hr X g f σ H1 F1 P1 M1 v Q kn R1 r1 (q.mono m1 p1)
theorem ev_t1 {T : String} {x : Str} {rr : Cx → List V → Hp → VK → Prop} {d : PyData} {z : Sv} (hc : ∀ X, Good X c → CallR X (.type T) (rr X)) (hv : bootBuiltins x = some (.type T)) (hn : x ≠ "__name__") (hdb : (x == ("__debug__" : Str)) = false)
    (hm : c.mg x = none) (hg : GlC c x) (ha : Ev c a s (.dat d) s1)
    (he : ∀ env, starEach [a] env = (false, eval a env) :: starEach [] env) (hr : Act1 c (fun X v H Q => rr X [v] H Q) s1 d z s2) : Ev c (.Call (.Name x p) [a] [] pos) s z s2 := by
  intro X g f σ H F P M Q R q
  refine tB_of (pe_callTy (hc X g) (g.gl hg) (by rw [g.mg]; exact hm) hv (pa_cons peB pa_nil (he _)) hn hdb (he _) rfl) ?_
  show tB X a σ H _
  refine tB_know ?_
  exact ha X g f σ H F P M _ R fun v H1 F1 P1 M1 m1 p1 R1 r1 kn => hr X g f σ H1 F1 P1 M1 v Q kn R1 r1 (q.mono m1 p1)
/-- one argument, a sequence -/
def ActQ (c : Ctx) (rr : Cx → V → Hp → VK → Prop) (s : AS) (ds : List PyData) (z : Sv) (s' : AS) : Prop :=
  ∀ X, Good X c → ∀ f σ H F P M a vs (Q : VK), (∃ pins sh, Inv X pins σ H sh) → Rep X.K f s σ H F P M → Sq X.K H a vs → DpAll X.K F vs ds → Post X f σ F P s' z Q → rr X (.ref a) H Q
def ActL (c : Ctx) (rr : Cx → V → Hp → VK → Prop) (s : AS) (ds : List PyData) (z : Sv) (s' : AS) : Prop :=
  ∀ X, Good X c → ∀ f σ H F P M a vs (Q : VK), (∃ pins sh, Inv X pins σ H sh) → Rep X.K f s σ H F P M → SqL X.K H a vs → DpAll X.K F vs ds → Post X f σ F P s' z Q → rr X (.ref a) H Q
theorem ev_bQ {id : String} {x : Str} {rr : Cx → List V → Hp → VK → Prop} {z : Sv} (hc : ∀ X, Good X c → CallR X (.builtin id) (rr X)) (hv : bootBuiltins x = some (.builtin id)) (hn : x ≠ "__name__") (hdb : (x == ("__debug__" : Str)) = false)
    (hm : c.mg x = none) (hg : GlC c x) (ha : EvQ c a s ds s1)
    (he : ∀ env, starEach [a] env = (false, eval a env) :: starEach [] env) (hr : ActQ c (fun X v H Q => rr X [v] H Q) s1 ds z s2) : Ev c (.Call (.Name x p) [a] [] pos) s z s2 := by
  intro X g f σ H F P M Q R q
  refine tB_of (pe_callB (hc X g) (g.gl hg) (by rw [g.mg]; exact hm) hv (pa_cons peB pa_nil (he _)) hn hdb (he _) rfl) ?_
  show tB X a σ H _
  refine tB_know ?_
  exact ha X g f σ H F P M _ R fun v vs H1 F1 P1 M1 m1 p1 R1 r1 d1 kn => hr X g f σ H1 F1 P1 M1 v vs Q kn R1 r1 d1 (q.mono m1 p1)
theorem ev_tQ {T : String} {x : Str} {rr : Cx → List V → Hp → VK → Prop} {z : Sv} (hc : ∀ X, Good X c → CallR X (.type T) (rr X)) (hv : bootBuiltins x = some (.type T)) (hn : x ≠ "__name__") (hdb : (x == ("__debug__" : Str)) = false)
    (hm : c.mg x = none) (hg : GlC c x) (ha : EvQ c a s ds s1)
    (he : ∀ env, starEach [a] env = (false, eval a env) :: starEach [] env) (hr : ActQ c (fun X v H Q => rr X [v] H Q) s1 ds z s2) : Ev c (.Call (.Name x p) [a] [] pos) s z s2 := by
  intro X g f σ H F P M Q R q
  refine tB_of (pe_callTy (hc X g) (g.gl hg) (by rw [g.mg]; exact hm) hv (pa_cons peB pa_nil (he _)) hn hdb (he _) rfl) ?_
  show tB X a σ H _
  refine tB_know ?_
  exact ha X g f σ H F P M _ R fun v vs H1 F1 P1 M1 m1 p1 R1 r1 d1 kn => hr X g f σ H1 F1 P1 M1 v vs Q kn R1 r1 d1 (q.mono m1 p1)
theorem ev_bL {id : String} {x : Str} {rr : Cx → List V → Hp → VK → Prop} {z : Sv} (hc : ∀ X, Good X c → CallR X (.builtin id) (rr X)) (hv : bootBuiltins x = some (.builtin id)) (hn : x ≠ "__name__") (hdb : (x == ("__debug__" : Str)) = false)
    (hm : c.mg x = none) (hg : GlC c x) (ha : EvL c a s ds s1)
    (he : ∀ env, starEach [a] env = (false, eval a env) :: starEach [] env) (hr : ActL c (fun X v H Q => rr X [v] H Q) s1 ds z s2) : Ev c (.Call (.Name x p) [a] [] pos) s z s2 := by
  intro X g f σ H F P M Q R q
  refine tB_of (pe_callB (hc X g) (g.gl hg) (by rw [g.mg]; exact hm) hv (pa_cons peB pa_nil (he _)) hn hdb (he _) rfl) ?_
  show tB X a σ H _
  refine tB_know ?_
  exact ha X g f σ H F P M _ R fun v vs H1 F1 P1 M1 m1 p1 R1 r1 d1 kn => hr X g f σ H1 F1 P1 M1 v vs Q kn R1 r1 d1 (q.mono m1 p1)

theorem ev_len (B : Bl c.mg) (ha : EvQ c a s ds s1) (hg : GlC c "len" := by rfl) (he : ∀ env, starEach [a] env = (false, eval a env) :: starEach [] env := by intro _; rfl) : Ev c (.Call (.Name "len" p) [a] [] pos) s (.dat (.int ds.length)) s1 :=
  ev_bQ (fun X g => call_len_seq) PySem.boot_len (by decide) (by decide) B.len hg ha he fun X g f σ H F P M a vs Q kn R h d q => by
    refine ⟨a, vs, rfl, h, ?_⟩
    rw [dpa_len d]
    exact q.same R (.int _)
theorem ev_lenS {x : Str} (B : Bl c.mg) (ha : Ev c a s (.dat (.str x)) s1) (hz : x.length ≤ 16777216) (hg : GlC c "len" := by rfl) (he : ∀ env, starEach [a] env = (false, eval a env) :: starEach [] env := by intro _; rfl) :
    Ev c (.Call (.Name "len" p) [a] [] pos) s (.dat (.int x.length)) s1 :=
  ev_b1 (fun X g => call_len_str) PySem.boot_len (by decide) (by decide) B.len hg ha he fun X g f σ H F P M v Q kn R h q => by
    cases h
    exact ⟨x, rfl, by rw [sizeLine_eq]; exact hz, q.same R (.int _)⟩
theorem ev_tuple (B : Bl c.mg) (ha : EvL c a s ds s1) (hg : GlC c "tuple" := by rfl) (he : ∀ env, starEach [a] env = (false, eval a env) :: starEach [] env := by intro _; rfl) : Ev c (.Call (.Name "tuple" p) [a] [] pos) s (.dat (.tuple ds)) s1 := by
  intro X g f σ H F P M Q R q
  refine tB_of (pe_callTy (call_tuple_of) (g.gl hg) (by rw [g.mg]; exact B.tuple) boot_tuple (pa_cons peB pa_nil (he _)) (by decide) (by decide) (he _) rfl) ?_
  show tB X a σ H _
  refine ha X g f σ H F P M _ R fun v vs H1 F1 P1 M1 m1 p1 R1 r1 d1 => ?_
  exact ⟨v, vs, rfl, .inl ⟨r1, (q.mono m1 p1).tup R1 d1⟩⟩
theorem ev_tupleT (B : Bl c.mg) (ha : Ev c a s (.dat (.tuple ds)) s1) (hg : GlC c "tuple" := by rfl) (he : ∀ env, starEach [a] env = (false, eval a env) :: starEach [] env := by intro _; rfl) : Ev c (.Call (.Name "tuple" p) [a] [] pos) s (.dat (.tuple ds)) s1 :=
  ev_t1 (fun X g => call_tuple_of) boot_tuple (by decide) (by decide) B.tuple hg ha he fun X g f σ H F P M v Q kn R h q => by
    have hh : Dp X.K F v (.tuple ds) := h
    cases hh with
    | tup hs hd => exact ⟨_, _, rfl, .inr ⟨sqt_mono R.sub hs, q.same R (.tup hs hd)⟩⟩
theorem ev_list (B : Bl c.mg) (ha : EvQ c a s ds s1) (hg : GlC c "list" := by rfl) (he : ∀ env, starEach [a] env = (false, eval a env) :: starEach [] env := by intro _; rfl) : Ev c (.Call (.Name "list" p) [a] [] pos) s (.own ds) s1 :=
  ev_tQ (fun X g => call_list_of) boot_list (by decide) (by decide) B.list hg ha he fun X g f σ H F P M v vs Q kn R h d q => ⟨v, vs, rfl, h, q.lst R d⟩
theorem ev_intI {i : Int} (B : Bl c.mg) (ha : Ev c a s (.dat (.int i)) s1) (hg : GlC c "int" := by rfl) (he : ∀ env, starEach [a] env = (false, eval a env) :: starEach [] env := by intro _; rfl) : Ev c (.Call (.Name "int" p) [a] [] pos) s (.dat (.int i)) s1 :=
  ev_t1 (fun X g => call_int1) boot_int (by decide) (by decide) B.int hg ha he fun X g f σ H F P M v Q kn R h q => by
    cases h
    exact .inl ⟨i, rfl, q.same R (.int _)⟩
theorem ev_abs {i : Int} (B : Bl c.mg) (ha : Ev c a s (.dat (.int i)) s1) (hg : GlC c "abs" := by rfl) (he : ∀ env, starEach [a] env = (false, eval a env) :: starEach [] env := by intro _; rfl) : Ev c (.Call (.Name "abs" p) [a] [] pos) s (.dat (.int (i.natAbs : Nat))) s1 :=
  ev_b1 (fun X g => call_abs) (by decide +kernel) (by decide) (by decide) B.abs hg ha he fun X g f σ H F P M v Q kn R h q => by
    cases h
    refine ⟨i, rfl, ?_⟩
    have e : (if i < 0 then -i else i) = ((i.natAbs : Nat) : Int) := by split <;> omega
    rw [e]
    exact q.same R (.int _)
theorem dpa_bools {K : PySem.W.Frag} {F : Hp} : ∀ {bs : List Bool} {vs : List V}, DpAll K F vs (bs.map .bool) → vs = bs.map V.bl
  | [], _, h => by cases h; rfl
  | b :: bs, _, h => by
    cases h with
    | cons h1 h2 =>
      cases h1
      rw [dpa_bools h2] <;> rfl
theorem dpa_intsI {K : PySem.W.Frag} {F : Hp} : ∀ {bs : List Int} {vs : List V}, DpAll K F vs (bs.map .int) → vs = bs.map V.int
  | [], _, h => by cases h; rfl
  | b :: bs, _, h => by
    cases h with
    | cons h1 h2 =>
      cases h1
      rw [dpa_intsI h2] <;> rfl
theorem dpa_strsS {K : PySem.W.Frag} {F : Hp} : ∀ {bs : List Str} {vs : List V}, DpAll K F vs (bs.map .str) → vs = bs.map V.str
  | [], _, h => by cases h; rfl
  | b :: bs, _, h => by
    cases h with
    | cons h1 h2 =>
      cases h1
      rw [dpa_strsS h2] <;> rfl
theorem ev_all {bs : List Bool} (B : Bl c.mg) (ha : EvL c a s (bs.map .bool) s1) (hg : GlC c "all" := by rfl) (he : ∀ env, starEach [a] env = (false, eval a env) :: starEach [] env := by intro _; rfl) : Ev c (.Call (.Name "all" p) [a] [] pos) s (.dat (.bool (bs.all id))) s1 :=
  ev_bL (fun X g => cr_all g.calm) (by decide +kernel) (by decide) (by decide) B.all hg ha he fun X g f σ H F P M v vs Q kn R h d q => by
    rw [dpa_bools d] at h
    exact ⟨v, bs, rfl, h, q.same R (.bl _)⟩
theorem ev_any {bs : List Bool} (B : Bl c.mg) (ha : EvL c a s (bs.map .bool) s1) (hg : GlC c "any" := by rfl) (he : ∀ env, starEach [a] env = (false, eval a env) :: starEach [] env := by intro _; rfl) : Ev c (.Call (.Name "any" p) [a] [] pos) s (.dat (.bool (bs.any id))) s1 :=
  ev_bL (fun X g => cr_any g.calm) (by decide +kernel) (by decide) (by decide) B.any hg ha he fun X g f σ H F P M v vs Q kn R h d q => by
    rw [dpa_bools d] at h
    exact ⟨v, bs, rfl, h, q.same R (.bl _)⟩
theorem ev_sum {ns : List Int} (B : Bl c.mg) (ha : EvL c a s (ns.map .int) s1) (hg : GlC c "sum" := by rfl) (he : ∀ env, starEach [a] env = (false, eval a env) :: starEach [] env := by intro _; rfl) : Ev c (.Call (.Name "sum" p) [a] [] pos) s (.dat (.int ns.sum)) s1 :=
  ev_bL (fun X g => cr_sum g.calm) (by decide +kernel) (by decide) (by decide) B.sum hg ha he fun X g f σ H F P M v vs Q kn R h d q => by
    rw [dpa_intsI d] at h
    exact ⟨v, ns, rfl, h, q.same R (.int _)⟩

/-! ### subscripts -/
def idxD : PyData → Int → Option PyData
  | .list xs, i => atI xs i
  | .tuple xs, i => atI xs i
  | .str z, i => (atI z.cps.toList i).map fun n => .str ⟨#[n]⟩
  | _, _ => none
theorem atI_dp {K : PySem.W.Frag} {F : Hp} {vs : List V} {xs : List PyData} {i : Int} {d : PyData} (h : DpAll K F vs xs) (e : atI xs i = some d) : ∃ v, atI vs i = some v ∧ Dp K F v d := by
  unfold atI at e ⊢
  rw [dpa_len h]
  cases q : ixN xs.length i with
  | none => rw [q] at e; cases e
  | some j =>
    rw [q] at e
    exact dpa_get' h e
theorem ev_ix {x : PyData} {i : Int} {d : PyData} (ha : Ev c a s (.dat x) s1) (hb : Ev c b s1 (.dat (.int i)) s2) (h : idxD x i = some d) (ok : strOk x) (hs : PlainIx b := by intro _ _; rfl) : Ev c (.Subscript a b pos) s (.dat d) s2 :=
  ev_two (rr := fun X => rIx X.K) (fun X g => pe_ix ix_seq peB peB hs) ha hb fun X g f σ H F P M v u Q kn R r1 r2 q => by
    cases r2
    cases r1 with
    | lst hs hd =>
      obtain ⟨w, e1, e2⟩ := atI_dp hd h
      exact .inl ⟨_, _, i, w, rfl, rfl, sql_mono R.sub hs, e1, q.same R e2⟩
    | tup hs hd =>
      obtain ⟨w, e1, e2⟩ := atI_dp hd h
      exact .inr (.inl ⟨_, _, i, w, rfl, rfl, sqt_mono R.sub hs, e1, q.same R e2⟩)
    | str z =>
      have h : (atI z.cps.toList i).map (fun n => PyData.str ⟨#[n]⟩) = some d := h
      cases e : atI z.cps.toList i with
      | none => rw [e] at h; cases h
      | some n =>
        rw [e] at h
        have h := Option.some.inj h
        subst h
        exact .inr (.inr ⟨z, i, n, rfl, rfl, by rw [sizeLine_eq]; exact ok, e, q.same R (.str _)⟩)
    | non => cases h
    | bl => cases h
    | int => cases h

/-- an item of a list of one's own -/
theorem ev_ixO (i : Nat) {x : Str} {k : Int} {d : PyData} {ds1 : List PyData} (hb : Ev c b s (.dat (.int k)) s1) (h : atI ds k = some d) (hs : s.E[i]? = some (some (.own ds1)) := by rfl) (hs1 : s1.E[i]? = some (some (.own ds)) := by rfl)
    (hN : c.N[i]? = some x := by rfl) (hv : Vis c.sc x := by first | exact Or.inl rfl | exact Or.inr (Or.inl rfl) | exact Or.inr (Or.inr rfl))
    (hd : (x == ("__debug__" : Str)) = false := by decide) (hcd : (x == ("__classdict__" : Str)) = false := by decide) (hp : PlainIx b := by intro _ _; rfl) : Ev c (.Subscript (.Name x p) b pos) s (.dat d) s1 := by
  intro X g f σ H F P M Q R q
  refine tB_of (pe_ix ix_list (pe_var (i := i) (by rw [g.N]; exact hN) (by rw [g.sc]; exact hv) hd hcd) peB hp) ?_
  obtain ⟨h1, _⟩ := R.own i ds1 hs
  refine ⟨_, h1, ?_⟩
  refine hb X g f σ H F P M _ R fun w H1 F1 P1 M1 m1 p1 R1 r1 => ?_
  cases r1
  obtain ⟨h2, ⟨vs, h3, h4⟩, _⟩ := R1.own i ds hs1
  have e : M1 i = M i := by
    rw [h1] at h2
    exact (V.ref.inj (Option.some.inj (Option.some.inj h2))).symm
  rw [e] at h3
  obtain ⟨u, e1, e2⟩ := atI_dp h4 h
  exact ⟨_, vs, k, u, rfl, rfl, .inl (.inl h3), e1, (q.mono m1 p1).same R1 e2⟩

/-! ### slices -/
def EvO (c : Ctx) (e : Option Expr) (s : AS) (o : Option Int) (s' : AS) : Prop :=
  match e with
  | none => o = none ∧ s = s'
  | some e => ∃ i, o = some i ∧ Ev c e s (.dat (.int i)) s'
def tBO (X : Cx) : Option Expr → TO
  | none => tNoPart
  | some e => tPart (tB X e)
theorem poB {X : Cx} : ∀ {e : Option Expr}, PO X e (tBO X e)
  | none => po_none
  | some e => po_some peB
theorem evo_n : EvO c none s none s := ⟨rfl, rfl⟩
theorem evo_s {i : Int} (h : Ev c e s (.dat (.int i)) s1) : EvO c (some e) s (some i) s1 := ⟨i, rfl, h⟩
theorem EvO.run {o : Option Int} {eo : Option Expr} (h : EvO c eo s o s1) {X : Cx} (g : Good X c) {f : Frm} {σ : St} {H F : Hp} {P : List Addr} {M : Nat → Addr} {Q : Option Int → Hp → Prop} (R : Rep X.K f s σ H F P M)
    (q : ∀ H' F' P' M', Same F F' → P <+: P' → Rep X.K f s1 σ H' F' P' M' → Q o H') : tBO X eo σ H Q := by
  cases eo with
  | none =>
    obtain ⟨e1, e2⟩ := h
    subst e1; subst e2
    exact q H F P M (Same.refl F) (List.prefix_refl P) R
  | some e =>
    obtain ⟨i, e1, h⟩ := h
    subst e1
    refine h X g f σ H F P M _ R fun v H1 F1 P1 M1 m1 p1 R1 r1 => ?_
    cases r1
    exact ⟨i, rfl, q H1 F1 P1 M1 m1 p1 R1⟩
/-- the items of xs[lo:hi] -/
def cutA {α : Type} (xs : List α) (lo hi : Option Int) : List α := (xs.drop (HT.sIx xs.length 0 lo)).take (HT.sIx xs.length xs.length hi - HT.sIx xs.length 0 lo)
theorem cutA_whole {α : Type} {xs : List α} {lo hi : Option Int} (h : HT.sIx xs.length 0 lo = 0 ∧ HT.sIx xs.length xs.length hi = xs.length) : cutA xs lo hi = xs := by
  unfold cutA
  rw [h.1, h.2]
  simp
theorem cutA_map {α β : Type} (g : α → β) (xs : List α) (lo hi : Option Int) : cutA (xs.map g) lo hi = (cutA xs lo hi).map g := by
  unfold cutA
  rw [List.length_map, List.map_take, List.map_drop]
theorem dpa_cut {K : PySem.W.Frag} {F : Hp} {vs : List V} (h : DpAll K F vs ds) (lo hi : Option Int) : DpAll K F (cutV vs lo hi) (cutA ds lo hi) := by
  unfold cutV cutA
  rw [dpa_len h]
  exact dpa_take _ (dpa_drop _ h)
theorem ev_slT {lo hi : Option Expr} {l u : Option Int} {p2 : Pos} (ha : Ev c a s (.dat (.tuple ds)) s1) (hl : EvO c lo s1 l s2) (hu : EvO c hi s2 u s3) : Ev c (.Subscript a (.Slice lo hi none p2) pos) s (.dat (.tuple (cutA ds l u))) s3 := by
  intro X g f σ H F P M Q R q
  refine tB_of (pe_slice sl_tupA peB poB poB) ?_
  refine ha X g f σ H F P M _ R fun v H1 F1 P1 M1 m1 p1 R1 r1 => ?_
  refine hl.run g R1 fun H2 F2 P2 M2 m2 p2 R2 => ?_
  refine hu.run g R2 fun H3 F3 P3 M3 m3 p3 R3 => ?_
  have r : Dp X.K F3 v (.tuple ds) := dp_mono (m2.trans m3) _ _ r1
  have q3 := ((q.mono m1 p1).mono m2 p2).mono m3 p3
  cases r with
  | tup hs hd =>
    refine ⟨_, _, rfl, sqt_mono R3.sub hs, fun hw => ?_, fun _ => q3.tup R3 (dpa_cut hd l u)⟩
    have e : cutA ds l u = ds := cutA_whole (by rw [← dpa_len hd]; exact hw)
    rw [e] at q3
    exact q3.same R3 (.tup hs hd)
theorem ev_slL {lo hi : Option Expr} {l u : Option Int} {p2 : Pos} (ha : Ev c a s (.dat (.list ds)) s1) (hl : EvO c lo s1 l s2) (hu : EvO c hi s2 u s3) : Ev c (.Subscript a (.Slice lo hi none p2) pos) s (.own (cutA ds l u)) s3 := by
  intro X g f σ H F P M Q R q
  refine tB_of (pe_slice sl_list peB poB poB) ?_
  refine ha X g f σ H F P M _ R fun v H1 F1 P1 M1 m1 p1 R1 r1 => ?_
  refine hl.run g R1 fun H2 F2 P2 M2 m2 p2 R2 => ?_
  refine hu.run g R2 fun H3 F3 P3 M3 m3 p3 R3 => ?_
  have r : Dp X.K F3 v (.list ds) := dp_mono (m2.trans m3) _ _ r1
  have q3 := ((q.mono m1 p1).mono m2 p2).mono m3 p3
  cases r with
  | lst hs hd => exact ⟨_, _, rfl, sql_mono R3.sub hs, q3.lst R3 (dpa_cut hd l u)⟩
theorem ev_slS {lo hi : Option Expr} {l u : Option Int} {p2 : Pos} {z : Str} (ha : Ev c a s (.dat (.str z)) s1) (hl : EvO c lo s1 l s2) (hu : EvO c hi s2 u s3) (hz : z.length ≤ 16777216) : Ev c (.Subscript a (.Slice lo hi none p2) pos) s (.dat (.str ⟨(cutA z.cps.toList l u).toArray⟩)) s3 := by
  intro X g f σ H F P M Q R q
  refine tB_of (pe_slice sl_str peB poB poB) ?_
  refine ha X g f σ H F P M _ R fun v H1 F1 P1 M1 m1 p1 R1 r1 => ?_
  refine hl.run g R1 fun H2 F2 P2 M2 m2 p2 R2 => ?_
  refine hu.run g R2 fun H3 F3 P3 M3 m3 p3 R3 => ?_
  have q3 := ((q.mono m1 p1).mono m2 p2).mono m3 p3
  cases r1
  refine ⟨z, rfl, by rw [sizeLine_eq]; exact hz, ?_⟩
  have e : cutS z l u = ⟨(cutA z.cps.toList l u).toArray⟩ := by
    unfold cutS cutA
    rw [Array.length_toList]
    rfl
  rw [e]
  exact q3.same R3 (.str _)

/-! ### + of tuples, lists, texts -/
theorem dpa_nil_iff {K : PySem.W.Frag} {F : Hp} {vs : List V} (h : DpAll K F vs ds) : vs = [] ↔ ds = [] := by
  cases h <;> simp
theorem ev_catT {es : List PyData} (ha : Ev c a s (.dat (.tuple ds)) s1) (hb : Ev c b s1 (.dat (.tuple es)) s2) (hz : ds.length + es.length ≤ 16777216) : Ev c (.BinOp a .Add b pos) s (.dat (.tuple (ds ++ es))) s2 :=
  ev_op (rr := fun X => rCatA X.K) (fun X g => op_catA) ha hb fun X g f σ H F P M v u Q kn R r1 r2 q => by
    cases r1 with
    | tup hs hd =>
      cases r2 with
      | tup hs2 hd2 =>
        refine ⟨_, _, _, _, rfl, rfl, sqt_mono R.sub hs, sqt_mono R.sub hs2, by rw [dpa_len hd, dpa_len hd2, sizeLine_eq]; exact hz, fun e => ?_, fun _ e => ?_, fun _ _ => q.tup R (dpa_append hd hd2)⟩
        · have e := (dpa_nil_iff hd).mp e
          subst e
          exact q.same R (.tup hs2 hd2)
        · have e := (dpa_nil_iff hd2).mp e
          subst e
          rw [List.append_nil] at q
          exact q.same R (.tup hs hd)
theorem ev_catS {x y : Str} (ha : Ev c a s (.dat (.str x)) s1) (hb : Ev c b s1 (.dat (.str y)) s2) (hz : x.length + y.length ≤ 16777216) : Ev c (.BinOp a .Add b pos) s (.dat (.str (x ++ y))) s2 :=
  ev_op (rr := fun X => fun x y H Q => ∃ i j, x = .str i ∧ y = .str j ∧ i.length + j.length ≤ sizeLine ∧ Q (.str (i ++ j)) H) (fun X g => op_add_str) ha hb fun X g f σ H F P M v u Q kn R r1 r2 q => by
    cases r1
    cases r2
    exact ⟨x, y, rfl, rfl, by rw [sizeLine_eq]; exact hz, q.same R (.str _)⟩
end
end SL

/-! SL, the fourth part: stores, statements, loops, comprehensions, defs. -/
namespace SL
open PySem PySem.Spec PyProof.Rows L2

section
variable {K : PySem.W.Frag} {f : Frm} {s : AS} {σ : St} {H F : Hp} {P : List Addr} {M : Nat → Addr}
theorem set_get {α : Type} {l : List α} {i j : Nat} {x y : α} (h : (l.set i x)[j]? = some y) : (j = i ∧ y = x ∧ i < l.length) ∨ (j ≠ i ∧ l[j]? = some y) := by
  by_cases e : i = j
  · subst e
    by_cases hl : i < l.length
    · rw [List.getElem?_set_self hl] at h
      exact .inl ⟨rfl, (Option.some.inj h).symm, hl⟩
    · rw [List.getElem?_eq_none (by simpa using hl)] at h; cases h
  · rw [List.getElem?_set_ne e] at h
    exact .inr ⟨fun z => e z.symm, h⟩
/-- data in a slot -/
theorem Rep.setD (R : Rep K f s σ H F P M) (i : Nat) {d : PyData} {v : V} (h : Dp K F v d) : Rep K f ⟨s.E.set i (some (.dat d)), s.S⟩ (σ.set i (some v)) H F P M where
  sub := R.sub
  frame := R.frame
  ffr := R.ffr
  pre := R.pre
  len := by rw [List.length_set]; show _ = (s.E.set i _).length; rw [List.length_set]; exact R.len
  dat := fun j d' e => by
    rcases set_get e with ⟨rfl, e2, hl⟩ | ⟨ne, e2⟩
    · cases e2
      exact ⟨v, by rw [List.getElem?_set_self (by rw [R.len]; exact hl)], h⟩
    · obtain ⟨w, q1, q2⟩ := R.dat j d' e2
      exact ⟨w, by rw [List.getElem?_set_ne (Ne.symm ne)]; exact q1, q2⟩
  ob := fun j k e => by
    rcases set_get e with ⟨rfl, e2, hl⟩ | ⟨ne, e2⟩
    · cases e2
    · obtain ⟨w, q1, q2⟩ := R.ob j k e2
      exact ⟨w, q1, by rw [List.getElem?_set_ne (Ne.symm ne)]; exact q2⟩
  own := fun j ds e => by
    rcases set_get e with ⟨rfl, e2, hl⟩ | ⟨ne, e2⟩
    · cases e2
    · obtain ⟨q1, q⟩ := R.own j ds e2
      exact ⟨by rw [List.getElem?_set_ne (Ne.symm ne)]; exact q1, q⟩
  inj := fun j k ds es e1 e2 => by
    rcases set_get e1 with ⟨rfl, z, hl⟩ | ⟨ne, z⟩
    · cases z
    · rcases set_get e2 with ⟨rfl, z2, hl⟩ | ⟨ne2, z2⟩
      · cases z2
      · exact R.inj j k ds es z z2
  plen := R.plen
  so := R.so
  nd := R.nd
/-- an object of the store in a slot -/
theorem Rep.setO (R : Rep K f s σ H F P M) (i : Nat) {k : Nat} {a : Addr} (h : P[k]? = some a) : Rep K f ⟨s.E.set i (some (.obj k)), s.S⟩ (σ.set i (some (.ref a))) H F P M where
  sub := R.sub
  frame := R.frame
  ffr := R.ffr
  pre := R.pre
  len := by rw [List.length_set]; show _ = (s.E.set i _).length; rw [List.length_set]; exact R.len
  dat := fun j d' e => by
    rcases set_get e with ⟨rfl, e2, hl⟩ | ⟨ne, e2⟩
    · cases e2
    · obtain ⟨w, q1, q2⟩ := R.dat j d' e2
      exact ⟨w, by rw [List.getElem?_set_ne (Ne.symm ne)]; exact q1, q2⟩
  ob := fun j k' e => by
    rcases set_get e with ⟨rfl, e2, hl⟩ | ⟨ne, e2⟩
    · cases e2
      exact ⟨a, h, by rw [List.getElem?_set_self (by rw [R.len]; exact hl)]⟩
    · obtain ⟨w, q1, q2⟩ := R.ob j k' e2
      exact ⟨w, q1, by rw [List.getElem?_set_ne (Ne.symm ne)]; exact q2⟩
  own := fun j ds e => by
    rcases set_get e with ⟨rfl, e2, hl⟩ | ⟨ne, e2⟩
    · cases e2
    · obtain ⟨q1, q⟩ := R.own j ds e2
      exact ⟨by rw [List.getElem?_set_ne (Ne.symm ne)]; exact q1, q⟩
  inj := fun j k ds es e1 e2 => by
    rcases set_get e1 with ⟨rfl, z, hl⟩ | ⟨ne, z⟩
    · cases z
    · rcases set_get e2 with ⟨rfl, z2, hl⟩ | ⟨ne2, z2⟩
      · cases z2
      · exact R.inj j k ds es z z2
  plen := R.plen
  so := R.so
  nd := R.nd
/-- a fresh list in a slot -/
theorem Rep.setL (R : Rep K f s σ H F P M) (i : Nat) {ds : List PyData} {v : V} (h : RepR K f s H F P M (.own ds) v) : ∃ M', Rep K f ⟨s.E.set i (some (.own ds)), s.S⟩ (σ.set i (some v)) H F P M' := by
  obtain ⟨a, vs, rfl, h1, h2, h3, h4, h5, h6⟩ := h
  refine ⟨fun j => if j = i then a else M j, R.sub, R.frame, R.ffr, R.pre, by rw [List.length_set]; show _ = (s.E.set i _).length; rw [List.length_set]; exact R.len, fun j d' e => ?_, fun j k e => ?_, fun j es e => ?_, fun j k es fs e1 e2 em => ?_, R.plen, R.so, R.nd⟩
  · rcases set_get e with ⟨rfl, e2, hl⟩ | ⟨ne, e2⟩
    · cases e2
    · obtain ⟨w, q1, q2⟩ := R.dat j d' e2
      exact ⟨w, by rw [List.getElem?_set_ne (Ne.symm ne)]; exact q1, q2⟩
  · rcases set_get e with ⟨rfl, e2, hl⟩ | ⟨ne, e2⟩
    · cases e2
    · obtain ⟨w, q1, q2⟩ := R.ob j k e2
      exact ⟨w, q1, by rw [List.getElem?_set_ne (Ne.symm ne)]; exact q2⟩
  · rcases set_get e with ⟨rfl, e2, hl⟩ | ⟨ne, e2⟩
    · cases e2
      simp only [if_true]
      exact ⟨by rw [List.getElem?_set_self (by rw [R.len]; exact hl)], ⟨vs, h1, h2⟩, h3, h4, h5⟩
    · obtain ⟨q1, q⟩ := R.own j es e2
      simp only [if_neg ne]
      exact ⟨by rw [List.getElem?_set_ne (Ne.symm ne)]; exact q1, q⟩
  · rcases set_get e1 with ⟨rfl, z, hl⟩ | ⟨ne, z⟩
    · rcases set_get e2 with ⟨rfl, z2, hl2⟩ | ⟨ne2, z2⟩
      · rfl
      · simp only [if_true, if_neg ne2] at em
        exact absurd em.symm (h6 k fs z2)
    · rcases set_get e2 with ⟨rfl, z2, hl2⟩ | ⟨ne2, z2⟩
      · simp only [if_true, if_neg ne] at em
        exact absurd em (h6 j es z)
      · simp only [if_neg ne, if_neg ne2] at em
        exact R.inj j k es fs z z2 em
/-- a list of one's own changes -/
theorem Rep.putL (R : Rep K f s σ H F P M) {i : Nat} {ds es : List PyData} {vs : List V} (hi : s.E[i]? = some (some (.own ds))) (h : DpAll K F vs es) : Rep K f ⟨s.E.set i (some (.own es)), s.S⟩ σ (upd H (M i) (.lst vs)) F P M := by
  obtain ⟨o1, o2, o3, o4, o5⟩ := R.own i ds hi
  refine ⟨fun a o e => ?_, fun a o e hp => ?_, R.ffr, R.pre, by show _ = (s.E.set i _).length; rw [List.length_set]; exact R.len, fun j d' e => ?_, fun j k e => ?_, fun j gs e => ?_, fun j k gs hs e1 e2 em => ?_, R.plen, fun j o a e1 e2 => ?_, R.nd⟩
  · have ne : a ≠ M i := fun z => by rw [z, o3] at e; cases e
    rw [upd_ne ne]; exact R.sub a o e
  · have ne : a ≠ M i := fun z => by rw [z, o5] at e; cases e
    rw [upd_ne ne]; exact R.frame a o e hp
  · rcases set_get e with ⟨rfl, e2, hl⟩ | ⟨ne, e2⟩
    · cases e2
    · exact R.dat j d' e2
  · rcases set_get e with ⟨rfl, e2, hl⟩ | ⟨ne, e2⟩
    · cases e2
    · exact R.ob j k e2
  · rcases set_get e with ⟨rfl, e2, hl⟩ | ⟨ne, e2⟩
    · cases e2
      exact ⟨o1, ⟨vs, upd_same, h⟩, o3, o4, o5⟩
    · obtain ⟨q1, ⟨ws, q2, q3⟩, q4⟩ := R.own j gs e2
      have nm : M j ≠ M i := fun z => ne (R.inj j i gs ds e2 hi z)
      exact ⟨q1, ⟨ws, by rw [upd_ne nm]; exact q2, q3⟩, q4⟩
  · rcases set_get e1 with ⟨rfl, z, hl⟩ | ⟨ne, z⟩
    · rcases set_get e2 with ⟨rfl, z2, hl2⟩ | ⟨ne2, z2⟩
      · rfl
      · exact (R.inj j k ds hs hi z2 em)
    · rcases set_get e2 with ⟨rfl, z2, hl2⟩ | ⟨ne2, z2⟩
      · exact (R.inj j k gs ds z hi em)
      · exact R.inj j k gs hs z z2 em
  · obtain ⟨q1, q2, q3⟩ := R.so j o a e1 e2
    have ne : a ≠ M i := fun z => o4 (z ▸ List.mem_of_getElem? e2)
    exact ⟨by rw [upd_ne ne]; exact q1, q2, q3⟩
/-- forgetting slots -/
def Wk (s s' : AS) : Prop := s'.S = s.S ∧ s'.E.length = s.E.length ∧ ∀ (i : Nat) x, s'.E[i]? = some (some x) → s.E[i]? = some (some x)
theorem Wk.refl (s : AS) : Wk s s := ⟨rfl, rfl, fun _ _ h => h⟩
theorem Rep.wk {s' : AS} (R : Rep K f s σ H F P M) (w : Wk s s') : Rep K f s' σ H F P M where
  sub := R.sub
  frame := R.frame
  ffr := R.ffr
  pre := R.pre
  len := by rw [w.2.1]; exact R.len
  dat := fun i d e => R.dat i d (w.2.2 _ _ e)
  ob := fun i d e => R.ob i d (w.2.2 _ _ e)
  own := fun i d e => R.own i d (w.2.2 _ _ e)
  inj := fun i j ds es e1 e2 => R.inj i j ds es (w.2.2 _ _ e1) (w.2.2 _ _ e2)
  plen := by rw [w.1]; exact R.plen
  so := fun i o a e => R.so i o a (by rw [w.1] at e; exact e)
  nd := R.nd
/-- all slots forgotten -/
theorem Rep.bare (R : Rep K f s σ H F P M) : Rep K f ⟨[], s.S⟩ [] H F P M where
  sub := R.sub
  frame := R.frame
  ffr := R.ffr
  pre := R.pre
  len := rfl
  dat := fun i d e => by simp at e
  ob := fun i d e => by simp at e
  own := fun i d e => by simp at e
  inj := fun i j ds es e1 => by simp at e1
  plen := R.plen
  so := R.so
  nd := R.nd
end

/-- how a statement ends -/
inductive Out where
  | nx (s : AS) | rt (r : Sv) (S : List SObj)
def PostS (X : Cx) (f : Frm) (F : Hp) (D : Ends) : Out → Prop
  | .nx s' => ∀ σ' H' F' P' M', Same F F' → Rep X.K f s' σ' H' F' P' M' → D.nx σ' H'
  | .rt r S' => ∀ v H' F' P' M', Same F F' → Rep X.K f ⟨[], S'⟩ [] H' F' P' M' → RepA X.K F' P' r v → D.rt v H'
theorem PostS.mono {X : Cx} {f : Frm} {F F1 : Hp} {D : Ends} : ∀ {o : Out}, PostS X f F D o → Same F F1 → PostS X f F1 D o
  | .nx s', q, h => fun σ' H' F' P' M' a => q σ' H' F' P' M' (h.trans a)
  | .rt r S', q, h => fun v H' F' P' M' a => q v H' F' P' M' (h.trans a)
def Exs (c : Ctx) (st : List Stmt) (s : AS) (o : Out) : Prop := ∀ X, Good X c → ∀ f σ H F P M (D : Ends), Rep X.K f s σ H F P M → PostS X f F D o → tBSs X st D σ H
def Ex (c : Ctx) (st : Stmt) (s : AS) (o : Out) : Prop := ∀ X, Good X c → ∀ f σ H F P M (D : Ends), Rep X.K f s σ H F P M → PostS X f F D o → tBS X st D σ H
section
variable {c : Ctx} {s s1 s2 s3 : AS} {e : Expr} {st : Stmt} {rest a b : List Stmt} {pos : Pos} {o o1 o2 : Out}
theorem exs_nil : Exs c [] s (.nx s) := fun X g f σ H F P M D R q => tBSs_of pss_nil (q σ H F P M (Same.refl F) R)
theorem exs_cons (h : Ex c st s (.nx s1)) (h2 : Exs c rest s1 o) : Exs c (st :: rest) s o := by
  intro X g f σ H F P M D R q
  refine tBSs_of (pss_cons psB pssB) ?_
  refine h X g f σ H F P M _ R fun σ1 H1 F1 P1 M1 m1 R1 => ?_
  exact h2 X g f σ1 H1 F1 P1 M1 D R1 (q.mono m1)
theorem exs_one (h : Ex c st s o) : Exs c [st] s o := by
  intro X g f σ H F P M D R q
  exact tBSs_of (pss_one psB) (h X g f σ H F P M D R q)
theorem exs_wk (h : Exs c a s (.nx s1)) (w : Wk s1 s2) : Exs c a s (.nx s2) := fun X g f σ H F P M D R q =>
  h X g f σ H F P M D R fun σ1 H1 F1 P1 M1 m1 R1 => q σ1 H1 F1 P1 M1 m1 (R1.wk w)
theorem exs_pre (w : Wk s s1) (h : Exs c a s1 o) : Exs c a s o := fun X g f σ H F P M D R q => h X g f σ H F P M D (R.wk w) q
theorem exs_conv (h : Exs c a s o) (e : o = o1) : Exs c a s o1 := e ▸ h
theorem tBSs_head {X : Cx} {t : TS} (p : PS X st t) {σ : St} {H : Hp} {D : Ends} (h : t { D with nx := fun σ H => tBSs X rest D σ H } σ H) : tBSs X (st :: rest) D σ H := tBSs_of (pss_cons p pssB) h
/-- return e -/
theorem exs_ret {r : Sv} (h : Ev c e s r s1) (hr : ∀ ds, r ≠ .own ds := by intro _ z; cases z) : Exs c (.Return (some e) pos :: rest) s (.rt r s1.S) := by
  intro X g f σ H F P M D R q
  refine tBSs_head (ps_ret peB) ?_
  refine h X g f σ H F P M _ R fun v H1 F1 P1 M1 m1 p1 R1 r1 => ?_
  refine q v H1 F1 P1 M1 m1 R1.bare ?_
  cases r with
  | dat d => exact r1
  | obj j => exact r1
  | own ds => exact absurd rfl (hr ds)
/-- if t: a (which returns); rest -/
theorem exs_if1 {t : Expr} {k : Bool} {r : Sv} {S1 : List SObj} (h : Tst c t s k s1) (h1 : k = true → Exs c a s1 (.rt r S1)) (h2 : k = false → Exs c rest s1 o) : Exs c (.If t a [] pos :: rest) s (cond k (.rt r S1) o) := by
  intro X g f σ H F P M D R q
  refine tBSs_head (ps_if ptB pssB pssB) ?_
  refine h X g f σ H F P M _ R fun H1 F1 P1 M1 m1 p1 R1 => ?_
  cases k with
  | true => rw [if_pos rfl]; exact h1 rfl X g f σ H1 F1 P1 M1 _ R1 (PostS.mono (o := .rt r S1) q m1)
  | false =>
    rw [if_neg Bool.false_ne_true]
    refine exs_nil X g f σ H1 F1 P1 M1 _ R1 fun σ2 H2 F2 P2 M2 m2 R2 => ?_
    exact h2 rfl X g f σ2 H2 F2 P2 M2 D R2 ((PostS.mono (o := o) q m1).mono m2)
/-- the test's answer is known -/
theorem exs_ifT {t : Expr} {r : Sv} {S1 : List SObj} (h : Tst c t s true s1) (h1 : Exs c a s1 (.rt r S1)) : Exs c (.If t a b pos :: rest) s (.rt r S1) := by
  intro X g f σ H F P M D R q
  refine tBSs_head (ps_if ptB pssB pssB) ?_
  refine h X g f σ H F P M _ R fun H1 F1 P1 M1 m1 p1 R1 => ?_
  rw [if_pos rfl]; exact h1 X g f σ H1 F1 P1 M1 _ R1 (PostS.mono (o := .rt r S1) q m1)
theorem exs_ifF {t : Expr} (h : Tst c t s false s1) (h2 : Exs c rest s1 o) : Exs c (.If t a [] pos :: rest) s o := by
  intro X g f σ H F P M D R q
  refine tBSs_head (ps_if ptB pssB pssB) ?_
  refine h X g f σ H F P M _ R fun H1 F1 P1 M1 m1 p1 R1 => ?_
  rw [if_neg Bool.false_ne_true]
  refine exs_nil X g f σ H1 F1 P1 M1 _ R1 fun σ2 H2 F2 P2 M2 m2 R2 => ?_
  exact h2 X g f σ2 H2 F2 P2 M2 D R2 ((PostS.mono q m1).mono m2)
/-- both ways go on to one state -/
theorem ex_if {t : Expr} {k : Bool} (h : Tst c t s k s1) (h1 : k = true → Exs c a s1 o) (h2 : k = false → Exs c b s1 o) : Ex c (.If t a b pos) s o := by
  intro X g f σ H F P M D R q
  refine tBS_of (ps_if ptB pssB pssB) ?_
  refine h X g f σ H F P M _ R fun H1 F1 P1 M1 m1 p1 R1 => ?_
  cases k with
  | true => rw [if_pos rfl]; exact h1 rfl X g f σ H1 F1 P1 M1 _ R1 (q.mono m1)
  | false => rw [if_neg Bool.false_ne_true]; exact h2 rfl X g f σ H1 F1 P1 M1 _ R1 (q.mono m1)
/-- the ways part -/
theorem exs_if2 {t : Expr} {k : Bool} (h : Tst c t s k s1) (h1 : k = true → ∃ u, Exs c a s1 (.nx u) ∧ Exs c rest u o) (h2 : k = false → ∃ u, Exs c b s1 (.nx u) ∧ Exs c rest u o) : Exs c (.If t a b pos :: rest) s o := by
  intro X g f σ H F P M D R q
  refine tBSs_head (ps_if ptB pssB pssB) ?_
  refine h X g f σ H F P M _ R fun H1 F1 P1 M1 m1 p1 R1 => ?_
  cases k with
  | true =>
    rw [if_pos rfl]
    obtain ⟨u, w1, w2⟩ := h1 rfl
    refine w1 X g f σ H1 F1 P1 M1 _ R1 fun σ2 H2 F2 P2 M2 m2 R2 => ?_
    exact w2 X g f σ2 H2 F2 P2 M2 D R2 ((q.mono m1).mono m2)
  | false =>
    rw [if_neg Bool.false_ne_true]
    obtain ⟨u, w1, w2⟩ := h2 rfl
    refine w1 X g f σ H1 F1 P1 M1 _ R1 fun σ2 H2 F2 P2 M2 m2 R2 => ?_
    exact w2 X g f σ2 H2 F2 P2 M2 D R2 ((q.mono m1).mono m2)

/-! ### stores -/
def AS.put (s : AS) (i : Nat) (r : Sv) : AS := ⟨s.E.set i (some r), s.S⟩
theorem Rep.put {K : PySem.W.Frag} {f : Frm} {σ : St} {H F : Hp} {P : List Addr} {M : Nat → Addr} (R : Rep K f s σ H F P M) (i : Nat) {r : Sv} {v : V} (h : RepR K f s H F P M r v) : ∃ M', Rep K f (s.put i r) (σ.set i (some v)) H F P M' := by
  cases r with
  | dat d => exact ⟨M, R.setD i h⟩
  | obj j =>
    obtain ⟨a, h1, rfl⟩ := h
    exact ⟨M, R.setO i h1⟩
  | own ds => exact R.setL i h
theorem Good.loc {X : Cx} {x : Str} (g : Good X c) (h : Loc c.sc x) : Loc X.env.scope x := by rw [g.sc]; exact h
/-- x = e -/
theorem ex_set (i : Nat) {x : Str} {r : Sv} {pos' : Pos} (h : Ev c e s r s1) (hi : c.N[i]? = some x := by rfl) (hx : Loc c.sc x := by first | exact Or.inl rfl | exact Or.inr rfl) (ho : c.ow x = true := by rfl)
    (hs : ∀ env, swapsWith e (some (.Name x pos')) pos.line env = pure false := by intro _; rfl) : Ex c (.Assign [.Name x pos'] e pos) s (.nx (s1.put i r)) := by
  intro X g f σ H F P M D R q
  refine tBS_of (ps_set (i := i) g.nd (by rw [g.N]; exact hi) (g.loc hx) peB (hs _) (g.fn x ho (g.loc hx))) ?_
  refine h X g f σ H F P M _ R fun v H1 F1 P1 M1 m1 p1 R1 r1 => ?_
  obtain ⟨M2, R2⟩ := R1.put i r1
  exact q _ H1 F1 P1 M2 m1 R2
def tBG (X : Cx) (tg : Expr) : TG := fun v σ H Q => ∀ pins sh u, Inv X pins σ H sh → RelV v u → wpAny (model X.prog X.w) X.A (assign tg X.env u) (fun _ s' => ∃ σ' H', Inv X pins σ' H' s' ∧ Q σ' H') X.xe sh
theorem pgB {X : Cx} {tg : Expr} : PG X tg (tBG X tg) := ⟨fun pins s σ H v u Q I r h => h pins s u I r⟩
theorem tBG_of {X : Cx} {tg : Expr} {t : TG} (p : PG X tg t) {v : V} {σ : St} {H : Hp} {Q : St → Hp → Prop} (h : t v σ H Q) : tBG X tg v σ H Q := fun pins sh u I r => p.run pins sh σ H v u Q I r h
/-- data go to a target; only the slots js change -/
def Tg (c : Ctx) (tg : Expr) (d : PyData) (s s' : AS) (js : List Nat) : Prop := ∀ X, Good X c → ∀ f σ H F P M v (Q : St → Hp → Prop), Rep X.K f s σ H F P M → Dp X.K F v d →
  (∀ σ', σ'.length = σ.length → (∀ j, j ∉ js → σ'[j]? = σ[j]?) → Rep X.K f s' σ' H F P M → Q σ' H) → tBG X tg v σ H Q
def Tgs (c : Ctx) (tgs : List Expr) (ds : List PyData) (s s' : AS) (js : List Nat) : Prop := ∀ X, Good X c → ∃ t, PGs X tgs t ∧ ∀ f σ H F P M vs (Q : St → Hp → Prop), Rep X.K f s σ H F P M → DpAll X.K F vs ds →
  (∀ σ', σ'.length = σ.length → (∀ j, j ∉ js → σ'[j]? = σ[j]?) → Rep X.K f s' σ' H F P M → Q σ' H) → t vs σ H Q
theorem tg_name (i : Nat) {x : Str} {d : PyData} (hi : c.N[i]? = some x := by rfl) (hx : Loc c.sc x := by first | exact Or.inl rfl | exact Or.inr rfl) (ho : c.ow x = true := by rfl) : Tg c (.Name x pos) d s (s.put i (.dat d)) [i] := by
  intro X g f σ H F P M v Q R r q
  refine tBG_of (pg_name (i := i) g.nd (by rw [g.N]; exact hi) (g.loc hx) (g.fn x ho (g.loc hx))) ?_
  refine q _ (by rw [List.length_set]) (fun j hj => ?_) (R.setD i r)
  rw [List.getElem?_set_ne]
  intro z
  exact hj (by simp [z])
theorem tgs_nil : Tgs c [] [] s s [] := fun X g => ⟨gNil, pgs_nil, fun f σ H F P M vs Q R r q => by
  cases r
  exact ⟨rfl, q σ rfl (fun _ _ => rfl) R⟩⟩
theorem tgs_cons {t : Expr} {ts : List Expr} {d : PyData} {ds : List PyData} {js ks : List Nat} (h : Tg c t d s s1 js) (h2 : Tgs c ts ds s1 s2 ks) (hs : ∀ env, (assignEach (t :: ts) env).map (·.2) = assign t env :: (assignEach ts env).map (·.2) := by intro _; rfl) : Tgs c (t :: ts) (d :: ds) s s2 (js ++ ks) := fun X g => by
  obtain ⟨u, p, w⟩ := h2 X g
  refine ⟨gCons (tBG X t) u, pgs_cons pgB p (hs _), fun f σ H F P M vs Q R r q => ?_⟩
  cases r with
  | cons r1 r2 => exact ⟨_, _, rfl, h X g f σ H F P M _ _ R r1 fun σ1 l1 k1 R1 => w f σ1 H F P M _ Q R1 r2 fun σ2 l2 k2 R2 => q σ2 (l2.trans l1) (fun j hj => by
      rw [List.mem_append, not_or] at hj
      rw [k2 j hj.2, k1 j hj.1]) R2⟩
theorem tg_tup {ts : List Expr} {ds : List PyData} {k n : Nat} {js : List Nat} (h : Tgs c ts ds s s1 js) (hl : ds.length = n := by rfl)
    (hn : ∀ env, (assignEach ts env).length = n := by intro _; rfl) (hst : ∀ env, (assignEach ts env).findIdx? (·.1) = none := by intro _; rfl) : Tg c (.Tuple ts k pos) (.tuple ds) s s1 js := by
  intro X g f σ H F P M v Q R r q
  obtain ⟨u, p, w⟩ := h X g
  refine tBG_of (pg_tup g.calm p (hn _) (hst _)) ?_
  have r : Dp X.K F v (.tuple ds) := r
  cases r with
  | tup hs hd => exact ⟨_, _, rfl, sqt_mono R.sub hs, by rw [dpa_len hd]; exact hl, w f σ H F P M _ Q R hd q⟩
/-- target = e, of data -/
theorem ex_asg {tg : Expr} {d : PyData} (h : Ev c e s (.dat d) s1) {js : List Nat} (ht : Tg c tg d s1 s2 js) (hs : ∀ env, swapsWithSole [tg] e pos.line env = pure false := by intro _; rfl) (hw : ∀ env, swappedStores [tg] e env = pure none := by intro _; rfl)
    (h1 : ∀ env, (assignEach [tg] env).map (·.2) = [assign tg env] := by intro _; rfl) : Ex c (.Assign [tg] e pos) s (.nx s2) := by
  intro X g f σ H F P M D R q
  refine tBS_of (ps_asg peB pgB (hs _) (hw _) (h1 _)) ?_
  refine h X g f σ H F P M _ R fun v H1 F1 P1 M1 m1 p1 R1 r1 => ?_
  exact ht X g f σ H1 F1 P1 M1 v _ R1 r1 fun σ2 _ _ R2 => q σ2 H1 F1 P1 M1 m1 R2
/-- a, b = x, y -/
theorem ex_par (i j : Nat) {x y : Str} {a b : Expr} {d1 d2 : PyData} {px py pt : Pos} {kt k2 : Nat} {pt2 : Pos} (h : EvA c [a, b] s [.dat d1, .dat d2] s1) (hi : c.N[i]? = some x := by rfl) (hj : c.N[j]? = some y := by rfl) (hij : i ≠ j := by decide)
    (hx : c.sc.names.lookup x = some .local := by rfl) (hy : c.sc.names.lookup y = some .local := by rfl)
    (hw : ∀ env : Env, env.scope = c.sc → swappedStores [.Tuple [.Name x px, .Name y py] kt pt] (.Tuple [a, b] k2 pt2) env = pure (some [x, y]))
    (hs : ∀ env, swapsWithSole [.Tuple [.Name x px, .Name y py] kt pt] (.Tuple [a, b] k2 pt2) pos.line env = pure false := by intro _; rfl) :
    Ex c (.Assign [.Tuple [.Name x px, .Name y py] kt pt] (.Tuple [a, b] k2 pt2) pos) s (.nx ((s1.put i (.dat d1)).put j (.dat d2))) := by
  intro X g f σ H F P M D R q
  refine tBS_of (ps_par (i := i) (j := j) g.calm g.nd (by rw [g.N]; exact hi) (by rw [g.N]; exact hj) hij (by rw [g.sc]; exact hx) (by rw [g.sc]; exact hy) paB (hw _ g.sc) (hs _)) ?_
  refine h X g f σ H F P M _ R fun vs H1 F1 P1 M1 m1 p1 R1 r1 => ?_
  cases r1 with
  | cons a1 r1 =>
    cases r1 with
    | cons a2 r1 =>
      cases r1
      exact ⟨_, _, rfl, q _ H1 F1 P1 M1 m1 ((R1.setD i a1).setD j a2)⟩
/-- x += e of ints -/
theorem ex_augA (i : Nat) {x : Str} {m n : Int} {pos' : Pos} (h : Ev c e s (.dat (.int n)) s1) (hv : s.E[i]? = some (some (.dat (.int m))) := by rfl) (hi : c.N[i]? = some x := by rfl) (hx : Loc c.sc x := by first | exact Or.inl rfl | exact Or.inr rfl) (ho : c.ow x = true := by rfl) :
    Ex c (.AugAssign (.Name x pos') .Add e pos) s (.nx (s1.put i (.dat (.int (m + n))))) := by
  intro X g f σ H F P M D R q
  refine tBS_of (ps_aug (i := i) g.nd (by rw [g.N]; exact hi) (g.loc hx) peB ip_add (g.fn x ho (g.loc hx))) ?_
  obtain ⟨v, e1, e2⟩ := R.dat i _ hv
  cases e2
  refine ⟨_, e1, h X g f σ H F P M _ R fun v H1 F1 P1 M1 m1 p1 R1 r1 => ?_⟩
  cases r1
  exact ⟨m, n, rfl, rfl, q _ H1 F1 P1 M1 m1 (R1.setD i (.int _))⟩
theorem ex_augS (i : Nat) {x : Str} {m n : Int} {pos' : Pos} (h : Ev c e s (.dat (.int n)) s1) (hv : s.E[i]? = some (some (.dat (.int m))) := by rfl) (hi : c.N[i]? = some x := by rfl) (hx : Loc c.sc x := by first | exact Or.inl rfl | exact Or.inr rfl) (ho : c.ow x = true := by rfl) :
    Ex c (.AugAssign (.Name x pos') .Sub e pos) s (.nx (s1.put i (.dat (.int (m - n))))) := by
  intro X g f σ H F P M D R q
  refine tBS_of (ps_aug (i := i) g.nd (by rw [g.N]; exact hi) (g.loc hx) peB ip_sub (g.fn x ho (g.loc hx))) ?_
  obtain ⟨v, e1, e2⟩ := R.dat i _ hv
  cases e2
  refine ⟨_, e1, h X g f σ H F P M _ R fun v H1 F1 P1 M1 m1 p1 R1 r1 => ?_⟩
  cases r1
  exact ⟨m, n, rfl, rfl, q _ H1 F1 P1 M1 m1 (R1.setD i (.int _))⟩
/-- x.append(e), x a list of one's own -/
theorem ex_append (i : Nat) {x : Str} {d : PyData} {ds ds1 : List PyData} {xp apos cpos pos : Pos} (h : Ev c e s (.dat d) s1) (hv : s.E[i]? = some (some (.own ds)) := by rfl) (hv1 : s1.E[i]? = some (some (.own ds1)) := by rfl) (hz : ds1.length < 16777216)
    (hi : c.N[i]? = some x := by rfl) (hx : Vis c.sc x := by first | exact Or.inl rfl | exact Or.inr (Or.inl rfl) | exact Or.inr (Or.inr rfl)) (hd : (x == ("__debug__" : Str)) = false := by decide) (hcd : (x == ("__classdict__" : Str)) = false := by decide)
    (hline : (apos.endLine == cpos.line) = true := by rfl) (hs : ∀ env, starEach [e] env = (false, eval e env) :: starEach [] env := by intro _; rfl)
    (hfew : ∀ env, ((backTo cpos (starEach [e] env)).all (fun x => !x.1) && (backToKw cpos (keywordEach [] env)).all (fun x => x.1.isSome)
      && decide (([e] : List Expr).length + ([] : List Keyword).length + (if ([] : List Keyword).isEmpty then 0 else 1) < 30)) = true := by intro _; rfl) :
    Ex c (.Expr (.Call (.Attribute (.Name x xp) "append" apos) [e] [] cpos) pos) s (.nx (s1.put i (.own (ds1 ++ [d])))) := by
  intro X g f σ H F P M D R q
  refine tBS_of (ps_expr (pe_bm PySem.F.plainAttrs_list PySem.F.slot_list_append PySem.F.type_list_append mt_append (pe_var (i := i) (by rw [g.N]; exact hi) (by rw [g.sc]; exact hx) hd hcd) (pa_cons peB pa_nil (hs _)) rfl (hfew _) hline (hs _) rfl)) ?_
  obtain ⟨o1, ⟨vs, o2, o3⟩, _⟩ := R.own i ds hv
  refine ⟨_, o1, .inl ⟨rfl, vs, .inl (.inl o2)⟩, ?_⟩
  refine h X g f σ H F P M _ R fun v H1 F1 P1 M1 m1 p1 R1 r1 => ?_
  obtain ⟨q1, ⟨ws, q2, q3⟩, _⟩ := R1.own i ds1 hv1
  have e : M1 i = M i := by
    rw [o1] at q1
    exact (V.ref.inj (Option.some.inj (Option.some.inj q1))).symm
  refine ⟨M i, ws, v, rfl, rfl, by rw [← e]; exact q2, by rw [dpa_len q3, sizeLine_eq]; exact hz, ?_⟩
  rw [← e]
  exact q σ _ F1 P1 M1 m1 (R1.putL hv1 (dpa_append q3 (.cons r1 .nil)))
end
end SL

/-! SL, the fifth part: what is walked, loops, comprehensions, defs. -/
namespace SL
open PySem PySem.Spec PyProof.Rows L2

def del (F : Hp) (p : Addr) : Hp := fun a => if a = p then none else F a
theorem del_ne {F : Hp} {p a : Addr} (h : a ≠ p) : del F p a = F a := by unfold del; rw [if_neg h]
theorem del_same {F : Hp} {p : Addr} : del F p p = none := by unfold del; rw [if_pos rfl]
/-- the frame with one more that must stay -/
def Frm.pin (f : Frm) (p : Addr) (o : HO) : Frm := ⟨upd f.H p o, del f.F p, f.P⟩
section
variable {K : PySem.W.Frag} {f : Frm} {s : AS} {σ : St} {H F : Hp} {P : List Addr} {M : Nat → Addr}
theorem Rep.pin (R : Rep K f s σ H F P M) {p : Addr} (o : HO) (hH : H p = some o) (hF : F p = none) (hP : p ∉ P) (hM : ∀ (i : Nat) ds, s.E[i]? = some (some (.own ds)) → M i ≠ p) : Rep K (f.pin p o) s σ H F P M where
  sub := R.sub
  frame := fun a u e hp => by
    by_cases ha : a = p
    · subst ha
      have e : upd f.H a o a = some u := e
      rw [upd_same] at e; rw [← e]; exact hH
    · have e : upd f.H p o a = some u := e
      rw [upd_ne ha] at e; exact R.frame a u e hp
  ffr := fun a u e => by
    by_cases ha : a = p
    · subst ha
      show F a = del f.F a a
      rw [del_same, hF]
    · have e : upd f.H p o a = some u := e
      rw [upd_ne ha] at e
      show F a = del f.F p a
      rw [del_ne ha]; exact R.ffr a u e
  pre := R.pre
  len := R.len
  dat := R.dat
  ob := R.ob
  own := fun i ds e => by
    obtain ⟨h1, h2, h3, h4, h5⟩ := R.own i ds e
    refine ⟨h1, h2, h3, h4, ?_⟩
    show upd f.H p o (M i) = none
    rw [upd_ne (hM i ds e)]; exact h5
  inj := R.inj
  plen := R.plen
  so := fun i u a e1 e2 => by
    obtain ⟨q1, q2, q3⟩ := R.so i u a e1 e2
    refine ⟨q1, q2, q3.imp_right fun z => ?_⟩
    have : a ≠ p := fun z => hP (z ▸ List.mem_of_getElem? e2)
    show upd f.H p o a = none
    rw [upd_ne this]; exact z
  nd := R.nd
theorem Rep.unpin {p : Addr} {o : HO} (R : Rep K (f.pin p o) s σ H F P M) (hf : f.H p = none) (hp : p ∉ f.P) : Rep K f s σ H F P M ∧ H p = some o ∧ F p = none ∧ p ∉ P ∧ ∀ (i : Nat) ds, s.E[i]? = some (some (.own ds)) → M i ≠ p := by
  have k1 : H p = some o := R.frame p o upd_same hp
  have k2 : F p = none := by
    have := R.ffr p o upd_same
    rw [this]; exact del_same
  have k3 : p ∉ P := fun z => by
    rcases (R.mem_so z).2.2 with q | q
    · exact hp q
    · have q : upd f.H p o p = none := q
      rw [upd_same] at q; cases q
  have k4 : ∀ (i : Nat) ds, s.E[i]? = some (some (.own ds)) → M i ≠ p := fun i ds e z => by
    have q := (R.own i ds e).2.2.2.2
    have q : upd f.H p o (M i) = none := q
    rw [z, upd_same] at q; cases q
  refine ⟨⟨R.sub, fun a u e ha => ?_, fun a u e => ?_, R.pre, R.len, R.dat, R.ob, fun i ds e => ?_, R.inj, R.plen, fun i u a e1 e2 => ?_, R.nd⟩, k1, k2, k3, k4⟩
  · have ne : a ≠ p := ne_of_none e hf
    exact R.frame a u (by show upd f.H p o a = _; rw [upd_ne ne]; exact e) ha
  · have ne : a ≠ p := ne_of_none e hf
    have := R.ffr a u (by show upd f.H p o a = _; rw [upd_ne ne]; exact e)
    rw [this]
    show del f.F p a = _
    rw [del_ne ne]
  · obtain ⟨h1, h2, h3, h4, h5⟩ := R.own i ds e
    refine ⟨h1, h2, h3, h4, ?_⟩
    have h5 : upd f.H p o (M i) = none := h5
    rw [upd_ne (k4 i ds e)] at h5; exact h5
  · obtain ⟨q1, q2, q3⟩ := R.so i u a e1 e2
    refine ⟨q1, q2, q3.imp_right fun z => ?_⟩
    have ne : a ≠ p := fun z => k3 (z ▸ List.mem_of_getElem? e2)
    have z : upd f.H p o a = none := z
    rw [upd_ne ne] at z; exact z
/-- what no one of us knows may be changed -/
theorem Rep.chg (R : Rep K f s σ H F P M) {p : Addr} (o : HO) (hf : f.H p = none) (hF : F p = none) (hP : p ∉ P) (hM : ∀ (i : Nat) ds, s.E[i]? = some (some (.own ds)) → M i ≠ p) : Rep K f s σ (upd H p o) F P M where
  sub := fun a u e => by
    have ne : a ≠ p := fun z => by rw [z, hF] at e; cases e
    rw [upd_ne ne]; exact R.sub a u e
  frame := fun a u e hp => by
    have ne : a ≠ p := ne_of_none e hf
    rw [upd_ne ne]; exact R.frame a u e hp
  ffr := R.ffr
  pre := R.pre
  len := R.len
  dat := R.dat
  ob := R.ob
  own := fun i ds e => by
    obtain ⟨h1, ⟨vs, h2, h3⟩, h4⟩ := R.own i ds e
    exact ⟨h1, ⟨vs, by rw [upd_ne (hM i ds e)]; exact h2, h3⟩, h4⟩
  inj := R.inj
  plen := R.plen
  so := fun i u a e1 e2 => by
    obtain ⟨q1, q⟩ := R.so i u a e1 e2
    have ne : a ≠ p := fun z => hP (z ▸ List.mem_of_getElem? e2)
    exact ⟨by rw [upd_ne ne]; exact q1, q⟩
  nd := R.nd
end

/-! ### what is walked -/
def IterOf (K : PySem.W.Frag) (J : It) (F : Hp) (xs : List PyData) : Prop := ∀ H F', Same F F' → Same F' H →
  J.stop xs.length H ∧ ∀ (i : Nat) d, xs[i]? = some d → J.go i H ∧ ∀ x H', J.yld i H x H' → (H' = H ∧ Dp K F' x d) ∨ ∃ T vs ds, x = .ref T ∧ H T = none ∧ H' = upd H T (.tup vs) ∧ d = .tuple ds ∧ DpAll K F' vs ds
def EvI (c : Ctx) (tg iter : Expr) (s : AS) (xs : List PyData) (s' : AS) : Prop := ∀ X, Good X c → ∀ f σ H F P M (R : It → Hp → Prop), Rep X.K f s σ H F P M →
  (∀ J H' F' P' M', Same F F' → P <+: P' → Rep X.K f s' σ H' F' P' M' → IterOf X.K J F' xs → xs.length ≤ 16777216 → R J H') → tBI X tg iter σ H R
theorem IterOf.mono {K : PySem.W.Frag} {J : It} {F F' : Hp} {xs : List PyData} (h : IterOf K J F xs) (m : Same F F') : IterOf K J F' xs := fun H F2 a b => h H F2 (m.trans a) b
/-- how an item comes into a state -/
theorem IterOf.take {K : PySem.W.Frag} {f : Frm} {s : AS} {σ : St} {H F F0 : Hp} {P : List Addr} {M : Nat → Addr} {J : It} {xs : List PyData} (h : IterOf K J F0 xs) (m : Same F0 F) (R : Rep K f s σ H F P M) {i : Nat} {d : PyData} (e : xs[i]? = some d) :
    J.go i H ∧ ∀ x H', J.yld i H x H' → ∃ F', Same F F' ∧ Rep K f s σ H' F' P M ∧ Dp K F' x d := by
  obtain ⟨g, y⟩ := (h H F m R.sub).2 i d e
  refine ⟨g, fun x H' hy => ?_⟩
  rcases y x H' hy with ⟨rfl, dp⟩ | ⟨T, vs, ds, rfl, n, rfl, rfl, dp⟩
  · exact ⟨F, Same.refl F, R, dp⟩
  · exact ⟨upd F T (.tup vs), same_upd (R.freeF n), R.alloc (.tup vs) n, .tup (.inl (.inl upd_same)) (dpa_mono (same_upd (R.freeF n)) _ _ dp)⟩
section
variable {c : Ctx} {s s1 s2 s3 : AS} {e a b tg iter : Expr} {st : Stmt} {rest body : List Stmt} {pos p : Pos} {o o1 o2 : Out} {xs : List PyData}
theorem iter_list {K : PySem.W.Frag} {F : Hp} {a : Addr} {vs : List V} (h : SqL K F a vs) (d : DpAll K F vs xs) : IterOf K (Itl K a) F xs := fun H F' m sb =>
  ⟨⟨vs, sql_mono (m.trans sb) h, by rw [dpa_len d]; exact Nat.le_refl _⟩, fun i x e => by
    obtain ⟨v, e1, e2⟩ := dpa_get' d e
    refine ⟨⟨vs, v, sql_mono (m.trans sb) h, e1⟩, fun y H' hy => .inl ⟨hy.1, ?_⟩⟩
    have := hy.2 vs (sql_mono (m.trans sb) h)
    rw [e1] at this
    cases this
    exact dp_mono m _ _ e2⟩
theorem iter_tup {K : PySem.W.Frag} {F : Hp} {a : Addr} {vs : List V} (h : SqT K F a vs) (d : DpAll K F vs xs) : IterOf K (Itt K a) F xs := fun H F' m sb =>
  ⟨⟨vs, sqt_mono (m.trans sb) h, by rw [dpa_len d]; exact Nat.le_refl _⟩, fun i x e => by
    obtain ⟨v, e1, e2⟩ := dpa_get' d e
    refine ⟨⟨vs, v, sqt_mono (m.trans sb) h, e1⟩, fun y H' hy => .inl ⟨hy.1, ?_⟩⟩
    have := hy.2 vs (sqt_mono (m.trans sb) h)
    rw [e1] at this
    cases this
    exact dp_mono m _ _ e2⟩
theorem evi_list (h : Ev c iter s (.dat (.list xs)) s1) : EvI c tg iter s xs s1 := by
  intro X g f σ H F P M R Rp q
  refine tBI_of (pi_list peB) ?_
  show tB X iter σ H _
  refine tB_know ?_
  refine h X g f σ H F P M _ Rp fun v H1 F1 P1 M1 m1 p1 R1 r1 kn => ?_
  have r : Dp X.K F1 v (.list xs) := r1
  cases r with
  | lst hs hd =>
    obtain ⟨pins, sh, I⟩ := kn
    obtain ⟨its, rv, _, hz⟩ := I.list (sql_mono R1.sub hs)
    exact ⟨_, rfl, ⟨_, sql_mono R1.sub hs⟩, q _ H1 F1 P1 M1 m1 p1 R1 (iter_list hs hd) (by rw [← dpa_len hd, ← sizeLine_eq]; exact hz)⟩
theorem evi_tup (h : Ev c iter s (.dat (.tuple xs)) s1) : EvI c tg iter s xs s1 := by
  intro X g f σ H F P M R Rp q
  refine tBI_of (pi_tup peB) ?_
  show tB X iter σ H _
  refine tB_know ?_
  refine h X g f σ H F P M _ Rp fun v H1 F1 P1 M1 m1 p1 R1 r1 kn => ?_
  have r : Dp X.K F1 v (.tuple xs) := r1
  cases r with
  | tup hs hd =>
    obtain ⟨pins, sh, I⟩ := kn
    obtain ⟨its, rv, _, hz⟩ := I.tuple (sqt_mono R1.sub hs)
    exact ⟨_, rfl, ⟨_, sqt_mono R1.sub hs⟩, q _ H1 F1 P1 M1 m1 p1 R1 (iter_tup hs hd) (by rw [← dpa_len hd, ← sizeLine_eq]; exact hz)⟩
/-- lo, lo + 1, .. n of them -/
def rangeD (lo : Int) (n : Nat) : List PyData := (List.range n).map fun i => .int (lo + (i : Nat))
theorem iter_range {K : PySem.W.Frag} {F : Hp} {lo : Int} {n : Nat} : IterOf K (Itr lo n) F (rangeD lo n) := fun H F' m sb => by
  refine ⟨by unfold rangeD; rw [List.length_map, List.length_range]; exact Nat.le_refl _, fun i x e => ?_⟩
  unfold rangeD at e
  rw [List.getElem?_map] at e
  cases q : (List.range n)[i]? with
  | none => rw [q] at e; cases e
  | some j =>
    rw [q] at e
    obtain ⟨h1, h2⟩ := List.getElem?_eq_some_iff.mp q
    rw [List.length_range] at h1
    rw [List.getElem_range] at h2
    subst h2
    cases e
    exact ⟨h1, fun y H' hy => .inl ⟨hy.1, by rw [hy.2]; exact .int _⟩⟩
theorem rangeD_len (lo : Int) (n : Nat) : (rangeD lo n).length = n := by unfold rangeD; rw [List.length_map, List.length_range]
theorem evi_range1 {n : Int} (B : Bl c.mg) (h : Ev c a s (.dat (.int n)) s1) (hz : n ≤ 16777216) (hlo : -(2 ^ 62) ≤ n := by omega) (hg : GlC c "range" := by rfl) (hs : ∀ env, starEach [a] env = [(false, eval a env)] := by intro _; rfl) : EvI c tg (.Call (.Name "range" p) [a] [] pos) s (rangeD 0 n.toNat) s1 := by
  intro X g f σ H F P M R Rp q
  refine tBI_of (pi_range1 (g.gl hg) (by rw [g.mg]; exact B.range) (pa_cons peB pa_nil (hs _)) (hs _)) ?_
  show tB X a σ H _
  refine h X g f σ H F P M _ Rp fun v H1 F1 P1 M1 m1 p1 R1 r1 => ?_
  cases r1
  exact ⟨n, rfl, hlo, by omega, q _ H1 F1 P1 M1 m1 p1 R1 iter_range (by rw [rangeD_len]; omega)⟩
theorem evi_range2 {m n : Int} (B : Bl c.mg) (h : Ev c a s (.dat (.int m)) s1) (h2 : Ev c b s1 (.dat (.int n)) s2) (hz : -8000000 ≤ m ∧ m ≤ 8000000 ∧ -8000000 ≤ n ∧ n ≤ 8000000) (hg : GlC c "range" := by rfl) (hs : ∀ env, starEach [a, b] env = [(false, eval a env), (false, eval b env)] := by intro _; rfl)
    (hs2 : ∀ env, starEach [b] env = [(false, eval b env)] := by intro _; rfl) : EvI c tg (.Call (.Name "range" p) [a, b] [] pos) s (rangeD m (n - m).toNat) s2 := by
  intro X g f σ H F P M R Rp q
  refine tBI_of (pi_range2 (g.gl hg) (by rw [g.mg]; exact B.range) (pa_cons peB (pa_cons peB pa_nil (hs2 _)) (by rw [hs, hs2])) (hs _) (hs2 _)) ?_
  show tB X a σ H _
  refine h X g f σ H F P M _ Rp fun v H1 F1 P1 M1 m1 p1 R1 r1 => ?_
  refine h2 X g f σ H1 F1 P1 M1 _ R1 fun u H2 F2 P2 M2 m2 p2 R2 r2 => ?_
  cases r1
  cases r2
  exact ⟨m, n, rfl, by omega, q _ H2 F2 P2 M2 (m1.trans m2) (p1.trans p2) R2 iter_range (by rw [rangeD_len]; omega)⟩
theorem evi_conv {ys : List PyData} (h : EvI c tg iter s xs s1) (e1 : xs = ys) : EvI c tg iter s ys s1 := e1 ▸ h
theorem evi_str {z : Str} (h : Ev c iter s (.dat (.str z)) s1) (hz : z.length ≤ 16777216) : EvI c tg iter s (z.cps.toList.map fun n => .str ⟨#[n]⟩) s1 := by
  intro X g f σ H F P M R Rp q
  refine tBI_of (pi_str peB) ?_
  show tB X iter σ H _
  refine h X g f σ H F P M _ Rp fun v H1 F1 P1 M1 m1 p1 R1 r1 => ?_
  cases r1
  refine ⟨z, rfl, q _ H1 F1 P1 M1 m1 p1 R1 (fun H F' m sb => ⟨?_, fun i x e => ?_⟩) (by rw [List.length_map, Array.length_toList]; exact hz)⟩
  · show z.cps.size ≤ _
    simp
  · rw [List.getElem?_map] at e
    cases k : z.cps.toList[i]? with
    | none => rw [k] at e; cases e
    | some n =>
      rw [k] at e
      cases e
      have k2 : z.cps[i]? = some n := by simpa using k
      refine ⟨?_, fun y H' hy => .inl ⟨hy.1, ?_⟩⟩
      · obtain ⟨h1, _⟩ := List.getElem?_eq_some_iff.mp k
        show i < z.cps.size
        simpa using h1
      · obtain ⟨c', e1, e2⟩ := hy.2
        rw [k2] at e1
        cases e1
        rw [e2]
        exact .str _
/-- enumerate of a list; of zip below -/
theorem evi_enumL (B : Bl c.mg) {elts : List Expr} {kk : Nat} {tpos : Pos} (h : Ev c a s (.dat (.list xs)) s1) (hg : GlC c "enumerate" := by rfl) (hs : ∀ env, starEach [a] env = [(false, eval a env)] := by intro _; rfl) :
    EvI c (.Tuple elts kk tpos) (.Call (.Name "enumerate" p) [a] [] pos) s ((List.range xs.length).map fun i => .tuple [.int (i : Nat), xs.getD i .none]) s1 := by
  intro X g f σ H F P M R Rp q
  refine tBI_of (pi_enum (g.gl hg) (by rw [g.mg]; exact B.enumerate) (pa_cons peB pa_nil (hs _)) (hs _)) ?_
  show tB X a σ H _
  refine tB_know ?_
  refine h X g f σ H F P M _ Rp fun v H1 F1 P1 M1 m1 p1 R1 r1 kn => ?_
  have r : Dp X.K F1 v (.list xs) := r1
  cases r with
  | lst hs hd =>
    obtain ⟨pins, sh, I⟩ := kn
    obtain ⟨its, rv, _, hz⟩ := I.list (sql_mono R1.sub hs)
    refine ⟨_, _, rfl, sql_mono R1.sub hs, q _ H1 F1 P1 M1 m1 p1 R1 (fun H' F' m sb => ⟨?_, fun i x e => ?_⟩) (by rw [List.length_map, List.length_range, ← dpa_len hd, ← sizeLine_eq]; exact hz)⟩
    · rw [List.length_map, List.length_range]
      exact ⟨_, sql_mono (m.trans sb) hs, by rw [dpa_len hd]; exact Nat.le_refl _⟩
    · rw [List.getElem?_map] at e
      cases k : (List.range xs.length)[i]? with
      | none => rw [k] at e; cases e
      | some j =>
        rw [k] at e
        obtain ⟨h1, h2⟩ := List.getElem?_eq_some_iff.mp k
        rw [List.length_range] at h1
        rw [List.getElem_range] at h2
        subst h2
        cases e
        have e2 : xs[i]? = some (xs.getD i .none) := by
          rw [List.getD_eq_getElem?_getD, List.getElem?_eq_getElem h1]
          rfl
        obtain ⟨v, e3, e4⟩ := dpa_get' hd e2
        refine ⟨⟨_, v, sql_mono (m.trans sb) hs, e3⟩, fun y H2 hy => .inr ?_⟩
        obtain ⟨T, w, rfl, hT, rfl, hw⟩ := hy
        have := hw _ (sql_mono (m.trans sb) hs)
        rw [e3] at this
        cases this
        exact ⟨T, _, _, rfl, hT, rfl, rfl, .cons (.int _) (.cons (dp_mono m _ _ e4) .nil)⟩

/-! ### for -/
/-- one turn of a loop: x comes to the target, the body runs -/
def Turn1 (c : Ctx) (tg : Expr) (body : List Stmt) (s : AS) (x : PyData) (o : Out) : Prop := ∃ t js, Tg c tg x s t js ∧ Exs c body t o
/-- a for whose turns may return: G i the state behind i turns; ret i what is returned at turn i -/
theorem exs_forR (G : Nat → AS) (ret : Nat → Option (Sv × List SObj)) (hi : EvI c tg iter s xs s1) (h0 : Wk s1 (G 0))
    (hs : ∀ (i : Nat) x, xs[i]? = some x → (∀ j, j < i → ret j = none) → Turn1 c tg body (G i) x (match ret i with | none => .nx (G (i + 1)) | some r => .rt r.1 r.2))
    (hn : (∀ i, i < xs.length → ret i = none) → Exs c rest (G xs.length) o)
    (hr : ∀ i r, i < xs.length → ret i = some r → (∀ j, j < i → ret j = none) → o = .rt r.1 r.2)
    (hfs : ∀ env x, foldedSetIterable iter env x = pure x := by intro _ _; rfl) : Exs c (.For tg iter body [] pos :: rest) s o := by
  intro X g f σ H F P M D R q
  refine tBSs_head (ps_for (by rw [g.xe]; exact PassesOwn.never) g.calm piB pgB pssB (hfs _)) ?_
  refine hi X g f σ H F P M _ R fun J H1 F1 P1 M1 m1 p1 R1 it hz => ?_
  have W : ∃ W : Nat → Nat → St → Hp → Prop, W = fun i m σ' H' => m = xs.length - i ∧ i ≤ xs.length ∧ (∀ j, j < i → ret j = none) ∧ ∃ F' P' M', Same F1 F' ∧ Rep X.K f (G i) σ' H' F' P' M' := ⟨_, rfl⟩
  obtain ⟨W, hW⟩ := W
  refine ⟨W, ⟨xs.length, by rw [hW]; exact ⟨by omega, Nat.zero_le _, fun j hj => absurd hj (Nat.not_lt_zero j), F1, P1, M1, Same.refl F1, R1.wk h0⟩⟩, fun i m σ2 H2 w => ?_⟩
  rw [hW] at w
  obtain ⟨rfl, hle, hj, F2, P2, M2, m2, R2⟩ := w
  by_cases hlt : i < xs.length
  · refine .inr ?_
    have ex : xs[i]? = some xs[i] := List.getElem?_eq_getElem hlt
    obtain ⟨go, yl⟩ := it.take m2 R2 ex
    obtain ⟨t, js, ht, hb⟩ := hs i _ ex hj
    refine ⟨go, fun σ3 H3 => ∃ m', m' < xs.length - i ∧ W (i + 1) m' σ3 H3, fun _ _ h => h, fun x H3 hy => ?_⟩
    obtain ⟨F3, m3, R3, dp⟩ := yl x H3 hy
    refine ht X g f σ2 H3 F3 P2 M2 x _ R3 dp fun σ4 _ _ R4 => ?_
    refine hb X g f σ4 H3 F3 P2 M2 _ R4 ?_
    cases hri : ret i with
    | none =>
      intro σ5 H5 F5 P5 M5 m5 R5
      refine ⟨xs.length - (i + 1), by omega, ?_⟩
      rw [hW]
      refine ⟨rfl, hlt, fun j hj' => ?_, F5, P5, M5, (m2.trans m3).trans m5, R5⟩
      by_cases e : j = i
      · rw [e]; exact hri
      · exact hj j (by omega)
    | some r =>
      have e := hr i r hlt hri hj
      subst e
      intro v H5 F5 P5 M5 m5 R5 r5
      exact q v H5 F5 P5 M5 (((m1.trans m2).trans m3).trans m5) R5 r5
  · have e : i = xs.length := by omega
    subst e
    exact .inl ⟨(it H2 F2 m2 R2.sub).1, hn hj X g f σ2 H2 F2 P2 M2 D R2 ((q.mono m1).mono m2)⟩
/-- a for whose turns go on -/
theorem exs_for (G : Nat → AS) (hi : EvI c tg iter s xs s1) (h0 : Wk s1 (G 0))
    (hs : ∀ (i : Nat) x, xs[i]? = some x → Turn1 c tg body (G i) x (.nx (G (i + 1))))
    (hn : Exs c rest (G xs.length) o)
    (hfs : ∀ env x, foldedSetIterable iter env x = pure x := by intro _ _; rfl) : Exs c (.For tg iter body [] pos :: rest) s o :=
  exs_forR G (fun _ => none) hi h0 (fun i x e _ => hs i x e) (fun _ => hn) (fun i r _ e => by cases e) hfs
/-- while: G i the state behind i turns, n turns -/
theorem exs_while (G : Nat → AS) (n : Nat) {t : Expr} (h0 : Wk s (G 0)) (ht : ∀ i, i < n → ∃ u, Tst c t (G i) true u ∧ Exs c body u (.nx (G (i + 1)))) (hf : Tst c t (G n) false s1) (hn : Exs c rest s1 o) : Exs c (.While t body [] pos :: rest) s o := by
  intro X g f σ H F P M D R q
  refine tBSs_head (ps_while (by rw [g.xe]; exact PassesOwn.never) ptB pssB) ?_
  have W : ∃ W : Nat → St → Hp → Prop, W = fun m σ' H' => m ≤ n ∧ ∃ F' P' M', Same F F' ∧ Rep X.K f (G (n - m)) σ' H' F' P' M' := ⟨_, rfl⟩
  obtain ⟨W, hW⟩ := W
  refine ⟨W, ⟨n, by rw [hW]; exact ⟨Nat.le_refl _, F, P, M, Same.refl F, by rw [Nat.sub_self]; exact R.wk h0⟩⟩, fun m σ2 H2 w => ?_⟩
  rw [hW] at w
  obtain ⟨hm, F2, P2, M2, m2, R2⟩ := w
  cases m with
  | zero =>
    refine hf X g f σ2 H2 F2 P2 M2 _ R2 fun H3 F3 P3 M3 m3 p3 R3 => ?_
    rw [if_neg Bool.false_ne_true]
    exact hn X g f σ2 H3 F3 P3 M3 D R3 ((q.mono m2).mono m3)
  | succ m =>
    obtain ⟨u, h1, h2⟩ := ht (n - (m + 1)) (by omega)
    refine h1 X g f σ2 H2 F2 P2 M2 _ R2 fun H3 F3 P3 M3 m3 p3 R3 => ?_
    rw [if_pos rfl]
    refine ⟨fun σ' H' => W m σ' H', fun σ' H' h => ⟨m, Nat.lt_succ_self m, h⟩, ?_⟩
    refine h2 X g f σ2 H3 F3 P3 M3 _ R3 fun σ4 H4 F4 P4 M4 m4 R4 => ?_
    show W m σ4 H4
    rw [hW]
    have e : n - (m + 1) + 1 = n - m := by omega
    rw [e] at R4
    exact ⟨by omega, F4, P4, M4, (m2.trans m3).trans m4, R4⟩
end
end SL

/-! SL, the sixth part: comprehensions, defs. -/
namespace SL
open PySem PySem.Spec PyProof.Rows L2

def Ctx.blk (c : Ctx) (scope : Scope) : Ctx := { c with sc := relS scope c.sc, ow := fun x => scope.names.lookup x == some .local || scope.names.lookup x == some .cell }
theorem Good.blk {X : Cx} {c : Ctx} (g : Good X c) (scope : Scope) (s : Shared) (H : Hp) (C : Addr) (cl : List (Str × Addr)) (fp : List Addr) : Good (X.blk s H scope (compEnvC scope cl C X.env) fp) (c.blk scope) where
  prog := g.prog
  ww := g.ww
  K := g.K
  mg := g.mg
  base := g.base
  N := g.N
  sc := by
    show relabel scope X.env = relS scope c.sc
    rw [← g.sc]
    rfl
  calm := g.calm
  nd := g.nd
  room := g.room
  xe := rfl
  fn := fun x ho hx => by
    have ho : (scope.names.lookup x == some .local || scope.names.lookup x == some .cell) = true := ho
    rw [Bool.or_eq_true] at ho
    rcases ho with h | h
    · exact .inr (lookup_relS_keep (sc := X.env.scope) (by decide) (eq_of_beq h))
    · exact .inl h
def wipeE (E : List (Option Sv)) : List Nat → List (Option Sv)
  | [] => E
  | v :: vs => (wipeE E vs).set v none
theorem wipeE_length (E : List (Option Sv)) : ∀ vs, (wipeE E vs).length = E.length
  | [] => rfl
  | v :: vs => by unfold wipeE; rw [List.length_set, wipeE_length E vs]
theorem wipeE_out {E : List (Option Sv)} {i : Nat} : ∀ {vs : List Nat}, i ∉ vs → (wipeE E vs)[i]? = E[i]?
  | [], _ => rfl
  | v :: vs, h => by
    simp only [List.mem_cons, not_or] at h
    unfold wipeE
    rw [List.getElem?_set_ne (fun z => h.1 z.symm)]
    exact wipeE_out h.2
theorem wipeE_in {E : List (Option Sv)} {i : Nat} {x : Sv} : ∀ {vs : List Nat}, (wipeE E vs)[i]? = some (some x) → E[i]? = some (some x) ∧ i ∉ vs
  | [], h => ⟨h, by simp⟩
  | v :: vs, h => by
    unfold wipeE at h
    rcases set_get h with ⟨_, e, _⟩ | ⟨ne, e⟩
    · cases e
    · obtain ⟨h1, h2⟩ := wipeE_in e
      exact ⟨h1, by simp only [List.mem_cons, not_or]; exact ⟨ne, h2⟩⟩
theorem wipe_eq {σ σ2 : St} (hl : σ2.length = σ.length) : ∀ {vs : List Nat}, (∀ j, j ∉ vs → σ2[j]? = σ[j]?) → wipe σ2 vs = wipe σ vs := fun {vs} h => by
  apply List.ext_getElem?
  intro i
  by_cases hi : i ∈ vs
  · have key : ∀ (τ : St) (ws : List Nat), i ∈ ws → (wipe τ ws)[i]? = if i < τ.length then some none else none := by
      intro τ ws
      induction ws with
      | nil => intro z; cases z
      | cons v ws ih =>
        intro z
        unfold wipe
        by_cases e : v = i
        · subst e
          by_cases hl : v < τ.length
          · rw [List.getElem?_set_self (by rw [wipe_length]; exact hl), if_pos hl]
          · rw [List.getElem?_eq_none (by rw [List.length_set, wipe_length]; omega), if_neg hl]
        · rw [List.getElem?_set_ne e]
          rcases List.mem_cons.mp z with z | z
          · exact absurd z.symm e
          · exact ih z
    rw [key σ2 vs hi, key σ vs hi, hl]
  · rw [wipe_out hi, wipe_out hi]
    exact h i hi
def ownAt (E : List (Option Sv)) (i : Nat) : Bool := match E[i]? with
  | some (some (.own _)) => true
  | _ => false
theorem ownAt_no {E : List (Option Sv)} {i : Nat} (h : ownAt E i = false) (ds : List PyData) : E[i]? ≠ some (some (.own ds)) := fun e => by
  unfold ownAt at h
  rw [e] at h
  cases h
section
variable {K : PySem.W.Frag} {f : Frm} {E E2 : List (Option Sv)} {S S' : List SObj} {σ σ2 : St} {H H' F F' : Hp} {P P' : List Addr} {M M' : Nat → Addr} {vs : List Nat}
theorem Rep.wipe (R : Rep K f ⟨E, S⟩ σ H F P M) (vs : List Nat) : Rep K f ⟨wipeE E vs, S⟩ (L2.wipe σ vs) H F P M where
  sub := R.sub
  frame := R.frame
  ffr := R.ffr
  pre := R.pre
  len := by rw [wipe_length]; show _ = (wipeE E vs).length; rw [wipeE_length]; exact R.len
  dat := fun i d e => by
    obtain ⟨h1, h2⟩ := wipeE_in e
    obtain ⟨v, q1, q2⟩ := R.dat i d h1
    exact ⟨v, by rw [wipe_out h2]; exact q1, q2⟩
  ob := fun i j e => by
    obtain ⟨h1, h2⟩ := wipeE_in e
    obtain ⟨v, q1, q2⟩ := R.ob i j h1
    exact ⟨v, q1, by rw [wipe_out h2]; exact q2⟩
  own := fun i ds e => by
    obtain ⟨h1, h2⟩ := wipeE_in e
    obtain ⟨q1, q⟩ := R.own i ds h1
    exact ⟨by rw [wipe_out h2]; exact q1, q⟩
  inj := fun i j ds es e1 e2 => R.inj i j ds es (wipeE_in e1).1 (wipeE_in e2).1
  plen := R.plen
  so := R.so
  nd := R.nd
/-- behind a block's turn -/
theorem Rep.unblk (R : Rep K f ⟨E, S⟩ σ H F P M) (Ri : Rep K f ⟨E2, S'⟩ σ2 H' F' P' M') (m : Same F F') (pp : P <+: P') (hσ : L2.wipe σ2 vs = L2.wipe σ vs) (hE : wipeE E2 vs = wipeE E vs) (hno : vs.all (fun i => !ownAt E i) = true) :
    Rep K f ⟨E, S'⟩ σ H' F' P' M' where
  sub := Ri.sub
  frame := Ri.frame
  ffr := Ri.ffr
  pre := Ri.pre
  len := R.len
  dat := fun i d e => by
    obtain ⟨v, q1, q2⟩ := R.dat i d e
    exact ⟨v, q1, dp_mono m _ _ q2⟩
  ob := fun i j e => by
    obtain ⟨a, q1, q2⟩ := R.ob i j e
    obtain ⟨l, rfl⟩ := pp
    exact ⟨a, by rw [List.getElem?_append_left (List.getElem?_eq_some_iff.mp q1).1]; exact q1, q2⟩
  own := fun i ds e => by
    have hi : i ∉ vs := fun z => by
      have := List.all_eq_true.mp hno i z
      exact ownAt_no (by simpa using this) ds e
    have e2 : E2[i]? = some (some (.own ds)) := by
      rw [← wipeE_out (E := E2) hi, hE, wipeE_out hi]; exact e
    obtain ⟨q1, q⟩ := Ri.own i ds e2
    exact ⟨by rw [← wipe_out (σ := σ) hi, ← hσ, wipe_out hi]; exact q1, q⟩
  inj := fun i j ds es e1 e2 => by
    have nv : ∀ (i : Nat) ds, E[i]? = some (some (.own ds)) → E2[i]? = some (some (.own ds)) := fun i ds e => by
      have hi : i ∉ vs := fun z => by
        have := List.all_eq_true.mp hno i z
        exact ownAt_no (by simpa using this) ds e
      rw [← wipeE_out (E := E2) hi, hE, wipeE_out hi]; exact e
    exact Ri.inj i j ds es (nv i ds e1) (nv j es e2)
  plen := Ri.plen
  so := Ri.so
  nd := Ri.nd
end

/-- a clause's tests -/
def TstI (c : Ctx) : List Expr → AS → Bool → AS → Prop
  | [], s, k, s' => k = true ∧ s = s'
  | [e], s, k, s' => Tst c e s k s'
  | _, _, _, _ => False
/-- one turn of a comprehension's clause, from ⟨E, S⟩: x comes, the tests give k, then K' -/
def LcTurn (c' : Ctx) (tg : Expr) (ifs : List Expr) (E : List (Option Sv)) (vs : List Nat) (S : List SObj) (x : PyData) (no : List SObj → Prop) (yes : AS → Prop) : Prop :=
  ∃ t js k u, Tg c' tg x ⟨wipeE E vs, S⟩ t js ∧ js.all (fun j => vs.contains j) = true ∧ TstI c' ifs t k u ∧ wipeE u.E vs = wipeE E vs ∧ (k = true → yes u) ∧ (k = false → no u.S)
section
variable {c : Ctx} {s s1 s2 s3 : AS} {e a b tg iter elt : Expr} {ifs : List Expr} {scope : Scope} {pos p : Pos} {xs : List PyData} {own : List (Str × Nat)}
def gU (X : Cx) (scope : Scope) (tg : Expr) : TG := fun v σ H Q => ∀ s0 H0 C cl fp, tBG (X.blk s0 H0 scope (compEnvC scope cl C X.env) fp) tg v σ H Q
def ttU (X : Cx) (scope : Scope) : List Expr → TT
  | [] => tYes
  | [e] => fun σ H Q => ∀ s0 H0 C cl fp, tBT (X.blk s0 H0 scope (compEnvC scope cl C X.env) fp) e σ H Q
  | _ => fun _ _ _ => False
def teU (X : Cx) (scope : Scope) (e : Expr) : TE := fun σ H Q => ∀ s0 H0 C cl fp, tB (X.blk s0 H0 scope (compEnvC scope cl C X.env) fp) e σ H Q
theorem gU_ok {X : Cx} (s0 : Shared) (H0 : Hp) (C : Addr) (cl : List (Str × Addr)) (fp : List Addr) : PG (X.blk s0 H0 scope (compEnvC scope cl C X.env) fp) tg (gU X scope tg) := ⟨fun pins s σ H v u Q I r h => h s0 H0 C cl fp pins s u I r⟩
theorem ttU_ok {X : Cx} (s0 : Shared) (H0 : Hp) (C : Addr) (cl : List (Str × Addr)) (fp : List Addr) : ∀ {ifs : List Expr}, ifs.length ≤ 1 → PTs (X.blk s0 H0 scope (compEnvC scope cl C X.env) fp) ifs (ttU X scope ifs)
  | [], _ => pts_nil
  | [e], _ => pts_one ⟨fun pins s σ H Q I h => h s0 H0 C cl fp pins s I⟩
  | _ :: _ :: _, h => absurd h (by simp)
theorem teU_ok {X : Cx} (s0 : Shared) (H0 : Hp) (C : Addr) (cl : List (Str × Addr)) (fp : List Addr) : PE (X.blk s0 H0 scope (compEnvC scope cl C X.env) fp) e (teU X scope e) := ⟨fun pins s σ H Q I h => h s0 H0 C cl fp pins s I⟩
theorem TstI.run {k : Bool} {t u : AS} : ∀ {ifs : List Expr}, TstI (c.blk scope) ifs t k u → ∀ {X : Cx}, Good X c → ∀ {f : Frm} {σ : St} {H F : Hp} {P : List Addr} {M : Nat → Addr} {Q : Bool → Hp → Prop}, Rep X.K f t σ H F P M →
    (∀ H' F' P' M', Same F F' → P <+: P' → Rep X.K f u σ H' F' P' M' → Q k H') → ttU X scope ifs σ H Q
  | [], h, X, g, f, σ, H, F, P, M, Q, R, q => by
    obtain ⟨e1, e2⟩ := h
    subst e1; subst e2
    exact q H F P M (Same.refl F) (List.prefix_refl P) R
  | [e], h, X, g, f, σ, H, F, P, M, Q, R, q => fun s0 H0 C cl fp => h _ (g.blk scope s0 H0 C cl fp) f σ H F P M Q R q
  | _ :: _ :: _, h, _, _, _, _, _, _, _, _, _, _, _ => absurd h (by simp [TstI])
/-- the invariant of a comprehension: what stands behind some turns -/
def LcInv (X : Cx) (f : Frm) (E : List (Option Sv)) (σ : St) (F1 : Hp) (P1 : List Addr) (D : Addr) (S : List SObj) (acc : List PyData) (H : Hp) : Prop :=
  ∃ F P M vs, Same F1 F ∧ P1 <+: P ∧ Rep X.K f ⟨E, S⟩ σ H F P M ∧ H D = some (.lst vs) ∧ DpAll X.K F vs acc ∧ F D = none ∧ D ∉ P ∧ f.H D = none ∧ D ∉ f.P ∧ ∀ (i : Nat) ds, E[i]? = some (some (.own ds)) → M i ≠ D

theorem LcInv.pinned {X : Cx} {f : Frm} {E : List (Option Sv)} {σ : St} {F1 : Hp} {P1 : List Addr} {D : Addr} {S : List SObj} {acc : List PyData} {H : Hp} (inv : LcInv X f E σ F1 P1 D S acc H) :
    ∃ F P M vs, Same F1 F ∧ P1 <+: P ∧ Rep X.K (f.pin D (.lst vs)) ⟨E, S⟩ σ H F P M ∧ DpAll X.K F vs acc ∧ f.H D = none ∧ D ∉ f.P := by
  obtain ⟨F, P, M, vs, m, pp, R, hD, dd, hF, hP, hf, hfP, hM⟩ := inv
  exact ⟨F, P, M, vs, m, pp, R.pin _ hD hF hP hM, dd, hf, hfP⟩
theorem LcInv.of {X : Cx} {f : Frm} {E : List (Option Sv)} {σ : St} {F1 F : Hp} {P1 P : List Addr} {M : Nat → Addr} {D : Addr} {S : List SObj} {acc : List PyData} {H : Hp} {vs : List V} (m : Same F1 F) (pp : P1 <+: P) (R : Rep X.K (f.pin D (.lst vs)) ⟨E, S⟩ σ H F P M)
    (dd : DpAll X.K F vs acc) (hf : f.H D = none) (hfP : D ∉ f.P) : LcInv X f E σ F1 P1 D S acc H := by
  obtain ⟨R', k1, k2, k3, k4⟩ := R.unpin hf hfP
  exact ⟨F, P, M, vs, m, pp, R', k1, dd, k2, k3, hf, hfP, k4⟩
/-- an item put to the list in the making -/
theorem LcInv.push {X : Cx} {f : Frm} {E : List (Option Sv)} {σ : St} {F1 F : Hp} {P1 P : List Addr} {M : Nat → Addr} {D : Addr} {S : List SObj} {acc : List PyData} {H : Hp} {vs : List V} {y : PyData} {v : V} (m : Same F1 F) (pp : P1 <+: P) (R : Rep X.K (f.pin D (.lst vs)) ⟨E, S⟩ σ H F P M)
    (dd : DpAll X.K F vs acc) (hf : f.H D = none) (hfP : D ∉ f.P) (dy : Dp X.K F v y) : LcInv X f E σ F1 P1 D S (acc ++ [y]) (upd H D (.lst (vs ++ [v]))) := by
  obtain ⟨R', k1, k2, k3, k4⟩ := R.unpin hf hfP
  exact ⟨F, P, M, vs ++ [v], m, pp, R'.chg _ hf k2 k3 k4, upd_same, dpa_append dd (.cons dy .nil), k2, k3, hf, hfP, k4⟩
/-- the reading of a comprehension with one clause: S i the store behind i turns, acc i what is made so far -/
theorem lc_read {X : Cx} (g : Good X c) (S : Nat → List SObj) (acc : Nat → List PyData) (hi : EvI c tg iter s xs s1) (hS : S 0 = s1.S) (h0 : acc 0 = []) (hv : (own.map (·.2)).all (fun i => !ownAt s1.E i) = true)
    (ht : ∀ (i : Nat) x, xs[i]? = some x → LcTurn (c.blk scope) tg ifs s1.E (own.map (·.2)) (S i) x (fun S' => S' = S (i + 1) ∧ acc (i + 1) = acc i)
      (fun u => ∃ y w, Ev (c.blk scope) elt u (.dat y) w ∧ wipeE w.E (own.map (·.2)) = wipeE s1.E (own.map (·.2)) ∧ w.S = S (i + 1) ∧ acc (i + 1) = acc i ++ [y]))
    (hl : ∀ i, i ≤ xs.length → (acc i).length ≤ i) {f : Frm} {σ : St} {H F : Hp} {P : List Addr} {M : Nat → Addr} {Q : VK} (R : Rep X.K f s σ H F P M) (q : Post X f σ F P ⟨s1.E, S xs.length⟩ (.own (acc xs.length)) Q) :
    tLc (tBI X tg iter) (gU X scope tg) (ttU X scope ifs) (teU X scope elt) (own.map (·.2)) σ H Q := by
  show tBI X tg iter σ H _
  refine hi X g f σ H F P M _ R fun J H1 F1 P1 M1 m1 p1 R1 it hz D hD => ?_
  have inv0 : LcInv X f s1.E σ F1 P1 D (S 0) (acc 0) (upd H1 D (.lst [])) := by
    rw [h0, hS]
    exact ⟨F1, P1, M1, [], Same.refl F1, List.prefix_refl P1, R1.laid _ hD, upd_same, .nil, R1.freeF hD, R1.freeP hD, R1.free hD, fun z => R1.freeP hD (R1.pre.subset z), fun i ds e => R1.freeM hD e⟩
  have W : ∃ W : Nat → Nat → Hp → Prop, W = fun i m H' => m = xs.length - i ∧ i ≤ xs.length ∧ LcInv X f s1.E σ F1 P1 D (S i) (acc i) H' := ⟨_, rfl⟩
  obtain ⟨W, hW⟩ := W
  refine ⟨W, ⟨xs.length, by rw [hW]; exact ⟨by omega, Nat.zero_le _, inv0⟩⟩, fun i m H2 w => ?_⟩
  rw [hW] at w
  obtain ⟨rfl, hle, inv⟩ := w
  obtain ⟨F2, P2, M2, vs, m2, p2, R2, d2, hf, hfP⟩ := inv.pinned
  by_cases hlt : i < xs.length
  · refine .inr ?_
    have ex : xs[i]? = some xs[i] := List.getElem?_eq_getElem hlt
    obtain ⟨go, yl⟩ := it.take m2 R2 ex
    obtain ⟨t, js, k, u, htg, hjs, htt, hwu, hyes, hno⟩ := ht i _ ex
    refine ⟨go, fun H' => W (i + 1) (xs.length - (i + 1)) H', fun H' h => ⟨_, by omega, h⟩, fun x H3 hy => ?_⟩
    obtain ⟨F3, m3, R3, dp⟩ := yl x H3 hy
    intro s0 H0 C cl fp
    refine htg _ (g.blk scope s0 H0 C cl fp) (f.pin D (.lst vs)) _ H3 F3 P2 M2 x _ (R3.wipe (own.map (·.2))) dp fun σ4 l4 k4 R4 => ?_
    have hw4 : L2.wipe σ4 (own.map (·.2)) = L2.wipe σ (own.map (·.2)) := by
      have e : L2.wipe σ4 (own.map (·.2)) = L2.wipe (L2.wipe σ (own.map (·.2))) (own.map (·.2)) := wipe_eq l4 fun j hj => k4 j fun z => hj (by
        have := List.all_eq_true.mp hjs j z
        simpa using this)
      rw [e]
      exact wipe_eq (wipe_length _ _) fun j hj => wipe_out hj
    refine ⟨hw4, ?_⟩
    refine htt.run g R4 fun H5 F5 P5 M5 m5 p5 R5 => ?_
    have hacc : vs.length = (acc i).length := dpa_len d2
    cases k with
    | true =>
      rw [if_pos rfl]
      obtain ⟨y, w, he, hww, hwS, ha⟩ := hyes rfl
      intro s0' H0' C' cl' fp'
      refine he _ (g.blk scope s0' H0' C' cl' fp') (f.pin D (.lst vs)) σ4 H5 F5 P5 M5 _ R5 fun v H6 F6 P6 M6 m6 p6 R6 r6 => ?_
      have R6' : Rep X.K (f.pin D (.lst vs)) ⟨w.E, w.S⟩ σ4 H6 F6 P6 M6 := R6
      have Ro := R3.unblk R6' (m5.trans m6) (p5.trans p6) hw4 hww hv
      have hli := hl i hle
      refine ⟨vs, R6.frame D _ upd_same hfP, by rw [hacc, sizeLine_eq]; omega, ?_⟩
      rw [hW]
      refine ⟨rfl, hlt, ?_⟩
      rw [ha, ← hwS]
      exact LcInv.push ((m2.trans m3).trans (m5.trans m6)) (p2.trans (p5.trans p6)) Ro (dpa_mono (m3.trans (m5.trans m6)) _ _ d2) hf hfP r6
    | false =>
      rw [if_neg Bool.false_ne_true, hW]
      obtain ⟨e1, e2⟩ := hno rfl
      refine ⟨rfl, hlt, ?_⟩
      rw [e2, ← e1]
      have R5' : Rep X.K (f.pin D (.lst vs)) ⟨u.E, u.S⟩ σ4 H5 F5 P5 M5 := R5
      exact LcInv.of ((m2.trans m3).trans m5) (p2.trans p5) (R3.unblk R5' m5 p5 hw4 hwu hv) (dpa_mono (m3.trans m5) _ _ d2) hf hfP
  · have e : i = xs.length := by omega
    subst e
    refine .inl ⟨?_, ?_⟩
    · exact (it H2 F2 m2 R2.sub).1
    · obtain ⟨R2', k1, k2, k3, k4⟩ := R2.unpin hf hfP
      exact q (.ref D) H2 F2 P2 M2 (m1.trans m2) (p1.trans p2) R2' ⟨D, vs, rfl, k1, d2, k2, k3, hf, k4⟩
theorem ev_lc (own : List (Str × Nat)) (S : Nat → List SObj) (acc : Nat → List PyData) (hi : EvI c tg iter s xs s1) (hS : S 0 = s1.S) (h0 : acc 0 = []) 
    (ht : ∀ (i : Nat) x, xs[i]? = some x → LcTurn (c.blk scope) tg ifs s1.E (own.map (·.2)) (S i) x (fun S' => S' = S (i + 1) ∧ acc (i + 1) = acc i)
      (fun u => ∃ y w, Ev (c.blk scope) elt u (.dat y) w ∧ wipeE w.E (own.map (·.2)) = wipeE s1.E (own.map (·.2)) ∧ w.S = S (i + 1) ∧ acc (i + 1) = acc i ++ [y]))
    (hl : ∀ i, i ≤ xs.length → (acc i).length ≤ i) (hok : blkC c.N c.sc scope own = true) (hv : (own.map (·.2)).all (fun i => !ownAt s1.E i) = true := by rfl) (hif : ifs.length ≤ 1 := by decide) (hs : ∀ env x, foldedSetIterable iter env x = pure x := by intro _ _; rfl) :
    Ev c (.ListComp elt [⟨tg, iter, ifs, 0⟩] scope pos) s (.own (acc xs.length)) ⟨s1.E, S xs.length⟩ := by
  intro X g f σ H F P M Q R q
  exact tB_of (pe_lc (own := own) g.calm g.nd piB (blkOk_by (by rw [g.N, g.sc]; exact hok)) (fun _ _ _ _ _ => gU_ok _ _ _ _ _) (fun _ _ _ _ _ => ttU_ok _ _ _ _ _ hif) (fun _ _ _ _ _ => teU_ok _ _ _ _ _) (hs _))
    (lc_read g S acc hi hS h0 hv ht hl R q)
/-- x = [..] -/
theorem ex_setLc (i : Nat) {x : Str} {py spos : Pos} (own : List (Str × Nat)) (S : Nat → List SObj) (acc : Nat → List PyData) (hi : EvI c tg iter s xs s1) (hS : S 0 = s1.S) (h0 : acc 0 = []) 
    (ht : ∀ (i : Nat) x, xs[i]? = some x → LcTurn (c.blk scope) tg ifs s1.E (own.map (·.2)) (S i) x (fun S' => S' = S (i + 1) ∧ acc (i + 1) = acc i)
      (fun u => ∃ y w, Ev (c.blk scope) elt u (.dat y) w ∧ wipeE w.E (own.map (·.2)) = wipeE s1.E (own.map (·.2)) ∧ w.S = S (i + 1) ∧ acc (i + 1) = acc i ++ [y]))
    (hl : ∀ i, i ≤ xs.length → (acc i).length ≤ i) (hok : blkC c.N c.sc scope own = true) (hx : c.N[i]? = some x := by rfl) (hxl : c.sc.names.lookup x = some .local := by rfl) (hfk : c.sc.kind = .function := by rfl)
    (hln : (py.line == pos.line) = true := by rfl) (hnx : (scope.names.any fun (n, k) => n == x && (k == .local || k == .cell)) = false := by rfl)
    (hv : (own.map (·.2)).all (fun i => !ownAt s1.E i) = true := by rfl) (hif : ifs.length ≤ 1 := by decide) (hs : ∀ env x, foldedSetIterable iter env x = pure x := by intro _ _; rfl) :
    Ex c (.Assign [.Name x py] (.ListComp elt [⟨tg, iter, ifs, 0⟩] scope pos) spos) s (.nx (AS.put ⟨s1.E, S xs.length⟩ i (.own (acc xs.length)))) := by
  intro X g f σ H F P M D R q
  refine tBS_of (ps_setLc (i := i) (own := own) g.calm g.nd (by rw [g.N]; exact hx) (by rw [g.sc]; exact hxl) (sw_true (by rw [g.sc]; exact hfk) (by rw [g.sc]; exact hxl) hln hnx) piB (blkOk_by (by rw [g.N, g.sc]; exact hok)) (fun _ _ _ _ _ => gU_ok _ _ _ _ _) (fun _ _ _ _ _ => ttU_ok _ _ _ _ _ hif) (fun _ _ _ _ _ => teU_ok _ _ _ _ _) (hs _)) ?_
  refine lc_read g S acc hi hS h0 hv ht hl R fun v H1 F1 P1 M1 m1 p1 R1 r1 => ?_
  obtain ⟨M2, R2⟩ := R1.put i r1
  exact q _ H1 F1 P1 M2 m1 R2
/-- a fresh list in a slot is data from here on -/
theorem ex_frz (i : Nat) {st : Stmt} {ds : List PyData} {s2 : AS} (h : Ex c st s (.nx (s2.put i (.own ds)))) (hi : i < s2.E.length) : Ex c st s (.nx (s2.put i (.dat (.list ds)))) := fun X g f σ H F P M D R q =>
  h X g f σ H F P M D R fun σ1 H1 F1 P1 M1 m1 R1 => by
    have e : (s2.put i (.own ds)).E[i]? = some (some (.own ds)) := by
      show (s2.E.set i _)[i]? = _
      rw [List.getElem?_set_self hi]
    obtain ⟨o1, ⟨vs, o2, o3⟩, o4, o5, o6⟩ := R1.own i ds e
    -- the slot forgotten, then the list frozen, then put back
    have w : Wk (s2.put i (.own ds)) ⟨s2.E.set i none, s2.S⟩ := ⟨rfl, by show (s2.E.set i _).length = (s2.E.set i _).length; rw [List.length_set, List.length_set], fun j x e => by
      rcases set_get e with ⟨_, z, _⟩ | ⟨ne, z⟩
      · cases z
      · show (s2.E.set i _)[j]? = _
        rw [List.getElem?_set_ne (Ne.symm ne)]; exact z⟩
    have R2 := R1.wk w
    obtain ⟨F3, m3, R3, d3⟩ := R2.freeze (ds := ds) (v := .ref (M1 i)) ⟨M1 i, vs, rfl, o2, o3, o4, o5, o6, fun j es ej => by
      rcases set_get ej with ⟨_, z, _⟩ | ⟨ne, z⟩
      · cases z
      · intro em
        exact ne (R1.inj j i es ds (by show (s2.E.set i _)[j]? = _; rw [List.getElem?_set_ne (Ne.symm ne)]; exact z) e em)⟩
    have R4 := R3.setD i d3
    have e1 : (⟨(s2.E.set i none).set i (some (.dat (.list ds))), s2.S⟩ : AS) = s2.put i (.dat (.list ds)) := by
      unfold AS.put
      rw [List.set_set]
    have e2 : σ1.set i (some (.ref (M1 i))) = σ1 := by
      apply List.ext_getElem?
      intro j
      by_cases hj : j = i
      · subst hj
        obtain ⟨hl, _⟩ := List.getElem?_eq_some_iff.mp o1
        rw [List.getElem?_set_self hl, o1]
      · rw [List.getElem?_set_ne (Ne.symm hj)]
    have R5 : Rep X.K f (s2.put i (.dat (.list ds))) σ1 H1 F3 P1 M1 := by
      rw [← e1, ← e2]
      exact R4
    exact q σ1 H1 F3 P1 M1 (m1.trans m3) R5

/-! ### defs -/
/-- what a def promises: R args store result store' -/
abbrev DRel := List Sv → List SObj → Sv → List SObj → Prop
def okR (n : Nat) : Sv → Prop
  | .dat _ => True
  | .obj j => j < n
  | .own _ => False
def spOf (K : PySem.W.Frag) (R : DRel) : Sp := fun vs H Q _ => ∃ F P M rs S r S', Rep K ⟨H, F, P⟩ ⟨[], S⟩ [] H F P M ∧ RepAs K F P rs vs ∧ R rs S r S' ∧ ∀ v H' F' P' M', Same F F' → Rep K ⟨H, F, P⟩ ⟨[], S'⟩ [] H' F' P' M' → RepA K F' P' r v → Q v H'
theorem RepAs.get {K : PySem.W.Frag} {F : Hp} {P : List Addr} : ∀ {rs : List Sv} {vs : List V} {i : Nat} {r : Sv}, RepAs K F P rs vs → rs[i]? = some r → ∃ v, vs[i]? = some v ∧ RepA K F P r v
  | _, _, i, r, .nil, e => by simp at e
  | _, _, 0, r, .cons a t, e => by simp at e; subst e; exact ⟨_, rfl, a⟩
  | _, _, i + 1, r, .cons a t, e => by simpa using RepAs.get t (by simpa using e)
theorem Rep.start {K : PySem.W.Frag} {f : Frm} {S : List SObj} {H F : Hp} {P : List Addr} {M : Nat → Addr} {rs : List Sv} {vs : List V} {N : List Str} (R : Rep K f ⟨[], S⟩ [] H F P M) (ra : RepAs K F P rs vs) : Rep K f ⟨rs.map some ++ List.replicate (N.length - rs.length) none, S⟩ (L2.start N vs) H F P M := by
  have get : ∀ (i : Nat) r, (rs.map some ++ List.replicate (N.length - rs.length) none)[i]? = some (some r) → ∃ v, (L2.start N vs)[i]? = some (some v) ∧ RepA K F P r v := fun i r e => by
    have hi : i < rs.length := by
      by_cases hi : i < rs.length
      · exact hi
      · rw [List.getElem?_append_right (by simpa using hi), List.getElem?_replicate] at e
        split at e <;> cases e
    rw [List.getElem?_append_left (by simpa using hi), List.getElem?_map] at e
    cases q : rs[i]? with
    | none => rw [q] at e; cases e
    | some x =>
      rw [q] at e
      cases e
      obtain ⟨v, e1, e2⟩ := ra.get q
      refine ⟨v, ?_, e2⟩
      unfold L2.start
      rw [List.getElem?_append_left (by rw [List.length_map]; exact (List.getElem?_eq_some_iff.mp e1).1), List.getElem?_map, e1]
      rfl
  refine ⟨R.sub, R.frame, R.ffr, R.pre, ?_, fun i d e => ?_, fun i j e => ?_, fun i ds e => ?_, fun i j ds es e => ?_, R.plen, R.so, R.nd⟩
  · unfold L2.start
    show _ = (rs.map some ++ List.replicate (N.length - rs.length) none).length
    rw [List.length_append, List.length_append, List.length_map, List.length_map, List.length_replicate, List.length_replicate, ra.len]
  · exact get i _ e
  · obtain ⟨v, e1, a, e2, e3⟩ := get i _ e
    subst e3
    exact ⟨a, e2, e1⟩
  · obtain ⟨v, e1, e2⟩ := get i _ e
    exact e2.elim
  · obtain ⟨v, e1, e2⟩ := get i _ e
    exact e2.elim
/-- the store's end forgotten -/
theorem Rep.cut {K : PySem.W.Frag} {f : Frm} {S' J : List SObj} {H F : Hp} {P : List Addr} {M : Nat → Addr} (R : Rep K f ⟨[], S' ++ J⟩ [] H F P M) (h : f.P.length ≤ S'.length) : Rep K f ⟨[], S'⟩ [] H F (P.take S'.length) M where
  sub := R.sub
  frame := R.frame
  ffr := R.ffr
  pre := by
    obtain ⟨l, e⟩ := R.pre
    refine ⟨l.take (S'.length - f.P.length), ?_⟩
    rw [← e, List.take_append, List.take_of_length_le h]
  len := rfl
  dat := fun i d e => by simp at e
  ob := fun i d e => by simp at e
  own := fun i d e => by simp at e
  inj := fun i j ds es e1 => by simp at e1
  plen := by
    have q : P.length = (S' ++ J).length := R.plen
    rw [List.length_append] at q
    show _ = S'.length
    rw [List.length_take]
    omega
  so := fun i o a e1 e2 => by
    rw [List.getElem?_take] at e2
    split at e2
    · rename_i hi
      exact R.so i o a (by rw [List.getElem?_append_left hi]; exact e1) e2
    · cases e2
  nd := R.nd.sublist (List.take_sublist _ _)
theorem RepA.cut {K : PySem.W.Frag} {F : Hp} {P : List Addr} {r : Sv} {v : V} {n : Nat} (h : RepA K F P r v) (ok : okR n r) : RepA K F (P.take n) r v := by
  cases r with
  | dat d => exact h
  | obj j =>
    obtain ⟨a, e, q⟩ := h
    exact ⟨a, by rw [List.getElem?_take, if_pos (show j < n from ok)]; exact e, q⟩
  | own ds => exact h.elim
section
variable {P : Program} {w : World} {K : PySem.W.Frag} {mg : Str → Option Value} {base : Heap}
abbrev ctxOf (P : Program) (w : World) (K : PySem.W.Frag) (mg : Str → Option Value) (base : Heap) (N : List Str) (sc : Scope) (k : Nat) : Ctx := ⟨P, w, K, mg, base, N, sc, k, fun _ => true⟩
/-- THE RULE for a def -/
theorem fn_ok {x qual : Str} {st : Stmt} {f : Addr} {fd : FuncData} {N ps : List Str} {k : Nat} {R : DRel} (Fu : Fun K x qual st f fd) (S : FnScope N ps (defScope st)) (hl : ∀ rs S r S', R rs S r S' → rs.length = ps.length)
    (hb : ∀ rs S r S', R rs S r S' → S.length ≤ S'.length ∧ okR S'.length r ∧ ∃ J, Exs (ctxOf P w K mg base N (defScope st) k) (defBody st) ⟨rs.map some ++ List.replicate (N.length - rs.length) none, S⟩ (.rt r (S' ++ J))) : FnOk P w K mg base CX0 (k + 1) f fd ps (spOf K R) := by
  refine Fu.ok S (fun vs H Q E h => ?_) (fun cdv A outer s H vs Q E hr h => ?_)
  · obtain ⟨F, P, M, rs, S0, r, S', Rp, ra, hR, q⟩ := h
    rw [← ra.len]; exact hl _ _ _ _ hR
  · obtain ⟨F, P0, M, rs, S0, r, S', Rp, ra, hR, q⟩ := h
    obtain ⟨hS, hok, J, hx⟩ := hb rs S0 r S' hR
    refine ⟨_, pssB, ?_⟩
    refine hx _ ⟨rfl, rfl, rfl, rfl, rfl, rfl, rfl, rfl, S.nd, hr, rfl, fun _ _ _ => .inl rfl⟩ ⟨H, F, P0⟩ (L2.start N vs) H F P0 M _ (Rp.start ra) ?_
    intro v H1 F1 P1 M1 m1 R1 r1
    have hp : P0.length ≤ S'.length := by
      have : P0.length = S0.length := Rp.plen
      omega
    exact q v H1 F1 (P1.take S'.length) M1 m1 (R1.cut hp) (r1.cut hok)
/-- a def that may be called -/
structure Cal (P : Program) (w : World) (K : PySem.W.Frag) (mg : Str → Option Value) (base : Heap) (k : Nat) (x : Str) (R : DRel) : Prop where
  ex : ∃ f fd ps, FnOk P w K mg base CX0 k f fd ps (spOf K R) ∧ mg x = some (.ref f) ∧ PySem.W.keepIn K (.ref f) = true ∧ Binds K fd ps []
theorem Cal.mono {k k' : Nat} {x : Str} {R : DRel} (C : Cal P w K mg base k x R) (h : k ≤ k') : Cal P w K mg base k' x R := by
  obtain ⟨f, fd, ps, h1, h2⟩ := C.ex
  exact ⟨f, fd, ps, h1.mono h, h2⟩
end
theorem ev_call {x : Str} {R : DRel} {es : List Expr} {rs : List Sv} {r : Sv} {S' : List SObj} (C : Cal c.P c.w c.K c.mg c.base c.k x R) (ha : EvA c (e :: es) s rs s1) (hR : R rs s1.S r S') (hg : GlC c x := by rfl)
    (hdb : (x == ("__debug__" : Str)) = false := by decide) (he : ∀ env, starEach (e :: es) env = (false, eval e env) :: starEach es env := by intro _; rfl) (hpl : ∀ env, (backTo pos (starEach es env)).any (·.1) = false := by intro _; rfl) :
    Ev c (.Call (.Name x p) (e :: es) [] pos) s r ⟨s1.E, S'⟩ := by
  intro X g f σ H F P M Q R0 q
  obtain ⟨fa, fd, ps, hF, hm, hk, hb⟩ := C.ex
  have hF' : FnOk X.prog X.w X.K X.mg X.base CX0 c.k fa fd ps (spOf X.K R) := by
    rw [g.prog, g.ww, g.K, g.mg, g.base]; exact hF
  refine tB_of (pe_call hF' g.room (g.gl hg) (by rw [g.mg]; exact hm) (by rw [g.K]; exact hk) (by rw [g.K]; exact hb) .nil pass0 paB hdb (he _) (hpl _)) ?_
  refine ha X g f σ H F P M _ R0 fun vs H1 F1 P1 M1 m1 p1 R1 r1 => ?_
  rw [List.append_nil]
  refine ⟨F1, P1, M1, rs, s1.S, r, S', R1.here, r1, hR, fun v H2 F2 P2 M2 m2 R2 r2 => ?_⟩
  refine q v H2 F2 P2 M1 (m1.trans m2) (p1.trans R2.pre) (R1.back m2 R2) ?_
  cases r with
  | dat d => exact r2
  | obj j => exact r2
  | own ds => exact r2.elim
end
end SL

/-! SL, the end: from the head's facts to the law. -/
namespace SL
open PySem PySem.Spec PyProof.Rows L2

/-- a def of the text, as the top leaves it -/
structure DefF (K : PySem.W.Frag) (x : Str) (st : Stmt) : Prop where
  ex : ∃ f fd, PySem.W.nsIn K mainGlobals x = some (some (.ref f)) ∧ Fun K x x st f fd
theorem defF_mk {K : PySem.W.Frag} {x : Str} {st : Stmt} {f : Addr} {oc : Value} {od an : Option Addr} {osl : Array (Option Value)} {kV doc pm cdv ct : Value} (a : PySem.W.nsIn K mainGlobals x = some (some (.ref f)))
    (l : K.lookup f = some ⟨oc, od, .func (PySem.W.fnOf x x (defArgs st) (defBody st) (defScope st) .none kV doc pm an cdv ct), osl⟩) (c : PySem.W.codeIn K cdv x = true) (k : PySem.W.keepIn K (.ref f) = true) : DefF K x st := ⟨f, _, a, fun_mk l c k⟩
/-- how it binds: b is «fun _ _ _ _ _ _ us hl => match us, hl with | [_, _], _ => rfl» -/
def BindF (x : Str) (st : Stmt) (ps : List Str) : Prop := ∀ (kV doc pm : Value) (an : Option Addr) (cdv ct : Value) (us : List Value), us.length = ps.length → bindArgs (PySem.W.fnOf x x (defArgs st) (defBody st) (defScope st) .none kV doc pm an cdv ct) ⟨us, []⟩ = pure (ps.zip us)
section
variable {P : Program} {w : World} {K : PySem.W.Frag} {mg : Str → Option Value} {base h : Heap}
theorem cal_mk {x : Str} {st : Stmt} {N ps : List Str} {k : Nat} {R : DRel} (X : K.In h) (G : h.Ns mainGlobals mg) (D : DefF K x st) (b : BindF x st ps) (S : FnScope N ps (defScope st)) (hl : ∀ rs S r S', R rs S r S' → rs.length = ps.length)
    (hb : ∀ rs S r S', R rs S r S' → S.length ≤ S'.length ∧ okR S'.length r ∧ ∃ J, Exs (ctxOf P w K mg base N (defScope st) k) (defBody st) ⟨rs.map some ++ List.replicate (N.length - rs.length) none, S⟩ (.rt r (S' ++ J))) : Cal P w K mg base (k + 1) x R := by
  obtain ⟨f, fd, a, F⟩ := D.ex
  exact ⟨f, fd, ps, fn_ok F S hl hb, PySem.W.mg_of X G a, F.kp, F.binds b⟩
theorem bl_mk (X : K.In h) (G : h.Ns mainGlobals mg) (z : ∀ x ∈ ["len", "range", "tuple", "list", "int", "bool", "str", "abs", "sum", "min", "max", "sorted", "all", "any", "isinstance", "set", "enumerate", "zip"], PySem.W.nsIn K mainGlobals (Str.ofString x) = some none) : Bl mg := by
  have k : ∀ x ∈ ["len", "range", "tuple", "list", "int", "bool", "str", "abs", "sum", "min", "max", "sorted", "all", "any", "isinstance", "set", "enumerate", "zip"], mg (Str.ofString x) = none := fun x hx => PySem.W.mg_none_of X G (z x hx)
  exact ⟨k _ (by simp), k _ (by simp), k _ (by simp), k _ (by simp), k _ (by simp), k _ (by simp), k _ (by simp), k _ (by simp), k _ (by simp), k _ (by simp), k _ (by simp), k _ (by simp), k _ (by simp), k _ (by simp), k _ (by simp), k _ (by simp), k _ (by simp), k _ (by simp)⟩
/-- what the law promises -/
def RLaw : DRel := fun rs S r S' => ∃ ns : List Int, rs = [.dat (.list (ns.map .int))] ∧ ns.length ≤ 63 ∧ S = [] ∧ r = .dat (.bool true) ∧ S' = []
theorem law_start {H : Hp} {a : Addr} {ns : List Int} (hn : ns.length ≤ 63) (h : SqL K H a (ns.map V.int)) : spOf K RLaw [.ref a] H (fun v _ => v = V.bl true) (fun _ _ _ => False) := by
  refine ⟨H, [], fun _ => 0, [.dat (.list (ns.map .int))], [], .dat (.bool true), [], ⟨Same.refl H, fun _ _ e _ => e, fun _ _ _ => rfl, List.prefix_refl _, rfl, fun i d e => by simp at e, fun i d e => by simp at e, fun i d e => by simp at e, fun i j ds es e1 => by simp at e1, rfl, fun i o a e => by simp at e, .nil⟩, .cons (.lst h (dpa_ints ns)) .nil, ⟨ns, rfl, hn, rfl, rfl, rfl⟩, fun v H' F' P' M' _ _ r => ?_⟩
  cases r
  rfl
theorem law_mk {st : Stmt} {N : List Str} {k : Nat} {fa : Addr} (X : K.In h) (G : h.Ns mainGlobals mg) (hfa : mg "law" = some (.ref fa)) {f : Addr} {oc : Value} {od an : Option Addr} {osl : Array (Option Value)} {kV doc pm cdv ct : Value} (a : PySem.W.nsIn K mainGlobals "law" = some (some (.ref f)))
    (l : K.lookup f = some ⟨oc, od, .func (PySem.W.fnOf "law" "law" (defArgs st) (defBody st) (defScope st) .none kV doc pm an cdv ct), osl⟩) (c : PySem.W.codeIn K cdv "law" = true) (kk : PySem.W.keepIn K (.ref f) = true)
    (hbind : ∀ (s : Shared) (v : Value), BindsTo s (PySem.W.fnOf "law" "law" (defArgs st) (defBody st) (defScope st) .none kV doc pm an cdv ct) ⟨[v], []⟩ [("script", v)]) (S : FnScope N ["script"] (defScope st))
    (hb : ∀ base : Heap, K.In base → base.Ns mainGlobals mg → ∀ ns : List Int, ns.length ≤ 63 → ∃ J, Exs (ctxOf P w K mg base N (defScope st) k) (defBody st) ⟨some (.dat (.list (ns.map .int))) :: List.replicate (N.length - 1) none, []⟩ (.rt (.dat (.bool true)) J)) :
    ∃ fd : FuncData, (∀ (s : Shared) (v : Value), BindsTo s fd ⟨[v], []⟩ [("script", v)]) ∧ ∀ base : Heap, K.In base → base.Ns mainGlobals mg → FnOk P w K mg base CX0 (k + 1) fa fd ["script"] (spOf K RLaw) := by
  have e := hfa.symm.trans (PySem.W.mg_of X G a)
  cases e
  refine ⟨_, hbind, fun base X0 G0 => fn_ok (fun_mk l c kk) S (fun rs S r S' h => ?_) (fun rs S0 r S' h => ?_)⟩
  · obtain ⟨ns, rfl, _⟩ := h; rfl
  · obtain ⟨ns, rfl, hn, rfl, rfl, rfl⟩ := h
    obtain ⟨J, q⟩ := hb base X0 G0 ns hn
    exact ⟨Nat.le_refl _, trivial, J, q⟩
end
end SL

/-! SL, the seventh part: forms by type; more of Python. -/
namespace SL
open PySem PySem.Spec PyProof.Rows L2

section
variable {c : Ctx} {s s1 s2 s3 : AS} {e a b tg iter elt : Expr} {ifs : List Expr} {scope : Scope} {pos p : Pos} {xs : List PyData} {ds : List PyData}
/-! ### equality by type -/
theorem ev_eqI {i j : Int} (ha : Ev c a s (.dat (.int i)) s1) (hb : Ev c b s1 (.dat (.int j)) s2) : Ev c (.Compare a [.Eq] [b] pos) s (.dat (.bool (decide (i = j)))) s2 :=
  ev_conv (ev_eq ha hb rfl rfl) (by simp [PyData.eqv, Bool.beq_eq_decide_eq])
theorem ev_neI {i j : Int} (ha : Ev c a s (.dat (.int i)) s1) (hb : Ev c b s1 (.dat (.int j)) s2) : Ev c (.Compare a [.NotEq] [b] pos) s (.dat (.bool (!decide (i = j)))) s2 :=
  ev_conv (ev_ne ha hb rfl rfl) (by simp [PyData.eqv, Bool.beq_eq_decide_eq])
theorem tst_conv {k k' : Bool} (h : Tst c e s k s1) (e1 : k = k') : Tst c e s k' s1 := e1 ▸ h
theorem tst_eqI {i j : Int} (ha : Ev c a s (.dat (.int i)) s1) (hb : Ev c b s1 (.dat (.int j)) s2) : Tst c (.Compare a [.Eq] [b] pos) s (decide (i = j)) s2 :=
  tst_conv (tst_eq ha hb rfl rfl) (by simp [PyData.eqv, Bool.beq_eq_decide_eq])
theorem tst_neI {i j : Int} (ha : Ev c a s (.dat (.int i)) s1) (hb : Ev c b s1 (.dat (.int j)) s2) : Tst c (.Compare a [.NotEq] [b] pos) s (!decide (i = j)) s2 :=
  tst_conv (tst_ne ha hb rfl rfl) (by simp [PyData.eqv, Bool.beq_eq_decide_eq])
section
open Classical
end
/-! ### chains of ints -/
section
variable {i j k : Int} {d : Expr}
def cR (op : CmpOp) : R2 := match op with
  | .Lt => rI0 fun i j => .bl (decide (i < j))
  | .LtE => rI0 fun i j => .bl (decide (i ≤ j))
  | .Gt => rI0 fun i j => .bl (decide (j < i))
  | .GtE => rI0 fun i j => .bl (decide (j ≤ i))
  | _ => fun _ _ _ _ => False
def cB (op : CmpOp) (i j : Int) : Bool := match op with
  | .Lt => decide (i < j)
  | .LtE => decide (i ≤ j)
  | .Gt => decide (j < i)
  | .GtE => decide (j ≤ i)
  | _ => false
theorem cR_ok {X : Cx} {op : CmpOp} (h : op = .Lt ∨ op = .LtE ∨ op = .Gt ∨ op = .GtE) : OpR X (compareOp op) (cR op) := by
  rcases h with rfl | rfl | rfl | rfl
  · exact op_lt
  · exact op_le
  · exact op_gt
  · exact op_ge
theorem cR_act {op : CmpOp} (h : op = .Lt ∨ op = .LtE ∨ op = .Gt ∨ op = .GtE) {i j : Int} : Act2 c (fun _ => cR op) s (.int i) (.int j) (.dat (.bool (cB op i j))) s := by
  rcases h with rfl | rfl | rfl | rfl
  · exact actI0 (fun _ => rfl) fun _ _ => .bl _
  · exact actI0 (fun _ => rfl) fun _ _ => .bl _
  · exact actI0 (fun _ => rfl) fun _ _ => .bl _
  · exact actI0 (fun _ => rfl) fun _ _ => .bl _

theorem chain_read {op op' : CmpOp} {X : Cx} (g : Good X c) (ha : Ev c a s (.dat (.int i)) s) (hb : Ev c b s (.dat (.int j)) s) (hd : Ev c d s (.dat (.int k)) s) (h : op = .Lt ∨ op = .LtE ∨ op = .Gt ∨ op = .GtE) (h' : op' = .Lt ∨ op' = .LtE ∨ op' = .Gt ∨ op' = .GtE)
    {f : Frm} {σ : St} {H F : Hp} {P : List Addr} {M : Nat → Addr} {Q : VK} (R : Rep X.K f s σ H F P M) (q : Post X f σ F P s (.dat (.bool (cB op i j && cB op' j k))) Q) : tChain (cR op) (cR op') (tB X a) (tB X b) (tB X d) σ H Q := by
  show tB X a σ H _
  refine ha X g f σ H F P M _ R fun v H1 F1 P1 M1 m1 p1 R1 r1 => ?_
  refine tB_know ?_
  refine hb X g f σ H1 F1 P1 M1 _ R1 fun u H2 F2 P2 M2 m2 p2 R2 r2 kn => ?_
  refine cR_act h X g f σ H2 F2 P2 M2 v u _ kn R2 (dp_mono m2 _ _ r1) r2 fun w H3 F3 P3 M3 m3 p3 R3 r3 => ?_
  cases r3
  refine ⟨_, rfl, ?_⟩
  have q3 := ((q.mono m1 p1).mono m2 p2).mono m3 p3
  cases hk : cB op i j with
  | true =>
    rw [if_pos rfl]
    rw [hk, Bool.true_and] at q3
    refine tB_know ?_
    refine hd X g f σ H3 F3 P3 M3 _ R3 fun w H4 F4 P4 M4 m4 p4 R4 r4 kn => ?_
    exact cR_act h' X g f σ H4 F4 P4 M4 u w _ kn R4 (dp_mono m4 _ _ (dp_mono m3 _ _ r2)) r4 (q3.mono m4 p4)
  | false =>
    rw [if_neg Bool.false_ne_true]
    rw [hk, Bool.false_and] at q3
    exact q3.same R3 (.bl _)
theorem marks2 {op op' : CmpOp} {d : Expr} (h' : op' = .Lt ∨ op' = .LtE ∨ op' = .Gt ∨ op' = .GtE) : lastMarks [op, op'] [b, d] = false := by
  show behindInMarks op' d = false
  rcases h' with rfl | rfl | rfl | rfl <;> exact nomark d
/-- a op b op' d, all at one state -/
theorem ev_chainI {op op' : CmpOp} (ha : Ev c a s (.dat (.int i)) s) (hb : Ev c b s (.dat (.int j)) s) (hd : Ev c d s (.dat (.int k)) s) (h : op = .Lt ∨ op = .LtE ∨ op = .Gt ∨ op = .GtE := by simp) (h' : op' = .Lt ∨ op' = .LtE ∨ op' = .Gt ∨ op' = .GtE := by simp) :
    Ev c (.Compare a [op, op'] [b, d] pos) s (.dat (.bool (cB op i j && cB op' j k))) s := fun X g f σ H F P M Q R q =>
  tB_of (pe_chain (cR_ok h) (cR_ok h') peB peB peB (marks2 h')) (chain_read g ha hb hd h h' R q)
theorem tst_chainI {op op' : CmpOp} (ha : Ev c a s (.dat (.int i)) s) (hb : Ev c b s (.dat (.int j)) s) (hd : Ev c d s (.dat (.int k)) s) (h : op = .Lt ∨ op = .LtE ∨ op = .Gt ∨ op = .GtE := by simp) (h' : op' = .Lt ∨ op' = .LtE ∨ op' = .Gt ∨ op' = .GtE := by simp) :
    Tst c (.Compare a [op, op'] [b, d] pos) s (cB op i j && cB op' j k) s := fun X g f σ H F P M Q R q =>
  tBT_of (pt_chain (cR_ok h) (cR_ok h') peB peB peB (marks2 h')) (chain_read g ha hb hd h h' R fun v H1 F1 P1 M1 m1 p1 R1 r1 => by
    cases r1
    exact ⟨_, rfl, q H1 F1 P1 M1 m1 p1 R1⟩)
end
/-! ### and, or of truth values; a if t else b -/
theorem ev_andB {k l : Bool} {rest : List Expr} (h : Ev c a s (.dat (.bool k)) s) (h2 : k = true → Ev c (.BoolOp .And (b :: rest) pos) s (.dat (.bool l)) s) : Ev c (.BoolOp .And (a :: b :: rest) pos) s (.dat (.bool (k && l))) s :=
  ev_and h (fun e => by rw [e, Bool.true_and]; exact h2 e) fun e => ⟨rfl, by rw [e, Bool.false_and]⟩
theorem ev_orB {k l : Bool} {rest : List Expr} (h : Ev c a s (.dat (.bool k)) s) (h2 : k = false → Ev c (.BoolOp .Or (b :: rest) pos) s (.dat (.bool l)) s) : Ev c (.BoolOp .Or (a :: b :: rest) pos) s (.dat (.bool (k || l))) s :=
  ev_or h (fun e => by rw [e, Bool.false_or]; exact h2 e) fun e => ⟨rfl, by rw [e, Bool.true_or]⟩
theorem tw_andB {k l : Bool} {rest : List Expr} (h : Tst c a s k s) (h2 : k = true → TstW c (.BoolOp .And (b :: rest) pos) s l s) : TstW c (.BoolOp .And (a :: b :: rest) pos) s (k && l) s := tw_and h h2 fun _ => rfl
theorem tw_orB {k l : Bool} {rest : List Expr} (h : Tst c a s k s) (h2 : k = false → TstW c (.BoolOp .Or (b :: rest) pos) s l s) : TstW c (.BoolOp .Or (a :: b :: rest) pos) s (k || l) s := tw_or h h2 fun _ => rfl
theorem ev_ifF {α : Type} (F : α → PyData) {t : Expr} {k : Bool} {x y : α} (h : Tst c t s k s1) (h1 : k = true → Ev c a s1 (.dat (F x)) s2) (h2 : k = false → Ev c b s1 (.dat (F y)) s2) : Ev c (.IfExp t a b pos) s (.dat (F (cond k x y))) s2 :=
  ev_ife h (fun e => by rw [e]; exact h1 e) (fun e => by rw [e]; exact h2 e)

/-! ### comprehensions by type: nothing changes, the items come of as -/
theorem filter_take {α : Type} (p : α → Bool) : ∀ (as : List α) (i : Nat) (x : α), as[i]? = some x → (as.take (i + 1)).filter p = (as.take i).filter p ++ (if p x then [x] else [])
  | [], _, _, h => by simp at h
  | a :: as, 0, x, h => by
    simp at h
    subst h
    simp [List.filter_cons]
  | a :: as, i + 1, x, h => by
    have ih := filter_take p as i x (by simpa using h)
    rw [List.take_succ_cons, List.take_succ_cons, List.filter_cons, List.filter_cons, ih]
    split <;> simp
/-- a turn for an item -/
def Turn0 {α : Type} (c' : Ctx) (tg elt : Expr) (ifs : List Expr) (E : List (Option Sv)) (vs : List Nat) (S : List SObj) (en : α → PyData) (p : α → Bool) (g : α → PyData) (a : α) : Prop :=
  ∃ t js, Tg c' tg (en a) ⟨wipeE E vs, S⟩ t js ∧ js.all (fun j => vs.contains j) = true ∧ t.S = S ∧ wipeE t.E vs = wipeE E vs ∧ TstI c' ifs t (p a) t ∧ (p a = true → Ev c' elt t (.dat (g a)) t)
section
variable {α : Type} {en : α → PyData} {q : α → Bool} {g : α → PyData} {as : List α}
theorem comp_turn {own : List (Str × Nat)} (ht : ∀ a, a ∈ as → Turn0 (c.blk scope) tg elt ifs s1.E (own.map (·.2)) s1.S en q g a) (i : Nat) (x : PyData) (hx : (as.map en)[i]? = some x) :
    LcTurn (c.blk scope) tg ifs s1.E (own.map (·.2)) s1.S x (fun S' => S' = s1.S ∧ ((as.take (i + 1)).filter q).map g = ((as.take i).filter q).map g)
      (fun u => ∃ y w, Ev (c.blk scope) elt u (.dat y) w ∧ wipeE w.E (own.map (·.2)) = wipeE s1.E (own.map (·.2)) ∧ w.S = s1.S ∧ ((as.take (i + 1)).filter q).map g = ((as.take i).filter q).map g ++ [y]) := by
  rw [List.getElem?_map] at hx
  cases e : as[i]? with
  | none => rw [e] at hx; cases hx
  | some a =>
    rw [e] at hx
    cases hx
    obtain ⟨t, js, h1, h2, h3, h4, h5, h6⟩ := ht a (List.mem_of_getElem? e)
    have ft := filter_take q as i a e
    refine ⟨t, js, q a, t, h1, h2, h5, h4, fun hq => ⟨g a, t, h6 hq, h4, h3, ?_⟩, fun hq => ⟨h3, ?_⟩⟩
    · rw [ft, hq, if_pos rfl, List.map_append]; rfl
    · rw [ft, hq, if_neg Bool.false_ne_true, List.append_nil]
theorem ev_comp (own : List (Str × Nat)) (hi : EvI c tg iter s (as.map en) s1) (ht : ∀ a, a ∈ as → Turn0 (c.blk scope) tg elt ifs s1.E (own.map (·.2)) s1.S en q g a)
    (hok : blkC c.N c.sc scope own = true := by (try dsimp only [ctxOf, Ctx.blk]); decide +kernel) (hv : (own.map (·.2)).all (fun i => !ownAt s1.E i) = true := by rfl) (hif : ifs.length ≤ 1 := by decide) (hs : ∀ env x, foldedSetIterable iter env x = pure x := by intro _ _; rfl) :
    Ev c (.ListComp elt [⟨tg, iter, ifs, 0⟩] scope pos) s (.own ((as.filter q).map g)) s1 := by
  have h := ev_lc (pos := pos) own (fun _ => s1.S) (fun i => ((as.take i).filter q).map g) hi rfl rfl (comp_turn ht) (fun i hi => by
    rw [List.length_map]
    exact Nat.le_trans (List.length_filter_le _ _) (List.length_take_le _ _)) hok hv hif hs
  rw [List.length_map, List.take_length] at h
  exact h
theorem ex_comp (i : Nat) {x : Str} {py spos : Pos} (own : List (Str × Nat)) (hi : EvI c tg iter s (as.map en) s1) (ht : ∀ a, a ∈ as → Turn0 (c.blk scope) tg elt ifs s1.E (own.map (·.2)) s1.S en q g a)
    (hok : blkC c.N c.sc scope own = true := by (try dsimp only [ctxOf, Ctx.blk]); decide +kernel) (hx : c.N[i]? = some x := by rfl) (hxl : c.sc.names.lookup x = some .local := by rfl) (hfk : c.sc.kind = .function := by rfl)
    (hln : (py.line == pos.line) = true := by rfl) (hnx : (scope.names.any fun (n, k) => n == x && (k == .local || k == .cell)) = false := by rfl)
    (hv : (own.map (·.2)).all (fun i => !ownAt s1.E i) = true := by rfl) (hif : ifs.length ≤ 1 := by decide) (hs : ∀ env x, foldedSetIterable iter env x = pure x := by intro _ _; rfl) :
    Ex c (.Assign [.Name x py] (.ListComp elt [⟨tg, iter, ifs, 0⟩] scope pos) spos) s (.nx (s1.put i (.own ((as.filter q).map g)))) := by
  have h := ex_setLc (pos := pos) (py := py) (spos := spos) i own (fun _ => s1.S) (fun i => ((as.take i).filter q).map g) hi rfl rfl (comp_turn ht) (fun i hi => by
    rw [List.length_map]
    exact Nat.le_trans (List.length_filter_le _ _) (List.length_take_le _ _)) hok hx hxl hfk hln hnx hv hif hs
  rw [List.length_map, List.take_length] at h
  exact h
end
/-- the turn's parts for one name -/
theorem turn_name {α : Type} {E : List (Option Sv)} {S : List SObj} {vs : List Nat} {en g : α → PyData} {q : α → Bool} {a : α} {x : Str} {k : Bool} {y : PyData} (i : Nat) (h1 : Tg c (.Name x pos) (en a) ⟨wipeE E vs, S⟩ ⟨(wipeE E vs).set i (some (.dat (en a))), S⟩ [i])
    (h2 : TstI c ifs ⟨(wipeE E vs).set i (some (.dat (en a))), S⟩ k ⟨(wipeE E vs).set i (some (.dat (en a))), S⟩) (h3 : k = true → Ev c elt ⟨(wipeE E vs).set i (some (.dat (en a))), S⟩ (.dat y) ⟨(wipeE E vs).set i (some (.dat (en a))), S⟩)
    (hk : k = q a := by rfl) (hy : y = g a := by rfl) (hj : vs.contains i = true := by rfl) (hw : wipeE ((wipeE E vs).set i (some (.dat (en a)))) vs = wipeE E vs := by rfl) : Turn0 c (.Name x pos) elt ifs E vs S en q g a :=
  ⟨_, [i], h1, by simpa using hj, rfl, hw, hk ▸ h2, fun z => hy ▸ h3 (hk.trans z)⟩
theorem tsti_nil : TstI c [] s true s := ⟨rfl, rfl⟩
theorem tsti_one {k : Bool} (h : Tst c e s k s1) : TstI c [e] s k s1 := h
end
end SL

/-! SL, the eighth part: a dict that changes, isinstance, in, pop, texts. -/
namespace SL
open PySem PySem.Spec PyProof.Rows L2

section
variable {K : PySem.W.Frag} {F : Hp}
def lookD (kvs : List (Key × PyData)) (k : Key) : Option PyData := (kvs.find? fun kv => decide (kv.1 = k)).map (·.2)
def putD (kvs : List (Key × PyData)) (k : Key) (v : PyData) : List (Key × PyData) :=
  if (kvs.any fun kv => decide (kv.1 = k)) = true then kvs.map (fun kv => if kv.1 = k then (kv.1, v) else kv) else kvs ++ [(k, v)]
abbrev PD (K : PySem.W.Frag) (F : Hp) : List (Key × V) → List (Key × PyData) → Prop := Paired (fun (p : Key × V) (q : Key × PyData) => p.1 = q.1 ∧ Dp K F p.2 q.2)
theorem pd_look {k : Key} : ∀ {vs : List (Key × V)} {kvs : List (Key × PyData)} {d : PyData}, PD K F vs kvs → lookD kvs k = some d → ∃ v, valV vs k = some v ∧ Dp K F v d
  | _, _, d, .nil, h => by cases h
  | v :: vs, q :: kvs, d, .cons r t, h => by
    unfold lookD at h
    unfold valV
    rw [List.find?_cons] at h ⊢
    rw [r.1]
    cases e : decide (q.1 = k) with
    | true =>
      rw [e] at h
      have h : some q.2 = some d := h
      cases h
      exact ⟨v.2, rfl, r.2⟩
    | false =>
      rw [e] at h
      exact pd_look t h
theorem pd_any {k : Key} : ∀ {vs : List (Key × V)} {kvs : List (Key × PyData)}, PD K F vs kvs → (vs.any fun kv => decide (kv.1 = k)) = (kvs.any fun kv => decide (kv.1 = k))
  | _, _, .nil => rfl
  | v :: vs, q :: kvs, .cons r t => by rw [List.any_cons, List.any_cons, r.1, pd_any t]
theorem pd_map {k : Key} {v : V} {d : PyData} (h : Dp K F v d) : ∀ {vs : List (Key × V)} {kvs : List (Key × PyData)}, PD K F vs kvs →
    PD K F (vs.map (fun kv => if kv.1 = k then (kv.1, v) else kv)) (kvs.map (fun kv => if kv.1 = k then (kv.1, d) else kv))
  | _, _, .nil => .nil
  | w :: vs, q :: kvs, .cons r t => by
    rw [List.map_cons, List.map_cons]
    refine .cons ?_ (pd_map h t)
    rw [r.1]
    split
    · exact ⟨rfl, h⟩
    · exact ⟨r.1, r.2⟩
theorem pd_app : ∀ {vs us : List (Key × V)} {kvs ls : List (Key × PyData)}, PD K F vs kvs → PD K F us ls → PD K F (vs ++ us) (kvs ++ ls)
  | _, _, _, _, .nil, h => h
  | _, _, _, _, .cons r t, h => .cons r (pd_app t h)
theorem pd_put {k : Key} {v : V} {d : PyData} {vs : List (Key × V)} {kvs : List (Key × PyData)} (h : Dp K F v d) (p : PD K F vs kvs) : PD K F (putK vs k v) (putD kvs k d) := by
  unfold putK putD
  rw [pd_any p]
  split
  · exact pd_map h p
  · exact pd_app p (.cons ⟨rfl, h⟩ .nil)
theorem pd_len : ∀ {vs : List (Key × V)} {kvs : List (Key × PyData)}, PD K F vs kvs → vs.length = kvs.length
  | _, _, .nil => rfl
  | _, _, .cons r t => congrArg (· + 1) (pd_len t)
end
section
variable {K : PySem.W.Frag} {f : Frm} {s : AS} {σ : St} {H F : Hp} {P : List Addr} {M : Nat → Addr}
/-- an object of the store changes -/
theorem Rep.putO (R : Rep K f s σ H F P M) {j : Nat} {a : Addr} {o o' : SObj} {u : HO} (hj : s.S[j]? = some o) (ha : P[j]? = some a) (hu : RepO K F o' (some u)) : Rep K f ⟨s.E, s.S.set j o'⟩ σ (upd H a u) F P M := by
  obtain ⟨q1, q2, q3⟩ := R.so j o a hj ha
  have mem : a ∈ P := List.mem_of_getElem? ha
  refine ⟨fun b x e => ?_, fun b x e hb => ?_, R.ffr, R.pre, R.len, R.dat, R.ob, fun i ds e => ?_, R.inj, by rw [R.plen, List.length_set], fun i x b e1 e2 => ?_, R.nd⟩
  · have ne : b ≠ a := fun z => by rw [z, q2] at e; cases e
    rw [upd_ne ne]; exact R.sub b x e
  · have ne : b ≠ a := fun z => by
      subst z
      rcases q3 with z | z
      · exact hb z
      · rw [z] at e; cases e
    rw [upd_ne ne]; exact R.frame b x e hb
  · obtain ⟨h1, ⟨vs, h2, h3⟩, h4, h5, h6⟩ := R.own i ds e
    have ne : M i ≠ a := fun z => h5 (z ▸ mem)
    exact ⟨h1, ⟨vs, by rw [upd_ne ne]; exact h2, h3⟩, h4, h5, h6⟩
  · rcases set_get e1 with ⟨rfl, e3, _⟩ | ⟨ne, e3⟩
    · rw [ha] at e2
      cases e2
      subst e3
      exact ⟨by rw [upd_same]; exact hu, q2, q3⟩
    · obtain ⟨w1, w2, w3⟩ := R.so i x b e3 e2
      have nab : b ≠ a := fun z => by
        subst z
        obtain ⟨l1, g1⟩ := List.getElem?_eq_some_iff.mp e2
        obtain ⟨l2, g2⟩ := List.getElem?_eq_some_iff.mp ha
        exact ne ((List.getElem_inj R.nd).mp (g1.trans g2.symm))
      exact ⟨by rw [upd_ne nab]; exact w1, w2, w3⟩
/-- a new object of the store -/
theorem Rep.addO (R : Rep K f s σ H F P M) {p : Addr} {o : SObj} {u : HO} (hH : H p = some u) (hF : F p = none) (hP : p ∉ P) (hf : f.H p = none) (hM : ∀ (i : Nat) ds, s.E[i]? = some (some (.own ds)) → M i ≠ p) (hu : RepO K F o (some u)) : Rep K f ⟨s.E, s.S ++ [o]⟩ σ H F (P ++ [p]) M where
  sub := R.sub
  frame := R.frame
  ffr := R.ffr
  pre := R.pre.trans (List.prefix_append P [p])
  len := R.len
  dat := R.dat
  ob := fun i j e => by
    obtain ⟨a, q1, q2⟩ := R.ob i j e
    exact ⟨a, by rw [List.getElem?_append_left (List.getElem?_eq_some_iff.mp q1).1]; exact q1, q2⟩
  own := fun i ds e => by
    obtain ⟨h1, h2, h3, h4, h5⟩ := R.own i ds e
    refine ⟨h1, h2, h3, fun z => ?_, h5⟩
    rcases List.mem_append.mp z with z | z
    · exact h4 z
    · exact hM i ds e (List.mem_singleton.mp z)
  inj := R.inj
  plen := by rw [List.length_append, List.length_append, R.plen] <;> rfl
  so := fun i x b e1 e2 => by
    by_cases hi : i < P.length
    · rw [List.getElem?_append_left hi] at e2
      rw [List.getElem?_append_left (by rw [← R.plen]; exact hi)] at e1
      exact R.so i x b e1 e2
    · rw [List.getElem?_append_right (by omega)] at e2
      rw [List.getElem?_append_right (by rw [← R.plen]; omega), ← R.plen] at e1
      cases hk : i - P.length with
      | zero =>
        rw [hk] at e1 e2
        have e1 : some o = some x := e1
        have e2 : some p = some b := e2
        cases e1
        cases e2
        exact ⟨by rw [hH]; exact hu, hF, .inr hf⟩
      | succ n => rw [hk] at e2; simp at e2
  nd := by
    rw [List.nodup_append]
    refine ⟨R.nd, by simp, fun a ha b hb z => ?_⟩
    rw [List.mem_singleton] at hb
    subst hb; subst z
    exact hP ha
end
section
variable {c : Ctx} {s s1 s2 s3 : AS} {e a b o i : Expr} {pos p pos' : Pos} {j : Nat} {kvs : List (Key × PyData)} {d : PyData}
def kD : Key → PyData
  | .inl i => .int i
  | .inr x => .str x
theorem dp_key {K : PySem.W.Frag} {F : Hp} {v : V} {k : Key} (h : Dp K F v (kD k)) : v = kV k := by
  cases k with
  | inl i => have h : Dp K F v (.int i) := h; cases h; rfl
  | inr x => have h : Dp K F v (.str x) := h; cases h; rfl
/-- o[k], o a dict of the store -/
theorem ev_dget (k : Key) (ho : Ev c o s (.obj j) s1) (hi : Ev c i s1 (.dat (kD k)) s2) (hj : s2.S[j]? = some (.dk kvs) := by rfl) (hk : lookD kvs k = some d := by rfl) (hs : NoSl i := by intro _ _; rfl) : Ev c (.Subscript o i pos) s (.dat d) s2 := by
  intro X g f σ H F P M Q R q
  refine tB_of (pe_dget (hu_of g.room) peB peB hs) ?_
  refine ho X g f σ H F P M _ R fun v H1 F1 P1 M1 m1 p1 R1 r1 => ?_
  obtain ⟨a, ha, rfl⟩ := r1
  refine hi X g f σ H1 F1 P1 M1 _ R1 fun u H2 F2 P2 M2 m2 p2 R2 r2 => ?_
  obtain ⟨l, rfl⟩ := p2
  have ha2 : (P1 ++ l)[j]? = some a := by rw [List.getElem?_append_left (List.getElem?_eq_some_iff.mp ha).1]; exact ha
  obtain ⟨⟨vs, e, pd⟩, _⟩ := R2.so j _ a hj ha2
  obtain ⟨v, e1, e2⟩ := pd_look pd hk
  have eu := dp_key r2
  subst eu
  exact ⟨a, v, rfl, e1 ▸ DGet.k e, ((q.mono m1 p1).mono m2 (List.prefix_append P1 l)).same R2 e2⟩
/-- o[k] = e -/
theorem ex_dput (k : Key) (he : Ev c e s (.dat d) s1) (ho : Ev c o s1 (.obj j) s2) (hi : Ev c i s2 (.dat (kD k)) s3) (hj : s3.S[j]? = some (.dk kvs) := by rfl) (hl : kvs.length < 1000 := by decide)
    (hs : ∀ env, swapsWith e (some (.Subscript o i pos')) pos.line env = pure false := by intro _; rfl) : Ex c (.Assign [.Subscript o i pos'] e pos) s (.nx ⟨s3.E, s3.S.set j (.dk (putD kvs k d))⟩) := by
  intro X g f σ H F P M D R q
  refine tBS_of (ps_dput (hu_of g.room) peB peB peB (hs _)) ?_
  refine he X g f σ H F P M _ R fun v H1 F1 P1 M1 m1 p1 R1 r1 => ?_
  refine ho X g f σ H1 F1 P1 M1 _ R1 fun w H2 F2 P2 M2 m2 p2 R2 r2 => ?_
  obtain ⟨a, ha, rfl⟩ := r2
  refine hi X g f σ H2 F2 P2 M2 _ R2 fun u H3 F3 P3 M3 m3 p3 R3 r3 => ?_
  obtain ⟨l, rfl⟩ := p3
  have ha2 : (P2 ++ l)[j]? = some a := by rw [List.getElem?_append_left (List.getElem?_eq_some_iff.mp ha).1]; exact ha
  obtain ⟨⟨vs, e, pd⟩, _⟩ := R3.so j _ a hj ha2
  have eu := dp_key r3
  subst eu
  refine ⟨a, _, rfl, DPut.k e (by rw [pd_len pd, sizeLine_eq]; omega), ?_⟩
  exact q σ _ F3 _ M3 ((m1.trans m2).trans m3) (R3.putO hj ha2 ⟨_, rfl, pd_put (dp_mono (m2.trans m3) _ _ r1) pd⟩)
/-- {k1: e1, k2: e2} -/
theorem ev_disp2 {k1 k2 e1 e2 : Expr} {d1 d2 : PyData} (x1 x2 : Key) (h1 : Ev c k1 s (.dat (kD x1)) s) (h2 : Ev c e1 s (.dat d1) s) (h3 : Ev c k2 s (.dat (kD x2)) s) (h4 : Ev c e2 s (.dat d2) s) (hne : x1 ≠ x2) :
    Ev c (.Dict [some k1, some k2] [e1, e2] pos) s (.obj s.S.length) ⟨s.E, s.S ++ [.dk [(x1, d1), (x2, d2)]]⟩ := by
  intro X g f σ H F P M Q R q
  refine tB_of (pe_disp (pps_cons peB peB (pps_cons peB peB pps_nil)) rfl rfl (fun z => by cases z) (by show 2 ≤ 15; decide)) ?_
  intro p hp
  have R0 := (R.laid (.dK []) hp).pin (.dK []) upd_same (R.freeF hp) (R.freeP hp) (fun i ds e => R.freeM hp e)
  show tB X k1 σ _ _
  refine h1 X g (f.pin p (.dK [])) σ _ F P M _ R0 fun v1 H1 F1 P1 M1 m1 p1 R1 r1 => ?_
  refine h2 X g (f.pin p (.dK [])) σ _ F1 P1 M1 _ R1 fun v2 H2 F2 P2 M2 m2 p2 R2 r2 => ?_
  refine h3 X g (f.pin p (.dK [])) σ _ F2 P2 M2 _ R2 fun v3 H3 F3 P3 M3 m3 p3 R3 r3 => ?_
  refine h4 X g (f.pin p (.dK [])) σ _ F3 P3 M3 _ R3 fun v4 H4 F4 P4 M4 m4 p4 R4 r4 => ?_
  have hf := R.free hp
  have hfP : p ∉ f.P := fun z => R.freeP hp (R.pre.subset z)
  obtain ⟨R4', k1, k2, k3, k4⟩ := R4.unpin hf hfP
  have e1 := dp_key r1
  have e3 := dp_key r3
  subst e1; subst e3
  refine ⟨k1, [(x1, v2), (x2, v4)], rfl, by show 2 ≤ 15; decide, ?_⟩
  have em : mergeK [] [(x1, v2), (x2, v4)] = [(x1, v2), (x2, v4)] := by
    show putK (putK [] x1 v2) x2 v4 = _
    have : putK ([] : List (Key × V)) x1 v2 = [(x1, v2)] := rfl
    rw [this]
    unfold putK
    simp [hne]
  rw [em]
  have sm : Same F F4 := ((m1.trans m2).trans m3).trans m4
  have R5 := R4'.chg (.dK [(x1, v2), (x2, v4)]) hf k2 k3 k4
  have R6 := R5.addO (o := .dk [(x1, d1), (x2, d2)]) upd_same k2 k3 hf k4 ⟨_, rfl, .cons ⟨rfl, dp_mono (m3.trans m4) _ _ r2⟩ (.cons ⟨rfl, r4⟩ .nil)⟩
  refine q (.ref p) _ F4 (P4 ++ [p]) M4 sm ((((p1.trans p2).trans p3).trans p4).trans (List.prefix_append _ _)) R6 ⟨p, ?_, rfl⟩
  have : P4.length = s.S.length := R4'.plen
  rw [List.getElem?_append_right (by omega), this, Nat.sub_self]
  rfl

/-! ### isinstance -/
def tyD : PyData → String
  | .none => "NoneType"
  | .bool _ => "bool"
  | .int _ => "int"
  | .str _ => "str"
  | .list _ => "list"
  | .tuple _ => "tuple"
  | .dict _ => "dict"
theorem ty_dp {K : PySem.W.Frag} {F H : Hp} {v : V} {d : PyData} (h : Dp K F v d) (sm : Same F H) : TyX K H v (.type (tyD d)) := by
  cases h with
  | non => exact .base .non
  | bl b => exact .base (.bl b)
  | int i => exact .base (.int i)
  | str x => exact .base (.str x)
  | lst hs _ =>
    rcases sql_mono sm hs with (h | ⟨o, h⟩) | ⟨o, its, n, h, hc, _⟩
    · exact .base (.lst h)
    · exact .base (.frz h)
    · exact .kList h hc
  | tup hs _ =>
    rcases sqt_mono sm hs with (h | ⟨o, h⟩) | ⟨o, its, n, h, hc, _⟩
    · exact .base (.tup h)
    · exact .fTuple h
    · exact .kTuple h hc
theorem ev_isi {x : Str} {t : String} {k : Bool} {p2 pos : Pos} (B : Bl c.mg) (ha : Ev c a s (.dat d) s1) (hm : c.mg x = none) (hv : bootBuiltins x = some (.type t)) (hk : kitB (tyD d) t = some k) (hg : GlC c "isinstance" := by rfl) (hgx : GlC c x := by rfl)
    (hn : x ≠ "__name__" := by decide) (hdb : (x == ("__debug__" : Str)) = false := by decide) (he : ∀ env, starEach [a, .Name x p2] env = (false, eval a env) :: starEach [.Name x p2] env := by intro _; rfl) :
    Ev c (.Call (.Name "isinstance" p) [a, .Name x p2] [] pos) s (.dat (.bool k)) s1 := by
  intro X g f σ H F P M Q R q
  refine tB_of (pe_callB call_isi (g.gl hg) (by rw [g.mg]; exact B.isinstance) (by decide +kernel) (pa_cons peB (pa_cons (pe_bltn (v := .ty t) (g.gl hgx) (by rw [g.mg]; exact hm) hv rfl hn hdb) pa_nil) (he _)) (by decide) (by decide) (he _) rfl) ?_
  refine ha X g f σ H F P M _ R fun v H1 F1 P1 M1 m1 p1 R1 r1 => ?_
  exact ⟨v, .ty t, .type (tyD d), .type t, k, rfl, .ty t, ty_dp r1 R1.sub, kit_ty hk, (q.mono m1 p1).same R1 (.bl _)⟩

/-! ### in, flat items -/
def flatD : PyData → Bool
  | .none => true
  | .bool _ => true
  | .int _ => true
  | .str _ => true
  | _ => false
theorem flat_dp {K : PySem.W.Frag} {F : Hp} {v : V} {d : PyData} (h : Dp K F v d) : flatV v = flatD d := by cases h <;> rfl
theorem eq_dp {K : PySem.W.Frag} {F : Hp} {v w : V} {d e : PyData} (h : Dp K F v d) (h2 : Dp K F w e) (f1 : flatD d = true) (f2 : flatD e = true) : eqV v w = PyData.eqv d e := by
  cases h <;> cases h2 <;> first | rfl | cases f1 | cases f2
theorem in_dp {K : PySem.W.Frag} {F : Hp} {v : V} {d : PyData} (h : Dp K F v d) (fd : flatD d = true) : ∀ {vs : List V} {ds : List PyData}, DpAll K F vs ds → ds.all flatD = true → vs.all flatV = true ∧ inV v vs = ds.any fun y => PyData.eqv y d
  | _, [], r, _ => by cases r; exact ⟨rfl, rfl⟩
  | _, y :: ds, r, f => by
    cases r with
    | cons r1 r2 =>
      rw [List.all_cons, Bool.and_eq_true] at f
      obtain ⟨h1, h2⟩ := in_dp h fd r2 f.2
      refine ⟨by rw [List.all_cons, flat_dp r1, f.1, h1] <;> rfl, ?_⟩
      unfold inV at h2 ⊢
      rw [List.any_cons, List.any_cons, h2, eq_dp r1 h f.1 fd]
theorem actIn {ds : List PyData} {x : PyData} (hd : flatD x = true) (hds : ds.all flatD = true) (neg : Bool) {y : PyData} (hy : y = .list ds ∨ y = .tuple ds) : Act2 c (fun X => rIn X.K neg) s x y (.dat (.bool (if neg then !(ds.any fun z => PyData.eqv z x) else (ds.any fun z => PyData.eqv z x)))) s := by
  intro X g f σ H F P M v u Q kn R r1 r2 q
  rcases hy with rfl | rfl
  · cases r2 with
    | lst hs ha =>
      obtain ⟨h1, h2⟩ := in_dp r1 hd ha hds
      exact ⟨_, _, rfl, .inl (sql_mono R.sub hs), by rw [flat_dp r1]; exact hd, h1, by rw [h2]; exact q.same R (.bl _)⟩
  · cases r2 with
    | tup hs ha =>
      obtain ⟨h1, h2⟩ := in_dp r1 hd ha hds
      exact ⟨_, _, rfl, .inr (sqt_mono R.sub hs), by rw [flat_dp r1]; exact hd, h1, by rw [h2]; exact q.same R (.bl _)⟩
section
variable {ds : List PyData} {x y : PyData} (ha : Ev c a s (.dat x) s1) (hb : Ev c b s1 (.dat y) s2) (hy : y = .list ds ∨ y = .tuple ds) (hd : flatD x = true) (hds : ds.all flatD = true) (hm : behindInMarks .In b = false) (hm2 : behindInMarks .NotIn b = false)
include ha hb hy hd hds
theorem ev_in (hm : behindInMarks .In b = false := by rfl) : Ev c (.Compare a [.In] [b] pos) s (.dat (.bool (ds.any fun z => PyData.eqv z x))) s2 := ev_cmp (fun X g => op_in_seq) ha hb (actIn hd hds false hy) hm
theorem ev_notin (hm : behindInMarks .NotIn b = false := by rfl) : Ev c (.Compare a [.NotIn] [b] pos) s (.dat (.bool (!ds.any fun z => PyData.eqv z x))) s2 := ev_cmp (fun X g => op_notIn_seq) ha hb (actIn hd hds true hy) hm
theorem tst_in (hm : behindInMarks .In b = false := by rfl) : Tst c (.Compare a [.In] [b] pos) s (ds.any fun z => PyData.eqv z x) s2 := tst_cmp (fun X g => op_in_seq) ha hb (actIn hd hds false hy) hm
theorem tst_notin (hm : behindInMarks .NotIn b = false := by rfl) : Tst c (.Compare a [.NotIn] [b] pos) s (!ds.any fun z => PyData.eqv z x) s2 := tst_cmp (fun X g => op_notIn_seq) ha hb (actIn hd hds true hy) hm
end
end
end SL

/-! SL, the ninth part: pop, join, index, slices backwards, the least text. -/
namespace SL
open PySem PySem.Spec PyProof.Rows L2

/-! ### slices backwards -/
section
variable {prog : Program} {w : World} {A : Around} {E : Value → Shared → Prop} {s : Shared}
theorem filterMap_back (xs : List Value) : (List.range xs.length).filterMap (fun (m : Nat) => xs.toArray[(((xs.length : Nat) : Int) - 1 + (m : Int) * (-1)).toNat]?) = xs.reverse := by
  have e : ∀ (m : Nat), m < xs.length → xs.toArray[(((xs.length : Nat) : Int) - 1 + (m : Int) * (-1)).toNat]? = xs.reverse[m]? := fun m hm => by
    have q : (((xs.length : Nat) : Int) - 1 + (m : Int) * (-1)).toNat = xs.length - 1 - m := by omega
    rw [q, List.getElem?_toArray, List.getElem?_reverse hm]
  have e2 : ∀ n, n ≤ xs.length → (List.range n).filterMap (fun (m : Nat) => xs.toArray[(((xs.length : Nat) : Int) - 1 + (m : Int) * (-1)).toNat]?) = xs.reverse.take n := by
    intro n
    induction n with
    | zero => intro _; simp
    | succ n ih =>
      intro hn
      rw [List.range_succ, List.filterMap_append, ih (by omega), List.filterMap_cons, e n (by omega)]
      have hl : n < xs.reverse.length := by rw [List.length_reverse]; omega
      rw [List.getElem?_eq_getElem hl, List.take_add_one, List.getElem?_eq_getElem hl]
      simp
  have := e2 xs.length (Nat.le_refl _)
  rw [this, List.take_of_length_le (by rw [List.length_reverse]; exact Nat.le_refl _)]
theorem applied_back {sl : Addr} {n : Nat} {t : Tok} {Q : Int × Int × Nat → Shared → Prop} (hs : s.heap.IsSliceOf sl .none .none (.int (-1) t)) (h : Q (((n : Nat) : Int) - 1, -1, n) s) :
    wpAny (model prog w) A (Builtin.Slice.sliceApplied (.ref sl) (pure (n : Int))) Q E s := by
  obtain ⟨os, hos, hcs, hds⟩ := id hs
  unfold Builtin.Slice.sliceApplied Builtin.Slice.sliceFields
  refine wpAny_bind (wpAny_bind (wpAny_field hos hds (x := .none) rfl (wpAny_bind (wpAny_field hos hds (x := .none) rfl (wpAny_bind (wpAny_field hos hds (x := .int (-1) t) rfl (wpAny_pure ?_)))))))
  refine wpAny_bind (slicePart_int ?_)
  show wpAny _ _ (if ((-1 : Int) == 0) = true then _ else _) _ _ s
  rw [if_neg (by decide)]
  refine wpAny_bind (slicePart_none (wpAny_bind (slicePart_none (wpAny_bind (wpAny_pure ?_)))))
  show wpAny _ _ (match Builtin.Slice.sliceAdjust none none (-1) (n : Int) with | (lo, hi) => pure (lo, (-1 : Int), Builtin.Slice.slicePlaces lo hi (-1))) _ _ s
  have e1 : Builtin.Slice.sliceAdjust none none (-1) (n : Int) = ((n : Int) - 1, -1) := rfl
  rw [e1]
  show wpAny _ _ (pure ((n : Int) - 1, (-1 : Int), Builtin.Slice.slicePlaces ((n : Int) - 1) (-1) (-1))) _ _ s
  have e2 : Builtin.Slice.slicePlaces ((n : Int) - 1) (-1) (-1) = n := by
    unfold Builtin.Slice.slicePlaces
    rw [if_neg (by decide)]
    have e3 : (-(-1) : Int) = 1 := by decide
    rw [e3, Int.ediv_one]
    split <;> omega
  rw [e2]
  exact wpAny_pure h
theorem getItem_tuple_back {t sl : Addr} {its : List Value} {tk : Tok} {Q : Value → Shared → Prop} (ht : IsTup s.heap t its.toArray) (hs : s.heap.IsSliceOf sl .none .none (.int (-1) tk))
    (h : Q (.ref s.heap.objs.size) { s with heap := s.heap.push { cls := .type "tuple", data := .seq its.reverse.toArray } }) (hz : its.length ≤ sizeLine) : wpAny (model prog w) A (getItem (.ref t) (.ref sl)) Q E s := by
  obtain ⟨os, hos, hcs, hds⟩ := id hs
  have hTs : s.TypeIs (.ref sl) "slice" := ⟨os, hos, hcs⟩
  unfold getItem
  try with_reducible refine wpAny_holding ?_
  first | refine wpAny_bind (wpAny_pure ?_) | skip
  refine wpAny_bind (wpAny_sequenceKey ht.typeIs (by decide) ?_)
  refine wpAny_bind (wpAny_callSpecial?_slot (name := Str.ofString "__getitem__") ht.typeIs PyProof.Rows.slot_tuple_getitem
    (wpAny_call_entry PyProof.Rows.slot_tuple_getitem ht.typeIs PyProof.Rows.entry_tuple_getitem ?_ (PyProof.Rows.args_tuple_getitem _ _)))
  show wpAny _ _ (Builtin.Tuple.tupleItemsOf (.ref t) >>= _) _ _ s
  refine wpAny_bind (PyProof.Rows.tupleItemsOf_ ht ?_)
  refine wpAny_bind (wpAny_typeOf hTs ?_)
  rw [if_pos (by decide)]
  refine wpAny_bind ?_
  have es : its.toArray.size = its.length := List.size_toArray ..
  rw [es]
  refine applied_back hs ?_
  show wpAny _ _ (if ((((its.length : Nat) : Int) - 1 == 0 && (-1 : Int) == 1 && its.length == its.toArray.size) = true) then _ else _) _ _ s
  rw [if_neg (by simp), filterMap_back]
  have htake : sizeOk (.seq its.reverse.toArray) := by
    show its.reverse.toArray.size ≤ sizeLine
    rw [List.size_toArray, List.length_reverse]
    exact hz
  first
    | exact wpAny_bind (m := Builtin.Tuple.tupleExact _) (wpAny_newObj_type (wpAny_pure ⟨_, rfl, wpAny_pure h⟩) htake)
    | exact wpAny_bind (m := Builtin.Tuple.tupleExact _) (wpAny_newObj_type (wpAny_bind (wpAny_pure (wpAny_pure ⟨_, rfl, wpAny_pure h⟩))) htake)
    | exact wpAny_bind (wpAny_bind (m := Builtin.Tuple.tupleExact _) (wpAny_newObj_type (wpAny_pure (wpAny_pure ⟨_, rfl, wpAny_pure h⟩)) htake))
    | exact wpAny_bind (wpAny_bind (m := Builtin.Tuple.tupleExact _) (wpAny_newObj_type (wpAny_pure ⟨_, rfl, wpAny_pure h⟩) htake))
end

section
variable {c : Ctx} {s s1 s2 s3 : AS} {e a b : Expr} {pos p p1 p2 p3 : Pos} {ds : List PyData} {k : Nat}

/-- o[::-1], by values -/
def SlB (X : Cx) (r : V → Hp → VK → Prop) : Prop := ∀ (pins : List (Addr × Obj)) (sh : Shared) (σ : St) (H : Hp) (x : V) (v : Value) (sl : Addr) (t : Tok) (Q : VK), Inv X pins σ H sh → RelV x v → sh.heap.IsSliceOf sl .none .none (.int (-1) t) → r x H Q →
  ∃ T id, typeLookup (.type T) "__getitem__" = pure (some (.builtin id)) ∧ sh.TypeIs v T ∧ wpAny (model X.prog X.w) X.A (getItem v (.ref sl)) (EP X pins σ Q) X.xe sh
theorem pe_back {X : Cx} {r : V → Hp → VK → Prop} {ta : TE} (hr : SlB X r) (ha : PE X a ta) : PE X (.Subscript a (.Slice none none (some (.UnaryOp .USub (.Constant (.int 1) k p1) p2)) p3) pos) (tUn r ta) := by
  refine ⟨fun pins sh σ H Q I h => ?_⟩
  refine Subscript_ (thn (ha.run pins sh σ H _ I h) fun v s1 ⟨x, H1, I1, r1, q1⟩ => ?_)
  have hst : PO X (some (.UnaryOp .USub (.Constant (.int 1) k p1) p2)) (tPart (tUn (rU fun i => .int (-i)) (tC (.int 1)))) := po_some (pe_un un_neg pe_int)
  refine wpAny_Slice (thn (po_none.run pins s1 σ H1 (fun o H2 => o = none ∧ H2 = H1) I1 ⟨rfl, rfl⟩) fun vl s2 ⟨l, H2, I2, pl, el, e2⟩ => ?_)
  subst el e2
  refine thn (po_none.run pins s2 σ H2 (fun o H3 => o = none ∧ H3 = H2) I2 ⟨rfl, rfl⟩) fun vu s3 ⟨u, H3, I3, pu, eu, e3⟩ => ?_
  subst eu e3
  refine thn (hst.run pins s3 σ H3 (fun o H4 => o = some (-1) ∧ H4 = H3) I3 ⟨1, rfl, -1, rfl, rfl, rfl⟩) fun vs s4 ⟨o, H4, I4, ps, eo, e4⟩ => ?_
  subst eo e4
  cases pl
  cases pu
  cases ps with
  | int i t =>
    have I5 : Inv X pins σ H4 { s4 with heap := s4.heap.push { cls := .type "slice", data := .fields #[.none, .none, .int (-1) t] } } := I4.kept (t' := s4.toks) fun b ob q => Heap.get?_push_of_some _ q
    obtain ⟨T, id, hT, ht, hg⟩ := hr pins _ σ H4 x v s4.heap.objs.size t Q I5 r1 (Heap.IsSliceOf.new ..) q1
    exact tail_any (ops := [v, .ref s4.heap.objs.size]) ht hT hg (by with_unfolding_all rfl)
theorem slb_tup {X : Cx} : SlB X (fun x H Q => ∃ a xs, x = .ref a ∧ SqT X.K H a xs ∧ ∀ p, H p = none → Q (.ref p) (upd H p (.tup xs.reverse))) := by
  intro pins sh σ H x v sl t Q I rx hs h
  obtain ⟨a, xs, rfl, hx, q⟩ := h
  cases rx
  obtain ⟨its, r, ht, hz⟩ := I.tuple hx
  refine ⟨"tuple", _, PyProof.Rows.slot_tuple_getitem.lookup, ht.typeIs, ?_⟩
  refine getItem_tuple_back ht hs ?_ (by rw [← r.length]; exact hz)
  refine ⟨.ref sh.heap.objs.size, _, I.laid (t' := sh.toks) (o := .tup xs.reverse) (fun b ob q => Heap.get?_push_of_some _ q) (Nat.le_refl _) ?_, rfl, q _ (I.hok.fresh (Nat.le_refl _))⟩
  exact ⟨by rw [List.length_reverse]; exact hz, _, r.reverse, IsTup.new _ _⟩
theorem pick_back (z : Str) : (Builtin.Str.strSliceIndices none none (-1) z.length).filterMap (z.cps[·]?) = z.cps.toList.reverse := by
  have e : Builtin.Str.strSliceIndices none none (-1) z.length = sliceRange ((z.length : Int) - 1) (-1) (-1) := rfl
  rw [e, PySem.W.krv_sliceRange, List.filterMap_map]
  have e2 : ∀ n, n ≤ z.cps.toList.length → (List.range n).filterMap ((fun x => z.cps[x]?) ∘ fun k => z.length - 1 - k) = z.cps.toList.reverse.take n := by
    intro n
    induction n with
    | zero => intro _; simp
    | succ n ih =>
      intro hn
      have hl : n < z.cps.toList.reverse.length := by rw [List.length_reverse]; omega
      have q : z.cps[z.length - 1 - n]? = some z.cps.toList.reverse[n] := by
        rw [← Array.getElem?_toList, show z.length - 1 - n = z.cps.toList.length - 1 - n from rfl, ← List.getElem?_reverse (by omega), List.getElem?_eq_getElem hl]
      rw [List.range_succ, List.filterMap_append, ih (by omega), List.take_add_one, List.getElem?_eq_getElem hl]
      congr 1
      simp only [List.filterMap_cons, List.filterMap_nil, Function.comp, q]
      rfl
  have := e2 z.cps.toList.length (Nat.le_refl _)
  rw [List.take_of_length_le (by rw [List.length_reverse]; exact Nat.le_refl _)] at this
  exact this
theorem slb_str {X : Cx} : SlB X (fun x H Q => ∃ z : Str, x = .str z ∧ z.length ≤ sizeLine ∧ Q (.str ⟨z.cps.toList.reverse.toArray⟩) H) := by
  intro pins sh σ H x v sl t Q I rx hs h
  obtain ⟨z, rfl, hz, q⟩ := h
  obtain ⟨tz, rfl⟩ := rx
  obtain ⟨os, hos, hcs, hds⟩ := hs
  refine ⟨"str", _, F.slot_str_getitem.lookup, typeIs_str _ _ _, ?_⟩
  refine wpAny_getItem_str_slice (l := none) (u := none) (st := some (-1, t)) ⟨os, hos, hcs, hds⟩ rfl ?_
  show Made.post (if ((-1 : Int) == 1 && (Builtin.Str.strSliceIndices none none (-1) z.length).length == z.length) = true then Made.val (.str z tz)
    else Made.str ⟨((Builtin.Str.strSliceIndices none none (-1) z.length).filterMap (z.cps[·]?)).toArray⟩) (EP X pins σ Q) sh
  rw [if_neg (by simp), pick_back]
  refine ⟨?_, .str _, H, I.tok _, ⟨_, rfl⟩, q⟩
  show z.cps.toList.reverse.toArray.size ≤ sizeLine
  rw [List.size_toArray, List.length_reverse, Array.length_toList]
  exact hz
theorem ev_backT (ha : Ev c a s (.dat (.tuple ds)) s1) : Ev c (.Subscript a (.Slice none none (some (.UnaryOp .USub (.Constant (.int 1) k p1) p2)) p3) pos) s (.dat (.tuple ds.reverse)) s1 := by
  intro X g f σ H F P M Q R q
  refine tB_of (pe_back slb_tup peB) ?_
  refine ha X g f σ H F P M _ R fun v H1 F1 P1 M1 m1 p1 R1 r1 => ?_
  have r : Dp X.K F1 v (.tuple ds) := r1
  cases r with
  | tup hs hd => exact ⟨_, _, rfl, sqt_mono R1.sub hs, (q.mono m1 p1).tup R1 (dpa_rev hd)⟩
theorem ev_backS {z : Str} (ha : Ev c a s (.dat (.str z)) s1) (hz : z.length ≤ 16777216) : Ev c (.Subscript a (.Slice none none (some (.UnaryOp .USub (.Constant (.int 1) k p1) p2)) p3) pos) s (.dat (.str ⟨z.cps.toList.reverse.toArray⟩)) s1 := by
  intro X g f σ H F P M Q R q
  refine tB_of (pe_back slb_str peB) ?_
  refine ha X g f σ H F P M _ R fun v H1 F1 P1 M1 m1 p1 R1 r1 => ?_
  cases r1
  exact ⟨z, rfl, by rw [sizeLine_eq]; exact hz, (q.mono m1 p1).same R1 (.str _)⟩
theorem ev_backL (ha : EvL c a s ds s1) : Ev c (.Subscript a (.Slice none none (some (.UnaryOp .USub (.Constant (.int 1) k p1) p2)) p3) pos) s (.own ds.reverse) s1 := by
  intro X g f σ H F P M Q R q
  refine tB_of (pe_revL peB) ?_
  refine ha X g f σ H F P M _ R fun v vs H1 F1 P1 M1 m1 p1 R1 r1 d1 => ?_
  exact ⟨_, _, rfl, r1, (q.mono m1 p1).lst R1 (dpa_rev d1)⟩

/-! ### x.pop(i), x a list of one's own -/
theorem ev_popAt (i : Nat) {x : Str} {n : Nat} {d : PyData} {ds1 : List PyData} {xp apos cpos : Pos} (h : Ev c e s (.dat (.int (n : Int))) s1) (hn : ds1[n]? = some d) (hsz : n < 1000000) (hv : s.E[i]? = some (some (.own ds)) := by rfl) (hv1 : s1.E[i]? = some (some (.own ds1)) := by rfl)
    (hi : c.N[i]? = some x := by rfl) (hx : Vis c.sc x := by first | exact Or.inl rfl | exact Or.inr (Or.inl rfl) | exact Or.inr (Or.inr rfl)) (hd : (x == ("__debug__" : Str)) = false := by decide) (hcd : (x == ("__classdict__" : Str)) = false := by decide)
    (hline : (apos.endLine == cpos.line) = true := by rfl) (hs : ∀ env, starEach [e] env = (false, eval e env) :: starEach [] env := by intro _; rfl)
    (hfew : ∀ env, ((backTo cpos (starEach [e] env)).all (fun x => !x.1) && (backToKw cpos (keywordEach [] env)).all (fun x => x.1.isSome)
      && decide (([e] : List Expr).length + ([] : List Keyword).length + (if ([] : List Keyword).isEmpty then 0 else 1) < 30)) = true := by intro _; rfl) :
    Ev c (.Call (.Attribute (.Name x xp) "pop" apos) [e] [] cpos) s (.dat d) (s1.put i (.own (ds1.eraseIdx n))) := by
  intro X g f σ H F P M Q R q
  refine tB_of (pe_bm PySem.F.plainAttrs_list PySem.F.slot_list_pop PySem.F.type_list_pop mt_popAt (pe_var (i := i) (by rw [g.N]; exact hi) (by rw [g.sc]; exact hx) hd hcd) (pa_cons peB pa_nil (hs _)) rfl (hfew _) hline (hs _) rfl) ?_
  obtain ⟨o1, ⟨vs, o2, o3⟩, _⟩ := R.own i ds hv
  refine ⟨_, o1, .inl ⟨rfl, vs, .inl (.inl o2)⟩, ?_⟩
  refine h X g f σ H F P M _ R fun v H1 F1 P1 M1 m1 p1 R1 r1 => ?_
  cases r1
  obtain ⟨q1, ⟨ws, q2, q3⟩, _⟩ := R1.own i ds1 hv1
  have e : M1 i = M i := by
    rw [o1] at q1
    exact (V.ref.inj (Option.some.inj (Option.some.inj q1))).symm
  obtain ⟨y, y1, y2⟩ := dpa_get' q3 hn
  have hnl : n < ws.length := (List.getElem?_eq_some_iff.mp y1).1
  refine ⟨M i, ws, (n : Int), n, y, rfl, rfl, by rw [← e]; exact q2, by omega, by omega, PySem.StrLaws.seqIndex_nonneg (by omega) (by omega), y1, ?_⟩
  rw [← e]
  exact q y _ F1 P1 M1 m1 p1 (R1.putL hv1 (dpa_erase n q3)) y2
/-! ### sep.join -/
theorem ev_join {a : Str} {j : Nat} {zs : List Str} {sp apos cpos : Pos} (h : EvQ c e s (zs.map .str) s1) (hz : (zs.map (·.length)).sum + zs.length * a.length ≤ 16777216) (hline : (apos.endLine == cpos.line) = true := by rfl) (hs : ∀ env, starEach [e] env = [(false, eval e env)] := by intro _; rfl) :
    Ev c (.Call (.Attribute (.Constant (.str a) j sp) "join" apos) [e] [] cpos) s (.dat (.str (Txt.join a zs))) s1 := by
  intro X g f σ H F P M Q R q
  refine tB_of (pe_join pe_str peB (hs _) rfl hline) ?_
  refine ⟨⟨a, rfl⟩, ?_⟩
  refine h X g f σ H F P M _ R fun b vs H1 F1 P1 M1 m1 p1 R1 r1 d1 => ?_
  rw [dpa_strsS d1] at r1
  exact ⟨a, b, zs, rfl, rfl, r1, hz, (q.mono m1 p1).same R1 (.str _)⟩
/-! ### s.index(t), one sign that stands in it -/
theorem ev_sindex {z y : Str} {n : Nat} {rest : List Nat} {j : Nat} {sp apos cpos : Pos} (h : Ev c e s (.dat (.str y)) s1) (ho : Builtin.Str.occurrences z y 0 z.length 1 = n :: rest) (hline : (apos.endLine == cpos.line) = true := by rfl) (hs : ∀ env, starEach [e] env = [(false, eval e env)] := by intro _; rfl) :
    Ev c (.Call (.Attribute (.Constant (.str z) j sp) "index" apos) [e] [] cpos) s (.dat (.int (n : Nat))) s1 := by
  intro X g f σ H F P M Q R q
  refine tB_of (pe_m1 PySem.F.slot_str_index PySem.F.type_str_index mt_sindex pe_str peB (hs _) rfl hline) ?_
  refine ⟨⟨z, rfl⟩, ?_⟩
  refine h X g f σ H F P M _ R fun v H1 F1 P1 M1 m1 p1 R1 r1 => ?_
  cases r1
  exact ⟨z, y, n, rest, rfl, rfl, ho, (q.mono m1 p1).same R1 (.int _)⟩
end
end SL

/-! SL, the tenth part: the least and the greatest of numbers and texts. -/
namespace SL
open PySem PySem.Spec PyProof.Rows L2

/-- the first of the least: the one that none behind it is below .. -/
def best {α : Type} (lt : α → α → Bool) : List α → α → α
  | [], b => b
  | x :: xs, b => best lt xs (if lt x b then x else b)
theorem argBest_best {α : Type} (lt : α → α → Bool) (d : α) (x : α) (xs : List α) (n : Nat) (hn : n ≤ xs.length) :
    (x :: xs).getD (argBest (fun i j => lt ((x :: xs).getD i d) ((x :: xs).getD j d)) n) d = best lt (xs.take n) x := by
  induction n with
  | zero => rfl
  | succ n ih =>
    have ih := ih (by omega)
    have hl : n < xs.length := by omega
    have e1 : (x :: xs).getD (n + 1) d = xs[n] := by
      rw [List.getD_eq_getElem?_getD, List.getElem?_cons_succ, List.getElem?_eq_getElem hl]
      rfl
    have e2 : ∀ (l : List α) (y b : α), best lt (l ++ [y]) b = if lt y (best lt l b) then y else best lt l b := by
      intro l
      induction l with
      | nil => intro y b; rfl
      | cons z l ihl => intro y b; exact ihl y _
    rw [List.take_add_one, List.getElem?_eq_getElem hl]
    show _ = best lt (xs.take n ++ [xs[n]]) x
    rw [e2, ← ih]
    show (x :: xs).getD (if lt ((x :: xs).getD (n + 1) d) ((x :: xs).getD (argBest _ n) d) = true then n + 1 else argBest _ n) d = _
    rw [e1]
    by_cases h : lt xs[n] ((x :: xs).getD (argBest (fun i j => lt ((x :: xs).getD i d) ((x :: xs).getD j d)) n) d) = true
    · rw [if_pos h, if_pos h, e1]
    · rw [if_neg h, if_neg h]
section
variable {X : Cx}
theorem iter_vals {prog : Program} {w : World} {A : Around} {E : Value → Shared → Prop} {s : Shared} {l : Addr} {its : Array Value} {Q : Value → Shared → Prop} (hl : s.heap.IsList l its)
    (h : ∀ s₂ : Shared, s₂ = { s with heap := s.heap.push { cls := .type "list_iterator", data := .fields #[.ref l, .int 0 0] } } →
      (s₂.heap.IsListIter s.heap.objs.size l 0 ∧ s₂.heap.IsList l its) → (∀ b ∈ [s.heap.objs.size, l], b < s₂.heap.objs.size) → l ≠ s.heap.objs.size → Q (.ref s.heap.objs.size) s₂) : wpAny (model prog w) A (pyIter (.ref l)) Q E s := by
  have below : l < s.heap.objs.size := by
    obtain ⟨_, e, _⟩ := hl
    exact Heap.lt_size e
  refine wpAny_pyIter_list hl (h _ rfl ⟨⟨_, Heap.get?_push_size _ rfl, rfl, rfl⟩, hl.push _⟩ (fun b hb => ?_) (Nat.ne_of_lt below))
  have hb : b = s.heap.objs.size ∨ b = l := by simpa using hb
  show b < (s.heap.push _).objs.size
  rw [Heap.size_push]
  rcases hb with rfl | rfl
  · exact Nat.lt_succ_self _
  · exact Nat.lt_succ_of_lt below
/-- min, max of values whose order is told without the heap -/
theorem min_flat {x : V} {xs : List V} {lt : V → V → Bool} (hc : X.calm = true) (hlt : ∀ v u, v ∈ x :: xs → u ∈ x :: xs → ∀ (a b : Value), RelV v a → RelV u b → ∀ (A : Around) (s : Shared) (Q : Value → Shared → Prop) (E : Value → Shared → Prop), Q (.bool (lt v u)) s → wpAny (model X.prog X.w) A (richCompare .Lt a b) Q E s)
    {pins : List (Addr × Obj)} {σ : St} {H : Hp} {s : Shared} {a : Addr} {Q : VK} (I : Inv X pins σ H s) (h : SqL X.K H a (x :: xs)) (q : Q (best lt xs x) H) : wpAny (model X.prog X.w) X.A (call (.builtin "min") [.ref a]) (EP X pins σ Q) X.xe s := by
  obtain ⟨its, r, pl, hz⟩ := I.list h
  have hlen := r.length
  have get : ∀ (i : Nat) v, its.toArray[i]? = some v → RelV ((x :: xs).getD i x) v ∧ (x :: xs).getD i x ∈ x :: xs := fun i v e => by
    have e : its[i]? = some v := by simpa using e
    have hi : i < (x :: xs).length := by rw [hlen]; exact (List.getElem?_eq_some_iff.mp e).1
    have e2 : (x :: xs)[i]? = some ((x :: xs).getD i x) := by rw [List.getD_eq_getElem?_getD, List.getElem?_eq_getElem hi]; rfl
    obtain ⟨u, e3, ru⟩ := r.get e2
    rw [e] at e3
    cases e3
    exact ⟨ru, List.mem_of_getElem? e2⟩
  refine call_min_walk (iter_vals pl.isList fun s₂ e st hfp hlI => ?_)
  subst e
  refine ⟨_, _, _, _, fun i v => its.toArray[i]? = some v, _, fun i j => lt ((x :: xs).getD i x) ((x :: xs).getD j x), rfl, Walks.list (A := X.A.in1) (I.ok.hd hc) _ a hlI its.toArray, st, hfp, by rw [List.size_toArray, ← hlen]; exact Nat.succ_pos _,
    fun i j vi vj s Q E hi hj hq => hlt _ _ (get i vi hi).2 (get j vj hj).2 vi vj (get i vi hi).1 (get j vj hj).1 X.A.in1 s Q E hq, fun v h' tk hP hk => ?_⟩
  obtain ⟨rv, _⟩ := get _ v hP
  have e : (x :: xs).getD (argBest (fun i j => lt ((x :: xs).getD i x) ((x :: xs).getD j x)) (its.toArray.size - 1)) x = best lt xs x := by
    rw [List.size_toArray, ← hlen, List.length_cons, Nat.add_sub_cancel, argBest_best lt x x xs xs.length (Nat.le_refl _), List.take_length]
  rw [e] at rv
  exact ⟨_, H, I.kept (fun b o e => hk b o (fun z => by
    have lt := Heap.lt_size e
    rw [List.mem_singleton.mp z] at lt
    exact Nat.lt_irrefl _ lt) (Heap.get?_push_of_some _ e)), rv, q⟩
def strLt (x y : Str) : Bool := decide (x.cps.toList < y.cps.toList)
def vStrLt : V → V → Bool
  | .str x, .str y => strLt x y
  | _, _ => false
theorem best_map {α β : Type} {f : α → β} {lt : α → α → Bool} {lt' : β → β → Bool} (h : ∀ x y, lt' (f x) (f y) = lt x y) : ∀ (xs : List α) (b : α), best lt' (xs.map f) (f b) = f (best lt xs b)
  | [], b => rfl
  | x :: xs, b => by
    show best lt' (xs.map f) (if lt' (f x) (f b) then f x else f b) = f (best lt xs (if lt x b then x else b))
    rw [h]
    split
    · exact best_map h xs x
    · exact best_map h xs b
theorem cr_minS (hc : X.calm = true) : CallR X (.builtin "min") (fun vs H Q => ∃ (a : Addr) (z : Str) (zs : List Str), vs = [V.ref a] ∧ SqL X.K H a ((z :: zs).map V.str) ∧ Q (.str (best strLt zs z)) H) := by
  intro pins s σ H xs us Q I r h
  obtain ⟨a, z, zs, rfl, hs, q⟩ := h
  rw [Vals.ref1 r]
  refine min_flat (lt := vStrLt) hc (fun v u hv hu a b ra rb A s Q E hq => ?_) I hs ?_
  · obtain ⟨x, _, rfl⟩ := List.mem_map.mp (show v ∈ (z :: zs).map V.str from hv)
    obtain ⟨y, _, rfl⟩ := List.mem_map.mp (show u ∈ (z :: zs).map V.str from hu)
    obtain ⟨t, rfl⟩ := ra
    obtain ⟨t', rfl⟩ := rb
    exact PyProof.Rows.lt_str (show Q (.bool (decide (x.cps.toList < y.cps.toList))) s from hq)
  · rw [best_map (f := V.str) (lt := strLt) (fun x y => rfl)]
    exact q
end
section
variable {c : Ctx} {s s1 : AS} {a : Expr} {p pos : Pos}
theorem ev_minS {z : Str} {zs : List Str} (B : Bl c.mg) (ha : EvL c a s ((z :: zs).map .str) s1) (hg : GlC c "min" := by rfl) (he : ∀ env, starEach [a] env = (false, eval a env) :: starEach [] env := by intro _; rfl) : Ev c (.Call (.Name "min" p) [a] [] pos) s (.dat (.str (best strLt zs z))) s1 :=
  ev_bL (fun X g => cr_minS g.calm) (by decide +kernel) (by decide) (by decide) B.min hg ha he fun X g f σ H F P M v vs Q kn R h d q => by
    rw [dpa_strsS d] at h
    exact ⟨v, z, zs, rfl, h, q.same R (.str _)⟩
end
end SL

/-! SL, the eleventh part: texts as lists of signs; data by type. -/
namespace SL
open PySem PySem.Spec PyProof.Rows L2

/-- a text by its signs -/
abbrev sD (l : List Nat) : PyData := .str ⟨l.toArray⟩
abbrev lD {α : Type} (f : α → PyData) (xs : List α) : PyData := .list (xs.map f)
abbrev tD {α : Type} (f : α → PyData) (xs : List α) : PyData := .tuple (xs.map f)
abbrev iD (i : Int) : PyData := .int i
abbrev nD (i : Nat) : PyData := .int (i : Int)
/-- None or data -/
def oD {α : Type} (f : α → PyData) : Option α → PyData
  | none => .none
  | some x => f x
theorem cps_list (l : List Nat) : ({ cps := l.toArray } : Str).cps.toList = l := List.toList_toArray
theorem len_list (l : List Nat) : ({ cps := l.toArray } : Str).length = l.length := List.size_toArray ..
section
variable {c : Ctx} {s s1 s2 s3 : AS} {e a b iter tg : Expr} {pos p : Pos}
theorem ev_strL {x : Str} {j : Nat} (l : List Nat) (h : x = ⟨l.toArray⟩) : Ev c (.Constant (.str x) j pos) s (.dat (sD l)) s := h ▸ ev_str
theorem ev_lenL {l : List Nat} (B : Bl c.mg) (ha : Ev c a s (.dat (sD l)) s1) (hz : l.length ≤ 16777216) (hg : GlC c "len" := by rfl) (he : ∀ env, starEach [a] env = (false, eval a env) :: starEach [] env := by intro _; rfl) :
    Ev c (.Call (.Name "len" p) [a] [] pos) s (.dat (.int l.length)) s1 := ev_conv (ev_lenS B ha (by rw [len_list]; exact hz) hg he) (by rw [len_list])
theorem ev_slSL {lo hi : Option Expr} {l u : Option Int} {p2 : Pos} {z : List Nat} (ha : Ev c a s (.dat (sD z)) s1) (hl : EvO c lo s1 l s2) (hu : EvO c hi s2 u s3) (hz : z.length ≤ 16777216) : Ev c (.Subscript a (.Slice lo hi none p2) pos) s (.dat (sD (cutA z l u))) s3 :=
  ev_conv (ev_slS ha hl hu (by rw [len_list]; exact hz)) (by rw [cps_list])
theorem ev_backSL {z : List Nat} {k : Nat} {p1 p2 p3 : Pos} (ha : Ev c a s (.dat (sD z)) s1) (hz : z.length ≤ 16777216) : Ev c (.Subscript a (.Slice none none (some (.UnaryOp .USub (.Constant (.int 1) k p1) p2)) p3) pos) s (.dat (sD z.reverse)) s1 :=
  ev_conv (ev_backS ha (by rw [len_list]; exact hz)) (by rw [cps_list])
theorem ev_catSL {x y : List Nat} (ha : Ev c a s (.dat (sD x)) s1) (hb : Ev c b s1 (.dat (sD y)) s2) (hz : x.length + y.length ≤ 16777216) : Ev c (.BinOp a .Add b pos) s (.dat (sD (x ++ y))) s2 :=
  ev_conv (ev_catS ha hb (by rw [len_list, len_list]; exact hz)) (by
    show PyData.str ⟨x.toArray ++ y.toArray⟩ = PyData.str ⟨(x ++ y).toArray⟩
    rw [List.append_toArray])
/-- s[i], 0 ≤ i -/
theorem ev_ixSL {z : List Nat} {i : Int} {n : Nat} (ha : Ev c a s (.dat (sD z)) s1) (hb : Ev c b s1 (.dat (.int i)) s2) (h : atI z i = some n) (hz : z.length ≤ 16777216) (hs : PlainIx b := by intro _ _; rfl) : Ev c (.Subscript a b pos) s (.dat (sD [n])) s2 :=
  ev_ix ha hb (by
    show (atI ({ cps := z.toArray } : Str).cps.toList i).map _ = _
    rw [cps_list, h]
    rfl) (by show Str.length _ ≤ _; rw [len_list]; exact hz) hs
theorem str_beq (x y : List Nat) : (({ cps := x.toArray } : Str) == { cps := y.toArray }) = decide (x = y) := by
  by_cases h : x = y
  · subst h; simp
  · have : ({ cps := x.toArray } : Str) ≠ { cps := y.toArray } := fun z => h (by
      have := congrArg (fun q : Str => q.cps.toList) z
      simpa using this)
    rw [beq_eq_false_iff_ne.mpr this, decide_eq_false h]
def okS (l : List Nat) : Prop := ∀ x ∈ l, x < 0x110000
theorem shp_s {l : List Nat} (h : okS l) : Shp (sD l) := by
  show (PyData.canLay0 (.str ⟨l.toArray⟩) && decide (PyData.depth (.str ⟨l.toArray⟩) ≤ 64)) = true
  rw [Bool.and_eq_true]
  refine ⟨?_, decide_eq_true (by show (0 : Nat) ≤ 64; omega)⟩
  show (l.toArray.all fun x => decide (x < 0x110000)) = true
  rw [List.all_toArray, List.all_eq_true]
  exact fun x hx => decide_eq_true (h x hx)
theorem ev_eqSL {x y : List Nat} (ha : Ev c a s (.dat (sD x)) s1) (hb : Ev c b s1 (.dat (sD y)) s2) (hx : okS x) (hy : okS y) : Ev c (.Compare a [.Eq] [b] pos) s (.dat (.bool (decide (x = y)))) s2 :=
  ev_conv (ev_eq ha hb (shp_s hx) (shp_s hy)) (by show PyData.bool (_ == _) = _; rw [str_beq])

/-- text in, flat items by == -/
theorem any_sD (x : List Nat) : ∀ zs : List (List Nat), ((zs.map sD).any fun z => PyData.eqv z (sD x)) = decide (x ∈ zs)
  | [] => rfl
  | z :: zs => by
    rw [List.map_cons, List.any_cons, any_sD x zs]
    have e : PyData.eqv (sD z) (sD x) = decide (z = x) := str_beq z x
    rw [e]
    by_cases h : z = x
    · subst h; simp
    · have h2 : ¬ x = z := fun q => h q.symm
      simp [h, h2]
theorem any_iD (x : Int) : ∀ zs : List Int, ((zs.map iD).any fun z => PyData.eqv z (iD x)) = decide (x ∈ zs)
  | [] => rfl
  | z :: zs => by
    rw [List.map_cons, List.any_cons, any_iD x zs]
    have e : PyData.eqv (iD z) (iD x) = (z == x) := rfl
    rw [e]
    by_cases h : z = x
    · subst h; simp
    · have h2 : ¬ x = z := fun q => h q.symm
      simp [h, h2]
theorem flat_all {α : Type} {f : α → PyData} (h : ∀ x, flatD (f x) = true) (xs : List α) : (xs.map f).all flatD = true := by
  rw [List.all_eq_true]
  intro y hy
  obtain ⟨x, _, rfl⟩ := List.mem_map.mp hy
  exact h x
section
variable {x : Int} {zs : List Int}
theorem ev_inI (ha : Ev c a s (.dat (.int x)) s1) (hb : Ev c b s1 (.dat (tD iD zs)) s2) (hm : behindInMarks .In b = false := by rfl) : Ev c (.Compare a [.In] [b] pos) s (.dat (.bool (decide (x ∈ zs)))) s2 :=
  ev_conv (ev_in ha hb (.inr rfl) rfl (flat_all (fun _ => rfl) zs) hm) (by rw [any_iD])
theorem ev_notinI (ha : Ev c a s (.dat (.int x)) s1) (hb : Ev c b s1 (.dat (tD iD zs)) s2) (hm : behindInMarks .NotIn b = false := by rfl) : Ev c (.Compare a [.NotIn] [b] pos) s (.dat (.bool (!decide (x ∈ zs)))) s2 :=
  ev_conv (ev_notin ha hb (.inr rfl) rfl (flat_all (fun _ => rfl) zs) hm) (by rw [any_iD])
theorem tst_inI (ha : Ev c a s (.dat (.int x)) s1) (hb : Ev c b s1 (.dat (tD iD zs)) s2) (hm : behindInMarks .In b = false := by rfl) : Tst c (.Compare a [.In] [b] pos) s (decide (x ∈ zs)) s2 :=
  tst_conv (tst_in ha hb (.inr rfl) rfl (flat_all (fun _ => rfl) zs) hm) (by rw [any_iD])
theorem tst_notinI (ha : Ev c a s (.dat (.int x)) s1) (hb : Ev c b s1 (.dat (tD iD zs)) s2) (hm : behindInMarks .NotIn b = false := by rfl) : Tst c (.Compare a [.NotIn] [b] pos) s (!decide (x ∈ zs)) s2 :=
  tst_conv (tst_notin ha hb (.inr rfl) rfl (flat_all (fun _ => rfl) zs) hm) (by rw [any_iD])
end
theorem ev_inSL {x : List Nat} {zs : List (List Nat)} (ha : Ev c a s (.dat (sD x)) s1) (hb : Ev c b s1 (.dat (tD sD zs)) s2) (hm : behindInMarks .In b = false := by rfl) : Ev c (.Compare a [.In] [b] pos) s (.dat (.bool (decide (x ∈ zs)))) s2 :=
  ev_conv (ev_in ha hb (.inr rfl) rfl (flat_all (fun _ => rfl) zs) hm) (by rw [any_sD])
/-- "".join -/
theorem glue_empty : ∀ (zs : List (List Nat)), Builtin.Str.glued (Str.ofString "") (zs.map fun l => { cps := l.toArray }) = { cps := zs.flatten.toArray } := by
  intro zs
  have e0 : (Str.ofString "").cps = #[] := by decide +kernel
  unfold Builtin.Str.glued
  rw [e0]
  have key : ∀ (ys : List (List Nat)) (acc : List Nat), (ys.map fun l => ({ cps := l.toArray } : Str)).foldl (fun (acc : Array Nat) p => acc ++ (#[] : Array Nat) ++ p.cps) acc.toArray = (acc ++ ys.flatten).toArray := by
    intro ys
    induction ys with
    | nil => intro acc; simp
    | cons y ys ih =>
      intro acc
      rw [List.map_cons, List.foldl_cons]
      have : acc.toArray ++ (#[] : Array Nat) ++ y.toArray = (acc ++ y).toArray := by simp
      show List.foldl _ (acc.toArray ++ #[] ++ y.toArray) _ = _
      rw [this, ih]
      simp
  cases zs with
  | nil => rfl
  | cons z zs =>
    show (⟨(zs.map fun l => ({ cps := l.toArray } : Str)).foldl _ z.toArray⟩ : Str) = _
    rw [key zs z]
    rfl
theorem len_sum (zs : List (List Nat)) : ((zs.map fun l => ({ cps := l.toArray } : Str)).map (·.length)).sum = zs.flatten.length := by
  induction zs with
  | nil => rfl
  | cons z zs ih =>
    rw [List.map_cons, List.map_cons, List.sum_cons, ih, List.flatten_cons, List.length_append]
    show Str.length _ + _ = _
    rw [len_list]
theorem ev_joinE {j : Nat} {x : Str} {zs : List (List Nat)} {sp apos cpos : Pos} (h : EvQ c e s (zs.map sD) s1) (hx : x = Str.ofString "") (hz : zs.flatten.length ≤ 16777216) (hline : (apos.endLine == cpos.line) = true := by rfl) (hs : ∀ env, starEach [e] env = [(false, eval e env)] := by intro _; rfl) :
    Ev c (.Call (.Attribute (.Constant (.str x) j sp) "join" apos) [e] [] cpos) s (.dat (sD zs.flatten)) s1 := by
  subst hx
  have e0 : (Str.ofString "").length = 0 := by decide +kernel
  have h' : EvQ c e s ((zs.map fun l => ({ cps := l.toArray } : Str)).map .str) s1 := by
    rw [List.map_map]
    exact h
  refine ev_conv (ev_join h' (by rw [len_sum, e0, Nat.mul_zero]; exact hz) hline hs) ?_
  have : Txt.join (Str.ofString "") (zs.map fun l => ({ cps := l.toArray } : Str)) = { cps := zs.flatten.toArray } := glue_empty zs
  rw [this]
/-- min of texts -/
def sLt (x y : List Nat) : Bool := decide (x < y)
theorem ev_minSL {z : List Nat} {zs : List (List Nat)} (B : Bl c.mg) (ha : EvL c a s ((z :: zs).map sD) s1) (hg : GlC c "min" := by rfl) (he : ∀ env, starEach [a] env = (false, eval a env) :: starEach [] env := by intro _; rfl) :
    Ev c (.Call (.Name "min" p) [a] [] pos) s (.dat (sD (best sLt zs z))) s1 := by
  have h' : EvL c a s ((({ cps := z.toArray } : Str) :: zs.map fun l => ({ cps := l.toArray } : Str)).map .str) s1 := by
    rw [List.map_cons, List.map_map]
    exact ha
  refine ev_conv (ev_minS B h' hg he) ?_
  rw [best_map (f := fun l : List Nat => ({ cps := l.toArray } : Str)) (lt := sLt) (fun x y => by
    unfold strLt sLt
    rw [cps_list, cps_list])]
end
end SL

/-! SL, the twelfth part: comprehensions by type; the law's own helpers (hand, take). -/
namespace SL
open PySem PySem.Spec PyProof.Rows L2
section
variable {c : Ctx} {s s1 s2 s3 : AS} {e a b tg iter elt : Expr} {ifs : List Expr} {scope : Scope} {pos p : Pos}
/-! ### ranges by type -/
theorem range_nD (n : Nat) : rangeD 0 n = (List.range n).map nD := by
  unfold rangeD
  apply List.map_congr_left
  intro i _
  show PyData.int (0 + (i : Int)) = PyData.int (i : Int)
  rw [Int.zero_add]
theorem evi_rn {n : Int} (B : Bl c.mg) (h : Ev c a s (.dat (.int n)) s1) (hz : n ≤ 16777216) (hlo : -4611686018427387904 ≤ n := by omega) (hg : GlC c "range" := by rfl) (hs : ∀ env, starEach [a] env = [(false, eval a env)] := by intro _; rfl) :
    EvI c tg (.Call (.Name "range" p) [a] [] pos) s ((List.range n.toNat).map nD) s1 := evi_conv (evi_range1 B h hz (by omega) hg hs) (range_nD _)
theorem evi_rn2 {m n : Int} (B : Bl c.mg) (h : Ev c a s (.dat (.int m)) s1) (h2 : Ev c b s1 (.dat (.int n)) s2) (hz : -8000000 ≤ m ∧ m ≤ 8000000 ∧ -8000000 ≤ n ∧ n ≤ 8000000) (hg : GlC c "range" := by rfl) (hs : ∀ env, starEach [a, b] env = [(false, eval a env), (false, eval b env)] := by intro _; rfl)
    (hs2 : ∀ env, starEach [b] env = [(false, eval b env)] := by intro _; rfl) : EvI c tg (.Call (.Name "range" p) [a, b] [] pos) s ((List.range (n - m).toNat).map fun i => iD (m + (i : Nat))) s2 := evi_range2 B h h2 hz hg hs hs2
theorem evi_s {z : List Nat} (h : Ev c iter s (.dat (sD z)) s1) (hz : z.length ≤ 16777216) : EvI c tg iter s (z.map fun n => sD [n]) s1 :=
  evi_conv (evi_str h (by rw [len_list]; exact hz)) (by rw [cps_list])
/-! ### comprehensions by type -/
section
variable {α β : Type} {en : α → PyData} {q : α → Bool} {F : β → PyData} {g : α → β} {as : List α}
theorem ev_compF (F : β → PyData) (own : List (Str × Nat)) (hi : EvI c tg iter s (as.map en) s1) (ht : ∀ a, a ∈ as → Turn0 (c.blk scope) tg elt ifs s1.E (own.map (·.2)) s1.S en q (fun a => F (g a)) a)
    (hok : blkC c.N c.sc scope own = true := by (try dsimp only [ctxOf, Ctx.blk]); decide +kernel) (hv : (own.map (·.2)).all (fun i => !ownAt s1.E i) = true := by rfl) (hif : ifs.length ≤ 1 := by decide) (hs : ∀ env x, foldedSetIterable iter env x = pure x := by intro _ _; rfl) :
    Ev c (.ListComp elt [⟨tg, iter, ifs, 0⟩] scope pos) s (.own (((as.filter q).map g).map F)) s1 := by
  rw [List.map_map]
  exact ev_comp own hi ht hok hv hif hs
theorem ev_mapF (F : β → PyData) (own : List (Str × Nat)) (hi : EvI c tg iter s (as.map en) s1) (ht : ∀ a, a ∈ as → Turn0 (c.blk scope) tg elt ifs s1.E (own.map (·.2)) s1.S en (fun _ => true) (fun a => F (g a)) a)
    (hok : blkC c.N c.sc scope own = true := by (try dsimp only [ctxOf, Ctx.blk]); decide +kernel) (hv : (own.map (·.2)).all (fun i => !ownAt s1.E i) = true := by rfl) (hif : ifs.length ≤ 1 := by decide) (hs : ∀ env x, foldedSetIterable iter env x = pure x := by intro _ _; rfl) :
    Ev c (.ListComp elt [⟨tg, iter, ifs, 0⟩] scope pos) s (.own ((as.map g).map F)) s1 := by
  have h := ev_compF (pos := pos) F own hi ht hok hv hif hs
  rw [List.filter_eq_self.mpr (fun _ _ => rfl)] at h
  exact h
theorem ex_compF (F : β → PyData) (i : Nat) {x : Str} {py spos : Pos} (own : List (Str × Nat)) (hi : EvI c tg iter s (as.map en) s1) (ht : ∀ a, a ∈ as → Turn0 (c.blk scope) tg elt ifs s1.E (own.map (·.2)) s1.S en q (fun a => F (g a)) a)
    (hok : blkC c.N c.sc scope own = true := by (try dsimp only [ctxOf, Ctx.blk]); decide +kernel) (hx : c.N[i]? = some x := by rfl) (hxl : c.sc.names.lookup x = some .local := by rfl) (hfk : c.sc.kind = .function := by rfl)
    (hln : (py.line == pos.line) = true := by rfl) (hnx : (scope.names.any fun (n, k) => n == x && (k == .local || k == .cell)) = false := by rfl)
    (hv : (own.map (·.2)).all (fun i => !ownAt s1.E i) = true := by rfl) (hif : ifs.length ≤ 1 := by decide) (hs : ∀ env x, foldedSetIterable iter env x = pure x := by intro _ _; rfl) :
    Ex c (.Assign [.Name x py] (.ListComp elt [⟨tg, iter, ifs, 0⟩] scope pos) spos) s (.nx (s1.put i (.own (((as.filter q).map g).map F)))) := by
  rw [List.map_map]
  exact ex_comp i own hi ht hok hx hxl hfk hln hnx hv hif hs
theorem ex_mapF (F : β → PyData) (i : Nat) {x : Str} {py spos : Pos} (own : List (Str × Nat)) (hi : EvI c tg iter s (as.map en) s1) (ht : ∀ a, a ∈ as → Turn0 (c.blk scope) tg elt ifs s1.E (own.map (·.2)) s1.S en (fun _ => true) (fun a => F (g a)) a)
    (hok : blkC c.N c.sc scope own = true := by (try dsimp only [ctxOf, Ctx.blk]); decide +kernel) (hx : c.N[i]? = some x := by rfl) (hxl : c.sc.names.lookup x = some .local := by rfl) (hfk : c.sc.kind = .function := by rfl)
    (hln : (py.line == pos.line) = true := by rfl) (hnx : (scope.names.any fun (n, k) => n == x && (k == .local || k == .cell)) = false := by rfl)
    (hv : (own.map (·.2)).all (fun i => !ownAt s1.E i) = true := by rfl) (hif : ifs.length ≤ 1 := by decide) (hs : ∀ env x, foldedSetIterable iter env x = pure x := by intro _ _; rfl) :
    Ex c (.Assign [.Name x py] (.ListComp elt [⟨tg, iter, ifs, 0⟩] scope pos) spos) s (.nx (s1.put i (.own ((as.map g).map F)))) := by
  have h := ex_compF (py := py) (spos := spos) (pos := pos) F i own hi ht hok hx hxl hfk hln hnx hv hif hs
  rw [List.filter_eq_self.mpr (fun _ _ => rfl)] at h
  exact h
end
theorem ex_frzC (i : Nat) {st : Stmt} {ds : List PyData} {s2 : AS} (h : Ex c st s (.nx (s2.put i (.own ds)))) (hi : i < s2.E.length := by exact Nat.le_of_ble_eq_true rfl) : Ex c st s (.nx (s2.put i (.dat (.list ds)))) := ex_frz i h hi
end
end SL

/-! SL, the thirteenth part: by type, for printed terms. -/
namespace SL
open PySem PySem.Spec PyProof.Rows L2
section
variable {c : Ctx} {s s1 s2 s3 : AS} {e a b tg iter elt : Expr} {ifs : List Expr} {scope : Scope} {pos p : Pos}
theorem atI_nn {α : Type} {zs : List α} {i : Int} (d : α) (h : 0 ≤ i ∧ i < zs.length) : atI zs i = some (zs.getD i.toNat d) := by
  have e : i = ((i.toNat : Nat) : Int) := by omega
  have hl : i.toNat < zs.length := by omega
  have h1 : zs[i.toNat]? = some (zs.getD i.toNat d) := by
    rw [List.getD_eq_getElem?_getD, List.getElem?_eq_getElem hl]; rfl
  have := atI_nat h1
  rw [← e] at this
  exact this
theorem ev_ixS0 {z : List Nat} {i : Int} (ha : Ev c a s (.dat (sD z)) s1) (hb : Ev c b s1 (.dat (.int i)) s2) (h : 0 ≤ i ∧ i < z.length) (hz : z.length ≤ 16777216) (hs : PlainIx b := by intro _ _; rfl) : Ev c (.Subscript a b pos) s (.dat (sD [z.getD i.toNat 0])) s2 :=
  ev_ixSL ha hb (atI_nn 0 h) hz hs
section
variable {α : Type} [Inhabited α] (F : α → PyData) {zs : List α} {i : Int}
theorem ev_ixTF (ha : Ev c a s (.dat (tD F zs)) s1) (hb : Ev c b s1 (.dat (.int i)) s2) (h : 0 ≤ i ∧ i < zs.length) (hs : PlainIx b := by intro _ _; rfl) : Ev c (.Subscript a b pos) s (.dat (F (zs.getD i.toNat default))) s2 :=
  ev_ix ha hb (by
    show atI (zs.map F) i = _
    have e : zs[i.toNat]? = some (zs.getD i.toNat default) := by rw [List.getD_eq_getElem?_getD, List.getElem?_eq_getElem (by omega)]; rfl
    have h2 := atI_nat (xs := zs.map F) (j := i.toNat) (v := F (zs.getD i.toNat default)) (by rw [List.getElem?_map, e]; rfl)
    rw [show ((i.toNat : Nat) : Int) = i by omega] at h2
    exact h2) trivial hs
theorem ev_ixLF (ha : Ev c a s (.dat (lD F zs)) s1) (hb : Ev c b s1 (.dat (.int i)) s2) (h : 0 ≤ i ∧ i < zs.length) (hs : PlainIx b := by intro _ _; rfl) : Ev c (.Subscript a b pos) s (.dat (F (zs.getD i.toNat default))) s2 :=
  ev_ix ha hb (by
    show atI (zs.map F) i = _
    have e : zs[i.toNat]? = some (zs.getD i.toNat default) := by rw [List.getD_eq_getElem?_getD, List.getElem?_eq_getElem (by omega)]; rfl
    have h2 := atI_nat (xs := zs.map F) (j := i.toNat) (v := F (zs.getD i.toNat default)) (by rw [List.getElem?_map, e]; rfl)
    rw [show ((i.toNat : Nat) : Int) = i by omega] at h2
    exact h2) trivial hs
omit [Inhabited α] in
theorem ev_backTF (ha : Ev c a s (.dat (tD F zs)) s1) {k : Nat} {p1 p2 p3 : Pos} : Ev c (.Subscript a (.Slice none none (some (.UnaryOp .USub (.Constant (.int 1) k p1) p2)) p3) pos) s (.dat (tD F zs.reverse)) s1 :=
  ev_conv (ev_backT ha) (by rw [← List.map_reverse])
omit [Inhabited α] in
theorem ev_slTF {lo hi : Option Expr} {l u : Option Int} {p2 : Pos} (ha : Ev c a s (.dat (tD F zs)) s1) (hl : EvO c lo s1 l s2) (hu : EvO c hi s2 u s3) : Ev c (.Subscript a (.Slice lo hi none p2) pos) s (.dat (tD F (cutA zs l u))) s3 :=
  ev_conv (ev_slT ha hl hu) (by rw [cutA_map])
omit [Inhabited α] in
theorem ev_catTF {ys : List α} (ha : Ev c a s (.dat (tD F zs)) s1) (hb : Ev c b s1 (.dat (tD F ys)) s2) (hz : zs.length + ys.length ≤ 16777216) : Ev c (.BinOp a .Add b pos) s (.dat (tD F (zs ++ ys))) s2 :=
  ev_conv (ev_catT ha hb (by rw [List.length_map, List.length_map]; exact hz)) (by rw [← List.map_append])
end
theorem ev_lenF {α : Type} {F : α → PyData} {zs : List α} (B : Bl c.mg) (ha : EvQ c a s (zs.map F) s1) (hg : GlC c "len" := by rfl) (he : ∀ env, starEach [a] env = (false, eval a env) :: starEach [] env := by intro _; rfl) : Ev c (.Call (.Name "len" p) [a] [] pos) s (.dat (.int zs.length)) s1 :=
  ev_conv (ev_len B ha hg he) (by rw [List.length_map])
theorem ev_allF {bs : List Bool} (B : Bl c.mg) (ha : EvL c a s (bs.map PyData.bool) s1) (hg : GlC c "all" := by rfl) (he : ∀ env, starEach [a] env = (false, eval a env) :: starEach [] env := by intro _; rfl) : Ev c (.Call (.Name "all" p) [a] [] pos) s (.dat (.bool (bs.all id))) s1 := ev_all B ha hg he
theorem ev_anyF {bs : List Bool} (B : Bl c.mg) (ha : EvL c a s (bs.map PyData.bool) s1) (hg : GlC c "any" := by rfl) (he : ∀ env, starEach [a] env = (false, eval a env) :: starEach [] env := by intro _; rfl) : Ev c (.Call (.Name "any" p) [a] [] pos) s (.dat (.bool (bs.any id))) s1 := ev_any B ha hg he
/-- the least of a list that is not empty -/
def bestL {α : Type} [Inhabited α] (lt : α → α → Bool) : List α → α
  | [] => default
  | x :: xs => best lt xs x
theorem ev_minSF {zs : List (List Nat)} (B : Bl c.mg) (ha : EvL c a s (zs.map sD) s1) (hne : zs ≠ []) (hg : GlC c "min" := by rfl) (he : ∀ env, starEach [a] env = (false, eval a env) :: starEach [] env := by intro _; rfl) :
    Ev c (.Call (.Name "min" p) [a] [] pos) s (.dat (sD (bestL sLt zs))) s1 := by
  cases zs with
  | nil => exact absurd rfl hne
  | cons z zs => exact ev_minSL B ha hg he
/-- the truth of a list of one's own -/
theorem tst_truL {ds : List PyData} (ha : EvL c e s ds s1) (he : ∀ env whole, isTrue e env whole = (do let v ← whole; standAt e.pos; holding [v] (truthy v)) := by intro _ _; rfl) : Tst c e s (!ds.isEmpty) s1 := by
  intro X g f σ H F P M Q R q
  refine tBT_of (pt_truth peB (he _)) ?_
  refine ha X g f σ H F P M _ R fun a vs H1 F1 P1 M1 m1 p1 R1 r1 d1 => ?_
  exact ⟨_, .inl ⟨vs, r1, rfl⟩, by rw [dpa_emp d1]; exact q H1 F1 P1 M1 m1 p1 R1⟩
theorem tst_truT {α : Type} {F : α → PyData} {zs : List α} (ha : Ev c e s (.dat (tD F zs)) s1) (he : ∀ env whole, isTrue e env whole = (do let v ← whole; standAt e.pos; holding [v] (truthy v)) := by intro _ _; rfl) : Tst c e s (!zs.isEmpty) s1 :=
  tst_conv (tst_tru ha trivial he) (by show (!(zs.map F).isEmpty) = _; cases zs <;> rfl)
theorem tst_truLD {α : Type} {F : α → PyData} {zs : List α} (ha : Ev c e s (.dat (lD F zs)) s1) (he : ∀ env whole, isTrue e env whole = (do let v ← whole; standAt e.pos; holding [v] (truthy v)) := by intro _ _; rfl) : Tst c e s (!zs.isEmpty) s1 :=
  tst_conv (tst_tru ha trivial he) (by show (!(zs.map F).isEmpty) = _; cases zs <;> rfl)
theorem isNone_o {α : Type} {F : α → PyData} (h : ∀ x, isNoneD (F x) = false) (o : Option α) : isNoneD (oD F o) = o.isNone := by
  cases o with
  | none => rfl
  | some x => exact h x
theorem ev_isNF {α : Type} {F : α → PyData} {o : Option α} {j : Nat} {pos' : Pos} (ha : Ev c a s (.dat (oD F o)) s1) (h : ∀ x, isNoneD (F x) = false := by intro _; rfl) : Ev c (.Compare a [.Is] [.Constant .none j pos'] pos) s (.dat (.bool o.isNone)) s1 := ev_conv (ev_isN ha) (by rw [isNone_o h])
theorem ev_notNF {α : Type} {F : α → PyData} {o : Option α} {j : Nat} {pos' : Pos} (ha : Ev c a s (.dat (oD F o)) s1) (h : ∀ x, isNoneD (F x) = false := by intro _; rfl) : Ev c (.Compare a [.IsNot] [.Constant .none j pos'] pos) s (.dat (.bool (!o.isNone))) s1 := ev_conv (ev_notN ha) (by rw [isNone_o h])
theorem tst_isNF {α : Type} {F : α → PyData} {o : Option α} {j : Nat} {pos' : Pos} (ha : Ev c a s (.dat (oD F o)) s1) (h : ∀ x, isNoneD (F x) = false := by intro _; rfl) : Tst c (.Compare a [.Is] [.Constant .none j pos'] pos) s o.isNone s1 := tst_conv (tst_isN ha) (isNone_o h o)
theorem tst_notNF {α : Type} {F : α → PyData} {o : Option α} {j : Nat} {pos' : Pos} (ha : Ev c a s (.dat (oD F o)) s1) (h : ∀ x, isNoneD (F x) = false := by intro _; rfl) : Tst c (.Compare a [.IsNot] [.Constant .none j pos'] pos) s (!o.isNone) s1 := tst_conv (tst_notN ha) (by rw [isNone_o h])

theorem exs_retD {d : PyData} {rest : List Stmt} (h : Ev c e s (.dat d) s1) : Exs c (.Return (some e) pos :: rest) s (.rt (.dat d) s1.S) := exs_ret h fun _ z => by cases z
theorem exs_retO {j : Nat} {rest : List Stmt} (h : Ev c e s (.obj j) s1) : Exs c (.Return (some e) pos :: rest) s (.rt (.obj j) s1.S) := exs_ret h fun _ z => by cases z
theorem eva_d {es : List Expr} {d : PyData} {rs : List Sv} (h : Ev c e s (.dat d) s1) (h2 : EvA c es s1 rs s2) (hs : ∀ env, starEach (e :: es) env = (false, eval e env) :: starEach es env := by intro _; rfl) : EvA c (e :: es) s (.dat d :: rs) s2 := eva_cons h h2 (fun _ z => by cases z) hs
theorem eva_o {es : List Expr} {j : Nat} {rs : List Sv} (h : Ev c e s (.obj j) s1) (h2 : EvA c es s1 rs s2) (hs : ∀ env, starEach (e :: es) env = (false, eval e env) :: starEach es env := by intro _; rfl) : EvA c (e :: es) s (.obj j :: rs) s2 := eva_cons h h2 (fun _ z => by cases z) hs

theorem exs_retC {d : PyData} {rest : List Stmt} {o : Out} (h : Ev c e s (.dat d) s1) (he : Out.rt (.dat d) s1.S = o) : Exs c (.Return (some e) pos :: rest) s o := he ▸ exs_retD h
theorem exs_ifR {t : Expr} {k : Bool} {r : Sv} {S1 : List SObj} {u rest : List Stmt} (h : Tst c t s k s1) (h1 : k = true → Exs c u s1 (.rt r S1)) (h2 : k = false → Exs c rest s1 (.rt r S1)) : Exs c (.If t u [] pos :: rest) s (.rt r S1) := by
  have h3 := exs_if1 (pos := pos) (o := .rt r S1) h h1 h2
  cases k <;> exact h3
theorem rt_eq {d d' : PyData} {S : List SObj} (h : d = d') : Out.rt (.dat d) S = Out.rt (.dat d') S := h ▸ rfl

theorem ne_len {α : Type} {zs : List α} (h : (!zs.isEmpty) = true) : 0 ≤ (0 : Int) ∧ (0 : Int) < zs.length := by
  cases zs with
  | nil => cases h
  | cons z zs => rw [List.length_cons]; omega
end
end SL

/-! SL, the fourteenth part: what the laws' own helpers compute. -/
namespace SL
open PySem PySem.Spec PyProof.Rows L2
/-! ### forgetting -/
theorem wk_wipe (s : AS) (is : List Nat) : Wk s ⟨wipeE s.E is, s.S⟩ := ⟨rfl, wipeE_length _ _, fun _ _ h => (wipeE_in h).1⟩
theorem exs_fgt {c : Ctx} {a : List Stmt} {s s1 s2 : AS} (is : List Nat) (h : Exs c a s (.nx s1)) (e : (⟨wipeE s1.E is, s1.S⟩ : AS) = s2) : Exs c a s (.nx s2) := exs_wk h (e ▸ wk_wipe s1 is)
theorem wk_eq {s s1 : AS} (is : List Nat) (e : (⟨wipeE s.E is, s.S⟩ : AS) = s1) : Wk s s1 := e ▸ wk_wipe s is

/-- return x, x a list of one's own -/
theorem exs_retOwn {c : Ctx} {s : AS} {p pos : Pos} {rest : List Stmt} (i : Nat) {x : Str} {ds : List PyData} (hs : s.E[i]? = some (some (.own ds)) := by rfl) (hN : c.N[i]? = some x := by rfl) (hv : Vis c.sc x := by first | exact Or.inl rfl | exact Or.inr (Or.inl rfl) | exact Or.inr (Or.inr rfl))
    (hd : (x == ("__debug__" : Str)) = false := by decide) (hcd : (x == ("__classdict__" : Str)) = false := by decide) : Exs c (.Return (some (.Name x p)) pos :: rest) s (.rt (.dat (.list ds)) s.S) := by
  intro X g f σ H F P M D R q
  refine tBSs_head (ps_ret (pe_var (i := i) (by rw [g.N]; exact hN) (by rw [g.sc]; exact hv) hd hcd)) ?_
  obtain ⟨o1, ⟨vs, o2, o3⟩, o4, o5, o6⟩ := R.own i ds hs
  refine ⟨_, o1, ?_⟩
  obtain ⟨F3, m3, R3, d3⟩ := R.bare.freeze (ds := ds) (v := .ref (M i)) ⟨M i, vs, rfl, o2, o3, o4, o5, o6, fun j es ej => by simp at ej⟩
  exact q (.ref (M i)) H F3 P M m3 R3 d3
/-! ### the draws -/
def lcell (ns : List Int) (k : Nat) : Int := if k < ns.length then ns.getD k 0 else 5 * (k : Int) + 3
def mixI (seed : Int) (k : Nat) : Int :=
  let m := (seed * 48271 + ((k : Int) + 1) * 69621 + 11) % 2147483647
  let m2 := (m * m + 40692 * ((k : Int) + 3)) % 2147483399
  m2 / 64 % 5040
def drawStep (dg : Bool) (seed : Int) (k : Nat) (st : Int × List Int) : Int × List Int :=
  if (dg && decide (0 < st.1)) = true then (st.1 / 5040, st.2 ++ [st.1 % 5040]) else (st.1, st.2 ++ [mixI seed k])
def drawN (dg : Bool) (seed : Int) (r : Int) : Nat → Int × List Int
  | 0 => (r, [])
  | k + 1 => drawStep dg seed k (drawN dg seed r k)
def ldraws (cell : Int) (n : Nat) : List Int := (drawN (decide ((10 : Int) ^ (18 : Int).toNat ≤ (cell.natAbs : Nat))) (cell.natAbs : Nat) (cell.natAbs : Nat) n).2
theorem drawN_len (dg : Bool) (seed r : Int) : ∀ n, (drawN dg seed r n).2.length = n
  | 0 => rfl
  | n + 1 => by
    have ih := drawN_len dg seed r n
    unfold drawN drawStep
    split <;> simp [ih]
theorem drawN_in (dg : Bool) (seed r : Int) : ∀ n x, x ∈ (drawN dg seed r n).2 → 0 ≤ x ∧ x < 5040
  | 0, x, h => by cases h
  | n + 1, x, h => by
    have ih := drawN_in dg seed r n x
    unfold drawN drawStep at h
    split at h
    · rcases List.mem_append.mp h with h | h
      · exact ih h
      · rw [List.mem_singleton] at h; subst h; omega
    · rcases List.mem_append.mp h with h | h
      · exact ih h
      · rw [List.mem_singleton] at h; subst h; exact ⟨Int.emod_nonneg _ (by decide), Int.emod_lt_of_pos _ (by decide)⟩
/-- draws as a hand has them -/
def okL (L : List Int) : Prop := L.length = 120 ∧ ∀ x ∈ L, 0 ≤ x ∧ x < 5040
theorem okL_draws (cell : Int) : okL (ldraws cell 120) := ⟨drawN_len _ _ _ _, fun x h => drawN_in _ _ _ _ x h⟩
/-- a hand -/
def hd (L : List Int) (n : Nat) : SObj := .dk [(.inr (Str.ofString "draws"), lD iD L), (.inr (Str.ofString "at"), .int n)]
theorem hd_draws (L : List Int) (n : Nat) : lookD [(.inr (Str.ofString "draws"), lD iD L), (.inr (Str.ofString "at"), PyData.int n)] (.inr (Str.ofString "draws")) = some (lD iD L) := by
  unfold lookD
  rw [List.find?_cons, decide_eq_true rfl]
  rfl
theorem draws_at : (Str.ofString "draws" : Str) ≠ Str.ofString "at" := by decide +kernel
theorem hd_at (L : List Int) (n : Nat) : lookD [(.inr (Str.ofString "draws"), lD iD L), (.inr (Str.ofString "at"), PyData.int n)] (.inr (Str.ofString "at")) = some (.int n) := by
  unfold lookD
  have e : decide ((Sum.inr (Str.ofString "draws") : Key) = Sum.inr (Str.ofString "at")) = false := decide_eq_false fun z => draws_at (Sum.inr.inj z)
  rw [List.find?_cons, e, List.find?_cons, decide_eq_true rfl]
  rfl
theorem hd_put (L : List Int) (n m : Nat) : putD [(.inr (Str.ofString "draws"), lD iD L), (.inr (Str.ofString "at"), PyData.int n)] (.inr (Str.ofString "at")) (.int m) = [(.inr (Str.ofString "draws"), lD iD L), (.inr (Str.ofString "at"), .int m)] := by
  unfold putD
  have e : ¬ (Sum.inr (Str.ofString "draws") : Key) = Sum.inr (Str.ofString "at") := fun z => draws_at (Sum.inr.inj z)
  simp [e]
/-- the n-th take -/
def tk (L : List Int) (n : Nat) (m : Int) : Int := (L.getD (n % 120) 0 / ([1, 7, 59] : List Int).getD (n / 120 % 3) 0 + (n / 360 : Nat)) % m
theorem tk_lt {L : List Int} {n : Nat} {m : Int} (h : 0 < m) : 0 ≤ tk L n m ∧ tk L n m < m := ⟨Int.emod_nonneg _ (by omega), Int.emod_lt_of_pos _ h⟩
theorem tab3 (n : Nat) : 0 < ([1, 7, 59] : List Int).getD (n % 3) 0 ∧ ([1, 7, 59] : List Int).getD (n % 3) 0 < 1073741824 := by
  have h : n % 3 = 0 ∨ n % 3 = 1 ∨ n % 3 = 2 := by omega
  rcases h with h | h | h <;> rw [h] <;> decide
/-! ### _law_is -/
mutual
def isD : PyData → PyData → Bool
  | v, .none => isNoneD v
  | v, .bool b => match v with | .bool a => a == b | _ => false
  | v, .int i => match v with | .int j => j == i | _ => false
  | v, .str x => match v with | .str y => y == x | _ => false
  | v, .tuple ds => match v with | .tuple vs => decide (vs.length = ds.length) && isDs vs ds | _ => false
  | _, .list _ => false
  | _, .dict _ => false
def isDs : List PyData → List PyData → Bool
  | v :: vs, d :: ds => isD v d && isDs vs ds
  | _, _ => true
end
/-- plain data of a depth -/
inductive okP : Nat → PyData → Prop
  | none {n : Nat} : okP n .none
  | bool {n : Nat} (b : Bool) : okP n (.bool b)
  | int {n : Nat} (i : Int) : okP n (.int i)
  | str {n : Nat} (x : Str) (h : okS x.cps.toList) : okP n (.str x)
  | tuple {n : Nat} (ds : List PyData) (h : ∀ d ∈ ds, okP n d) (hl : ds.length ≤ 100000) : okP (n + 1) (.tuple ds)
abbrev R_is (n : Nat) : DRel := fun rs S r S' => ∃ v d, rs = [.dat v, .dat d] ∧ (okP n v ∧ okP n d) ∧ r = .dat (.bool (isD v d)) ∧ S' = S
abbrev R_is_integer : DRel := fun rs S r S' => ∃ v, rs = [.dat v] ∧ r = .dat (.bool (match v with | .int _ => true | _ => false)) ∧ S' = S
abbrev R_cell : DRel := fun rs S r S' => ∃ (ns : List Int) (k : Nat), rs = [.dat (lD iD ns), .dat (.int k)] ∧ r = .dat (.int (lcell ns k)) ∧ S' = S
abbrev R_draws : DRel := fun rs S r S' => ∃ (cell : Int) (n : Nat), rs = [.dat (.int cell), .dat (.int n)] ∧ n ≤ 1000 ∧ r = .dat (lD iD (ldraws cell n)) ∧ S' = S
abbrev R_hand : DRel := fun rs S r S' => ∃ (ns : List Int) (k : Nat), rs = [.dat (lD iD ns), .dat (.int k)] ∧ r = .obj S.length ∧ S' = S ++ [hd (ldraws (lcell ns k) 120) 0]
abbrev R_take : DRel := fun rs S r S' => ∃ (S0 : List SObj) (L : List Int) (n : Nat) (m : Int), rs = [.obj S0.length, .dat (.int m)] ∧ S = S0 ++ [hd L n] ∧ (okL L ∧ 0 < m) ∧ r = .dat (.int (tk L n m)) ∧ S' = S0 ++ [hd L (n + 1)]
theorem exs_retOC {c : Ctx} {e : Expr} {s s1 : AS} {pos : Pos} {j : Nat} {rest : List Stmt} {o : Out} (h : Ev c e s (.obj j) s1) (he : Out.rt (.obj j) s1.S = o) : Exs c (.Return (some e) pos :: rest) s o := he ▸ exs_retO h
theorem at_end {α : Type} (S0 : List α) (x : α) : (S0 ++ [x])[S0.length]? = some x := by simp
theorem set_end {α : Type} (S0 : List α) (x y : α) : (S0 ++ [x]).set S0.length y = S0 ++ [y] := by simp
section
theorem okP_lay : ∀ {n : Nat} {d : PyData}, okP n d → d.canLay0 = true ∧ d.depth ≤ n := by
  intro n d h
  induction h with
  | none => exact ⟨rfl, Nat.zero_le _⟩
  | bool b => exact ⟨rfl, Nat.zero_le _⟩
  | int i => exact ⟨rfl, Nat.zero_le _⟩
  | str x hx =>
    refine ⟨?_, Nat.zero_le _⟩
    show (x.cps.all fun c => decide (c < 0x110000)) = true
    rw [← Array.all_toList, List.all_eq_true]
    exact fun c hc => decide_eq_true (hx c hc)
  | @tuple n ds h hl ih =>
    have key : ∀ ds : List PyData, (∀ d ∈ ds, d.canLay0 = true ∧ d.depth ≤ n) → PyData.canLayAll0 ds = true ∧ PyData.depthAll ds ≤ n := by
      intro ds
      induction ds with
      | nil => intro _; exact ⟨rfl, Nat.zero_le _⟩
      | cons d ds ihd =>
        intro hh
        obtain ⟨q1, q2⟩ := ihd fun e he => hh e (List.mem_cons_of_mem _ he)
        obtain ⟨q3, q4⟩ := hh d List.mem_cons_self
        refine ⟨?_, ?_⟩
        · show (d.canLay0 && PyData.canLayAll0 ds) = true
          rw [q3, q1]; rfl
        · show max d.depth (PyData.depthAll ds) ≤ _
          exact Nat.max_le.mpr ⟨q4, q2⟩
    obtain ⟨q1, q2⟩ := key ds ih
    exact ⟨q1, Nat.succ_le_succ q2⟩
theorem okP_shp {n : Nat} {d : PyData} (h : okP n d) (hn : n ≤ 64) : Shp d := by
  obtain ⟨q1, q2⟩ := okP_lay h
  show (d.canLay0 && decide (d.depth ≤ 64)) = true
  rw [q1, Bool.true_and]
  exact decide_eq_true (Nat.le_trans q2 hn)
def isIntB : PyData → Bool
  | .int _ => true
  | .bool _ => true
  | _ => false
def isBoolB : PyData → Bool
  | .bool _ => true
  | _ => false
def isStrB : PyData → Bool
  | .str _ => true
  | _ => false
def isTupB : PyData → Bool
  | .tuple _ => true
  | _ => false
theorem kit_int (v : PyData) : kitB (tyD v) "int" = some (isIntB v) := by
  cases v with
  | none => exact (by decide +kernel : kitB "NoneType" "int" = some false)
  | bool _ => exact (by decide +kernel : kitB "bool" "int" = some true)
  | int _ => exact (by decide +kernel : kitB "int" "int" = some true)
  | str _ => exact (by decide +kernel : kitB "str" "int" = some false)
  | list _ => exact (by decide +kernel : kitB "list" "int" = some false)
  | tuple _ => exact (by decide +kernel : kitB "tuple" "int" = some false)
  | dict _ => exact (by decide +kernel : kitB "dict" "int" = some false)
theorem kit_bool (v : PyData) : kitB (tyD v) "bool" = some (isBoolB v) := by
  cases v with
  | none => exact (by decide +kernel : kitB "NoneType" "bool" = some false)
  | bool _ => exact (by decide +kernel : kitB "bool" "bool" = some true)
  | int _ => exact (by decide +kernel : kitB "int" "bool" = some false)
  | str _ => exact (by decide +kernel : kitB "str" "bool" = some false)
  | list _ => exact (by decide +kernel : kitB "list" "bool" = some false)
  | tuple _ => exact (by decide +kernel : kitB "tuple" "bool" = some false)
  | dict _ => exact (by decide +kernel : kitB "dict" "bool" = some false)
theorem kit_str (v : PyData) : kitB (tyD v) "str" = some (isStrB v) := by
  cases v with
  | none => exact (by decide +kernel : kitB "NoneType" "str" = some false)
  | bool _ => exact (by decide +kernel : kitB "bool" "str" = some false)
  | int _ => exact (by decide +kernel : kitB "int" "str" = some false)
  | str _ => exact (by decide +kernel : kitB "str" "str" = some true)
  | list _ => exact (by decide +kernel : kitB "list" "str" = some false)
  | tuple _ => exact (by decide +kernel : kitB "tuple" "str" = some false)
  | dict _ => exact (by decide +kernel : kitB "dict" "str" = some false)
theorem kit_tup (v : PyData) : kitB (tyD v) "tuple" = some (isTupB v) := by
  cases v with
  | none => exact (by decide +kernel : kitB "NoneType" "tuple" = some false)
  | bool _ => exact (by decide +kernel : kitB "bool" "tuple" = some false)
  | int _ => exact (by decide +kernel : kitB "int" "tuple" = some false)
  | str _ => exact (by decide +kernel : kitB "str" "tuple" = some false)
  | list _ => exact (by decide +kernel : kitB "list" "tuple" = some false)
  | tuple _ => exact (by decide +kernel : kitB "tuple" "tuple" = some true)
  | dict _ => exact (by decide +kernel : kitB "dict" "tuple" = some false)
theorem isDs_range : ∀ (vs ds : List PyData), vs.length = ds.length → (((List.range ds.length).map fun a => isD (vs.getD a .none) (ds.getD a .none)).all id) = isDs vs ds
  | [], [], _ => rfl
  | v :: vs, d :: ds, h => by
    have ih := isDs_range vs ds (by simpa using h)
    rw [List.length_cons, List.range_succ_eq_map, List.map_cons, List.map_map, List.all_cons]
    show (isD v d && _) = (isD v d && isDs vs ds)
    rw [← ih]
    rfl
  | [], _ :: _, h => by simp at h
  | _ :: _, [], h => by simp at h
end
end SL

/-! SL, the fifteenth part: pairs of lists, draws in comprehensions, ranges with a step, texts repeated. -/
namespace SL
open PySem PySem.Spec PyProof.Rows L2
section
variable {c : Ctx} {s s1 s2 s3 : AS} {e a b tg iter elt : Expr} {ifs : List Expr} {scope : Scope} {pos p : Pos} {xs : List PyData}
/-- a, b = x, y: two fresh lists -/
theorem ex_parOO (i j : Nat) {x y : Str} {a b : Expr} {d1 d2 : List PyData} {px py pt : Pos} {kt k2 : Nat} {pt2 : Pos} (h1 : Ev c a s (.own d1) s1) (h2 : Ev c b s1 (.own d2) s2) (hi : c.N[i]? = some x := by rfl) (hj : c.N[j]? = some y := by rfl) (hij : i ≠ j := by decide)
    (hx : c.sc.names.lookup x = some .local := by rfl) (hy : c.sc.names.lookup y = some .local := by rfl)
    (hw : ∀ env : Env, env.scope = c.sc → swappedStores [.Tuple [.Name x px, .Name y py] kt pt] (.Tuple [a, b] k2 pt2) env = pure (some [x, y]))
    (hs : ∀ env, swapsWithSole [.Tuple [.Name x px, .Name y py] kt pt] (.Tuple [a, b] k2 pt2) pos.line env = pure false := by intro _; rfl)
    (he1 : ∀ env, starEach [a, b] env = (false, eval a env) :: starEach [b] env := by intro _; rfl) (he2 : ∀ env, starEach [b] env = (false, eval b env) :: starEach [] env := by intro _; rfl) :
    Ex c (.Assign [.Tuple [.Name x px, .Name y py] kt pt] (.Tuple [a, b] k2 pt2) pos) s (.nx ((s2.put i (.own d1)).put j (.own d2))) := by
  intro X g f σ H F P M D R q
  refine tBS_of (ps_par (i := i) (j := j) g.calm g.nd (by rw [g.N]; exact hi) (by rw [g.N]; exact hj) hij (by rw [g.sc]; exact hx) (by rw [g.sc]; exact hy) (pa_cons peB (pa_cons peB pa_nil (he2 _)) (he1 _)) (hw _ g.sc) (hs _)) ?_
  refine h1 X g f σ H F P M _ R fun v H1 F1 P1 M1 m1 p1 R1 r1 => ?_
  obtain ⟨a1, vs1, rfl, q1, q2, q3, q4, q5, q6⟩ := r1
  have hf1 : a1 ∉ f.P := fun z => q4 (R1.pre.subset z)
  refine h2 X g (f.pin a1 (.lst vs1)) σ H1 F1 P1 M1 _ (R1.pin _ q1 q3 q4 q6) fun u H2 F2 P2 M2 m2 p2 R2 r2 => ?_
  obtain ⟨R3, k1, k2, k3, k4⟩ := R2.unpin q5 hf1
  obtain ⟨a2, vs2, rfl, t1, t2, t3, t4, t5, t6⟩ := r2
  have hne : a1 ≠ a2 := fun z => by
    subst z
    have : (f.pin a1 (.lst vs1)).H a1 = some (.lst vs1) := upd_same
    rw [this] at t5; cases t5
  have hf2 : f.H a2 = none := by
    have : (f.pin a1 (.lst vs1)).H a2 = f.H a2 := upd_ne (Ne.symm hne)
    rw [← this]; exact t5
  obtain ⟨M3, R4⟩ := R3.setL i (ds := d1) (v := .ref a1) ⟨a1, vs1, rfl, k1, dpa_mono m2 _ _ q2, k2, k3, q5, k4⟩
  obtain ⟨M4, R5⟩ := R4.setL j (ds := d2) (v := .ref a2) ⟨a2, vs2, rfl, t1, t2, t3, t4, hf2, fun l es el => by
    have w := (R4.own l es el).1
    rcases set_get el with ⟨rfl, e2, hl⟩ | ⟨ne, e2⟩
    · rw [List.getElem?_set_self (by rw [R3.len]; exact hl)] at w
      cases w
      exact hne
    · rw [List.getElem?_set_ne (Ne.symm ne), (R3.own l es e2).1] at w
      have w2 : M2 l = M3 l := by injection w with w; injection w with w; injection w
      rw [← w2]
      exact t6 l es e2⟩
  exact ⟨_, _, rfl, q _ H2 F2 P2 M4 (m1.trans m2) R5⟩
/-- a comprehension whose turns draw: the store after i turns is S i -/
def TurnS (c' : Ctx) (tg elt : Expr) (E : List (Option Sv)) (vs : List Nat) (S S' : List SObj) (x y : PyData) : Prop :=
  ∃ t js w, Tg c' tg x ⟨wipeE E vs, S⟩ t js ∧ js.all (fun j => vs.contains j) = true ∧ wipeE t.E vs = wipeE E vs ∧ Ev c' elt t (.dat y) w ∧ wipeE w.E vs = wipeE E vs ∧ w.S = S'
theorem turn_nameS {E : List (Option Sv)} {S S' : List SObj} {vs : List Nat} {x : Str} {d y : PyData} (i : Nat) (h1 : Tg c (.Name x pos) d ⟨wipeE E vs, S⟩ ⟨(wipeE E vs).set i (some (.dat d)), S⟩ [i])
    (h3 : Ev c elt ⟨(wipeE E vs).set i (some (.dat d)), S⟩ (.dat y) ⟨(wipeE E vs).set i (some (.dat d)), S'⟩) (hj : vs.contains i = true := by rfl) (hw : wipeE ((wipeE E vs).set i (some (.dat d))) vs = wipeE E vs := by rfl) :
    TurnS c (.Name x pos) elt E vs S S' d y := ⟨_, [i], _, h1, by simpa using hj, hw, h3, hw, rfl⟩
theorem ev_lcS {β : Type} (F : β → PyData) (own : List (Str × Nat)) (S : Nat → List SObj) (g : Nat → β) (hi : EvI c tg iter s xs s1) (hS : S 0 = s1.S)
    (ht : ∀ (i : Nat) x, xs[i]? = some x → TurnS (c.blk scope) tg elt s1.E (own.map (·.2)) (S i) (S (i + 1)) x (F (g i)))
    (hok : blkC c.N c.sc scope own = true := by (try dsimp only [ctxOf, Ctx.blk]); decide +kernel) (hv : (own.map (·.2)).all (fun i => !ownAt s1.E i) = true := by rfl) (hs : ∀ env x, foldedSetIterable iter env x = pure x := by intro _ _; rfl) :
    Ev c (.ListComp elt [⟨tg, iter, [], 0⟩] scope pos) s (.own (((List.range xs.length).map g).map F)) ⟨s1.E, S xs.length⟩ := by
  have h := ev_lc (pos := pos) (ifs := []) own S (fun i => ((List.range i).map g).map F) hi hS rfl (fun i x hx => by
    obtain ⟨t, js, w, h1, h2, h3, h4, h5, h6⟩ := ht i x hx
    refine ⟨t, js, true, t, h1, h2, ⟨rfl, rfl⟩, h3, fun _ => ⟨F (g i), w, h4, h5, h6, ?_⟩, fun z => by cases z⟩
    rw [List.range_succ, List.map_append, List.map_append]
    rfl) (fun i _ => by rw [List.length_map, List.length_map, List.length_range]; exact Nat.le_refl _) hok hv (by decide) hs
  exact h
theorem ex_lcS {β : Type} (F : β → PyData) (i : Nat) {x : Str} {py spos : Pos} (own : List (Str × Nat)) (S : Nat → List SObj) (g : Nat → β) (hi : EvI c tg iter s xs s1) (hS : S 0 = s1.S)
    (ht : ∀ (i : Nat) x, xs[i]? = some x → TurnS (c.blk scope) tg elt s1.E (own.map (·.2)) (S i) (S (i + 1)) x (F (g i)))
    (hok : blkC c.N c.sc scope own = true := by (try dsimp only [ctxOf, Ctx.blk]); decide +kernel) (hx : c.N[i]? = some x := by rfl) (hxl : c.sc.names.lookup x = some .local := by rfl) (hfk : c.sc.kind = .function := by rfl)
    (hln : (py.line == pos.line) = true := by rfl) (hnx : (scope.names.any fun (n, k) => n == x && (k == .local || k == .cell)) = false := by rfl)
    (hv : (own.map (·.2)).all (fun i => !ownAt s1.E i) = true := by rfl) (hs : ∀ env x, foldedSetIterable iter env x = pure x := by intro _ _; rfl) :
    Ex c (.Assign [.Name x py] (.ListComp elt [⟨tg, iter, [], 0⟩] scope pos) spos) s (.nx (AS.put ⟨s1.E, S xs.length⟩ i (.own (((List.range xs.length).map g).map F)))) := by
  have h := ex_setLc (pos := pos) (py := py) (spos := spos) (ifs := []) i own S (fun i => ((List.range i).map g).map F) hi hS rfl (fun i x hx => by
    obtain ⟨t, js, w, h1, h2, h3, h4, h5, h6⟩ := ht i x hx
    refine ⟨t, js, true, t, h1, h2, ⟨rfl, rfl⟩, h3, fun _ => ⟨F (g i), w, h4, h5, h6, ?_⟩, fun z => by cases z⟩
    rw [List.range_succ, List.map_append, List.map_append]
    rfl) (fun i _ => by rw [List.length_map, List.length_map, List.length_range]; exact Nat.le_refl _) hok hx hxl hfk hln hnx hv (by decide) hs
  exact h
theorem evl_lc (h : Ev c e s (.own xs) s1) : EvL c e s xs s1 := evl_own h
/-- one draw -/
theorem ev_tk {S0 : List SObj} {L : List Int} {n : Nat} {m : Int} {E : List (Option Sv)} {x : Str} {px : Pos} (C : Cal c.P c.w c.K c.mg c.base c.k "_law_take" R_take) (hL : okL L) (i : Nat) (h : Ev c e s (.dat (.int m)) ⟨E, S0 ++ [hd L n]⟩) (hm : 0 < m)
    (hs : s.E[i]? = some (some (.obj S0.length)) := by rfl) (hN : c.N[i]? = some x := by rfl) (hv : Vis c.sc x := by first | exact Or.inl rfl | exact Or.inr (Or.inl rfl) | exact Or.inr (Or.inr rfl))
    (hd1 : (x == ("__debug__" : Str)) = false := by decide) (hcd : (x == ("__classdict__" : Str)) = false := by decide) (hg : GlC c "_law_take" := by rfl)
    (he1 : ∀ env, starEach [.Name x px, e] env = (false, eval (.Name x px) env) :: starEach [e] env := by intro _; rfl) (he2 : ∀ env, starEach [e] env = (false, eval e env) :: starEach [] env := by intro _; rfl) 
    (hpl : ∀ env, (backTo pos (starEach [e] env)).any (·.1) = false := by intro _; rfl) :
    Ev c (.Call (.Name "_law_take" p) [.Name x px, e] [] pos) s (.dat (.int (tk L n m))) ⟨E, S0 ++ [hd L (n + 1)]⟩ :=
  ev_call C (eva_o (ev_obj i hs hN hv hd1 hcd) (eva_d h eva_nil he2) he1) ⟨S0, L, n, m, rfl, rfl, ⟨hL, hm⟩, rfl, rfl⟩ hg (by decide) he1 hpl
end
/-! ### ranges as values -/
def PRgC (X : Cx) (e : Expr) (t : St → Hp → (Int → Int → Int → Hp → Prop) → Prop) : Prop :=
  ∀ (pins : List (Addr × Obj)) (s : Shared) (σ : L2.St) (H : Hp) (Q : Int → Int → Int → Hp → Prop), Inv X pins σ H s → t σ H Q →
    wpAny (model X.prog X.w) X.A (eval e X.env) (fun x s' => ∃ r a b c t u v H', x = .ref r ∧ IsRange s'.heap r a b c t u v ∧ Inv X pins σ H' s' ∧ Q a b c H') X.xe s
def EvR (c : Ctx) (e : Expr) (s : AS) (i j k : Int) (s' : AS) : Prop := ∀ X, Good X c → ∃ te, PRgC X e te ∧ ∀ f σ H F P M (Q : Int → Int → Int → Hp → Prop), Rep X.K f s σ H F P M →
  (∀ H' F' P' M', Same F F' → P <+: P' → Rep X.K f s' σ H' F' P' M' → Q i j k H') → te σ H Q
theorem prgC_of {X : Cx} {e : Expr} {te : St → Hp → (Int → Int → Hp → Prop) → Prop} (h : PRg X e te) : PRgC X e (fun σ H Q => te σ H fun a b H1 => Q a b 1 H1) := fun pins s σ H Q I hh =>
  thn (h pins s σ H _ I hh) fun x s1 ⟨r, a, b, t, u, v, H1, e1, e2, e3, e4⟩ => ⟨r, a, b, 1, t, u, v, H1, e1, e2, e3, e4⟩
section
variable {c : Ctx} {s s1 s2 s3 : AS} {e a b d tg : Expr} {pos p : Pos} {i j k : Int}
theorem evr_1 (B : Bl c.mg) (h : Ev c a s (.dat (.int j)) s1) (hg : GlC c "range" := by rfl) (hs : ∀ env, starEach [a] env = [(false, eval a env)] := by intro _; rfl) : EvR c (.Call (.Name "range" p) [a] [] pos) s 0 j 1 s1 := fun X g =>
  ⟨_, prgC_of (prg_1 (g.gl hg) (by rw [g.mg]; exact B.range) peB (hs _)), fun f σ H F P M Q R q => h X g f σ H F P M _ R fun v H1 F1 P1 M1 m1 p1 R1 r1 => by
    cases r1
    exact ⟨j, rfl, q H1 F1 P1 M1 m1 p1 R1⟩⟩
theorem evr_2 (B : Bl c.mg) (h : Ev c a s (.dat (.int i)) s1) (h2 : Ev c b s1 (.dat (.int j)) s2) (hg : GlC c "range" := by rfl) (hs : ∀ env, starEach [a, b] env = (false, eval a env) :: starEach [b] env := by intro _; rfl) (hs2 : ∀ env, starEach [b] env = (false, eval b env) :: starEach [] env := by intro _; rfl)
    (hp : ∀ env, (backTo pos (starEach [b] env)).any (·.1) = false := by intro _; rfl) : EvR c (.Call (.Name "range" p) [a, b] [] pos) s i j 1 s2 := fun X g =>
  ⟨_, prgC_of (prg_2 (g.gl hg) (by rw [g.mg]; exact B.range) peB peB (hs _) (hs2 _) (hp _)), fun f σ H F P M Q R q => h X g f σ H F P M _ R fun v H1 F1 P1 M1 m1 p1 R1 r1 => by
    refine h2 X g f σ H1 F1 P1 M1 _ R1 fun u H2 F2 P2 M2 m2 p2 R2 r2 => ?_
    cases r1
    cases r2
    exact ⟨i, j, rfl, rfl, q H2 F2 P2 M2 (m1.trans m2) (p1.trans p2) R2⟩⟩
def tRg3 (ta : TA) (n : Nat) : St → Hp → (Int → Int → Int → Hp → Prop) → Prop := fun σ H Q => ta σ H fun vs H1 => ∃ i j c : Int, vs = [.int i, .int j, .int c] ∧ RgC i j c n ∧ Q i j c H1
theorem prg_3 {X : Cx} {a b c : Expr} {ta : TA} {n : Nat} {p pos : Pos} (hg : Gl X "range") (hm : X.mg "range" = none) (ha : PA X [a, b, c] ta)
    (hs : starEach [a, b, c] X.env = (false, eval a X.env) :: starEach [b, c] X.env) (hpl : (backTo pos (starEach [b, c] X.env)).any (·.1) = false) :
    PRgC X (.Call (.Name "range" p) [a, b, c] [] pos) (tRg3 ta n) := by
  intro pins s σ H Q I h
  refine Call_ (ld_blt I hg hm boot_range (PyProof.Rows.callWith_type1 (thn (ha.run pos pins s σ H _ I h) fun us s1 ⟨vs, H1, I1, r1, q1⟩ => ?_) hs hpl))
  obtain ⟨i, j, k, e, ⟨c0, c1, c2, c3⟩, q⟩ := q1
  subst e
  cases r1 with
  | cons r rr =>
    cases rr with
    | cons r' rr =>
      cases rr with
      | cons r'' rr =>
        cases rr
        obtain ⟨t, rfl⟩ := r
        obtain ⟨t', rfl⟩ := r'
        obtain ⟨t'', rfl⟩ := r''
        refine call_range_3 c0 ?_ (.inl (PyProof.noPylong_small c1))
        exact ⟨_, i, j, k, _, _, _, H1, rfl, IsRange.new _ _ _ _ _ _ _, I1.kept fun b u e => Heap.get?_push_of_some _ e, q⟩
theorem evr_3 {n : Nat} (B : Bl c.mg) (h : Ev c a s (.dat (.int i)) s1) (h2 : Ev c b s1 (.dat (.int j)) s2) (h3 : Ev c d s2 (.dat (.int k)) s3) (hk : RgC i j k n) (hg : GlC c "range" := by rfl) (hs : ∀ env, starEach [a, b, d] env = (false, eval a env) :: starEach [b, d] env := by intro _; rfl) 
    (hs2 : ∀ env, starEach [b, d] env = (false, eval b env) :: starEach [d] env := by intro _; rfl) (hs3 : ∀ env, starEach [d] env = (false, eval d env) :: starEach [] env := by intro _; rfl)
    (hp : ∀ env, (backTo pos (starEach [b, d] env)).any (·.1) = false := by intro _; rfl) : EvR c (.Call (.Name "range" p) [a, b, d] [] pos) s i j k s3 := fun X g =>
  ⟨_, prg_3 (n := n) (g.gl hg) (by rw [g.mg]; exact B.range) (pa_cons peB (pa_cons peB (pa_cons peB pa_nil (hs3 _)) (hs2 _)) (hs _)) (hs _) (hp _), fun f σ H F P M Q R q => h X g f σ H F P M _ R fun v H1 F1 P1 M1 m1 p1 R1 r1 => by
    refine h2 X g f σ H1 F1 P1 M1 _ R1 fun u H2 F2 P2 M2 m2 p2 R2 r2 => ?_
    refine h3 X g f σ H2 F2 P2 M2 _ R2 fun w H3 F3 P3 M3 m3 p3 R3 r3 => ?_
    cases r1
    cases r2
    cases r3
    exact ⟨i, j, k, rfl, hk, q H3 F3 P3 M3 ((m1.trans m2).trans m3) ((p1.trans p2).trans p3) R3⟩⟩
def rgC (i k : Int) (n : Nat) : List Int := (List.range n).map fun (m : Nat) => i + (m : Int) * k
def rgCV (i k : Int) (n : Nat) : List V := (List.range n).map fun (m : Nat) => V.int (i + (m : Int) * k)
theorem vals_rgC {a c : Int} {n : Nat} {acc : Array Value} (h : ItemsOf (fun i v => ∃ t, v = .int (a + i * c) t) acc n) : Vals (rgCV a c n) acc.toList := by
  have e : acc.toList.length = n := by rw [Array.length_toList]; exact h.1
  unfold rgCV
  rw [← e]
  refine vals_of_get acc.toList _ fun j u hj => ?_
  obtain ⟨t, rfl⟩ := h.2 j u (by rw [← hj, Array.getElem?_toList])
  exact ⟨t, rfl⟩
def tTupRgC (te : St → Hp → (Int → Int → Int → Hp → Prop) → Prop) (n : Nat) : TE := fun σ H Q => te σ H fun a b c H1 => RgC a b c n ∧ n ≤ 16777216 ∧ ∀ q, H1 q = none → Q (.ref q) (upd H1 q (.tup (rgCV a c n)))
theorem pe_tupRgC {X : Cx} {e : Expr} {te : St → Hp → (Int → Int → Int → Hp → Prop) → Prop} {n : Nat} {p pos : Pos} (hc : X.calm = true) (hg : Gl X "tuple") (hm : X.mg "tuple" = none) (he : PRgC X e te) (na : starEach [e] X.env = (false, eval e X.env) :: starEach [] X.env) : PE X (.Call (.Name "tuple" p) [e] [] pos) (tTupRgC te n) := by
  refine ⟨fun pins s σ H Q I h => ?_⟩
  refine Call_ (ld_blt I hg hm boot_tuple (PyProof.Rows.callWith_type1 (args_cons (thn (he pins s σ H _ I h) fun x s1 ⟨r, a, b, c, t, u, v, H1, ex, hr, I1, ok, hn, q⟩ => args_nil ?_) na) na))
  subst ex
  obtain ⟨c0, c1, c2, c3⟩ := ok
  refine call_tuple_range (n := n) (I1.ok.hd hc) hr c2 c3 hn fun h' tk acc hk hi => ?_
  have I2 : Inv X pins σ H1 { s1 with heap := h', toks := tk } := I1.kept hk
  refine ⟨.ref h'.objs.size, upd H1 h'.objs.size (.tup (rgCV a c n)), I2.laid (t' := tk) (fun c o e => Heap.get?_push_of_some _ e) (Nat.le_refl _) (show ObjOk X.prog X.w _ _ _ (.tup (rgCV a c n)) from ⟨?_, acc.toList, vals_rgC hi, ?_⟩), rfl, q _ (I2.hok.fresh (Nat.le_refl _))⟩
  · unfold rgCV; rw [List.length_map, List.length_range, sizeLine_eq]; omega
  · rw [Array.toArray_toList]; exact IsTup.new _ _
theorem ev_tupleR {n : Nat} (B : Bl c.mg) (h : EvR c e s i j k s1) (hk : RgC i j k n) (hn : n ≤ 16777216) (hg : GlC c "tuple" := by rfl) (he : ∀ env, starEach [e] env = (false, eval e env) :: starEach [] env := by intro _; rfl) :
    Ev c (.Call (.Name "tuple" p) [e] [] pos) s (.dat (tD iD (rgC i k n))) s1 := by
  intro X g f σ H F P M Q R q
  obtain ⟨te, h1, h2⟩ := h X g
  refine tB_of (pe_tupRgC (n := n) g.calm (g.gl hg) (by rw [g.mg]; exact B.tuple) h1 (he _)) ?_
  refine h2 f σ H F P M _ R fun H1 F1 P1 M1 m1 p1 R1 => ⟨hk, hn, ?_⟩
  refine (q.mono m1 p1).tup R1 ?_
  unfold rgC rgCV
  rw [List.map_map]
  exact dpa_map fun x _ => .int _
/-! ### texts repeated -/
theorem op_mulS {X : Cx} : OpR X (binaryOp .Mult) (fun x y H Q => ∃ (z : Str) (n : Int), x = .str z ∧ y = .int n ∧ (z.length ≤ 4096 ∧ 0 ≤ n ∧ n ≤ 4096) ∧ Q (.str (Txt.mul z n)) H) := by
  intro pins s σ H x y v u Q I rx ry h
  obtain ⟨z, n, rfl, rfl, hz, q⟩ := h
  obtain ⟨t, rfl⟩ := rx
  obtain ⟨t', rfl⟩ := ry
  refine PySem.SB.mul (mulOk_of 4096 4096 hz.1 (by omega) (by omega) (by decide) (by decide)) fun t2 k => ?_
  exact ⟨.str (Txt.mul z n), H, I.kept fun b u e => e, ⟨_, rfl⟩, q⟩
theorem rep_arr (z : List Nat) : ∀ (k : Nat) (acc : Array Nat), ((List.replicate k z.toArray).foldl (· ++ ·) acc).toList = acc.toList ++ (List.replicate k z).flatten
  | 0, acc => by simp
  | k + 1, acc => by
    rw [List.replicate_succ, List.foldl_cons, rep_arr z k, List.replicate_succ, List.flatten_cons, Array.toList_append, List.append_assoc]
theorem mul_sD (z : List Nat) {n : Int} (h : 0 ≤ n) : Txt.mul ⟨z.toArray⟩ n = ⟨(List.replicate n.toNat z).flatten.toArray⟩ := by
  unfold Txt.mul
  by_cases h1 : n < 1
  · have : n = 0 := by omega
    subst this
    rfl
  · rw [if_neg h1]
    split
    · next h2 =>
      simp at h2
      rcases h2 with h2 | h2
      · subst h2; simp
      · have : z = [] := by cases z with | nil => rfl | cons _ _ => simp [Str.length] at h2
        subst this
        simp
    · have := rep_arr z n.toNat #[]
      rw [show (#[] : Array Nat).toList = [] from rfl, List.nil_append] at this
      rw [← this, Array.toArray_toList]
theorem ev_mulSL {z : List Nat} {n : Int} (ha : Ev c a s (.dat (sD z)) s1) (hb : Ev c b s1 (.dat (.int n)) s2) (hz : z.length ≤ 4096 ∧ 0 ≤ n ∧ n ≤ 4096) : Ev c (.BinOp a .Mult b pos) s (.dat (sD (List.replicate n.toNat z).flatten)) s2 := by
  have h : Ev c (.BinOp a .Mult b pos) s (.dat (.str (Txt.mul ⟨z.toArray⟩ n))) s2 :=
    ev_op (rr := fun X => fun x y H Q => ∃ (z : Str) (n : Int), x = .str z ∧ y = .int n ∧ (z.length ≤ 4096 ∧ 0 ≤ n ∧ n ≤ 4096) ∧ Q (.str (Txt.mul z n)) H) (fun X g => op_mulS) ha hb fun X g f σ H F P M v u Q kn R r1 r2 q => by
      cases r1
      cases r2
      exact ⟨_, n, rfl, rfl, by rw [len_list]; exact hz, q.same R (.str _)⟩
  rw [mul_sD z hz.2.1] at h
  exact h
end
/-! ### shuffles -/
theorem erase_map {α β : Type} (f : α → β) : ∀ (xs : List α) (i : Nat), (xs.map f).eraseIdx i = (xs.eraseIdx i).map f
  | [], _ => rfl
  | _ :: _, 0 => rfl
  | x :: xs, i + 1 => by
    show f x :: (xs.map f).eraseIdx i = f x :: (xs.eraseIdx i).map f
    rw [erase_map f xs i]
/-- what a shuffle leaves and has put in the row, after i turns -/
def shN {α : Type} [Inhabited α] (L : List Int) (n : Nat) (xs : List α) : Nat → List α × List α
  | 0 => (xs, [])
  | i + 1 =>
    let q := shN L n xs i
    let t := (tk L (n + i) q.1.length).toNat
    (q.1.eraseIdx t, q.2 ++ [q.1.getD t default])
def shuf {α : Type} [Inhabited α] (L : List Int) (n : Nat) (xs : List α) : List α := (shN L n xs xs.length).2
theorem shN_perm {α : Type} [Inhabited α] (L : List Int) (n : Nat) (xs : List α) : ∀ i, i ≤ xs.length → (shN L n xs i).1.length = xs.length - i ∧ (shN L n xs i).2.length = i ∧ ((shN L n xs i).1 ++ (shN L n xs i).2).Perm xs
  | 0, _ => ⟨rfl, rfl, by simp [shN]⟩
  | i + 1, h => by
    obtain ⟨h1, h2, h3⟩ := shN_perm L n xs i (by omega)
    have hpos : 0 < (shN L n xs i).1.length := by omega
    have ht : (tk L (n + i) ((shN L n xs i).1.length : Nat)).toNat < (shN L n xs i).1.length := by
      have := tk_lt (L := L) (n := n + i) (m := ((shN L n xs i).1.length : Nat)) (by omega)
      omega
    show ((shN L n xs i).1.eraseIdx _).length = _ ∧ ((shN L n xs i).2 ++ [_]).length = _ ∧ List.Perm ((shN L n xs i).1.eraseIdx _ ++ ((shN L n xs i).2 ++ [_])) xs
    refine ⟨by rw [List.length_eraseIdx, if_pos ht]; omega, by rw [List.length_append, h2]; rfl, ?_⟩
    refine List.Perm.trans ?_ h3
    generalize (shN L n xs i).1 = l at *
    generalize (shN L n xs i).2 = r at *
    generalize (tk L (n + i) (l.length : Nat)).toNat = t at *
    have e : l.getD t default = l[t] := by rw [List.getD_eq_getElem?_getD, List.getElem?_eq_getElem ht]; rfl
    rw [e, List.eraseIdx_eq_take_drop_succ]
    have e2 : l = l.take t ++ l[t] :: l.drop (t + 1) := by rw [← List.drop_eq_getElem_cons ht, List.take_append_drop]
    conv => rhs; rw [e2]
    rw [List.append_assoc, List.append_assoc, List.cons_append]
    refine List.Perm.append_left _ ?_
    rw [← List.append_assoc]
    exact List.perm_append_singleton _ _
theorem shuf_perm {α : Type} [Inhabited α] (L : List Int) (n : Nat) (xs : List α) : (shuf L n xs).Perm xs := by
  obtain ⟨h1, h2, h3⟩ := shN_perm L n xs xs.length (Nat.le_refl _)
  have e : (shN L n xs xs.length).1 = [] := List.eq_nil_of_length_eq_zero (by omega)
  rw [e, List.nil_append] at h3
  exact h3
abbrev R_shuffled {α : Type} [Inhabited α] (F : α → PyData) : DRel := fun rs S r S' => ∃ (S0 : List SObj) (L : List Int) (n : Nat) (xs : List α), (rs = [.obj S0.length, .dat (lD F xs)] ∨ rs = [.obj S0.length, .dat (tD F xs)]) ∧ S = S0 ++ [hd L n] ∧ (okL L ∧ xs.length ≤ 100000) ∧ r = .dat (tD F (shuf L n xs)) ∧ S' = S0 ++ [hd L (n + xs.length)]
abbrev R_inI : DRel := fun rs S r S' => ∃ xs ys : List Int, rs = [.dat (tD iD xs), .dat (tD iD ys)] ∧ r = .dat (.bool (xs.all fun x => decide (x ∈ ys))) ∧ S' = S
end SL

/-! SL, the sixteenth part: loops and calls where only that there is a state is known; _law_is of what is equal. -/
namespace SL
open PySem PySem.Spec PyProof.Rows L2
section
variable {c : Ctx} {s s1 s2 s3 : AS} {e a b tg iter elt : Expr} {pos p : Pos} {xs : List PyData} {body rest : List Stmt} {o : Out}
/-- a for that keeps I -/
theorem exs_forI (I : Nat → AS → Prop) (hi : EvI c tg iter s xs s1) (h0 : ∃ s0, Wk s1 s0 ∧ I 0 s0)
    (hs : ∀ (i : Nat) x t, xs[i]? = some x → I i t → ∃ t', I (i + 1) t' ∧ Turn1 c tg body t x (.nx t'))
    (hn : ∀ t, I xs.length t → Exs c rest t o)
    (hfs : ∀ env x, foldedSetIterable iter env x = pure x := by intro _ _; rfl) : Exs c (.For tg iter body [] pos :: rest) s o := by
  classical
  obtain ⟨s0, w0, i0⟩ := h0
  let nxt : Nat → AS → AS := fun i t => if h : ∃ t', I (i + 1) t' ∧ ∀ x, xs[i]? = some x → Turn1 c tg body t x (.nx t') then Classical.choose h else t
  let G : Nat → AS := fun i => Nat.rec s0 (fun i t => nxt i t) i
  have hG0 : G 0 = s0 := rfl
  have hGS : ∀ i, G (i + 1) = nxt i (G i) := fun i => rfl
  have step : ∀ i x, xs[i]? = some x → I i (G i) → I (i + 1) (G (i + 1)) ∧ Turn1 c tg body (G i) x (.nx (G (i + 1))) := fun i x hx h => by
    obtain ⟨t', q1, q2⟩ := hs i x (G i) hx h
    have hh : ∃ t', I (i + 1) t' ∧ ∀ x, xs[i]? = some x → Turn1 c tg body (G i) x (.nx t') := ⟨t', q1, fun y hy => by rw [hx] at hy; cases hy; exact q2⟩
    rw [hGS]
    show I (i + 1) (if h : _ then _ else _) ∧ Turn1 c tg body (G i) x (.nx (if h : _ then _ else _))
    rw [dif_pos hh]
    obtain ⟨r1, r2⟩ := Classical.choose_spec hh
    exact ⟨r1, r2 x hx⟩
  have inv : ∀ i, i ≤ xs.length → I i (G i) := by
    intro i
    induction i with
    | zero => intro _; exact i0
    | succ i ih =>
      intro h
      have hx : xs[i]? = some xs[i] := List.getElem?_eq_getElem (by omega)
      exact (step i _ hx (ih (by omega))).1
  exact exs_for G hi w0 (fun i x hx => (step i x hx (inv i (Nat.le_of_lt (List.getElem?_eq_some_iff.mp hx).1))).2) (hn _ (inv _ (Nat.le_refl _))) hfs
/-! ### calls whose answer is only known to be -/
end
/-- the relation that picks what there is -/
def pick (Pre : List Sv → List SObj → Prop) (Post : List Sv → List SObj → Sv → List SObj → Prop) (h : ∀ rs S, Pre rs S → ∃ r S', Post rs S r S') : DRel := fun rs S r S' => ∃ hp : Pre rs S, r = Classical.choose (h rs S hp) ∧ S' = Classical.choose (Classical.choose_spec (h rs S hp))
theorem pick_post {Pre : List Sv → List SObj → Prop} {Post : List Sv → List SObj → Sv → List SObj → Prop} {h : ∀ rs S, Pre rs S → ∃ r S', Post rs S r S'} {rs : List Sv} {S : List SObj} {r : Sv} {S' : List SObj} (x : pick Pre Post h rs S r S') : Post rs S r S' := by
  obtain ⟨hp, rfl, rfl⟩ := x
  exact Classical.choose_spec (Classical.choose_spec (h rs S hp))
theorem pick_pre {Pre : List Sv → List SObj → Prop} {Post : List Sv → List SObj → Sv → List SObj → Prop} {h : ∀ rs S, Pre rs S → ∃ r S', Post rs S r S'} {rs : List Sv} {S : List SObj} {r : Sv} {S' : List SObj} (x : pick Pre Post h rs S r S') : Pre rs S := x.1
/-- a def that may be called; of its answer Post is known -/
def CalE (P : Program) (w : World) (K : PySem.W.Frag) (mg : Str → Option Value) (base : Heap) (k : Nat) (x : Str) (Pre : List Sv → List SObj → Prop) (Post : List Sv → List SObj → Sv → List SObj → Prop) : Prop :=
  ∃ R, Cal P w K mg base k x R ∧ ∀ rs S, Pre rs S → ∃ r S', R rs S r S' ∧ Post rs S r S'
section
variable {P : Program} {w : World} {K : PySem.W.Frag} {mg : Str → Option Value} {base h : Heap}
theorem calE_mk {x : Str} {st : Stmt} {N ps : List Str} {k : Nat} {Pre : List Sv → List SObj → Prop} {Post : List Sv → List SObj → Sv → List SObj → Prop} (X : K.In h) (G : h.Ns mainGlobals mg) (D : DefF K x st) (b : BindF x st ps) (S : FnScope N ps (defScope st)) (hl : ∀ rs S, Pre rs S → rs.length = ps.length)
    (hb : ∀ rs S, Pre rs S → ∃ r S', Post rs S r S' ∧ S.length ≤ S'.length ∧ okR S'.length r ∧ ∃ J, Exs (ctxOf P w K mg base N (defScope st) k) (defBody st) ⟨rs.map some ++ List.replicate (N.length - rs.length) none, S⟩ (.rt r (S' ++ J))) : CalE P w K mg base (k + 1) x Pre Post :=
  ⟨pick Pre (fun rs S r S' => Post rs S r S' ∧ S.length ≤ S'.length ∧ okR S'.length r ∧ ∃ J, Exs (ctxOf P w K mg base N (defScope st) k) (defBody st) ⟨rs.map some ++ List.replicate (N.length - rs.length) none, S⟩ (.rt r (S' ++ J))) hb,
    cal_mk X G D b S (fun rs S r S' hh => hl rs S (pick_pre hh)) (fun rs S r S' hh => (pick_post hh).2), fun rs S hp => ⟨_, _, ⟨hp, rfl, rfl⟩, (pick_post (h := hb) ⟨hp, rfl, rfl⟩).1⟩⟩
end
/-! ### _law_is of what is equal -/
theorem isDs_refl : ∀ ds : List PyData, (∀ d ∈ ds, isD d d = true) → isDs ds ds = true
  | [], _ => rfl
  | d :: ds, h => by
    rw [isDs, h d List.mem_cons_self, isDs_refl ds fun e he => h e (List.mem_cons_of_mem _ he)]
    rfl
theorem isD_refl {n : Nat} {d : PyData} (h : okP n d) : isD d d = true := by
  induction h with
  | none => rw [isD]; rfl
  | bool b => rw [isD]; simp
  | int i => rw [isD]; simp
  | str x hx => rw [isD]; simp
  | tuple ds h hl ih => rw [isD]; simp [isDs_refl ds ih]
theorem okP_up {n : Nat} {d : PyData} (h : okP n d) : okP (n + 1) d := by
  induction h with
  | none => exact .none
  | bool b => exact .bool b
  | int i => exact .int i
  | str x hx => exact .str x hx
  | tuple ds h hl ih => exact .tuple ds ih hl
theorem okP_s {n : Nat} {x : List Nat} (h : okS x) : okP n (sD x) := .str _ (by rw [cps_list]; exact h)
theorem okP_t {α : Type} {n : Nat} {F : α → PyData} {xs : List α} (h : ∀ x ∈ xs, okP n (F x)) (hl : xs.length ≤ 100000) : okP (n + 1) (tD F xs) := .tuple _ (fun d hd => by
  obtain ⟨x, hx, rfl⟩ := List.mem_map.mp hd
  exact h x hx) (by rw [List.length_map]; exact hl)
theorem okP_ti {n : Nat} {xs : List Int} (hl : xs.length ≤ 100000) : okP (n + 1) (tD iD xs) := okP_t (fun x _ => .int x) hl
theorem okP_o {α : Type} {n : Nat} {F : α → PyData} {o : Option α} (h : ∀ x, okP n (F x)) : okP n (oD F o) := by
  cases o with
  | none => exact .none
  | some x => exact h x
section
variable {c : Ctx} {s s1 s2 s3 : AS} {e a b tg iter elt : Expr} {pos p : Pos}
theorem ev_isT {n : Nat} {v d : PyData} (C : Cal c.P c.w c.K c.mg c.base c.k "_law_is" (R_is n)) (ha : Ev c a s (.dat v) s1) (hb : Ev c b s1 (.dat d) s2) (ok : okP n v) (e : v = d) (hg : GlC c "_law_is" := by rfl)
    (he1 : ∀ env, starEach [a, b] env = (false, eval a env) :: starEach [b] env := by intro _; rfl) (he2 : ∀ env, starEach [b] env = (false, eval b env) :: starEach [] env := by intro _; rfl)
    (hpl : ∀ env, (backTo pos (starEach [b] env)).any (·.1) = false := by intro _; rfl) :
    Ev c (.Call (.Name "_law_is" p) [a, b] [] pos) s (.dat (.bool true)) s2 :=
  ev_call C (eva_d ha (eva_d hb eva_nil he2) he1) ⟨v, d, rfl, ⟨ok, e ▸ ok⟩, by subst e; rw [isD_refl ok], rfl⟩ hg (by decide) he1 hpl
/-! ### more compares -/
theorem ev_neB {k l : Bool} (ha : Ev c a s (.dat (.bool k)) s1) (hb : Ev c b s1 (.dat (.bool l)) s2) : Ev c (.Compare a [.NotEq] [b] pos) s (.dat (.bool (k != l))) s2 := ev_conv (ev_ne ha hb rfl rfl) (by cases k <;> cases l <;> rfl)
theorem ev_eqB {k l : Bool} (ha : Ev c a s (.dat (.bool k)) s1) (hb : Ev c b s1 (.dat (.bool l)) s2) : Ev c (.Compare a [.Eq] [b] pos) s (.dat (.bool (k == l))) s2 := ev_conv (ev_eq ha hb rfl rfl) (by simp [PyData.eqv])
theorem tst_neB {k l : Bool} (ha : Ev c a s (.dat (.bool k)) s1) (hb : Ev c b s1 (.dat (.bool l)) s2) : Tst c (.Compare a [.NotEq] [b] pos) s (k != l) s2 := tst_conv (tst_ne ha hb rfl rfl) (by cases k <;> cases l <;> rfl)
theorem tst_eqB {k l : Bool} (ha : Ev c a s (.dat (.bool k)) s1) (hb : Ev c b s1 (.dat (.bool l)) s2) : Tst c (.Compare a [.Eq] [b] pos) s (k == l) s2 := tst_conv (tst_eq ha hb rfl rfl) (by simp [PyData.eqv])
theorem ev_eqOI {o : Option Int} {j : Int} (ha : Ev c a s (.dat (oD iD o)) s1) (hb : Ev c b s1 (.dat (.int j)) s2) : Ev c (.Compare a [.Eq] [b] pos) s (.dat (.bool (decide (o = some j)))) s2 :=
  ev_conv (ev_eq ha hb (by cases o <;> rfl) rfl) (by cases o <;> simp [PyData.eqv, oD, iD, Bool.beq_eq_decide_eq])
theorem tst_eqSL {x y : List Nat} (ha : Ev c a s (.dat (sD x)) s1) (hb : Ev c b s1 (.dat (sD y)) s2) (hx : okS x) (hy : okS y) : Tst c (.Compare a [.Eq] [b] pos) s (decide (x = y)) s2 :=
  tst_conv (tst_eq ha hb (shp_s hx) (shp_s hy)) (str_beq x y)
theorem tst_neSL {x y : List Nat} (ha : Ev c a s (.dat (sD x)) s1) (hb : Ev c b s1 (.dat (sD y)) s2) (hx : okS x) (hy : okS y) : Tst c (.Compare a [.NotEq] [b] pos) s (!decide (x = y)) s2 :=
  tst_conv (tst_ne ha hb (shp_s hx) (shp_s hy)) (congrArg Bool.not (str_beq x y))
/-- target = e, of data; where the stores are not swapped by the scope -/
theorem ex_asgC {tg : Expr} {d : PyData} (h : Ev c e s (.dat d) s1) {js : List Nat} (ht : Tg c tg d s1 s2 js) (hw : ∀ env : Env, env.scope = c.sc → swappedStores [tg] e env = pure none) (hs : ∀ env, swapsWithSole [tg] e pos.line env = pure false := by intro _; rfl)
    (h1 : ∀ env, (assignEach [tg] env).map (·.2) = [assign tg env] := by intro _; rfl) : Ex c (.Assign [tg] e pos) s (.nx s2) := by
  intro X g f σ H F P M D R q
  refine tBS_of (ps_asg peB pgB (hs _) (hw _ g.sc) (h1 _)) ?_
  refine h X g f σ H F P M _ R fun v H1 F1 P1 M1 m1 p1 R1 r1 => ?_
  exact ht X g f σ H1 F1 P1 M1 v _ R1 r1 fun σ2 _ _ R2 => q σ2 H1 F1 P1 M1 m1 R2
/-- comprehensions over a range whose turns draw -/
theorem ev_lcR {β : Type} {scope : Scope} {N : Nat} (F : β → PyData) (own : List (Str × Nat)) (S : Nat → List SObj) (g : Nat → β) (hi : EvI c tg iter s ((List.range N).map nD) s1) (hS : S 0 = s1.S)
    (ht : ∀ i, i < N → TurnS (c.blk scope) tg elt s1.E (own.map (·.2)) (S i) (S (i + 1)) (nD i) (F (g i)))
    (hok : blkC c.N c.sc scope own = true := by (try dsimp only [ctxOf, Ctx.blk]); decide +kernel) (hv : (own.map (·.2)).all (fun i => !ownAt s1.E i) = true := by rfl) (hs : ∀ env x, foldedSetIterable iter env x = pure x := by intro _ _; rfl) :
    Ev c (.ListComp elt [⟨tg, iter, [], 0⟩] scope pos) s (.own (((List.range N).map g).map F)) ⟨s1.E, S N⟩ := by
  have h := ev_lcS (pos := pos) F own S g hi hS (fun i x hx => by
    have hi := (List.getElem?_eq_some_iff.mp hx).1
    rw [List.length_map, List.length_range] at hi
    rw [List.getElem?_map, List.getElem?_range hi] at hx
    cases hx
    exact ht i hi) hok hv hs
  rw [List.length_map, List.length_range] at h
  exact h
/-- over a list whose turns draw -/
theorem ev_lcA {α β : Type} {scope : Scope} {en : α → PyData} {as : List α} (F : β → PyData) (own : List (Str × Nat)) (S : Nat → List SObj) (g : Nat → β) (hi : EvI c tg iter s (as.map en) s1) (hS : S 0 = s1.S)
    (ht : ∀ i a, as[i]? = some a → TurnS (c.blk scope) tg elt s1.E (own.map (·.2)) (S i) (S (i + 1)) (en a) (F (g i)))
    (hok : blkC c.N c.sc scope own = true := by (try dsimp only [ctxOf, Ctx.blk]); decide +kernel) (hv : (own.map (·.2)).all (fun i => !ownAt s1.E i) = true := by rfl) (hs : ∀ env x, foldedSetIterable iter env x = pure x := by intro _ _; rfl) :
    Ev c (.ListComp elt [⟨tg, iter, [], 0⟩] scope pos) s (.own (((List.range as.length).map g).map F)) ⟨s1.E, S as.length⟩ := by
  have h := ev_lcS (pos := pos) F own S g hi hS (fun i x hx => by
    rw [List.getElem?_map] at hx
    cases e : as[i]? with
    | none => rw [e] at hx; cases hx
    | some a => rw [e] at hx; cases hx; exact ht i a e) hok hv hs
  rw [List.length_map] at h
  exact h
/-- «if not x: return False» where x holds -/
theorem exs_pass {t : Expr} {u rest : List Stmt} {o : Out} (h : Tst c t s true s1) (h2 : Exs c rest s1 o) : Exs c (.If (.UnaryOp .Not t p) u [] pos :: rest) s o := exs_ifF (tst_conv (tst_not h) rfl) h2
theorem exs_skip {t : Expr} {k : Bool} {u rest : List Stmt} {o : Out} (h : Tst c t s k s1) (e : k = false) (h2 : Exs c rest s1 o) : Exs c (.If t u [] pos :: rest) s o := exs_ifF (tst_conv h e) h2
end
/-! ### ranges with a step above nought -/
theorem rsz_pos {a b k : Int} {n : Nat} (hk : 0 < k) (e1 : ((n : Int) - 1) * k < b - a) (e2 : b - a ≤ n * k) (hn : 0 < n) : Builtin.Range.rangeSize a b k = n := by
  unfold Builtin.Range.rangeSize
  have h0 : 0 ≤ ((n : Int) - 1) * k := Int.mul_nonneg (by omega) (Int.le_of_lt hk)
  rw [if_pos hk, if_pos (by omega)]
  have h1 : (n : Int) - 1 ≤ (b - a - 1) / k := (Int.le_ediv_iff_mul_le hk).mpr (by omega)
  have h2 : (b - a - 1) / k < n := (Int.ediv_lt_iff_lt_mul hk).mpr (by omega)
  omega
theorem small_pos {a b k : Int} {n : Nat} (hk : 0 < k) (hk2 : k < 1000000) (ha : -1000000 ≤ a ∧ a ≤ 1000000) (hb : -1000000 ≤ b ∧ b ≤ 1000000) (e : Builtin.Range.rangeSize a b k = n) (hn : n ≤ 1000000) : Builtin.Range.small a b k = true := by
  unfold Builtin.Range.small
  rw [e]
  have hk3 : k > 0 := hk
  rw [if_pos hk3]
  simp only [Builtin.Range.rangeFitsLong, Bool.and_eq_true, Bool.or_eq_true, decide_eq_true_eq, beq_iff_eq]
  omega
theorem rgC_ok {a b k : Int} {n : Nat} (hk : 0 < k) (hk2 : k < 1000000) (ha : -1000000 ≤ a ∧ a ≤ 1000000) (hb : -1000000 ≤ b ∧ b ≤ 1000000) (e1 : ((n : Int) - 1) * k < b - a) (e2 : b - a ≤ n * k) (hn : 0 < n) (hn2 : n ≤ 1000000) : RgC a b k n :=
  ⟨by omega, by omega, small_pos hk hk2 ha hb (rsz_pos hk e1 e2 hn) hn2, rsz_pos hk e1 e2 hn⟩
/-! ### runs of which only what holds behind them is known -/
def ExE (c : Ctx) (st : List Stmt) (s : AS) (Q : Out → Prop) : Prop := ∃ o, Q o ∧ Exs c st s o
section
variable {c : Ctx} {s s1 s2 s3 : AS} {e a b tg iter elt : Expr} {st : Stmt} {pos p : Pos} {xs : List PyData} {body rest : List Stmt} {Q : Out → Prop}
theorem exe_of {o : Out} (h : Exs c rest s o) (q : Q o) : ExE c rest s Q := ⟨o, q, h⟩
theorem exe_nil {s' : AS} (w : Wk s s') (q : Q (.nx s')) : ExE c [] s Q := ⟨_, q, exs_wk exs_nil w⟩
theorem exe_cons (h : Ex c st s (.nx s1)) (h2 : ExE c rest s1 Q) : ExE c (st :: rest) s Q := by
  obtain ⟨o, q, x⟩ := h2
  exact ⟨o, q, exs_cons h x⟩
theorem exe_pre (w : Wk s s1) (h : ExE c rest s1 Q) : ExE c rest s Q := by
  obtain ⟨o, q, x⟩ := h
  exact ⟨o, q, exs_pre w x⟩
theorem exe_pass {t : Expr} {u : List Stmt} (h : Tst c t s true s1) (h2 : ExE c rest s1 Q) : ExE c (.If (.UnaryOp .Not t p) u [] pos :: rest) s Q := by
  obtain ⟨o, q, x⟩ := h2
  exact ⟨o, q, exs_pass h x⟩
theorem exe_skip {t : Expr} {k : Bool} {u : List Stmt} (h : Tst c t s k s1) (e : k = false) (h2 : ExE c rest s1 Q) : ExE c (.If t u [] pos :: rest) s Q := by
  obtain ⟨o, q, x⟩ := h2
  exact ⟨o, q, exs_skip h e x⟩
theorem exe_if2 {t : Expr} {k : Bool} {u v : List Stmt} (h : Tst c t s k s1) (h1 : k = true → ∃ s2, Exs c u s1 (.nx s2) ∧ ExE c rest s2 Q) (h2 : k = false → ∃ s2, Exs c v s1 (.nx s2) ∧ ExE c rest s2 Q) : ExE c (.If t u v pos :: rest) s Q := by
  cases k with
  | true =>
    obtain ⟨s2, x1, o, q, x2⟩ := h1 rfl
    exact ⟨o, q, exs_if2 h (fun _ => ⟨s2, x1, x2⟩) (fun z => by cases z)⟩
  | false =>
    obtain ⟨s2, x1, o, q, x2⟩ := h2 rfl
    exact ⟨o, q, exs_if2 h (fun z => by cases z) (fun _ => ⟨s2, x1, x2⟩)⟩
theorem exe_for (I : Nat → AS → Prop) (hi : EvI c tg iter s xs s1) (h0 : ∃ s0, Wk s1 s0 ∧ I 0 s0)
    (hs : ∀ (i : Nat) x t, xs[i]? = some x → I i t → ∃ u js, Tg c tg x t u js ∧ ExE c body u (fun o => ∃ t', o = .nx t' ∧ I (i + 1) t'))
    (hn : ∀ t, I xs.length t → ExE c rest t Q)
    (hfs : ∀ env x, foldedSetIterable iter env x = pure x := by intro _ _; rfl) : ExE c (.For tg iter body [] pos :: rest) s Q := by
  classical
  obtain ⟨s0, w0, i0⟩ := h0
  have hs' : ∀ (i : Nat) x t, xs[i]? = some x → I i t → ∃ t', I (i + 1) t' ∧ Turn1 c tg body t x (.nx t') := fun i x t hx it => by
    obtain ⟨u, js, h1, o, ⟨t', rfl, h2⟩, h3⟩ := hs i x t hx it
    exact ⟨t', h2, u, js, h1, h3⟩
  let nxt : Nat → AS → AS := fun i t => if h : ∃ t', I (i + 1) t' ∧ ∀ x, xs[i]? = some x → Turn1 c tg body t x (.nx t') then Classical.choose h else t
  let G : Nat → AS := fun i => Nat.rec s0 (fun i t => nxt i t) i
  have hGS : ∀ i, G (i + 1) = nxt i (G i) := fun i => rfl
  have step : ∀ i x, xs[i]? = some x → I i (G i) → I (i + 1) (G (i + 1)) ∧ Turn1 c tg body (G i) x (.nx (G (i + 1))) := fun i x hx h => by
    obtain ⟨t', q1, q2⟩ := hs' i x (G i) hx h
    have hh : ∃ t', I (i + 1) t' ∧ ∀ x, xs[i]? = some x → Turn1 c tg body (G i) x (.nx t') := ⟨t', q1, fun y hy => by rw [hx] at hy; cases hy; exact q2⟩
    rw [hGS]
    show I (i + 1) (if h : _ then _ else _) ∧ Turn1 c tg body (G i) x (.nx (if h : _ then _ else _))
    rw [dif_pos hh]
    obtain ⟨r1, r2⟩ := Classical.choose_spec hh
    exact ⟨r1, r2 x hx⟩
  have inv : ∀ i, i ≤ xs.length → I i (G i) := by
    intro i
    induction i with
    | zero => intro _; exact i0
    | succ i ih =>
      intro h
      have hx : xs[i]? = some xs[i] := List.getElem?_eq_getElem (by omega)
      exact (step i _ hx (ih (by omega))).1
  obtain ⟨o, q, x⟩ := hn _ (inv _ (Nat.le_refl _))
  exact ⟨o, q, exs_for G hi w0 (fun i x hx => (step i x hx (inv i (Nat.le_of_lt (List.getElem?_eq_some_iff.mp hx).1))).2) x hfs⟩
end
end SL

/-! k00: what the defs compute -/
namespace K00
open PySem PySem.Spec PyProof.Rows L2 SL
/-- boreholes: at most a thousand signs -/
def okB (a : List Nat) : Prop := a.length ≤ 1000 ∧ okS a
def agr (x y : List Nat) : Bool := decide (x = y) || decide ([63] ∈ [x, y])
def sbs (a b : List Nat) (d : Int) : List Int := ((List.range (a.length : Int).toNat).filter fun (i : Nat) => cB .LtE 0 (i + d) && cB .Lt (i + d) b.length).map fun (i : Nat) => (i : Int)
def wrong (a b : List Nat) (d : Int) : List Int := ((sbs a b d).filter fun i => !agr [a.getD i.toNat 0] [b.getD (i + d).toNat 0]).map fun i => i
def wit (a b : List Nat) (m d : Int) : Option Int := if ((sbs a b d).length : Int) < m then some (-1) else (wrong a b d).head?
def thr (a b : List Nat) (m : Int) : List Int := ((List.range ((b.length : Int) + 1 - -(a.length : Int)).toNat).filter fun (i : Nat) => (wit a b m (-(a.length : Int) + (i : Nat))).isNone).map fun (i : Nat) => (-(a.length : Int) + (i : Int))
abbrev R_agree : DRel := fun rs S r S' => ∃ x y, rs = [.dat (sD x), .dat (sD y)] ∧ (okS x ∧ okS y) ∧ r = .dat (.bool (agr x y)) ∧ S' = S
abbrev R_side_by_side : DRel := fun rs S r S' => ∃ a b d, rs = [.dat (sD a), .dat (sD b), .dat (iD d)] ∧ (a.length ≤ 1000 ∧ b.length ≤ 1000) ∧ r = .dat (lD iD (sbs a b d)) ∧ S' = S
abbrev R_witness : DRel := fun rs S r S' => ∃ a b m d, rs = [.dat (sD a), .dat (sD b), .dat (iD m), .dat (iD d)] ∧ (okB a ∧ okB b) ∧ r = .dat (oD iD (wit a b m d)) ∧ S' = S
abbrev R_throws : DRel := fun rs S r S' => ∃ a b m, rs = [.dat (sD a), .dat (sD b), .dat (iD m)] ∧ (okB a ∧ okB b) ∧ r = .dat (tD iD (thr a b m)) ∧ S' = S
theorem sbs_in {a b : List Nat} {d i : Int} (h : i ∈ sbs a b d) : (0 ≤ i ∧ i < a.length) ∧ 0 ≤ i + d ∧ i + d < b.length := by
  unfold sbs at h
  obtain ⟨j, hj, rfl⟩ := List.mem_map.mp h
  obtain ⟨h1, h2⟩ := List.mem_filter.mp hj
  have h1 := List.mem_range.mp h1
  simp [cB] at h2
  omega
theorem okS_get {a : List Nat} (h : okS a) (n : Nat) : okS [a.getD n 0] := by
  intro x hx
  rw [List.mem_singleton] at hx
  subst hx
  rw [List.getD_eq_getElem?_getD]
  cases e : a[n]? with
  | none => exact (by decide : (0 : Nat) < 1114112)
  | some y => exact h y (List.mem_of_getElem? e)
def slip (a b : List Nat) (m : Int) : Option Int := cond (decide (((thr a b m).length : Int) = 1)) (some ((thr a b m).getD 0 default)) none
def turns (r : List Nat) : List (List Nat) := (List.range (r.length : Int).toNat).map fun (k : Nat) => cutA r (some (k : Int)) none ++ cutA r none (some (k : Int))
def told (r : List Nat) : List Nat := bestL sLt (turns r)
def reps (r : List Nat) : Int := ((((turns r).filter fun t => decide (t = r)).map fun t => t).length : Int)
abbrev R_surely_slipped : DRel := fun rs S r S' => ∃ a b m, rs = [.dat (sD a), .dat (sD b), .dat (iD m)] ∧ (okB a ∧ okB b) ∧ r = .dat (oD iD (slip a b m)) ∧ S' = S
abbrev R_turns_of : DRel := fun rs S r S' => ∃ a, rs = [.dat (sD a)] ∧ okB a ∧ r = .dat (lD sD (turns a)) ∧ S' = S
abbrev R_told_turn : DRel := fun rs S r S' => ∃ a, rs = [.dat (sD a)] ∧ (okB a ∧ a ≠ []) ∧ r = .dat (sD (told a)) ∧ S' = S
abbrev R_repeats_of : DRel := fun rs S r S' => ∃ a, rs = [.dat (sD a)] ∧ okB a ∧ r = .dat (iD (reps a)) ∧ S' = S
abbrev R_places : DRel := fun rs S r S' => ∃ a b d, rs = [.dat (sD a), .dat (sD b), .dat (iD d)] ∧ (okB a ∧ okB b) ∧ r = .dat (.int (sbs a b d).length) ∧ S' = S
theorem okS_app {a b : List Nat} (h : okS a) (h2 : okS b) : okS (a ++ b) := fun x hx => (List.mem_append.mp hx).elim (h x) (h2 x)
theorem okS_cut {a : List Nat} (h : okS a) (lo hi : Option Int) : okS (cutA a lo hi) := fun x hx => h x (List.mem_of_mem_drop (List.mem_of_mem_take hx))
theorem cut_le {α : Type} (a : List α) (lo hi : Option Int) : (cutA a lo hi).length ≤ a.length := by
  unfold cutA
  rw [List.length_take, List.length_drop]
  omega
theorem turns_mem {r t : List Nat} (h : t ∈ turns r) : ∃ k : Nat, k < r.length ∧ t = cutA r (some (k : Int)) none ++ cutA r none (some (k : Int)) := by
  unfold turns at h
  obtain ⟨k, hk, rfl⟩ := List.mem_map.mp h
  exact ⟨k, by simpa using hk, rfl⟩
theorem turns_ok {r t : List Nat} (hr : okS r) (h : t ∈ turns r) : okS t := by
  obtain ⟨k, _, rfl⟩ := turns_mem h
  exact okS_app (okS_cut hr _ _) (okS_cut hr _ _)
theorem turns_ne {r : List Nat} (h : r ≠ []) : turns r ≠ [] := by
  unfold turns
  cases r with
  | nil => exact absurd rfl h
  | cons x xs => simp
theorem wrong_pos {a b : List Nat} {d i : Int} (h : i ∈ wrong a b d) : 0 ≤ i := by
  unfold wrong at h
  obtain ⟨j, hj, rfl⟩ := List.mem_map.mp h
  exact (sbs_in (List.mem_filter.mp hj).1).1.1
theorem wit_c1 {a b : List Nat} {m d : Int} (h : decide (((sbs a b d).length : Int) < m) = true) : PyData.int (-1) = oD iD (wit a b m d) := by
  unfold wit
  rw [if_pos (of_decide_eq_true h)]
  rfl
theorem wit_c2 {a b : List Nat} {m d : Int} (h : decide (((sbs a b d).length : Int) < m) = false) : oD iD (cond (!(wrong a b d).isEmpty) (some ((wrong a b d).getD (0 : Int).toNat default)) none) = oD iD (wit a b m d) := by
  unfold wit
  rw [if_neg (of_decide_eq_false h)]
  cases wrong a b d <;> rfl
theorem cut_two {a : List Nat} {l u l' u' : Option Int} (h : okB a) : (cutA a l u).length + (cutA a l' u').length ≤ 16777216 := by
  have h1 := cut_le a l u
  have h2 := cut_le a l' u'
  have h3 := h.1
  omega
theorem one_len {α : Type} {zs : List α} (h : decide ((zs.length : Int) = 1) = true) : 0 ≤ (0 : Int) ∧ (0 : Int) < zs.length := by
  have := of_decide_eq_true h
  omega
end K00

/-! k00: what the defs compute -/
namespace K00
open PySem PySem.Spec PyProof.Rows L2 SL
def sgn (L : List Int) (n : Nat) : List Nat := ([[97, 98, 63], [97, 98, 99], [97, 98, 99, 100, 63], [97, 98]] : List (List Nat)).getD (tk L n 4).toNat default
def okA (a : List Nat) : Prop := a.length ≤ 20 ∧ ∀ x ∈ a, x = 63 ∨ (97 ≤ x ∧ x ≤ 100)
theorem okA.okB {a : List Nat} (h : okA a) : okB a := ⟨Nat.le_trans h.1 (by decide), fun x hx => by rcases h.2 x hx with h | h <;> omega⟩
def dtext (L : List Int) (n k : Nat) (c : Int) : List Nat := ((List.range c.toNat).map fun i => [(sgn L n).getD (tk L (k + i) (sgn L n).length).toNat 0]).flatten
def N2 (L : List Int) (n : Nat) : Nat := n + 1 + 1 + (tk L (n + 1) 21).toNat
def N3 (L : List Int) (n : Nat) : Nat := N2 L n + 1 + (tk L (N2 L n) 21).toNat
def dr1 (L : List Int) (n : Nat) : List Nat := dtext L n (n + 1 + 1) (tk L (n + 1) 21)
def dr2 (L : List Int) (n : Nat) : List Nat := dtext L n (N2 L n + 1) (tk L (N2 L n) 21)
def drawn (L : List Int) (n : Nat) : (List Nat × List Nat) × Nat :=
  if 0 < tk L (N3 L n) 3 then ((dr1 L n, cutA (cutA (dr1 L n) (some (tk L (N3 L n + 1) ((dr1 L n).length + 1))) none ++ dr2 L n) none (some 20)), N3 L n + 1 + 1) else ((dr1 L n, dr2 L n), N3 L n + 1)
theorem sgn_in (L : List Int) (n : Nat) : sgn L n ∈ ([[97, 98, 63], [97, 98, 99], [97, 98, 99, 100, 63], [97, 98]] : List (List Nat)) := by
  have h := tk_lt (L := L) (n := n) (m := 4) (by decide)
  unfold sgn
  have : (tk L n 4).toNat < 4 := by omega
  generalize (tk L n 4).toNat = t at this
  have : t = 0 ∨ t = 1 ∨ t = 2 ∨ t = 3 := by omega
  rcases this with rfl | rfl | rfl | rfl <;> decide
theorem sgn_len (L : List Int) (n : Nat) : 0 < (sgn L n).length ∧ (sgn L n).length ≤ 16777216 := by
  have h := sgn_in L n
  generalize sgn L n = z at h
  simp at h
  rcases h with rfl | rfl | rfl | rfl <;> decide
theorem sgn_pos (L : List Int) (n : Nat) : (0 : Int) < ((sgn L n).length : Nat) := by have := (sgn_len L n).1; omega
theorem sgn_ok (L : List Int) (n : Nat) : ∀ x ∈ sgn L n, x = 63 ∨ (97 ≤ x ∧ x ≤ 100) := by
  have h := sgn_in L n
  generalize sgn L n = z at h
  simp at h
  rcases h with rfl | rfl | rfl | rfl <;> decide
theorem tk_small {L : List Int} {n : Nat} {m : Int} (h : 0 < m) (h2 : m ≤ 16777216) : tk L n m ≤ 16777216 := by have := tk_lt (L := L) (n := n) h; omega
theorem tk_low {L : List Int} {n : Nat} {m : Int} (h : 0 < m) : -4611686018427387904 ≤ tk L n m := by have := tk_lt (L := L) (n := n) h; omega
theorem flat_single {α : Type} (f : Nat → α) : ∀ ns : List Nat, (ns.map fun i => [f i]).flatten = ns.map f
  | [] => rfl
  | n :: ns => by rw [List.map_cons, List.flatten_cons, flat_single f ns]; rfl
theorem dtext_eq (L : List Int) (n k : Nat) (c : Int) : dtext L n k c = (List.range c.toNat).map fun i => (sgn L n).getD (tk L (k + i) (sgn L n).length).toNat 0 := flat_single _ _
theorem dtext_le (L : List Int) (n k j : Nat) : (dtext L n k (tk L j 21)).length ≤ 20 := by
  have := tk_lt (L := L) (n := j) (m := 21) (by decide)
  rw [dtext_eq, List.length_map, List.length_range]
  omega
theorem dtext_len (L : List Int) (n k j : Nat) {m : Int} (h : 0 < m) (h2 : m ≤ 16777216) : (((List.range (tk L j m).toNat).map fun i => [(sgn L n).getD (tk L (k + i) (sgn L n).length).toNat 0]).flatten).length ≤ 16777216 := by
  have := tk_lt (L := L) (n := j) h
  rw [flat_single, List.length_map, List.length_range]
  omega
theorem dtext_ok (L : List Int) (n k : Nat) (c : Int) : ∀ x ∈ dtext L n k c, x = 63 ∨ (97 ≤ x ∧ x ≤ 100) := by
  intro x hx
  rw [dtext_eq] at hx
  obtain ⟨i, hi, rfl⟩ := List.mem_map.mp hx
  have h := tk_lt (L := L) (n := k + i) (sgn_pos L n)
  have h2 : (tk L (k + i) (sgn L n).length).toNat < (sgn L n).length := by omega
  rw [List.getD_eq_getElem?_getD, List.getElem?_eq_getElem h2]
  exact sgn_ok L n _ (List.getElem_mem h2)
theorem d1_len (L : List Int) (n : Nat) : (dr1 L n).length ≤ 16777216 := Nat.le_trans (dtext_le _ _ _ _) (by decide)
theorem dr_len1 (L : List Int) (n : Nat) (t : Option Int) : (cutA (dr1 L n) t none).length + (dr2 L n).length ≤ 16777216 := by
  have h1 := cut_le (dr1 L n) t none
  have h2 := dtext_le L n (n + 1 + 1) (n + 1)
  have h3 := dtext_le L n (N2 L n + 1) (N2 L n)
  unfold dr1 dr2 at *
  omega
theorem dr_len2 (L : List Int) (n : Nat) (t : Option Int) : (cutA (dr1 L n) t none ++ dr2 L n).length ≤ 16777216 := by
  rw [List.length_append]; exact dr_len1 L n t
theorem cut_some {α : Type} (a : List α) (k : Nat) : (cutA a none (some (k : Int))).length ≤ k := by
  unfold cutA
  rw [List.length_take]
  refine Nat.le_trans (Nat.min_le_left _ _) ?_
  unfold HT.sIx
  show (if (k : Int) < 0 then _ else _) - _ ≤ k
  rw [if_neg (by omega)]
  have : min ((k : Int).toNat) a.length ≤ k := by omega
  omega
theorem drawn_ok (L : List Int) (n : Nat) : okA (drawn L n).1.1 ∧ okA (drawn L n).1.2 := by
  have a1 : okA (dr1 L n) := ⟨dtext_le _ _ _ _, dtext_ok _ _ _ _⟩
  have a2 : okA (dr2 L n) := ⟨dtext_le _ _ _ _, dtext_ok _ _ _ _⟩
  unfold drawn
  split
  · refine ⟨a1, cut_some _ 20, fun x hx => ?_⟩
    have hx := List.mem_of_mem_drop (List.mem_of_mem_take hx)
    rcases List.mem_append.mp hx with hx | hx
    · exact a1.2 x (List.mem_of_mem_drop (List.mem_of_mem_take hx))
    · exact a2.2 x hx
  · exact ⟨a1, a2⟩
abbrev R_drawn_pair : DRel := fun rs S r S' => ∃ (S0 : List SObj) (L : List Int) (n : Nat), rs = [.obj S0.length] ∧ S = S0 ++ [hd L n] ∧ okL L ∧ r = .dat (.tuple [sD (drawn L n).1.1, sD (drawn L n).1.2]) ∧ S' = S0 ++ [hd L (drawn L n).2]
end K00

/-! k00: the plain law of boreholes -/
namespace K00
open PySem PySem.Spec PyProof.Rows L2 SL
def irange (lo hi : Int) : List Int := (List.range (hi - lo).toNat).map fun (i : Nat) => lo + (i : Int)
theorem irange_mem {lo hi x : Int} : x ∈ irange lo hi ↔ lo ≤ x ∧ x < hi := by
  unfold irange
  rw [List.mem_map]
  constructor
  · rintro ⟨i, hi, rfl⟩
    have := List.mem_range.mp hi
    omega
  · intro h
    exact ⟨(x - lo).toNat, List.mem_range.mpr (by omega), by omega⟩
theorem irange_len (lo hi : Int) : (irange lo hi).length = (hi - lo).toNat := by unfold irange; rw [List.length_map, List.length_range]
theorem irange_get (lo hi : Int) (i : Nat) (h : i < (irange lo hi).length) : (irange lo hi)[i] = lo + (i : Int) := by
  simp [irange]
theorem irange_shift (lo hi d : Int) : irange (lo + d) (hi + d) = (irange lo hi).map (· + d) := by
  refine List.ext_getElem (by rw [List.length_map, irange_len, irange_len]; congr 1; omega) fun i h1 h2 => ?_
  rw [List.getElem_map, irange_get, irange_get]
  omega
theorem irange_rev (lo hi c : Int) : (irange lo hi).reverse.map (c - ·) = irange (c - hi + 1) (c - lo + 1) := by
  refine List.ext_getElem (by rw [List.length_map, List.length_reverse, irange_len, irange_len]; congr 1; omega) fun i h1 h2 => ?_
  rw [List.length_map, List.length_reverse, irange_len] at h1
  rw [List.getElem_map, List.getElem_reverse, irange_get, irange_get, irange_len]
  omega
theorem range_filter (lo hi : Nat) : ∀ n, (List.range n).filter (fun i => decide (lo ≤ i) && decide (i < hi)) = (List.range (min n hi - lo)).map (lo + ·)
  | 0 => by simp
  | n + 1 => by
    rw [List.range_succ, List.filter_append, range_filter lo hi n]
    by_cases h : lo ≤ n ∧ n < hi
    · have e : min (n + 1) hi - lo = (min n hi - lo) + 1 := by omega
      rw [e, List.range_succ, List.map_append]
      congr 1
      simp [h.1, h.2]
      omega
    · have e : min (n + 1) hi - lo = min n hi - lo := by omega
      rw [e]
      have : (decide (lo ≤ n) && decide (n < hi)) = false := by
        simp
        omega
      simp [List.filter_cons, this]
theorem sbs_eq (a b : List Nat) (d : Int) : sbs a b d = irange (max 0 (-d)) (min a.length (b.length - d)) := by
  unfold sbs irange
  rw [Int.toNat_natCast]
  have e : (List.range a.length).filter (fun (i : Nat) => cB .LtE 0 (i + d) && cB .Lt (i + d) b.length) = (List.range a.length).filter (fun i => decide ((max 0 (-d)).toNat ≤ i) && decide (i < (b.length - d).toNat)) := by
    refine List.filter_congr fun i _ => ?_
    show (decide (0 ≤ (i : Int) + d) && decide ((i : Int) + d < b.length)) = _
    congr 1
    · exact decide_eq_decide.mpr (by omega)
    · exact decide_eq_decide.mpr (by omega)
  rw [e, range_filter, List.map_map]
  have e2 : min a.length (b.length - d).toNat - (max 0 (-d)).toNat = (min (a.length : Int) (b.length - d) - max 0 (-d)).toNat := by omega
  rw [e2]
  refine List.map_congr_left fun i _ => ?_
  show (((max 0 (-d)).toNat + i : Nat) : Int) = _
  omega
theorem sbs_len (a b : List Nat) (d : Int) : (sbs a b d).length = (min (a.length : Int) (b.length - d) - max 0 (-d)).toNat := by rw [sbs_eq, irange_len]
theorem sbs_mem {a b : List Nat} {d i : Int} : i ∈ sbs a b d ↔ (0 ≤ i ∧ i < a.length) ∧ 0 ≤ i + d ∧ i + d < b.length := by
  rw [sbs_eq, irange_mem]; omega
theorem agr_comm (x y : List Nat) : agr x y = agr y x := by
  unfold agr
  congr 1
  · exact decide_eq_decide.mpr ⟨Eq.symm, Eq.symm⟩
  · exact decide_eq_decide.mpr (by simp [or_comm])
def at2 (a b : List Nat) (d i : Int) : Bool := agr [a.getD i.toNat 0] [b.getD (i + d).toNat 0]
def fits (a b : List Nat) (m d : Int) : Bool := decide (m ≤ ((sbs a b d).length : Int)) && (sbs a b d).all (at2 a b d)
theorem wrong_eq (a b : List Nat) (d : Int) : wrong a b d = (sbs a b d).filter fun i => !at2 a b d i := by
  unfold wrong
  rw [List.map_id']
  rfl
theorem filter_nil_all {α : Type} (p : α → Bool) : ∀ xs : List α, ((xs.filter fun x => !p x).head?).isNone = xs.all p
  | [] => rfl
  | x :: xs => by
    rw [List.filter_cons, List.all_cons]
    cases h : p x with
    | false => rfl
    | true => simpa using filter_nil_all p xs
theorem wit_none (a b : List Nat) (m d : Int) : (wit a b m d).isNone = fits a b m d := by
  unfold wit fits
  by_cases h : ((sbs a b d).length : Int) < m
  · rw [if_pos h, decide_eq_false (by omega)]; rfl
  · rw [if_neg h, decide_eq_true (by omega), Bool.true_and, wrong_eq, filter_nil_all]
theorem thr_eq (a b : List Nat) (m : Int) : thr a b m = (irange (-(a.length : Int)) (b.length + 1)).filter (fits a b m) := by
  unfold thr irange
  rw [List.filter_map]
  have e : (b.length : Int) + 1 - -(a.length : Int) = (b.length + 1) - -(a.length : Int) := rfl
  congr 1
  refine List.filter_congr fun i _ => ?_
  rw [wit_none]
  rfl
theorem thr_mem {a b : List Nat} {m d : Int} : d ∈ thr a b m ↔ (-(a.length : Int) ≤ d ∧ d ≤ b.length) ∧ fits a b m d = true := by
  rw [thr_eq, List.mem_filter, irange_mem]
  constructor
  · rintro ⟨h1, h2⟩; exact ⟨by omega, h2⟩
  · rintro ⟨h1, h2⟩; exact ⟨by omega, h2⟩
/-! ### exchange -/
theorem sbs_swap (a b : List Nat) (d : Int) : sbs b a (-d) = (sbs a b d).map (· + d) := by
  rw [sbs_eq, sbs_eq, ← irange_shift]
  congr 1 <;> omega
theorem at2_swap {a b : List Nat} {d i : Int} : at2 b a (-d) (i + d) = at2 a b d i := by
  unfold at2
  rw [agr_comm]
  congr 3
  omega
theorem fits_swap (a b : List Nat) (m d : Int) : fits b a m (-d) = fits a b m d := by
  unfold fits
  rw [sbs_swap, List.length_map, List.all_map]
  congr 2
  funext i
  exact at2_swap
theorem wrong_swap (a b : List Nat) (d : Int) : wrong b a (-d) = (wrong a b d).map (· + d) := by
  rw [wrong_eq, wrong_eq, sbs_swap, List.filter_map]
  congr 2
  funext i
  exact congrArg Bool.not at2_swap
theorem wit_swap (a b : List Nat) (m d : Int) : wit b a m (-d) = match wit a b m d with | none => none | some x => some (if x < 0 then x else x + d) := by
  unfold wit
  rw [sbs_swap, List.length_map]
  by_cases h : ((sbs a b d).length : Int) < m
  · rw [if_pos h, if_pos h]; rfl
  · rw [if_neg h, if_neg h, wrong_swap]
    cases e : wrong a b d with
    | nil => rfl
    | cons x xs =>
      have := wrong_pos (a := a) (b := b) (d := d) (i := x) (by rw [e]; exact List.mem_cons_self)
      show some (x + d) = some (if x < 0 then x else x + d)
      rw [if_neg (by omega)]
theorem rev_filter_map {p q : Int → Bool} {f : Int → Int} (h : ∀ x, p (f x) = q x) (xs : List Int) : (xs.reverse.map f).filter p = (xs.filter q).reverse.map f := by
  rw [List.filter_map, ← List.filter_reverse]
  congr 2
  funext x
  exact h x
theorem thr_swap (a b : List Nat) (m : Int) : thr b a m = ((thr a b m).reverse).map (0 - ·) := by
  rw [thr_eq, thr_eq, ← rev_filter_map (p := fits b a m) (f := (0 - ·)) (fun d => by rw [← fits_swap a b]; congr 1; omega), irange_rev]
  congr 2 <;> omega
/-! ### from the end -/
theorem sbs_rev (a b : List Nat) (d : Int) : sbs a.reverse b.reverse ((b.length : Int) - a.length - d) = (sbs a b d).reverse.map ((a.length : Int) - 1 - ·) := by
  rw [sbs_eq, sbs_eq, irange_rev, List.length_reverse, List.length_reverse]
  congr 1 <;> omega
theorem getD_rev (a : List Nat) (i : Nat) (h : i < a.length) : a.reverse.getD i 0 = a.getD (a.length - 1 - i) 0 := by
  rw [List.getD_eq_getElem?_getD, List.getD_eq_getElem?_getD, List.getElem?_reverse h]
theorem fits_rev (a b : List Nat) (m d : Int) : fits a.reverse b.reverse m ((b.length : Int) - a.length - d) = fits a b m d := by
  unfold fits
  rw [sbs_rev, List.length_map, List.length_reverse, List.all_map, List.all_reverse]
  congr 1
  rw [Bool.eq_iff_iff, List.all_eq_true, List.all_eq_true]
  refine forall_congr' fun i => imp_congr_right fun hi => ?_
  obtain ⟨h1, h2⟩ := sbs_mem.mp hi
  show at2 _ _ _ ((a.length : Int) - 1 - i) = true ↔ _
  unfold at2
  rw [getD_rev _ _ (by omega), getD_rev _ _ (by omega)]
  have e1 : a.length - 1 - ((a.length : Int) - 1 - i).toNat = i.toNat := by omega
  have e2 : b.length - 1 - ((a.length : Int) - 1 - i + ((b.length : Int) - a.length - d)).toNat = (i + d).toNat := by omega
  rw [e1, e2]
theorem thr_rev (a b : List Nat) (m : Int) : thr a.reverse b.reverse m = ((thr a b m).reverse).map ((b.length : Int) - a.length - ·) := by
  rw [thr_eq, thr_eq, ← rev_filter_map (p := fits a.reverse b.reverse m) (f := ((b.length : Int) - a.length - ·)) (fun d => fits_rev a b m d), irange_rev, List.length_reverse, List.length_reverse]
  congr 2 <;> omega
/-! ### renamed, more, less known -/
theorem getD_map' {f : Nat → Nat} {a : List Nat} {i : Nat} (h : i < a.length) : (a.map f).getD i 0 = f (a.getD i 0) := by
  rw [List.getD_eq_getElem?_getD, List.getD_eq_getElem?_getD, List.getElem?_map, List.getElem?_eq_getElem h]; rfl
theorem getD_in {a : List Nat} {i : Nat} (h : i < a.length) : a.getD i 0 ∈ a := by
  rw [List.getD_eq_getElem?_getD, List.getElem?_eq_getElem h]; exact List.getElem_mem h
theorem thr_ren {f : Nat → Nat} {a b : List Nat} (m : Int) (hf : ∀ x ∈ a ++ b, ∀ y ∈ a ++ b, agr [f x] [f y] = agr [x] [y]) : thr (a.map f) (b.map f) m = thr a b m := by
  have es : ∀ d, sbs (a.map f) (b.map f) d = sbs a b d := fun d => by rw [sbs_eq, sbs_eq, List.length_map, List.length_map]
  rw [thr_eq, thr_eq, List.length_map, List.length_map]
  refine List.filter_congr fun d _ => ?_
  unfold fits
  rw [es]
  congr 1
  rw [Bool.eq_iff_iff, List.all_eq_true, List.all_eq_true]
  refine forall_congr' fun i => imp_congr_right fun hi => ?_
  obtain ⟨h1, h2⟩ := sbs_mem.mp hi
  unfold at2
  have ha : i.toNat < a.length := by omega
  have hb : (i + d).toNat < b.length := by omega
  rw [getD_map' ha, getD_map' hb, hf _ (List.mem_append_left _ (getD_in ha)) _ (List.mem_append_right _ (getD_in hb))]
theorem thr_more (a b : List Nat) (m : Int) : thr a b (m + 1) = ((thr a b m).filter fun d => decide (m < ((sbs a b d).length : Int))) := by
  rw [thr_eq, thr_eq, List.filter_filter]
  refine List.filter_congr fun d _ => ?_
  unfold fits
  by_cases h : m < ((sbs a b d).length : Int)
  · rw [decide_eq_true (show m + 1 ≤ _ by omega), decide_eq_true h, decide_eq_true (show m ≤ _ by omega)]; rfl
  · rw [decide_eq_false (show ¬ m + 1 ≤ _ by omega), decide_eq_false h]; simp
theorem agr_q (x : List Nat) : agr [63] x = true := by unfold agr; simp
theorem thr_less {a a' b : List Nat} {m : Int} (hl : a'.length = a.length) (h : ∀ i, i < a.length → a'.getD i 0 = 63 ∨ a'.getD i 0 = a.getD i 0) {d : Int} (hd : d ∈ thr a b m) : d ∈ thr a' b m := by
  obtain ⟨h1, h2⟩ := thr_mem.mp hd
  refine thr_mem.mpr ⟨by omega, ?_⟩
  have es : sbs a' b d = sbs a b d := by rw [sbs_eq, sbs_eq, hl]
  unfold fits at *
  rw [es]
  rw [Bool.and_eq_true, List.all_eq_true] at *
  refine ⟨h2.1, fun i hi => ?_⟩
  have q := h2.2 i hi
  obtain ⟨h3, h4⟩ := sbs_mem.mp hi
  unfold at2 at *
  rcases h i.toNat (by omega) with e | e
  · rw [e]; exact agr_q _
  · rw [e]; exact q
theorem wit_short {a b : List Nat} {m d : Int} : decide (wit a b m d = some (-1)) = decide (((sbs a b d).length : Int) < m) := by
  refine decide_eq_decide.mpr ?_
  unfold wit
  constructor
  · intro h
    by_cases h1 : ((sbs a b d).length : Int) < m
    · exact h1
    · rw [if_neg h1] at h
      have := wrong_pos (a := a) (b := b) (d := d) (i := -1) (List.mem_of_mem_head? (by rw [h]; rfl))
      omega
  · intro h
    rw [if_pos h]
theorem wit_in {a b : List Nat} {m d : Int} (hm : 1 ≤ m) : (wit a b m d).isNone = decide (d ∈ thr a b m) := by
  rw [wit_none, Bool.eq_iff_iff, decide_eq_true_iff, thr_mem]
  constructor
  · intro h
    refine ⟨?_, h⟩
    unfold fits at h
    rw [Bool.and_eq_true, decide_eq_true_iff, sbs_len] at h
    omega
  · exact fun h => h.2
end K00

/-! k00: what the defs compute -/
namespace K00
open PySem PySem.Spec PyProof.Rows L2 SL
def AB : List (List Nat) := [[97], [98], [99], [100]]
def rn (names : List (List Nat)) (x : Nat) : List Nat := cond (decide ([x] = [63])) [63] (names.getD (((x - 97 : Nat) : Int).toNat) default)
def tn (names : List (List Nat)) (a : List Nat) : List Nat := (a.map (rn names)).flatten
theorem len_small {a : List Nat} (h : okB a) : a.length ≤ 16777216 := Nat.le_trans h.1 (by decide)
theorem thr_le (a b : List Nat) (m : Int) : (thr a b m).length ≤ a.length + b.length + 1 := by
  rw [thr_eq]
  refine Nat.le_trans (List.length_filter_le _ _) ?_
  rw [irange_len]
  omega
theorem thr_ok {a b : List Nat} {m : Int} {n : Nat} (ha : okB a) (hb : okB b) : okP (n + 1) (tD iD (thr a b m)) := okP_ti (by
  have := thr_le a b m
  have h1 := ha.1
  have h2 := hb.1
  omega)
theorem okB_rev {a : List Nat} (h : okB a) : okB a.reverse := ⟨by rw [List.length_reverse]; exact h.1, fun x hx => h.2 x (List.mem_reverse.mp hx)⟩
theorem AB_perm {ns : List (List Nat)} (h : ns.Perm AB) {i : Nat} (hi : i < 4) : ∃ c, ns.getD i default = [c] ∧ 97 ≤ c ∧ c ≤ 100 := by
  have hl : ns.length = 4 := h.length_eq
  rw [List.getD_eq_getElem?_getD, List.getElem?_eq_getElem (by omega)]
  have hm : ns[i] ∈ AB := h.mem_iff.mp (List.getElem_mem _)
  show ∃ c, ns[i] = [c] ∧ _
  generalize ns[i] = z at hm
  unfold AB at hm
  simp at hm
  rcases hm with rfl | rfl | rfl | rfl <;> exact ⟨_, rfl, by decide⟩
def fn (ns : List (List Nat)) (x : Nat) : Nat := (rn ns x).getD 0 0
theorem rn_fn {ns : List (List Nat)} (h : ns.Perm AB) {x : Nat} (hx : x = 63 ∨ (97 ≤ x ∧ x ≤ 100)) : rn ns x = [fn ns x] ∧ (fn ns x = 63 ∨ (97 ≤ fn ns x ∧ fn ns x ≤ 100)) ∧ (fn ns x = 63 ↔ x = 63) := by
  by_cases h1 : x = 63
  · subst h1
    have : rn ns 63 = [63] := rfl
    unfold fn
    rw [this]
    exact ⟨rfl, .inl rfl, by simp⟩
  · have h2 : rn ns x = ns.getD (x - 97) default := by
      unfold rn
      rw [decide_eq_false (by simpa using h1), cond_false, Int.toNat_natCast]
    obtain ⟨c, e, c1, c2⟩ := AB_perm h (i := x - 97) (by omega)
    unfold fn
    rw [h2, e]
    refine ⟨rfl, .inr ⟨c1, c2⟩, ?_⟩
    show c = 63 ↔ _
    omega
theorem tn_map {ns : List (List Nat)} (h : ns.Perm AB) : ∀ {a : List Nat}, (∀ x ∈ a, x = 63 ∨ (97 ≤ x ∧ x ≤ 100)) → tn ns a = a.map (fn ns)
  | [], _ => rfl
  | x :: a, ha => by
    have ih := tn_map h (a := a) fun y hy => ha y (List.mem_cons_of_mem _ hy)
    unfold tn at *
    rw [List.map_cons, List.flatten_cons, ih, (rn_fn h (ha x List.mem_cons_self)).1]
    rfl
theorem tn_ok {ns : List (List Nat)} (h : ns.Perm AB) {a : List Nat} (ha : okA a) : okA (tn ns a) := by
  rw [tn_map h ha.2]
  refine ⟨by rw [List.length_map]; exact ha.1, fun y hy => ?_⟩
  obtain ⟨x, hx, rfl⟩ := List.mem_map.mp hy
  exact (rn_fn h (ha.2 x hx)).2.1
theorem AB_nodup : AB.Nodup := by decide
theorem fn_inj {ns : List (List Nat)} (h : ns.Perm AB) {x y : Nat} (hx : x = 63 ∨ (97 ≤ x ∧ x ≤ 100)) (hy : y = 63 ∨ (97 ≤ y ∧ y ≤ 100)) (e : fn ns x = fn ns y) : x = y := by
  obtain ⟨a1, a2, a3⟩ := rn_fn h hx
  obtain ⟨b1, b2, b3⟩ := rn_fn h hy
  by_cases h1 : x = 63
  · rw [h1]; exact (b3.mp (by rw [← e]; exact a3.mpr h1)).symm
  · have h2 : y ≠ 63 := fun z => h1 (a3.mp (by rw [e]; exact b3.mpr z))
    have er : rn ns x = rn ns y := by rw [a1, b1, e]
    have hl : ns.length = 4 := h.length_eq
    have q : ∀ z, z ≠ 63 → rn ns z = ns.getD (z - 97) default := fun z hz => by
      unfold rn
      rw [decide_eq_false (by simpa using hz), cond_false, Int.toNat_natCast]
    rw [q x h1, q y h2, List.getD_eq_getElem?_getD, List.getD_eq_getElem?_getD, List.getElem?_eq_getElem (by omega), List.getElem?_eq_getElem (by omega)] at er
    have nd : ns.Nodup := h.nodup_iff.mpr AB_nodup
    have er : ns[x - 97] = ns[y - 97] := er
    have key : ∀ i j (hi : i < ns.length) (hj : j < ns.length), i < j → ns[i] ≠ ns[j] := List.pairwise_iff_getElem.mp nd
    rcases Nat.lt_trichotomy (x - 97) (y - 97) with q1 | q1 | q1
    · exact absurd er (key _ _ _ _ q1)
    · omega
    · exact absurd er.symm (key _ _ _ _ q1)
theorem agr_fn {ns : List (List Nat)} (h : ns.Perm AB) {x y : Nat} (hx : x = 63 ∨ (97 ≤ x ∧ x ≤ 100)) (hy : y = 63 ∨ (97 ≤ y ∧ y ≤ 100)) : agr [fn ns x] [fn ns y] = agr [x] [y] := by
  obtain ⟨_, _, a3⟩ := rn_fn h hx
  obtain ⟨_, _, b3⟩ := rn_fn h hy
  unfold agr
  congr 1
  · refine decide_eq_decide.mpr ?_
    simp only [List.cons.injEq, and_true]
    exact ⟨fn_inj h hx hy, fun e => by rw [e]⟩
  · refine decide_eq_decide.mpr ?_
    simp only [List.mem_cons, List.cons.injEq, and_true, List.not_mem_nil, or_false]
    constructor
    · rintro (e | e)
      · exact .inl (a3.mp e.symm).symm
      · exact .inr (b3.mp e.symm).symm
    · rintro (e | e)
      · exact .inl (a3.mpr e.symm).symm
      · exact .inr (b3.mpr e.symm).symm
theorem thr_tn {ns : List (List Nat)} (h : ns.Perm AB) {a b : List Nat} (ha : okA a) (hb : okA b) (m : Int) : thr (tn ns a) (tn ns b) m = thr a b m := by
  rw [tn_map h ha.2, tn_map h hb.2]
  refine thr_ren m fun x hx y hy => ?_
  have q : ∀ z ∈ a ++ b, z = 63 ∨ (97 ≤ z ∧ z ≤ 100) := fun z hz => (List.mem_append.mp hz).elim (ha.2 z) (hb.2 z)
  exact agr_fn h (q x hx) (q y hy)
theorem occ_abcd {x : Nat} (h : 97 ≤ x ∧ x ≤ 100) : Builtin.Str.occurrences (Str.ofString "abcd") ⟨[x].toArray⟩ 0 (Str.ofString "abcd").length 1 = (x - 97) :: [] := by
  have : x = 97 ∨ x = 98 ∨ x = 99 ∨ x = 100 := by omega
  rcases this with rfl | rfl | rfl | rfl <;> decide +kernel
/-- a sign less known -/
def lessK (a : List Nat) (k : Int) : List Nat := cutA a none (some k) ++ [63] ++ cutA a (some (k + 1)) none
theorem lessK_eq (a : List Nat) {k : Nat} (h : k < a.length) : lessK a k = a.take k ++ 63 :: a.drop (k + 1) := by
  unfold lessK cutA
  have e1 : HT.sIx a.length 0 none = 0 := rfl
  have e2 : HT.sIx a.length a.length none = a.length := rfl
  have e3 : HT.sIx a.length a.length (some (k : Int)) = k := by rw [HT.sIx_nat]; omega
  have e4 : HT.sIx a.length 0 (some ((k : Int) + 1)) = k + 1 := by
    have : ((k : Int) + 1) = ((k + 1 : Nat) : Int) := by omega
    rw [this, HT.sIx_nat]; omega
  rw [e1, e2, e3, e4, List.drop_zero, Nat.sub_zero, List.append_assoc, List.take_of_length_le (l := a.drop (k + 1)) (by rw [List.length_drop]; omega)]
  rfl
theorem lessK_len (a : List Nat) {k : Nat} (h : k < a.length) : (lessK a k).length = a.length := by
  rw [lessK_eq a h, List.length_append, List.length_take, List.length_cons, List.length_drop]
  omega
theorem lessK_get (a : List Nat) {k : Nat} (h : k < a.length) (i : Nat) : (lessK a k).getD i 0 = 63 ∨ (lessK a k).getD i 0 = a.getD i 0 := by
  rw [lessK_eq a h, List.getD_eq_getElem?_getD, List.getD_eq_getElem?_getD, List.getElem?_append, List.length_take]
  split
  · rw [List.getElem?_take, if_pos (by omega)]; exact .inr rfl
  · by_cases e : i = k
    · subst e
      rw [show i - min i a.length = 0 by omega]
      exact .inl rfl
    · have : i - min k a.length = (i - k - 1) + 1 := by omega
      rw [this, List.getElem?_cons_succ, List.getElem?_drop, show k + 1 + (i - k - 1) = i by omega]
      exact .inr rfl
theorem lessK_ok {a : List Nat} (ha : okB a) {k : Nat} (h : k < a.length) : okB (lessK a k) := by
  refine ⟨by rw [lessK_len a h]; exact ha.1, fun x hx => ?_⟩
  rw [lessK_eq a h] at hx
  rcases List.mem_append.mp hx with hx | hx
  · exact ha.2 x (List.mem_of_mem_take hx)
  · rcases List.mem_cons.mp hx with rfl | hx
    · decide
    · exact ha.2 x (List.mem_of_mem_drop hx)
theorem thr_lessK (a b : List Nat) (m : Int) {k : Nat} (h : k < a.length) : ((thr a b m).all fun x => decide (x ∈ thr (lessK a k) b m)) = true := by
  rw [List.all_eq_true]
  exact fun d hd => decide_eq_true (thr_less (lessK_len a h) (fun i _ => lessK_get a h i) hd)
abbrev R_pair_fine : DRel := fun rs S r S' => ∃ (S0 : List SObj) (L : List Int) (n : Nat) (a b : List Nat) (m : Int), rs = [.obj S0.length, .dat (sD a), .dat (sD b), .dat (iD m)] ∧ S = S0 ++ [hd L n] ∧ (okL L ∧ okA a ∧ okA b ∧ 1 ≤ m) ∧ r = .dat (.bool true) ∧ S' = S0 ++ [hd L (n + 4 + if 0 < a.length then 1 else 0)]
end K00

/-! k00: the plain law of rosettes -/
namespace K00
open PySem PySem.Spec PyProof.Rows L2 SL
theorem sorted_ext : ∀ {xs ys : List Int}, xs.Pairwise (· < ·) → ys.Pairwise (· < ·) → (∀ x, x ∈ xs ↔ x ∈ ys) → xs = ys
  | [], [], _, _, _ => rfl
  | [], y :: ys, _, _, h => by have := (h y).mpr List.mem_cons_self; cases this
  | x :: xs, [], _, _, h => by have := (h x).mp List.mem_cons_self; cases this
  | x :: xs, y :: ys, hx, hy, h => by
    obtain ⟨hx1, hx2⟩ := List.pairwise_cons.mp hx
    obtain ⟨hy1, hy2⟩ := List.pairwise_cons.mp hy
    have e : x = y := by
      rcases List.mem_cons.mp ((h x).mp List.mem_cons_self) with e | e
      · exact e
      · rcases List.mem_cons.mp ((h y).mpr List.mem_cons_self) with e2 | e2
        · exact e2.symm
        · have := hy1 x e; have := hx1 y e2; omega
    subst e
    congr 1
    refine sorted_ext hx2 hy2 fun z => ?_
    constructor
    · intro hz
      rcases List.mem_cons.mp ((h z).mp (List.mem_cons_of_mem _ hz)) with e | e
      · have := hx1 z hz; omega
      · exact e
    · intro hz
      rcases List.mem_cons.mp ((h z).mpr (List.mem_cons_of_mem _ hz)) with e | e
      · have := hy1 z hz; omega
      · exact e
theorem range_sorted (n : Nat) : (List.range n).Pairwise (· < ·) := List.pairwise_lt_range
theorem irange_sorted (lo hi : Int) : (irange lo hi).Pairwise (· < ·) := by
  unfold irange
  rw [List.pairwise_map]
  exact (range_sorted _).imp fun h => by omega
theorem thr_sorted (a b : List Nat) (m : Int) : (thr a b m).Pairwise (· < ·) := by
  rw [thr_eq]; exact (irange_sorted _ _).filter _
theorem rgC_sorted {i k : Int} (hk : 0 < k) (n : Nat) : (rgC i k n).Pairwise (· < ·) := by
  unfold rgC
  rw [List.pairwise_map]
  refine (range_sorted _).imp fun {x y} h => ?_
  have : (x : Int) * k < (y : Int) * k := Int.mul_lt_mul_of_pos_right (by omega) hk
  omega
theorem rgC_mem {i k x : Int} {n : Nat} : x ∈ rgC i k n ↔ ∃ j : Nat, j < n ∧ x = i + (j : Int) * k := by
  unfold rgC
  rw [List.mem_map]
  constructor
  · rintro ⟨j, h, rfl⟩; exact ⟨j, List.mem_range.mp h, rfl⟩
  · rintro ⟨j, h, rfl⟩; exact ⟨j, List.mem_range.mpr h, rfl⟩
/-! ### turning -/
def rot (r : List Nat) (k : Nat) : List Nat := r.drop k ++ r.take k
theorem cut_rot {r : List Nat} {k : Nat} (h : k ≤ r.length) : cutA r (some (k : Int)) none ++ cutA r none (some (k : Int)) = rot r k := by
  unfold cutA rot
  have e1 : HT.sIx r.length 0 none = 0 := rfl
  have e2 : HT.sIx r.length r.length none = r.length := rfl
  have e3 : ∀ q, HT.sIx r.length q (some (k : Int)) = k := fun q => by rw [HT.sIx_nat]; omega
  rw [e1, e2, e3, e3, List.drop_zero, Nat.sub_zero, List.take_of_length_le (l := r.drop k) (by rw [List.length_drop]; omega)]
theorem turns_eq (r : List Nat) : turns r = (List.range r.length).map (rot r) := by
  unfold turns
  rw [Int.toNat_natCast]
  exact List.map_congr_left fun k hk => cut_rot (by have := List.mem_range.mp hk; omega)
theorem rot_len {r : List Nat} {k : Nat} (h : k ≤ r.length) : (rot r k).length = r.length := by
  unfold rot; rw [List.length_append, List.length_drop, List.length_take]; omega
/-- the rosette as a periodic row -/
def ro (r : List Nat) (i : Nat) : Nat := r.getD (i % r.length) 0
theorem rot_get {r : List Nat} {k i : Nat} (h : k ≤ r.length) (hi : i < r.length) : (rot r k).getD i 0 = ro r (i + k) := by
  unfold rot ro
  rw [List.getD_eq_getElem?_getD, List.getD_eq_getElem?_getD, List.getElem?_append, List.length_drop]
  split
  · rw [List.getElem?_drop, Nat.mod_eq_of_lt (by omega), Nat.add_comm k i]
  · have e : (i + k) % r.length = i - (r.length - k) := by
      rw [show i + k = (i - (r.length - k)) + r.length by omega, Nat.add_mod_right, Nat.mod_eq_of_lt (by omega)]
    rw [e, List.getElem?_take, if_pos (by omega)]
theorem list_ext {a b : List Nat} (hl : a.length = b.length) (h : ∀ i, i < a.length → a.getD i 0 = b.getD i 0) : a = b := by
  refine List.ext_getElem hl fun i h1 h2 => ?_
  have := h i h1
  rw [List.getD_eq_getElem?_getD, List.getD_eq_getElem?_getD, List.getElem?_eq_getElem h1, List.getElem?_eq_getElem h2] at this
  exact this
/-- k is a period -/
def Pd (r : List Nat) (k : Nat) : Prop := ∀ i, ro r (i + k) = ro r i
theorem ro_size (r : List Nat) (i : Nat) : ro r (i + r.length) = ro r i := by unfold ro; rw [Nat.add_mod_right]
theorem ro_mod (r : List Nat) (i : Nat) : ro r (i % r.length) = ro r i := by unfold ro; rw [Nat.mod_mod]
theorem ro_lt {r : List Nat} {i : Nat} (h : i < r.length) : ro r i = r.getD i 0 := by unfold ro; rw [Nat.mod_eq_of_lt h]
theorem rot_eq {r : List Nat} {j k : Nat} (hj : j ≤ r.length) (hk : k ≤ r.length) : rot r j = rot r k ↔ ∀ i, ro r (i + j) = ro r (i + k) := by
  constructor
  · intro h i
    by_cases h0 : r.length = 0
    · have : r = [] := List.eq_nil_of_length_eq_zero h0
      subst this; rfl
    · have hi : i % r.length < r.length := Nat.mod_lt _ (by omega)
      have e := congrArg (fun l => l.getD (i % r.length) 0) h
      simp only [rot_get hj hi, rot_get hk hi] at e
      unfold ro at *
      rw [Nat.mod_add_mod, Nat.mod_add_mod] at e
      exact e
  · intro h
    refine list_ext (by rw [rot_len hj, rot_len hk]) fun i hi => ?_
    rw [rot_len hj] at hi
    rw [rot_get hj hi, rot_get hk hi, h]
theorem rot_zero (r : List Nat) : rot r 0 = r := by unfold rot; simp
theorem rot_self {r : List Nat} {k : Nat} (h : k ≤ r.length) : rot r k = r ↔ Pd r k := by
  have := rot_eq (r := r) (j := k) (k := 0) h (Nat.zero_le _)
  rw [rot_zero] at this
  exact this
theorem Pd.add {r : List Nat} {a b : Nat} (ha : Pd r a) (hb : Pd r b) : Pd r (a + b) := fun i => by rw [← Nat.add_assoc, hb, ha]
theorem Pd.sub {r : List Nat} {a b : Nat} (ha : Pd r a) (hb : Pd r b) (h : a ≤ b) : Pd r (b - a) := fun i => by
  rw [← ha (i + (b - a)), show i + (b - a) + a = i + b by omega, hb]
theorem Pd.size (r : List Nat) : Pd r r.length := ro_size r
theorem Pd.zero (r : List Nat) : Pd r 0 := fun _ => rfl
theorem Pd.mul {r : List Nat} {a : Nat} (ha : Pd r a) : ∀ k, Pd r (a * k)
  | 0 => Pd.zero r
  | k + 1 => by rw [Nat.mul_succ]; exact (ha.mul k).add ha
theorem Pd.mod {r : List Nat} {a b : Nat} (ha : Pd r a) (hb : Pd r b) : Pd r (b % a) := by
  have := (ha.mul (b / a)).sub hb (Nat.mul_div_le b a)
  rwa [show b - a * (b / a) = b % a by have := Nat.div_add_mod b a; omega] at this
/-- the least period -/
theorem least_pd {r : List Nat} (h : r ≠ []) : ∃ p, 0 < p ∧ (∀ k, Pd r k ↔ p ∣ k) := by
  have hs : 0 < r.length := List.length_pos_iff.mpr h
  have key : ∀ n, (∃ q, 0 < q ∧ q ≤ n ∧ Pd r q) → ∃ p, 0 < p ∧ Pd r p ∧ ∀ q, 0 < q → Pd r q → p ≤ q := by
    intro n
    induction n with
    | zero => rintro ⟨q, h1, h2, _⟩; omega
    | succ n ih =>
      rintro ⟨q, h1, h2, h3⟩
      by_cases hh : ∃ q, 0 < q ∧ q ≤ n ∧ Pd r q
      · exact ih hh
      · refine ⟨q, h1, h3, fun z z1 z2 => ?_⟩
        rcases Nat.lt_or_ge n z with w | w
        · omega
        · exact absurd ⟨z, z1, w, z2⟩ hh
  obtain ⟨p, p1, p2, p3⟩ := key r.length ⟨r.length, hs, Nat.le_refl _, Pd.size r⟩
  refine ⟨p, p1, fun k => ⟨fun hk => ?_, fun ⟨c, e⟩ => e ▸ p2.mul c⟩⟩
  have := p2.mod hk
  rcases Nat.eq_zero_or_pos (k % p) with e | e
  · exact Nat.dvd_of_mod_eq_zero e
  · have := p3 _ e this
    have := Nat.mod_lt k p1
    omega
theorem count_dvd {p : Nat} (hp : 0 < p) : ∀ c, ((List.range (p * c)).filter fun k => decide (p ∣ k)).length = c
  | 0 => by simp
  | c + 1 => by
    have key : ∀ (j : Nat), j ≤ p → 0 < j → ((List.range (p * c + j)).filter fun k => decide (p ∣ k)).length = c + 1 := by
      intro j
      induction j with
      | zero => intro _ h; omega
      | succ j ih =>
        intro h1 _
        rw [← Nat.add_assoc, List.range_succ, List.filter_append, List.length_append]
        rcases Nat.eq_zero_or_pos j with e | e
        · subst e
          rw [Nat.add_zero, count_dvd hp c]
          simp [Nat.dvd_mul_right]
        · rw [ih (by omega) e]
          have hnd : ¬ p ∣ p * c + j := fun hd => by
            have := (Nat.dvd_add_right (Nat.dvd_mul_right p c)).mp hd
            have := Nat.le_of_dvd e this
            omega
          simp [hnd]
    have := key p (Nat.le_refl _) hp
    rwa [Nat.mul_succ]
theorem reps_eq {r : List Nat} {p c : Nat} (hp : 0 < p) (h : ∀ k, Pd r k ↔ p ∣ k) (e : r.length = p * c) : reps r = c := by
  unfold reps
  rw [List.map_id', turns_eq, List.filter_map, List.length_map]
  have : ((List.range r.length).filter ((fun t => decide (t = r)) ∘ rot r)) = (List.range r.length).filter fun k => decide (p ∣ k) := by
    refine List.filter_congr fun k hk => decide_eq_decide.mpr ?_
    rw [rot_self (by have := List.mem_range.mp hk; omega), h]
  rw [this, e, count_dvd hp]
/-- what a rosette is made of -/
structure Ros (r : List Nat) (p c : Nat) : Prop where
  pos : 0 < p
  cpos : 0 < c
  pd : ∀ k, Pd r k ↔ p ∣ k
  len : r.length = p * c
  ok : ∀ x ∈ r, 97 ≤ x ∧ x ≤ 99
theorem ros_of {r : List Nat} (h : r ≠ []) (ok : ∀ x ∈ r, 97 ≤ x ∧ x ≤ 99) : ∃ p c, Ros r p c := by
  obtain ⟨p, hp, pd⟩ := least_pd h
  obtain ⟨c, e⟩ := (pd r.length).mp (Pd.size r)
  refine ⟨p, c, hp, ?_, pd, e, ok⟩
  rcases Nat.eq_zero_or_pos c with z | z
  · subst z
    have : r = [] := List.eq_nil_of_length_eq_zero (by simpa using e)
    exact absurd this h
  · exact z
theorem Ros.part {r : List Nat} {p c : Nat} (R : Ros r p c) : (r.length : Int) / reps r = p := by
  rw [reps_eq R.pos R.pd R.len, R.len]
  have := R.cpos
  rw [Int.natCast_mul]
  exact Int.mul_ediv_cancel _ (by omega)
theorem Ros.reps {r : List Nat} {p c : Nat} (R : Ros r p c) : K00.reps r = c := reps_eq R.pos R.pd R.len
theorem Ros.ne {r : List Nat} {p c : Nat} (R : Ros r p c) : r ≠ [] := fun e => by
  have h1 := R.len
  rw [e] at h1
  have := Nat.mul_pos R.pos R.cpos
  simp at h1; omega
theorem Ros.inr {r : List Nat} {p c : Nat} (R : Ros r p c) (i : Nat) : 97 ≤ ro r i ∧ ro r i ≤ 99 := by
  have h : i % r.length < r.length := Nat.mod_lt _ (List.length_pos_iff.mpr R.ne)
  exact R.ok _ (getD_in h)
theorem agr_lit {x y : Nat} (hx : 97 ≤ x) (hy : 97 ≤ y) : agr [x] [y] = decide (x = y) := by
  unfold agr
  have h1 : ¬ 63 = x := by omega
  have h2 : ¬ 63 = y := by omega
  simp [h1, h2]
theorem dbl_get {r : List Nat} {j : Nat} (h : j < r.length + r.length) : (r ++ r).getD j 0 = ro r j := by
  rw [List.getD_eq_getElem?_getD, List.getElem?_append]
  split
  · next q => rw [ro_lt q, List.getD_eq_getElem?_getD]
  · next q =>
    have e : ro r j = ro r (j - r.length) := by rw [← ro_size r (j - r.length), show j - r.length + r.length = j by omega]
    rw [e, ro_lt (by omega), List.getD_eq_getElem?_getD]
/-- a turn of the rosette against the doubled rosette -/
theorem far_mem {r : List Nat} {p c : Nat} (R : Ros r p c) {k : Nat} (hk : k ≤ r.length) {d : Int} : d ∈ thr (rot r k) (r ++ r) r.length ↔ 0 ≤ d ∧ d ≤ r.length ∧ (p : Int) ∣ d - k := by
  have hpos : 0 < r.length := List.length_pos_iff.mpr R.ne
  rw [thr_mem, rot_len hk, List.length_append]
  have body : ∀ dn : Nat, dn ≤ r.length → ((sbs (rot r k) (r ++ r) (dn : Int)).all (at2 (rot r k) (r ++ r) dn) = true ↔ ∀ i, ro r (i + k) = ro r (i + dn)) := fun dn hdn => by
    rw [List.all_eq_true]
    constructor
    · intro h i
      have hi : i % r.length < r.length := Nat.mod_lt _ hpos
      have := h ((i % r.length : Nat) : Int) (sbs_mem.mpr (by rw [rot_len hk, List.length_append]; omega))
      unfold at2 at this
      rw [Int.toNat_natCast, rot_get hk hi, show (((i % r.length : Nat) : Int) + (dn : Int)).toNat = i % r.length + dn by omega, dbl_get (by omega), agr_lit (R.inr _).1 (R.inr _).1] at this
      have this := of_decide_eq_true this
      unfold ro at *
      rw [Nat.mod_add_mod, Nat.mod_add_mod] at this
      exact this
    · intro h i hi
      obtain ⟨h1, h2⟩ := sbs_mem.mp hi
      rw [rot_len hk] at h1
      rw [List.length_append] at h2
      unfold at2
      rw [rot_get hk (by omega), dbl_get (by omega), agr_lit (R.inr _).1 (R.inr _).1, show (i + (dn : Int)).toNat = i.toNat + dn by omega]
      exact decide_eq_true (h _)
  have shift : ∀ dn : Nat, dn ≤ r.length → ((∀ i, ro r (i + k) = ro r (i + dn)) ↔ (p : Int) ∣ (dn : Int) - k) := fun dn hdn => by
    rcases Nat.le_total k dn with q | q
    · have e : ((dn : Int) - k) = ((dn - k : Nat) : Int) := by omega
      rw [e, Int.natCast_dvd_natCast, ← R.pd]
      constructor
      · intro h i
        have hh := h (i + (r.length - k))
        rw [show i + (r.length - k) + k = i + r.length by omega, show i + (r.length - k) + dn = i + (dn - k) + r.length by omega, ro_size, ro_size] at hh
        exact hh.symm
      · intro h i
        have hh := h (i + k)
        rw [show i + k + (dn - k) = i + dn by omega] at hh
        exact hh.symm
    · have e : ((dn : Int) - k) = -((k - dn : Nat) : Int) := by omega
      rw [e, Int.dvd_neg, Int.natCast_dvd_natCast, ← R.pd]
      constructor
      · intro h i
        have hh := h (i + (r.length - dn))
        rw [show i + (r.length - dn) + k = i + (k - dn) + r.length by omega, show i + (r.length - dn) + dn = i + r.length by omega, ro_size, ro_size] at hh
        exact hh
      · intro h i
        have hh := h (i + dn)
        rw [show i + dn + (k - dn) = i + k by omega] at hh
        exact hh
  constructor
  · rintro ⟨h1, h2⟩
    unfold fits at h2
    rw [Bool.and_eq_true, decide_eq_true_iff, sbs_len, rot_len hk, List.length_append] at h2
    obtain ⟨h3, h4⟩ := h2
    have g1 : 0 ≤ d := by omega
    have g2 : d ≤ r.length := by omega
    refine ⟨g1, g2, ?_⟩
    have e : d = (d.toNat : Int) := by omega
    rw [e] at h4 ⊢
    exact (shift _ (by omega)).mp ((body _ (by omega)).mp h4)
  · rintro ⟨g1, g2, g3⟩
    refine ⟨by omega, ?_⟩
    unfold fits
    rw [Bool.and_eq_true, decide_eq_true_iff, sbs_len, rot_len hk, List.length_append]
    refine ⟨by omega, ?_⟩
    have e : d = (d.toNat : Int) := by omega
    rw [e] at g3 ⊢
    exact (body _ (by omega)).mpr ((shift _ (by omega)).mpr g3)
/-- the rosette against itself -/
theorem self_mem {r : List Nat} {p c : Nat} (R : Ros r p c) {d : Int} : d ∈ thr r r p ↔ (p : Int) ∣ d ∧ (p : Int) - r.length ≤ d ∧ d ≤ (r.length : Int) - p := by
  have hpos : 0 < r.length := List.length_pos_iff.mpr R.ne
  have hp := R.pos
  have hpl : p ≤ r.length := by rw [R.len]; exact Nat.le_mul_of_pos_right _ R.cpos
  have half : ∀ dn : Nat, dn + p ≤ r.length → ((∀ i, i + dn < r.length → ro r i = ro r (i + dn)) ↔ p ∣ dn) := fun dn hdn => by
    rw [← R.pd]
    constructor
    · intro h i
      have pm : ∀ x, ro r (x % p) = ro r x := fun x => by
        have := (R.pd (p * (x / p))).mpr (Nat.dvd_mul_right _ _) (x % p)
        rw [← this, show x % p + p * (x / p) = x from Nat.mod_add_div x p]
      have hh := h (i % p) (by have := Nat.mod_lt i hp; omega)
      rw [pm] at hh
      have e2 : ro r (i % p + dn) = ro r (i + dn) := by
        rw [← pm (i % p + dn), Nat.mod_add_mod, pm]
      rw [e2] at hh
      exact hh.symm
    · intro h i _
      exact (h i).symm
  rw [thr_mem]
  constructor
  · rintro ⟨h1, h2⟩
    unfold fits at h2
    rw [Bool.and_eq_true, decide_eq_true_iff, sbs_len, List.all_eq_true] at h2
    obtain ⟨h3, h4⟩ := h2
    refine ⟨?_, by omega, by omega⟩
    rcases Int.le_total 0 d with q | q
    · have e : d = (d.toNat : Int) := by omega
      rw [e, Int.natCast_dvd_natCast]
      refine (half _ (by omega)).mp fun i hi => ?_
      have hh := h4 (i : Int) (sbs_mem.mpr (by omega))
      unfold at2 at hh
      rw [Int.toNat_natCast, show ((i : Int) + d).toNat = i + d.toNat by omega, ← ro_lt (by omega), ← ro_lt (by omega), agr_lit (R.inr _).1 (R.inr _).1] at hh
      exact of_decide_eq_true hh
    · have e : d = -(((-d).toNat : Nat) : Int) := by omega
      rw [e, Int.dvd_neg, Int.natCast_dvd_natCast]
      refine (half _ (by omega)).mp fun i hi => ?_
      have hh := h4 ((i + (-d).toNat : Nat) : Int) (sbs_mem.mpr (by omega))
      unfold at2 at hh
      rw [Int.toNat_natCast, show (((i + (-d).toNat : Nat) : Int) + d).toNat = i by omega, ← ro_lt (by omega), ← ro_lt (by omega), agr_lit (R.inr _).1 (R.inr _).1] at hh
      exact (of_decide_eq_true hh).symm
  · rintro ⟨g1, g2, g3⟩
    refine ⟨by omega, ?_⟩
    unfold fits
    rw [Bool.and_eq_true, decide_eq_true_iff, sbs_len, List.all_eq_true]
    refine ⟨by omega, fun i hi => ?_⟩
    obtain ⟨h1, h2⟩ := sbs_mem.mp hi
    unfold at2
    rw [← ro_lt (by omega), ← ro_lt (by omega), agr_lit (R.inr _).1 (R.inr _).1]
    refine decide_eq_true ?_
    rcases Int.le_total 0 d with q | q
    · have e : d = (d.toNat : Int) := by omega
      rw [e, Int.natCast_dvd_natCast] at g1
      rw [show (i + d).toNat = i.toNat + d.toNat by omega]
      exact (half _ (by omega)).mpr g1 _ (by omega)
    · have e : d = -(((-d).toNat : Nat) : Int) := by omega
      rw [e, Int.dvd_neg, Int.natCast_dvd_natCast] at g1
      have hh := (half _ (by omega)).mpr g1 (i + d).toNat (by omega)
      rw [show (i + d).toNat + (-d).toNat = i.toNat by omega] at hh
      exact hh.symm
theorem thr_self {r : List Nat} {p c : Nat} (R : Ros r p c) : thr r r p = rgC ((p : Int) - r.length) p (2 * c - 1) := by
  refine sorted_ext (thr_sorted _ _ _) (rgC_sorted (by have := R.pos; omega) _) fun d => ?_
  rw [self_mem R, rgC_mem, R.len, Int.natCast_mul]
  have hc := R.cpos
  have hp : (0 : Int) < p := by have := R.pos; omega
  constructor
  · rintro ⟨⟨q, rfl⟩, h2, h3⟩
    have h4 : (p : Int) * (1 - c) ≤ p * q := by rw [Int.mul_sub, Int.mul_one]; exact h2
    have h5 : (p : Int) * q ≤ p * (c - 1) := by rw [Int.mul_sub, Int.mul_one]; exact h3
    have h4 := Int.le_of_mul_le_mul_left h4 hp
    have h5 := Int.le_of_mul_le_mul_left h5 hp
    refine ⟨(q + c - 1).toNat, by omega, ?_⟩
    rw [Int.toNat_of_nonneg (by omega)]
    have : (p : Int) * q = p * (q + c - 1) + (p - p * c) := by
      rw [Int.mul_sub, Int.mul_add, Int.mul_one]; omega
    rw [this, Int.mul_comm (q + c - 1)]
    omega
  · rintro ⟨j, hj, rfl⟩
    have e : (p : Int) - p * c + j * p = p * (1 - c + j) := by
      rw [Int.mul_add, Int.mul_sub, Int.mul_one, Int.mul_comm (j : Int)]
    rw [e]
    refine ⟨Int.dvd_mul_right _ _, ?_, ?_⟩
    · have := Int.mul_le_mul_of_nonneg_left (show (1 : Int) - c ≤ 1 - c + j by omega) (Int.le_of_lt hp)
      rw [Int.mul_sub, Int.mul_one] at this
      exact this
    · have := Int.mul_le_mul_of_nonneg_left (show (1 : Int) - c + j ≤ c - 1 by omega) (Int.le_of_lt hp)
      rw [Int.mul_sub (p : Int) c, Int.mul_one] at this
      exact this
theorem thr_dbl {r : List Nat} {p c : Nat} (R : Ros r p c) : thr r (r ++ r) r.length = rgC 0 p (c + 1) := by
  refine sorted_ext (thr_sorted _ _ _) (rgC_sorted (by have := R.pos; omega) _) fun d => ?_
  have := far_mem R (k := 0) (Nat.zero_le _) (d := d)
  rw [rot_zero] at this
  rw [this, rgC_mem, R.len, Int.natCast_mul]
  have hp : (0 : Int) < p := by have := R.pos; omega
  constructor
  · rintro ⟨h1, h2, q, h3⟩
    have e : d = p * q := by omega
    subst e
    have h5 := Int.le_of_mul_le_mul_left h2 hp
    have h4 : (0 : Int) ≤ q := by
      rcases Int.lt_or_le q 0 with z | z
      · have := Int.mul_neg_of_pos_of_neg hp z; omega
      · exact z
    refine ⟨q.toNat, by omega, ?_⟩
    rw [Int.toNat_of_nonneg h4, Int.zero_add, Int.mul_comm]
  · rintro ⟨j, hj, rfl⟩
    rw [Int.zero_add, Int.mul_comm]
    refine ⟨Int.mul_nonneg (Int.le_of_lt hp) (by omega), Int.mul_le_mul_of_nonneg_left (by omega) (Int.le_of_lt hp), ⟨j, by show (p : Int) * j - ((0 : Nat) : Int) = _; omega⟩⟩
theorem far_in {r : List Nat} {p c : Nat} (R : Ros r p c) {k : Nat} (hk : k ≤ r.length) : (k : Int) ∈ thr (rot r k) (r ++ r) r.length := by
  rw [far_mem R hk]
  exact ⟨by omega, by omega, ⟨0, by omega⟩⟩
theorem far_first {r : List Nat} {p c : Nat} (R : Ros r p c) {k : Nat} (hk : k ≤ r.length) : (thr (rot r k) (r ++ r) r.length).getD 0 default = (k : Int) % p := by
  have hp : (0 : Int) < p := by have := R.pos; omega
  have hpl : p ≤ r.length := by rw [R.len]; exact Nat.le_mul_of_pos_right _ R.cpos
  have hin : (k : Int) % p ∈ thr (rot r k) (r ++ r) r.length := by
    rw [far_mem R hk]
    have h1 := Int.emod_nonneg (k : Int) (show (p : Int) ≠ 0 by omega)
    have h2 := Int.emod_lt_of_pos (k : Int) hp
    refine ⟨h1, by omega, ⟨-((k : Int) / p), ?_⟩⟩
    have := Int.mul_ediv_add_emod (k : Int) p
    rw [Int.mul_neg]
    omega
  have hs := thr_sorted (rot r k) (r ++ r) r.length
  cases e : thr (rot r k) (r ++ r) r.length with
  | nil => rw [e] at hin; cases hin
  | cons x xs =>
    rw [e] at hin hs
    show x = _
    rcases List.mem_cons.mp hin with q | q
    · exact q.symm
    · exfalso
      have hlt := (List.pairwise_cons.mp hs).1 _ q
      have hx : x ∈ thr (rot r k) (r ++ r) r.length := by rw [e]; exact List.mem_cons_self
      obtain ⟨g1, g2, g3⟩ := (far_mem R hk).mp hx
      have h2 := Int.emod_lt_of_pos (k : Int) hp
      have : x % p = (k : Int) % p := Int.emod_eq_emod_iff_emod_sub_eq_zero.mpr (Int.emod_eq_zero_of_dvd g3)
      rw [Int.emod_eq_of_lt g1 (by omega)] at this
      omega
/-! ### the told turn -/
theorem best_spec : ∀ (xs : List (List Nat)) (x : List Nat), best sLt xs x ∈ x :: xs ∧ ∀ y ∈ x :: xs, best sLt xs x ≤ y
  | [], x => ⟨List.mem_cons_self, fun y hy => by
      rw [List.mem_singleton.mp hy]; exact List.le_refl _⟩
  | z :: xs, x => by
    show best sLt xs (if sLt z x then z else x) ∈ _ ∧ ∀ y ∈ _, best sLt xs (if sLt z x then z else x) ≤ y
    by_cases h : z < x
    · have e : (if sLt z x then z else x) = z := if_pos (decide_eq_true h)
      rw [e]
      obtain ⟨h1, h2⟩ := best_spec xs z
      refine ⟨List.mem_cons_of_mem _ h1, fun y hy => ?_⟩
      rcases List.mem_cons.mp hy with rfl | hy
      · exact List.le_trans (h2 z List.mem_cons_self) (List.le_of_lt h)
      · exact h2 y hy
    · have e : (if sLt z x then z else x) = x := if_neg (by show ¬ decide (z < x) = true; rw [decide_eq_false h]; exact Bool.false_ne_true)
      rw [e]
      obtain ⟨h1, h2⟩ := best_spec xs x
      refine ⟨?_, fun y hy => ?_⟩
      · rcases List.mem_cons.mp h1 with q | q
        · rw [q]; exact List.mem_cons_self
        · exact List.mem_cons_of_mem _ (List.mem_cons_of_mem _ q)
      · rcases List.mem_cons.mp hy with rfl | hy
        · exact h2 y List.mem_cons_self
        · rcases List.mem_cons.mp hy with rfl | hy
          · exact List.le_trans (h2 x List.mem_cons_self) (List.not_lt.mp h)
          · exact h2 y (List.mem_cons_of_mem _ hy)
theorem told_spec {r : List Nat} (h : r ≠ []) : told r ∈ turns r ∧ ∀ y ∈ turns r, told r ≤ y := by
  have hne := turns_ne h
  unfold told
  cases e : turns r with
  | nil => exact absurd e hne
  | cons x xs => exact best_spec xs x
theorem ro_rot {r : List Nat} {k : Nat} (h0 : 0 < r.length) (hk : k ≤ r.length) (i : Nat) : ro (rot r k) i = ro r (i + k) := by
  have hi : i % r.length < r.length := Nat.mod_lt _ h0
  show (rot r k).getD (i % (rot r k).length) 0 = _
  rw [rot_len hk, rot_get hk hi]
  unfold ro
  rw [Nat.mod_add_mod]
theorem rot_rot {r : List Nat} {k j : Nat} (h0 : 0 < r.length) (hk : k ≤ r.length) (hj : j ≤ r.length) : rot (rot r k) j = rot r ((j + k) % r.length) := by
  have hm : (j + k) % r.length ≤ r.length := Nat.le_of_lt (Nat.mod_lt _ h0)
  have hj' : j ≤ (rot r k).length := by rw [rot_len hk]; exact hj
  refine list_ext (by rw [rot_len hj', rot_len hk, rot_len hm]) fun i hi => ?_
  rw [rot_len hj', rot_len hk] at hi
  rw [rot_get hj' (by rw [rot_len hk]; exact hi), rot_get hm hi, ro_rot h0 hk]
  unfold ro
  rw [Nat.add_mod_mod, Nat.add_assoc]
theorem turns_rot {r : List Nat} {k : Nat} (h0 : 0 < r.length) (hk : k ≤ r.length) {t : List Nat} : t ∈ turns (rot r k) ↔ t ∈ turns r := by
  rw [turns_eq, turns_eq, List.mem_map, List.mem_map, rot_len hk]
  constructor
  · rintro ⟨j, hj, rfl⟩
    have hj := List.mem_range.mp hj
    exact ⟨(j + k) % r.length, List.mem_range.mpr (Nat.mod_lt _ h0), (rot_rot h0 hk (by omega)).symm⟩
  · rintro ⟨j, hj, rfl⟩
    have hj := List.mem_range.mp hj
    refine ⟨(j + (r.length - k)) % r.length, List.mem_range.mpr (Nat.mod_lt _ h0), ?_⟩
    rw [rot_rot h0 hk (Nat.le_of_lt (Nat.mod_lt _ h0)), Nat.mod_add_mod, show j + (r.length - k) + k = j + r.length by omega, Nat.add_mod_right, Nat.mod_eq_of_lt hj]
theorem told_rot {r : List Nat} {k : Nat} (hne : r ≠ []) (hk : k ≤ r.length) : told (rot r k) = told r := by
  have h0 : 0 < r.length := List.length_pos_iff.mpr hne
  have hne2 : rot r k ≠ [] := fun e => by have := rot_len hk; rw [e] at this; simp at this; omega
  obtain ⟨a1, a2⟩ := told_spec hne
  obtain ⟨b1, b2⟩ := told_spec hne2
  exact List.le_antisymm (b2 _ ((turns_rot h0 hk).mpr a1)) (a2 _ ((turns_rot h0 hk).mp b1))
theorem told_ok {r : List Nat} (h : okB r) (hne : r ≠ []) : okB (told r) := by
  have hm := (told_spec hne).1
  refine ⟨?_, turns_ok h.2 hm⟩
  rw [turns_eq] at hm
  obtain ⟨k, hk, e⟩ := List.mem_map.mp hm
  rw [← e, rot_len (by have := List.mem_range.mp hk; omega)]
  exact h.1
/-- a rosette as it is drawn -/
def okR0 (r : List Nat) : Prop := r ≠ [] ∧ r.length ≤ 20 ∧ ∀ x ∈ r, 97 ≤ x ∧ x ≤ 99
theorem okR0.okB {r : List Nat} (h : okR0 r) : K00.okB r := ⟨Nat.le_trans h.2.1 (by decide), fun x hx => by have := h.2.2 x hx; omega⟩
theorem rot_ok {r : List Nat} (h : okB r) {k : Nat} (hk : k ≤ r.length) : okB (rot r k) := by
  refine ⟨by rw [rot_len hk]; exact h.1, fun x hx => ?_⟩
  rcases List.mem_append.mp hx with hx | hx
  · exact h.2 x (List.mem_of_mem_drop hx)
  · exact h.2 x (List.mem_of_mem_take hx)
theorem dbl_ok {r : List Nat} (h : okR0 r) : okB (r ++ r) := by
  refine ⟨by rw [List.length_append]; have := h.2.1; omega, fun x hx => ?_⟩
  exact (List.mem_append.mp hx).elim (h.okB.2 x) (h.okB.2 x)
abbrev R_rosette_fine : DRel := fun rs S r S' => ∃ (S0 : List SObj) (L : List Int) (n : Nat) (a : List Nat), rs = [.obj S0.length, .dat (sD a)] ∧ S = S0 ++ [hd L n] ∧ (okL L ∧ okR0 a) ∧ r = .dat (.bool true) ∧ S' = S0 ++ [hd L (n + if 10 < a.length then 0 else 1)]
end K00

/-! k00: what the defs compute -/
namespace K00
open PySem PySem.Spec PyProof.Rows L2 SL
theorem rg1 {r : List Nat} {p c : Nat} (R : Ros r p c) (h : r.length ≤ 20) : RgC ((p : Int) - r.length) r.length p (2 * c - 1) := by
  have hp := R.pos
  have hc := R.cpos
  have hpl : p ≤ r.length := by rw [R.len]; exact Nat.le_mul_of_pos_right _ hc
  have hcl : c ≤ r.length := by rw [R.len]; exact Nat.le_mul_of_pos_left _ hp
  have e : (r.length : Int) = (p : Int) * c := by rw [R.len, Int.natCast_mul]
  have e3 : ((2 * c - 1 : Nat) : Int) = 2 * (c : Int) - 1 := by omega
  have e1 : (((2 * c - 1 : Nat) : Int) - 1) * (p : Int) = 2 * ((p : Int) * c) - 2 * p := by
    rw [e3, Int.sub_mul, Int.sub_mul, Int.mul_assoc, Int.mul_comm (c : Int)]; omega
  have e2 : ((2 * c - 1 : Nat) : Int) * (p : Int) = 2 * ((p : Int) * c) - p := by
    rw [e3, Int.sub_mul, Int.mul_assoc, Int.mul_comm (c : Int)]; omega
  refine rgC_ok (by omega) (by omega) (by omega) (by omega) ?_ ?_ (by omega) (by omega)
  · rw [e1, ← e]; omega
  · rw [e2, ← e]; omega
theorem rg2 {r : List Nat} {p c : Nat} (R : Ros r p c) (h : r.length ≤ 20) : RgC 0 ((r.length : Int) + 1) p (c + 1) := by
  have hp := R.pos
  have hc := R.cpos
  have hpl : p ≤ r.length := by rw [R.len]; exact Nat.le_mul_of_pos_right _ hc
  have hcl : c ≤ r.length := by rw [R.len]; exact Nat.le_mul_of_pos_left _ hp
  have e : (r.length : Int) = (p : Int) * c := by rw [R.len, Int.natCast_mul]
  have e1 : (((c + 1 : Nat) : Int) - 1) * (p : Int) = (p : Int) * c := by
    rw [show (((c + 1 : Nat) : Int) - 1) = c by omega, Int.mul_comm]
  have e2 : ((c + 1 : Nat) : Int) * (p : Int) = (p : Int) * c + p := by
    rw [show ((c + 1 : Nat) : Int) = (c : Int) + 1 by omega, Int.add_mul, Int.mul_comm]; omega
  refine rgC_ok (by omega) (by omega) (by omega) (by omega) ?_ ?_ (by omega) (by omega)
  · rw [e1, ← e]; omega
  · rw [e2, ← e]; omega
end K00

/-! k00: what the defs compute -/
namespace K00
open PySem PySem.Spec PyProof.Rows L2 SL
def ptx (L : List Int) (n k : Nat) (c : Int) : List Nat := ((List.range c.toNat).map fun i => [([97, 98, 99] : List Nat).getD (tk L (k + i) 3).toNat 0]).flatten
theorem ptx_eq (L : List Int) (n k : Nat) (c : Int) : ptx L n k c = (List.range c.toNat).map fun i => ([97, 98, 99] : List Nat).getD (tk L (k + i) 3).toNat 0 := flat_single _ _
theorem ptx_ok (L : List Int) (n k : Nat) {c : Int} (h : 1 ≤ c ∧ c ≤ 5) : ptx L n k c ≠ [] ∧ (ptx L n k c).length ≤ 5 ∧ ∀ x ∈ ptx L n k c, 97 ≤ x ∧ x ≤ 99 := by
  have hl : (ptx L n k c).length = c.toNat := by rw [ptx_eq, List.length_map, List.length_range]
  refine ⟨fun e => by rw [e] at hl; simp at hl; omega, by omega, fun x hx => ?_⟩
  rw [ptx_eq] at hx
  obtain ⟨i, _, rfl⟩ := List.mem_map.mp hx
  have h3 := tk_lt (L := L) (n := k + i) (m := 3) (by decide)
  generalize tk L (k + i) 3 = t at h3
  have : t = 0 ∨ t = 1 ∨ t = 2 := by omega
  rcases this with rfl | rfl | rfl <;> decide
theorem rep_len {α : Type} (z : List α) : ∀ k : Nat, (List.replicate k z).flatten.length = k * z.length
  | 0 => by simp
  | k + 1 => by rw [List.replicate_succ, List.flatten_cons, List.length_append, rep_len z k, Nat.succ_mul]; omega
theorem rep_ok {z : List Nat} (h : z ≠ [] ∧ z.length ≤ 5 ∧ ∀ x ∈ z, 97 ≤ x ∧ x ≤ 99) {o : Int} (ho : 1 ≤ o ∧ o ≤ 4) : okR0 (List.replicate o.toNat z).flatten := by
  obtain ⟨h1, h2, h3⟩ := h
  have hz : 0 < z.length := List.length_pos_iff.mpr h1
  have hl := rep_len z o.toNat
  have l1 : o.toNat * z.length ≤ 4 * 5 := Nat.mul_le_mul (by omega) h2
  have l2 : 1 * 1 ≤ o.toNat * z.length := Nat.mul_le_mul (by omega) hz
  refine ⟨fun e => by rw [e] at hl; simp at hl; omega, by omega, fun x hx => ?_⟩
  obtain ⟨y, hy, hxy⟩ := List.mem_flatten.mp hx
  rw [List.eq_of_mem_replicate hy] at hxy
  exact h3 x hxy
end K00

namespace K00
open PySem PySem.Spec PyProof.Rows L2 SL
def topS (i : Nat) : Stmt := PySem.Challenge.pw_stoneward_k00_whole_boreholes_turned_abo.main.body.getD i (.Pass ⟨0, 0, 0, 0⟩)
abbrev N_agree : List Str := ["one", "other"]
theorem sc_agree : FnScope N_agree ["one", "other"] (defScope (topS 1)) := ⟨rfl, rfl, rfl, by decide +kernel, rfl, by decide +kernel, by decide +kernel⟩
abbrev N_side_by_side : List Str := ["first", "second", "d", "i"]
theorem sc_side_by_side : FnScope N_side_by_side ["first", "second", "d"] (defScope (topS 2)) := ⟨rfl, rfl, rfl, by decide +kernel, rfl, by decide +kernel, by decide +kernel⟩
abbrev N_witness : List Str := ["first", "second", "m", "d", "places", "wrong", "i"]
theorem sc_witness : FnScope N_witness ["first", "second", "m", "d"] (defScope (topS 3)) := ⟨rfl, rfl, rfl, by decide +kernel, rfl, by decide +kernel, by decide +kernel⟩
abbrev N_throws : List Str := ["first", "second", "m", "d"]
theorem sc_throws : FnScope N_throws ["first", "second", "m"] (defScope (topS 4)) := ⟨rfl, rfl, rfl, by decide +kernel, rfl, by decide +kernel, by decide +kernel⟩
abbrev N_surely_slipped : List Str := ["first", "second", "m", "found"]
theorem sc_surely_slipped : FnScope N_surely_slipped ["first", "second", "m"] (defScope (topS 5)) := ⟨rfl, rfl, rfl, by decide +kernel, rfl, by decide +kernel, by decide +kernel⟩
abbrev N_turns_of : List Str := ["rosette", "k"]
theorem sc_turns_of : FnScope N_turns_of ["rosette"] (defScope (topS 7)) := ⟨rfl, rfl, rfl, by decide +kernel, rfl, by decide +kernel, by decide +kernel⟩
abbrev N_told_turn : List Str := ["rosette"]
theorem sc_told_turn : FnScope N_told_turn ["rosette"] (defScope (topS 8)) := ⟨rfl, rfl, rfl, by decide +kernel, rfl, by decide +kernel, by decide +kernel⟩
abbrev N_repeats_of : List Str := ["rosette", "turn"]
theorem sc_repeats_of : FnScope N_repeats_of ["rosette"] (defScope (topS 9)) := ⟨rfl, rfl, rfl, by decide +kernel, rfl, by decide +kernel, by decide +kernel⟩
abbrev N__law_cell : List Str := ["script", "k"]
theorem sc__law_cell : FnScope N__law_cell ["script", "k"] (defScope (topS 11)) := ⟨rfl, rfl, rfl, by decide +kernel, rfl, by decide +kernel, by decide +kernel⟩
abbrev N__law_draws : List Str := ["cell", "count", "rest", "digits", "seed", "draws", "k", "mixed"]
theorem sc__law_draws : FnScope N__law_draws ["cell", "count"] (defScope (topS 12)) := ⟨rfl, rfl, rfl, by decide +kernel, rfl, by decide +kernel, by decide +kernel⟩
abbrev N__law_is_integer : List Str := ["value"]
theorem sc__law_is_integer : FnScope N__law_is_integer ["value"] (defScope (topS 13)) := ⟨rfl, rfl, rfl, by decide +kernel, rfl, by decide +kernel, by decide +kernel⟩
abbrev N__law_is : List Str := ["value", "due", "at"]
theorem sc__law_is : FnScope N__law_is ["value", "due"] (defScope (topS 14)) := ⟨rfl, rfl, rfl, by decide +kernel, rfl, by decide +kernel, by decide +kernel⟩
abbrev N__law_hand : List Str := ["script", "k"]
theorem sc__law_hand : FnScope N__law_hand ["script", "k"] (defScope (topS 15)) := ⟨rfl, rfl, rfl, by decide +kernel, rfl, by decide +kernel, by decide +kernel⟩
abbrev N__law_take : List Str := ["hand", "most", "at"]
theorem sc__law_take : FnScope N__law_take ["hand", "most"] (defScope (topS 16)) := ⟨rfl, rfl, rfl, by decide +kernel, rfl, by decide +kernel, by decide +kernel⟩
abbrev N__law_shuffled : List Str := ["hand", "items", "turn", "left", "row"]
theorem sc__law_shuffled : FnScope N__law_shuffled ["hand", "items"] (defScope (topS 17)) := ⟨rfl, rfl, rfl, by decide +kernel, rfl, by decide +kernel, by decide +kernel⟩
abbrev N__law_in : List Str := ["one", "other", "item"]
theorem sc__law_in : FnScope N__law_in ["one", "other"] (defScope (topS 18)) := ⟨rfl, rfl, rfl, by decide +kernel, rfl, by decide +kernel, by decide +kernel⟩
abbrev N__law_drawn_pair : List Str := ["hand", "signs", "first", "second", "at"]
theorem sc__law_drawn_pair : FnScope N__law_drawn_pair ["hand"] (defScope (topS 19)) := ⟨rfl, rfl, rfl, by decide +kernel, rfl, by decide +kernel, by decide +kernel⟩
abbrev N__law_places : List Str := ["first", "second", "d", "i"]
theorem sc__law_places : FnScope N__law_places ["first", "second", "d"] (defScope (topS 20)) := ⟨rfl, rfl, rfl, by decide +kernel, rfl, by decide +kernel, by decide +kernel⟩
abbrev N__law_pair_fine : List Str := ["hand", "first", "second", "m", "names", "other", "more", "d", "told", "size", "at", "found", "due", "hole", "sign"]
theorem sc__law_pair_fine : FnScope N__law_pair_fine ["hand", "first", "second", "m"] (defScope (topS 21)) := ⟨rfl, rfl, rfl, by decide +kernel, rfl, by decide +kernel, by decide +kernel⟩
abbrev N__law_rosette_fine : List Str := ["hand", "rosette", "size", "part", "at", "turn", "far", "least"]
theorem sc__law_rosette_fine : FnScope N__law_rosette_fine ["hand", "rosette"] (defScope (topS 22)) := ⟨rfl, rfl, rfl, by decide +kernel, rfl, by decide +kernel, by decide +kernel⟩
abbrev N_law : List Str := ["script", "k", "hand", "turn", "part", "often", "m", "first", "second", "at"]
theorem sc_law : FnScope N_law ["script"] (defScope (topS 23)) := ⟨rfl, rfl, rfl, by decide +kernel, rfl, by decide +kernel, by decide +kernel⟩
end K00
/-! the walk of the program's defs -/
namespace K00
open PySem PySem.Spec PyProof.Rows L2 SL

section
variable {P : Program} {w : World} {K : PySem.W.Frag} {mg : Str → Option Value} {base : Heap} {k : Nat} (B : Bl mg) {S : List SObj}
include B
theorem w__law_cell (ns : List Int) (i : Nat) : Exs (ctxOf P w K mg base N__law_cell (defScope (topS 11)) k) (defBody (topS 11)) ⟨[some (.dat (lD iD ns)), some (.dat (.int i))], S⟩ (.rt (.dat (.int (lcell ns i))) S) := by
  conv => arg 2; whnf
  refine exs_ifR (tst_lt (ev_var 1) (ev_lenF B (evq_l (evl_dat (ev_var 0))))) (fun h1 => ?_) (fun h2 => ?_)
  · have h1 := of_decide_eq_true h1
    exact exs_retC (ev_ixLF iD (ev_var 0) (ev_var 1) (by omega)) (by unfold lcell; rw [if_pos (by omega), Int.toNat_natCast]; rfl)
  · have h2 := of_decide_eq_false h2
    exact exs_retC (ev_add (ev_mul ev_int (ev_var 1) (.inl ⟨by decide, by decide⟩)) ev_int) (by unfold lcell; rw [if_neg (by omega)])
def G_draws (S : List SObj) (cell : Int) (n : Nat) (i : Nat) : AS := ⟨[some (.dat (.int cell)), some (.dat (.int n)), some (.dat (.int (drawN (decide ((10 : Int) ^ (18 : Int).toNat ≤ (cell.natAbs : Nat))) (cell.natAbs : Nat) (cell.natAbs : Nat) i).1)), some (.dat (.bool (decide ((10 : Int) ^ (18 : Int).toNat ≤ (cell.natAbs : Nat))))), some (.dat (.int (cell.natAbs : Nat))), some (.own ((drawN (decide ((10 : Int) ^ (18 : Int).toNat ≤ (cell.natAbs : Nat))) (cell.natAbs : Nat) (cell.natAbs : Nat) i).2.map iD)), none, none], S⟩
theorem w__law_draws (cell : Int) (n : Nat) (hn : n ≤ 1000) : Exs (ctxOf P w K mg base N__law_draws (defScope (topS 12)) k) (defBody (topS 12)) ⟨[some (.dat (.int cell)), some (.dat (.int n)), none, none, none, none, none, none], S⟩ (.rt (.dat (lD iD (ldraws cell n))) S) := by
  conv => arg 2; whnf
  refine exs_cons (ex_set 2 (ev_abs B (ev_intI B (ev_var 0)))) ?_
  refine exs_cons (ex_set 3 (ev_ge (ev_var 2) (ev_pow ev_int ev_int ⟨by decide, by decide, by decide⟩))) ?_
  refine exs_cons (ex_set 4 (ev_var 2)) ?_
  refine exs_cons (ex_set 5 (ev_lst (ds := []) eva_nil)) ?_
  refine exs_for (G_draws S cell n) (evi_rn B (ev_var 1) (by omega)) (Wk.refl _) (fun i x hx => ?_) ?_
  · have hi := (List.getElem?_eq_some_iff.mp hx).1
    rw [List.length_map, List.length_range, Int.toNat_natCast] at hi
    rw [List.getElem?_map, List.getElem?_range (by rw [Int.toNat_natCast]; exact hi)] at hx
    cases hx
    refine ⟨_, _, tg_name 6, exs_one (ex_if (tst_w (tw_andB (tst_val (ev_var 3)) (fun h1 => (tw_and1 (tst_gt (ev_var 2) ev_int))))) (fun h1 => ?_) (fun h1 => ?_))⟩
    · refine exs_cons (ex_append 5 (ev_mod (ev_intI B (ev_var 2)) ev_int (by decide)) rfl rfl ?hz) (exs_fgt [6, 7] (exs_one (ex_set 2 (ev_fdiv (ev_var 2) ev_int ⟨by decide, by decide⟩))) ?e)
      case hz => rw [List.length_map, drawN_len]; omega
      case e => show _ = G_draws S cell n (i + 1); unfold G_draws; rw [drawN, drawStep, if_pos h1, List.map_append]; rfl
    · refine exs_cons (ex_set 7 (ev_mod (ev_intI B (ev_add (ev_add (ev_mul (ev_var 4) ev_int (.inr ⟨by decide, by decide⟩)) (ev_mul (ev_add (ev_var 6) ev_int) ev_int (.inr ⟨by decide, by decide⟩))) ev_int)) ev_int (by decide))) ?_
      refine exs_cons (ex_set 7 (ev_mod (ev_intI B (ev_add (ev_mul (ev_var 7) (ev_var 7) (.inl ?b)) (ev_mul ev_int (ev_add (ev_var 6) ev_int) (.inl ⟨by decide, by decide⟩)))) ev_int (by decide))) ?_
      case b => omega
      refine exs_fgt [6, 7] (exs_one (ex_append 5 (ev_mod (ev_intI B (ev_fdiv (ev_var 7) ev_int ⟨by decide, by decide⟩)) ev_int (by decide)) rfl rfl ?hz)) ?e
      case hz => rw [List.length_map, drawN_len]; omega
      case e => show _ = G_draws S cell n (i + 1); unfold G_draws; rw [drawN, drawStep, if_neg (by rw [h1]; exact Bool.false_ne_true), List.map_append]; rfl
  · rw [List.length_map, List.length_range, Int.toNat_natCast]
    exact exs_retOwn 5
theorem w__law_is_integer (v : PyData) : Exs (ctxOf P w K mg base N__law_is_integer (defScope (topS 13)) k) (defBody (topS 13)) ⟨[some (.dat v)], S⟩ (.rt (.dat (.bool (match v with | .int _ => true | _ => false))) S) := by
  conv => arg 2; whnf
  exact exs_retC (ev_andB (ev_isi B (ev_var 0) B.int boot_int (kit_int v)) (fun h1 => ev_one1 (ev_not (ev_isi B (ev_var 0) B.bool boot_bool (kit_bool v))))) (by cases v <;> rfl)
theorem w__law_is0 {n : Nat} (hn64 : n < 60) (c__law_is_integer : Cal P w K mg base k "_law_is_integer" R_is_integer) (v d : PyData) (hv : okP 0 v) (hd : okP 0 d) : Exs (ctxOf P w K mg base N__law_is (defScope (topS 14)) k) (defBody (topS 14)) ⟨[some (.dat v), some (.dat d), none], S⟩ (.rt (.dat (.bool (isD v d))) S) := by
  conv => arg 2; whnf
  have sv : Shp v := okP_shp hv (by omega)
  have sd : Shp d := okP_shp hd (by omega)
  cases hd with
  | none => exact exs_ifT (tst_conv (tst_isN (ev_var 1)) rfl) (exs_retC (ev_isN (ev_var 0)) (by rw [isD]))
  | bool b =>
    refine exs_ifF (tst_conv (tst_isN (ev_var 1)) rfl) ?_
    refine exs_ifT (tst_conv (tst_val (ev_isi B (ev_var 1) B.bool boot_bool (kit_bool _))) rfl) ?_
    exact exs_retC (ev_andB (ev_isi B (ev_var 0) B.bool boot_bool (kit_bool v)) (fun h1 => ev_one1 (ev_eq (ev_var 0) (ev_var 1) sv sd))) (by cases v <;> (try rfl) <;> simp [isD, isBoolB, PyData.eqv])
  | int b =>
    refine exs_ifF (tst_conv (tst_isN (ev_var 1)) rfl) ?_
    refine exs_ifF (tst_conv (tst_val (ev_isi B (ev_var 1) B.bool boot_bool (kit_bool _))) rfl) ?_
    refine exs_ifT (tst_conv (tst_val (ev_isi B (ev_var 1) B.int boot_int (kit_int _))) rfl) ?_
    exact exs_retC (ev_andB (ev_call c__law_is_integer (eva_d (ev_var 0) eva_nil) ⟨v, rfl, rfl, rfl⟩) (fun h1 => ev_one1 (ev_eq (ev_var 0) (ev_var 1) sv sd))) (by cases v <;> (try rfl) <;> simp [isD, PyData.eqv])
  | str x hx =>
    refine exs_ifF (tst_conv (tst_isN (ev_var 1)) rfl) ?_
    refine exs_ifF (tst_conv (tst_val (ev_isi B (ev_var 1) B.bool boot_bool (kit_bool _))) rfl) ?_
    refine exs_ifF (tst_conv (tst_val (ev_isi B (ev_var 1) B.int boot_int (kit_int _))) rfl) ?_
    refine exs_ifT (tst_conv (tst_val (ev_isi B (ev_var 1) B.str boot_str (kit_str _))) rfl) ?_
    exact exs_retC (ev_andB (ev_isi B (ev_var 0) B.str boot_str (kit_str v)) (fun h1 => ev_one1 (ev_eq (ev_var 0) (ev_var 1) sv sd))) (by cases v <;> (try rfl) <;> simp [isD, isStrB, PyData.eqv])
theorem w__law_isS {n : Nat} (hn64 : n < 60) (c__law_is : Cal P w K mg base k "_law_is" (R_is n)) (c__law_is_integer : Cal P w K mg base k "_law_is_integer" R_is_integer) (v d : PyData) (hv : okP (n + 1) v) (hd : okP (n + 1) d) : Exs (ctxOf P w K mg base N__law_is (defScope (topS 14)) k) (defBody (topS 14)) ⟨[some (.dat v), some (.dat d), none], S⟩ (.rt (.dat (.bool (isD v d))) S) := by
  conv => arg 2; whnf
  have sv : Shp v := okP_shp hv (by omega)
  have sd : Shp d := okP_shp hd (by omega)
  cases hd with
  | none => exact exs_ifT (tst_conv (tst_isN (ev_var 1)) rfl) (exs_retC (ev_isN (ev_var 0)) (by rw [isD]))
  | bool b =>
    refine exs_ifF (tst_conv (tst_isN (ev_var 1)) rfl) ?_
    refine exs_ifT (tst_conv (tst_val (ev_isi B (ev_var 1) B.bool boot_bool (kit_bool _))) rfl) ?_
    exact exs_retC (ev_andB (ev_isi B (ev_var 0) B.bool boot_bool (kit_bool v)) (fun h1 => ev_one1 (ev_eq (ev_var 0) (ev_var 1) sv sd))) (by cases v <;> (try rfl) <;> simp [isD, isBoolB, PyData.eqv])
  | int b =>
    refine exs_ifF (tst_conv (tst_isN (ev_var 1)) rfl) ?_
    refine exs_ifF (tst_conv (tst_val (ev_isi B (ev_var 1) B.bool boot_bool (kit_bool _))) rfl) ?_
    refine exs_ifT (tst_conv (tst_val (ev_isi B (ev_var 1) B.int boot_int (kit_int _))) rfl) ?_
    exact exs_retC (ev_andB (ev_call c__law_is_integer (eva_d (ev_var 0) eva_nil) ⟨v, rfl, rfl, rfl⟩) (fun h1 => ev_one1 (ev_eq (ev_var 0) (ev_var 1) sv sd))) (by cases v <;> (try rfl) <;> simp [isD, PyData.eqv])
  | str x hx =>
    refine exs_ifF (tst_conv (tst_isN (ev_var 1)) rfl) ?_
    refine exs_ifF (tst_conv (tst_val (ev_isi B (ev_var 1) B.bool boot_bool (kit_bool _))) rfl) ?_
    refine exs_ifF (tst_conv (tst_val (ev_isi B (ev_var 1) B.int boot_int (kit_int _))) rfl) ?_
    refine exs_ifT (tst_conv (tst_val (ev_isi B (ev_var 1) B.str boot_str (kit_str _))) rfl) ?_
    exact exs_retC (ev_andB (ev_isi B (ev_var 0) B.str boot_str (kit_str v)) (fun h1 => ev_one1 (ev_eq (ev_var 0) (ev_var 1) sv sd))) (by cases v <;> (try rfl) <;> simp [isD, isStrB, PyData.eqv])
  | tuple ds hds hdl =>
    refine exs_ifF (tst_conv (tst_isN (ev_var 1)) rfl) ?_
    refine exs_ifF (tst_conv (tst_val (ev_isi B (ev_var 1) B.bool boot_bool (kit_bool _))) rfl) ?_
    refine exs_ifF (tst_conv (tst_val (ev_isi B (ev_var 1) B.int boot_int (kit_int _))) rfl) ?_
    refine exs_ifF (tst_conv (tst_val (ev_isi B (ev_var 1) B.str boot_str (kit_str _))) rfl) ?_
    by_cases hvt : isTupB v = true
    · cases hv with
      | tuple vs hvs hvl =>
        refine exs_ifR (tst_w (tw_orB (tst_not (tst_val (ev_isi B (ev_var 0) B.tuple boot_tuple (kit_tup _)))) (fun h1 => tw_or1 (tst_neI (ev_len B (evq_t (ev_var 0))) (ev_len B (evq_t (ev_var 1))))))) (fun h1 => ?_) (fun h1 => ?_)
        · have hne : ¬ vs.length = ds.length := fun z => by simp [isTupB, z] at h1
          exact exs_retC ev_bool (by rw [isD]; simp [hne])
        · have heq : vs.length = ds.length := by
            simp [isTupB] at h1
            omega
          refine exs_retC (ev_allF B (evl_own (ev_mapF PyData.bool [("at", 2)] (evi_rn B (ev_len B (evq_t (ev_var 1))) (by omega)) (fun i hi => turn_name 2 (tg_name 2) tsti_nil (fun _ => ev_call c__law_is (eva_d (ev_ix (d := vs.getD i .none) (ev_var 0) (ev_var 2) ?g1 (by exact trivial)) (eva_d (ev_ix (d := ds.getD i .none) (ev_var 1) (ev_var 2) ?g2 (by exact trivial)) eva_nil)) ⟨_, _, rfl, ⟨?g3, ?g4⟩, rfl, rfl⟩))))) ?e
          case g1 => have hi := List.mem_range.mp hi; rw [Int.toNat_natCast] at hi; exact atI_nat (by rw [List.getD_eq_getElem?_getD, List.getElem?_eq_getElem (by omega)]; rfl)
          case g2 => have hi := List.mem_range.mp hi; rw [Int.toNat_natCast] at hi; exact atI_nat (by rw [List.getD_eq_getElem?_getD, List.getElem?_eq_getElem (by omega)]; rfl)
          case g3 => have hi := List.mem_range.mp hi; rw [Int.toNat_natCast] at hi; exact hvs _ (by rw [List.getD_eq_getElem?_getD, List.getElem?_eq_getElem (by omega)]; exact List.getElem_mem _)
          case g4 => have hi := List.mem_range.mp hi; rw [Int.toNat_natCast] at hi; exact hds _ (by rw [List.getD_eq_getElem?_getD, List.getElem?_eq_getElem (by omega)]; exact List.getElem_mem _)
          case e => exact rt_eq (by rw [Int.toNat_natCast, isDs_range vs ds heq, isD]; simp [heq])
      | none => cases hvt
      | bool _ => cases hvt
      | int _ => cases hvt
      | str _ _ => cases hvt
    · have hvt : isTupB v = false := by simpa using hvt
      refine exs_ifT (tst_conv (tst_w (tw_or (k := !isTupB v) (l := true) (tst_not (tst_val (ev_isi B (ev_var 0) B.tuple boot_tuple (kit_tup _)))) (fun h1 => by rw [hvt] at h1; cases h1) (fun _ => rfl))) (by rw [hvt]; rfl)) ?_
      exact exs_retC ev_bool (by cases v <;> first | rfl | cases hvt)
theorem w__law_hand (c__law_cell : Cal P w K mg base k "_law_cell" R_cell) (c__law_draws : Cal P w K mg base k "_law_draws" R_draws) (ns : List Int) (i : Nat) : Exs (ctxOf P w K mg base N__law_hand (defScope (topS 15)) k) (defBody (topS 15)) ⟨[some (.dat (lD iD ns)), some (.dat (.int i))], S⟩ (.rt (.obj S.length) (S ++ [hd (ldraws (lcell ns i) 120) 0])) := by
  conv => arg 2; whnf
  exact exs_retOC (ev_disp2 (.inr "draws") (.inr "at") ev_str (ev_call c__law_draws (eva_d (ev_call c__law_cell (eva_d (ev_var 0) (eva_d (ev_var 1) eva_nil)) (by exact ⟨ns, i, rfl, rfl, rfl⟩)) (eva_d ev_int eva_nil)) (by exact ⟨lcell ns i, 120, rfl, by omega, rfl, rfl⟩)) ev_str ev_int (fun z => draws_at (Sum.inr.inj z))) rfl
theorem w__law_take (S0 : List SObj) (L : List Int) (n : Nat) (m : Int) (hL : okL L) (hm : 0 < m) : Exs (ctxOf P w K mg base N__law_take (defScope (topS 16)) k) (defBody (topS 16)) ⟨[some (.obj S0.length), some (.dat (.int m)), none], S0 ++ [hd L n]⟩ (.rt (.dat (.int (tk L n m))) (S0 ++ [hd L (n + 1)])) := by
  conv => arg 2; whnf
  refine exs_cons (ex_set 2 (ev_dget (.inr "at") (ev_obj 0) ev_str (at_end S0 _) (hd_at L n))) ?_
  refine exs_cons (ex_dput (.inr "at") (ev_add (ev_var 2) ev_int) (ev_obj 0) ev_str (at_end S0 _) (hl := Nat.le_of_ble_eq_true rfl)) ?_
  have e1 : ((n : Int) + 1) = ((n + 1 : Nat) : Int) := by omega
  rw [e1, hd_put]
  have e2 : (S0 ++ [hd L n]).set S0.length (.dk [(.inr (Str.ofString "draws"), lD iD L), (.inr (Str.ofString "at"), .int ((n + 1 : Nat) : Int))]) = S0 ++ [hd L (n + 1)] := set_end S0 _ _
  refine exs_pre (s1 := ⟨[some (.obj S0.length), some (.dat (.int m)), some (.dat (.int n))], S0 ++ [hd L (n + 1)]⟩) (by rw [← e2]; exact Wk.refl _) ?_
  have t3 := tab3 (n / 120)
  refine exs_retC (ev_mod (ev_add (ev_fdiv (ev_intI B (ev_ixLF iD (ev_dget (.inr "draws") (ev_obj 0) ev_str (at_end S0 _) (hd_draws L (n + 1))) (ev_mod (ev_var 2) ev_int (by decide)) ?g1)) (ev_ixTF iD (ev_tup (ds := [_, _, _].map iD) (eva_d ev_int (eva_d ev_int (eva_d ev_int eva_nil)))) (ev_mod (ev_fdiv (ev_var 2) ev_int ⟨by decide, by decide⟩) ev_int (by decide)) ?g2) ?g3) (ev_fdiv (ev_var 2) ev_int ⟨by decide, by decide⟩)) (ev_var 1) hm) ?e
  case g1 => rw [hL.1]; omega
  case g2 => show _ ∧ _ < ((3 : Nat) : Int); omega
  case g3 => have q : ((n : Int) / 120 % 3).toNat = n / 120 % 3 := by omega
             rw [q]; exact t3
  case e =>
    refine rt_eq ?_
    have q1 : ((n : Int) % 120).toNat = n % 120 := by omega
    have q2 : ((n : Int) / 120 % 3).toNat = n / 120 % 3 := by omega
    rw [q1, q2]
    rfl
def G_shuf {α : Type} [Inhabited α] (F : α → PyData) (S0 : List SObj) (L : List Int) (n : Nat) (it : PyData) (xs : List α) (i : Nat) : AS := ⟨[some (.obj S0.length), some (.dat it), none, some (.own ((shN L n xs i).1.map F)), some (.own ((shN L n xs i).2.map F))], S0 ++ [hd L (n + i)]⟩
theorem w__law_shuffledL (c__law_take : Cal P w K mg base k "_law_take" R_take) {α : Type} [Inhabited α] (F : α → PyData) (S0 : List SObj) (L : List Int) (n : Nat) (xs : List α) (hL : okL L) (hx : xs.length ≤ 100000) : Exs (ctxOf P w K mg base N__law_shuffled (defScope (topS 17)) k) (defBody (topS 17)) ⟨[some (.obj S0.length), some (.dat (lD F xs)), none, none, none], S0 ++ [hd L n]⟩ (.rt (.dat (tD F (shuf L n xs))) (S0 ++ [hd L (n + xs.length)])) := by
  conv => arg 2; whnf
  refine exs_cons (ex_parOO 3 4 (ev_list B (evq_l (evl_dat (ev_var 1)))) (ev_lst (ds := []) eva_nil) (hw := fun env h => by cases env; cases h; rfl)) ?_
  refine exs_for (G_shuf F S0 L n (lD F xs) xs) (evi_rn B (ev_lenF B (evq_l (evl_dat (ev_var 1)))) (by omega)) (Wk.refl _) (fun i x hx => ?_) ?_
  · have hi := (List.getElem?_eq_some_iff.mp hx).1
    rw [List.length_map, List.length_range, Int.toNat_natCast] at hi
    rw [List.getElem?_map, List.getElem?_range (by rw [Int.toNat_natCast]; exact hi)] at hx
    cases hx
    obtain ⟨p1, p2, p3⟩ := shN_perm L n xs i (by omega)
    have hpos : 0 < (shN L n xs i).1.length := by omega
    have ht := tk_lt (L := L) (n := n + i) (m := ((shN L n xs i).1.length : Nat)) (by omega)
    refine ⟨_, _, tg_name 2, ?_⟩
    refine exs_fgt [2] (exs_one (ex_append 4 (ev_popAt 3 (n := (tk L (n + i) ((shN L n xs i).1.length : Nat)).toNat) (d := F ((shN L n xs i).1.getD (tk L (n + i) ((shN L n xs i).1.length : Nat)).toNat default)) (ev_conv (ev_tk c__law_take hL 0 (ev_lenF B (evq_l (evl_var 3))) (by omega)) ?c1) ?c2 ?c3) rfl rfl ?c4)) ?e
    case c1 => show PyData.int _ = PyData.int _; rw [Int.toNat_of_nonneg ht.1]
    case c2 => rw [List.getElem?_map, List.getD_eq_getElem?_getD, List.getElem?_eq_getElem (by omega)]; rfl
    case c3 => omega
    case c4 => rw [List.length_map]; omega
    case e => show _ = G_shuf F S0 L n (lD F xs) xs (i + 1); unfold G_shuf; rw [shN]; simp only [List.map_append, List.map_cons, List.map_nil]; rw [← erase_map]; rfl
  · rw [List.length_map, List.length_range, Int.toNat_natCast]
    exact exs_retC (ev_tuple B (evl_var 4)) rfl
theorem w__law_shuffledT (c__law_take : Cal P w K mg base k "_law_take" R_take) {α : Type} [Inhabited α] (F : α → PyData) (S0 : List SObj) (L : List Int) (n : Nat) (xs : List α) (hL : okL L) (hx : xs.length ≤ 100000) : Exs (ctxOf P w K mg base N__law_shuffled (defScope (topS 17)) k) (defBody (topS 17)) ⟨[some (.obj S0.length), some (.dat (tD F xs)), none, none, none], S0 ++ [hd L n]⟩ (.rt (.dat (tD F (shuf L n xs))) (S0 ++ [hd L (n + xs.length)])) := by
  conv => arg 2; whnf
  refine exs_cons (ex_parOO 3 4 (ev_list B (evq_t (ev_var 1))) (ev_lst (ds := []) eva_nil) (hw := fun env h => by cases env; cases h; rfl)) ?_
  refine exs_for (G_shuf F S0 L n (tD F xs) xs) (evi_rn B (ev_lenF B (evq_t (ev_var 1))) (by omega)) (Wk.refl _) (fun i x hx => ?_) ?_
  · have hi := (List.getElem?_eq_some_iff.mp hx).1
    rw [List.length_map, List.length_range, Int.toNat_natCast] at hi
    rw [List.getElem?_map, List.getElem?_range (by rw [Int.toNat_natCast]; exact hi)] at hx
    cases hx
    obtain ⟨p1, p2, p3⟩ := shN_perm L n xs i (by omega)
    have hpos : 0 < (shN L n xs i).1.length := by omega
    have ht := tk_lt (L := L) (n := n + i) (m := ((shN L n xs i).1.length : Nat)) (by omega)
    refine ⟨_, _, tg_name 2, ?_⟩
    refine exs_fgt [2] (exs_one (ex_append 4 (ev_popAt 3 (n := (tk L (n + i) ((shN L n xs i).1.length : Nat)).toNat) (d := F ((shN L n xs i).1.getD (tk L (n + i) ((shN L n xs i).1.length : Nat)).toNat default)) (ev_conv (ev_tk c__law_take hL 0 (ev_lenF B (evq_l (evl_var 3))) (by omega)) ?c1) ?c2 ?c3) rfl rfl ?c4)) ?e
    case c1 => show PyData.int _ = PyData.int _; rw [Int.toNat_of_nonneg ht.1]
    case c2 => rw [List.getElem?_map, List.getD_eq_getElem?_getD, List.getElem?_eq_getElem (by omega)]; rfl
    case c3 => omega
    case c4 => rw [List.length_map]; omega
    case e => show _ = G_shuf F S0 L n (tD F xs) xs (i + 1); unfold G_shuf; rw [shN]; simp only [List.map_append, List.map_cons, List.map_nil]; rw [← erase_map]; rfl
  · rw [List.length_map, List.length_range, Int.toNat_natCast]
    exact exs_retC (ev_tuple B (evl_var 4)) rfl
theorem w__law_inI (xs ys : List Int) : Exs (ctxOf P w K mg base N__law_in (defScope (topS 18)) k) (defBody (topS 18)) ⟨[some (.dat (tD iD xs)), some (.dat (tD iD ys)), none], S⟩ (.rt (.dat (.bool (xs.all fun x => decide (x ∈ ys)))) S) := by
  conv => arg 2; whnf
  refine exs_retC (ev_allF B (evl_own (ev_mapF PyData.bool [("item", 2)] (evi_tup (ev_var 0)) (fun x hx => turn_name 2 (tg_name 2) tsti_nil (fun _ => ev_inI (ev_var 2) (ev_var 1)))))) (rt_eq (by rw [List.all_map]; rfl))
end
end K00

/-! the walk of the program's defs -/
namespace K00
open PySem PySem.Spec PyProof.Rows L2 SL

local macro_rules | `(tactic| walk_at "side") => `(tactic| first
  | omega
  | exact ne_len (by assumption)
  | assumption
  | exact ⟨by assumption, by assumption⟩
  | (unfold okB at *; omega)
  | exact (sbs_in (by assumption)).1
  | exact (sbs_in (by assumption)).2
  | exact ⟨okS_get (And.right (by assumption)) _, okS_get (And.right (by assumption)) _⟩
  | exact turns_ok (And.right (by assumption)) (by assumption)
  | exact And.right (by assumption)
  | exact turns_ne (by assumption)
  | exact cut_two (by assumption)
  | exact one_len (by assumption)
  | exact okP_ti (by assumption)
  | trivial)

section
variable {P : Program} {w : World} {K : PySem.W.Frag} {mg : Str → Option Value} {base : Heap} {k : Nat} (B : Bl mg) {S : List SObj}
include B
local macro_rules | `(tactic| walk_at "conv") => `(tactic| rfl)
theorem w_agree {x y : List Nat} (hx : okS x) (hy : okS y) : Exs (ctxOf P w K mg base N_agree (defScope (topS 1)) k) (defBody (topS 1)) ⟨[some (.dat (sD x)), some (.dat (sD y))], S⟩ (.rt (.dat (.bool (agr x y))) S) := by
  conv => arg 2; whnf
  exact exs_retC (ev_orB (ev_eqSL (ev_var 0) (ev_var 1) (by walk_at "side") (by walk_at "side")) (fun h1 => (ev_one1 (ev_inSL (ev_strL [63] (by decide +kernel)) (ev_tup (ds := [_, _].map sD) (eva_d (ev_var 0) (eva_d (ev_var 1) eva_nil))))))) (by walk_at "conv")
local macro_rules | `(tactic| walk_at "conv") => `(tactic| rfl)
theorem w_side_by_side {a b : List Nat} {d : Int} (ha : a.length ≤ 1000) (hb : b.length ≤ 1000) : Exs (ctxOf P w K mg base N_side_by_side (defScope (topS 2)) k) (defBody (topS 2)) ⟨[some (.dat (sD a)), some (.dat (sD b)), some (.dat (iD d)), none], S⟩ (.rt (.dat (lD iD (sbs a b d))) S) := by
  conv => arg 2; whnf
  exact exs_retC (ev_frz (ev_compF iD [("i", 3)] (evi_rn B (ev_lenL B (ev_var 0) (by walk_at "side")) (by walk_at "side")) (fun a h1 => turn_name 3 (tg_name 3) (tsti_one (tst_chainI ev_int (ev_add (ev_var 3) (ev_var 2)) (ev_lenL B (ev_var 1) (by walk_at "side")))) (fun h2 => (ev_var 3))))) (by walk_at "conv")
local macro_rules | `(tactic| walk_at "conv") => `(tactic| first | exact rt_eq (wit_c1 (by assumption)) | exact rt_eq (wit_c2 (by assumption)))
theorem w_witness (c_agree : Cal P w K mg base k "agree" R_agree) (c_side_by_side : Cal P w K mg base k "side_by_side" R_side_by_side) {a b : List Nat} {m d : Int} (ha : okB a) (hb : okB b) : Exs (ctxOf P w K mg base N_witness (defScope (topS 3)) k) (defBody (topS 3)) ⟨[some (.dat (sD a)), some (.dat (sD b)), some (.dat (iD m)), some (.dat (iD d)), none, none, none], S⟩ (.rt (.dat (oD iD (wit a b m d))) S) := by
  conv => arg 2; whnf
  refine exs_cons (ex_set 4 (ev_call c_side_by_side (eva_d (ev_var 0) (eva_d (ev_var 1) (eva_d (ev_var 3) eva_nil))) ⟨_, _, _, rfl, (by walk_at "side"), rfl, rfl⟩)) ?_
  refine exs_ifR (tst_lt (ev_lenF B (evq_l (evl_dat (ev_var 4)))) (ev_var 2)) (fun h1 => ?_) (fun h2 => ?_)
  · skip
    exact exs_retC (ev_neg ev_int) (by walk_at "conv")
  · skip
    refine exs_cons (ex_frzC 5 (ex_compF iD 5 [("i", 6)] (evi_list (ev_var 4)) (fun a h3 => turn_name 6 (tg_name 6) (tsti_one (tst_not (tst_val (ev_call c_agree (eva_d (ev_ixS0 (ev_var 0) (ev_var 6) (by walk_at "side") (by walk_at "side")) (eva_d (ev_ixS0 (ev_var 1) (ev_add (ev_var 6) (ev_var 3)) (by walk_at "side") (by walk_at "side")) eva_nil)) ⟨_, _, rfl, (by walk_at "side"), rfl, rfl⟩)))) (fun h4 => (ev_var 6))))) ?_
    exact exs_retC (ev_ifF (oD iD) (x := some _) (y := none) (tst_truLD (ev_var 5)) (fun h5 => (ev_ixLF iD (ev_var 5) ev_int (by walk_at "side"))) (fun h6 => ev_none)) (by walk_at "conv")
local macro_rules | `(tactic| walk_at "conv") => `(tactic| rfl)
theorem w_throws (c_witness : Cal P w K mg base k "witness" R_witness) {a b : List Nat} {m : Int} (ha : okB a) (hb : okB b) : Exs (ctxOf P w K mg base N_throws (defScope (topS 4)) k) (defBody (topS 4)) ⟨[some (.dat (sD a)), some (.dat (sD b)), some (.dat (iD m)), none], S⟩ (.rt (.dat (tD iD (thr a b m))) S) := by
  conv => arg 2; whnf
  exact exs_retC (ev_tuple B (evl_own (ev_compF iD [("d", 3)] (evi_rn2 B (ev_neg (ev_lenL B (ev_var 0) (by walk_at "side"))) (ev_add (ev_lenL B (ev_var 1) (by walk_at "side")) ev_int) (by walk_at "side")) (fun a h1 => turn_name 3 (tg_name 3) (tsti_one (tst_isNF (ev_call c_witness (eva_d (ev_var 0) (eva_d (ev_var 1) (eva_d (ev_var 2) (eva_d (ev_var 3) eva_nil)))) ⟨_, _, _, _, rfl, (by walk_at "side"), rfl, rfl⟩))) (fun h2 => (ev_var 3)))))) (by walk_at "conv")
local macro_rules | `(tactic| walk_at "conv") => `(tactic| rfl)
theorem w_surely_slipped (c_throws : Cal P w K mg base k "throws" R_throws) {a b : List Nat} {m : Int} (ha : okB a) (hb : okB b) : Exs (ctxOf P w K mg base N_surely_slipped (defScope (topS 5)) k) (defBody (topS 5)) ⟨[some (.dat (sD a)), some (.dat (sD b)), some (.dat (iD m)), none], S⟩ (.rt (.dat (oD iD (slip a b m))) S) := by
  conv => arg 2; whnf
  refine exs_cons (ex_set 3 (ev_call c_throws (eva_d (ev_var 0) (eva_d (ev_var 1) (eva_d (ev_var 2) eva_nil))) ⟨_, _, _, rfl, (by walk_at "side"), rfl, rfl⟩)) ?_
  exact exs_retC (ev_ifF (oD iD) (x := some _) (y := none) (tst_eqI (ev_lenF B (evq_t (ev_var 3))) ev_int) (fun h1 => (ev_ixTF iD (ev_var 3) ev_int (by walk_at "side"))) (fun h2 => ev_none)) (by walk_at "conv")
local macro_rules | `(tactic| walk_at "conv") => `(tactic| rfl)
theorem w_turns_of {r : List Nat} (hr : okB r) : Exs (ctxOf P w K mg base N_turns_of (defScope (topS 7)) k) (defBody (topS 7)) ⟨[some (.dat (sD r)), none], S⟩ (.rt (.dat (lD sD (turns r))) S) := by
  conv => arg 2; whnf
  exact exs_retC (ev_frz (ev_mapF sD [("k", 1)] (evi_rn B (ev_lenL B (ev_var 0) (by walk_at "side")) (by walk_at "side")) (fun a h1 => turn_name 1 (tg_name 1) tsti_nil (fun h2 => (ev_catSL (ev_slSL (ev_var 0) (evo_s (ev_var 1)) evo_n (by walk_at "side")) (ev_slSL (ev_var 0) evo_n (evo_s (ev_var 1)) (by walk_at "side")) (by walk_at "side")))))) (by walk_at "conv")
local macro_rules | `(tactic| walk_at "conv") => `(tactic| rfl)
theorem w_told_turn (c_turns_of : Cal P w K mg base k "turns_of" R_turns_of) {r : List Nat} (hr : okB r) (hne : r ≠ []) : Exs (ctxOf P w K mg base N_told_turn (defScope (topS 8)) k) (defBody (topS 8)) ⟨[some (.dat (sD r))], S⟩ (.rt (.dat (sD (told r))) S) := by
  conv => arg 2; whnf
  exact exs_retC (ev_minSF B (evl_dat (ev_call c_turns_of (eva_d (ev_var 0) eva_nil) ⟨_, rfl, (by walk_at "side"), rfl, rfl⟩)) (by walk_at "side")) (by walk_at "conv")
local macro_rules | `(tactic| walk_at "conv") => `(tactic| rfl)
theorem w_repeats_of (c_turns_of : Cal P w K mg base k "turns_of" R_turns_of) {r : List Nat} (hr : okB r) : Exs (ctxOf P w K mg base N_repeats_of (defScope (topS 9)) k) (defBody (topS 9)) ⟨[some (.dat (sD r)), none], S⟩ (.rt (.dat (iD (reps r))) S) := by
  conv => arg 2; whnf
  exact exs_retC (ev_lenF B (evq_l (evl_own (ev_compF sD [("turn", 1)] (evi_list (ev_call c_turns_of (eva_d (ev_var 0) eva_nil) ⟨_, rfl, (by walk_at "side"), rfl, rfl⟩)) (fun a h1 => turn_name 1 (tg_name 1) (tsti_one (tst_eqSL (ev_var 1) (ev_var 0) (by walk_at "side") (by walk_at "side"))) (fun h2 => (ev_var 1))))))) (by walk_at "conv")
local macro_rules | `(tactic| walk_at "conv") => `(tactic| rfl)
theorem w__law_places {a b : List Nat} {d : Int} (ha : okB a) (hb : okB b) : Exs (ctxOf P w K mg base N__law_places (defScope (topS 20)) k) (defBody (topS 20)) ⟨[some (.dat (sD a)), some (.dat (sD b)), some (.dat (iD d)), none], S⟩ (.rt (.dat (.int (sbs a b d).length)) S) := by
  conv => arg 2; whnf
  exact exs_retC (ev_lenF B (evq_l (evl_own (ev_compF iD [("i", 3)] (evi_rn B (ev_lenL B (ev_var 0) (by walk_at "side")) (by walk_at "side")) (fun a h1 => turn_name 3 (tg_name 3) (tsti_one (tst_chainI ev_int (ev_add (ev_var 3) (ev_var 2)) (ev_lenL B (ev_var 1) (by walk_at "side")))) (fun h2 => (ev_var 3))))))) (by walk_at "conv")
end
end K00

/-! the walk of the program's defs -/
namespace K00
open PySem PySem.Spec PyProof.Rows L2 SL

local macro_rules | `(tactic| walk_at "side") => `(tactic| first
  | omega
  | exact ne_len (by assumption)
  | assumption
  | exact ⟨by assumption, by assumption⟩
  | (unfold okB at *; omega)
  | exact (sbs_in (by assumption)).1
  | exact (sbs_in (by assumption)).2
  | exact ⟨okS_get (And.right (by assumption)) _, okS_get (And.right (by assumption)) _⟩
  | exact turns_ok (And.right (by assumption)) (by assumption)
  | exact And.right (by assumption)
  | exact turns_ne (by assumption)
  | exact cut_two (by assumption)
  | exact one_len (by assumption)
  | exact okP_ti (by assumption)
  | trivial)

section
variable {P : Program} {w : World} {K : PySem.W.Frag} {mg : Str → Option Value} {base : Heap} {k : Nat} (B : Bl mg) {S : List SObj}
include B
theorem w__law_drawn_pair (c__law_take : Cal P w K mg base k "_law_take" R_take) (S0 : List SObj) (L : List Int) (n : Nat) (hL : okL L) : Exs (ctxOf P w K mg base N__law_drawn_pair (defScope (topS 19)) k) (defBody (topS 19)) ⟨[some (.obj S0.length), none, none, none, none], S0 ++ [hd L n]⟩ (.rt (.dat (.tuple [sD (drawn L n).1.1, sD (drawn L n).1.2])) (S0 ++ [hd L (drawn L n).2])) := by
  conv => arg 2; whnf
  refine exs_cons (ex_set 1 (ev_ixTF sD (ev_tup (ds := [_, _, _, _].map sD) (eva_d (ev_strL [97, 98, 63] (by decide +kernel)) (eva_d (ev_strL [97, 98, 99] (by decide +kernel)) (eva_d (ev_strL [97, 98, 99, 100, 63] (by decide +kernel)) (eva_d (ev_strL [97, 98] (by decide +kernel)) eva_nil))))) (ev_tk c__law_take hL 0 ev_int (by decide)) (tk_lt (by decide)))) ?_
  refine exs_cons (ex_set 2 (ev_joinE (evq_l (evl_own (ev_lcR sD [("at", 4)] (fun i => S0 ++ [hd L (n + 1 + 1 + i)]) (fun i => [(sgn L n).getD (tk L (n + 1 + 1 + i) (sgn L n).length).toNat 0]) (evi_rn B (ev_tk c__law_take hL 0 ev_int (by decide)) (tk_small (by decide) (by decide)) (tk_low (by decide))) rfl (fun i hi => turn_nameS 4 (tg_name 4) (ev_ixS0 (ev_var 1) (ev_tk c__law_take hL 0 (ev_lenL B (ev_var 1) (sgn_len L n).2) (sgn_pos L n)) (tk_lt (sgn_pos L n)) (sgn_len L n).2))))) rfl (dtext_len L n (n + 1 + 1) _ (by decide) (by decide)))) ?_
  refine exs_cons (ex_set 3 (ev_joinE (evq_l (evl_own (ev_lcR sD [("at", 4)] (fun i => S0 ++ [hd L (N2 L n + 1 + i)]) (fun i => [(sgn L n).getD (tk L (N2 L n + 1 + i) (sgn L n).length).toNat 0]) (evi_rn B (ev_tk c__law_take hL 0 ev_int (by decide)) (tk_small (by decide) (by decide)) (tk_low (by decide))) rfl (fun i hi => turn_nameS 4 (tg_name 4) (ev_ixS0 (ev_var 1) (ev_tk c__law_take hL 0 (ev_lenL B (ev_var 1) (sgn_len L n).2) (sgn_pos L n)) (tk_lt (sgn_pos L n)) (sgn_len L n).2))))) rfl (dtext_len L n (N2 L n + 1) _ (by decide) (by decide)))) ?_
  refine exs_if2 (tst_gt (ev_tk c__law_take hL 0 ev_int (by decide)) ev_int) (fun h => ?_) (fun h => ?_)
  · refine ⟨_, exs_one (ex_set 3 (ev_slSL (ev_catSL (ev_slSL (ev_var 2) (evo_s (ev_tk c__law_take hL 0 (ev_add (ev_lenL B (ev_var 2) (d1_len L n)) ev_int) (by omega))) evo_n (d1_len L n)) (ev_var 3) (dr_len1 L n _)) evo_n (evo_s ev_int) (dr_len2 L n _))), ?_⟩
    exact exs_retC (ev_tup (ds := [sD _, sD _]) (eva_d (ev_var 2) (eva_d (ev_var 3) eva_nil))) (by rw [show drawn L n = _ from if_pos (show 0 < tk L (N3 L n) 3 from of_decide_eq_true h)]; rfl)
  · refine ⟨_, exs_nil, ?_⟩
    exact exs_retC (ev_tup (ds := [sD _, sD _]) (eva_d (ev_var 2) (eva_d (ev_var 3) eva_nil))) (by rw [show drawn L n = _ from if_neg (show ¬ 0 < tk L (N3 L n) 3 from of_decide_eq_false h)]; rfl)
end
end K00

/-! the walk of the program's defs -/
namespace K00
open PySem PySem.Spec PyProof.Rows L2 SL

local macro_rules | `(tactic| walk_at "side") => `(tactic| first
  | omega
  | exact ne_len (by assumption)
  | assumption
  | exact ⟨by assumption, by assumption⟩
  | (unfold okB at *; omega)
  | exact (sbs_in (by assumption)).1
  | exact (sbs_in (by assumption)).2
  | exact ⟨okS_get (And.right (by assumption)) _, okS_get (And.right (by assumption)) _⟩
  | exact turns_ok (And.right (by assumption)) (by assumption)
  | exact And.right (by assumption)
  | exact turns_ne (by assumption)
  | exact cut_two (by assumption)
  | exact one_len (by assumption)
  | exact okP_ti (by assumption)
  | trivial)

section
variable {P : Program} {w : World} {K : PySem.W.Frag} {mg : Str → Option Value} {base : Heap} {k : Nat} (B : Bl mg) {S : List SObj}
include B
local macro_rules | `(tactic| walk_at "ok") => `(tactic| first | exact thr_ok (by assumption) (by assumption) | exact okP_o (fun _ => .int _))
local macro_rules | `(tactic| walk_at "side") => `(tactic| first | (exact ⟨by assumption, by assumption⟩) | exact len_small (by assumption))
theorem w_pair_loop (c__law_is : Cal P w K mg base k "_law_is" (R_is 1)) (c__law_places : Cal P w K mg base k "_law_places" R_places) (c_witness : Cal P w K mg base k "witness" R_witness) {a b : List Nat} {m : Int} (ha : okA a) (hb : okA b) (hm : 1 ≤ m) (S1 : List SObj) (o v4 v5 v6 v9 : Option Sv) : Exs (ctxOf P w K mg base N__law_pair_fine (defScope (topS 21)) k) ((defBody (topS 21)).drop 10) ⟨[o, some (.dat (sD a)), some (.dat (sD b)), some (.dat (iD m)), v4, v5, v6, none, some (.dat (tD iD (thr a b m))), v9, none, none, none, none, none], S1⟩ (.rt (.dat (.bool true)) S1) := by
  conv => arg 2; whnf
  have ka := ha.okB; have kb := hb.okB
  refine exs_for (fun _ => ⟨[o, some (.dat (sD a)), some (.dat (sD b)), some (.dat (iD m)), v4, v5, v6, none, some (.dat (tD iD (thr a b m))), v9, none, none, none, none, none], S1⟩) (evi_rn2 B (ev_sub (ev_sub ev_int (ev_lenL B (ev_var 1) (len_small ka))) ev_int) (ev_add (ev_lenL B (ev_var 2) (len_small kb)) ev_int) ?r) (Wk.refl _) (fun i x hx => ?_) ?_
  case r => have := ka.1; have := kb.1; omega
  · obtain ⟨d, rfl⟩ : ∃ d, x = .int d := by
      obtain ⟨j, _, rfl⟩ := List.mem_map.mp (List.mem_of_getElem? hx)
      exact ⟨_, rfl⟩
    rcases hw : wit a b m d with _ | w
    · have e1 : oD iD (wit b a m (0 - d)) = .none := by rw [show (0 : Int) - d = -d by omega, wit_swap, hw]; rfl
      have e2 := wit_in (a := a) (b := b) (d := d) hm
      have e3 := wit_short (a := a) (b := b) (m := m) (d := d)
      rw [hw] at e2 e3
      refine ⟨_, _, tg_name 7, exs_fgt [7, 11, 12] (exs_cons (ex_set 11 (ev_conv (ev_call c_witness (eva_d (ev_var 1) (eva_d (ev_var 2) (eva_d (ev_var 3) (eva_d (ev_var 7) eva_nil)))) ⟨_, _, _, _, rfl, ⟨ka, kb⟩, rfl, rfl⟩) (by rw [hw]; rfl : _ = PyData.none))) (exs_cons (ex_set 12 (ev_ife (k := true) (tst_conv (tst_w (tw_or (l := true) (tst_isN (ev_var 11)) (fun h => by cases h) (fun _ => rfl))) rfl) (fun _ => ev_var 11) (fun h => by cases h))) (exs_skip (tst_w (tw_orB (tst_not (tst_val (ev_isT c__law_is (ev_call c_witness (eva_d (ev_var 2) (eva_d (ev_var 1) (eva_d (ev_var 3) (eva_d (ev_sub ev_int (ev_var 7)) eva_nil)))) ⟨_, _, _, _, rfl, ⟨kb, ka⟩, rfl, rfl⟩) (ev_var 12) (okP_o (fun _ => .int _)) e1))) (fun _ => tw_or1 (tst_neB (ev_isN (ev_var 11)) (ev_inI (ev_var 7) (ev_var 8)))))) ?f1 (exs_skip (tst_neB (ev_eqOI (o := none) (ev_var 11) (ev_sub ev_int ev_int)) (ev_lt (ev_call c__law_places (eva_d (ev_var 1) (eva_d (ev_var 2) (eva_d (ev_var 7) eva_nil))) ⟨_, _, _, rfl, ⟨ka, kb⟩, rfl, rfl⟩) (ev_var 3))) ?f2 exs_nil)))) rfl⟩
      case f1 => rw [← e2]; rfl
      case f2 => rw [← e3]; rfl
    · have e1 : oD iD (wit b a m (0 - d)) = iD (cond (isNoneD (.int w) || decide (w < 0)) w (w + d)) := by
        rw [show (0 : Int) - d = -d by omega, wit_swap, hw]
        show PyData.int (if w < 0 then w else w + d) = PyData.int (cond (decide (w < 0)) w (w + d))
        by_cases h : w < 0
        · rw [if_pos h, decide_eq_true h]; rfl
        · rw [if_neg h, decide_eq_false h]; rfl
      have e2 := wit_in (a := a) (b := b) (d := d) hm
      have e3 := wit_short (a := a) (b := b) (m := m) (d := d)
      rw [hw] at e2 e3
      refine ⟨_, _, tg_name 7, exs_fgt [7, 11, 12] (exs_cons (ex_set 11 (ev_conv (ev_call c_witness (eva_d (ev_var 1) (eva_d (ev_var 2) (eva_d (ev_var 3) (eva_d (ev_var 7) eva_nil)))) ⟨_, _, _, _, rfl, ⟨ka, kb⟩, rfl, rfl⟩) (by rw [hw]; rfl : _ = PyData.int w))) (exs_cons (ex_set 12 (ev_ifF iD (tst_w (tw_orB (tst_isN (ev_var 11)) (fun _ => tw_or1 (tst_lt (ev_var 11) ev_int)))) (fun _ => ev_var 11) (fun _ => ev_add (ev_var 11) (ev_var 7)))) (exs_skip (tst_w (tw_orB (tst_not (tst_val (ev_isT c__law_is (ev_call c_witness (eva_d (ev_var 2) (eva_d (ev_var 1) (eva_d (ev_var 3) (eva_d (ev_sub ev_int (ev_var 7)) eva_nil)))) ⟨_, _, _, _, rfl, ⟨kb, ka⟩, rfl, rfl⟩) (ev_var 12) (okP_o (fun _ => .int _)) e1))) (fun _ => tw_or1 (tst_neB (ev_isN (ev_var 11)) (ev_inI (ev_var 7) (ev_var 8)))))) ?f1 (exs_skip (tst_neB (ev_eqOI (o := some w) (ev_var 11) (ev_sub ev_int ev_int)) (ev_lt (ev_call c__law_places (eva_d (ev_var 1) (eva_d (ev_var 2) (eva_d (ev_var 7) eva_nil))) ⟨_, _, _, rfl, ⟨ka, kb⟩, rfl, rfl⟩) (ev_var 3))) ?f2 exs_nil)))) rfl⟩
      case f1 => rw [← e2]; rfl
      case f2 => show (decide (some w = some (0 - 1)) != _) = false; rw [← e3]; show (decide (some w = some (-1)) != decide (some w = some (-1))) = false; simp
  · exact exs_retC ev_bool rfl
theorem w__law_pair_fine (c__law_take : Cal P w K mg base k "_law_take" R_take) (c__law_is : Cal P w K mg base k "_law_is" (R_is 1)) (c__law_in : Cal P w K mg base k "_law_in" R_inI) (c__law_places : Cal P w K mg base k "_law_places" R_places) (c__law_shuffled : Cal P w K mg base k "_law_shuffled" (R_shuffled sD)) (c_throws : Cal P w K mg base k "throws" R_throws) (c_witness : Cal P w K mg base k "witness" R_witness) (c_surely_slipped : Cal P w K mg base k "surely_slipped" R_surely_slipped) (S0 : List SObj) (L : List Int) (n : Nat) {a b : List Nat} {m : Int} (hL : okL L) (ha : okA a) (hb : okA b) (hm : 1 ≤ m) : Exs (ctxOf P w K mg base N__law_pair_fine (defScope (topS 21)) k) (defBody (topS 21)) ⟨[some (.obj S0.length), some (.dat (sD a)), some (.dat (sD b)), some (.dat (iD m)), none, none, none, none, none, none, none, none, none, none, none], S0 ++ [hd L n]⟩ (.rt (.dat (.bool true)) (S0 ++ [hd L (n + 4 + if 0 < a.length then 1 else 0)])) := by
  conv => arg 2; whnf
  have hns : (shuf L n AB).Perm AB := shuf_perm L n AB
  have ka := ha.okB; have kb := hb.okB; have kar := okB_rev ka; have kbr := okB_rev kb; have kta := (tn_ok hns ha).okB; have ktb := (tn_ok hns hb).okB
  refine exs_cons (ex_asgC (ev_tup (ds := [_, _]) (eva_d (ev_call c_throws (eva_d (ev_var 1) (eva_d (ev_var 2) (eva_d (ev_var 3) eva_nil))) ⟨_, _, _, rfl, (by walk_at "side"), rfl, rfl⟩) (eva_d (ev_sub (ev_lenL B (ev_var 2) (by walk_at "side")) (ev_lenL B (ev_var 1) (by walk_at "side"))) eva_nil))) (tg_tup (tgs_cons (tg_name 8) (tgs_cons (tg_name 9) tgs_nil))) (hw := fun env h => by cases env; cases h; rfl)) ?_
  refine exs_pass (tst_val (ev_isT c__law_is (ev_call c_throws (eva_d (ev_var 2) (eva_d (ev_var 1) (eva_d (ev_var 3) eva_nil))) ⟨_, _, _, rfl, (by walk_at "side"), rfl, rfl⟩) (ev_tuple B (evl_own (ev_mapF iD [("d", 7)] (evi_tup (ev_backTF iD (ev_var 8))) (fun a h1 => turn_name 7 (tg_name 7) tsti_nil (fun h2 => (ev_sub ev_int (ev_var 7))))))) (by walk_at "ok") (by exact congrArg (tD iD) (thr_swap _ _ _)))) ?_
  refine exs_pass (tst_val (ev_isT c__law_is (ev_call c_throws (eva_d (ev_backSL (ev_var 1) (by walk_at "side")) (eva_d (ev_backSL (ev_var 2) (by walk_at "side")) (eva_d (ev_var 3) eva_nil))) ⟨_, _, _, rfl, (by walk_at "side"), rfl, rfl⟩) (ev_tuple B (evl_own (ev_mapF iD [("d", 7)] (evi_tup (ev_backTF iD (ev_var 8))) (fun a h3 => turn_name 7 (tg_name 7) tsti_nil (fun h4 => (ev_sub (ev_var 9) (ev_var 7))))))) (by walk_at "ok") (by exact congrArg (tD iD) (thr_rev _ _ _)))) ?_
  refine exs_cons (ex_set 4 (ev_call c__law_shuffled (eva_o (ev_obj 0) (eva_d (ev_frz (ev_lst (ds := [_, _, _, _].map sD) (eva_d (ev_strL [97] (by decide +kernel)) (eva_d (ev_strL [98] (by decide +kernel)) (eva_d (ev_strL [99] (by decide +kernel)) (eva_d (ev_strL [100] (by decide +kernel)) eva_nil)))))) eva_nil)) ⟨S0, L, n, AB, .inl rfl, rfl, ⟨hL, by decide⟩, rfl, rfl⟩)) ?_
  refine exs_cons (ex_frzC 5 (ex_mapF (g := tn (shuf L n AB)) sD 5 [("hole", 13)] (evi_tup (ev_tup (ds := [_, _].map sD) (eva_d (ev_var 1) (eva_d (ev_var 2) eva_nil)))) (fun hole h1 => by
    have hh : okA hole := by
      rcases List.mem_cons.mp h1 with rfl | h1
      · exact ha
      · rw [List.mem_singleton.mp h1]; exact hb
    refine turn_name 13 (tg_name 13) tsti_nil (fun h2 => ev_joinE (zs := hole.map (rn (shuf L n AB))) (evq_l (evl_own (ev_mapF sD [("sign", 14)] (evi_s (ev_var 13) (len_small hh.okB)) (fun x h3 => ?t)))) rfl ?z)
    case z => exact len_small (tn_ok hns hh).okB
    case t =>
      have hx := hh.2 x h3
      refine turn_name 14 (tg_name 14) tsti_nil (fun h4 => ev_ifF sD (tst_eqSL (ev_var 14) (ev_strL [63] (by decide +kernel)) ?o1 ?o2) (fun h5 => ev_strL [63] (by decide +kernel)) (fun h6 => ev_ixTF sD (ev_var 4) (ev_sindex (n := x - 97) (rest := []) (ev_var 14) ?o3) ?o4))
      case o1 => intro y hy; rw [List.mem_singleton.mp hy]; omega
      case o2 => intro y hy; rw [List.mem_singleton.mp hy]; omega
      case o3 => exact occ_abcd (by have := of_decide_eq_false h6; simp at this; omega)
      case o4 =>
        have hl : (shuf L n AB).length = 4 := hns.length_eq
        rw [hl]; omega))) ?_
  refine exs_pass (tst_val (ev_isT c__law_is (ev_call c_throws (eva_d (ev_ixLF sD (ev_var 5) ev_int (by show _ ∧ _ < ((2 : Nat) : Int); omega)) (eva_d (ev_ixLF sD (ev_var 5) ev_int (by show _ ∧ _ < ((2 : Nat) : Int); omega)) (eva_d (ev_var 3) eva_nil))) ⟨tn (shuf L n AB) a, tn (shuf L n AB) b, m, rfl, ⟨kta, ktb⟩, rfl, rfl⟩) (ev_var 8) (thr_ok kta ktb) (by exact congrArg (tD iD) (thr_tn hns ha hb m)))) ?_
  refine exs_cons (ex_set 6 (ev_tuple B (evl_own (ev_compF iD [("d", 7)] (evi_tup (ev_var 8)) (fun a h5 => turn_name 7 (tg_name 7) (tsti_one (tst_gt (ev_call c__law_places (eva_d (ev_var 1) (eva_d (ev_var 2) (eva_d (ev_var 7) eva_nil))) ⟨_, _, _, rfl, (by walk_at "side"), rfl, rfl⟩) (ev_var 3))) (fun h6 => (ev_var 7))))))) ?_
  refine exs_pass (tst_val (ev_isT c__law_is (ev_call c_throws (eva_d (ev_var 1) (eva_d (ev_var 2) (eva_d (ev_add (ev_var 3) ev_int) eva_nil))) ⟨_, _, _, rfl, (by walk_at "side"), rfl, rfl⟩) (ev_var 6) (by walk_at "ok") (by exact congrArg (tD iD) ((thr_more _ _ _).trans (List.map_id' _).symm)))) ?_
  refine exs_pass (tst_val (ev_isT c__law_is (ev_call c_surely_slipped (eva_d (ev_var 1) (eva_d (ev_var 2) (eva_d (ev_var 3) eva_nil))) ⟨_, _, _, rfl, (by walk_at "side"), rfl, rfl⟩) (ev_ifF (oD iD) (x := some _) (y := none) (tst_eqI (ev_lenF B (evq_t (ev_var 8))) ev_int) (fun h7 => (ev_ixTF iD (ev_var 8) ev_int (by walk_at "side"))) (fun h8 => ev_none)) (by walk_at "ok") (by rfl))) ?_
  refine exs_if2 (tst_gt (ev_lenL B (ev_var 1) (len_small ka)) ev_int) (fun h => ?_) (fun h => ?_)
  · have h0 : 0 < a.length := by have := of_decide_eq_true h; omega
    rw [if_pos h0]
    have t0 := tk_lt (L := L) (n := n + 4) (m := (a.length : Int)) (by omega)
    obtain ⟨kk, ek⟩ : ∃ kk : Nat, tk L (n + 4) (a.length : Int) = (kk : Int) := ⟨_, (Int.toNat_of_nonneg t0.1).symm⟩
    have hk : kk < a.length := by omega
    have klk := lessK_ok ka hk
    refine ⟨_, exs_fgt [10] (exs_cons (ex_set 10 (ev_conv (ev_tk c__law_take hL 0 (ev_lenL B (ev_var 1) (len_small ka)) (by omega)) (congrArg PyData.int ek))) (exs_pass (tst_val (ev_conv (ev_call c__law_in (eva_d (ev_var 8) (eva_d (ev_call c_throws (eva_d (ev_catSL (ev_catSL (ev_slSL (ev_var 1) evo_n (evo_s (ev_var 10)) (len_small ka)) (ev_strL [63] (by decide +kernel)) ?s1) (ev_slSL (ev_var 1) (evo_s (ev_add (ev_var 10) ev_int)) evo_n (len_small ka)) ?s2) (eva_d (ev_var 2) (eva_d (ev_var 3) eva_nil))) ⟨lessK a kk, b, m, rfl, ⟨klk, kb⟩, rfl, rfl⟩) eva_nil)) ⟨_, _, rfl, rfl, rfl⟩) (congrArg PyData.bool (thr_lessK a b m hk)))) exs_nil)) rfl, ?_⟩
    case s1 => have := cut_le a none (some (kk : Int)); have := len_small ka; have := ka.1; show _ + 1 ≤ _; omega
    case s2 => have := cut_le a none (some (kk : Int)); have := cut_le a (some ((kk : Int) + 1)) none; have := ka.1; rw [List.length_append]; show _ + 1 + _ ≤ _; omega
    exact w_pair_loop B c__law_is c__law_places c_witness ha hb hm _ _ _ _ _ _
  · have h0 : ¬ 0 < a.length := by have := of_decide_eq_false h; omega
    rw [if_neg h0]
    exact ⟨_, exs_nil, w_pair_loop B c__law_is c__law_places c_witness ha hb hm _ _ _ _ _ _⟩
end
end K00

/-! the walk of the program's defs -/
namespace K00
open PySem PySem.Spec PyProof.Rows L2 SL

local macro_rules | `(tactic| walk_at "side") => `(tactic| first
  | omega
  | exact ne_len (by assumption)
  | assumption
  | exact ⟨by assumption, by assumption⟩
  | (unfold okB at *; omega)
  | exact (sbs_in (by assumption)).1
  | exact (sbs_in (by assumption)).2
  | exact ⟨okS_get (And.right (by assumption)) _, okS_get (And.right (by assumption)) _⟩
  | exact turns_ok (And.right (by assumption)) (by assumption)
  | exact And.right (by assumption)
  | exact turns_ne (by assumption)
  | exact cut_two (by assumption)
  | exact one_len (by assumption)
  | exact okP_ti (by assumption)
  | trivial)

section
variable {P : Program} {w : World} {K : PySem.W.Frag} {mg : Str → Option Value} {base : Heap} {k : Nat} (B : Bl mg) {S : List SObj}
include B
theorem w__law_rosette_fine (c__law_take : Cal P w K mg base k "_law_take" R_take) (c__law_is : Cal P w K mg base k "_law_is" (R_is 1)) (c_throws : Cal P w K mg base k "throws" R_throws) (c_repeats_of : Cal P w K mg base k "repeats_of" R_repeats_of) (c_told_turn : Cal P w K mg base k "told_turn" R_told_turn) (S0 : List SObj) (L : List Int) (n : Nat) {r : List Nat} (hL : okL L) (hr : okR0 r) : Exs (ctxOf P w K mg base N__law_rosette_fine (defScope (topS 22)) k) (defBody (topS 22)) ⟨[some (.obj S0.length), some (.dat (sD r)), none, none, none, none, none, none], S0 ++ [hd L n]⟩ (.rt (.dat (.bool true)) (S0 ++ [hd L (n + if 10 < r.length then 0 else 1)])) := by
  conv => arg 2; whnf
  obtain ⟨p, c, R⟩ := ros_of hr.1 hr.2.2
  have kr := hr.okB; have kd := dbl_ok hr; have hl := hr.2.1
  have lr := len_small kr
  have hpos : 0 < r.length := List.length_pos_iff.mpr hr.1
  have hcl : c ≤ r.length := by rw [R.len]; exact Nat.le_mul_of_pos_left _ R.pos
  have hp := R.pos
  have hc := R.cpos
  have l2 : r.length + r.length ≤ 16777216 := by omega
  refine exs_cons (ex_set 2 (ev_lenL B (ev_var 1) lr)) ?_
  refine exs_cons (ex_set 3 (ev_conv (ev_fdiv (ev_var 2) (ev_call c_repeats_of (eva_d (ev_var 1) eva_nil) ⟨r, rfl, kr, rfl, rfl⟩) (by rw [R.reps]; exact ⟨by omega, by omega⟩)) (congrArg PyData.int R.part))) ?_
  refine exs_pass (tst_val (ev_isT c__law_is (ev_call c_throws (eva_d (ev_var 1) (eva_d (ev_var 1) (eva_d (ev_var 3) eva_nil))) ⟨r, r, p, rfl, ⟨kr, kr⟩, rfl, rfl⟩) (ev_tupleR B (evr_3 B (ev_sub (ev_var 3) (ev_var 2)) (ev_var 2) (ev_var 3) (rg1 R hl)) (rg1 R hl) (by omega)) (thr_ok kr kr) (congrArg (tD iD) (thr_self R)))) ?_
  by_cases h10 : 10 < r.length
  · refine exs_ifT (tst_conv (tst_gt (ev_var 2) ev_int) (decide_eq_true (by omega))) (exs_retC ev_bool (by rw [if_pos h10]; rfl))
  · refine exs_skip (tst_gt (ev_var 2) ev_int) (decide_eq_false (by omega)) ?_
    rw [if_neg h10]
    have t0 := tk_lt (L := L) (n := n) (m := (r.length : Int)) (by omega)
    obtain ⟨kk, ek⟩ : ∃ kk : Nat, tk L n (r.length : Int) = (kk : Int) := ⟨_, (Int.toNat_of_nonneg t0.1).symm⟩
    have hk : kk ≤ r.length := by omega
    have krt := rot_ok kr hk
    have kt := told_ok kr hr.1
    have hne : rot r kk ≠ [] := fun e => by have := rot_len hk; rw [e] at this; simp at this; omega
    have ktr : okB (told (rot r kk)) := told_ok krt hne
    refine exs_pass (tst_val (ev_isT c__law_is (ev_call c_throws (eva_d (ev_var 1) (eva_d (ev_catSL (ev_var 1) (ev_var 1) l2) (eva_d (ev_var 2) eva_nil))) ⟨r, r ++ r, r.length, rfl, ⟨kr, kd⟩, rfl, rfl⟩) (ev_tupleR B (evr_3 B ev_int (ev_add (ev_var 2) ev_int) (ev_var 3) (rg2 R hl)) (rg2 R hl) (by omega)) (thr_ok kr kd) (congrArg (tD iD) (thr_dbl R)))) ?_
    refine exs_cons (ex_set 4 (ev_conv (ev_tk c__law_take hL 0 (ev_var 2) (by omega)) (congrArg PyData.int ek))) ?_
    refine exs_cons (ex_set 5 (ev_conv (ev_catSL (ev_slSL (ev_var 1) (evo_s (ev_var 4)) evo_n lr) (ev_slSL (ev_var 1) evo_n (evo_s (ev_var 4)) lr) (cut_two kr)) (congrArg sD (cut_rot hk)))) ?_
    refine exs_cons (ex_set 6 (ev_call c_throws (eva_d (ev_var 5) (eva_d (ev_catSL (ev_var 1) (ev_var 1) l2) (eva_d (ev_var 2) eva_nil))) ⟨rot r kk, r ++ r, r.length, rfl, ⟨krt, kd⟩, rfl, rfl⟩)) ?_
    refine exs_cons (ex_set 7 (ev_call c_throws (eva_d (ev_call c_told_turn (eva_d (ev_var 1) eva_nil) ⟨r, rfl, ⟨kr, hr.1⟩, rfl, rfl⟩) (eva_d (ev_catSL (ev_var 1) (ev_var 1) l2) (eva_d (ev_var 2) eva_nil))) ⟨told r, r ++ r, r.length, rfl, ⟨kt, kd⟩, rfl, rfl⟩)) ?_
    refine exs_retC (ev_andB (ev_inI (ev_var 4) (ev_var 6)) (fun h1 => ev_andB (ev_eqI (ev_ixTF iD (ev_var 6) ev_int ?s) (ev_mod (ev_var 4) (ev_var 3) (by omega))) (fun h2 => ev_one1 (ev_isT c__law_is (ev_call c_throws (eva_d (ev_call c_told_turn (eva_d (ev_var 5) eva_nil) ⟨rot r kk, rfl, ⟨krt, hne⟩, rfl, rfl⟩) (eva_d (ev_catSL (ev_var 1) (ev_var 1) l2) (eva_d (ev_var 2) eva_nil))) ⟨told (rot r kk), r ++ r, r.length, rfl, ⟨ktr, kd⟩, rfl, rfl⟩) (ev_var 7) (thr_ok ktr kd) (by rw [told_rot hr.1 hk]))))) ?e
    case s => have := List.length_pos_of_mem (far_in R hk); omega
    case e => exact rt_eq (by rw [decide_eq_true (far_in R hk), show ((0 : Int).toNat) = 0 from rfl, decide_eq_true (far_first R hk)]; rfl)
end
end K00

/-! the walk of the program's defs -/
namespace K00
open PySem PySem.Spec PyProof.Rows L2 SL

local macro_rules | `(tactic| walk_at "side") => `(tactic| first
  | omega
  | exact ne_len (by assumption)
  | assumption
  | exact ⟨by assumption, by assumption⟩
  | (unfold okB at *; omega)
  | exact (sbs_in (by assumption)).1
  | exact (sbs_in (by assumption)).2
  | exact ⟨okS_get (And.right (by assumption)) _, okS_get (And.right (by assumption)) _⟩
  | exact turns_ok (And.right (by assumption)) (by assumption)
  | exact And.right (by assumption)
  | exact turns_ne (by assumption)
  | exact cut_two (by assumption)
  | exact one_len (by assumption)
  | exact okP_ti (by assumption)
  | trivial)

section
variable {P : Program} {w : World} {K : PySem.W.Frag} {mg : Str → Option Value} {base : Heap} {k : Nat} (B : Bl mg) {S : List SObj}
include B
theorem w_law (c__law_take : Cal P w K mg base k "_law_take" R_take) (c__law_hand : Cal P w K mg base k "_law_hand" R_hand) (c__law_drawn_pair : Cal P w K mg base k "_law_drawn_pair" R_drawn_pair) (c__law_pair_fine : Cal P w K mg base k "_law_pair_fine" R_pair_fine) (c__law_rosette_fine : Cal P w K mg base k "_law_rosette_fine" R_rosette_fine) (ns : List Int) : ∃ J, Exs (ctxOf P w K mg base N_law (defScope (topS 23)) k) (defBody (topS 23)) ⟨[some (.dat (lD iD ns)), none, none, none, none, none, none, none, none, none], []⟩ (.rt (.dat (.bool true)) J) := by
  suffices h : ExE (ctxOf P w K mg base N_law (defScope (topS 23)) k) (defBody (topS 23)) ⟨[some (.dat (lD iD ns)), none, none, none, none, none, none, none, none, none], []⟩ (fun o => ∃ J, o = .rt (.dat (.bool true)) J) by
    obtain ⟨o, ⟨J, rfl⟩, x⟩ := h
    exact ⟨J, x⟩
  conv => arg 2; whnf
  refine exe_for (fun _ t => ∃ S1, t = ⟨[some (.dat (lD iD ns)), none, none, none, none, none, none, none, none, none], S1⟩) (evi_rn B ev_int (by decide)) ⟨_, Wk.refl _, [], rfl⟩ ?_ ?_
  · rintro i x t hx ⟨S1, rfl⟩
    have hi := (List.getElem?_eq_some_iff.mp hx).1
    rw [List.length_map, List.length_range] at hi
    rw [List.getElem?_map, List.getElem?_range hi] at hx
    cases hx
    refine ⟨_, _, tg_name 1, ?_⟩
    refine exe_cons (ex_set 2 (ev_call c__law_hand (eva_d (ev_var 0) (eva_d (ev_var 1) eva_nil)) ⟨ns, i, rfl, rfl, rfl⟩)) ?_
    have hL : okL (ldraws (lcell ns i) 120) := okL_draws _
    generalize ldraws (lcell ns i) 120 = L at hL
    refine exe_for (fun _ t => ∃ n : Nat, t = ⟨[some (.dat (lD iD ns)), some (.dat (.int i)), some (.obj S1.length), none, none, none, none, none, none, none], S1 ++ [hd L n]⟩) (evi_rn B ev_int (by decide)) ⟨_, Wk.refl _, 0, rfl⟩ ?_ ?_
    · rintro j x t hx ⟨n, rfl⟩
      have hj := (List.getElem?_eq_some_iff.mp hx).1
      rw [List.length_map, List.length_range] at hj
      rw [List.getElem?_map, List.getElem?_range hj] at hx
      cases hx
      obtain ⟨ha, hb⟩ := drawn_ok L n
      refine ⟨_, _, tg_name 3, ?_⟩
      refine exe_cons (ex_asg (ev_call c__law_drawn_pair (eva_o (ev_obj 2) eva_nil) ⟨S1, L, n, rfl, rfl, hL, rfl, rfl⟩) (tg_tup (tgs_cons (tg_name 7) (tgs_cons (tg_name 8) tgs_nil)))) ?_
      generalize (drawn L n).1.1 = a at ha
      generalize (drawn L n).1.2 = b at hb
      generalize (drawn L n).2 = n1
      have t1 := tk_lt (L := L) (n := n1) (m := 4) (by decide)
      have t2 := tk_lt (L := L) (n := n1 + 1) (m := 20) (by decide)
      refine exe_for (fun _ t => ∃ n : Nat, t = ⟨[some (.dat (lD iD ns)), some (.dat (.int i)), some (.obj S1.length), some (.dat (.int j)), none, none, none, some (.dat (sD a)), some (.dat (sD b)), none], S1 ++ [hd L n]⟩) (evi_tup (ev_tup (ds := [_, _, _].map iD) (eva_d ev_int (eva_d (ev_add ev_int (ev_tk c__law_take hL 2 ev_int (by decide))) (eva_d (ev_add ev_int (ev_tk c__law_take hL 2 ev_int (by decide))) eva_nil))))) ⟨_, Wk.refl _, _, rfl⟩ ?_ ?_
      · rintro q x t hx ⟨n, rfl⟩
        obtain ⟨m, hm, rfl⟩ : ∃ m : Int, 1 ≤ m ∧ x = .int m := by
          have := List.mem_of_getElem? hx
          simp only [List.map_cons, List.map_nil, List.mem_cons, List.not_mem_nil, or_false] at this
          rcases this with rfl | rfl | rfl
          · exact ⟨_, by decide, rfl⟩
          · exact ⟨_, by omega, rfl⟩
          · exact ⟨_, by omega, rfl⟩
        refine ⟨_, _, tg_name 6, ?_⟩
        refine exe_pass (tst_val (ev_call c__law_pair_fine (eva_o (ev_obj 2) (eva_d (ev_var 7) (eva_d (ev_var 8) (eva_d (ev_var 6) eva_nil)))) ⟨S1, L, n, a, b, m, rfl, rfl, ⟨hL, ha, hb, hm⟩, rfl, rfl⟩)) ?_
        exact exe_nil (wk_wipe _ [6]) ⟨_, rfl, _, rfl⟩
      · rintro t ⟨n, rfl⟩
        have t3 := tk_lt (L := L) (n := n) (m := 12) (by decide)
        refine exe_pass (tst_val (ev_call c__law_pair_fine (eva_o (ev_obj 2) (eva_d (ev_var 7) (eva_d (ev_var 7) (eva_d (ev_add ev_int (ev_tk c__law_take hL 2 ev_int (by decide))) eva_nil)))) ⟨S1, L, n + 1, a, a, 1 + tk L n 12, rfl, rfl, ⟨hL, ha, ha, by omega⟩, rfl, rfl⟩)) ?_
        exact exe_nil (wk_wipe _ [3, 7, 8]) ⟨_, rfl, _, rfl⟩
    · rintro t ⟨n, rfl⟩
      have t1 := tk_lt (L := L) (n := n) (m := 5) (by decide)
      have hz := ptx_ok L n (n + 1) (c := 1 + tk L n 5) (by omega)
      refine exe_cons (ex_set 4 (ev_joinE (evq_l (evl_own (ev_lcR sD [("at", 9)] (fun i => S1 ++ [hd L (n + 1 + i)]) (fun i => [([97, 98, 99] : List Nat).getD (tk L (n + 1 + i) 3).toNat 0]) (evi_rn B (ev_add ev_int (ev_tk c__law_take hL 2 ev_int (by decide))) (by omega) (by omega)) rfl (fun i hi => turn_nameS 9 (tg_name 9) (ev_ixS0 (ev_strL [97, 98, 99] (by decide +kernel)) (ev_tk c__law_take hL 2 ev_int (by decide)) (tk_lt (by decide)) (by decide)))))) rfl (Nat.le_trans hz.2.1 (by decide)))) ?_
      generalize e : ((List.range (1 + tk L n 5).toNat).map fun i => [([97, 98, 99] : List Nat).getD (tk L (n + 1 + i) 3).toNat 0]).flatten = z
      have hz : z ≠ [] ∧ z.length ≤ 5 ∧ ∀ x ∈ z, 97 ≤ x ∧ x ≤ 99 := by rw [← e]; exact hz
      generalize n + 1 + (1 + tk L n 5).toNat = n1
      have t2 := tk_lt (L := L) (n := n1) (m := 4) (by decide)
      refine exe_for (fun _ t => ∃ n : Nat, t = ⟨[some (.dat (lD iD ns)), some (.dat (.int i)), some (.obj S1.length), none, some (.dat (sD z)), none, none, none, none, none], S1 ++ [hd L n]⟩) (evi_tup (ev_tup (ds := [_, _].map iD) (eva_d ev_int (eva_d (ev_add ev_int (ev_tk c__law_take hL 2 ev_int (by decide))) eva_nil)))) ⟨_, Wk.refl _, _, rfl⟩ ?_ ?_
      · rintro q x t hx ⟨n, rfl⟩
        obtain ⟨m, hm, rfl⟩ : ∃ m : Int, (1 ≤ m ∧ m ≤ 4) ∧ x = .int m := by
          have := List.mem_of_getElem? hx
          simp only [List.map_cons, List.map_nil, List.mem_cons, List.not_mem_nil, or_false] at this
          rcases this with rfl | rfl
          · exact ⟨_, by decide, rfl⟩
          · exact ⟨_, by omega, rfl⟩
        refine ⟨_, _, tg_name 5, ?_⟩
        refine exe_pass (tst_val (ev_call c__law_rosette_fine (eva_o (ev_obj 2) (eva_d (ev_mulSL (ev_var 4) (ev_var 5) ⟨by omega, by omega, by omega⟩) eva_nil)) ⟨S1, L, n, _, rfl, rfl, ⟨hL, rep_ok hz hm⟩, rfl, rfl⟩)) ?_
        exact exe_nil (wk_wipe _ [5]) ⟨_, rfl, _, rfl⟩
      · rintro t ⟨n, rfl⟩
        exact exe_nil (wk_wipe _ [1, 2, 4]) ⟨_, rfl, _, rfl⟩
  · rintro t ⟨S1, rfl⟩
    exact exe_of (exs_retC ev_bool rfl) ⟨_, rfl⟩
end
end K00

namespace K00
open PySem PySem.Spec PyProof.Rows L2 SL
theorem all {P : Program} {w : World} {K : PySem.W.Frag} {mg : Str → Option Value} {h : Heap} {fa : Addr} (X : K.In h) (G : h.Ns mainGlobals mg) (hfa : mg "law" = some (.ref fa)) (n_len : PySem.W.nsIn K mainGlobals "len" = some none) (n_range : PySem.W.nsIn K mainGlobals "range" = some none) (n_tuple : PySem.W.nsIn K mainGlobals "tuple" = some none) (n_list : PySem.W.nsIn K mainGlobals "list" = some none) (n_int : PySem.W.nsIn K mainGlobals "int" = some none) (n_bool : PySem.W.nsIn K mainGlobals "bool" = some none) (n_str : PySem.W.nsIn K mainGlobals "str" = some none) (n_abs : PySem.W.nsIn K mainGlobals "abs" = some none) (n_sum : PySem.W.nsIn K mainGlobals "sum" = some none) (n_min : PySem.W.nsIn K mainGlobals "min" = some none) (n_max : PySem.W.nsIn K mainGlobals "max" = some none) (n_sorted : PySem.W.nsIn K mainGlobals "sorted" = some none) (n_all : PySem.W.nsIn K mainGlobals "all" = some none) (n_any : PySem.W.nsIn K mainGlobals "any" = some none) (n_isinstance : PySem.W.nsIn K mainGlobals "isinstance" = some none) (n_set : PySem.W.nsIn K mainGlobals "set" = some none) (n_enumerate : PySem.W.nsIn K mainGlobals "enumerate" = some none) (n_zip : PySem.W.nsIn K mainGlobals "zip" = some none) (D__law_cell : DefF K "_law_cell" (topS 11)) (D__law_draws : DefF K "_law_draws" (topS 12)) (D__law_is_integer : DefF K "_law_is_integer" (topS 13)) (D__law_is : DefF K "_law_is" (topS 14)) (D__law_hand : DefF K "_law_hand" (topS 15)) (D__law_take : DefF K "_law_take" (topS 16)) (D__law_shuffled : DefF K "_law_shuffled" (topS 17)) (D__law_in : DefF K "_law_in" (topS 18)) (D_agree : DefF K "agree" (topS 1)) (D_side_by_side : DefF K "side_by_side" (topS 2)) (D_witness : DefF K "witness" (topS 3)) (D_throws : DefF K "throws" (topS 4)) (D_surely_slipped : DefF K "surely_slipped" (topS 5)) (D_turns_of : DefF K "turns_of" (topS 7)) (D_told_turn : DefF K "told_turn" (topS 8)) (D_repeats_of : DefF K "repeats_of" (topS 9)) (D__law_places : DefF K "_law_places" (topS 20)) (D__law_drawn_pair : DefF K "_law_drawn_pair" (topS 19)) (D__law_pair_fine : DefF K "_law_pair_fine" (topS 21)) (D__law_rosette_fine : DefF K "_law_rosette_fine" (topS 22))
  {f : Addr} {oc : Value} {od an : Option Addr} {osl : Array (Option Value)} {kV doc pm cdv ct : Value} (a : PySem.W.nsIn K mainGlobals "law" = some (some (.ref f)))
  (l : K.lookup f = some ⟨oc, od, .func (PySem.W.fnOf "law" "law" (defArgs (topS 23)) (defBody (topS 23)) (defScope (topS 23)) .none kV doc pm an cdv ct), osl⟩) (c : PySem.W.codeIn K cdv "law" = true) (kk : PySem.W.keepIn K (.ref f) = true) :
  ∃ fd : FuncData, (∀ (s : Shared) (v : Value), BindsTo s fd ⟨[v], []⟩ [("script", v)]) ∧ ∀ base : Heap, K.In base → base.Ns mainGlobals mg → FnOk P w K mg base CX0 31 fa fd ["script"] (spOf K RLaw) := by
  refine law_mk (k := 30) X G hfa a l c kk (fun s v => .of_eq rfl) sc_law (fun base X0 G0 ns hn => ?_)
  have B : Bl mg := bl_mk X G (by
    intro x hx
    simp only [List.mem_cons, List.not_mem_nil, or_false] at hx
    rcases hx with rfl | rfl | rfl | rfl | rfl | rfl | rfl | rfl | rfl | rfl | rfl | rfl | rfl | rfl | rfl | rfl | rfl | rfl
    · exact n_len
    · exact n_range
    · exact n_tuple
    · exact n_list
    · exact n_int
    · exact n_bool
    · exact n_str
    · exact n_abs
    · exact n_sum
    · exact n_min
    · exact n_max
    · exact n_sorted
    · exact n_all
    · exact n_any
    · exact n_isinstance
    · exact n_set
    · exact n_enumerate
    · exact n_zip
    )
  have C__law_cell : Cal P w K mg base 1 "_law_cell" R_cell := by
    refine cal_mk (k := 0) (N := N__law_cell) X0 G0 D__law_cell (fun _ _ _ _ _ _ us hl => match us, hl with | [_, _], _ => rfl) sc__law_cell (fun rs S r S' hh => ?_) (fun rs S r S' hh => ?_)
    · obtain ⟨ns, k, rfl, rfl, rfl⟩ := hh
      rfl
    · obtain ⟨ns, k, rfl, rfl, rfl⟩ := hh
      exact ⟨Nat.le_refl _, trivial, [], by rw [List.append_nil]; exact w__law_cell B  ns k⟩
  have C__law_draws : Cal P w K mg base 1 "_law_draws" R_draws := by
    refine cal_mk (k := 0) (N := N__law_draws) X0 G0 D__law_draws (fun _ _ _ _ _ _ us hl => match us, hl with | [_, _], _ => rfl) sc__law_draws (fun rs S r S' hh => ?_) (fun rs S r S' hh => ?_)
    · obtain ⟨c0, n, rfl, hn, rfl, rfl⟩ := hh
      rfl
    · obtain ⟨c0, n, rfl, hn, rfl, rfl⟩ := hh
      exact ⟨Nat.le_refl _, trivial, [], by rw [List.append_nil]; exact w__law_draws B  c0 n hn⟩
  have C__law_is_integer : Cal P w K mg base 1 "_law_is_integer" R_is_integer := by
    refine cal_mk (k := 0) (N := N__law_is_integer) X0 G0 D__law_is_integer (fun _ _ _ _ _ _ us hl => match us, hl with | [_], _ => rfl) sc__law_is_integer (fun rs S r S' hh => ?_) (fun rs S r S' hh => ?_)
    · obtain ⟨v, rfl, rfl, rfl⟩ := hh
      rfl
    · obtain ⟨v, rfl, rfl, rfl⟩ := hh
      exact ⟨Nat.le_refl _, trivial, [], by rw [List.append_nil]; exact w__law_is_integer B  v⟩
  have C__law_is0 : Cal P w K mg base 2 "_law_is" (R_is 0) := by
    refine cal_mk (k := 1) (N := N__law_is) X0 G0 D__law_is (fun _ _ _ _ _ _ us hl => match us, hl with | [_, _], _ => rfl) sc__law_is (fun rs S r S' hh => ?_) (fun rs S r S' hh => ?_)
    · obtain ⟨v, d, rfl, ⟨h1, h2⟩, rfl, rfl⟩ := hh
      rfl
    · obtain ⟨v, d, rfl, ⟨h1, h2⟩, rfl, rfl⟩ := hh
      exact ⟨Nat.le_refl _, trivial, [], by rw [List.append_nil]; exact w__law_is0 (n := 0) B (by decide) (C__law_is_integer.mono (k' := 1) (by decide)) v d h1 h2⟩
  have C__law_is1 : Cal P w K mg base 3 "_law_is" (R_is 1) := by
    refine cal_mk (k := 2) (N := N__law_is) X0 G0 D__law_is (fun _ _ _ _ _ _ us hl => match us, hl with | [_, _], _ => rfl) sc__law_is (fun rs S r S' hh => ?_) (fun rs S r S' hh => ?_)
    · obtain ⟨v, d, rfl, ⟨h1, h2⟩, rfl, rfl⟩ := hh
      rfl
    · obtain ⟨v, d, rfl, ⟨h1, h2⟩, rfl, rfl⟩ := hh
      exact ⟨Nat.le_refl _, trivial, [], by rw [List.append_nil]; exact w__law_isS B (by decide) (C__law_is0.mono (k' := 2) (by decide)) (C__law_is_integer.mono (k' := 2) (by decide)) v d h1 h2⟩
  have C__law_hand : Cal P w K mg base 2 "_law_hand" R_hand := by
    refine cal_mk (k := 1) (N := N__law_hand) X0 G0 D__law_hand (fun _ _ _ _ _ _ us hl => match us, hl with | [_, _], _ => rfl) sc__law_hand (fun rs S r S' hh => ?_) (fun rs S r S' hh => ?_)
    · obtain ⟨ns, k, rfl, rfl, rfl⟩ := hh
      rfl
    · obtain ⟨ns, k, rfl, rfl, rfl⟩ := hh
      exact ⟨by rw [List.length_append]; exact Nat.le_add_right _ _, by show _ < _; rw [List.length_append]; exact Nat.lt_succ_self _, [], by rw [List.append_nil]; exact w__law_hand B (C__law_cell.mono (k' := 1) (by decide)) (C__law_draws.mono (k' := 1) (by decide)) ns k⟩
  have C__law_take : Cal P w K mg base 1 "_law_take" R_take := by
    refine cal_mk (k := 0) (N := N__law_take) X0 G0 D__law_take (fun _ _ _ _ _ _ us hl => match us, hl with | [_, _], _ => rfl) sc__law_take (fun rs S r S' hh => ?_) (fun rs S r S' hh => ?_)
    · obtain ⟨S0, L, n, m, rfl, rfl, ⟨hL, hm⟩, rfl, rfl⟩ := hh
      rfl
    · obtain ⟨S0, L, n, m, rfl, rfl, ⟨hL, hm⟩, rfl, rfl⟩ := hh
      exact ⟨by rw [List.length_append, List.length_append]; exact Nat.le_refl _, trivial, [], by rw [List.append_nil]; exact w__law_take B  S0 L n m hL hm⟩
  have C__law_shuffled0 : Cal P w K mg base 2 "_law_shuffled" (R_shuffled sD) := by
    refine cal_mk (k := 1) (N := N__law_shuffled) X0 G0 D__law_shuffled (fun _ _ _ _ _ _ us hl => match us, hl with | [_, _], _ => rfl) sc__law_shuffled (fun rs S r S' hh => ?_) (fun rs S r S' hh => ?_)
    · obtain ⟨S0, L, n, xs, rfl | rfl, _⟩ := hh <;> rfl
    · obtain ⟨S0, L, n, xs, rfl | rfl, rfl, ⟨hL, hx⟩, rfl, rfl⟩ := hh
      · exact ⟨by rw [List.length_append, List.length_append]; exact Nat.le_refl _, trivial, [], by rw [List.append_nil]; exact w__law_shuffledL B (C__law_take.mono (k' := 1) (by decide)) sD S0 L n xs hL hx⟩
      · exact ⟨by rw [List.length_append, List.length_append]; exact Nat.le_refl _, trivial, [], by rw [List.append_nil]; exact w__law_shuffledT B (C__law_take.mono (k' := 1) (by decide)) sD S0 L n xs hL hx⟩
  have C__law_in : Cal P w K mg base 1 "_law_in" R_inI := by
    refine cal_mk (k := 0) (N := N__law_in) X0 G0 D__law_in (fun _ _ _ _ _ _ us hl => match us, hl with | [_, _], _ => rfl) sc__law_in (fun rs S r S' hh => ?_) (fun rs S r S' hh => ?_)
    · obtain ⟨xs, ys, rfl, rfl, rfl⟩ := hh
      rfl
    · obtain ⟨xs, ys, rfl, rfl, rfl⟩ := hh
      exact ⟨Nat.le_refl _, trivial, [], by rw [List.append_nil]; exact w__law_inI B  xs ys⟩
  have C_agree : Cal P w K mg base 1 "agree" R_agree := by
    refine cal_mk (k := 0) (N := N_agree) X0 G0 D_agree (fun _ _ _ _ _ _ us hl => match us, hl with | [_, _], _ => rfl) sc_agree (fun rs S r S' hh => ?_) (fun rs S r S' hh => ?_)
    · obtain ⟨x, y, rfl, ⟨h1, h2⟩, rfl, rfl⟩ := hh
      rfl
    · obtain ⟨x, y, rfl, ⟨h1, h2⟩, rfl, rfl⟩ := hh
      exact ⟨Nat.le_refl _, trivial, [], by rw [List.append_nil]; exact w_agree B  h1 h2⟩
  have C_side_by_side : Cal P w K mg base 1 "side_by_side" R_side_by_side := by
    refine cal_mk (k := 0) (N := N_side_by_side) X0 G0 D_side_by_side (fun _ _ _ _ _ _ us hl => match us, hl with | [_, _, _], _ => rfl) sc_side_by_side (fun rs S r S' hh => ?_) (fun rs S r S' hh => ?_)
    · obtain ⟨a, b, d, rfl, ⟨h1, h2⟩, rfl, rfl⟩ := hh
      rfl
    · obtain ⟨a, b, d, rfl, ⟨h1, h2⟩, rfl, rfl⟩ := hh
      exact ⟨Nat.le_refl _, trivial, [], by rw [List.append_nil]; exact w_side_by_side B  h1 h2⟩
  have C_witness : Cal P w K mg base 2 "witness" R_witness := by
    refine cal_mk (k := 1) (N := N_witness) X0 G0 D_witness (fun _ _ _ _ _ _ us hl => match us, hl with | [_, _, _, _], _ => rfl) sc_witness (fun rs S r S' hh => ?_) (fun rs S r S' hh => ?_)
    · obtain ⟨a, b, m, d, rfl, ⟨h1, h2⟩, rfl, rfl⟩ := hh
      rfl
    · obtain ⟨a, b, m, d, rfl, ⟨h1, h2⟩, rfl, rfl⟩ := hh
      exact ⟨Nat.le_refl _, trivial, [], by rw [List.append_nil]; exact w_witness B (C_agree.mono (k' := 1) (by decide)) (C_side_by_side.mono (k' := 1) (by decide)) h1 h2⟩
  have C_throws : Cal P w K mg base 3 "throws" R_throws := by
    refine cal_mk (k := 2) (N := N_throws) X0 G0 D_throws (fun _ _ _ _ _ _ us hl => match us, hl with | [_, _, _], _ => rfl) sc_throws (fun rs S r S' hh => ?_) (fun rs S r S' hh => ?_)
    · obtain ⟨a, b, m, rfl, ⟨h1, h2⟩, rfl, rfl⟩ := hh
      rfl
    · obtain ⟨a, b, m, rfl, ⟨h1, h2⟩, rfl, rfl⟩ := hh
      exact ⟨Nat.le_refl _, trivial, [], by rw [List.append_nil]; exact w_throws B (C_witness.mono (k' := 2) (by decide)) h1 h2⟩
  have C_surely_slipped : Cal P w K mg base 4 "surely_slipped" R_surely_slipped := by
    refine cal_mk (k := 3) (N := N_surely_slipped) X0 G0 D_surely_slipped (fun _ _ _ _ _ _ us hl => match us, hl with | [_, _, _], _ => rfl) sc_surely_slipped (fun rs S r S' hh => ?_) (fun rs S r S' hh => ?_)
    · obtain ⟨a, b, m, rfl, ⟨h1, h2⟩, rfl, rfl⟩ := hh
      rfl
    · obtain ⟨a, b, m, rfl, ⟨h1, h2⟩, rfl, rfl⟩ := hh
      exact ⟨Nat.le_refl _, trivial, [], by rw [List.append_nil]; exact w_surely_slipped B (C_throws.mono (k' := 3) (by decide)) h1 h2⟩
  have C_turns_of : Cal P w K mg base 1 "turns_of" R_turns_of := by
    refine cal_mk (k := 0) (N := N_turns_of) X0 G0 D_turns_of (fun _ _ _ _ _ _ us hl => match us, hl with | [_], _ => rfl) sc_turns_of (fun rs S r S' hh => ?_) (fun rs S r S' hh => ?_)
    · obtain ⟨a, rfl, h1, rfl, rfl⟩ := hh
      rfl
    · obtain ⟨a, rfl, h1, rfl, rfl⟩ := hh
      exact ⟨Nat.le_refl _, trivial, [], by rw [List.append_nil]; exact w_turns_of B  h1⟩
  have C_told_turn : Cal P w K mg base 2 "told_turn" R_told_turn := by
    refine cal_mk (k := 1) (N := N_told_turn) X0 G0 D_told_turn (fun _ _ _ _ _ _ us hl => match us, hl with | [_], _ => rfl) sc_told_turn (fun rs S r S' hh => ?_) (fun rs S r S' hh => ?_)
    · obtain ⟨a, rfl, ⟨h1, h2⟩, rfl, rfl⟩ := hh
      rfl
    · obtain ⟨a, rfl, ⟨h1, h2⟩, rfl, rfl⟩ := hh
      exact ⟨Nat.le_refl _, trivial, [], by rw [List.append_nil]; exact w_told_turn B (C_turns_of.mono (k' := 1) (by decide)) h1 h2⟩
  have C_repeats_of : Cal P w K mg base 2 "repeats_of" R_repeats_of := by
    refine cal_mk (k := 1) (N := N_repeats_of) X0 G0 D_repeats_of (fun _ _ _ _ _ _ us hl => match us, hl with | [_], _ => rfl) sc_repeats_of (fun rs S r S' hh => ?_) (fun rs S r S' hh => ?_)
    · obtain ⟨a, rfl, h1, rfl, rfl⟩ := hh
      rfl
    · obtain ⟨a, rfl, h1, rfl, rfl⟩ := hh
      exact ⟨Nat.le_refl _, trivial, [], by rw [List.append_nil]; exact w_repeats_of B (C_turns_of.mono (k' := 1) (by decide)) h1⟩
  have C__law_places : Cal P w K mg base 1 "_law_places" R_places := by
    refine cal_mk (k := 0) (N := N__law_places) X0 G0 D__law_places (fun _ _ _ _ _ _ us hl => match us, hl with | [_, _, _], _ => rfl) sc__law_places (fun rs S r S' hh => ?_) (fun rs S r S' hh => ?_)
    · obtain ⟨a, b, d, rfl, ⟨h1, h2⟩, rfl, rfl⟩ := hh
      rfl
    · obtain ⟨a, b, d, rfl, ⟨h1, h2⟩, rfl, rfl⟩ := hh
      exact ⟨Nat.le_refl _, trivial, [], by rw [List.append_nil]; exact w__law_places B  h1 h2⟩
  have C__law_drawn_pair : Cal P w K mg base 2 "_law_drawn_pair" R_drawn_pair := by
    refine cal_mk (k := 1) (N := N__law_drawn_pair) X0 G0 D__law_drawn_pair (fun _ _ _ _ _ _ us hl => match us, hl with | [_], _ => rfl) sc__law_drawn_pair (fun rs S r S' hh => ?_) (fun rs S r S' hh => ?_)
    · obtain ⟨S0, L, n, rfl, rfl, hL, rfl, rfl⟩ := hh
      rfl
    · obtain ⟨S0, L, n, rfl, rfl, hL, rfl, rfl⟩ := hh
      exact ⟨by rw [List.length_append, List.length_append]; exact Nat.le_refl _, trivial, [], by rw [List.append_nil]; exact w__law_drawn_pair B (C__law_take.mono (k' := 1) (by decide)) S0 L n hL⟩
  have C__law_pair_fine : Cal P w K mg base 5 "_law_pair_fine" R_pair_fine := by
    refine cal_mk (k := 4) (N := N__law_pair_fine) X0 G0 D__law_pair_fine (fun _ _ _ _ _ _ us hl => match us, hl with | [_, _, _, _], _ => rfl) sc__law_pair_fine (fun rs S r S' hh => ?_) (fun rs S r S' hh => ?_)
    · obtain ⟨S0, L, n, a, b, m, rfl, rfl, ⟨hL, ha, hb, hm⟩, rfl, rfl⟩ := hh
      rfl
    · obtain ⟨S0, L, n, a, b, m, rfl, rfl, ⟨hL, ha, hb, hm⟩, rfl, rfl⟩ := hh
      exact ⟨by rw [List.length_append, List.length_append]; exact Nat.le_refl _, trivial, [], by rw [List.append_nil]; exact w__law_pair_fine B (C__law_take.mono (k' := 4) (by decide)) (C__law_is1.mono (k' := 4) (by decide)) (C__law_in.mono (k' := 4) (by decide)) (C__law_places.mono (k' := 4) (by decide)) (C__law_shuffled0.mono (k' := 4) (by decide)) (C_throws.mono (k' := 4) (by decide)) (C_witness.mono (k' := 4) (by decide)) (C_surely_slipped.mono (k' := 4) (by decide)) S0 L n hL ha hb hm⟩
  have C__law_rosette_fine : Cal P w K mg base 4 "_law_rosette_fine" R_rosette_fine := by
    refine cal_mk (k := 3) (N := N__law_rosette_fine) X0 G0 D__law_rosette_fine (fun _ _ _ _ _ _ us hl => match us, hl with | [_, _], _ => rfl) sc__law_rosette_fine (fun rs S r S' hh => ?_) (fun rs S r S' hh => ?_)
    · obtain ⟨S0, L, n, a, rfl, rfl, ⟨hL, hr⟩, rfl, rfl⟩ := hh
      rfl
    · obtain ⟨S0, L, n, a, rfl, rfl, ⟨hL, hr⟩, rfl, rfl⟩ := hh
      exact ⟨by rw [List.length_append, List.length_append]; exact Nat.le_refl _, trivial, [], by rw [List.append_nil]; exact w__law_rosette_fine B (C__law_take.mono (k' := 3) (by decide)) (C__law_is1.mono (k' := 3) (by decide)) (C_throws.mono (k' := 3) (by decide)) (C_repeats_of.mono (k' := 3) (by decide)) (C_told_turn.mono (k' := 3) (by decide)) S0 L n hL hr⟩
  exact w_law B (C__law_take.mono (by decide)) (C__law_hand.mono (by decide)) (C__law_drawn_pair.mono (by decide)) (C__law_pair_fine.mono (by decide)) (C__law_rosette_fine.mono (by decide)) ns

end K00
open PySem PySem.W PyProof.Rows
set_option maxHeartbeats 0 in
theorem PySem.Challenge.cw_stoneward_k00_whole_boreholes_turned_abo_holds : PySem.Challenge.rw_stoneward_k00_whole_boreholes_turned_abo.Holds := by
  w_on; o_law; k_head; (case hw => w_witness2)
  k_fill
  refine L2.walk_of (l := PySem.Challenge.rw_stoneward_k00_whole_boreholes_turned_abo) (n := 63) (k := 31) (x := "script") (CX := fun _ => L2.CX0) (sp := fun w => SL.spOf _ SL.RLaw) rfl (by decide) rfl ⟨rfl, by decide, by decide⟩ (fun w h Y => PySem.W.kIn_of Y) ?F (fun _ _ a ns hl _ hS => SL.law_start hl hS) (fun _ _ _ _ _ h => h)
  case F =>
    intro w mg fa h KX G hmg
    refine' K00.all KX G hmg ?n0 ?n1 ?n2 ?n3 ?n4 ?n5 ?n6 ?n7 ?n8 ?n9 ?n10 ?n11 ?n12 ?n13 ?n14 ?n15 ?n16 ?n17 ?D0 ?D1 ?D2 ?D3 ?D4 ?D5 ?D6 ?D7 ?D8 ?D9 ?D10 ?D11 ?D12 ?D13 ?D14 ?D15 ?D16 ?D17 ?D18 ?D19 ?a ?l ?c ?kk
    (case n0 => k_is)
    (case n1 => k_is)
    (case n2 => k_is)
    (case n3 => k_is)
    (case n4 => k_is)
    (case n5 => k_is)
    (case n6 => k_is)
    (case n7 => k_is)
    (case n8 => k_is)
    (case n9 => k_is)
    (case n10 => k_is)
    (case n11 => k_is)
    (case n12 => k_is)
    (case n13 => k_is)
    (case n14 => k_is)
    (case n15 => k_is)
    (case n16 => k_is)
    (case n17 => k_is)
    (case D0 => (refine' SL.defF_mk ?a0 ?l0 ?c0 ?k0; (case a0 => k_is); (case l0 => k_is); (case c0 => k_is); (case k0 => k_is)))
    (case D1 => (refine' SL.defF_mk ?a1 ?l1 ?c1 ?k1; (case a1 => k_is); (case l1 => k_is); (case c1 => k_is); (case k1 => k_is)))
    (case D2 => (refine' SL.defF_mk ?a2 ?l2 ?c2 ?k2; (case a2 => k_is); (case l2 => k_is); (case c2 => k_is); (case k2 => k_is)))
    (case D3 => (refine' SL.defF_mk ?a3 ?l3 ?c3 ?k3; (case a3 => k_is); (case l3 => k_is); (case c3 => k_is); (case k3 => k_is)))
    (case D4 => (refine' SL.defF_mk ?a4 ?l4 ?c4 ?k4; (case a4 => k_is); (case l4 => k_is); (case c4 => k_is); (case k4 => k_is)))
    (case D5 => (refine' SL.defF_mk ?a5 ?l5 ?c5 ?k5; (case a5 => k_is); (case l5 => k_is); (case c5 => k_is); (case k5 => k_is)))
    (case D6 => (refine' SL.defF_mk ?a6 ?l6 ?c6 ?k6; (case a6 => k_is); (case l6 => k_is); (case c6 => k_is); (case k6 => k_is)))
    (case D7 => (refine' SL.defF_mk ?a7 ?l7 ?c7 ?k7; (case a7 => k_is); (case l7 => k_is); (case c7 => k_is); (case k7 => k_is)))
    (case D8 => (refine' SL.defF_mk ?a8 ?l8 ?c8 ?k8; (case a8 => k_is); (case l8 => k_is); (case c8 => k_is); (case k8 => k_is)))
    (case D9 => (refine' SL.defF_mk ?a9 ?l9 ?c9 ?k9; (case a9 => k_is); (case l9 => k_is); (case c9 => k_is); (case k9 => k_is)))
    (case D10 => (refine' SL.defF_mk ?a10 ?l10 ?c10 ?k10; (case a10 => k_is); (case l10 => k_is); (case c10 => k_is); (case k10 => k_is)))
    (case D11 => (refine' SL.defF_mk ?a11 ?l11 ?c11 ?k11; (case a11 => k_is); (case l11 => k_is); (case c11 => k_is); (case k11 => k_is)))
    (case D12 => (refine' SL.defF_mk ?a12 ?l12 ?c12 ?k12; (case a12 => k_is); (case l12 => k_is); (case c12 => k_is); (case k12 => k_is)))
    (case D13 => (refine' SL.defF_mk ?a13 ?l13 ?c13 ?k13; (case a13 => k_is); (case l13 => k_is); (case c13 => k_is); (case k13 => k_is)))
    (case D14 => (refine' SL.defF_mk ?a14 ?l14 ?c14 ?k14; (case a14 => k_is); (case l14 => k_is); (case c14 => k_is); (case k14 => k_is)))
    (case D15 => (refine' SL.defF_mk ?a15 ?l15 ?c15 ?k15; (case a15 => k_is); (case l15 => k_is); (case c15 => k_is); (case k15 => k_is)))
    (case D16 => (refine' SL.defF_mk ?a16 ?l16 ?c16 ?k16; (case a16 => k_is); (case l16 => k_is); (case c16 => k_is); (case k16 => k_is)))
    (case D17 => (refine' SL.defF_mk ?a17 ?l17 ?c17 ?k17; (case a17 => k_is); (case l17 => k_is); (case c17 => k_is); (case k17 => k_is)))
    (case D18 => (refine' SL.defF_mk ?a18 ?l18 ?c18 ?k18; (case a18 => k_is); (case l18 => k_is); (case c18 => k_is); (case k18 => k_is)))
    (case D19 => (refine' SL.defF_mk ?a19 ?l19 ?c19 ?k19; (case a19 => k_is); (case l19 => k_is); (case c19 => k_is); (case k19 => k_is)))
    (case a => k_is); (case l => k_is); (case c => k_is); (case kk => k_is)

