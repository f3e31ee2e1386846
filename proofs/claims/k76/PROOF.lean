import PyProof.Rows.All
import Wide.All
import OpenK.AllK
import Wide.FinOn
import HandS.ForMost
import HandS.SortKw
import HandS.IsInst
import HandS.Conv
import HandS.TupAny
import HandS.Wide
import HandS.Flow
import HandS.Style
import HandS.Small
import HandS.NoneIn
import HandS.More
import HandS.Property
import HandS.TupSets
import HandS.SortRule
import HandS.SortInts
import PySem.Challenge.RW_standingasks_k76_whole_stairs
set_option Elab.async false
set_option linter.all false
set_option maxRecDepth 100000
/-! DL: a layer over HandS that speaks of plain data. Values are seen as data D (ints, texts, tuples, lists that no longer change) or as places of things that change (loc); Mem tells what stands at those places. A frozen part F of the abstract heap bears the data. -/
namespace DL
open PySem L2

/-! ### data -/
inductive D where
  | non | bl (b : Bool) | int (i : Int) | str (x : Str)
  | tup (l : List D) | lst (l : List D)
  /-- a list that is read alone (the script) -/
  | lsr (l : List D)
  | loc (a : Addr)
  | ty (n : String)

mutual
inductive Rep (K : PySem.W.Frag) (F : Hp) : V → D → Prop
  | non : Rep K F .non .non
  | bl (b : Bool) : Rep K F (.bl b) (.bl b)
  | int (i : Int) : Rep K F (.int i) (.int i)
  | str (x : Str) : Rep K F (.str x) (.str x)
  | tup {a : Addr} {xs : List V} {ds : List D} : SqT K F a xs → Reps K F xs ds → Rep K F (.ref a) (.tup ds)
  | lst {a : Addr} {xs : List V} {ds : List D} : F a = some (.lst xs) → Reps K F xs ds → Rep K F (.ref a) (.lst ds)
  | lsr {a : Addr} {xs : List V} {ds : List D} : SqL K F a xs → Reps K F xs ds → Rep K F (.ref a) (.lsr ds)
  | loc (a : Addr) : Rep K F (.ref a) (.loc a)
  | ty (n : String) : Rep K F (.ty n) (.ty n)
inductive Reps (K : PySem.W.Frag) (F : Hp) : List V → List D → Prop
  | nil : Reps K F [] []
  | cons {v : V} {vs : List V} {d : D} {ds : List D} : Rep K F v d → Reps K F vs ds → Reps K F (v :: vs) (d :: ds)
end

theorem same_seqT {K : PySem.W.Frag} {H H' : Hp} {a : Addr} {xs : List V} (e : Same H H') (h : SqT K H a xs) : SqT K H' a xs := by
  rcases h with (h | ⟨o, h⟩) | h
  · exact .inl (.inl (e _ _ h))
  · exact .inl (.inr ⟨o, e _ _ h⟩)
  · exact .inr h

mutual
theorem Rep.mono {K : PySem.W.Frag} {F F' : Hp} (s : Same F F') : ∀ {v : V} {d : D}, Rep K F v d → Rep K F' v d
  | _, _, .non => .non
  | _, _, .bl b => .bl b
  | _, _, .int i => .int i
  | _, _, .str x => .str x
  | _, _, .tup h hs => .tup (same_seqT s h) (Reps.mono s hs)
  | _, _, .lst h hs => .lst (s _ _ h) (Reps.mono s hs)
  | _, _, .lsr h hs => .lsr (s.seq h) (Reps.mono s hs)
  | _, _, .loc a => .loc a
  | _, _, .ty n => .ty n
theorem Reps.mono {K : PySem.W.Frag} {F F' : Hp} (s : Same F F') : ∀ {vs : List V} {ds : List D}, Reps K F vs ds → Reps K F' vs ds
  | _, _, .nil => .nil
  | _, _, .cons h hs => .cons (Rep.mono s h) (Reps.mono s hs)
end
section
variable {K : PySem.W.Frag} {F : Hp} {vs ws : List V} {ds es : List D}
theorem Reps.length : ∀ {vs : List V} {ds : List D}, Reps K F vs ds → vs.length = ds.length
  | _, _, .nil => rfl
  | _, _, .cons _ t => congrArg (· + 1) (Reps.length t)
theorem Reps.append : ∀ {vs ws : List V} {ds es : List D}, Reps K F vs ds → Reps K F ws es → Reps K F (vs ++ ws) (ds ++ es)
  | _, _, _, _, .nil, s => s
  | _, _, _, _, .cons r t, s => .cons r (Reps.append t s)
theorem Reps.get : ∀ {vs : List V} {ds : List D} {i : Nat} {d : D}, Reps K F vs ds → ds[i]? = some d → ∃ v, vs[i]? = some v ∧ Rep K F v d
  | _, _, _, _, .nil, e => by simp at e
  | _, _, 0, d, .cons r _, e => by simp at e; subst e; exact ⟨_, rfl, r⟩
  | _, _, i + 1, d, .cons _ t, e => by
    obtain ⟨u, h1, h2⟩ := Reps.get (i := i) (d := d) t (by simpa using e)
    exact ⟨u, by simpa using h1, h2⟩
theorem Reps.get' : ∀ {vs : List V} {ds : List D} {i : Nat} {v : V}, Reps K F vs ds → vs[i]? = some v → ∃ d, ds[i]? = some d ∧ Rep K F v d
  | _, _, _, _, .nil, e => by simp at e
  | _, _, 0, d, .cons r _, e => by simp at e; subst e; exact ⟨_, rfl, r⟩
  | _, _, i + 1, d, .cons _ t, e => by
    obtain ⟨u, h1, h2⟩ := Reps.get' (i := i) (v := d) t (by simpa using e)
    exact ⟨u, by simpa using h1, h2⟩
theorem Reps.take : ∀ {vs : List V} {ds : List D} (n : Nat), Reps K F vs ds → Reps K F (vs.take n) (ds.take n)
  | _, _, 0, _ => .nil
  | _, _, _ + 1, .nil => .nil
  | _, _, n + 1, .cons r t => .cons r (Reps.take n t)
theorem Reps.drop : ∀ {vs : List V} {ds : List D} (n : Nat), Reps K F vs ds → Reps K F (vs.drop n) (ds.drop n)
  | _, _, 0, r => r
  | _, _, _ + 1, .nil => .nil
  | _, _, n + 1, .cons _ t => Reps.drop n t
theorem Reps.set {v : V} {d : D} (r : Rep K F v d) : ∀ {vs : List V} {ds : List D} (i : Nat), Reps K F vs ds → Reps K F (vs.set i v) (ds.set i d)
  | _, _, _, .nil => .nil
  | _, _, 0, .cons _ t => .cons r t
  | _, _, i + 1, .cons q t => .cons q (Reps.set r i t)
theorem Reps.reverse : ∀ {vs : List V} {ds : List D}, Reps K F vs ds → Reps K F vs.reverse ds.reverse
  | _, _, .nil => .nil
  | _, _, .cons r t => by
    rw [List.reverse_cons, List.reverse_cons]
    exact Reps.append (Reps.reverse t) (.cons r .nil)
theorem Reps.eraseIdx : ∀ {vs : List V} {ds : List D} (i : Nat), Reps K F vs ds → Reps K F (vs.eraseIdx i) (ds.eraseIdx i)
  | _, _, _, .nil => .nil
  | _, _, 0, .cons _ t => t
  | _, _, i + 1, .cons q t => .cons q (Reps.eraseIdx i t)
theorem Reps.of_ints (ns : List Int) : Reps K F (ns.map V.int) (ns.map D.int) := by
  induction ns with
  | nil => exact .nil
  | cons n r ih => exact .cons (.int n) ih
theorem Reps.ints : ∀ {vs : List V} (ns : List Int), Reps K F vs (ns.map D.int) → vs = ns.map V.int
  | _, [], .nil => rfl
  | _, n :: r, .cons (.int _) t => by rw [Reps.ints r t]; rfl
theorem Reps.bls : ∀ {vs : List V} (ns : List Bool), Reps K F vs (ns.map D.bl) → vs = ns.map V.bl
  | _, [], .nil => rfl
  | _, n :: r, .cons (.bl _) t => by rw [Reps.bls r t]; rfl
end

/-! ### what changes -/
/-- a thing that changes: a list, a dict, an instance -/
inductive MO where
  | lst (ds : List D)
  | dct (kvs : List (Key × D))
  | ins (C : Addr) (fs : List (Str × D))

abbrev Mem := Addr → Option MO
def Mem.upd (μ : Mem) (a : Addr) (o : MO) : Mem := fun b => if b = a then some o else μ b
def Mem.del (μ : Mem) (a : Addr) : Mem := fun b => if b = a then none else μ b
def Mem.emp : Mem := fun _ => none
theorem Mem.upd_same {μ : Mem} {a : Addr} {o : MO} : (μ.upd a o) a = some o := by unfold Mem.upd; rw [if_pos rfl]
theorem Mem.upd_ne {μ : Mem} {a b : Addr} {o : MO} (h : b ≠ a) : (μ.upd a o) b = μ b := by unfold Mem.upd; rw [if_neg h]
theorem Mem.upd_upd {μ : Mem} {a : Addr} {o u : MO} : (μ.upd a o).upd a u = μ.upd a u := by
  funext b; unfold Mem.upd; split <;> rfl
theorem Mem.del_same {μ : Mem} {a : Addr} : (μ.del a) a = none := by unfold Mem.del; rw [if_pos rfl]
theorem Mem.del_ne {μ : Mem} {a b : Addr} (h : b ≠ a) : (μ.del a) b = μ b := by unfold Mem.del; rw [if_neg h]
theorem Mem.del_upd {μ : Mem} {a : Addr} {o : MO} (h : μ a = none) : (μ.upd a o).del a = μ := by
  funext b
  show (if b = a then none else if b = a then some o else μ b) = μ b
  by_cases e : b = a
  · rw [if_pos e, e, h]
  · rw [if_neg e, if_neg e]
/-- all that stands in μ stands in μ' -/
def Mem.Sub (μ μ' : Mem) : Prop := ∀ a o, μ a = some o → μ' a = some o
theorem Mem.Sub.refl (μ : Mem) : μ.Sub μ := fun _ _ h => h
theorem Mem.Sub.trans {a b c : Mem} (h : a.Sub b) (k : b.Sub c) : a.Sub c := fun x o e => k x o (h x o e)
theorem Mem.Sub.new {μ : Mem} {a : Addr} {o : MO} (h : μ a = none) : μ.Sub (μ.upd a o) := fun b u e => by
  unfold Mem.upd; split
  · rename_i q; subst q; rw [h] at e; cases e
  · exact e

/-- a dict's entries -/
inductive KReps (K : PySem.W.Frag) (F : Hp) : List (Key × V) → List (Key × D) → Prop
  | nil : KReps K F [] []
  | cons {k : Key} {v : V} {d : D} {kvs : List (Key × V)} {kds : List (Key × D)} : Rep K F v d → KReps K F kvs kds → KReps K F ((k, v) :: kvs) ((k, d) :: kds)
inductive FReps (K : PySem.W.Frag) (F : Hp) : List (Str × V) → List (Str × D) → Prop
  | nil : FReps K F [] []
  | cons {k : Str} {v : V} {d : D} {kvs : List (Str × V)} {kds : List (Str × D)} : Rep K F v d → FReps K F kvs kds → FReps K F ((k, v) :: kvs) ((k, d) :: kds)
theorem KReps.mono {K : PySem.W.Frag} {F F' : Hp} (s : Same F F') : ∀ {a : List (Key × V)} {b : List (Key × D)}, KReps K F a b → KReps K F' a b
  | _, _, .nil => .nil
  | _, _, .cons r t => .cons (r.mono s) (KReps.mono s t)
theorem FReps.mono {K : PySem.W.Frag} {F F' : Hp} (s : Same F F') : ∀ {a : List (Str × V)} {b : List (Str × D)}, FReps K F a b → FReps K F' a b
  | _, _, .nil => .nil
  | _, _, .cons r t => .cons (r.mono s) (FReps.mono s t)
inductive RepO (K : PySem.W.Frag) (F : Hp) : HO → MO → Prop
  | lst {xs : List V} {ds : List D} : Reps K F xs ds → RepO K F (.lst xs) (.lst ds)
  | dct {kvs : List (Key × V)} {kds : List (Key × D)} : KReps K F kvs kds → RepO K F (.dK kvs) (.dct kds)
  | ins {C dx : Addr} {fs : List (Str × V)} {fds : List (Str × D)} : FReps K F fs fds → RepO K F (.ins C dx fs) (.ins C fds)
theorem RepO.mono {K : PySem.W.Frag} {F F' : Hp} (s : Same F F') {o : HO} {m : MO} (h : RepO K F o m) : RepO K F' o m := by
  cases h with
  | lst h => exact .lst (h.mono s)
  | dct h => exact .dct (h.mono s)
  | ins h => exact .ins (h.mono s)

/-- the frozen part F, the heap H, what changes μ -/
structure Rel (K : PySem.W.Frag) (F H : Hp) (μ : Mem) : Prop where
  same : Same F H
  mem : ∀ a o, μ a = some o → F a = none ∧ ∃ ho, H a = some ho ∧ RepO K F ho o
/-- how the state may go on -/
structure Ext (F H : Hp) (μ : Mem) (F' H' : Hp) (μ' : Mem) : Prop where
  fr : Same F F'
  keep : ∀ a o, H a = some o → μ a = none → H' a = some o
  newF : ∀ a, F' a ≠ none → F a ≠ none ∨ μ a ≠ none ∨ H a = none
  newM : ∀ a, μ' a ≠ none → μ a ≠ none ∨ H a = none
theorem Ext.refl (F H : Hp) (μ : Mem) : Ext F H μ F H μ := ⟨Same.refl _, fun _ _ h _ => h, fun _ h => .inl h, fun _ h => .inl h⟩
theorem Ext.trans {F H F1 H1 F2 H2 : Hp} {μ μ1 μ2 : Mem} (a : Ext F H μ F1 H1 μ1) (b : Ext F1 H1 μ1 F2 H2 μ2) : Ext F H μ F2 H2 μ2 := by
  have stay : ∀ x, H1 x = none → μ x ≠ none ∨ H x = none := fun x h => by
    cases q : H x with
    | none => exact .inr rfl
    | some o =>
      refine .inl fun m => ?_
      rw [a.keep x o q m] at h; cases h
  refine ⟨a.fr.trans b.fr, fun x o h m => ?_, fun x h => ?_, fun x h => ?_⟩
  · refine b.keep x o (a.keep x o h m) ?_
    cases q : μ1 x with
    | none => rfl
    | some u =>
      rcases a.newM x (by rw [q]; simp) with z | z
      · exact absurd m z
      · rw [h] at z; cases z
  · rcases b.newF x h with z | z | z
    · exact a.newF x z
    · rcases a.newM x z with y | y
      · exact .inr (.inl y)
      · exact .inr (.inr y)
    · rcases stay x z with y | y
      · exact .inr (.inl y)
      · exact .inr (.inr y)
  · rcases b.newM x h with z | z
    · exact a.newM x z
    · exact stay x z
/-- things may be forgotten -/
theorem Rel.drop {K : PySem.W.Frag} {F H : Hp} {μ μ' : Mem} (r : Rel K F H μ) (s : μ'.Sub μ) : Rel K F H μ' := ⟨r.same, fun a o h => r.mem a o (s a o h)⟩
theorem Ext.drop {F H F1 H1 : Hp} {μ μ1 μ2 : Mem} (a : Ext F H μ F1 H1 μ1) (s : μ2.Sub μ1) : Ext F H μ F1 H1 μ2 := by
  refine ⟨a.fr, a.keep, a.newF, fun x h => a.newM x fun q => h ?_⟩
  cases e : μ2 x with
  | none => rfl
  | some o => rw [s x o e] at q; cases q
/-- a new frozen object -/
theorem Rel.fresh {K : PySem.W.Frag} {F H : Hp} {μ : Mem} (r : Rel K F H μ) {p : Addr} (h : H p = none) : F p = none ∧ μ p = none := by
  constructor
  · exact r.same.free h
  · cases q : μ p with
    | none => rfl
    | some o => obtain ⟨_, ho, e, _⟩ := r.mem p o q; rw [h] at e; cases e
theorem same_new {F : Hp} {p : Addr} {o : HO} (h : F p = none) : Same F (L2.upd F p o) := fun b u e => by
  rw [L2.upd_ne (ne_of_none e h)]; exact e
theorem Rel.layF {K : PySem.W.Frag} {F H : Hp} {μ : Mem} (r : Rel K F H μ) {p : Addr} (h : H p = none) (o : HO) :
    Rel K (L2.upd F p o) (L2.upd H p o) μ ∧ Ext F H μ (L2.upd F p o) (L2.upd H p o) μ := by
  obtain ⟨hF, hM⟩ := r.fresh h
  refine ⟨⟨fun b u e => ?_, fun a u e => ?_⟩, same_new hF, fun a u e m => ?_, fun a q => ?_, fun a q => .inl q⟩
  · by_cases hb : b = p
    · subst hb; rw [L2.upd_same] at e ⊢; exact e
    · rw [L2.upd_ne hb] at e ⊢; exact r.same b u e
  · obtain ⟨h1, ho, h2, h3⟩ := r.mem a u e
    have ha : a ≠ p := ne_of_none h2 h
    rw [L2.upd_ne ha, L2.upd_ne ha]
    exact ⟨h1, ho, h2, h3.mono (same_new hF)⟩
  · rw [L2.upd_ne (ne_of_none e h)]; exact e
  · by_cases ha : a = p
    · subst ha; exact .inr (.inr h)
    · rw [L2.upd_ne ha] at q; exact .inl q
/-- a new thing that changes -/
theorem Rel.layM {K : PySem.W.Frag} {F H : Hp} {μ : Mem} (r : Rel K F H μ) {p : Addr} (h : H p = none) {o : HO} {m : MO} (ho : RepO K F o m) :
    Rel K F (L2.upd H p o) (μ.upd p m) ∧ Ext F H μ F (L2.upd H p o) (μ.upd p m) := by
  obtain ⟨hF, hM⟩ := r.fresh h
  refine ⟨⟨fun b u e => ?_, fun a u e => ?_⟩, Same.refl _, fun a u e _ => ?_, fun a q => .inl q, fun a q => ?_⟩
  · rw [L2.upd_ne (ne_of_none e hF)]; exact r.same b u e
  · by_cases ha : a = p
    · subst ha; rw [Mem.upd_same] at e; cases e; exact ⟨hF, o, L2.upd_same, ho⟩
    · rw [Mem.upd_ne ha] at e
      obtain ⟨h1, ho, h2, h3⟩ := r.mem a u e
      exact ⟨h1, ho, by rw [L2.upd_ne ha]; exact h2, h3⟩
  · rw [L2.upd_ne (ne_of_none e h)]; exact e
  · by_cases ha : a = p
    · subst ha; exact .inr h
    · rw [Mem.upd_ne ha] at q; exact .inl q
/-- a thing changes -/
theorem Rel.put {K : PySem.W.Frag} {F H : Hp} {μ : Mem} (r : Rel K F H μ) {p : Addr} {m0 : MO} (h : μ p = some m0) {o : HO} {m : MO} (ho : RepO K F o m) :
    Rel K F (L2.upd H p o) (μ.upd p m) ∧ Ext F H μ F (L2.upd H p o) (μ.upd p m) := by
  obtain ⟨hF, ho0, hH, _⟩ := r.mem p m0 h
  refine ⟨⟨fun b u e => ?_, fun a u e => ?_⟩, Same.refl _, fun a u e q => ?_, fun a q => .inl q, fun a q => ?_⟩
  · rw [L2.upd_ne (ne_of_none e hF)]; exact r.same b u e
  · by_cases ha : a = p
    · subst ha; rw [Mem.upd_same] at e; cases e; exact ⟨hF, o, L2.upd_same, ho⟩
    · rw [Mem.upd_ne ha] at e
      obtain ⟨h1, ho, h2, h3⟩ := r.mem a u e
      exact ⟨h1, ho, by rw [L2.upd_ne ha]; exact h2, h3⟩
  · have ha : a ≠ p := fun z => by subst z; rw [h] at q; cases q
    rw [L2.upd_ne ha]; exact e
  · by_cases ha : a = p
    · subst ha; exact .inl (by rw [h]; simp)
    · rw [Mem.upd_ne ha] at q; exact .inl q
/-- a list that no longer changes -/
theorem Rel.freeze {K : PySem.W.Frag} {F H : Hp} {μ : Mem} (r : Rel K F H μ) {p : Addr} {ds : List D} (h : μ p = some (.lst ds)) :
    ∃ F', Rel K F' H (μ.del p) ∧ Ext F H μ F' H (μ.del p) ∧ Rep K F' (.ref p) (.lst ds) := by
  obtain ⟨hF, ho, hH, q⟩ := r.mem p _ h
  cases q with
  | @lst xs _ hx =>
    refine ⟨L2.upd F p (.lst xs), ⟨fun b u e => ?_, fun a u e => ?_⟩, ⟨same_new hF, fun a u e _ => e, fun a q => ?_, fun a q => ?_⟩, .lst L2.upd_same (hx.mono (same_new hF))⟩
    · by_cases hb : b = p
      · subst hb; rw [L2.upd_same] at e; rw [← e]; exact hH
      · rw [L2.upd_ne hb] at e; exact r.same b u e
    · have ha : a ≠ p := fun z => by subst z; rw [Mem.del_same] at e; cases e
      rw [Mem.del_ne ha] at e
      obtain ⟨h1, ho, h2, h3⟩ := r.mem a u e
      exact ⟨by rw [L2.upd_ne ha]; exact h1, ho, h2, h3.mono (same_new hF)⟩
    · by_cases ha : a = p
      · subst ha; exact .inr (.inl (by rw [h]; simp))
      · rw [L2.upd_ne ha] at q; exact .inl q
    · refine .inl fun z => q ?_
      unfold Mem.del
      rw [z]; split <;> rfl

/-! ### a family of contexts -/
structure Gam where
  P : Program
  w : World
  K : PySem.W.Frag
  mg : Str → Option Value
  base : Heap
  N : List Str
  sc : Scope
  fn : Str → Bool
  k : Nat
structure Gam.ok (Γ : Gam) (X : Cx) : Prop where
  P : X.prog = Γ.P
  w : X.w = Γ.w
  K : X.K = Γ.K
  mg : X.mg = Γ.mg
  base : X.base = Γ.base
  N : X.N = Γ.N
  sc : X.env.scope = Γ.sc
  fn : X.fn = Γ.fn
  calm : X.calm = true
  xe : X.xe = fun _ _ => False
  room : Room Γ.k X.A
  nd : X.N.Nodup

def semE (Γ : Gam) (e : Expr) : TE := fun σ H Q => ∃ (t : TE) (Q0 : VK), (∀ X, Γ.ok X → PE X e t) ∧ t σ H Q0 ∧ ∀ v H', Q0 v H' → Q v H'
def semT (Γ : Gam) (e : Expr) : TT := fun σ H Q => ∃ (t : TT) (Q0 : Bool → Hp → Prop), (∀ X, Γ.ok X → PT X e t) ∧ t σ H Q0 ∧ ∀ v H', Q0 v H' → Q v H'
def semW (Γ : Gam) (e : Expr) : TT := fun σ H Q => ∃ (t : TT) (Q0 : Bool → Hp → Prop), (∀ X, Γ.ok X → PW X e t) ∧ t σ H Q0 ∧ ∀ v H', Q0 v H' → Q v H'
def semTs (Γ : Gam) (es : List Expr) : TT := fun σ H Q => ∃ (t : TT) (Q0 : Bool → Hp → Prop), (∀ X, Γ.ok X → PTs X es t) ∧ t σ H Q0 ∧ ∀ v H', Q0 v H' → Q v H'
def semA (Γ : Gam) (es : List Expr) : TA := fun σ H Q => ∃ (t : TA) (Q0 : List V → Hp → Prop), (∀ X, Γ.ok X → PA X es t) ∧ t σ H Q0 ∧ ∀ v H', Q0 v H' → Q v H'
def semG (Γ : Gam) (e : Expr) : TG := fun v σ H Q => ∃ (t : TG) (Q0 : L2.St → Hp → Prop), (∀ X, Γ.ok X → PG X e t) ∧ t v σ H Q0 ∧ ∀ σ' H', Q0 σ' H' → Q σ' H'
structure EndsLe (D E : Ends) : Prop where
  nx : ∀ σ H, D.nx σ H → E.nx σ H
  rt : ∀ v H, D.rt v H → E.rt v H
  bk : ∀ σ H, D.bk σ H → E.bk σ H
  ct : ∀ σ H, D.ct σ H → E.ct σ H
theorem sp_le {X : Cx} {pins : List (Addr × Obj)} {D E : Ends} (h : EndsLe D E) {f : Flow} {s : Shared} (q : SP X pins D f s) : SP X pins E f s := by
  cases f with
  | next => obtain ⟨σ', H', I, q⟩ := q; exact ⟨σ', H', I, h.nx _ _ q⟩
  | brk => obtain ⟨σ', H', I, q⟩ := q; exact ⟨σ', H', I, h.bk _ _ q⟩
  | cont => obtain ⟨σ', H', I, q⟩ := q; exact ⟨σ', H', I, h.ct _ _ q⟩
  | ret u => obtain ⟨v, σ', H', I, r, q⟩ := q; exact ⟨v, σ', H', I, r, h.rt _ _ q⟩
def semS (Γ : Gam) (st : Stmt) : TS := fun D σ H => ∃ (t : TS) (D0 : Ends), (∀ X, Γ.ok X → PS X st t) ∧ t D0 σ H ∧ EndsLe D0 D
def semSs (Γ : Gam) (st : List Stmt) : TS := fun D σ H => ∃ (t : TS) (D0 : Ends), (∀ X, Γ.ok X → PSs X st t) ∧ t D0 σ H ∧ EndsLe D0 D

section
variable {Γ : Gam} {X : Cx}
theorem pe_sem (hX : Γ.ok X) (e : Expr) : PE X e (semE Γ e) := ⟨fun pins s σ H Q I ⟨t, Q0, h, ht, hq⟩ =>
  thn ((h X hX).run pins s σ H Q0 I ht) fun _ _ ⟨v, H', I', r, q⟩ => ⟨v, H', I', r, hq _ _ q⟩⟩
theorem pt_sem (hX : Γ.ok X) (e : Expr) : PT X e (semT Γ e) := ⟨fun pins s σ H Q I ⟨t, Q0, h, ht, hq⟩ =>
  thn ((h X hX).run pins s σ H Q0 I ht) fun _ _ ⟨H', I', q⟩ => ⟨H', I', hq _ _ q⟩⟩
theorem pw_sem (hX : Γ.ok X) (e : Expr) : PW X e (semW Γ e) := ⟨fun wh pins s σ H Q I ⟨t, Q0, h, ht, hq⟩ =>
  thn ((h X hX).run wh pins s σ H Q0 I ht) fun _ _ ⟨H', I', q⟩ => ⟨H', I', hq _ _ q⟩⟩
theorem pts_sem (hX : Γ.ok X) (es : List Expr) : PTs X es (semTs Γ es) := ⟨fun pins s σ H Q I ⟨t, Q0, h, ht, hq⟩ =>
  thn ((h X hX).run pins s σ H Q0 I ht) fun _ _ ⟨H', I', q⟩ => ⟨H', I', hq _ _ q⟩⟩
theorem pa_sem (hX : Γ.ok X) (es : List Expr) : PA X es (semA Γ es) := ⟨fun pos pins s σ H Q I ⟨t, Q0, h, ht, hq⟩ =>
  thn ((h X hX).run pos pins s σ H Q0 I ht) fun _ _ ⟨v, H', I', r, q⟩ => ⟨v, H', I', r, hq _ _ q⟩⟩
theorem pg_sem (hX : Γ.ok X) (e : Expr) : PG X e (semG Γ e) := ⟨fun pins s σ H v u Q I r ⟨t, Q0, h, ht, hq⟩ =>
  thn ((h X hX).run pins s σ H v u Q0 I r ht) fun _ _ ⟨σ', H', I', q⟩ => ⟨σ', H', I', hq _ _ q⟩⟩
theorem ps_sem (hX : Γ.ok X) (st : Stmt) : PS X st (semS Γ st) := ⟨fun pins s σ H D I ⟨t, D0, h, ht, hq⟩ =>
  thn ((h X hX).run pins s σ H D0 I ht) fun _ _ q => sp_le hq q⟩
theorem pss_sem (hX : Γ.ok X) (st : List Stmt) : PSs X st (semSs Γ st) := ⟨fun pins s σ H D I ⟨t, D0, h, ht, hq⟩ =>
  thn ((h X hX).run pins s σ H D0 I ht) fun _ _ q => sp_le hq q⟩
end

/-! ### operations by values, in a family -/
def semO (Γ : Gam) (f : Value → Value → Sem Value) : R2 := fun x y H Q => ∃ (r : R2) (Q0 : VK), (∀ X, Γ.ok X → OpR X f r) ∧ r x y H Q0 ∧ ∀ v H', Q0 v H' → Q v H'
def semIx (Γ : Gam) : R2 := fun x y H Q => ∃ (r : R2) (Q0 : VK), (∀ X, Γ.ok X → IxR X r) ∧ r x y H Q0 ∧ ∀ v H', Q0 v H' → Q v H'
def semC (Γ : Gam) (f : Value) : List V → Hp → VK → Prop := fun xs H Q => ∃ (r : List V → Hp → VK → Prop) (Q0 : VK), (∀ X, Γ.ok X → CallR X f r) ∧ r xs H Q0 ∧ ∀ v H', Q0 v H' → Q v H'
def semU (Γ : Gam) (f : Value → Sem Value) : V → Hp → VK → Prop := fun x H Q => ∃ (r : V → Hp → VK → Prop) (Q0 : VK), (∀ X, Γ.ok X → UnR X f r) ∧ r x H Q0 ∧ ∀ v H', Q0 v H' → Q v H'
def semM (Γ : Gam) (id : String) : V → List V → Hp → VK → Prop := fun x xs H Q => ∃ (r : V → List V → Hp → VK → Prop) (Q0 : VK), (∀ X, Γ.ok X → MtR X id r) ∧ r x xs H Q0 ∧ ∀ v H', Q0 v H' → Q v H'
def semSl (Γ : Gam) : V → Option Int → Option Int → Hp → VK → Prop := fun x lo hi H Q => ∃ (r : V → Option Int → Option Int → Hp → VK → Prop) (Q0 : VK), (∀ X, Γ.ok X → SlR X r) ∧ r x lo hi H Q0 ∧ ∀ v H', Q0 v H' → Q v H'
theorem ep_mono {X : Cx} {pins : List (Addr × Obj)} {σ : L2.St} {Q0 Q : VK} (h : ∀ v H', Q0 v H' → Q v H') {u : Value} {s : Shared} (q : EP X pins σ Q0 u s) : EP X pins σ Q u s := by
  obtain ⟨v, H', I, r, q⟩ := q
  exact ⟨v, H', I, r, h _ _ q⟩
end DL
namespace DL
open PySem L2

abbrev Rho := List (Option D)
structure Slots (K : PySem.W.Frag) (F : Hp) (σ : L2.St) (ρ : Rho) : Prop where
  len : σ.length = ρ.length
  at_ : ∀ (i : Nat) (d : D), ρ[i]? = some (some d) → ∃ v, σ[i]? = some (some v) ∧ Rep K F v d
section
variable {K : PySem.W.Frag} {F F' : Hp} {σ : L2.St} {ρ : Rho}
theorem Slots.mono (s : Same F F') (h : Slots K F σ ρ) : Slots K F' σ ρ := ⟨h.len, fun i d e => by
  obtain ⟨v, h1, h2⟩ := h.at_ i d e; exact ⟨v, h1, h2.mono s⟩⟩
theorem Slots.set (h : Slots K F σ ρ) (i : Nat) {v : V} {d : D} (r : Rep K F v d) : Slots K F (σ.set i (some v)) (ρ.set i (some d)) := by
  refine ⟨by rw [List.length_set, List.length_set]; exact h.len, fun j e q => ?_⟩
  by_cases hj : i = j
  · subst hj
    by_cases hl : i < ρ.length
    · rw [List.getElem?_set_self hl] at q
      cases q
      exact ⟨v, List.getElem?_set_self (by rw [h.len]; exact hl), r⟩
    · rw [List.getElem?_eq_none (by rw [List.length_set]; omega)] at q; cases q
  · rw [List.getElem?_set_ne hj] at q ⊢
    exact h.at_ j e q
theorem Slots.unset (h : Slots K F σ ρ) (i : Nat) (o : Option V) : Slots K F (σ.set i o) (ρ.set i none) := by
  refine ⟨by rw [List.length_set, List.length_set]; exact h.len, fun j e q => ?_⟩
  by_cases hj : i = j
  · subst hj
    by_cases hl : i < ρ.length
    · rw [List.getElem?_set_self hl] at q; cases q
    · rw [List.getElem?_eq_none (by rw [List.length_set]; omega)] at q; cases q
  · rw [List.getElem?_set_ne hj] at q ⊢
    exact h.at_ j e q
/-- what is known of the slots may be replaced by other data of the same place -/
theorem Slots.put (h : Slots K F σ ρ) (i : Nat) {d : D} (r : ∀ v, σ[i]? = some (some v) → Rep K F v d) (hi : ∃ v, σ[i]? = some (some v)) : Slots K F σ (ρ.set i (some d)) := by
  refine ⟨by rw [List.length_set]; exact h.len, fun j e q => ?_⟩
  by_cases hj : i = j
  · subst hj
    by_cases hl : i < ρ.length
    · rw [List.getElem?_set_self hl] at q; cases q
      obtain ⟨v, hv⟩ := hi
      exact ⟨v, hv, r v hv⟩
    · rw [List.getElem?_eq_none (by rw [List.length_set]; omega)] at q; cases q
  · rw [List.getElem?_set_ne hj] at q
    exact h.at_ j e q
end
def wipeD (ρ : Rho) : List Nat → Rho
  | [] => ρ
  | v :: vs => (wipeD ρ vs).set v none
theorem Slots.wipe {K : PySem.W.Frag} {F : Hp} {σ : L2.St} {ρ : Rho} (h : Slots K F σ ρ) : ∀ vs : List Nat, Slots K F (wipe σ vs) (wipeD ρ vs)
  | [] => h
  | v :: vs => (Slots.wipe h vs).unset v none

/-! ### what is wanted -/
def Post (K : PySem.W.Frag) (F H : Hp) (μ : Mem) (Q : D → Mem → Prop) : VK := fun v H' => ∃ F' d μ', Rel K F' H' μ' ∧ Ext F H μ F' H' μ' ∧ Rep K F' v d ∧ Q d μ'
def PostT (K : PySem.W.Frag) (F H : Hp) (μ : Mem) (Q : Bool → Mem → Prop) : Bool → Hp → Prop := fun b H' => ∃ F' μ', Rel K F' H' μ' ∧ Ext F H μ F' H' μ' ∧ Q b μ'
def PostA (K : PySem.W.Frag) (F H : Hp) (μ : Mem) (Q : List D → Mem → Prop) : List V → Hp → Prop := fun vs H' => ∃ F' ds μ', Rel K F' H' μ' ∧ Ext F H μ F' H' μ' ∧ Reps K F' vs ds ∧ Q ds μ'
def PostS (K : PySem.W.Frag) (F H : Hp) (μ : Mem) (Q : Rho → Mem → Prop) : L2.St → Hp → Prop := fun σ' H' => ∃ F' ρ' μ', Slots K F' σ' ρ' ∧ Rel K F' H' μ' ∧ Ext F H μ F' H' μ' ∧ Q ρ' μ'
structure DEnds where
  nx : Rho → Mem → Prop
  rt : D → Mem → Prop
  bk : Rho → Mem → Prop := fun _ _ => False
  ct : Rho → Mem → Prop := fun _ _ => False
def DEnds.lift (D : DEnds) (K : PySem.W.Frag) (F H : Hp) (μ : Mem) : Ends := ⟨PostS K F H μ D.nx, Post K F H μ D.rt, PostS K F H μ D.bk, PostS K F H μ D.ct⟩

def WE (Γ : Gam) (e : Expr) (ρ : Rho) (μ : Mem) (Q : D → Mem → Prop) : Prop := ∀ σ F H, Slots Γ.K F σ ρ → Rel Γ.K F H μ → semE Γ e σ H (Post Γ.K F H μ Q)
def WT (Γ : Gam) (e : Expr) (ρ : Rho) (μ : Mem) (Q : Bool → Mem → Prop) : Prop := ∀ σ F H, Slots Γ.K F σ ρ → Rel Γ.K F H μ → semT Γ e σ H (PostT Γ.K F H μ Q)
def WW (Γ : Gam) (e : Expr) (ρ : Rho) (μ : Mem) (Q : Bool → Mem → Prop) : Prop := ∀ σ F H, Slots Γ.K F σ ρ → Rel Γ.K F H μ → semW Γ e σ H (PostT Γ.K F H μ Q)
def WTs (Γ : Gam) (es : List Expr) (ρ : Rho) (μ : Mem) (Q : Bool → Mem → Prop) : Prop := ∀ σ F H, Slots Γ.K F σ ρ → Rel Γ.K F H μ → semTs Γ es σ H (PostT Γ.K F H μ Q)
def WA (Γ : Gam) (es : List Expr) (ρ : Rho) (μ : Mem) (Q : List D → Mem → Prop) : Prop := ∀ σ F H, Slots Γ.K F σ ρ → Rel Γ.K F H μ → semA Γ es σ H (PostA Γ.K F H μ Q)
def WG (Γ : Gam) (e : Expr) (d : D) (ρ : Rho) (μ : Mem) (Q : Rho → Mem → Prop) : Prop := ∀ v σ F H, Rep Γ.K F v d → Slots Γ.K F σ ρ → Rel Γ.K F H μ → semG Γ e v σ H (PostS Γ.K F H μ Q)
def WS (Γ : Gam) (st : Stmt) (ρ : Rho) (μ : Mem) (D : DEnds) : Prop := ∀ σ F H, Slots Γ.K F σ ρ → Rel Γ.K F H μ → semS Γ st (D.lift Γ.K F H μ) σ H
def WSs (Γ : Gam) (st : List Stmt) (ρ : Rho) (μ : Mem) (D : DEnds) : Prop := ∀ σ F H, Slots Γ.K F σ ρ → Rel Γ.K F H μ → semSs Γ st (D.lift Γ.K F H μ) σ H
def WO (Γ : Gam) (f : Value → Value → Sem Value) (x y : D) (μ : Mem) (Q : D → Mem → Prop) : Prop := ∀ v u F H, Rep Γ.K F v x → Rep Γ.K F u y → Rel Γ.K F H μ → semO Γ f v u H (Post Γ.K F H μ Q)
def WIx (Γ : Gam) (x y : D) (μ : Mem) (Q : D → Mem → Prop) : Prop := ∀ v u F H, Rep Γ.K F v x → Rep Γ.K F u y → Rel Γ.K F H μ → semIx Γ v u H (Post Γ.K F H μ Q)
def WU (Γ : Gam) (f : Value → Sem Value) (x : D) (μ : Mem) (Q : D → Mem → Prop) : Prop := ∀ v F H, Rep Γ.K F v x → Rel Γ.K F H μ → semU Γ f v H (Post Γ.K F H μ Q)
def WC (Γ : Gam) (f : Value) (xs : List D) (μ : Mem) (Q : D → Mem → Prop) : Prop := ∀ vs F H, Reps Γ.K F vs xs → Rel Γ.K F H μ → semC Γ f vs H (Post Γ.K F H μ Q)
def WM (Γ : Gam) (id : String) (x : D) (xs : List D) (μ : Mem) (Q : D → Mem → Prop) : Prop := ∀ v vs F H, Rep Γ.K F v x → Reps Γ.K F vs xs → Rel Γ.K F H μ → semM Γ id v vs H (Post Γ.K F H μ Q)

section
variable {K : PySem.W.Frag} {F H F1 H1 : Hp} {μ μ1 : Mem}
theorem Post.ext {Q : D → Mem → Prop} (e : Ext F H μ F1 H1 μ1) {v : V} {H2 : Hp} (h : Post K F1 H1 μ1 Q v H2) : Post K F H μ Q v H2 := by
  obtain ⟨F', d, μ', r, x, p, q⟩ := h; exact ⟨F', d, μ', r, e.trans x, p, q⟩
theorem PostT.ext {Q : Bool → Mem → Prop} (e : Ext F H μ F1 H1 μ1) {v : Bool} {H2 : Hp} (h : PostT K F1 H1 μ1 Q v H2) : PostT K F H μ Q v H2 := by
  obtain ⟨F', μ', r, x, q⟩ := h; exact ⟨F', μ', r, e.trans x, q⟩
theorem PostA.ext {Q : List D → Mem → Prop} (e : Ext F H μ F1 H1 μ1) {v : List V} {H2 : Hp} (h : PostA K F1 H1 μ1 Q v H2) : PostA K F H μ Q v H2 := by
  obtain ⟨F', d, μ', r, x, p, q⟩ := h; exact ⟨F', d, μ', r, e.trans x, p, q⟩
theorem PostS.ext {Q : Rho → Mem → Prop} (e : Ext F H μ F1 H1 μ1) {v : L2.St} {H2 : Hp} (h : PostS K F1 H1 μ1 Q v H2) : PostS K F H μ Q v H2 := by
  obtain ⟨F', d, μ', s, r, x, q⟩ := h; exact ⟨F', d, μ', s, r, e.trans x, q⟩
theorem DEnds.ext {D : DEnds} (e : Ext F H μ F1 H1 μ1) : EndsLe (D.lift K F1 H1 μ1) (D.lift K F H μ) :=
  ⟨fun _ _ h => PostS.ext e h, fun _ _ h => Post.ext e h, fun _ _ h => PostS.ext e h, fun _ _ h => PostS.ext e h⟩
end
section
variable {Γ : Gam} {ρ : Rho} {μ : Mem} {σ : L2.St} {F H : Hp} {e : Expr}
/-- onward from an expression -/
theorem WE.go {Q : D → Mem → Prop} {R : VK} (h : WE Γ e ρ μ Q) (s : Slots Γ.K F σ ρ) (r : Rel Γ.K F H μ)
    (k : ∀ v F1 H1 d μ1, Rel Γ.K F1 H1 μ1 → Ext F H μ F1 H1 μ1 → Slots Γ.K F1 σ ρ → Rep Γ.K F1 v d → Q d μ1 → R v H1) : semE Γ e σ H R := by
  obtain ⟨t, Q0, h1, h2, h3⟩ := h σ F H s r
  refine ⟨t, Q0, h1, h2, fun v H' q => ?_⟩
  obtain ⟨F', d, μ', r', x, p, q⟩ := h3 v H' q
  exact k v F' H' d μ' r' x (s.mono x.fr) p q
theorem WT.go {Q : Bool → Mem → Prop} {R : Bool → Hp → Prop} (h : WT Γ e ρ μ Q) (s : Slots Γ.K F σ ρ) (r : Rel Γ.K F H μ)
    (k : ∀ v F1 H1 μ1, Rel Γ.K F1 H1 μ1 → Ext F H μ F1 H1 μ1 → Slots Γ.K F1 σ ρ → Q v μ1 → R v H1) : semT Γ e σ H R := by
  obtain ⟨t, Q0, h1, h2, h3⟩ := h σ F H s r
  refine ⟨t, Q0, h1, h2, fun v H' q => ?_⟩
  obtain ⟨F', μ', r', x, q⟩ := h3 v H' q
  exact k v F' H' μ' r' x (s.mono x.fr) q
theorem WW.go {Q : Bool → Mem → Prop} {R : Bool → Hp → Prop} (h : WW Γ e ρ μ Q) (s : Slots Γ.K F σ ρ) (r : Rel Γ.K F H μ)
    (k : ∀ v F1 H1 μ1, Rel Γ.K F1 H1 μ1 → Ext F H μ F1 H1 μ1 → Slots Γ.K F1 σ ρ → Q v μ1 → R v H1) : semW Γ e σ H R := by
  obtain ⟨t, Q0, h1, h2, h3⟩ := h σ F H s r
  refine ⟨t, Q0, h1, h2, fun v H' q => ?_⟩
  obtain ⟨F', μ', r', x, q⟩ := h3 v H' q
  exact k v F' H' μ' r' x (s.mono x.fr) q
theorem WTs.go {es : List Expr} {Q : Bool → Mem → Prop} {R : Bool → Hp → Prop} (h : WTs Γ es ρ μ Q) (s : Slots Γ.K F σ ρ) (r : Rel Γ.K F H μ)
    (k : ∀ v F1 H1 μ1, Rel Γ.K F1 H1 μ1 → Ext F H μ F1 H1 μ1 → Slots Γ.K F1 σ ρ → Q v μ1 → R v H1) : semTs Γ es σ H R := by
  obtain ⟨t, Q0, h1, h2, h3⟩ := h σ F H s r
  refine ⟨t, Q0, h1, h2, fun v H' q => ?_⟩
  obtain ⟨F', μ', r', x, q⟩ := h3 v H' q
  exact k v F' H' μ' r' x (s.mono x.fr) q
theorem WA.go {es : List Expr} {Q : List D → Mem → Prop} {R : List V → Hp → Prop} (h : WA Γ es ρ μ Q) (s : Slots Γ.K F σ ρ) (r : Rel Γ.K F H μ)
    (k : ∀ v F1 H1 d μ1, Rel Γ.K F1 H1 μ1 → Ext F H μ F1 H1 μ1 → Slots Γ.K F1 σ ρ → Reps Γ.K F1 v d → Q d μ1 → R v H1) : semA Γ es σ H R := by
  obtain ⟨t, Q0, h1, h2, h3⟩ := h σ F H s r
  refine ⟨t, Q0, h1, h2, fun v H' q => ?_⟩
  obtain ⟨F', d, μ', r', x, p, q⟩ := h3 v H' q
  exact k v F' H' d μ' r' x (s.mono x.fr) p q
theorem WG.go {Q : Rho → Mem → Prop} {R : L2.St → Hp → Prop} {v : V} {d : D} (h : WG Γ e d ρ μ Q) (p : Rep Γ.K F v d) (s : Slots Γ.K F σ ρ) (r : Rel Γ.K F H μ)
    (k : ∀ σ1 F1 H1 ρ1 μ1, Rel Γ.K F1 H1 μ1 → Ext F H μ F1 H1 μ1 → Slots Γ.K F1 σ1 ρ1 → Q ρ1 μ1 → R σ1 H1) : semG Γ e v σ H R := by
  obtain ⟨t, Q0, h1, h2, h3⟩ := h v σ F H p s r
  refine ⟨t, Q0, h1, h2, fun v H' q => ?_⟩
  obtain ⟨F', ρ', μ', s', r', x, q⟩ := h3 v H' q
  exact k v F' H' ρ' μ' r' x s' q
theorem WO.go {f : Value → Value → Sem Value} {x y : D} {Q : D → Mem → Prop} {F0 H0 : Hp} {μ0 : Mem} {v u : V} (h : WO Γ f x y μ Q) (p : Rep Γ.K F v x) (q : Rep Γ.K F u y) (r : Rel Γ.K F H μ) (z : Ext F0 H0 μ0 F H μ) :
    semO Γ f v u H (Post Γ.K F0 H0 μ0 Q) := by
  obtain ⟨t, Q0, h1, h2, h3⟩ := h v u F H p q r
  exact ⟨t, Q0, h1, h2, fun v H' q => (h3 v H' q).ext z⟩
theorem WIx.go {x y : D} {Q : D → Mem → Prop} {F0 H0 : Hp} {μ0 : Mem} {v u : V} (h : WIx Γ x y μ Q) (p : Rep Γ.K F v x) (q : Rep Γ.K F u y) (r : Rel Γ.K F H μ) (z : Ext F0 H0 μ0 F H μ) :
    semIx Γ v u H (Post Γ.K F0 H0 μ0 Q) := by
  obtain ⟨t, Q0, h1, h2, h3⟩ := h v u F H p q r
  exact ⟨t, Q0, h1, h2, fun v H' q => (h3 v H' q).ext z⟩
theorem WU.go {f : Value → Sem Value} {x : D} {Q : D → Mem → Prop} {F0 H0 : Hp} {μ0 : Mem} {v : V} (h : WU Γ f x μ Q) (p : Rep Γ.K F v x) (r : Rel Γ.K F H μ) (z : Ext F0 H0 μ0 F H μ) :
    semU Γ f v H (Post Γ.K F0 H0 μ0 Q) := by
  obtain ⟨t, Q0, h1, h2, h3⟩ := h v F H p r
  exact ⟨t, Q0, h1, h2, fun v H' q => (h3 v H' q).ext z⟩
theorem WC.go {f : Value} {xs : List D} {Q : D → Mem → Prop} {F0 H0 : Hp} {μ0 : Mem} {vs : List V} (h : WC Γ f xs μ Q) (p : Reps Γ.K F vs xs) (r : Rel Γ.K F H μ) (z : Ext F0 H0 μ0 F H μ) :
    semC Γ f vs H (Post Γ.K F0 H0 μ0 Q) := by
  obtain ⟨t, Q0, h1, h2, h3⟩ := h vs F H p r
  exact ⟨t, Q0, h1, h2, fun v H' q => (h3 v H' q).ext z⟩
theorem WM.go {id : String} {x : D} {xs : List D} {Q : D → Mem → Prop} {F0 H0 : Hp} {μ0 : Mem} {v : V} {vs : List V} (h : WM Γ id x xs μ Q) (p0 : Rep Γ.K F v x) (p : Reps Γ.K F vs xs) (r : Rel Γ.K F H μ) (z : Ext F0 H0 μ0 F H μ) :
    semM Γ id v vs H (Post Γ.K F0 H0 μ0 Q) := by
  obtain ⟨t, Q0, h1, h2, h3⟩ := h v vs F H p0 p r
  exact ⟨t, Q0, h1, h2, fun v H' q => (h3 v H' q).ext z⟩
theorem or_sem {X : Cx} (hX : Γ.ok X) (f : Value → Value → Sem Value) : OpR X f (semO Γ f) := fun pins s σ H x y v u Q I rx ry ⟨r, Q0, h, hr, hq⟩ =>
  thn (h X hX pins s σ H x y v u Q0 I rx ry hr) fun _ _ q => ep_mono hq q
theorem ix_sem {X : Cx} (hX : Γ.ok X) : IxR X (semIx Γ) := fun va sl pins s σ H x y v u Q I rx ry ⟨r, Q0, h, hr, hq⟩ hs =>
  thn (h X hX va sl pins s σ H x y v u Q0 I rx ry hr hs) fun _ _ q => ep_mono hq q
theorem cr_sem {X : Cx} (hX : Γ.ok X) (f : Value) : CallR X f (semC Γ f) := fun pins s σ H xs us Q I rx ⟨r, Q0, h, hr, hq⟩ =>
  thn (h X hX pins s σ H xs us Q0 I rx hr) fun _ _ q => ep_mono hq q
theorem un_sem {X : Cx} (hX : Γ.ok X) (f : Value → Sem Value) : UnR X f (semU Γ f) := fun pins s σ H x v Q I rx ⟨r, Q0, h, hr, hq⟩ =>
  thn (h X hX pins s σ H x v Q0 I rx hr) fun _ _ q => ep_mono hq q
theorem mt_sem {X : Cx} (hX : Γ.ok X) (id : String) : MtR X id (semM Γ id) := fun pins s σ H x xs v us Q I rx rxs ⟨r, Q0, h, hr, hq⟩ =>
  thn (h X hX pins s σ H x xs v us Q0 I rx rxs hr) fun _ _ q => ep_mono hq q
/-- make -/
theorem semE.mk {t : TE} {Q : VK} (h : ∀ X, Γ.ok X → PE X e t) (q : t σ H Q) : semE Γ e σ H Q := ⟨t, Q, h, q, fun _ _ x => x⟩
theorem semT.mk {t : TT} {Q : Bool → Hp → Prop} (h : ∀ X, Γ.ok X → PT X e t) (q : t σ H Q) : semT Γ e σ H Q := ⟨t, Q, h, q, fun _ _ x => x⟩
theorem semW.mk {t : TT} {Q : Bool → Hp → Prop} (h : ∀ X, Γ.ok X → PW X e t) (q : t σ H Q) : semW Γ e σ H Q := ⟨t, Q, h, q, fun _ _ x => x⟩
theorem semO.mk {f : Value → Value → Sem Value} {r : R2} {x y : V} {Q : VK} (h : ∀ X, Γ.ok X → OpR X f r) (q : r x y H Q) : semO Γ f x y H Q := ⟨r, Q, h, q, fun _ _ x => x⟩
theorem semIx.mk {r : R2} {x y : V} {Q : VK} (h : ∀ X, Γ.ok X → IxR X r) (q : r x y H Q) : semIx Γ x y H Q := ⟨r, Q, h, q, fun _ _ x => x⟩
theorem semC.mk {f : Value} {r : List V → Hp → VK → Prop} {xs : List V} {Q : VK} (h : ∀ X, Γ.ok X → CallR X f r) (q : r xs H Q) : semC Γ f xs H Q := ⟨r, Q, h, q, fun _ _ x => x⟩
theorem semU.mk {f : Value → Sem Value} {r : V → Hp → VK → Prop} {x : V} {Q : VK} (h : ∀ X, Γ.ok X → UnR X f r) (q : r x H Q) : semU Γ f x H Q := ⟨r, Q, h, q, fun _ _ x => x⟩
theorem semM.mk {id : String} {r : V → List V → Hp → VK → Prop} {x : V} {xs : List V} {Q : VK} (h : ∀ X, Γ.ok X → MtR X id r) (q : r x xs H Q) : semM Γ id x xs H Q := ⟨r, Q, h, q, fun _ _ x => x⟩
theorem semA.mk {es : List Expr} {t : TA} {Q : List V → Hp → Prop} (h : ∀ X, Γ.ok X → PA X es t) (q : t σ H Q) : semA Γ es σ H Q := ⟨t, Q, h, q, fun _ _ x => x⟩
theorem semG.mk {t : TG} {v : V} {Q : L2.St → Hp → Prop} (h : ∀ X, Γ.ok X → PG X e t) (q : t v σ H Q) : semG Γ e v σ H Q := ⟨t, Q, h, q, fun _ _ x => x⟩
theorem EndsLe.refl (D : Ends) : EndsLe D D := ⟨fun _ _ h => h, fun _ _ h => h, fun _ _ h => h, fun _ _ h => h⟩
theorem EndsLe.trans {A B C : Ends} (h : EndsLe A B) (k : EndsLe B C) : EndsLe A C := ⟨fun _ _ x => k.nx _ _ (h.nx _ _ x), fun _ _ x => k.rt _ _ (h.rt _ _ x), fun _ _ x => k.bk _ _ (h.bk _ _ x), fun _ _ x => k.ct _ _ (h.ct _ _ x)⟩
theorem semS.mk {st : Stmt} {t : TS} {D : Ends} (h : ∀ X, Γ.ok X → PS X st t) (q : t D σ H) : semS Γ st D σ H := ⟨t, D, h, q, .refl _⟩
theorem semSs.mk {st : List Stmt} {t : TS} {D : Ends} (h : ∀ X, Γ.ok X → PSs X st t) (q : t D σ H) : semSs Γ st D σ H := ⟨t, D, h, q, .refl _⟩
theorem semS.le {st : Stmt} {D E : Ends} (q : semS Γ st D σ H) (h : EndsLe D E) : semS Γ st E σ H := by
  obtain ⟨t, D0, h1, h2, h3⟩ := q; exact ⟨t, D0, h1, h2, h3.trans h⟩
theorem semSs.le {st : List Stmt} {D E : Ends} (q : semSs Γ st D σ H) (h : EndsLe D E) : semSs Γ st E σ H := by
  obtain ⟨t, D0, h1, h2, h3⟩ := q; exact ⟨t, D0, h1, h2, h3.trans h⟩
end
theorem Gam.ok.vis {Γ : Gam} {X : Cx} (hX : Γ.ok X) {x : Str} (h : Vis Γ.sc x) : Vis X.env.scope x := by rw [hX.sc]; exact h
theorem Gam.ok.loc {Γ : Gam} {X : Cx} (hX : Γ.ok X) {x : Str} (h : Loc Γ.sc x) : Loc X.env.scope x := by rw [hX.sc]; exact h
theorem Gam.ok.nm {Γ : Gam} {X : Cx} (hX : Γ.ok X) {x : Str} {i : Nat} (h : Γ.N[i]? = some x) : X.N[i]? = some x := by rw [hX.N]; exact h
def GlD (Γ : Gam) (x : Str) : Prop := Γ.sc.names.lookup x = some .globalImplicit
theorem Gam.ok.gl {Γ : Gam} {X : Cx} (hX : Γ.ok X) {x : Str} (h : GlD Γ x) : Gl X x := by
  show X.env.scope.names.lookup x = _
  rw [hX.sc]; exact h
end DL
namespace DL
open PySem L2

section
variable {Γ : Gam} {ρ : Rho} {μ : Mem} {Q : D → Mem → Prop} {a b c e : Expr} {es : List Expr} {pos : Pos}

/-! ### names and constants -/
theorem Post.now {K : PySem.W.Frag} {F H : Hp} {v : V} {d : D} (r : Rel K F H μ) (p : Rep K F v d) (q : Q d μ) : Post K F H μ Q v H := ⟨F, d, μ, r, .refl _ _ _, p, q⟩
theorem we_name (i : Nat) {x : Str} {d : D} (hN : Γ.N[i]? = some x := by rfl) (hv : Vis Γ.sc x := by first | exact Or.inl rfl | exact Or.inr (Or.inl rfl) | exact Or.inr (Or.inr rfl)) (hρ : ρ[i]? = some (some d) := by rfl)
    (hd : (x == ("__debug__" : Str)) = false := by decide) (hcd : (x == ("__classdict__" : Str)) = false := by decide) (q : Q d μ) : WE Γ (.Name x pos) ρ μ Q := fun σ F H s r => by
  obtain ⟨v, h1, h2⟩ := s.at_ i d hρ
  exact semE.mk (fun X hX => pe_var (i := i) (hX.nm hN) (hX.vis hv) hd hcd) ⟨v, h1, .now r h2 q⟩
theorem we_int {i : Int} {j : Nat} (q : Q (.int i) μ) : WE Γ (.Constant (.int i) j pos) ρ μ Q := fun σ F H s r => semE.mk (fun X hX => pe_int) (.now r (.int i) q)
theorem we_bl {i : Bool} {j : Nat} (q : Q (.bl i) μ) : WE Γ (.Constant (.bool i) j pos) ρ μ Q := fun σ F H s r => semE.mk (fun X hX => pe_bl) (.now r (.bl i) q)
theorem we_non {j : Nat} (q : Q .non μ) : WE Γ (.Constant .none j pos) ρ μ Q := fun σ F H s r => semE.mk (fun X hX => pe_non) (.now r .non q)
theorem we_str {i : Str} {j : Nat} (q : Q (.str i) μ) : WE Γ (.Constant (.str i) j pos) ρ μ Q := fun σ F H s r => semE.mk (fun X hX => pe_str) (.now r (.str i) q)
/-- a built-in class by its name, as a value -/
theorem we_type {x : Str} {n : String} (hg : GlD Γ x) (hm : Γ.mg x = none) (hv : bootBuiltins x = some (.type n)) (hn : x ≠ "__name__") (hd : (x == ("__debug__" : Str)) = false) (q : Q (.ty n) μ) : WE Γ (.Name x pos) ρ μ Q := fun σ F H s r =>
  semE.mk (fun X hX => pe_bltn (v := .ty n) (hX.gl hg) (by rw [hX.mg]; exact hm) hv rfl hn hd) (.now r (.ty n) q)

/-! ### operators -/
theorem we_bin {op : Operator} (h : WE Γ a ρ μ fun x μ1 => WE Γ b ρ μ1 fun y μ2 => WO Γ (binaryOp op) x y μ2 Q) : WE Γ (.BinOp a op b pos) ρ μ Q := fun σ F H s r =>
  semE.mk (fun X hX => pe_op (or_sem hX _) (pe_sem hX a) (pe_sem hX b)) (h.go s r fun v F1 H1 x μ1 r1 e1 s1 p1 h1 => h1.go s1 r1 fun u F2 H2 y μ2 r2 e2 s2 p2 h2 =>
    h2.go (p1.mono e2.fr) p2 r2 (e1.trans e2))
theorem we_cmp {op : CmpOp} (hm : behindInMarks op b = false := by rfl) (h : WE Γ a ρ μ fun x μ1 => WE Γ b ρ μ1 fun y μ2 => WO Γ (compareOp op) x y μ2 Q) : WE Γ (.Compare a [op] [b] pos) ρ μ Q := fun σ F H s r =>
  semE.mk (fun X hX => pe_cmpR (or_sem hX _) (pe_sem hX a) (pe_sem hX b) hm) (h.go s r fun v F1 H1 x μ1 r1 e1 s1 p1 h1 => h1.go s1 r1 fun u F2 H2 y μ2 r2 e2 s2 p2 h2 =>
    h2.go (p1.mono e2.fr) p2 r2 (e1.trans e2))
theorem we_un {op : UnaryOp} (h : WE Γ a ρ μ fun x μ1 => WU Γ (unaryOp op) x μ1 Q) : WE Γ (.UnaryOp op a pos) ρ μ Q := fun σ F H s r =>
  semE.mk (fun X hX => pe_un (un_sem hX _) (pe_sem hX a)) (h.go s r fun v F1 H1 x μ1 r1 e1 s1 p1 h1 => h1.go p1 r1 e1)
theorem rep_bl {K : PySem.W.Frag} {F : Hp} {v : V} {k : Bool} (h : Rep K F v (.bl k)) : v = .bl k := by cases h; rfl
theorem rep_int {K : PySem.W.Frag} {F : Hp} {v : V} {k : Int} (h : Rep K F v (.int k)) : v = .int k := by cases h; rfl
theorem rep_str {K : PySem.W.Frag} {F : Hp} {v : V} {k : Str} (h : Rep K F v (.str k)) : v = .str k := by cases h; rfl
theorem we_not (h : WE Γ a ρ μ fun x μ1 => ∃ k, x = .bl k ∧ Q (.bl (!k)) μ1) : WE Γ (.UnaryOp .Not a pos) ρ μ Q := fun σ F H s r =>
  semE.mk (fun X hX => pe_not (pe_sem hX a)) (h.go s r fun v F1 H1 x μ1 r1 e1 s1 p1 h1 => by
    obtain ⟨k, rfl, h1⟩ := h1
    exact ⟨k, rep_bl p1, .ext e1 (.now r1 (.bl _) h1)⟩)
theorem we_one {op : BoolOp} (h : WE Γ a ρ μ Q) : WE Γ (.BoolOp op [a] pos) ρ μ Q := fun σ F H s r =>
  semE.mk (fun X hX => pe_one (pe_sem hX a)) (h σ F H s r)
theorem we_and (h : WE Γ a ρ μ fun x μ1 => ∃ k, x = .bl k ∧ (k = true → WE Γ (.BoolOp .And (b :: es) pos) ρ μ1 Q) ∧ (k = false → Q (.bl false) μ1)) : WE Γ (.BoolOp .And (a :: b :: es) pos) ρ μ Q := fun σ F H s r =>
  semE.mk (fun X hX => pe_and (pe_sem hX a) (pe_sem hX _)) (h.go s r fun v F1 H1 x μ1 r1 e1 s1 p1 h1 => by
    obtain ⟨k, rfl, h1, h2⟩ := h1
    refine ⟨k, rep_bl p1, ?_⟩
    cases k with
    | true => rw [if_pos rfl]; exact (h1 rfl).go s1 r1 fun v F2 H2 y μ2 r2 e2 s2 p2 q => ⟨F2, y, μ2, r2, e1.trans e2, p2, q⟩
    | false => rw [if_neg (by simp)]; exact .ext e1 (.now r1 (.bl _) (h2 rfl)))
theorem we_or (h : WE Γ a ρ μ fun x μ1 => ∃ k, x = .bl k ∧ (k = false → WE Γ (.BoolOp .Or (b :: es) pos) ρ μ1 Q) ∧ (k = true → Q (.bl true) μ1)) : WE Γ (.BoolOp .Or (a :: b :: es) pos) ρ μ Q := fun σ F H s r =>
  semE.mk (fun X hX => pe_or (pe_sem hX a) (pe_sem hX _)) (h.go s r fun v F1 H1 x μ1 r1 e1 s1 p1 h1 => by
    obtain ⟨k, rfl, h1, h2⟩ := h1
    refine ⟨k, rep_bl p1, ?_⟩
    cases k with
    | false => rw [if_neg (by simp)]; exact (h1 rfl).go s1 r1 fun v F2 H2 y μ2 r2 e2 s2 p2 q => ⟨F2, y, μ2, r2, e1.trans e2, p2, q⟩
    | true => rw [if_pos rfl]; exact .ext e1 (.now r1 (.bl _) (h2 rfl)))
theorem we_ifExp (h : WT Γ c ρ μ fun k μ1 => (k = true → WE Γ a ρ μ1 Q) ∧ (k = false → WE Γ b ρ μ1 Q)) : WE Γ (.IfExp c a b pos) ρ μ Q := fun σ F H s r =>
  semE.mk (fun X hX => pe_ifExp (pt_sem hX c) (pe_sem hX a) (pe_sem hX b)) (h.go s r fun k F1 H1 μ1 r1 e1 s1 h1 => by
    cases k with
    | true => rw [if_pos rfl]; exact (h1.1 rfl).go s1 r1 fun v F2 H2 y μ2 r2 e2 s2 p2 q => ⟨F2, y, μ2, r2, e1.trans e2, p2, q⟩
    | false => rw [if_neg (by simp)]; exact (h1.2 rfl).go s1 r1 fun v F2 H2 y μ2 r2 e2 s2 p2 q => ⟨F2, y, μ2, r2, e1.trans e2, p2, q⟩)

/-! ### tests -/
variable {T : Bool → Mem → Prop}
theorem wt_val (he : ∀ (env : Env) (whole : Sem Value), isTrue e env whole = (do let v ← whole; standAt e.pos; holding [v] (truthy v)) := by intros; rfl) (h : WE Γ e ρ μ fun x μ1 => ∃ k, x = .bl k ∧ T k μ1) : WT Γ e ρ μ T := fun σ F H s r =>
  semT.mk (fun X hX => pt_val (pe_sem hX e) (he _)) (h.go s r fun v F1 H1 x μ1 r1 e1 s1 p1 h1 => by
    obtain ⟨k, rfl, h1⟩ := h1
    exact ⟨k, rep_bl p1, F1, μ1, r1, e1, h1⟩)
theorem wt_cmp {op : CmpOp} (hm : behindInMarks op b = false := by rfl) (h : WE Γ a ρ μ fun x μ1 => WE Γ b ρ μ1 fun y μ2 => WO Γ (compareOp op) x y μ2 fun d μ3 => ∃ k, d = .bl k ∧ T k μ3) : WT Γ (.Compare a [op] [b] pos) ρ μ T := fun σ F H s r =>
  semT.mk (fun X hX => pt_cmpR (r := fun x y H Q => semO Γ (compareOp op) x y H Q) (or_sem hX _) (pe_sem hX a) (pe_sem hX b) hm) (h.go s r fun v F1 H1 x μ1 r1 e1 s1 p1 h1 => h1.go s1 r1 fun u F2 H2 y μ2 r2 e2 s2 p2 h2 => by
    obtain ⟨t, Q0, g1, g2, g3⟩ := h2 v u F2 H2 (p1.mono e2.fr) p2 r2
    refine ⟨t, Q0, g1, g2, fun w H' q => ?_⟩
    obtain ⟨F', d, μ', r', x', p', k, rfl, q'⟩ := g3 w H' q
    exact ⟨k, rep_bl p', F', μ', r', (e1.trans e2).trans x', q'⟩)
theorem wt_not (h : WT Γ a ρ μ fun k μ1 => T (!k) μ1) : WT Γ (.UnaryOp .Not a pos) ρ μ T := fun σ F H s r =>
  semT.mk (fun X hX => pt_not (pt_sem hX a)) (h.go s r fun k F1 H1 μ1 r1 e1 s1 h1 => ⟨F1, μ1, r1, e1, h1⟩)
theorem wt_ww (h : WW Γ e ρ μ T) : WT Γ e ρ μ T := fun σ F H s r => semT.mk (fun X hX => (pw_sem hX e).pt) (h σ F H s r)
theorem ww_and1 (h : WT Γ a ρ μ T) : WW Γ (.BoolOp .And [a] pos) ρ μ T := fun σ F H s r => semW.mk (fun X hX => pw_and1 (pt_sem hX a)) (h σ F H s r)
theorem ww_or1 (h : WT Γ a ρ μ T) : WW Γ (.BoolOp .Or [a] pos) ρ μ T := fun σ F H s r => semW.mk (fun X hX => pw_or1 (pt_sem hX a)) (h σ F H s r)
theorem ww_and (h : WT Γ a ρ μ fun k μ1 => (k = true → WW Γ (.BoolOp .And (b :: es) pos) ρ μ1 T) ∧ (k = false → T false μ1)) : WW Γ (.BoolOp .And (a :: b :: es) pos) ρ μ T := fun σ F H s r =>
  semW.mk (fun X hX => pw_and (pt_sem hX a) (pw_sem hX _)) (h.go s r fun k F1 H1 μ1 r1 e1 s1 h1 => by
    cases k with
    | true => rw [if_pos rfl]; exact (h1.1 rfl).go s1 r1 fun k F2 H2 μ2 r2 e2 s2 q => ⟨F2, μ2, r2, e1.trans e2, q⟩
    | false => rw [if_neg (by simp)]; exact ⟨F1, μ1, r1, e1, h1.2 rfl⟩)
theorem ww_or (h : WT Γ a ρ μ fun k μ1 => (k = false → WW Γ (.BoolOp .Or (b :: es) pos) ρ μ1 T) ∧ (k = true → T true μ1)) : WW Γ (.BoolOp .Or (a :: b :: es) pos) ρ μ T := fun σ F H s r =>
  semW.mk (fun X hX => pw_or (pt_sem hX a) (pw_sem hX _)) (h.go s r fun k F1 H1 μ1 r1 e1 s1 h1 => by
    cases k with
    | false => rw [if_neg (by simp)]; exact (h1.1 rfl).go s1 r1 fun k F2 H2 μ2 r2 e2 s2 q => ⟨F2, μ2, r2, e1.trans e2, q⟩
    | true => rw [if_pos rfl]; exact ⟨F1, μ1, r1, e1, h1.2 rfl⟩)
theorem we_chain {op op' : CmpOp} (hm : lastMarks [op, op'] [b, c] = false := by with_unfolding_all rfl)
    (h : WE Γ a ρ μ fun x μ1 => WE Γ b ρ μ1 fun y μ2 => WO Γ (compareOp op) x y μ2 fun d μ3 => ∃ k, d = .bl k ∧ (k = true → WE Γ c ρ μ3 fun z μ4 => WO Γ (compareOp op') y z μ4 Q) ∧ (k = false → Q (.bl false) μ3)) :
    WE Γ (.Compare a [op, op'] [b, c] pos) ρ μ Q := fun σ F H s r =>
  semE.mk (fun X hX => pe_chain (or_sem hX _) (or_sem hX _) (pe_sem hX a) (pe_sem hX b) (pe_sem hX c) hm) (h.go s r fun v F1 H1 x μ1 r1 e1 s1 p1 h1 => h1.go s1 r1 fun u F2 H2 y μ2 r2 e2 s2 p2 h2 => by
    obtain ⟨t, Q0, g1, g2, g3⟩ := h2 v u F2 H2 (p1.mono e2.fr) p2 r2
    refine ⟨t, Q0, g1, g2, fun w H' q => ?_⟩
    obtain ⟨F', d, μ', r', x', p', k, rfl, q1, q2⟩ := g3 w H' q
    refine ⟨k, rep_bl p', ?_⟩
    cases k with
    | true =>
      rw [if_pos rfl]
      exact (q1 rfl).go (s2.mono x'.fr) r' fun v3 F3 H3 z μ3 r3 e3 s3 p3 h3 => h3.go ((p2.mono x'.fr).mono e3.fr) p3 r3 (((e1.trans e2).trans x').trans e3)
    | false => rw [if_neg (by simp)]; exact .ext ((e1.trans e2).trans x') (.now r' (.bl _) (q2 rfl)))
theorem wt_chain {op op' : CmpOp} (hm : lastMarks [op, op'] [b, c] = false := by with_unfolding_all rfl)
    (h : WE Γ a ρ μ fun x μ1 => WE Γ b ρ μ1 fun y μ2 => WO Γ (compareOp op) x y μ2 fun d μ3 => ∃ k, d = .bl k ∧ (k = true → WE Γ c ρ μ3 fun z μ4 => WO Γ (compareOp op') y z μ4 fun d μ5 => ∃ k, d = .bl k ∧ T k μ5) ∧ (k = false → T false μ3)) :
    WT Γ (.Compare a [op, op'] [b, c] pos) ρ μ T := fun σ F H s r =>
  semT.mk (fun X hX => pt_chain (r := fun x y H Q => semO Γ (compareOp op) x y H Q) (r' := fun x y H Q => semO Γ (compareOp op') x y H Q) (or_sem hX _) (or_sem hX _) (pe_sem hX a) (pe_sem hX b) (pe_sem hX c) hm) (h.go s r fun v F1 H1 x μ1 r1 e1 s1 p1 h1 => h1.go s1 r1 fun u F2 H2 y μ2 r2 e2 s2 p2 h2 => by
    obtain ⟨t, Q0, g1, g2, g3⟩ := h2 v u F2 H2 (p1.mono e2.fr) p2 r2
    refine ⟨t, Q0, g1, g2, fun w H' q => ?_⟩
    obtain ⟨F', d, μ', r', x', p', k, rfl, q1, q2⟩ := g3 w H' q
    refine ⟨k, rep_bl p', ?_⟩
    cases k with
    | true =>
      rw [if_pos rfl]
      refine (q1 rfl).go (s2.mono x'.fr) r' fun v3 F3 H3 z μ3 r3 e3 s3 p3 h3 => ?_
      obtain ⟨t, Q0, g1, g2, g3⟩ := h3 u v3 F3 H3 ((p2.mono x'.fr).mono e3.fr) p3 r3
      refine ⟨t, Q0, g1, g2, fun w H' q => ?_⟩
      obtain ⟨F', d, μ', r', x'', p', k, rfl, q'⟩ := g3 w H' q
      exact ⟨k, rep_bl p', F', μ', r', (((e1.trans e2).trans x').trans e3).trans x'', q'⟩
    | false => rw [if_neg (by simp)]; exact ⟨false, rfl, F', μ', r', (e1.trans e2).trans x', q2 rfl⟩)

/-! ### arguments, displays -/
theorem wa_nil {Q : List D → Mem → Prop} (q : Q [] μ) : WA Γ [] ρ μ Q := fun σ F H s r => semA.mk (fun X hX => pa_nil) ⟨F, [], μ, r, .refl _ _ _, .nil, q⟩
theorem wa_cons {Q : List D → Mem → Prop} (hs : ∀ env, starEach (e :: es) env = (false, eval e env) :: starEach es env := by intro _; rfl) (h : WE Γ e ρ μ fun x μ1 => WA Γ es ρ μ1 fun xs μ2 => Q (x :: xs) μ2) : WA Γ (e :: es) ρ μ Q := fun σ F H s r =>
  semA.mk (fun X hX => pa_cons (pe_sem hX e) (pa_sem hX es) (hs _)) (h.go s r fun v F1 H1 x μ1 r1 e1 s1 p1 h1 => h1.go s1 r1 fun vs F2 H2 xs μ2 r2 e2 s2 p2 h2 =>
    ⟨F2, x :: xs, μ2, r2, e1.trans e2, .cons (p1.mono e2.fr) p2, h2⟩)
theorem we_tup {k : Nat} (h : WA Γ es ρ μ fun xs μ1 => xs.length ≤ sizeLine ∧ Q (.tup xs) μ1) : WE Γ (.Tuple es k pos) ρ μ Q := fun σ F H s r =>
  semE.mk (fun X hX => pe_tup (pa_sem hX es)) (h.go s r fun vs F1 H1 xs μ1 r1 e1 s1 p1 h1 => ⟨by rw [p1.length]; exact h1.1, fun p hp => by
    obtain ⟨r2, e2⟩ := r1.layF hp (.tup vs)
    exact ⟨_, .tup xs, μ1, r2, e1.trans e2, .tup (.inl (.inl L2.upd_same)) (p1.mono e2.fr), h1.2⟩⟩)
/-- a list display that no one changes -/
theorem we_lst (h : WA Γ es ρ μ fun xs μ1 => xs.length ≤ sizeLine ∧ Q (.lst xs) μ1) : WE Γ (.List es pos) ρ μ Q := fun σ F H s r =>
  semE.mk (fun X hX => pe_lst (pa_sem hX es)) (h.go s r fun vs F1 H1 xs μ1 r1 e1 s1 p1 h1 => ⟨by rw [p1.length]; exact h1.1, fun p hp => by
    obtain ⟨r2, e2⟩ := r1.layF hp (.lst vs)
    exact ⟨_, .lst xs, μ1, r2, e1.trans e2, .lst L2.upd_same (p1.mono e2.fr), h1.2⟩⟩)
/-- a list display that is to change -/
theorem we_lstM (h : WA Γ es ρ μ fun xs μ1 => xs.length ≤ sizeLine ∧ ∀ p, μ1 p = none → Q (.loc p) (μ1.upd p (.lst xs))) : WE Γ (.List es pos) ρ μ Q := fun σ F H s r =>
  semE.mk (fun X hX => pe_lst (pa_sem hX es)) (h.go s r fun vs F1 H1 xs μ1 r1 e1 s1 p1 h1 => ⟨by rw [p1.length]; exact h1.1, fun p hp => by
    obtain ⟨r2, e2⟩ := r1.layM hp (.lst p1)
    exact ⟨_, .loc p, _, r2, e1.trans e2, .loc p, h1.2 p (r1.fresh hp).2⟩⟩)
theorem we_dctM (h : ∀ p, μ p = none → Q (.loc p) (μ.upd p (.dct []))) : WE Γ (.Dict [] [] pos) ρ μ Q := fun σ F H s r =>
  semE.mk (fun X hX => pe_dnewK) (fun p hp => by
    obtain ⟨r2, e2⟩ := r.layM hp (.dct (.nil (K := Γ.K) (F := F)))
    exact ⟨_, .loc p, _, r2, e2, .loc p, h p (r.fresh hp).2⟩)

/-! ### subscripts, slices -/
theorem we_sub (hs : PlainIx b := by exact fun _ _ => rfl) (h : WE Γ a ρ μ fun x μ1 => WE Γ b ρ μ1 fun y μ2 => WIx Γ x y μ2 Q) : WE Γ (.Subscript a b pos) ρ μ Q := fun σ F H s r =>
  semE.mk (fun X hX => pe_ix (ix_sem hX) (pe_sem hX a) (pe_sem hX b) hs) (h.go s r fun v F1 H1 x μ1 r1 e1 s1 p1 h1 => h1.go s1 r1 fun u F2 H2 y μ2 r2 e2 s2 p2 h2 =>
    h2.go (p1.mono e2.fr) p2 r2 (e1.trans e2))
end

/-! ### operations on data -/
section
variable {Γ : Gam} {μ : Mem} {Q : D → Mem → Prop}
theorem wo_ints {f : Value → Value → Sem Value} {C : Int → Int → Prop} {g : Int → Int → Int} (h : ∀ X : Cx, OpR X f (rI C fun i j => .int (g i j))) {i j : Int} (hc : C i j) (q : Q (.int (g i j)) μ) : WO Γ f (.int i) (.int j) μ Q := fun v u F H p1 p2 r => by
  cases p1; cases p2
  exact semO.mk (fun X _ => h X) ⟨i, j, rfl, rfl, hc, .now r (.int _) q⟩
theorem wo_ints0 {f : Value → Value → Sem Value} {g : Int → Int → Int} (h : ∀ X : Cx, OpR X f (rI0 fun i j => .int (g i j))) {i j : Int} (q : Q (.int (g i j)) μ) : WO Γ f (.int i) (.int j) μ Q := fun v u F H p1 p2 r => by
  cases p1; cases p2
  exact semO.mk (fun X _ => h X) ⟨i, j, rfl, rfl, .now r (.int _) q⟩
theorem wo_bls0 {f : Value → Value → Sem Value} {g : Int → Int → Bool} (h : ∀ X : Cx, OpR X f (rI0 fun i j => .bl (g i j))) {i j : Int} (q : Q (.bl (g i j)) μ) : WO Γ f (.int i) (.int j) μ Q := fun v u F H p1 p2 r => by
  cases p1; cases p2
  exact semO.mk (fun X _ => h X) ⟨i, j, rfl, rfl, .now r (.bl _) q⟩
variable {i j : Int}
theorem wo_add (q : Q (.int (i + j)) μ) : WO Γ (binaryOp .Add) (.int i) (.int j) μ Q := wo_ints0 (fun _ => op_add) q
theorem wo_sub (q : Q (.int (i - j)) μ) : WO Γ (binaryOp .Sub) (.int i) (.int j) μ Q := wo_ints0 (fun _ => op_sub) q
theorem wo_mul (h : CMul i j) (q : Q (.int (i * j)) μ) : WO Γ (binaryOp .Mult) (.int i) (.int j) μ Q := wo_ints (fun _ => op_mul) h q
theorem wo_fdiv (h : CDiv i j) (q : Q (.int (i / j)) μ) : WO Γ (binaryOp .FloorDiv) (.int i) (.int j) μ Q := wo_ints (fun _ => op_fdiv) h q
theorem wo_mod (h : 0 < j) (q : Q (.int (i % j)) μ) : WO Γ (binaryOp .Mod) (.int i) (.int j) μ Q := wo_ints (fun _ => op_mod) h q
theorem wo_pow (h : CPow i j) (q : Q (.int (i ^ j.toNat)) μ) : WO Γ (binaryOp .Pow) (.int i) (.int j) μ Q := wo_ints (fun _ => op_pow) h q
theorem wo_shl (h : CPow i j) (q : Q (.int (i * 2 ^ j.toNat)) μ) : WO Γ (binaryOp .LShift) (.int i) (.int j) μ Q := wo_ints (fun _ => op_shl) h q
theorem wo_lt (q : Q (.bl (decide (i < j))) μ) : WO Γ (compareOp .Lt) (.int i) (.int j) μ Q := wo_bls0 (fun _ => op_lt) q
theorem wo_le (q : Q (.bl (decide (i ≤ j))) μ) : WO Γ (compareOp .LtE) (.int i) (.int j) μ Q := wo_bls0 (fun _ => op_le) q
theorem wo_gt (q : Q (.bl (decide (j < i))) μ) : WO Γ (compareOp .Gt) (.int i) (.int j) μ Q := wo_bls0 (fun _ => op_gt) q
theorem wo_ge (q : Q (.bl (decide (j ≤ i))) μ) : WO Γ (compareOp .GtE) (.int i) (.int j) μ Q := wo_bls0 (fun _ => op_ge) q
theorem wu_neg (q : Q (.int (-i)) μ) : WU Γ (unaryOp .USub) (.int i) μ Q := fun v F H p r => by
  cases p
  exact semU.mk (fun X _ => un_neg) ⟨i, rfl, .now r (.int _) q⟩
/-- scalars that may be compared -/
def scV : D → Option V
  | .non => some .non | .bl b => some (.bl b) | .int i => some (.int i) | .str x => some (.str x) | _ => none
theorem rep_scV {K : PySem.W.Frag} {F : Hp} {v : V} {d : D} {x : V} (h : Rep K F v d) (e : scV d = some x) : v = x := by
  cases h <;> simp [scV] at e <;> exact e
theorem wo_eq {d e : D} {x y : V} (h1 : scV d = some x) (h2 : scV e = some y) (hs : scal x y = true) (q : Q (.bl (decide (x = y))) μ) : WO Γ (compareOp .Eq) d e μ Q := fun v u F H p1 p2 r => by
  have a := rep_scV p1 h1; have b := rep_scV p2 h2; subst a b
  exact semO.mk (fun X _ => op_eq) ⟨hs, .now r (.bl _) q⟩
theorem wo_ne {d e : D} {x y : V} (h1 : scV d = some x) (h2 : scV e = some y) (hs : scal x y = true) (q : Q (.bl (!decide (x = y))) μ) : WO Γ (compareOp .NotEq) d e μ Q := fun v u F H p1 p2 r => by
  have a := rep_scV p1 h1; have b := rep_scV p2 h2; subst a b
  exact semO.mk (fun X _ => op_ne) ⟨hs, .now r (.bl _) q⟩
theorem wo_eqI (q : Q (.bl (decide (i = j))) μ) : WO Γ (compareOp .Eq) (.int i) (.int j) μ Q :=
  wo_eq (x := .int i) (y := .int j) rfl rfl rfl (by
    have : decide ((V.int i) = V.int j) = decide (i = j) := by simp
    rw [this]; exact q)
theorem wo_neI (q : Q (.bl (!decide (i = j))) μ) : WO Γ (compareOp .NotEq) (.int i) (.int j) μ Q :=
  wo_ne (x := .int i) (y := .int j) rfl rfl rfl (by
    have : decide ((V.int i) = V.int j) = decide (i = j) := by simp
    rw [this]; exact q)
theorem wo_eqS {s t : Str} (q : Q (.bl (decide (s = t))) μ) : WO Γ (compareOp .Eq) (.str s) (.str t) μ Q :=
  wo_eq (x := .str s) (y := .str t) rfl rfl rfl (by
    have : decide ((V.str s) = V.str t) = decide (s = t) := by simp
    rw [this]; exact q)
theorem wo_neS {s t : Str} (q : Q (.bl (!decide (s = t))) μ) : WO Γ (compareOp .NotEq) (.str s) (.str t) μ Q :=
  wo_ne (x := .str s) (y := .str t) rfl rfl rfl (by
    have : decide ((V.str s) = V.str t) = decide (s = t) := by simp
    rw [this]; exact q)
theorem wo_isN {d : D} (n : Bool) (h : (n = true ∧ d = .non) ∨ (n = false ∧ d ≠ .non)) (q : Q (.bl n) μ) : WO Γ (compareOp .Is) d .non μ Q := fun v u F H p1 p2 r => by
  cases p2
  refine semO.mk (fun X _ => op_isN) ⟨rfl, ?_⟩
  have e : decide (v = V.non) = n := by
    rcases h with ⟨rfl, rfl⟩ | ⟨rfl, h⟩
    · cases p1; rfl
    · refine decide_eq_false fun z => ?_
      subst z; cases p1; exact h rfl
  rw [e]
  exact .now r (.bl _) q
theorem wo_notN {d : D} (n : Bool) (h : (n = false ∧ d = .non) ∨ (n = true ∧ d ≠ .non)) (q : Q (.bl n) μ) : WO Γ (compareOp .IsNot) d .non μ Q := fun v u F H p1 p2 r => by
  cases p2
  refine semO.mk (fun X _ => op_notN) ⟨rfl, ?_⟩
  have e : (!decide (v = V.non)) = n := by
    rcases h with ⟨rfl, rfl⟩ | ⟨rfl, h⟩
    · cases p1; rfl
    · rw [decide_eq_false fun z => ?_]; rfl
      subst z; cases p1; exact h rfl
  rw [e]
  exact .now r (.bl _) q
theorem reps_atI {K : PySem.W.Frag} {F : Hp} {vs : List V} {ds : List D} {k : Int} {d : D} (h : Reps K F vs ds) (e : atI ds k = some d) : ∃ v, atI vs k = some v ∧ Rep K F v d := by
  unfold atI at e ⊢
  rw [h.length]
  cases q : ixN ds.length k with
  | none => rw [q] at e; cases e
  | some j => rw [q] at e; exact h.get e
theorem wix_tup {ds : List D} {k : Int} {d : D} (e : atI ds k = some d) (q : Q d μ) : WIx Γ (.tup ds) (.int k) μ Q := fun v u F H p1 p2 r => by
  cases p2
  cases p1 with
  | tup h hs =>
    obtain ⟨w, h1, h2⟩ := reps_atI hs e
    exact semIx.mk (r := rIxT Γ.K) (fun X hX => hX.K ▸ ix_tup) ⟨_, _, _, w, rfl, rfl, same_seqT r.same h, h1, .now r h2 q⟩
theorem wix_lst {ds : List D} {k : Int} {d : D} (e : atI ds k = some d) (q : Q d μ) : WIx Γ (.lst ds) (.int k) μ Q := fun v u F H p1 p2 r => by
  cases p2
  cases p1 with
  | lst h hs =>
    obtain ⟨w, h1, h2⟩ := reps_atI hs e
    exact semIx.mk (r := rIxL Γ.K) (fun X hX => hX.K ▸ ix_list) ⟨_, _, _, w, rfl, rfl, SqL.of (r.same _ _ h), h1, .now r h2 q⟩
theorem wix_loc {a : Addr} {ds : List D} {k : Int} {d : D} (m : μ a = some (.lst ds)) (e : atI ds k = some d) (q : Q d μ) : WIx Γ (.loc a) (.int k) μ Q := fun v u F H p1 p2 r => by
  cases p2
  cases p1
  obtain ⟨_, ho, hH, hr⟩ := r.mem a _ m
  cases hr with
  | lst hs =>
    obtain ⟨w, h1, h2⟩ := reps_atI hs e
    exact semIx.mk (r := rIxL Γ.K) (fun X hX => hX.K ▸ ix_list) ⟨_, _, _, w, rfl, rfl, SqL.of hH, h1, .now r h2 q⟩
end
end DL
namespace DL
open PySem L2

/-! ### calls of the text's own defs -/
abbrev DSp := List D → Mem → (D → Mem → Prop) → Prop
def toSp (K : PySem.W.Frag) (sp : DSp) : Sp := fun vs H Q _ => ∃ F μ ds Q', Rel K F H μ ∧ Reps K F vs ds ∧ sp ds μ Q' ∧ ∀ v H', Post K F H μ Q' v H' → Q v H'
/-- the def named x keeps the promise sp, by at most level k -/
structure FnD (P : Program) (w : World) (K : PySem.W.Frag) (mg : Str → Option Value) (base : Heap) (k : Nat) (x : Str) (sp : DSp) : Prop where
  ex : ∃ (f : Addr) (fd : FuncData) (ps : List Str), mg x = some (.ref f) ∧ PySem.W.keepIn K (.ref f) = true ∧ Binds K fd ps [] ∧ FnOk P w K mg base CX0 k f fd ps (toSp K sp)
theorem FnD.mono {P : Program} {w : World} {K : PySem.W.Frag} {mg : Str → Option Value} {base : Heap} {k : Nat} {x : Str} {sp sp' : DSp} (h : FnD P w K mg base k x sp) (i : ∀ ds μ Q, sp' ds μ Q → sp ds μ Q) : FnD P w K mg base k x sp' := by
  obtain ⟨f, fd, ps, h1, h2, h3, h4⟩ := h.ex
  exact ⟨f, fd, ps, h1, h2, h3, h4.imp fun vs H Q E ⟨F, μ, ds, Q', r, p, q, z⟩ => ⟨F, μ, ds, Q', r, p, i _ _ _ q, z⟩⟩

section
variable {Γ : Gam} {ρ : Rho} {μ : Mem} {Q : D → Mem → Prop} {a b c e : Expr} {es : List Expr} {pos p : Pos} {x : Str}
theorem we_call {k : Nat} {sp : DSp} (f : FnD Γ.P Γ.w Γ.K Γ.mg Γ.base k x sp) (hk : k ≤ Γ.k := by exact Nat.le_of_ble_eq_true rfl) (hg : GlD Γ x := by rfl) (hdb : (x == ("__debug__" : Str)) = false := by decide)
    (he : ∀ env, starEach (e :: es) env = (false, eval e env) :: starEach es env := by intro _; rfl) (hpl : ∀ env, (backTo pos (starEach es env)).any (·.1) = false := by intro _; rfl)
    (h : WA Γ (e :: es) ρ μ fun ds μ1 => sp ds μ1 Q) : WE Γ (.Call (.Name x p) (e :: es) [] pos) ρ μ Q := fun σ F H s r => by
  obtain ⟨fa, fd, ps, h1, h2, h3, h4⟩ := f.ex
  refine semE.mk (t := tCall (toSp Γ.K sp) [] E0 (semA Γ (e :: es))) (fun X hX => ?_) (h.go s r fun vs F1 H1 ds μ1 r1 e1 s1 p1 q1 => ?_)
  · refine pe_call (CX := CX0) (k := Γ.k) (fd := fd) (ps := ps) ?_ hX.room (hX.gl hg) (by rw [hX.mg]; exact h1) (by rw [hX.K]; exact h2) (by rw [hX.K]; exact h3) .nil pass0 (pa_sem hX _) hdb (he _) (hpl _)
    rw [hX.P, hX.w, hX.K, hX.mg, hX.base]
    exact h4.mono hk
  · exact ⟨F1, μ1, ds, Q, r1, by rw [List.append_nil]; exact p1, q1, fun v H' q => q.ext e1⟩
theorem we_callB {id : String} (hv : bootBuiltins x = some (.builtin id)) (hm : Γ.mg x = none) (hg : GlD Γ x := by rfl) (hn : x ≠ "__name__" := by decide) (hdb : (x == ("__debug__" : Str)) = false := by decide)
    (he : ∀ env, starEach (e :: es) env = (false, eval e env) :: starEach es env := by intro _; rfl) (hpl : ∀ env, (backTo pos (starEach es env)).any (·.1) = false := by intro _; rfl)
    (h : WA Γ (e :: es) ρ μ fun ds μ1 => WC Γ (.builtin id) ds μ1 Q) : WE Γ (.Call (.Name x p) (e :: es) [] pos) ρ μ Q := fun σ F H s r =>
  semE.mk (fun X hX => pe_callB (cr_sem hX _) (hX.gl hg) (by rw [hX.mg]; exact hm) hv (pa_sem hX _) hn hdb (he _) (hpl _)) (h.go s r fun vs F1 H1 ds μ1 r1 e1 s1 p1 q1 => q1.go p1 r1 e1)
theorem we_callT {T : String} (hv : bootBuiltins x = some (.type T)) (hm : Γ.mg x = none) (hg : GlD Γ x := by rfl) (hn : x ≠ "__name__" := by decide) (hdb : (x == ("__debug__" : Str)) = false := by decide)
    (he : ∀ env, starEach (e :: es) env = (false, eval e env) :: starEach es env := by intro _; rfl) (hpl : ∀ env, (backTo pos (starEach es env)).any (·.1) = false := by intro _; rfl)
    (h : WA Γ (e :: es) ρ μ fun ds μ1 => WC Γ (.type T) ds μ1 Q) : WE Γ (.Call (.Name x p) (e :: es) [] pos) ρ μ Q := fun σ F H s r =>
  semE.mk (fun X hX => pe_callTy (cr_sem hX _) (hX.gl hg) (by rw [hX.mg]; exact hm) hv (pa_sem hX _) hn hdb (he _) (hpl _)) (h.go s r fun vs F1 H1 ds μ1 r1 e1 s1 p1 q1 => q1.go p1 r1 e1)
/-- a method of a list that changes -/
theorem we_lm {o : Expr} {m : Str} {id : String} {apos : Pos} (slot : Slot "list" m id) (hty : typeOf (.builtin id) = pure (.type "method_descriptor"))
    (hb : ∀ env, attributeBase o m env (eval o env) = eval o env := by intro _; rfl)
    (hfew : ∀ env, ((backTo pos (starEach (e :: es) env)).all (fun x => !x.1) && (backToKw pos (keywordEach [] env)).all (fun x => x.1.isSome)
      && decide ((e :: es).length + ([] : List Keyword).length + (if ([] : List Keyword).isEmpty then 0 else 1) < 30)) = true := by intro _; rfl)
    (hl : (apos.endLine == pos.line) = true := by rfl) (he : ∀ env, starEach (e :: es) env = (false, eval e env) :: starEach es env := by intro _; rfl) (hpl : ∀ env, (backTo pos (starEach es env)).any (·.1) = false := by intro _; rfl)
    (h : WE Γ o ρ μ fun d μ1 => ∃ a ds0, d = .loc a ∧ μ1 a = some (.lst ds0) ∧ WA Γ (e :: es) ρ μ1 fun ds μ2 => WM Γ id d ds μ2 Q) : WE Γ (.Call (.Attribute o m apos) (e :: es) [] pos) ρ μ Q := fun σ F H s r =>
  semE.mk (t := tBM Γ.K "list" (semM Γ id) (semE Γ o) (semA Γ (e :: es))) (fun X hX => by
      have := pe_bm (X := X) (apos := apos) (cpos := pos) PySem.F.plainAttrs_list slot hty (mt_sem hX id) (pe_sem hX o) (pa_sem hX (e :: es)) (hb _) (hfew _) hl (he _) (hpl _)
      rw [hX.K] at this; exact this)
    (h.go s r fun v F1 H1 d μ1 r1 e1 s1 p1 q1 => by
      obtain ⟨a, ds0, rfl, hm, q1⟩ := q1
      cases p1
      obtain ⟨_, ho, hH, hr⟩ := r1.mem a _ hm
      cases hr with
      | lst hs =>
        refine ⟨.inl ⟨rfl, _, SqL.of hH⟩, q1.go s1 r1 fun vs F2 H2 ds μ2 r2 e2 s2 p2 q2 => q2.go (.loc a) p2 r2 (e1.trans e2)⟩)

/-! ### statements -/
variable {D' : DEnds} {st : Stmt} {sts : List Stmt}
theorem DEnds.le_of {K : PySem.W.Frag} {F H F1 H1 : Hp} {μ μ1 : Mem} {A B : DEnds} (x : Ext F H μ F1 H1 μ1) (hn : ∀ σ H', PostS K F1 H1 μ1 A.nx σ H' → (B.lift K F H μ).nx σ H') (hr : A.rt = B.rt) (hb : A.bk = B.bk) (hc : A.ct = B.ct) :
    EndsLe (A.lift K F1 H1 μ1) { B.lift K F H μ with nx := (B.lift K F H μ).nx } :=
  ⟨hn, fun _ _ h => by
    have : Post K F1 H1 μ1 A.rt _ _ := h
    rw [hr] at this; exact this.ext x, fun _ _ h => by
    have : PostS K F1 H1 μ1 A.bk _ _ := h
    rw [hb] at this; exact this.ext x, fun _ _ h => by
    have : PostS K F1 H1 μ1 A.ct _ _ := h
    rw [hc] at this; exact this.ext x⟩
theorem wss_nil (q : D'.nx ρ μ) : WSs Γ [] ρ μ D' := fun σ F H s r => semSs.mk (fun X hX => pss_nil) ⟨F, ρ, μ, s, r, .refl _ _ _, q⟩
theorem wss_cons (h : WS Γ st ρ μ { D' with nx := fun ρ1 μ1 => WSs Γ sts ρ1 μ1 D' }) : WSs Γ (st :: sts) ρ μ D' := fun σ F H s r =>
  semSs.mk (t := tSeq (semS Γ st) (semSs Γ sts)) (fun X hX => pss_cons (ps_sem hX st) (pss_sem hX sts)) ((h σ F H s r).le ⟨fun σ' H' ⟨F1, ρ1, μ1, s1, r1, e1, q1⟩ => (q1 σ' F1 H' s1 r1).le (DEnds.ext e1), fun _ _ h => h, fun _ _ h => h, fun _ _ h => h⟩)
theorem WSs.le {A B : DEnds} (h : WSs Γ sts ρ μ A) (hn : ∀ ρ μ, A.nx ρ μ → B.nx ρ μ) (hr : ∀ d μ, A.rt d μ → B.rt d μ) (hb : ∀ ρ μ, A.bk ρ μ → B.bk ρ μ) (hc : ∀ ρ μ, A.ct ρ μ → B.ct ρ μ) : WSs Γ sts ρ μ B := fun σ F H s r =>
  (h σ F H s r).le ⟨fun _ _ ⟨F1, ρ1, μ1, s1, r1, e1, q1⟩ => ⟨F1, ρ1, μ1, s1, r1, e1, hn _ _ q1⟩, fun _ _ ⟨F1, ρ1, μ1, s1, r1, e1, q1⟩ => ⟨F1, ρ1, μ1, s1, r1, e1, hr _ _ q1⟩, fun _ _ ⟨F1, ρ1, μ1, s1, r1, e1, q1⟩ => ⟨F1, ρ1, μ1, s1, r1, e1, hb _ _ q1⟩, fun _ _ ⟨F1, ρ1, μ1, s1, r1, e1, q1⟩ => ⟨F1, ρ1, μ1, s1, r1, e1, hc _ _ q1⟩⟩
theorem ws_expr (hs : ∀ env, swapsWith e none pos.line env = pure false := by intro _; rfl) (h : WE Γ e ρ μ fun _ μ1 => D'.nx ρ μ1) : WS Γ (.Expr e pos) ρ μ D' := fun σ F H s r =>
  semS.mk (fun X hX => ps_expr (pe_sem hX e) (hs _)) (h.go s r fun v F1 H1 d μ1 r1 e1 s1 p1 q1 => ⟨F1, ρ, μ1, s1, r1, e1, q1⟩)
theorem ws_ret (h : WE Γ e ρ μ fun d μ1 => ∃ μ2 : Mem, μ2.Sub μ1 ∧ D'.rt d μ2) : WS Γ (.Return (some e) pos) ρ μ D' := fun σ F H s r =>
  semS.mk (fun X hX => ps_ret (pe_sem hX e)) (h.go s r fun v F1 H1 d μ1 r1 e1 s1 p1 ⟨μ2, z, q1⟩ => ⟨F1, d, μ2, r1.drop z, e1.drop z, p1, q1⟩)
theorem ws_ret' (h : WE Γ e ρ μ D'.rt) : WS Γ (.Return (some e) pos) ρ μ D' := fun σ F H s r =>
  semS.mk (fun X hX => ps_ret (pe_sem hX e)) (h.go s r fun v F1 H1 d μ1 r1 e1 s1 p1 q1 => ⟨F1, d, μ1, r1, e1, p1, q1⟩)
theorem ws_retN (h : D'.rt .non μ) : WS Γ (.Return none pos) ρ μ D' := fun σ F H s r =>
  semS.mk (fun X hX => ps_retN) ⟨F, .non, μ, r, .refl _ _ _, .non, h⟩
theorem ws_if {A B : List Stmt} (h : WT Γ c ρ μ fun k μ1 => (k = true → WSs Γ A ρ μ1 D') ∧ (k = false → WSs Γ B ρ μ1 D')) : WS Γ (.If c A B pos) ρ μ D' := fun σ F H s r =>
  semS.mk (fun X hX => ps_if (pt_sem hX c) (pss_sem hX A) (pss_sem hX B)) (h.go s r fun k F1 H1 μ1 r1 e1 s1 q1 => by
    cases k with
    | true => rw [if_pos rfl]; exact (q1.1 rfl σ F1 H1 s1 r1).le (DEnds.ext e1)
    | false => rw [if_neg (by simp)]; exact (q1.2 rfl σ F1 H1 s1 r1).le (DEnds.ext e1))
theorem ws_pass (h : D'.nx ρ μ) : WS Γ (.Pass pos) ρ μ D' := fun σ F H s r => semS.mk (fun X hX => ps_pass) ⟨F, ρ, μ, s, r, .refl _ _ _, h⟩
theorem ws_break (h : D'.bk ρ μ) : WS Γ (.Break pos) ρ μ D' := fun σ F H s r => semS.mk (fun X hX => ps_break) ⟨F, ρ, μ, s, r, .refl _ _ _, h⟩
theorem ws_cont (h : D'.ct ρ μ) : WS Γ (.Continue pos) ρ μ D' := fun σ F H s r => semS.mk (fun X hX => ps_continue) ⟨F, ρ, μ, s, r, .refl _ _ _, h⟩
/-- how a name may be stored -/
def StD (Γ : Gam) (x : Str) : Prop := Loc Γ.sc x ∧ (Γ.fn x = true ∨ Γ.sc.names.lookup x = some .local)
theorem Gam.ok.st1 {X : Cx} (hX : Γ.ok X) (h : StD Γ x) : Loc X.env.scope x := hX.loc h.1
theorem Gam.ok.st2 {X : Cx} (hX : Γ.ok X) (h : StD Γ x) : X.fn x = true ∨ X.env.scope.names.lookup x = some .local := by
  rcases h.2 with k | k
  · exact .inl (by rw [hX.fn]; exact k)
  · exact .inr (by rw [hX.sc]; exact k)
theorem ws_set (i : Nat) {pos' : Pos} (hN : Γ.N[i]? = some x := by rfl) (hx : StD Γ x := by first | exact ⟨Or.inl rfl, Or.inr rfl⟩ | exact ⟨Or.inr rfl, Or.inl rfl⟩)
    (hs : ∀ env, swapsWith e (some (.Name x pos')) pos.line env = pure false := by intro _; rfl) (h : WE Γ e ρ μ fun d μ1 => D'.nx (ρ.set i (some d)) μ1) : WS Γ (.Assign [.Name x pos'] e pos) ρ μ D' := fun σ F H s r =>
  semS.mk (t := tAsg (semE Γ e) (gName i)) (fun X hX => ps_set hX.nd (hX.nm hN) (hX.st1 hx) (pe_sem hX e) (hs _) (hX.st2 hx)) (h.go s r fun v F1 H1 d μ1 r1 e1 s1 p1 q1 => ⟨F1, _, μ1, s1.set i p1, r1, e1, q1⟩)
/-- targets: ix tells which slots they store -/
def WGi (Γ : Gam) (ix : List Nat) (e : Expr) (d : D) (ρ : Rho) (μ : Mem) (Q : Rho → Mem → Prop) : Prop := ∀ v σ F H, Rep Γ.K F v d → Slots Γ.K F σ ρ → Rel Γ.K F H μ →
  semG Γ e v σ H fun σ' H' => ((∀ j, j ∉ ix → σ'[j]? = σ[j]?) ∧ σ'.length = σ.length) ∧ PostS Γ.K F H μ Q σ' H'
theorem wg_name (i : Nat) {d : D} {R : Rho → Mem → Prop} (hN : Γ.N[i]? = some x := by rfl) (hx : StD Γ x := by first | exact ⟨Or.inl rfl, Or.inr rfl⟩ | exact ⟨Or.inr rfl, Or.inl rfl⟩)
    (q : R (ρ.set i (some d)) μ) : WGi Γ [i] (.Name x pos) d ρ μ R := fun v σ F H p s r =>
  semG.mk (t := gName i) (fun X hX => pg_name hX.nd (hX.nm hN) (hX.st1 hx) (hX.st2 hx)) ⟨⟨fun j hj => List.getElem?_set_ne fun z => hj (by simp [z]), by rw [List.length_set]⟩, F, _, μ, s.set i p, r, .refl _ _ _, q⟩
/-- a row of targets for a row of data -/
def WGs (Γ : Gam) (ix : List Nat) (es : List Expr) (ds : List D) (ρ : Rho) (μ : Mem) (Q : Rho → Mem → Prop) : Prop := ∀ vs σ F H, Reps Γ.K F vs ds → Slots Γ.K F σ ρ → Rel Γ.K F H μ →
  ∃ (t : TGs) (Q0 : L2.St → Hp → Prop), (∀ X, Γ.ok X → PGs X es t) ∧ t vs σ H Q0 ∧ ∀ σ' H', Q0 σ' H' → ((∀ j, j ∉ ix → σ'[j]? = σ[j]?) ∧ σ'.length = σ.length) ∧ PostS Γ.K F H μ Q σ' H'
theorem wgs_nil {R : Rho → Mem → Prop} (q : R ρ μ) : WGs Γ [] [] [] ρ μ R := fun vs σ F H p s r => by
  cases p
  exact ⟨gNil, fun σ' H' => σ' = σ ∧ H' = H, fun X hX => pgs_nil, ⟨rfl, rfl, rfl⟩, fun σ' H' ⟨e1, e2⟩ => by
    subst e1 e2
    exact ⟨⟨fun _ _ => rfl, rfl⟩, F, ρ, μ, s, r, .refl _ _ _, q⟩⟩
def semGs (Γ : Gam) (es : List Expr) : TGs := fun vs σ H Q => ∃ (t : TGs) (Q0 : L2.St → Hp → Prop), (∀ X, Γ.ok X → PGs X es t) ∧ t vs σ H Q0 ∧ ∀ σ' H', Q0 σ' H' → Q σ' H'
theorem pgs_sem {X : Cx} (hX : Γ.ok X) (es : List Expr) : PGs X es (semGs Γ es) := ⟨fun pins s σ H vs us Q I r ⟨t, Q0, h, ht, hq⟩ =>
  thn ((h X hX).run pins s σ H vs us Q0 I r ht) fun _ _ ⟨σ', H', I', q⟩ => ⟨σ', H', I', hq _ _ q⟩⟩
theorem wgs_cons {ix jx : List Nat} {d : D} {ds : List D} {R : Rho → Mem → Prop} (ha : ∀ env, List.map (fun x => x.snd) (assignEach (e :: es) env) = assign e env :: List.map (fun x => x.snd) (assignEach es env) := by intro _; rfl) (h : WGi Γ ix e d ρ μ fun ρ1 μ1 => WGs Γ jx es ds ρ1 μ1 R) : WGs Γ (ix ++ jx) (e :: es) (d :: ds) ρ μ R := fun vs σ F H p s r => by
  cases p with
  | @cons v vs _ _ p ps =>
    refine ⟨gCons (semG Γ e) (semGs Γ es), fun σ' H' => ((∀ j, j ∉ ix ++ jx → σ'[j]? = σ[j]?) ∧ σ'.length = σ.length) ∧ PostS Γ.K F H μ R σ' H', fun X hX => pgs_cons (pg_sem hX e) (pgs_sem hX es) (ha _), ⟨v, vs, rfl, ?_⟩, fun _ _ h => h⟩
    obtain ⟨t, Q0, h1, h2, h3⟩ := h v σ F H p s r
    refine ⟨t, Q0, h1, h2, fun σ1 H1 q => ?_⟩
    obtain ⟨⟨g1, g1'⟩, F1, ρ1, μ1, s1, r1, e1, q1⟩ := h3 σ1 H1 q
    obtain ⟨t2, Q2, k1, k2, k3⟩ := q1 vs σ1 F1 H1 (ps.mono e1.fr) s1 r1
    refine ⟨t2, Q2, k1, k2, fun σ2 H2 q2 => ?_⟩
    obtain ⟨⟨g2, g2'⟩, q3⟩ := k3 σ2 H2 q2
    refine ⟨⟨fun j hj => ?_, g2'.trans g1'⟩, q3.ext e1⟩
    rw [List.mem_append, not_or] at hj
    rw [g2 j hj.2, g1 j hj.1]
theorem wg_tup {ix : List Nat} {k : Nat} {ds : List D} {R : Rho → Mem → Prop} (n : Nat) (hl : ds.length = n := by rfl) (hn : ∀ env, (assignEach es env).length = n := by intro _; rfl) (hst : ∀ env, (assignEach es env).findIdx? (·.1) = none := by intro _; rfl)
    (h : WGs Γ ix es ds ρ μ R) : WGi Γ ix (.Tuple es k pos) (.tup ds) ρ μ R := fun v σ F H p s r => by
  cases p with
  | @tup a xs _ h1 h2 =>
    obtain ⟨t, Q0, g1, g2, g3⟩ := h xs σ F H h2 s r
    refine semG.mk (t := gTup Γ.K n (semGs Γ es)) (fun X hX => ?_) ⟨a, xs, rfl, same_seqT r.same h1, by rw [h2.length]; exact hl, t, Q0, g1, g2, g3⟩
    have := pg_tup (X := X) (es := es) (k := k) (pos := pos) hX.calm (pgs_sem hX es) (hn _) (hst _)
    rw [hX.K] at this; exact this
theorem ws_asg {ix : List Nat} {tg : Expr} (hs : ∀ env, swapsWithSole [tg] e pos.line env = pure false := by intro _; rfl) (hw : ∀ env, swappedStores [tg] e env = pure none := by intro _; rfl) (h1 : ∀ env, (assignEach [tg] env).map (·.2) = [assign tg env] := by intro _; rfl)
    (h : WE Γ e ρ μ fun d μ1 => WGi Γ ix tg d ρ μ1 D'.nx) : WS Γ (.Assign [tg] e pos) ρ μ D' := fun σ F H s r =>
  semS.mk (fun X hX => ps_asg (pe_sem hX e) (pg_sem hX tg) (hs _) (hw _) (h1 _)) (h.go s r fun v F1 H1 d μ1 r1 e1 s1 p1 q1 => by
    obtain ⟨t, Q0, g1, g2, g3⟩ := q1 v σ F1 H1 p1 s1 r1
    exact ⟨t, Q0, g1, g2, fun σ' H' q => (g3 σ' H' q).2.ext e1⟩)
/-- x += e, ints -/
theorem ws_augI (i : Nat) {op : Operator} {f : Int → Int → Int} {pos' : Pos} {m : Int} (ho : ∀ X : Cx, PIp X op (ipI f)) (hN : Γ.N[i]? = some x := by rfl) (hx : StD Γ x := by first | exact ⟨Or.inl rfl, Or.inr rfl⟩ | exact ⟨Or.inr rfl, Or.inl rfl⟩)
    (hρ : ρ[i]? = some (some (.int m)) := by rfl) (h : WE Γ e ρ μ fun d μ1 => ∃ n, d = .int n ∧ D'.nx (ρ.set i (some (.int (f m n)))) μ1) : WS Γ (.AugAssign (.Name x pos') op e pos) ρ μ D' := fun σ F H s r => by
  obtain ⟨v, h1, h2⟩ := s.at_ i _ hρ
  cases h2
  refine semS.mk (fun X hX => ps_aug (i := i) hX.nd (hX.nm hN) (hX.st1 hx) (pe_sem hX e) (ho X) (hX.st2 hx)) ⟨.int m, h1, h.go s r fun v F1 H1 d μ1 r1 e1 s1 p1 q1 => ?_⟩
  obtain ⟨n, rfl, q1⟩ := q1
  cases p1
  exact ⟨m, n, rfl, rfl, F1, _, μ1, s1.set i (.int _), r1, e1, q1⟩
/-- a list that no longer changes: its name's slot bears its data from here on -/
theorem wss_freeze (i : Nat) {a : Addr} {ds : List D} (hρ : ρ[i]? = some (some (.loc a))) (hm : μ a = some (.lst ds)) (h : WSs Γ sts (ρ.set i (some (.lst ds))) (μ.del a) D') : WSs Γ sts ρ μ D' := fun σ F H s r => by
  obtain ⟨F1, r1, e1, p1⟩ := r.freeze hm
  obtain ⟨v, h1, h2⟩ := s.at_ i _ hρ
  cases h2
  refine (h σ F1 H ((s.mono e1.fr).put i (fun v hv => ?_) ⟨_, h1⟩) r1).le (DEnds.ext e1)
  rw [h1] at hv; cases hv; exact p1
theorem we_freeze (i : Nat) {a : Addr} {ds : List D} (hρ : ρ[i]? = some (some (.loc a))) (hm : μ a = some (.lst ds)) (h : WE Γ e (ρ.set i (some (.lst ds))) (μ.del a) Q) : WE Γ e ρ μ Q := fun σ F H s r => by
  obtain ⟨F1, r1, e1, p1⟩ := r.freeze hm
  obtain ⟨v, h1, h2⟩ := s.at_ i _ hρ
  cases h2
  obtain ⟨t, Q0, g1, g2, g3⟩ := h σ F1 H ((s.mono e1.fr).put i (fun v hv => by rw [h1] at hv; cases hv; exact p1) ⟨_, h1⟩) r1
  exact ⟨t, Q0, g1, g2, fun v H' q => (g3 v H' q).ext e1⟩
/-- things may be forgotten at any place -/
theorem wss_drop {μ' : Mem} (z : μ'.Sub μ) (h : WSs Γ sts ρ μ' D') : WSs Γ sts ρ μ D' := fun σ F H s r =>
  (h σ F H s (r.drop z)).le (DEnds.ext ⟨Same.refl _, fun _ _ h _ => h, fun _ h => .inl h, fun a h => .inl fun q => h (by
    cases e : μ' a with
    | none => rfl
    | some o => rw [z a o e] at q; cases q)⟩)
end

/-! ### a def by its body -/
def startD (N : List Str) (ds : List D) : Rho := ds.map some ++ List.replicate (N.length - ds.length) none
theorem slots_start {K : PySem.W.Frag} {F : Hp} {N : List Str} {vs : List V} {ds : List D} (h : Reps K F vs ds) : Slots K F (L2.start N vs) (startD N ds) := by
  refine ⟨by unfold L2.start startD; simp [h.length], fun i d e => ?_⟩
  unfold startD at e
  unfold L2.start
  by_cases hi : i < ds.length
  · rw [List.getElem?_append_left (by simpa using hi), List.getElem?_map] at e
    rw [List.getElem?_append_left (by simpa [h.length] using hi), List.getElem?_map]
    cases q : ds[i]? with
    | none => rw [q] at e; cases e
    | some d' =>
      rw [q] at e; cases e
      obtain ⟨v, h1, h2⟩ := h.get q
      exact ⟨v, by rw [h1]; rfl, h2⟩
  · rw [List.getElem?_append_right (by simpa using Nat.not_lt.mp hi), List.getElem?_replicate] at e
    split at e <;> cases e
abbrev gamF (P : Program) (w : World) (K : PySem.W.Frag) (mg : Str → Option Value) (base : Heap) (N : List Str) (sc : Scope) (k : Nat) : Gam := ⟨P, w, K, mg, base, N, sc, fun _ => true, k⟩
theorem FnD.of {P : Program} {w : World} {K : PySem.W.Frag} {mg : Str → Option Value} {base : Heap} {x qual : Str} {st : Stmt} {f : Addr} {fd : FuncData} {N ps : List Str} {k : Nat} {sp : DSp} (F : Fun K x qual st f fd) (S : FnScope N ps (defScope st)) (hm : mg x = some (.ref f))
    (hb : Binds K fd ps []) (len : ∀ ds μ Q, sp ds μ Q → ds.length = ps.length)
    (body : ∀ ds μ Q, sp ds μ Q → WSs (gamF P w K mg base N (defScope st) k) (defBody st) (startD N ds) μ { nx := fun _ μ1 => Q .non μ1, rt := Q }) : FnD P w K mg base (k + 1) x sp := by
  refine ⟨f, fd, ps, hm, F.kp, hb, F.ok S (fun vs H Q E ⟨F, μ, ds, Q', r, p, q, z⟩ => by rw [p.length]; exact len _ _ _ q) fun cdv A outer s H vs Q E hr ⟨F', μ, ds, Q', r, p, q, z⟩ => ?_⟩
  refine ⟨semSs (gamF P w K mg base N (defScope st) k) (defBody st), pss_sem ⟨rfl, rfl, rfl, rfl, rfl, rfl, rfl, rfl, rfl, rfl, hr, S.nd⟩ _, ?_⟩
  refine (body ds μ Q' q _ F' H (slots_start p) r).le ⟨fun σ H' ⟨F1, ρ1, μ1, s1, r1, e1, q1⟩ => z _ _ ⟨F1, .non, μ1, r1, e1, .non, q1⟩, fun v H' q => z _ _ q, fun _ _ ⟨_, _, _, _, _, _, q⟩ => q, fun _ _ ⟨_, _, _, _, _, _, q⟩ => q⟩
/-- a def of the text, as the top has left it -/
def TF (K : PySem.W.Frag) (mg : Str → Option Value) (x : Str) (st : Stmt) (ps : List Str) : Prop := ∃ (f : Addr) (fd : FuncData), Fun K x x st f fd ∧ mg x = some (.ref f) ∧ Binds K fd ps []
theorem TF.ok {P : Program} {w : World} {K : PySem.W.Frag} {mg : Str → Option Value} {base : Heap} {x : Str} {st : Stmt} {N ps : List Str} (k : Nat) {sp : DSp} (T : TF K mg x st ps) (S : FnScope N ps (defScope st)) (len : ∀ ds μ Q, sp ds μ Q → ds.length = ps.length)
    (body : ∀ ds μ Q, sp ds μ Q → WSs (gamF P w K mg base N (defScope st) k) (defBody st) (startD N ds) μ { nx := fun _ μ1 => Q .non μ1, rt := Q }) : FnD P w K mg base (k + 1) x sp := by
  obtain ⟨f, fd, F, hm, hb⟩ := T
  exact FnD.of F S hm hb len body
end DL
namespace DL
open PySem L2

def semI (Γ : Gam) (tg iter : Expr) : TI := fun σ H R => ∃ (wi : TI) (R0 : It → Hp → Prop), (∀ X, Γ.ok X → PI X tg iter wi) ∧ wi σ H R0 ∧ ∀ J H', R0 J H' → R J H'
theorem pi_sem {Γ : Gam} {X : Cx} (hX : Γ.ok X) (tg iter : Expr) : PI X tg iter (semI Γ tg iter) := ⟨fun pins s σ H R I ⟨wi, R0, h, hw, hq⟩ =>
  thn ((h X hX).run pins s σ H R0 I hw) fun v s1 h1 => thn h1 fun itv s2 ⟨it, fp, tn, J, H', e, I2, T, t2, f2, q⟩ => ⟨it, fp, tn, J, H', e, I2, T, t2, f2, hq _ _ q⟩⟩
/-- an iterator gives just ds, whatever else happens -/
structure IterOk (K : PySem.W.Frag) (F1 : Hp) (J : It) (ds : List D) : Prop where
  go : ∀ (i : Nat) (F H : Hp) (μ : Mem), Same F1 F → Rel K F H μ → ∀ d, ds[i]? = some d → J.go i H ∧ ∀ x H', J.yld i H x H' → ∃ F', Rel K F' H' μ ∧ Ext F H μ F' H' μ ∧ Rep K F' x d
  stop : ∀ (i : Nat) (F H : Hp) (μ : Mem), Same F1 F → Rel K F H μ → ds.length ≤ i → J.stop i H
theorem semI.mk {Γ : Gam} {tg iter : Expr} {wi : TI} {σ : L2.St} {H : Hp} {R : It → Hp → Prop} (h : ∀ X, Γ.ok X → PI X tg iter wi) (q : wi σ H R) : semI Γ tg iter σ H R := ⟨wi, R, h, q, fun _ _ x => x⟩
def WI (Γ : Gam) (tg iter : Expr) (ρ : Rho) (μ : Mem) (R : List D → Mem → Prop) : Prop := ∀ σ F H, Slots Γ.K F σ ρ → Rel Γ.K F H μ →
  semI Γ tg iter σ H fun J H1 => ∃ F1 μ1 ds, Rel Γ.K F1 H1 μ1 ∧ Ext F H μ F1 H1 μ1 ∧ IterOk Γ.K F1 J ds ∧ R ds μ1

section
variable {Γ : Gam} {ρ : Rho} {μ : Mem} {Q : D → Mem → Prop} {a b c e : Expr} {es : List Expr} {pos p : Pos} {x : Str} {tg iter : Expr} {R : List D → Mem → Prop} {D' : DEnds} {body : List Stmt}
theorem iter_lst {K : PySem.W.Frag} {F1 : Hp} {a : Addr} {xs : List V} {ds : List D} (h : SqL K F1 a xs) (hs : Reps K F1 xs ds) (inj : ∀ F H μ, Same F1 F → Rel K F H μ → ∀ ys, SqL K H a ys → True) : IterOk K F1 (Itl K a) ds where
  go := fun i F H μ s r d e => by
    obtain ⟨v, h1, h2⟩ := hs.get e
    have hH := r.same.seq (s.seq h)
    refine ⟨⟨xs, v, hH, h1⟩, fun x H' ⟨e1, y⟩ => ?_⟩
    subst e1
    have := y xs hH
    rw [h1] at this; cases this
    exact ⟨F, r, .refl _ _ _, h2.mono s⟩
  stop := fun i F H μ s r hl => ⟨xs, r.same.seq (s.seq h), by rw [hs.length]; exact hl⟩
theorem iter_tup {K : PySem.W.Frag} {F1 : Hp} {a : Addr} {xs : List V} {ds : List D} (h : SqT K F1 a xs) (hs : Reps K F1 xs ds) : IterOk K F1 (Itt K a) ds where
  go := fun i F H μ s r d e => by
    obtain ⟨v, h1, h2⟩ := hs.get e
    have hH := same_seqT r.same (same_seqT s h)
    refine ⟨⟨xs, v, hH, h1⟩, fun x H' ⟨e1, y⟩ => ?_⟩
    subst e1
    have := y xs hH
    rw [h1] at this; cases this
    exact ⟨F, r, .refl _ _ _, h2.mono s⟩
  stop := fun i F H μ s r hl => ⟨xs, same_seqT r.same (same_seqT s h), by rw [hs.length]; exact hl⟩
/-- over a list that stands -/
theorem wi_lst (h : WE Γ iter ρ μ fun d μ1 => ∃ ds, d = .lst ds ∧ R ds μ1) : WI Γ tg iter ρ μ R := fun σ F H s r => by
  refine semI.mk (wi := iList Γ.K (semE Γ iter)) (fun X hX => ?_) (h.go s r fun v F1 H1 d μ1 r1 e1 s1 p1 q1 => ?_)
  · have := pi_list (X := X) (tg := tg) (pe_sem hX iter)
    rw [hX.K] at this; exact this
  · obtain ⟨ds, rfl, q1⟩ := q1
    cases p1 with
    | @lst a xs _ g1 g2 => exact ⟨a, rfl, ⟨xs, SqL.of (r1.same _ _ g1)⟩, F1, μ1, ds, r1, e1, iter_lst (SqL.of g1) g2 (fun _ _ _ _ _ _ _ => trivial), q1⟩
theorem wi_tup (h : WE Γ iter ρ μ fun d μ1 => ∃ ds, d = .tup ds ∧ R ds μ1) : WI Γ tg iter ρ μ R := fun σ F H s r => by
  refine semI.mk (wi := iTup Γ.K (semE Γ iter)) (fun X hX => ?_) (h.go s r fun v F1 H1 d μ1 r1 e1 s1 p1 q1 => ?_)
  · have := pi_tup (X := X) (tg := tg) (pe_sem hX iter)
    rw [hX.K] at this; exact this
  · obtain ⟨ds, rfl, q1⟩ := q1
    cases p1 with
    | @tup a xs _ g1 g2 => exact ⟨a, rfl, ⟨xs, same_seqT r1.same g1⟩, F1, μ1, ds, r1, e1, iter_tup g1 g2, q1⟩
/-- lo, lo + 1, .. -/
def rangeD (lo : Int) (n : Nat) : List D := (List.range n).map fun i : Nat => D.int (lo + (i : Int))
theorem rangeD_length (lo : Int) (n : Nat) : (rangeD lo n).length = n := by unfold rangeD; simp
theorem rangeD_get {lo : Int} {n i : Nat} {d : D} (h : (rangeD lo n)[i]? = some d) : i < n ∧ d = .int (lo + (i : Int)) := by
  have hi : i < n := by
    have := (List.getElem?_eq_some_iff.mp h).1
    rw [rangeD_length] at this; exact this
  refine ⟨hi, ?_⟩
  unfold rangeD at h
  rw [List.getElem?_map, List.getElem?_range hi] at h
  exact (Option.some.inj h).symm
theorem iter_rng {K : PySem.W.Frag} {F1 : Hp} (lo : Int) (n : Nat) : IterOk K F1 (Itr lo n) (rangeD lo n) where
  go := fun i F H μ s r d e => by
    obtain ⟨hi, rfl⟩ := rangeD_get e
    refine ⟨hi, fun x H' ⟨e1, y⟩ => ?_⟩
    subst e1 y
    exact ⟨F, r, .refl _ _ _, .int _⟩
  stop := fun i F H μ s r hl => by rw [rangeD_length] at hl; exact hl
theorem reps_one {K : PySem.W.Frag} {F : Hp} {vs : List V} {i : Int} (h : Reps K F vs [.int i]) : vs = [.int i] := by
  cases h with | cons h t => cases h; cases t; rfl
theorem reps_two {K : PySem.W.Frag} {F : Hp} {vs : List V} {i j : Int} (h : Reps K F vs [.int i, .int j]) : vs = [.int i, .int j] := by
  cases h with | cons h t => cases h; rw [reps_one t]
theorem reps_three {K : PySem.W.Frag} {F : Hp} {vs : List V} {i j k : Int} (h : Reps K F vs [.int i, .int j, .int k]) : vs = [.int i, .int j, .int k] := by
  cases h with | cons h t => cases h; rw [reps_two t]
theorem wi_range1 (hm : Γ.mg "range" = none) (hg : GlD Γ "range" := by rfl) (hs : ∀ env, starEach [a] env = [(false, eval a env)] := by intro _; rfl)
    (h : WA Γ [a] ρ μ fun ds μ1 => ∃ n : Int, ds = [.int n] ∧ (-(2 ^ 62) ≤ n ∧ n < 2 ^ 62) ∧ R (rangeD 0 n.toNat) μ1) : WI Γ tg (.Call (.Name "range" p) [a] [] pos) ρ μ R := fun σ F H s r => by
  refine semI.mk (wi := iRng1 (semA Γ [a])) (fun X hX => pi_range1 (hX.gl hg) (by rw [hX.mg]; exact hm) (pa_sem hX _) (hs _)) (h.go s r fun vs F1 H1 ds μ1 r1 e1 s1 p1 q1 => ?_)
  obtain ⟨n, rfl, ⟨h1, h2⟩, q1⟩ := q1
  exact ⟨n, reps_one p1, h1, h2, F1, μ1, _, r1, e1, iter_rng 0 _, q1⟩
theorem wi_range2 (hm : Γ.mg "range" = none) (hg : GlD Γ "range" := by rfl) (hs : ∀ env, starEach [a, b] env = [(false, eval a env), (false, eval b env)] := by intro _; rfl) (hs2 : ∀ env, starEach [b] env = [(false, eval b env)] := by intro _; rfl)
    (h : WA Γ [a, b] ρ μ fun ds μ1 => ∃ i j : Int, ds = [.int i, .int j] ∧ (-(2 ^ 62) ≤ i ∧ i < 2 ^ 62 ∧ -(2 ^ 62) ≤ j ∧ j < 2 ^ 62) ∧ R (rangeD i (j - i).toNat) μ1) : WI Γ tg (.Call (.Name "range" p) [a, b] [] pos) ρ μ R := fun σ F H s r => by
  refine semI.mk (wi := iRng2 (semA Γ [a, b])) (fun X hX => pi_range2 (hX.gl hg) (by rw [hX.mg]; exact hm) (pa_sem hX _) (hs _) (hs2 _)) (h.go s r fun vs F1 H1 ds μ1 r1 e1 s1 p1 q1 => ?_)
  obtain ⟨i, j, rfl, h1, q1⟩ := q1
  exact ⟨i, j, reps_two p1, h1, F1, μ1, _, r1, e1, iter_rng i _, q1⟩
/-- enumerate over a list that stands: pairs -/
def enumD (ds : List D) : List D := ds.zipIdx.map fun q => D.tup [.int (q.2 : Nat), q.1]
theorem enumD_length (ds : List D) : (enumD ds).length = ds.length := by unfold enumD; simp
theorem enumD_get {ds : List D} {i : Nat} {d : D} (h : (enumD ds)[i]? = some d) : ∃ e, ds[i]? = some e ∧ d = .tup [.int (i : Nat), e] := by
  unfold enumD at h
  rw [List.getElem?_map, List.getElem?_zipIdx] at h
  cases q : ds[i]? with
  | none => rw [q] at h; cases h
  | some e => rw [q] at h; refine ⟨e, rfl, ?_⟩; simpa using (Option.some.inj h).symm

/-! ### for -/
theorem ws_for (hs : ∀ env x, foldedSetIterable iter env x = pure x := by intros; rfl) (h : WI Γ tg iter ρ μ fun ds μ1 => ∃ (ix : List Nat) (I : Nat → Rho → Mem → Prop), I 0 ρ μ1 ∧
      (∀ i d ρ' μ', ds[i]? = some d → I i ρ' μ' → WGi Γ ix tg d ρ' μ' fun ρ2 μ2 => WSs Γ body ρ2 μ2 { nx := I (i + 1), rt := D'.rt, bk := D'.nx, ct := I (i + 1) }) ∧ (∀ ρ' μ', I ds.length ρ' μ' → D'.nx ρ' μ')) :
    WS Γ (.For tg iter body [] pos) ρ μ D' := fun σ F H s r => by
  obtain ⟨wi, R0, h1, h2, h3⟩ := h σ F H s r
  refine semS.mk (t := tFor (semI Γ tg iter) (semG Γ tg) (semSs Γ body)) (fun X hX => ps_for (by rw [hX.xe]; exact PassesOwn.never) hX.calm (pi_sem hX tg iter) (pg_sem hX tg) (pss_sem hX body) (hs _)) ⟨wi, R0, h1, h2, fun J H1 q => ?_⟩
  obtain ⟨F1, μ1, ds, r1, e1, ok, ix, I, i0, step, done⟩ := h3 J H1 q
  refine ⟨fun i m σ' H' => m = ds.length - i ∧ i ≤ ds.length ∧ ∃ F' ρ' μ', Slots Γ.K F' σ' ρ' ∧ Rel Γ.K F' H' μ' ∧ Ext F H μ F' H' μ' ∧ Same F1 F' ∧ I i ρ' μ', ⟨ds.length, by simp, Nat.zero_le _, F1, ρ, μ1, s.mono e1.fr, r1, e1, Same.refl _, i0⟩, ?_⟩
  rintro i m σ' H' ⟨rfl, hi, F', ρ', μ', s', r', e', f', hI⟩
  by_cases hlt : i < ds.length
  · have hd : ds[i]? = some ds[i] := List.getElem?_eq_getElem hlt
    obtain ⟨go, yl⟩ := ok.go i F' H' μ' f' r' _ hd
    refine .inr ⟨go, fun σ2 H2 => ∃ F2 ρ2 μ2, Slots Γ.K F2 σ2 ρ2 ∧ Rel Γ.K F2 H2 μ2 ∧ Ext F H μ F2 H2 μ2 ∧ Same F1 F2 ∧ I (i + 1) ρ2 μ2, fun σ2 H2 z => ⟨ds.length - (i + 1), by omega, rfl, hlt, z⟩, fun v H2 hy => ?_⟩
    obtain ⟨F2, r2, e2, p2⟩ := yl v H2 hy
    obtain ⟨t, Q0, g1, g2, g3⟩ := step i _ ρ' μ' hd hI v σ' F2 H2 p2 (s'.mono e2.fr) r2
    refine ⟨t, Q0, g1, g2, fun σ3 H3 q3 => ?_⟩
    obtain ⟨_, F3, ρ3, μ3, s3, r3, e3, q3⟩ := g3 σ3 H3 q3
    have E3 := (e'.trans e2).trans e3
    have f3 := (f'.trans e2.fr).trans e3.fr
    refine (q3 σ3 F3 H3 s3 r3).le ⟨fun σ4 H4 ⟨F4, ρ4, μ4, s4, r4, e4, q4⟩ => ⟨F4, ρ4, μ4, s4, r4, E3.trans e4, f3.trans e4.fr, q4⟩, fun _ _ q => Post.ext E3 q, fun _ _ q => PostS.ext E3 q, fun σ4 H4 ⟨F4, ρ4, μ4, s4, r4, e4, q4⟩ => ⟨F4, ρ4, μ4, s4, r4, E3.trans e4, f3.trans e4.fr, q4⟩⟩
  · have ei : i = ds.length := by omega
    subst ei
    exact .inl ⟨ok.stop _ F' H' μ' f' r' (Nat.le_refl _), F', ρ', μ', s', r', e', done _ _ hI⟩

/-! ### while -/
theorem ws_while (h : ∃ (I : Nat → Rho → Mem → Prop), (∃ m, I m ρ μ) ∧ (∀ m ρ' μ', I m ρ' μ' → WT Γ c ρ' μ' fun k μ1 =>
      (k = true → WSs Γ body ρ' μ1 { nx := fun ρ2 μ2 => ∃ m', m' < m ∧ I m' ρ2 μ2, rt := D'.rt, bk := D'.nx, ct := fun ρ2 μ2 => ∃ m', m' < m ∧ I m' ρ2 μ2 }) ∧ (k = false → D'.nx ρ' μ1))) :
    WS Γ (.While c body [] pos) ρ μ D' := fun σ F H s r => by
  obtain ⟨I, ⟨m0, i0⟩, step⟩ := h
  refine semS.mk (t := tWhile (semT Γ c) (semSs Γ body)) (fun X hX => ps_while (by rw [hX.xe]; exact PassesOwn.never) (pt_sem hX c) (pss_sem hX body)) ?_
  refine ⟨fun m σ' H' => ∃ F' ρ' μ', Slots Γ.K F' σ' ρ' ∧ Rel Γ.K F' H' μ' ∧ Ext F H μ F' H' μ' ∧ I m ρ' μ', ⟨m0, F, ρ, μ, s, r, .refl _ _ _, i0⟩, ?_⟩
  rintro m σ' H' ⟨F', ρ', μ', s', r', e', hI⟩
  refine (step m ρ' μ' hI).go s' r' fun k F1 H1 μ1 r1 e1 s1 q1 => ?_
  have E1 := e'.trans e1
  cases k with
  | true =>
    rw [if_pos rfl]
    refine ⟨fun σ2 H2 => ∃ m', m' < m ∧ ∃ F2 ρ2 μ2, Slots Γ.K F2 σ2 ρ2 ∧ Rel Γ.K F2 H2 μ2 ∧ Ext F H μ F2 H2 μ2 ∧ I m' ρ2 μ2, fun σ2 H2 z => z, ?_⟩
    refine (q1.1 rfl σ' F1 H1 s1 r1).le ⟨fun σ4 H4 ⟨F4, ρ4, μ4, s4, r4, e4, m', hm, q4⟩ => ⟨m', hm, F4, ρ4, μ4, s4, r4, E1.trans e4, q4⟩, fun _ _ q => Post.ext E1 q, fun _ _ q => PostS.ext E1 q, fun σ4 H4 ⟨F4, ρ4, μ4, s4, r4, e4, m', hm, q4⟩ => ⟨m', hm, F4, ρ4, μ4, s4, r4, E1.trans e4, q4⟩⟩
  | false =>
    rw [if_neg (by simp)]
    exact ⟨F1, ρ', μ1, s1, r1, E1, q1.2 rfl⟩

/-! ### comprehensions -/
abbrev Gam.blk (Γ : Gam) (scope : Scope) : Gam := { Γ with sc := relS scope Γ.sc, fn := fun x => scope.names.lookup x == some .cell }
theorem Gam.ok.blk {X : Cx} (hX : Γ.ok X) (s : Shared) (H : Hp) (scope : Scope) (C : Addr) (cl : List (Str × Addr)) (fp : List Addr) : (Γ.blk scope).ok (X.blk s H scope (compEnvC scope cl C X.env) fp) :=
  ⟨hX.P, hX.w, hX.K, hX.mg, hX.base, hX.N, by show relS scope X.env.scope = _; rw [hX.sc], rfl, hX.calm, rfl, hX.room, hX.nd⟩
theorem wipe_eq {σ σ' : L2.St} {ix vs : List Nat} (h : ∀ j, j ∉ ix → σ'[j]? = σ[j]?) (hl : σ'.length = σ.length) (hi : ∀ j ∈ ix, j ∈ vs) : wipe σ' vs = wipe σ vs := by
  have get : ∀ (τ : L2.St) (vs : List Nat) (j : Nat), (wipe τ vs)[j]? = if j ∈ vs then (if j < τ.length then some none else none) else τ[j]? := by
    intro τ vs
    induction vs with
    | nil => intro j; simp [wipe]
    | cons v vs ih =>
      intro j
      unfold wipe
      by_cases e : v = j
      · subst e
        by_cases hl : v < τ.length
        · rw [List.getElem?_set_self (by rw [wipe_length]; exact hl)]; simp [hl]
        · rw [List.getElem?_eq_none (by rw [List.length_set, wipe_length]; omega)]; simp [hl]
      · rw [List.getElem?_set_ne e, ih]
        simp [Ne.symm e]
  apply List.ext_getElem?
  intro j
  rw [get, get, hl]
  by_cases hv : j ∈ vs
  · simp [hv]
  · simp only [hv, if_false]
    exact h j fun z => hv (hi j z)
theorem ext_poke {F1 H1 F H : Hp} {μ1 μ : Mem} (e : Ext F1 H1 μ1 F H μ) {p : Addr} (hp : H1 p = none) (o : HO) : Ext F1 H1 μ1 F (L2.upd H p o) μ :=
  ⟨e.fr, fun a u h m => by rw [L2.upd_ne (ne_of_none h hp)]; exact e.keep a u h m, e.newF, e.newM⟩
/-- what a comprehension's rounds are to keep: I by the turn and the items made so far -/
theorem lc_ok {elt : Expr} {ifs : List Expr} {scope : Scope} (vs : List Nat) (P : List D → Mem → Prop) (mu : Bool)
    (hQ : ∀ acc μ', P acc μ' → if mu then ∀ p, μ' p = none → Q (.loc p) (μ'.upd p (.lst acc)) else Q (.lst acc) μ')
    (h : WI Γ tg iter ρ μ fun ds μ1 => ds.length ≤ sizeLine ∧ ∃ (ix : List Nat) (I : Nat → List D → Mem → Prop), (∀ j ∈ ix, j ∈ vs) ∧ I 0 [] μ1 ∧
      (∀ i d acc μ', ds[i]? = some d → I i acc μ' → WGi (Γ.blk scope) ix tg d (wipeD ρ vs) μ' fun ρ2 μ2 => WTs (Γ.blk scope) ifs ρ2 μ2 fun b μ3 =>
        (b = true → WE (Γ.blk scope) elt ρ2 μ3 fun y μ4 => I (i + 1) (acc ++ [y]) μ4) ∧ (b = false → I (i + 1) acc μ3)) ∧ (∀ acc μ', I ds.length acc μ' → P acc μ'))
    {σ : L2.St} {F H : Hp} (s : Slots Γ.K F σ ρ) (r : Rel Γ.K F H μ) :
    tLc (semI Γ tg iter) (semG (Γ.blk scope) tg) (semTs (Γ.blk scope) ifs) (semE (Γ.blk scope) elt) vs σ H (Post Γ.K F H μ Q) := by
  obtain ⟨wi, R0, h1, h2, h3⟩ := h σ F H s r
  refine ⟨wi, R0, h1, h2, fun J H1 q => ?_⟩
  obtain ⟨F1, μ1, ds, r1, e1, ok, hsz, ix, I, hix, i0, step, done⟩ := h3 J H1 q
  intro p hp
  obtain ⟨hF1, hM1⟩ := r1.fresh hp
  refine ⟨fun i m H' => m = ds.length - i ∧ i ≤ ds.length ∧ ∃ F' μ' acc ws, Rel Γ.K F' H' μ' ∧ Ext F1 H1 μ1 F' H' μ' ∧ F' p = none ∧ μ' p = none ∧ H' p = some (.lst ws) ∧ Reps Γ.K F' ws acc ∧ acc.length ≤ i ∧ I i acc μ', ⟨ds.length, by simp, Nat.zero_le _, F1, μ1, [], [], ?_, ?_, hF1, hM1, L2.upd_same, .nil, Nat.zero_le _, i0⟩, ?_⟩
  · refine ⟨fun b u e => ?_, fun a o e => ?_⟩
    · rw [L2.upd_ne (ne_of_none e hF1)]; exact r1.same b u e
    · obtain ⟨g1, ho, g2, g3⟩ := r1.mem a o e
      exact ⟨g1, ho, by rw [L2.upd_ne (ne_of_none g2 hp)]; exact g2, g3⟩
  · exact ⟨Same.refl _, fun a o e _ => by rw [L2.upd_ne (ne_of_none e hp)]; exact e, fun a z => .inl z, fun a z => .inl z⟩
  rintro i m H' ⟨rfl, hi, F', μ', acc, ws, r', e', hF', hM', hH', p', hl', hI⟩
  have f' := e'.fr
  by_cases hlt : i < ds.length
  · have hd : ds[i]? = some ds[i] := List.getElem?_eq_getElem hlt
    obtain ⟨go, yl⟩ := ok.go i F' H' μ' f' r' _ hd
    refine .inr ⟨go, fun H2 => ∃ F2 μ2 acc ws, Rel Γ.K F2 H2 μ2 ∧ Ext F1 H1 μ1 F2 H2 μ2 ∧ F2 p = none ∧ μ2 p = none ∧ H2 p = some (.lst ws) ∧ Reps Γ.K F2 ws acc ∧ acc.length ≤ i + 1 ∧ I (i + 1) acc μ2, fun H2 z => ⟨ds.length - (i + 1), by omega, rfl, hlt, z⟩, fun v H2 hy => ?_⟩
    obtain ⟨F2, r2, e2, p2⟩ := yl v H2 hy
    obtain ⟨t, Q0, g1, g2, g3⟩ := step i _ acc μ' hd hI v (wipe σ vs) F2 H2 p2 (((s.mono e1.fr).mono f').mono e2.fr |>.wipe vs) r2
    refine ⟨t, Q0, g1, g2, fun σ3 H3 q3 => ?_⟩
    obtain ⟨⟨w1, w2⟩, F3, ρ3, μ3, s3, r3, e3, q3⟩ := g3 σ3 H3 q3
    have stay : ∀ {Fa Ha Fb Hb : Hp} {μa μb : Mem}, Ext Fa Ha μa Fb Hb μb → Fa p = none → μa p = none → ∀ o, Ha p = some o → Fb p = none ∧ μb p = none ∧ Hb p = some o := by
      intro Fa Ha Fb Hb μa μb ex x1 x2 o x3
      refine ⟨?_, ?_, ex.keep p o x3 x2⟩
      · cases z : Fb p with
        | none => rfl
        | some u =>
          rcases ex.newF p (by rw [z]; simp) with y | y | y
          · exact absurd x1 y
          · exact absurd x2 y
          · rw [x3] at y; cases y
      · cases z : μb p with
        | none => rfl
        | some u =>
          rcases ex.newM p (by rw [z]; simp) with y | y
          · exact absurd x2 y
          · rw [x3] at y; cases y
    have ww : wipe (wipe σ vs) vs = wipe σ vs := by
      refine wipe_eq (ix := vs) (fun j hj => ?_) (wipe_length _ _) fun j h => h
      have : ∀ vs : List Nat, j ∉ vs → (wipe σ vs)[j]? = σ[j]? := by
        intro vs
        induction vs with
        | nil => intro _; rfl
        | cons v vs ih =>
          intro hj
          rw [List.mem_cons, not_or] at hj
          unfold wipe
          rw [List.getElem?_set_ne (Ne.symm hj.1), ih hj.2]
      exact this vs hj
    refine ⟨(wipe_eq w1 w2 hix).trans ww, ?_⟩
    refine q3.go s3 r3 fun b F4 H4 μ4 r4 e4 s4 q4 => ?_
    obtain ⟨y1, y2, y3⟩ := stay e2 hF' hM' _ hH'
    obtain ⟨y1, y2, y3⟩ := stay e3 y1 y2 _ y3
    obtain ⟨y1, y2, y3⟩ := stay e4 y1 y2 _ y3
    have E4 := ((e'.trans e2).trans e3).trans e4
    have P4 := ((p'.mono e2.fr).mono e3.fr).mono e4.fr
    cases b with
    | true =>
      rw [if_pos rfl]
      refine (q4.1 rfl).go s4 r4 fun u F5 H5 y μ5 r5 e5 s5 p5 q5 => ?_
      obtain ⟨z1, z2, z3⟩ := stay e5 y1 y2 _ y3
      refine ⟨ws, z3, by rw [p'.length]; omega, F5, μ5, acc ++ [y], ws ++ [u], ?_, ext_poke (E4.trans e5) hp _, z1, z2, L2.upd_same, Reps.append (P4.mono e5.fr) (.cons p5 .nil), by rw [List.length_append, List.length_singleton]; omega, q5⟩
      · refine ⟨fun b u e => ?_, fun a o e => ?_⟩
        · rw [L2.upd_ne (ne_of_none e z1)]; exact r5.same b u e
        · have ha : a ≠ p := fun z => by subst z; rw [z2] at e; cases e
          obtain ⟨g1, ho, g2, g3⟩ := r5.mem a o e
          exact ⟨g1, ho, by rw [L2.upd_ne ha]; exact g2, g3⟩
    | false =>
      rw [if_neg (by simp)]
      exact ⟨F4, μ4, acc, ws, r4, E4, y1, y2, y3, P4, by omega, q4.2 rfl⟩
  · have ei : i = ds.length := by omega
    subst ei
    refine .inl ⟨ok.stop _ F' H' μ' f' r' (Nat.le_refl _), ?_⟩
    have z := hQ acc μ' (done acc μ' hI)
    cases mu with
    | true =>
      rw [if_pos rfl] at z
      refine Post.ext e1 ⟨F', .loc p, μ'.upd p (.lst acc), ⟨r'.same, fun a o q => ?_⟩, ⟨e'.fr, e'.keep, e'.newF, fun a q => ?_⟩, .loc p, z p hM'⟩
      · by_cases ha : a = p
        · subst ha; rw [Mem.upd_same] at q; cases q; exact ⟨hF', _, hH', .lst p'⟩
        · rw [Mem.upd_ne ha] at q; exact r'.mem a o q
      · by_cases ha : a = p
        · subst ha; exact .inr hp
        · rw [Mem.upd_ne ha] at q; exact e'.newM a q
    | false =>
      rw [if_neg (by simp)] at z
      refine Post.ext e1 ⟨L2.upd F' p (.lst ws), .lst acc, μ', ⟨fun b u q => ?_, fun a o q => ?_⟩, ⟨e'.fr.trans (same_new hF'), e'.keep, fun a q => ?_, e'.newM⟩, .lst L2.upd_same (p'.mono (same_new hF')), z⟩
      · by_cases ha : b = p
        · subst ha; rw [L2.upd_same] at q; rw [← q]; exact hH'
        · rw [L2.upd_ne ha] at q; exact r'.same b u q
      · have ha : a ≠ p := fun z => by subst z; rw [hM'] at q; cases q
        obtain ⟨g1, ho, g2, g3⟩ := r'.mem a o q
        exact ⟨by rw [L2.upd_ne ha]; exact g1, ho, g2, g3.mono (same_new hF')⟩
      · by_cases ha : a = p
        · subst ha; exact .inr (.inr hp)
        · rw [L2.upd_ne ha] at q; exact e'.newF a q
end
end DL
namespace DL
open PySem L2

section
variable {Γ : Gam} {ρ : Rho} {μ : Mem} {Q : D → Mem → Prop} {a b c e elt tg iter : Expr} {es ifs : List Expr} {pos p : Pos} {x : Str} {R : List D → Mem → Prop} {D' : DEnds} {body : List Stmt} {scope : Scope}

/-! ### comprehensions, the forms one uses -/
theorem blk_all {X : Cx} (hX : Γ.ok X) {own : List (Str × Nat)} (hb : blkC Γ.N Γ.sc scope own = true) : BlkOk X.N X.env.scope scope own := by
  rw [hX.N, hX.sc]; exact blkOk_by hb
abbrev LcHyp (Γ : Gam) (ρ : Rho) (tg elt : Expr) (ifs : List Expr) (scope : Scope) (vs : List Nat) (P : List D → Mem → Prop) (ds : List D) (μ1 : Mem) : Prop :=
  ds.length ≤ sizeLine ∧ ∃ (ix : List Nat) (I : Nat → List D → Mem → Prop), (∀ j ∈ ix, j ∈ vs) ∧ I 0 [] μ1 ∧
      (∀ i d acc μ', ds[i]? = some d → I i acc μ' → WGi (Γ.blk scope) ix tg d (wipeD ρ vs) μ' fun ρ2 μ2 => WTs (Γ.blk scope) ifs ρ2 μ2 fun b μ3 =>
        (b = true → WE (Γ.blk scope) elt ρ2 μ3 fun y μ4 => I (i + 1) (acc ++ [y]) μ4) ∧ (b = false → I (i + 1) acc μ3)) ∧ (∀ acc μ', I ds.length acc μ' → P acc μ')
theorem we_lc (own : List (Str × Nat)) (hb : blkC Γ.N Γ.sc scope own = true := by first | (dsimp only [gamF, Gam.blk]; decide +kernel) | decide +kernel) (hs : ∀ env x, foldedSetIterable iter env x = pure x := by intros; rfl)
    (h : WI Γ tg iter ρ μ (LcHyp Γ ρ tg elt ifs scope (own.map (·.2)) fun acc μ' => Q (.lst acc) μ')) : WE Γ (.ListComp elt [⟨tg, iter, ifs, 0⟩] scope pos) ρ μ Q := fun σ F H s r =>
  semE.mk (fun X hX => pe_lc hX.calm hX.nd (pi_sem hX tg iter) (blk_all hX hb) (fun s H C cl fp => pg_sem (hX.blk s H scope C cl fp) tg) (fun s H C cl fp => pts_sem (hX.blk s H scope C cl fp) ifs) (fun s H C cl fp => pe_sem (hX.blk s H scope C cl fp) elt) (hs _))
    (lc_ok (Γ := Γ) (own.map (·.2)) (fun acc μ' => Q (.lst acc) μ') false (fun acc μ' q => by rw [if_neg (by simp)]; exact q) h s r)
theorem we_lcM (own : List (Str × Nat)) (hb : blkC Γ.N Γ.sc scope own = true := by first | (dsimp only [gamF, Gam.blk]; decide +kernel) | decide +kernel) (hs : ∀ env x, foldedSetIterable iter env x = pure x := by intros; rfl)
    (h : WI Γ tg iter ρ μ (LcHyp Γ ρ tg elt ifs scope (own.map (·.2)) fun acc μ' => ∀ p, μ' p = none → Q (.loc p) (μ'.upd p (.lst acc)))) : WE Γ (.ListComp elt [⟨tg, iter, ifs, 0⟩] scope pos) ρ μ Q := fun σ F H s r =>
  semE.mk (fun X hX => pe_lc hX.calm hX.nd (pi_sem hX tg iter) (blk_all hX hb) (fun s H C cl fp => pg_sem (hX.blk s H scope C cl fp) tg) (fun s H C cl fp => pts_sem (hX.blk s H scope C cl fp) ifs) (fun s H C cl fp => pe_sem (hX.blk s H scope C cl fp) elt) (hs _))
    (lc_ok (Γ := Γ) (own.map (·.2)) (fun acc μ' => ∀ p, μ' p = none → Q (.loc p) (μ'.upd p (.lst acc))) true (fun acc μ' q => by rw [if_pos rfl]; exact q) h s r)
/-- y = [..], y a local -/
theorem ws_setLc (i : Nat) {py spos : Pos} (own : List (Str × Nat)) (hN : Γ.N[i]? = some x := by rfl) (hl : Γ.sc.names.lookup x = some .local := by rfl) (hk : Γ.sc.kind = .function := by rfl) (hline : (py.line == pos.line) = true := by rfl)
    (hno : (scope.names.any fun (n, k) => n == x && (k == .local || k == .cell)) = false := by decide +kernel)
    (hb : blkC Γ.N Γ.sc scope own = true := by first | (dsimp only [gamF, Gam.blk]; decide +kernel) | decide +kernel) (hs : ∀ env x, foldedSetIterable iter env x = pure x := by intros; rfl)
    (h : WI Γ tg iter ρ μ (LcHyp Γ ρ tg elt ifs scope (own.map (·.2)) fun acc μ' => D'.nx (ρ.set i (some (.lst acc))) μ')) : WS Γ (.Assign [.Name x py] (.ListComp elt [⟨tg, iter, ifs, 0⟩] scope pos) spos) ρ μ D' := fun σ F H s r => by
  refine semS.mk (fun X hX => ps_setLc (i := i) hX.calm hX.nd (hX.nm hN) (by rw [hX.sc]; exact hl) (sw_true (by rw [hX.sc]; exact hk) (by rw [hX.sc]; exact hl) hline hno) (pi_sem hX tg iter) (blk_all hX hb) (fun s H C cl fp => pg_sem (hX.blk s H scope C cl fp) tg) (fun s H C cl fp => pts_sem (hX.blk s H scope C cl fp) ifs) (fun s H C cl fp => pe_sem (hX.blk s H scope C cl fp) elt) (hs _)) ?_
  have h1 := lc_ok (Γ := Γ) (Q := fun d μ' => D'.nx (ρ.set i (some d)) μ') (own.map (·.2)) (fun acc μ' => D'.nx (ρ.set i (some (.lst acc))) μ') false (fun acc μ' q => by rw [if_neg (by simp)]; exact q) h s r
  obtain ⟨wi, R0, g1, g2, g3⟩ := h1
  refine ⟨wi, R0, g1, g2, fun J H1 q p hp => ?_⟩
  obtain ⟨W, w0, st⟩ := g3 J H1 q p hp
  refine ⟨W, w0, fun i' m H' hW => ?_⟩
  rcases st i' m H' hW with ⟨k1, F', d, μ', r', e', p', q'⟩ | k
  · exact .inl ⟨k1, F', _, μ', (s.mono e'.fr).set i p', r', e', q'⟩
  · exact .inr k
theorem ws_setLcM (i : Nat) {py spos : Pos} (own : List (Str × Nat)) (hN : Γ.N[i]? = some x := by rfl) (hl : Γ.sc.names.lookup x = some .local := by rfl) (hk : Γ.sc.kind = .function := by rfl) (hline : (py.line == pos.line) = true := by rfl)
    (hno : (scope.names.any fun (n, k) => n == x && (k == .local || k == .cell)) = false := by decide +kernel)
    (hb : blkC Γ.N Γ.sc scope own = true := by first | (dsimp only [gamF, Gam.blk]; decide +kernel) | decide +kernel) (hs : ∀ env x, foldedSetIterable iter env x = pure x := by intros; rfl)
    (h : WI Γ tg iter ρ μ (LcHyp Γ ρ tg elt ifs scope (own.map (·.2)) fun acc μ' => ∀ p, μ' p = none → D'.nx (ρ.set i (some (.loc p))) (μ'.upd p (.lst acc)))) : WS Γ (.Assign [.Name x py] (.ListComp elt [⟨tg, iter, ifs, 0⟩] scope pos) spos) ρ μ D' := fun σ F H s r => by
  refine semS.mk (fun X hX => ps_setLc (i := i) hX.calm hX.nd (hX.nm hN) (by rw [hX.sc]; exact hl) (sw_true (by rw [hX.sc]; exact hk) (by rw [hX.sc]; exact hl) hline hno) (pi_sem hX tg iter) (blk_all hX hb) (fun s H C cl fp => pg_sem (hX.blk s H scope C cl fp) tg) (fun s H C cl fp => pts_sem (hX.blk s H scope C cl fp) ifs) (fun s H C cl fp => pe_sem (hX.blk s H scope C cl fp) elt) (hs _)) ?_
  have h1 := lc_ok (Γ := Γ) (Q := fun d μ' => D'.nx (ρ.set i (some d)) μ') (own.map (·.2)) (fun acc μ' => ∀ p, μ' p = none → D'.nx (ρ.set i (some (.loc p))) (μ'.upd p (.lst acc))) true (fun acc μ' q => by rw [if_pos rfl]; exact q) h s r
  obtain ⟨wi, R0, g1, g2, g3⟩ := h1
  refine ⟨wi, R0, g1, g2, fun J H1 q p hp => ?_⟩
  obtain ⟨W, w0, st⟩ := g3 J H1 q p hp
  refine ⟨W, w0, fun i' m H' hW => ?_⟩
  rcases st i' m H' hW with ⟨k1, F', d, μ', r', e', p', q'⟩ | k
  · exact .inl ⟨k1, F', _, μ', (s.mono e'.fr).set i p', r', e', q'⟩
  · exact .inr k
theorem wts_nil {T : Bool → Mem → Prop} (q : T true μ) : WTs Γ [] ρ μ T := fun σ F H s r => ⟨tYes, PostT Γ.K F H μ T, fun X hX => pts_nil, (⟨F, μ, r, .refl _ _ _, q⟩ : PostT Γ.K F H μ T true H), fun _ _ x => x⟩
theorem wts_one {T : Bool → Mem → Prop} (h : WT Γ e ρ μ T) : WTs Γ [e] ρ μ T := fun σ F H s r => ⟨semT Γ e, _, fun X hX => pts_one (pt_sem hX e), h σ F H s r, fun _ _ x => x⟩

/-! ### enumerate, zip, reversed of lists that stand -/
theorem reps_lst1 {K : PySem.W.Frag} {F : Hp} {vs : List V} {ds : List D} (h : Reps K F vs [.lst ds]) : ∃ a xs, vs = [.ref a] ∧ SqL K F a xs ∧ Reps K F xs ds := by
  cases h with | cons h t => cases h with | lst g1 g2 => cases t; exact ⟨_, _, rfl, SqL.of g1, g2⟩
theorem reps_tup1 {K : PySem.W.Frag} {F : Hp} {vs : List V} {ds : List D} (h : Reps K F vs [.tup ds]) : ∃ a xs, vs = [.ref a] ∧ SqT K F a xs ∧ Reps K F xs ds := by
  cases h with | cons h t => cases h with | tup g1 g2 => cases t; exact ⟨_, _, rfl, g1, g2⟩
theorem iter_enum {K : PySem.W.Frag} {F1 : Hp} {a : Addr} {xs : List V} {ds : List D} (h : SqL K F1 a xs) (hs : Reps K F1 xs ds) : IterOk K F1 (Ite K a) (enumD ds) where
  go := fun i F H μ s r d e => by
    obtain ⟨d', e', rfl⟩ := enumD_get e
    obtain ⟨v, h1, h2⟩ := hs.get e'
    have hH := r.same.seq (s.seq h)
    refine ⟨⟨xs, v, hH, h1⟩, fun x H' ⟨T, y, e1, hT, e2, y'⟩ => ?_⟩
    subst e1 e2
    have := y' xs hH
    rw [h1] at this; cases this
    obtain ⟨r2, x2⟩ := r.layF hT (.tup [.int (i : Nat), v])
    exact ⟨_, r2, x2, .tup (.inl (.inl L2.upd_same)) (.cons (.int _) (.cons ((h2.mono s).mono x2.fr) .nil))⟩
  stop := fun i F H μ s r hl => ⟨xs, r.same.seq (s.seq h), by rw [hs.length]; rw [enumD_length] at hl; exact hl⟩
theorem wi_enum {elts : List Expr} {kk : Nat} {tpos : Pos} (hm : Γ.mg "enumerate" = none) (hg : GlD Γ "enumerate" := by rfl) (hs : ∀ env, starEach [e] env = [(false, eval e env)] := by intro _; rfl)
    (h : WA Γ [e] ρ μ fun xs μ1 => ∃ ds, xs = [.lst ds] ∧ R (enumD ds) μ1) : WI Γ (.Tuple elts kk tpos) (.Call (.Name "enumerate" p) [e] [] pos) ρ μ R := fun σ F H s r => by
  refine semI.mk (wi := iEnum Γ.K (semA Γ [e])) (fun X hX => ?_) (h.go s r fun vs F1 H1 xs μ1 r1 e1 s1 p1 q1 => ?_)
  · have := pi_enum (X := X) (p := p) (pos := pos) (tpos := tpos) (elts := elts) (kk := kk) (hX.gl hg) (by rw [hX.mg]; exact hm) (pa_sem hX [e]) (hs _)
    rw [hX.K] at this; exact this
  · obtain ⟨ds, rfl, q1⟩ := q1
    obtain ⟨a, ys, rfl, g1, g2⟩ := reps_lst1 p1
    exact ⟨a, ys, rfl, r1.same.seq g1, F1, μ1, _, r1, e1, iter_enum g1 g2, q1⟩
end

/-! ### built-in calls -/
section
variable {Γ : Gam} {μ : Mem} {Q : D → Mem → Prop}
theorem reps1 {K : PySem.W.Frag} {F : Hp} {vs : List V} {d : D} (h : Reps K F vs [d]) : ∃ v, vs = [v] ∧ Rep K F v d := by
  cases h with | cons h t => cases t; exact ⟨_, rfl, h⟩
theorem reps2 {K : PySem.W.Frag} {F : Hp} {vs : List V} {d e : D} (h : Reps K F vs [d, e]) : ∃ v w, vs = [v, w] ∧ Rep K F v d ∧ Rep K F w e := by
  cases h with | cons h t => obtain ⟨w, rfl, g⟩ := reps1 t; exact ⟨_, w, rfl, h, g⟩
theorem wc_len_lst {ds : List D} (q : Q (.int ds.length) μ) : WC Γ (.builtin "len") [.lst ds] μ Q := fun vs F H p r => by
  obtain ⟨a, xs, rfl, g1, g2⟩ := reps_lst1 p
  refine semC.mk (r := fun xs H Q => ∃ p ys, xs = [.ref p] ∧ (SqL Γ.K H p ys ∨ SqT Γ.K H p ys) ∧ Q (.int ys.length) H) (fun X hX => hX.K ▸ call_len_seq) ⟨a, xs, rfl, .inl (r.same.seq g1), ?_⟩
  rw [g2.length]; exact .now r (.int _) q
theorem wc_len_tup {ds : List D} (q : Q (.int ds.length) μ) : WC Γ (.builtin "len") [.tup ds] μ Q := fun vs F H p r => by
  obtain ⟨a, xs, rfl, g1, g2⟩ := reps_tup1 p
  refine semC.mk (r := fun xs H Q => ∃ p ys, xs = [.ref p] ∧ (SqL Γ.K H p ys ∨ SqT Γ.K H p ys) ∧ Q (.int ys.length) H) (fun X hX => hX.K ▸ call_len_seq) ⟨a, xs, rfl, .inr (same_seqT r.same g1), ?_⟩
  rw [g2.length]; exact .now r (.int _) q
theorem reps_loc1 {K : PySem.W.Frag} {F : Hp} {vs : List V} {a : Addr} (h : Reps K F vs [.loc a]) : vs = [.ref a] := by
  cases h with | cons h t => cases h; cases t; rfl
theorem Rel.lstAt {K : PySem.W.Frag} {F H : Hp} (r : Rel K F H μ) {a : Addr} {ds : List D} (m : μ a = some (.lst ds)) : ∃ xs, H a = some (.lst xs) ∧ Reps K F xs ds := by
  obtain ⟨_, ho, hH, hr⟩ := r.mem a _ m
  cases hr with | lst h => exact ⟨_, hH, h⟩
theorem Rel.dctAt {K : PySem.W.Frag} {F H : Hp} (r : Rel K F H μ) {a : Addr} {ds : List (Key × D)} (m : μ a = some (.dct ds)) : ∃ xs, H a = some (.dK xs) ∧ KReps K F xs ds := by
  obtain ⟨_, ho, hH, hr⟩ := r.mem a _ m
  cases hr with | dct h => exact ⟨_, hH, h⟩
theorem wc_len_loc {a : Addr} {ds : List D} (m : μ a = some (.lst ds)) (q : Q (.int ds.length) μ) : WC Γ (.builtin "len") [.loc a] μ Q := fun vs F H p r => by
  obtain rfl := reps_loc1 p
  obtain ⟨xs, hH, g2⟩ := r.lstAt m
  refine semC.mk (r := fun xs H Q => ∃ p ys, xs = [.ref p] ∧ (SqL Γ.K H p ys ∨ SqT Γ.K H p ys) ∧ Q (.int ys.length) H) (fun X hX => hX.K ▸ call_len_seq) ⟨a, xs, rfl, .inl (SqL.of hH), ?_⟩
  rw [g2.length]; exact .now r (.int _) q
theorem wc_abs {i : Int} (q : Q (.int (if i < 0 then -i else i)) μ) : WC Γ (.builtin "abs") [.int i] μ Q := fun vs F H p r => by
  obtain rfl := reps_one p
  exact semC.mk (fun X hX => call_abs) ⟨i, rfl, .now r (.int _) q⟩
theorem wc_max2 {i j : Int} (q : Q (.int (if j > i then j else i)) μ) : WC Γ (.builtin "max") [.int i, .int j] μ Q := fun vs F H p r => by
  obtain rfl := reps_two p
  exact semC.mk (fun X hX => call_max2 hX.calm) ⟨i, j, rfl, .now r (.int _) q⟩
theorem wc_min2 {i j : Int} (q : Q (.int (if j < i then j else i)) μ) : WC Γ (.builtin "min") [.int i, .int j] μ Q := fun vs F H p r => by
  obtain rfl := reps_two p
  exact semC.mk (fun X hX => call_min2 hX.calm) ⟨i, j, rfl, .now r (.int _) q⟩
theorem wc_int {i : Int} (q : Q (.int i) μ) : WC Γ (.type "int") [.int i] μ Q := fun vs F H p r => by
  obtain rfl := reps_one p
  exact semC.mk (fun X hX => call_int1) (.inl ⟨i, rfl, .now r (.int _) q⟩)
theorem wc_intB {k : Bool} (q : Q (.int (if k then 1 else 0)) μ) : WC Γ (.type "int") [.bl k] μ Q := fun vs F H p r => by
  obtain ⟨v, rfl, g⟩ := reps1 p
  cases g
  exact semC.mk (fun X hX => call_int1) (.inr ⟨k, rfl, .now r (.int _) q⟩)
/-- a new list that no one changes -/
theorem post_lst {K : PySem.W.Frag} {F H : Hp} {xs : List V} {ds : List D} (r : Rel K F H μ) (h : Reps K F xs ds) (q : Q (.lst ds) μ) (p : Addr) (hp : H p = none) : Post K F H μ Q (.ref p) (L2.upd H p (.lst xs)) := by
  obtain ⟨r2, e2⟩ := r.layF hp (.lst xs)
  exact ⟨_, .lst ds, μ, r2, e2, .lst L2.upd_same (h.mono e2.fr), q⟩
theorem post_lstM {K : PySem.W.Frag} {F H : Hp} {xs : List V} {ds : List D} (r : Rel K F H μ) (h : Reps K F xs ds) (q : ∀ p, μ p = none → Q (.loc p) (μ.upd p (.lst ds))) (p : Addr) (hp : H p = none) : Post K F H μ Q (.ref p) (L2.upd H p (.lst xs)) := by
  obtain ⟨r2, e2⟩ := r.layM hp (.lst h)
  exact ⟨_, .loc p, _, r2, e2, .loc p, q p (r.fresh hp).2⟩
theorem post_tup {K : PySem.W.Frag} {F H : Hp} {xs : List V} {ds : List D} (r : Rel K F H μ) (h : Reps K F xs ds) (q : Q (.tup ds) μ) (p : Addr) (hp : H p = none) : Post K F H μ Q (.ref p) (L2.upd H p (.tup xs)) := by
  obtain ⟨r2, e2⟩ := r.layF hp (.tup xs)
  exact ⟨_, .tup ds, μ, r2, e2, .tup (.inl (.inl L2.upd_same)) (h.mono e2.fr), q⟩
/-- a sequence that may be read: its items -/
def SeqD (μ : Mem) (d : D) (ds : List D) : Prop := d = .lst ds ∨ d = .tup ds ∨ ∃ a, d = .loc a ∧ μ a = some (.lst ds)
theorem seqD_at {K : PySem.W.Frag} {F H : Hp} {d : D} {ds : List D} {v : V} (s : SeqD μ d ds) (r : Rel K F H μ) (p : Rep K F v d) : ∃ a xs, v = .ref a ∧ (SqL K H a xs ∨ SqT K H a xs) ∧ Reps K F xs ds := by
  rcases s with rfl | rfl | ⟨a, rfl, m⟩
  · cases p with | lst g1 g2 => exact ⟨_, _, rfl, .inl (SqL.of (r.same _ _ g1)), g2⟩
  · cases p with | tup g1 g2 => exact ⟨_, _, rfl, .inr (same_seqT r.same g1), g2⟩
  · cases p
    obtain ⟨xs, hH, g⟩ := r.lstAt m
    exact ⟨a, xs, rfl, .inl (SqL.of hH), g⟩
theorem wc_list {d : D} {ds : List D} (s : SeqD μ d ds) (q : Q (.lst ds) μ) : WC Γ (.type "list") [d] μ Q := fun vs F H p r => by
  obtain ⟨v, rfl, g⟩ := reps1 p
  obtain ⟨a, xs, rfl, g1, g2⟩ := seqD_at s r g
  exact semC.mk (r := fun xs H Q => ∃ p ys, xs = [.ref p] ∧ (SqL Γ.K H p ys ∨ SqT Γ.K H p ys) ∧ ∀ l, H l = none → Q (.ref l) (L2.upd H l (.lst ys))) (fun X hX => hX.K ▸ call_list_of) ⟨a, xs, rfl, g1, post_lst r g2 q⟩
theorem wc_listM {d : D} {ds : List D} (s : SeqD μ d ds) (q : ∀ p, μ p = none → Q (.loc p) (μ.upd p (.lst ds))) : WC Γ (.type "list") [d] μ Q := fun vs F H p r => by
  obtain ⟨v, rfl, g⟩ := reps1 p
  obtain ⟨a, xs, rfl, g1, g2⟩ := seqD_at s r g
  exact semC.mk (r := fun xs H Q => ∃ p ys, xs = [.ref p] ∧ (SqL Γ.K H p ys ∨ SqT Γ.K H p ys) ∧ ∀ l, H l = none → Q (.ref l) (L2.upd H l (.lst ys))) (fun X hX => hX.K ▸ call_list_of) ⟨a, xs, rfl, g1, post_lstM r g2 q⟩
theorem wc_tuple {d : D} {ds : List D} (s : SeqD μ d ds) (q : Q (.tup ds) μ) : WC Γ (.type "tuple") [d] μ Q := fun vs F H p r => by
  obtain ⟨v, rfl, g⟩ := reps1 p
  refine semC.mk (r := fun xs H Q => ∃ p ys, xs = [.ref p] ∧ ((SqL Γ.K H p ys ∧ ∀ l, H l = none → Q (.ref l) (L2.upd H l (.tup ys))) ∨ (SqT Γ.K H p ys ∧ Q (.ref p) H))) (fun X hX => hX.K ▸ call_tuple_of) ?_
  rcases s with rfl | rfl | ⟨a, rfl, m⟩
  · cases g with | lst g1 g2 => exact ⟨_, _, rfl, .inl ⟨SqL.of (r.same _ _ g1), post_tup r g2 q⟩⟩
  · cases g with | tup g1 g2 => exact ⟨_, _, rfl, .inr ⟨same_seqT r.same g1, .now r (.tup g1 g2) q⟩⟩
  · cases g
    obtain ⟨xs, hH, g⟩ := r.lstAt m
    exact ⟨a, xs, rfl, .inl ⟨SqL.of hH, post_tup r g q⟩⟩
/-- sorted(ints) -/
theorem wc_sortedI {d : D} {ns : List Int} (s : d = .lst (ns.map D.int) ∨ ∃ a, d = .loc a ∧ μ a = some (.lst (ns.map D.int))) (q : ∀ ms : List Int, ms.Perm ns → ms.Pairwise (· ≤ ·) → Q (.lst (ms.map D.int)) μ) : WC Γ (.builtin "sorted") [d] μ Q := fun vs F H p r => by
  obtain ⟨v, rfl, g⟩ := reps1 p
  obtain ⟨a, xs, rfl, g1, g2⟩ : ∃ a xs, v = V.ref a ∧ SqL Γ.K H a xs ∧ Reps Γ.K F xs (ns.map D.int) := by
    rcases s with rfl | ⟨a, rfl, m⟩
    · cases g with | lst g1 g2 => exact ⟨_, _, rfl, SqL.of (r.same _ _ g1), g2⟩
    · cases g
      obtain ⟨xs, hH, g⟩ := r.lstAt m
      exact ⟨a, xs, rfl, SqL.of hH, g⟩
  obtain rfl := Reps.ints ns g2
  exact semC.mk (r := rSortedI Γ.K) (fun X hX => hX.K ▸ cr_sortedI) ⟨a, ns, rfl, g1, fun ms p h1 h2 hp => post_lst r (Reps.of_ints ms) (q ms h1 h2) p hp⟩
theorem wc_all {d : D} {bs : List Bool} (s : d = .lst (bs.map D.bl)) (q : Q (.bl (bs.all id)) μ) : WC Γ (.builtin "all") [d] μ Q := fun vs F H p r => by
  subst s
  obtain ⟨a, xs, rfl, g1, g2⟩ := reps_lst1 p
  obtain rfl := Reps.bls bs g2
  exact semC.mk (r := rAll Γ.K) (fun X hX => hX.K ▸ cr_all hX.calm) ⟨a, bs, rfl, r.same.seq g1, .now r (.bl _) q⟩
theorem wc_any {d : D} {bs : List Bool} (s : d = .lst (bs.map D.bl)) (q : Q (.bl (bs.any id)) μ) : WC Γ (.builtin "any") [d] μ Q := fun vs F H p r => by
  subst s
  obtain ⟨a, xs, rfl, g1, g2⟩ := reps_lst1 p
  obtain rfl := Reps.bls bs g2
  exact semC.mk (r := rAny Γ.K) (fun X hX => hX.K ▸ cr_any hX.calm) ⟨a, bs, rfl, r.same.seq g1, .now r (.bl _) q⟩
theorem wc_maxL {d : D} {ns : List Int} (s : d = .lst (ns.map D.int)) (h0 : 0 < ns.length) (q : ∀ m, m ∈ ns → (∀ y, y ∈ ns → y ≤ m) → Q (.int m) μ) : WC Γ (.builtin "max") [d] μ Q := fun vs F H p r => by
  subst s
  obtain ⟨a, xs, rfl, g1, g2⟩ := reps_lst1 p
  obtain rfl := Reps.ints ns g2
  exact semC.mk (r := rMax Γ.K) (fun X hX => hX.K ▸ cr_max hX.calm) ⟨a, ns, rfl, r.same.seq g1, h0, fun m h1 h2 => .now r (.int _) (q m h1 h2)⟩
theorem wc_minL {d : D} {ns : List Int} (s : d = .lst (ns.map D.int)) (h0 : 0 < ns.length) (q : ∀ m, m ∈ ns → (∀ y, y ∈ ns → m ≤ y) → Q (.int m) μ) : WC Γ (.builtin "min") [d] μ Q := fun vs F H p r => by
  subst s
  obtain ⟨a, xs, rfl, g1, g2⟩ := reps_lst1 p
  obtain rfl := Reps.ints ns g2
  exact semC.mk (r := rMin Γ.K) (fun X hX => hX.K ▸ cr_min hX.calm) ⟨a, ns, rfl, r.same.seq g1, h0, fun m h1 h2 => .now r (.int _) (q m h1 h2)⟩
/-- the built-in type of a value -/
def tyD : D → Option String
  | .non => some "NoneType" | .bl _ => some "bool" | .int _ => some "int" | .str _ => some "str" | .tup _ => some "tuple" | .lst _ => some "list" | _ => none
theorem tyX_of {K : PySem.W.Frag} {F H : Hp} {d : D} {v : V} {T : String} (h : tyD d = some T) (r : Rel K F H μ) (p : Rep K F v d) : TyX K H v (.type T) := by
  cases p <;> simp [tyD] at h <;> subst h
  · exact .base .non
  · exact .base (.bl _)
  · exact .base (.int _)
  · exact .base (.str _)
  · rename_i a xs ds h1 h2
    rcases same_seqT r.same h1 with (z | ⟨o, z⟩) | ⟨o, its, n, z, c, _⟩
    · exact .base (.tup z)
    · exact .fTuple z
    · exact .kTuple z c
  · rename_i a xs ds h1 h2
    exact .base (.lst (r.same _ _ h1))
theorem wc_isi {d : D} {T n : String} {k : Bool} (h : tyD d = some T) (e : kitB T n = some k) (q : Q (.bl k) μ) : WC Γ (.builtin "isinstance") [d, .ty n] μ Q := fun vs F H p r => by
  obtain ⟨v, w, rfl, g1, g2⟩ := reps2 p
  cases g2
  exact semC.mk (r := rIsi Γ.K) (fun X hX => hX.K ▸ call_isi) ⟨v, .ty n, .type T, .type n, k, rfl, .ty n, tyX_of h r g1, kit_ty e, .now r (.bl _) q⟩
theorem wc_sum {d : D} {ns : List Int} (s : d = .lst (ns.map D.int)) (q : Q (.int ns.sum) μ) : WC Γ (.builtin "sum") [d] μ Q := fun vs F H p r => by
  subst s
  obtain ⟨a, xs, rfl, g1, g2⟩ := reps_lst1 p
  obtain rfl := Reps.ints ns g2
  exact semC.mk (r := rSum Γ.K) (fun X hX => hX.K ▸ cr_sum hX.calm) ⟨a, ns, rfl, r.same.seq g1, .now r (.int _) q⟩

/-! ### methods of lists that change -/
theorem wm_append {a : Addr} {ds : List D} {d : D} (m : μ a = some (.lst ds)) (hl : ds.length < sizeLine) (q : Q .non (μ.upd a (.lst (ds ++ [d])))) : WM Γ "list.append" (.loc a) [d] μ Q := fun v vs F H p ps r => by
  cases p
  obtain ⟨u, rfl, g⟩ := reps1 ps
  obtain ⟨xs, hH, gx⟩ := r.lstAt m
  obtain ⟨r2, e2⟩ := r.put m (.lst (gx.append (.cons g .nil)))
  exact semM.mk (r := rAppend) (fun X hX => mt_append) ⟨a, xs, u, rfl, rfl, hH, by rw [gx.length]; exact hl, F, .non, _, r2, e2, .non, q⟩
theorem wm_extend {a : Addr} {ds es : List D} (m : μ a = some (.lst ds)) (hl : ds.length + es.length ≤ sizeLine) (q : Q .non (μ.upd a (.lst (ds ++ es)))) : WM Γ "list.extend" (.loc a) [.lst es] μ Q := fun v vs F H p ps r => by
  cases p
  obtain ⟨u, rfl, g⟩ := reps1 ps
  obtain ⟨xs, hH, gx⟩ := r.lstAt m
  obtain ⟨b, ys, rfl, hb, gy⟩ : ∃ b ys, u = V.ref b ∧ H b = some (.lst ys) ∧ Reps Γ.K F ys es := by
    cases g with | lst g1 g2 => exact ⟨_, _, rfl, r.same _ _ g1, g2⟩
  obtain ⟨r2, e2⟩ := r.put m (.lst (gx.append gy))
  exact semM.mk (r := rExtend) (fun X hX => mt_extend) ⟨a, b, xs, ys, rfl, rfl, hH, hb, by rw [gx.length, gy.length]; exact hl, F, .non, _, r2, e2, .non, q⟩
theorem wm_popAt {a : Addr} {ds : List D} {i : Int} {k : Nat} {d : D} (m : μ a = some (.lst ds)) (h1 : -(2 ^ 63) ≤ i ∧ i < 2 ^ 63) (h2 : seqIndex? i ds.length = some k) (h3 : ds[k]? = some d) (q : Q d (μ.upd a (.lst (ds.eraseIdx k)))) : WM Γ "list.pop" (.loc a) [.int i] μ Q := fun v vs F H p ps r => by
  cases p
  obtain rfl := reps_one ps
  obtain ⟨xs, hH, gx⟩ := r.lstAt m
  obtain ⟨w, e1, g⟩ := gx.get h3
  obtain ⟨r2, e2⟩ := r.put m (.lst (gx.eraseIdx k))
  exact semM.mk (r := rPopAt) (fun X hX => mt_popAt) ⟨a, xs, i, k, w, rfl, rfl, hH, h1.1, h1.2, by rw [gx.length]; exact h2, e1, F, d, _, r2, e2, g, q⟩
end
end DL
namespace DL
open PySem L2

/-! ### slices -/
def cutD {α : Type} (xs : List α) (lo hi : Option Int) : List α := (xs.drop (HT.sIx xs.length 0 lo)).take (HT.sIx xs.length xs.length hi - HT.sIx xs.length 0 lo)
theorem Reps.cut {K : PySem.W.Frag} {F : Hp} {vs : List V} {ds : List D} (h : Reps K F vs ds) (lo hi : Option Int) : Reps K F (cutV vs lo hi) (cutD ds lo hi) := by
  unfold cutV cutD
  rw [h.length]
  exact (h.drop _).take _
theorem cutD_map {α β : Type} (f : α → β) (xs : List α) (lo hi : Option Int) : cutD (xs.map f) lo hi = (cutD xs lo hi).map f := by
  unfold cutD; rw [List.length_map, ← List.map_drop, ← List.map_take]
def semP (Γ : Gam) (e : Option Expr) : TO := fun σ H Q => ∃ (t : TO) (Q0 : Option Int → Hp → Prop), (∀ X, Γ.ok X → PO X e t) ∧ t σ H Q0 ∧ ∀ v H', Q0 v H' → Q v H'
theorem po_sem {Γ : Gam} {X : Cx} (hX : Γ.ok X) (e : Option Expr) : PO X e (semP Γ e) := ⟨fun pins s σ H Q I ⟨t, Q0, h, ht, hq⟩ =>
  thn ((h X hX).run pins s σ H Q0 I ht) fun _ _ ⟨o, H', I', r, q⟩ => ⟨o, H', I', r, hq _ _ q⟩⟩
def WP (Γ : Gam) (e : Option Expr) (ρ : Rho) (μ : Mem) (Q : Option Int → Mem → Prop) : Prop := ∀ σ F H, Slots Γ.K F σ ρ → Rel Γ.K F H μ → semP Γ e σ H fun o H' => ∃ F' μ', Rel Γ.K F' H' μ' ∧ Ext F H μ F' H' μ' ∧ Q o μ'
def semSlx (Γ : Gam) : V → Option Int → Option Int → Hp → VK → Prop := semSl Γ
theorem sl_sem {Γ : Gam} {X : Cx} (hX : Γ.ok X) : SlR X (semSl Γ) := fun pins s σ H x v vl vu lo hi sl Q I rx hs pl pu ⟨r, Q0, h, hr, hq⟩ => by
  obtain ⟨T, id, h1, h2, h3⟩ := h X hX pins s σ H x v vl vu lo hi sl Q0 I rx hs pl pu hr
  exact ⟨T, id, h1, h2, thn h3 fun _ _ q => ep_mono hq q⟩
def WSl (Γ : Gam) (x : D) (lo hi : Option Int) (μ : Mem) (Q : D → Mem → Prop) : Prop := ∀ v F H, Rep Γ.K F v x → Rel Γ.K F H μ → semSl Γ v lo hi H (Post Γ.K F H μ Q)
section
variable {Γ : Gam} {ρ : Rho} {μ : Mem} {Q : D → Mem → Prop} {a b c e o : Expr} {es : List Expr} {pos p p2 : Pos} {x : Str} {D' : DEnds} {lo hi : Option Expr}
theorem wp_none {R : Option Int → Mem → Prop} (q : R none μ) : WP Γ none ρ μ R := fun σ F H s r => ⟨tNoPart, fun o H' => ∃ F' μ', Rel Γ.K F' H' μ' ∧ Ext F H μ F' H' μ' ∧ R o μ', fun X hX => po_none, ⟨F, μ, r, .refl _ _ _, q⟩, fun _ _ x => x⟩
theorem wp_some {R : Option Int → Mem → Prop} (h : WE Γ e ρ μ fun d μ1 => ∃ i, d = .int i ∧ R (some i) μ1) : WP Γ (some e) ρ μ R := fun σ F H s r =>
  ⟨tPart (semE Γ e), fun o H' => ∃ F' μ', Rel Γ.K F' H' μ' ∧ Ext F H μ F' H' μ' ∧ R o μ', fun X hX => po_some (pe_sem hX e), h.go s r fun v F1 H1 d μ1 r1 e1 s1 p1 q1 => by
    obtain ⟨i, rfl, q1⟩ := q1
    exact ⟨i, rep_int p1, F1, μ1, r1, e1, q1⟩, fun _ _ x => x⟩
theorem WP.go {R : Option Int → Mem → Prop} {S : Option Int → Hp → Prop} {σ : L2.St} {F H : Hp} (h : WP Γ lo ρ μ R) (s : Slots Γ.K F σ ρ) (r : Rel Γ.K F H μ)
    (k : ∀ o F1 H1 μ1, Rel Γ.K F1 H1 μ1 → Ext F H μ F1 H1 μ1 → Slots Γ.K F1 σ ρ → R o μ1 → S o H1) : semP Γ lo σ H S := by
  obtain ⟨t, Q0, h1, h2, h3⟩ := h σ F H s r
  refine ⟨t, Q0, h1, h2, fun o H' q => ?_⟩
  obtain ⟨F', μ', r', x, q⟩ := h3 o H' q
  exact k o F' H' μ' r' x (s.mono x.fr) q
theorem we_slice (h : WE Γ e ρ μ fun d μ1 => WP Γ lo ρ μ1 fun l μ2 => WP Γ hi ρ μ2 fun u μ3 => WSl Γ d l u μ3 Q) : WE Γ (.Subscript e (.Slice lo hi none p2) pos) ρ μ Q := fun σ F H s r =>
  semE.mk (fun X hX => pe_slice (sl_sem hX) (pe_sem hX e) (po_sem hX lo) (po_sem hX hi)) (h.go s r fun v F1 H1 d μ1 r1 e1 s1 p1 h1 => h1.go s1 r1 fun l F2 H2 μ2 r2 e2 s2 h2 => h2.go s2 r2 fun u F3 H3 μ3 r3 e3 s3 h3 => by
    obtain ⟨t, Q0, g1, g2, g3⟩ := h3 v F3 H3 ((p1.mono e2.fr).mono e3.fr) r3
    exact ⟨t, Q0, g1, g2, fun v H' q => (g3 v H' q).ext ((e1.trans e2).trans e3)⟩)
theorem wsl_lst {ds : List D} {l u : Option Int} (q : Q (.lst (cutD ds l u)) μ) : WSl Γ (.lst ds) l u μ Q := fun v F H p r => by
  cases p with
  | lst g1 g2 => exact ⟨rSlL Γ.K, _, fun X hX => hX.K ▸ sl_list, ⟨_, _, rfl, SqL.of (r.same _ _ g1), post_lst r (g2.cut l u) q⟩, fun _ _ x => x⟩
theorem wsl_lsr {ds : List D} {l u : Option Int} (q : Q (.lst (cutD ds l u)) μ) : WSl Γ (.lsr ds) l u μ Q := fun v F H p r => by
  cases p with
  | lsr g1 g2 => exact ⟨rSlL Γ.K, _, fun X hX => hX.K ▸ sl_list, ⟨_, _, rfl, r.same.seq g1, post_lst r (g2.cut l u) q⟩, fun _ _ x => x⟩
theorem wsl_loc {ds : List D} {a : Addr} {l u : Option Int} (m : μ a = some (.lst ds)) (q : Q (.lst (cutD ds l u)) μ) : WSl Γ (.loc a) l u μ Q := fun v F H p r => by
  cases p
  obtain ⟨xs, hH, g⟩ := r.lstAt m
  exact ⟨rSlL Γ.K, _, fun X hX => hX.K ▸ sl_list, ⟨_, _, rfl, SqL.of hH, post_lst r (g.cut l u) q⟩, fun _ _ x => x⟩
/-- .. as a new list that is to change -/
theorem wsl_lstM {d : D} {ds : List D} {l u : Option Int} (s : d = .lst ds ∨ ∃ a, d = .loc a ∧ μ a = some (.lst ds)) (q : ∀ p, μ p = none → Q (.loc p) (μ.upd p (.lst (cutD ds l u)))) : WSl Γ d l u μ Q := fun v F H p r => by
  rcases s with rfl | ⟨a, rfl, m⟩
  · cases p with
    | lst g1 g2 => exact ⟨rSlL Γ.K, _, fun X hX => hX.K ▸ sl_list, ⟨_, _, rfl, SqL.of (r.same _ _ g1), post_lstM r (g2.cut l u) q⟩, fun _ _ x => x⟩
  · cases p
    obtain ⟨xs, hH, g⟩ := r.lstAt m
    exact ⟨rSlL Γ.K, _, fun X hX => hX.K ▸ sl_list, ⟨_, _, rfl, SqL.of hH, post_lstM r (g.cut l u) q⟩, fun _ _ x => x⟩
theorem sIx_end {n : Nat} {hi : Option Int} (h : HT.sIx n n hi = n) {α : Type} (xs : List α) (hl : xs.length = n) {lo : Option Int} (h0 : HT.sIx n 0 lo = 0) : cutD xs lo hi = xs := by
  unfold cutD
  rw [hl, h, h0, Nat.sub_zero, ← hl, List.drop_zero, List.take_length]
theorem wsl_tup {ds : List D} {l u : Option Int} (q : Q (.tup (cutD ds l u)) μ) : WSl Γ (.tup ds) l u μ Q := fun v F H p r => by
  cases p with
  | @tup a xs _ g1 g2 =>
    refine ⟨rSlA Γ.K, _, fun X hX => hX.K ▸ sl_tupA, ⟨_, _, rfl, same_seqT r.same g1, fun w => ?_, fun w => post_tup r (g2.cut l u) q⟩, fun _ _ x => x⟩
    rw [g2.length] at w
    rw [sIx_end w.2 ds rfl w.1] at q
    exact .now r (.tup g1 g2) q
/-- xs[::-1] of a list -/
theorem we_revL {k : Nat} {p1 q2 p3 : Pos} (h : WE Γ e ρ μ fun d μ1 => ∃ ds, (d = .lst ds ∨ ∃ a, d = .loc a ∧ μ1 a = some (.lst ds)) ∧ Q (.lst ds.reverse) μ1) : WE Γ (.Subscript e (.Slice none none (some (.UnaryOp .USub (.Constant (.int 1) k p1) q2)) p3) pos) ρ μ Q := fun σ F H s r => by
  refine semE.mk (t := tRevL Γ.K (semE Γ e)) (fun X hX => ?_) (h.go s r fun v F1 H1 d μ1 r1 e1 s1 p1' h1 => ?_)
  · have := pe_revL (X := X) (k := k) (p1 := p1) (p2 := q2) (p3 := p3) (pos := pos) (pe_sem hX e)
    rw [hX.K] at this; exact this
  · obtain ⟨ds, hd, q⟩ := h1
    obtain ⟨a, xs, rfl, g1, g2⟩ : ∃ a xs, v = V.ref a ∧ SqL Γ.K H1 a xs ∧ Reps Γ.K F1 xs ds := by
      rcases hd with rfl | ⟨a, rfl, m⟩
      · cases p1' with | lst g1 g2 => exact ⟨_, _, rfl, SqL.of (r1.same _ _ g1), g2⟩
      · cases p1'
        obtain ⟨xs, hH, g⟩ := r1.lstAt m
        exact ⟨a, xs, rfl, SqL.of hH, g⟩
    exact ⟨a, xs, rfl, g1, fun p hp => Post.ext e1 (post_lst r1 g2.reverse q p hp)⟩

/-! ### list + list, tuple + tuple, in -/
theorem lst_at {K : PySem.W.Frag} {F H : Hp} {d : D} {ds : List D} {v : V} (hd : d = .lst ds ∨ ∃ a, d = .loc a ∧ μ a = some (.lst ds)) (r : Rel K F H μ) (p : Rep K F v d) : ∃ a xs, v = V.ref a ∧ H a = some (.lst xs) ∧ Reps K F xs ds := by
  rcases hd with rfl | ⟨a, rfl, m⟩
  · cases p with | lst g1 g2 => exact ⟨_, _, rfl, r.same _ _ g1, g2⟩
  · cases p
    obtain ⟨xs, hH, g⟩ := r.lstAt m
    exact ⟨a, xs, rfl, hH, g⟩
abbrev LstD (μ : Mem) (d : D) (ds : List D) : Prop := d = .lst ds ∨ ∃ a, d = .loc a ∧ μ a = some (.lst ds)
theorem wo_cat {x y : D} {ds es : List D} (hx : LstD μ x ds) (hy : LstD μ y es) (hl : ds.length + es.length ≤ sizeLine) (q : Q (.lst (ds ++ es)) μ) : WO Γ (binaryOp .Add) x y μ Q := fun v u F H p1 p2 r => by
  obtain ⟨a, xs, rfl, h1, g1⟩ := lst_at hx r p1
  obtain ⟨b, ys, rfl, h2, g2⟩ := lst_at hy r p2
  exact semO.mk (fun X _ => op_cat) ⟨a, b, xs, ys, rfl, rfl, h1, h2, by rw [g1.length, g2.length]; exact hl, post_lst r (g1.append g2) q⟩
theorem wo_catM {x y : D} {ds es : List D} (hx : LstD μ x ds) (hy : LstD μ y es) (hl : ds.length + es.length ≤ sizeLine) (q : ∀ p, μ p = none → Q (.loc p) (μ.upd p (.lst (ds ++ es)))) : WO Γ (binaryOp .Add) x y μ Q := fun v u F H p1 p2 r => by
  obtain ⟨a, xs, rfl, h1, g1⟩ := lst_at hx r p1
  obtain ⟨b, ys, rfl, h2, g2⟩ := lst_at hy r p2
  exact semO.mk (fun X _ => op_cat) ⟨a, b, xs, ys, rfl, rfl, h1, h2, by rw [g1.length, g2.length]; exact hl, post_lstM r (g1.append g2) q⟩
theorem Reps.nil_iff {K : PySem.W.Frag} {F : Hp} {vs : List V} {ds : List D} (h : Reps K F vs ds) : vs = [] ↔ ds = [] := by
  cases h <;> simp
theorem wo_catT {ds es : List D} (hl : ds.length + es.length ≤ sizeLine) (q : Q (.tup (ds ++ es)) μ) : WO Γ (binaryOp .Add) (.tup ds) (.tup es) μ Q := fun v u F H p1 p2 r => by
  cases p1 with
  | @tup a xs _ h1 g1 =>
    cases p2 with
    | @tup b ys _ h2 g2 =>
      refine semO.mk (r := rCatA Γ.K) (fun X hX => hX.K ▸ op_catA) ⟨a, b, xs, ys, rfl, rfl, same_seqT r.same h1, same_seqT r.same h2, by rw [g1.length, g2.length]; exact hl, fun z => ?_, fun z1 z2 => ?_, fun z1 z2 => post_tup r (g1.append g2) q⟩
      · have := g1.nil_iff.mp z; subst this
        exact .now r (.tup h2 g2) q
      · have := g2.nil_iff.mp z2; subst this
        rw [List.append_nil] at q
        exact .now r (.tup h1 g1) q
/-- flat items -/
def flD : D → Option V
  | .non => some .non | .bl b => some (.bl b) | .int i => some (.int i) | .str x => some (.str x) | _ => none
theorem wo_inI (neg : Bool) {op : CmpOp} (hop : (op = .In ∧ neg = false) ∨ (op = .NotIn ∧ neg = true)) {d : D} {i : Int} {ns : List Int} (s : SeqD μ d (ns.map D.int)) (q : Q (.bl (if neg then !decide (i ∈ ns) else decide (i ∈ ns))) μ) : WO Γ (compareOp op) (.int i) d μ Q := fun v u F H p1 p2 r => by
  cases p1
  obtain ⟨a, xs, rfl, g1, g2⟩ := seqD_at s r p2
  obtain rfl := Reps.ints ns g2
  have hin : inV (V.int i) (ns.map V.int) = decide (i ∈ ns) := by
    unfold inV
    rw [List.any_map]
    rw [Bool.eq_iff_iff]
    simp only [List.any_eq_true, decide_eq_true_eq, Function.comp]
    constructor
    · rintro ⟨x, h1, h2⟩
      have : x = i := by simpa [eqV] using h2
      rw [← this]; exact h1
    · intro h; exact ⟨i, h, by simp [eqV]⟩
  have hfl : (ns.map V.int).all flatV = true := by
    rw [List.all_eq_true]; intro x hx; obtain ⟨n, _, rfl⟩ := List.mem_map.mp hx; rfl
  rcases hop with ⟨rfl, rfl⟩ | ⟨rfl, rfl⟩
  · refine semO.mk (r := rIn Γ.K false) (fun X hX => hX.K ▸ op_in_seq) ⟨a, _, rfl, g1, rfl, hfl, ?_⟩
    rw [hin]; exact .now r (.bl _) q
  · refine semO.mk (r := rIn Γ.K true) (fun X hX => hX.K ▸ op_notIn_seq) ⟨a, _, rfl, g1, rfl, hfl, ?_⟩
    rw [hin]; exact .now r (.bl _) q

/-! ### == of data -/
mutual
def D.pd : D → PyData
  | .non => .none | .bl b => .bool b | .int i => .int i | .str x => .str x
  | .tup l => .tuple (D.pds l) | .lst l => .list (D.pds l) | .lsr l => .list (D.pds l)
  | .loc _ => .none | .ty _ => .none
def D.pds : List D → List PyData
  | [] => []
  | d :: ds => d.pd :: D.pds ds
end
mutual
/-- data through and through, of a small depth, its texts well made -/
def D.pure : Nat → D → Bool
  | _, .non => true | _, .bl _ => true | _, .int _ => true | _, .str x => PyData.strOk x
  | n + 1, .tup l => D.pures n l | n + 1, .lst l => D.pures n l
  | _, _ => false
def D.pures : Nat → List D → Bool
  | _, [] => true
  | n, d :: ds => D.pure n d && D.pures n ds
end
mutual
theorem D.dp {K : PySem.W.Frag} {F H : Hp} (s : Same F H) : ∀ (n : Nat) {d : D} {v : V}, d.pure n = true → Rep K F v d → Dp K H v d.pd
  | n, .non, _, _, .non => .non
  | n, .bl b, _, _, .bl _ => .bl b
  | n, .int i, _, _, .int _ => .int i
  | n, .str x, _, _, .str _ => .str x
  | n + 1, .tup l, _, h, .tup g1 g2 => by
    have h' : D.pures n l = true := by simpa [D.pure] using h
    exact .tup (same_seqT s g1) (D.dps s n h' g2)
  | n + 1, .lst l, _, h, .lst g1 g2 => by
    have h' : D.pures n l = true := by simpa [D.pure] using h
    exact .lst (SqL.of (s _ _ g1)) (D.dps s n h' g2)
  | 0, .tup l, _, h, _ => by simp [D.pure] at h
  | 0, .lst l, _, h, _ => by simp [D.pure] at h
  | n, .lsr l, _, h, _ => by cases n <;> simp [D.pure] at h
  | n, .loc l, _, h, _ => by cases n <;> simp [D.pure] at h
  | n, .ty l, _, h, _ => by cases n <;> simp [D.pure] at h
theorem D.dps {K : PySem.W.Frag} {F H : Hp} (s : Same F H) : ∀ (n : Nat) {ds : List D} {vs : List V}, D.pures n ds = true → Reps K F vs ds → DpAll K H vs (D.pds ds)
  | n, [], _, _, .nil => .nil
  | n, d :: ds, _, h, .cons g1 g2 => by
    have h' : d.pure n = true ∧ D.pures n ds = true := by simpa [D.pures] using h
    exact .cons (D.dp s n h'.1 g1) (D.dps s n h'.2 g2)
end
mutual
theorem D.lay : ∀ (n : Nat) (d : D), d.pure n = true → d.pd.canLay0 = true ∧ d.pd.depth ≤ n
  | n, .non, _ => ⟨rfl, by simp [D.pd, PyData.depth]⟩
  | n, .bl b, _ => ⟨rfl, by simp [D.pd, PyData.depth]⟩
  | n, .int i, _ => ⟨rfl, by simp [D.pd, PyData.depth]⟩
  | n, .str x, h => ⟨by cases n <;> simpa [D.pure, D.pd, PyData.canLay0] using h, by simp [D.pd, PyData.depth]⟩
  | n + 1, .tup l, h => by
    have h' : D.pures n l = true := by simpa [D.pure] using h
    obtain ⟨h1, h2⟩ := D.lays n l h'
    exact ⟨by simpa [D.pd, PyData.canLay0] using h1, by simp only [D.pd, PyData.depth]; omega⟩
  | n + 1, .lst l, h => by
    have h' : D.pures n l = true := by simpa [D.pure] using h
    obtain ⟨h1, h2⟩ := D.lays n l h'
    exact ⟨by simpa [D.pd, PyData.canLay0] using h1, by simp only [D.pd, PyData.depth]; omega⟩
  | 0, .tup l, h => by simp [D.pure] at h
  | 0, .lst l, h => by simp [D.pure] at h
  | n, .lsr l, h => by cases n <;> simp [D.pure] at h
  | n, .loc l, h => by cases n <;> simp [D.pure] at h
  | n, .ty l, h => by cases n <;> simp [D.pure] at h
theorem D.lays : ∀ (n : Nat) (ds : List D), D.pures n ds = true → PyData.canLayAll0 (D.pds ds) = true ∧ PyData.depthAll (D.pds ds) ≤ n
  | n, [], _ => ⟨rfl, by simp [D.pds, PyData.depthAll]⟩
  | n, d :: ds, h => by
    have h' : d.pure n = true ∧ D.pures n ds = true := by simpa [D.pures] using h
    obtain ⟨h1, h2⟩ := D.lay n d h'.1
    obtain ⟨h3, h4⟩ := D.lays n ds h'.2
    exact ⟨by simp [D.pds, PyData.canLayAll0, h1, h3], by simp only [D.pds, PyData.depthAll]; omega⟩
end
theorem D.shaped {d : D} {n : Nat} (h : d.pure n = true) (hn : n ≤ 64) : SeqAt.shaped d.pd = true := by
  obtain ⟨h1, h2⟩ := D.lay n d h
  unfold SeqAt.shaped
  rw [h1, Bool.true_and]
  exact decide_eq_true (by omega)
theorem Gam.ok.u64 {X : Cx} (hX : Γ.ok X) : X.A.units + 64 < cLine := hX.room.units
theorem wo_eqD {d e : D} {n : Nat} (h1 : d.pure n = true) (h2 : e.pure n = true) (hn : n ≤ 64 := by decide) (q : Q (.bl (PyData.eqv d.pd e.pd)) μ) : WO Γ (compareOp .Eq) d e μ Q := fun v u F H p1 p2 r =>
  semO.mk (r := rEqD Γ.K) (fun X hX => hX.K ▸ op_eqD hX.u64) ⟨d.pd, e.pd, D.dp r.same n h1 p1, D.dp r.same n h2 p2, D.shaped h1 hn, D.shaped h2 hn, .now r (.bl _) q⟩
theorem wo_neD {d e : D} {n : Nat} (h1 : d.pure n = true) (h2 : e.pure n = true) (hn : n ≤ 64 := by decide) (q : Q (.bl (!PyData.eqv d.pd e.pd)) μ) : WO Γ (compareOp .NotEq) d e μ Q := fun v u F H p1 p2 r =>
  semO.mk (r := rNeD Γ.K) (fun X hX => hX.K ▸ op_neD hX.u64) ⟨d.pd, e.pd, D.dp r.same n h1 p1, D.dp r.same n h2 p2, D.shaped h1 hn, D.shaped h2 hn, .now r (.bl _) q⟩
mutual
theorem eqv_refl : ∀ (n : Nat) (d : D), d.pure n = true → PyData.eqv d.pd d.pd = true
  | n, .non, _ => by simp [D.pd, PyData.eqv]
  | n, .bl b, _ => by simp [D.pd, PyData.eqv]
  | n, .int i, _ => by simp [D.pd, PyData.eqv]
  | n, .str x, h => by simp [D.pd, PyData.eqv]
  | n + 1, .tup l, h => by
    have h' : D.pures n l = true := by simpa [D.pure] using h
    simp only [D.pd, PyData.eqv]; exact eqv_refls n l h'
  | n + 1, .lst l, h => by
    have h' : D.pures n l = true := by simpa [D.pure] using h
    simp only [D.pd, PyData.eqv]; exact eqv_refls n l h'
  | 0, .tup l, h => by simp [D.pure] at h
  | 0, .lst l, h => by simp [D.pure] at h
  | n, .lsr l, h => by cases n <;> simp [D.pure] at h
  | n, .loc l, h => by cases n <;> simp [D.pure] at h
  | n, .ty l, h => by cases n <;> simp [D.pure] at h
theorem eqv_refls : ∀ (n : Nat) (ds : List D), D.pures n ds = true → PyData.eqvAll (D.pds ds) (D.pds ds) = true
  | n, [], _ => by simp [D.pds, PyData.eqvAll]
  | n, d :: ds, h => by
    have h' : d.pure n = true ∧ D.pures n ds = true := by simpa [D.pures] using h
    simp [D.pds, PyData.eqvAll, eqv_refl n d h'.1, eqv_refls n ds h'.2]
end

/-! ### stores to lists -/
/-- xs[i] = v -/
theorem ws_putL {pos' : Pos} {i : Expr} (hs : ∀ env, swapsWithSole [Expr.Subscript o i pos'] e pos.line env = pure false := by intro _; rfl) (hw : ∀ env, swappedStores [Expr.Subscript o i pos'] e env = pure none := by intro _; rfl)
    (h1 : ∀ env, (assignEach [Expr.Subscript o i pos'] env).map (·.2) = [assign (Expr.Subscript o i pos') env] := by intro _; rfl)
    (ha : ∀ env v, assign (.Subscript o i pos') env v = (do
      let ov ← holding [v] (eval o env)
      let iv ← holding [v, ov] (eval i env)
      standAt pos'
      holding [v, ov, iv] (setItem ov iv v)
      release [v, ov, iv] []) := by intros; rfl)
    (h : WE Γ e ρ μ fun d μ1 => WE Γ o ρ μ1 fun od μ2 => WE Γ i ρ μ2 fun id μ3 => ∃ a ds k j, od = .loc a ∧ id = .int k ∧ μ3 a = some (.lst ds) ∧ ixN ds.length k = some j ∧ D'.nx ρ (μ3.upd a (.lst (ds.set j d)))) : WS Γ (.Assign [.Subscript o i pos'] e pos) ρ μ D' := fun σ F H s r =>
  semS.mk (t := tAsg (semE Γ e) (gSub (semE Γ o) (semE Γ i) rSetL)) (fun X hX => ps_asg (pe_sem hX e) (pg_sub (pe_sem hX o) (pe_sem hX i) set_list (ha _)) (hs _) (hw _) (h1 _)) (h.go s r fun v F1 H1 d μ1 r1 e1 s1 p1 h1 => h1.go s1 r1 fun ov F2 H2 od μ2 r2 e2 s2 p2 h2 => h2.go s2 r2 fun iv F3 H3 id μ3 r3 e3 s3 p3 h3 => by
    obtain ⟨a, ds, k, j, rfl, rfl, m, hj, q⟩ := h3
    cases p2; cases p3
    obtain ⟨xs, hH, g⟩ := r3.lstAt m
    obtain ⟨r4, e4⟩ := r3.put m (.lst (g.set ((p1.mono e2.fr).mono e3.fr) j))
    exact ⟨a, xs, k, j, rfl, rfl, hH, by rw [g.length]; exact hj, F3, ρ, _, s3, r4, ((e1.trans e2).trans e3).trans e4, q⟩)
theorem pget_list {X : Cx} : PGet X (fun o i H Q => ∃ p xs k v, o = .ref p ∧ i = .int k ∧ H p = some (.lst xs) ∧ 0 ≤ k ∧ xs[k.toNat]? = some v ∧ Q v H) := by
  intro pins s σ H o i ov iv Q I ro ri h
  obtain ⟨p, xs, k, v, rfl, rfl, hp, h0, hv, q⟩ := h
  cases ro
  obtain ⟨t, rfl⟩ := ri
  obtain ⟨its, r, pl, hz⟩ := I.list (SqL.of (K := X.K) hp)
  obtain ⟨u, hu, ru⟩ := r.get hv
  have hlt := (List.getElem?_eq_some_iff.mp hv).1
  have hn := line63
  exact wpAny_getItem_list pl.isList h0 (by omega) (by simpa using hu) ⟨v, H, I, ru, q⟩
/-- xs[i] += n, ints -/
theorem ws_augL {i : Expr} {tpos : Pos} {op : Operator} {f : Int → Int → Int} (ho : ∀ X : Cx, PIp X op (ipI f)) (ha : ∀ ov iv new, augStore i ov iv new = (do holding [new, ov, iv] (setItem ov iv new); release [new, ov, iv] []; pure .next) := by intros; rfl)
    (h : WE Γ o ρ μ fun od μ1 => WE Γ i ρ μ1 fun id μ2 => ∃ a ds k m, od = .loc a ∧ id = .int k ∧ μ2 a = some (.lst ds) ∧ 0 ≤ k ∧ ds[k.toNat]? = some (.int m) ∧
      WE Γ e ρ μ2 fun d μ3 => ∃ n ds, d = .int n ∧ μ3 a = some (.lst ds) ∧ k < ds.length ∧ D'.nx ρ (μ3.upd a (.lst (ds.set k.toNat (.int (f m n)))))) : WS Γ (.AugAssign (.Subscript o i tpos) op e pos) ρ μ D' := fun σ F H s r =>
  semS.mk (fun X hX => ps_augS (pe_sem hX o) (pe_sem hX i) pget_list (pe_sem hX e) (ho X) set_list ha) (h.go s r fun ov F1 H1 od μ1 r1 e1 s1 p1 h1 => h1.go s1 r1 fun iv F2 H2 id μ2 r2 e2 s2 p2 h2 => by
    obtain ⟨a, ds, k, m, rfl, rfl, hm, h0, hk, h2⟩ := h2
    cases p1; cases p2
    obtain ⟨xs, hH, g⟩ := r2.lstAt hm
    obtain ⟨w, hw, gw⟩ := g.get hk
    cases gw
    refine ⟨a, xs, k, .int m, rfl, rfl, hH, h0, hw, h2.go s2 r2 fun v F3 H3 d μ3 r3 e3 s3 p3 h3 => ?_⟩
    obtain ⟨n, ds', rfl, hm', hlt, q⟩ := h3
    cases p3
    obtain ⟨xs', hH', g'⟩ := r3.lstAt hm'
    obtain ⟨r4, e4⟩ := r3.put hm' (.lst (g'.set (.int (f m n)) k.toNat))
    refine ⟨m, n, rfl, rfl, a, xs', k, k.toNat, rfl, rfl, hH', ?_, F3, ρ, _, s3, r4, ((e1.trans e2).trans e3).trans e4, q⟩
    unfold ixN
    rw [if_pos h0, g'.length, if_pos hlt])
end
end DL
namespace DL
open PySem L2
theorem bt_int : bootBuiltins "int" = some (.type "int") := by decide +kernel
theorem bt_list : bootBuiltins "list" = some (.type "list") := by decide +kernel
theorem bt_tuple : bootBuiltins "tuple" = some (.type "tuple") := by decide +kernel
theorem bt_bool : bootBuiltins "bool" = some (.type "bool") := by decide +kernel
theorem bt_set : bootBuiltins "set" = some (.type "set") := by decide +kernel
theorem bt_len : bootBuiltins "len" = some (.builtin "len") := by decide +kernel
theorem bt_abs : bootBuiltins "abs" = some (.builtin "abs") := by decide +kernel
theorem bt_min : bootBuiltins "min" = some (.builtin "min") := by decide +kernel
theorem bt_max : bootBuiltins "max" = some (.builtin "max") := by decide +kernel
theorem bt_sum : bootBuiltins "sum" = some (.builtin "sum") := by decide +kernel
theorem bt_all : bootBuiltins "all" = some (.builtin "all") := by decide +kernel
theorem bt_any : bootBuiltins "any" = some (.builtin "any") := by decide +kernel
theorem bt_sorted : bootBuiltins "sorted" = some (.builtin "sorted") := by decide +kernel
theorem bt_isinstance : bootBuiltins "isinstance" = some (.builtin "isinstance") := by decide +kernel
theorem sz1000 {n : Nat} (h : n ≤ 1000) : n ≤ sizeLine := Nat.le_of_lt (small1000 h)
theorem szb {n : Nat} (h : Nat.ble n 1000 = true) : n ≤ sizeLine := sz1000 (Nat.le_of_ble_eq_true h)
theorem szM {n : Nat} (h : n ≤ 16000000) : n ≤ sizeLine := by rw [sizeLine_eq]; omega

section
variable {Γ : Gam} {ρ : Rho} {μ : Mem} {Q : D → Mem → Prop} {a b c e elt tg iter o i : Expr} {es ifs : List Expr} {pos p tpos apos cpos : Pos} {x : Str} {R : List D → Mem → Prop} {D' : DEnds} {body sts : List Stmt} {scope : Scope}
/-- what is known of a slot may be forgotten -/
theorem wss_forget (i : Nat) (h : WSs Γ sts (ρ.set i none) μ D') : WSs Γ sts ρ μ D' := fun σ F H s r => h σ F H (by
  refine ⟨by rw [List.length_set]; exact s.len, fun j d q => ?_⟩
  by_cases hj : i = j
  · subst hj
    by_cases hl : i < ρ.length
    · rw [List.getElem?_set_self hl] at q; cases q
    · rw [List.getElem?_eq_none (by rw [List.length_set]; omega)] at q; cases q
  · rw [List.getElem?_set_ne hj] at q
    exact s.at_ j d q) r
/-- y = [..], y a cell -/
theorem sw_cell {elt : Expr} {gs : List Comprehension} {scope : Scope} {pos py : Pos} {y : Str} {l : Nat} {env : Env} (hy : env.scope.names.lookup y = some .cell) : swapsWith (.ListComp elt gs scope pos) (some (.Name y py)) l env = pure false := by
  have ky : env.kindOf y = some .cell := hy
  unfold swapsWith
  simp only [ky]
  show (pure _ : Sem Bool) = _
  congr 1
  have : ((some NameKind.cell == some NameKind.local) : Bool) = false := rfl
  rw [this]
  simp
theorem ws_setC (i : Nat) {py spos : Pos} {gs : List Comprehension} (hN : Γ.N[i]? = some x := by rfl) (hl : Γ.sc.names.lookup x = some .cell := by rfl) (hf : Γ.fn x = true := by rfl)
    (h : WE Γ (.ListComp elt gs scope pos) ρ μ fun d μ1 => D'.nx (ρ.set i (some d)) μ1) : WS Γ (.Assign [.Name x py] (.ListComp elt gs scope pos) spos) ρ μ D' := fun σ F H s r =>
  semS.mk (t := tAsg (semE Γ (.ListComp elt gs scope pos)) (gName i)) (fun X hX => ps_set hX.nd (hX.nm hN) (hX.loc (.inr hl)) (pe_sem hX _) (sw_cell (by rw [hX.sc]; exact hl)) (hX.st2 ⟨.inr hl, .inl hf⟩)) (h.go s r fun v F1 H1 d μ1 r1 e1 s1 p1 q1 => ⟨F1, _, μ1, s1.set i p1, r1, e1, q1⟩)

/-- a comprehension that makes data of data -/
theorem LcHyp.fm {α : Type} {vs : List Nat} {P : List D → Mem → Prop} (xs : List α) (enc : α → D) (t : α → Bool) (g : α → D) (ix : List Nat) (hix : ∀ j ∈ ix, j ∈ vs) (hsz : xs.length ≤ sizeLine)
    (step : ∀ (x : α) (i : Nat), xs[i]? = some x → WGi (Γ.blk scope) ix tg (enc x) (wipeD ρ vs) μ fun ρ2 μ2 => WTs (Γ.blk scope) ifs ρ2 μ2 fun b μ3 => b = t x ∧ μ3 = μ ∧ (t x = true → WE (Γ.blk scope) elt ρ2 μ fun y μ4 => y = g x ∧ μ4 = μ))
    (done : P ((xs.filter t).map g) μ) : LcHyp Γ ρ tg elt ifs scope vs P (xs.map enc) μ := by
  refine ⟨by rw [List.length_map]; exact hsz, ix, fun i acc μ' => μ' = μ ∧ acc = ((xs.take i).filter t).map g, hix, ⟨rfl, by simp⟩, ?_, ?_⟩
  · rintro i d acc μ' hd ⟨rfl, rfl⟩
    rw [List.getElem?_map] at hd
    cases hx : xs[i]? with
    | none => rw [hx] at hd; cases hd
    | some x =>
      rw [hx] at hd
      cases (Option.some.inj hd)
      intro v σ F H p s r
      refine (fun z => ?_) (step x i hx v σ F H p s r)
      obtain ⟨tt, Q0, h1, h2, h3⟩ := z
      refine ⟨tt, Q0, h1, h2, fun σ' H' q => ?_⟩
      obtain ⟨g1, F1, ρ1, μ1, s1, r1, e1, q1⟩ := h3 σ' H' q
      refine ⟨g1, F1, ρ1, μ1, s1, r1, e1, fun σ F H s r => ?_⟩
      obtain ⟨tt, Q0, h1, h2, h3⟩ := q1 σ F H s r
      refine ⟨tt, Q0, h1, h2, fun b H' q => ?_⟩
      obtain ⟨F2, μ2, r2, e2, rfl, rfl, q2⟩ := h3 b H' q
      refine ⟨F2, _, r2, e2, fun hb σ F H s r => ?_, fun hb => ⟨rfl, ?_⟩⟩
      · obtain ⟨tt, Q0, h1, h2, h3⟩ := q2 hb σ F H s r
        refine ⟨tt, Q0, h1, h2, fun v H' q => ?_⟩
        obtain ⟨F3, d, μ3, r3, e3, p3, rfl, rfl⟩ := h3 v H' q
        refine ⟨F3, _, _, r3, e3, p3, rfl, ?_⟩
        rw [List.take_add_one, hx]
        simp [hb]
      · rw [List.take_add_one, hx]
        simp [hb]
  · rintro acc μ' ⟨rfl, rfl⟩
    rw [List.length_map, List.take_length]
    exact done
theorem filter_true {α : Type} (xs : List α) : xs.filter (fun _ => true) = xs := by simp
theorem LcHyp.mp {α : Type} {vs : List Nat} {P : List D → Mem → Prop} (xs : List α) (enc : α → D) (g : α → D) (ix : List Nat) (hix : ∀ j ∈ ix, j ∈ vs) (hsz : xs.length ≤ sizeLine)
    (step : ∀ (x : α) (i : Nat), xs[i]? = some x → WGi (Γ.blk scope) ix tg (enc x) (wipeD ρ vs) μ fun ρ2 μ2 => WTs (Γ.blk scope) ifs ρ2 μ2 fun b μ3 => b = true ∧ μ3 = μ ∧ WE (Γ.blk scope) elt ρ2 μ fun y μ4 => y = g x ∧ μ4 = μ)
    (done : P (xs.map g) μ) : LcHyp Γ ρ tg elt ifs scope vs P (xs.map enc) μ := by
  refine LcHyp.fm xs enc (fun _ => true) g ix hix hsz (fun x i hx => ?_) (by rw [filter_true]; exact done)
  intro v σ F H p s r
  obtain ⟨tt, Q0, h1, h2, h3⟩ := step x i hx v σ F H p s r
  refine ⟨tt, Q0, h1, h2, fun σ' H' q => ?_⟩
  obtain ⟨g1, F1, ρ1, μ1, s1, r1, e1, q1⟩ := h3 σ' H' q
  refine ⟨g1, F1, ρ1, μ1, s1, r1, e1, fun σ F H s r => ?_⟩
  obtain ⟨tt, Q0, h1, h2, h3⟩ := q1 σ F H s r
  refine ⟨tt, Q0, h1, h2, fun b H' q => ?_⟩
  obtain ⟨F2, μ2, r2, e2, rfl, rfl, q2⟩ := h3 b H' q
  exact ⟨F2, _, r2, e2, rfl, rfl, fun _ => q2⟩

/-! ### dicts -/
def getA {α : Type} (kvs : List (Key × α)) (k : Key) : Option α := (kvs.find? fun kv => decide (kv.1 = k)).map (·.2)
def putA {α : Type} (kvs : List (Key × α)) (k : Key) (v : α) : List (Key × α) :=
  if (kvs.any fun kv => decide (kv.1 = k)) = true then kvs.map (fun kv => if kv.1 = k then (kv.1, v) else kv) else kvs ++ [(k, v)]
def dropA {α : Type} (kvs : List (Key × α)) (k : Key) : List (Key × α) := kvs.filter fun kv => decide (kv.1 ≠ k)
section
variable {K : PySem.W.Frag} {F : Hp}
theorem KReps.length : ∀ {a : List (Key × V)} {b : List (Key × D)}, KReps K F a b → a.length = b.length
  | _, _, .nil => rfl
  | _, _, .cons _ t => congrArg (· + 1) (KReps.length t)
theorem KReps.keys : ∀ {a : List (Key × V)} {b : List (Key × D)}, KReps K F a b → a.map (·.1) = b.map (·.1)
  | _, _, .nil => rfl
  | _, _, .cons _ t => by simp [KReps.keys t]
theorem KReps.none : ∀ {a : List (Key × V)} {b : List (Key × D)} {k : Key}, KReps K F a b → getA b k = none → valV a k = none
  | _, _, _, .nil, _ => rfl
  | _, _, k, .cons (k := k') r t, h => by
    unfold getA at h
    unfold valV
    rw [List.find?_cons] at h ⊢
    by_cases e : k' = k
    · simp [e] at h
    · simp only [e, decide_false] at h ⊢
      exact KReps.none t h
theorem KReps.some : ∀ {a : List (Key × V)} {b : List (Key × D)} {k : Key} {d : D}, KReps K F a b → getA b k = some d → ∃ v, valV a k = some v ∧ Rep K F v d
  | _, _, _, _, .nil, h => by cases h
  | _, _, k, d, .cons (k := k') r t, h => by
    unfold getA at h
    unfold valV
    rw [List.find?_cons] at h ⊢
    by_cases e : k' = k
    · simp only [e, decide_true, Option.map_some, Option.some.injEq] at h ⊢
      subst h
      exact ⟨_, rfl, r⟩
    · simp only [e, decide_false] at h ⊢
      exact KReps.some t h
theorem KReps.any {a : List (Key × V)} {b : List (Key × D)} {k : Key} (h : KReps K F a b) : (a.any fun kv => decide (kv.1 = k)) = b.any fun kv => decide (kv.1 = k) := by
  have e1 : (a.any fun kv => decide (kv.1 = k)) = (a.map (·.1)).any fun y => decide (y = k) := by rw [List.any_map]; rfl
  have e2 : (b.any fun kv => decide (kv.1 = k)) = (b.map (·.1)).any fun y => decide (y = k) := by rw [List.any_map]; rfl
  rw [e1, e2, h.keys]
theorem KReps.app : ∀ {a a' : List (Key × V)} {b b' : List (Key × D)}, KReps K F a b → KReps K F a' b' → KReps K F (a ++ a') (b ++ b')
  | _, _, _, _, .nil, s => s
  | _, _, _, _, .cons r t, s => .cons r (KReps.app t s)
theorem KReps.put {a : List (Key × V)} {b : List (Key × D)} {k : Key} {v : V} {d : D} (h : KReps K F a b) (r : Rep K F v d) : KReps K F (putK a k v) (putA b k d) := by
  unfold putK putA
  rw [h.any]
  split
  · rename_i hz
    clear hz
    induction h with
    | nil => exact .nil
    | @cons k' v' d' _ _ r' t ih =>
      rw [List.map_cons, List.map_cons]
      by_cases e : k' = k
      · simp only [e, if_true]; exact .cons r ih
      · simp only [e, if_false]; exact .cons r' ih
  · exact h.app (.cons r .nil)
theorem KReps.drop {a : List (Key × V)} {b : List (Key × D)} {k : Key} (h : KReps K F a b) : KReps K F (dropK a k) (dropA b k) := by
  unfold dropK dropA
  induction h with
  | nil => exact .nil
  | @cons k' v' d' _ _ r' t ih =>
    rw [List.filter_cons, List.filter_cons]
    by_cases e : k' = k
    · simp only [e, ne_eq, not_true, decide_false, if_false]; exact ih
    · simp only [e, ne_eq, not_false_iff, decide_true, if_true]; exact .cons r' ih
end
def keyD : Key → D
  | .inl i => .int i
  | .inr x => .str x
theorem rep_key {K : PySem.W.Frag} {F : Hp} {v : V} {k : Key} (h : Rep K F v (keyD k)) : v = kV k := by
  cases k <;> (cases h; rfl)
theorem Gam.ok.u1 {X : Cx} (hX : Γ.ok X) : X.A.units + 1 < cLine := hu_of hX.room
/-- d[k], there -/
theorem we_dget (hs : NoSl i := by exact fun _ _ => rfl) (h : WE Γ o ρ μ fun od μ1 => WE Γ i ρ μ1 fun kd μ2 => ∃ a kvs k d, od = .loc a ∧ kd = keyD k ∧ μ2 a = some (.dct kvs) ∧ getA kvs k = some d ∧ Q d μ2) : WE Γ (.Subscript o i pos) ρ μ Q := fun σ F H s r =>
  semE.mk (fun X hX => pe_dget hX.u1 (pe_sem hX o) (pe_sem hX i) hs) (h.go s r fun ov F1 H1 od μ1 r1 e1 s1 p1 h1 => h1.go s1 r1 fun iv F2 H2 kd μ2 r2 e2 s2 p2 h2 => by
    obtain ⟨a, kvs, k, d, rfl, rfl, m, g, q⟩ := h2
    cases p1
    obtain rfl := rep_key p2
    obtain ⟨ks, hH, kr⟩ := r2.dctAt m
    obtain ⟨v, hv, rv⟩ := kr.some g
    exact ⟨a, v, rfl, hv ▸ DGet.k hH, .ext (e1.trans e2) (.now r2 rv q)⟩)
/-- k in d, k not in d -/
theorem we_din (h : WE Γ i ρ μ fun kd μ1 => WE Γ o ρ μ1 fun od μ2 => ∃ a kvs k, od = .loc a ∧ kd = keyD k ∧ μ2 a = some (.dct kvs) ∧ Q (.bl (getA kvs k).isSome) μ2) (hm : behindInMarks .In o = false := by rfl) : WE Γ (.Compare i [.In] [o] pos) ρ μ Q := fun σ F H s r =>
  semE.mk (fun X hX => pe_cmp (pc_din hX.u1 (pe_sem hX i) (pe_sem hX o)) hm) (h.go s r fun iv F1 H1 kd μ1 r1 e1 s1 p1 h1 => h1.go s1 r1 fun ov F2 H2 od μ2 r2 e2 s2 p2 h2 => by
    obtain ⟨a, kvs, k, rfl, rfl, m, q⟩ := h2
    cases p2
    obtain rfl := rep_key p1
    obtain ⟨ks, hH, kr⟩ := r2.dctAt m
    refine ⟨a, valV ks k, rfl, DGet.k hH, ?_⟩
    have e : (valV ks k).isSome = (getA kvs k).isSome := by
      cases z : getA kvs k with
      | none => rw [kr.none z]; rfl
      | some d => obtain ⟨v, hv, _⟩ := kr.some z; rw [hv]; rfl
    rw [e]
    exact .ext (e1.trans e2) (.now r2 (.bl _) q))
theorem wt_din {T : Bool → Mem → Prop} (h : WE Γ i ρ μ fun kd μ1 => WE Γ o ρ μ1 fun od μ2 => ∃ a kvs k, od = .loc a ∧ kd = keyD k ∧ μ2 a = some (.dct kvs) ∧ T (getA kvs k).isSome μ2) (hm : behindInMarks .In o = false := by rfl) : WT Γ (.Compare i [.In] [o] pos) ρ μ T := fun σ F H s r =>
  semT.mk (fun X hX => pt_cmp (pc_din hX.u1 (pe_sem hX i) (pe_sem hX o)) hm) (h.go s r fun iv F1 H1 kd μ1 r1 e1 s1 p1 h1 => h1.go s1 r1 fun ov F2 H2 od μ2 r2 e2 s2 p2 h2 => by
    obtain ⟨a, kvs, k, rfl, rfl, m, q⟩ := h2
    cases p2
    obtain rfl := rep_key p1
    obtain ⟨ks, hH, kr⟩ := r2.dctAt m
    refine ⟨a, valV ks k, rfl, DGet.k hH, ?_⟩
    have e : (valV ks k).isSome = (getA kvs k).isSome := by
      cases z : getA kvs k with
      | none => rw [kr.none z]; rfl
      | some d => obtain ⟨v, hv, _⟩ := kr.some z; rw [hv]; rfl
    rw [e]
    exact ⟨_, rfl, F2, μ2, r2, e1.trans e2, q⟩)
theorem wt_dnotin {T : Bool → Mem → Prop} (h : WE Γ i ρ μ fun kd μ1 => WE Γ o ρ μ1 fun od μ2 => ∃ a kvs k, od = .loc a ∧ kd = keyD k ∧ μ2 a = some (.dct kvs) ∧ T (!(getA kvs k).isSome) μ2) (hm : behindInMarks .NotIn o = false := by rfl) : WT Γ (.Compare i [.NotIn] [o] pos) ρ μ T := fun σ F H s r =>
  semT.mk (fun X hX => pt_cmp (pc_dnotin hX.u1 (pe_sem hX i) (pe_sem hX o)) hm) (h.go s r fun iv F1 H1 kd μ1 r1 e1 s1 p1 h1 => h1.go s1 r1 fun ov F2 H2 od μ2 r2 e2 s2 p2 h2 => by
    obtain ⟨a, kvs, k, rfl, rfl, m, q⟩ := h2
    cases p2
    obtain rfl := rep_key p1
    obtain ⟨ks, hH, kr⟩ := r2.dctAt m
    refine ⟨a, valV ks k, rfl, DGet.k hH, ?_⟩
    have e : (valV ks k).isSome = (getA kvs k).isSome := by
      cases z : getA kvs k with
      | none => rw [kr.none z]; rfl
      | some d => obtain ⟨v, hv, _⟩ := kr.some z; rw [hv]; rfl
    rw [e]
    exact ⟨_, rfl, F2, μ2, r2, e1.trans e2, q⟩)
/-- d[k] = v -/
theorem ws_dput {pos' : Pos} (hs : ∀ env, swapsWith e (some (.Subscript o i pos')) pos.line env = pure false := by intro _; rfl)
    (h : WE Γ e ρ μ fun d μ1 => WE Γ o ρ μ1 fun od μ2 => WE Γ i ρ μ2 fun kd μ3 => ∃ a kvs k, od = .loc a ∧ kd = keyD k ∧ μ3 a = some (.dct kvs) ∧ kvs.length < sizeLine ∧ D'.nx ρ (μ3.upd a (.dct (putA kvs k d)))) : WS Γ (.Assign [.Subscript o i pos'] e pos) ρ μ D' := fun σ F H s r =>
  semS.mk (fun X hX => ps_dput hX.u1 (pe_sem hX o) (pe_sem hX i) (pe_sem hX e) (hs _)) (h.go s r fun v F1 H1 d μ1 r1 e1 s1 p1 h1 => h1.go s1 r1 fun ov F2 H2 od μ2 r2 e2 s2 p2 h2 => h2.go s2 r2 fun iv F3 H3 kd μ3 r3 e3 s3 p3 h3 => by
    obtain ⟨a, kvs, k, rfl, rfl, m, hl, q⟩ := h3
    cases p2
    obtain rfl := rep_key p3
    obtain ⟨ks, hH, kr⟩ := r3.dctAt m
    obtain ⟨r4, e4⟩ := r3.put m (.dct (kr.put (k := k) ((p1.mono e2.fr).mono e3.fr)))
    exact ⟨a, _, rfl, DPut.k hH (by rw [kr.length]; exact hl), F3, ρ, _, s3, r4, ((e1.trans e2).trans e3).trans e4, q⟩)
/-- del d[k] -/
theorem ws_ddel (h : WE Γ o ρ μ fun od μ2 => WE Γ i ρ μ2 fun kd μ3 => ∃ a kvs k, od = .loc a ∧ kd = keyD k ∧ μ3 a = some (.dct kvs) ∧ (getA kvs k).isSome = true ∧ D'.nx ρ (μ3.upd a (.dct (dropA kvs k)))) : WS Γ (.Delete [.Subscript o i tpos] pos) ρ μ D' := fun σ F H s r =>
  semS.mk (fun X hX => ps_ddel (pe_sem hX o) (pe_sem hX i)) (h.go s r fun ov F2 H2 od μ2 r2 e2 s2 p2 h2 => h2.go s2 r2 fun iv F3 H3 kd μ3 r3 e3 s3 p3 h3 => by
    obtain ⟨a, kvs, k, rfl, rfl, m, hg, q⟩ := h3
    cases p2
    obtain rfl := rep_key p3
    obtain ⟨ks, hH, kr⟩ := r3.dctAt m
    obtain ⟨r4, e4⟩ := r3.put m (.dct (kr.drop (k := k)))
    refine ⟨a, ks, k, rfl, hH, rfl, ?_, F3, ρ, _, s3, r4, (e2.trans e3).trans e4, q⟩
    cases z : getA kvs k with
    | none => rw [z] at hg; cases hg
    | some d => obtain ⟨v, hv, _⟩ := kr.some z; rw [hv]; rfl)
/-- d.get(k, x) -/
theorem we_dget2 (hb : ∀ env, attributeBase o "get" env (eval o env) = eval o env := by intro _; rfl)
    (hf : ∀ env, ((backTo cpos (starEach [a, b] env)).all (fun x => !x.1) && (backToKw cpos (keywordEach [] env)).all (fun x => x.1.isSome)
      && decide (([a, b] : List Expr).length + ([] : List Keyword).length + (if ([] : List Keyword).isEmpty then 0 else 1) < 30)) = true := by intro _; rfl)
    (hl : (apos.endLine == cpos.line) = true := by rfl) (ht : ∀ env, backTo cpos (starEach [a, b] env) = [(false, eval a env), (false, eval b env)] := by intro _; rfl)
    (h : WE Γ o ρ μ fun od μ1 => ∃ ad kvs0, od = .loc ad ∧ μ1 ad = some (.dct kvs0) ∧ WE Γ a ρ μ1 fun kd μ2 => WE Γ b ρ μ2 fun x μ3 => ∃ kvs k, kd = keyD k ∧ μ3 ad = some (.dct kvs) ∧ Q ((getA kvs k).getD x) μ3) : WE Γ (.Call (.Attribute o "get" apos) [a, b] [] cpos) ρ μ Q := fun σ F H s r =>
  semE.mk (fun X hX => pe_dget2 hX.u1 (pe_sem hX o) (pe_sem hX a) (pe_sem hX b) ⟨hb _, hf _, hl, ht _⟩) (h.go s r fun ov F1 H1 od μ1 r1 e1 s1 p1 h1 => by
    obtain ⟨ad, kvs0, rfl, m0, h1⟩ := h1
    cases p1
    obtain ⟨ks0, hH0, _⟩ := r1.dctAt m0
    refine ⟨ad, rfl, .inl ⟨_, .inl hH0⟩, h1.go s1 r1 fun iv F2 H2 kd μ2 r2 e2 s2 p2 h2 => h2.go s2 r2 fun xv F3 H3 x μ3 r3 e3 s3 p3 h3 => ?_⟩
    obtain ⟨kvs, k, rfl, m, q⟩ := h3
    obtain rfl := rep_key p2
    obtain ⟨ks, hH, kr⟩ := r3.dctAt m
    refine ⟨valV ks k, DGet.k hH, .ext ((e1.trans e2).trans e3) ?_⟩
    cases z : getA kvs k with
    | none => rw [kr.none z]; rw [z] at q; exact .now r3 p3 q
    | some d =>
      obtain ⟨v, hv, rv⟩ := kr.some z
      rw [hv]; rw [z] at q; exact .now r3 rv q)
end
/-- sorted(d), the keys ints -/
theorem wc_sortedD {Γ : Gam} {μ : Mem} {Q : D → Mem → Prop} {a : Addr} {kvs : List (Key × D)} {ks : List Int} (m : μ a = some (.dct kvs)) (hk : kvs.map (·.1) = ks.map Sum.inl) (hl : ks.length < 64) (q : ∀ ms : List Int, ms.Perm ks → ms.Pairwise (· ≤ ·) → Q (.lst (ms.map D.int)) μ) : WC Γ (.builtin "sorted") [.loc a] μ Q := fun vs F H p r => by
  obtain rfl := reps_loc1 p
  obtain ⟨xs, hH, kr⟩ := r.dctAt m
  exact semC.mk (fun X hX => call_sortedDI hX.calm) ⟨a, xs, ks, rfl, .inl hH, by rw [kr.keys]; exact hk, hl, fun ms p h1 h2 hp => post_lst r (Reps.of_ints ms) (q ms h1 h2) p hp⟩
/-- list(d), the keys ints -/
theorem wc_listD {Γ : Gam} {μ : Mem} {Q : D → Mem → Prop} {a : Addr} {kvs : List (Key × D)} (m : μ a = some (.dct kvs)) (q : Q (.lst (kvs.map fun kv => keyD kv.1)) μ) : WC Γ (.type "list") [.loc a] μ Q := fun vs F H p r => by
  obtain rfl := reps_loc1 p
  obtain ⟨xs, hH, kr⟩ := r.dctAt m
  refine semC.mk (fun X hX => call_listD hX.calm) ⟨a, xs, rfl, .inl hH, fun p hp => post_lst r ?_ q p hp⟩
  have : ∀ {a : List (Key × V)} {b : List (Key × D)}, KReps Γ.K F a b → Reps Γ.K F (a.map fun kv => kV kv.1) (b.map fun kv => keyD kv.1) := by
    intro a b h
    induction h with
    | nil => exact .nil
    | @cons k v d _ _ _ _ ih => exact .cons (by cases k <;> constructor) ih
  exact this kr
theorem wc_lenD {Γ : Gam} {μ : Mem} {Q : D → Mem → Prop} {a : Addr} {kvs : List (Key × D)} (m : μ a = some (.dct kvs)) (q : Q (.int kvs.length) μ) : WC Γ (.builtin "len") [.loc a] μ Q := fun vs F H p r => by
  obtain rfl := reps_loc1 p
  obtain ⟨xs, hH, kr⟩ := r.dctAt m
  refine semC.mk (fun X hX => call_lenD) ⟨a, xs, rfl, hH, ?_⟩
  rw [kr.length]
  exact .now r (.int _) q

/-! ### calls with a keyword; sorted(xs, reverse=True) -/
section
variable {Γ : Gam} {ρ : Rho} {μ : Mem} {Q : D → Mem → Prop} {a b c e : Expr} {pos p kpos : Pos}
theorem we_sortedRev {j : Nat} {kp : Pos} (hm : Γ.mg "sorted" = none) (hg : GlD Γ "sorted" := by rfl)
    (he : ∀ env, backTo pos (starEach [e] env) = (false, eval e env) :: backTo pos (starEach [] env) := by intro _; rfl) (he0 : ∀ env, starEach [e] env = (false, eval e env) :: starEach [] env := by intro _; rfl) (hpl : ∀ env, (backTo pos (starEach [e] env)).any (·.1) = false := by intro _; rfl)
    (h : WE Γ e ρ μ fun d μ1 => ∃ ns : List Int, LstD μ1 d (ns.map D.int) ∧ ∀ ms : List Int, ms.Perm ns → ms.Pairwise (· ≥ ·) → Q (.lst (ms.map D.int)) μ1) :
    WE Γ (.Call (.Name "sorted" p) [e] [⟨some "reverse", .Constant (.bool true) j kp, kpos⟩] pos) ρ μ Q := fun σ F H s r => by
  refine semE.mk (t := tCKw (rSortedKw Γ.K true [.bl true]) (tCons (semE Γ e) tNil) (tCons (tC (.bl true)) tNil)) (fun X hX => ?_) (h.go s r fun v F1 H1 d μ1 r1 e1 s1 p1 h1 => ?_)
  · have h0 : X.mg "sorted" = none := by rw [hX.mg]; exact hm
    have := pe_callBK (X := X) (p := p) (pos := pos) (kws := [⟨some "reverse", .Constant (.bool true) j kp, kpos⟩]) (ks := [Str.ofString "reverse"]) (cr_sortedRev (X := X) (b := true)) (hX.gl hg) h0 bt_sorted (pa_cons (pe_sem hX e) pa_nil (he0 _)) (pk_cons pe_bl pk_nil) (by decide) (by decide) (he _) (hpl _)
    rw [hX.K] at this; exact this
  · obtain ⟨ns, hd, q⟩ := h1
    obtain ⟨ad, xs, rfl, hH, g⟩ := lst_at hd r1 p1
    obtain rfl := Reps.ints ns g
    exact ⟨ad, ns, rfl, rfl, SqL.of hH, fun ms p h1 h2 hp => Post.ext e1 (post_lst r1 (Reps.of_ints ms) (q ms h1 (by simpa [OrdB] using h2)) p hp)⟩
end
end DL
namespace DLT
open PySem PySem.Spec PyProof.Rows HT
section
variable {prog : Program} {w : World} {A : Around} {E : Value → Shared → Prop} {s : Shared}
theorem places_rev (n : Nat) : Builtin.Slice.slicePlaces ((n : Int) - 1) (-1) (-1) = n := by
  unfold Builtin.Slice.slicePlaces
  have h1 : ¬ ((-1 : Int) > 0) := by omega
  have h2 : (-(-1) : Int) = 1 := by omega
  simp only [h1, if_false, h2, Int.ediv_one]
  split <;> omega
theorem sliceApplied_rev {sl : Addr} {vs : Value} {n : Nat} {Q : Int × Int × Nat → Shared → Prop} (hs : s.heap.IsSliceOf sl .none .none vs) (ps : IsPart vs (some (-1)))
    (h : Q ((n : Int) - 1, -1, n) s) : wpAny (model prog w) A (Builtin.Slice.sliceApplied (.ref sl) (pure (n : Int))) Q E s := by
  obtain ⟨os, hos, hcs, hds⟩ := id hs
  unfold Builtin.Slice.sliceApplied Builtin.Slice.sliceFields
  refine wpAny_bind (wpAny_bind (wpAny_field hos hds (x := .none) rfl (wpAny_bind (wpAny_field hos hds (x := .none) rfl (wpAny_bind (wpAny_field hos hds (x := vs) rfl (wpAny_pure ?_)))))))
  refine wpAny_bind (slicePart_ ps ?_)
  show wpAny _ _ (if ((-1 : Int) == 0) = true then _ else _) _ _ s
  rw [if_neg (by decide)]
  refine wpAny_bind (slicePart_none (wpAny_bind (slicePart_none (wpAny_bind (wpAny_pure ?_)))))
  show wpAny _ _ (pure ((n : Int) - 1, (-1 : Int), Builtin.Slice.slicePlaces ((n : Int) - 1) (-1) (-1))) _ _ s
  rw [places_rev]
  exact wpAny_pure h
theorem fm_congr {α β : Type} {f g : α → Option β} : ∀ (l : List α), (∀ m ∈ l, f m = g m) → l.filterMap f = l.filterMap g
  | [], _ => rfl
  | a :: l, h => by
    rw [List.filterMap_cons, List.filterMap_cons, h a (by simp), fm_congr l fun m hm => h m (by simp [hm])]
theorem pick_rev (xs : Array Value) : ((List.range xs.size).filterMap fun (m : Nat) => xs[(((xs.size : Nat) : Int) - 1 + (m : Int) * (-1)).toNat]?).toArray = xs.toList.reverse.toArray := by
  congr 1
  have e : ∀ m ∈ List.range xs.size, xs[(((xs.size : Nat) : Int) - 1 + (m : Int) * (-1)).toNat]? = (xs[·]?) ((fun k => xs.size - 1 - k) m) := by
    intro m hm
    have := List.mem_range.mp hm
    show xs[_]? = xs[xs.size - 1 - m]?
    congr 1
    omega
  have e2 : (List.range xs.size).filterMap (fun (m : Nat) => xs[(((xs.size : Nat) : Int) - 1 + (m : Int) * (-1)).toNat]?) = ((List.range xs.size).map (fun k => xs.size - 1 - k)).filterMap (xs[·]?) := by
    rw [List.filterMap_map]
    exact fm_congr _ e
  rw [e2, PySem.W.krv_range, List.filterMap_reverse, PySem.W.krv_all]
theorem getItem_tuple_rev {t sl : Addr} {items : Array Value} {vs : Value} {Q : Value → Shared → Prop} (ht : IsTup s.heap t items) (hs : s.heap.IsSliceOf sl .none .none vs) (ps : IsPart vs (some (-1)))
    (h : Q (.ref s.heap.objs.size) { s with heap := s.heap.push { cls := .type "tuple", data := .seq items.toList.reverse.toArray } })
    (hsz : items.size ≤ sizeLine) : wpAny (model prog w) A (getItem (.ref t) (.ref sl)) Q E s := by
  have htake : sizeOk (.seq items.toList.reverse.toArray) := by
    show items.toList.reverse.toArray.size ≤ sizeLine
    rw [List.size_toArray, List.length_reverse, Array.length_toList]
    exact hsz
  obtain ⟨os, hos, hcs, hds⟩ := id hs
  have hTs : s.TypeIs (.ref sl) "slice" := ⟨os, hos, hcs⟩
  unfold getItem
  try with_reducible refine wpAny_holding ?_
  first | refine wpAny_bind (wpAny_pure ?_) | skip
  refine wpAny_bind (wpAny_sequenceKey ht.typeIs (by decide) ?_)
  refine wpAny_bind (wpAny_callSpecial?_slot (name := Str.ofString "__getitem__") ht.typeIs PyProof.Rows.slot_tuple_getitem
    (wpAny_call_entry PyProof.Rows.slot_tuple_getitem ht.typeIs entry_tuple_getitem ?_ (args_tuple_getitem _ _)))
  show wpAny _ _ (Builtin.Tuple.tupleItemsOf (.ref t) >>= _) _ _ s
  refine wpAny_bind (tupleItemsOf_ ht ?_)
  refine wpAny_bind (wpAny_typeOf hTs ?_)
  rw [if_pos (by decide)]
  refine wpAny_bind (sliceApplied_rev hs ps ?_)
  have hno : ¬ ((((items.size : Nat) : Int) - 1 == 0 && (-1 : Int) == 1 && items.size == items.size) = true) := by
    intro q
    rw [Bool.and_eq_true, Bool.and_eq_true] at q
    have q1 : ((-1 : Int) == 1) = true := q.1.2
    exact absurd q1 (by decide)
  show wpAny _ _ (if ((((items.size : Nat) : Int) - 1 == 0 && (-1 : Int) == 1 && items.size == items.size) = true) then _ else _) _ _ s
  rw [if_neg hno, pick_rev]
  first
    | exact wpAny_bind (m := Builtin.Tuple.tupleExact _) (wpAny_newObj_type (wpAny_pure ⟨_, rfl, wpAny_pure h⟩) htake)
    | exact wpAny_bind (m := Builtin.Tuple.tupleExact _) (wpAny_newObj_type (wpAny_bind (wpAny_pure (wpAny_pure ⟨_, rfl, wpAny_pure h⟩))) htake)
    | exact wpAny_bind (wpAny_bind (m := Builtin.Tuple.tupleExact _) (wpAny_newObj_type (wpAny_pure (wpAny_pure ⟨_, rfl, wpAny_pure h⟩)) htake))
    | exact wpAny_bind (wpAny_bind (m := Builtin.Tuple.tupleExact _) (wpAny_newObj_type (wpAny_pure ⟨_, rfl, wpAny_pure h⟩) htake))
end
end DLT
namespace L2
open PySem PySem.Spec PyProof.Rows
def tRevT (K : PySem.W.Frag) (te : TE) : TE := fun σ H Q => te σ H fun x H1 => ∃ a xs, x = .ref a ∧ SqT K H1 a xs ∧ ∀ p, H1 p = none → Q (.ref p) (upd H1 p (.tup xs.reverse))
theorem pe_revT {X : Cx} {pos : Pos} {e : Expr} {te : TE} {k : Nat} {p1 p2 p3 : Pos} (he : PE X e te) : PE X (.Subscript e (.Slice none none (some (.UnaryOp .USub (.Constant (.int 1) k p1) p2)) p3) pos) (tRevT X.K te) := by
  refine ⟨fun pins s σ H Q I h => ?_⟩
  refine Subscript_ (thn (he.run pins s σ H _ I h) fun v s1 ⟨x, H1, I1, r1, q1⟩ => ?_)
  obtain ⟨a, xs, ex, hx, q⟩ := q1
  subst ex
  cases r1
  have hst : PO X (some (.UnaryOp .USub (.Constant (.int 1) k p1) p2)) (tPart (tUn (rU fun i => .int (-i)) (tC (.int 1)))) := po_some (pe_un un_neg pe_int)
  refine wpAny_Slice (thn (po_none.run pins s1 σ H1 (fun o H2 => o = none ∧ H2 = H1) I1 ⟨rfl, rfl⟩) fun vl s2 ⟨l, H2, I2, pl, el, e2⟩ => ?_)
  subst el e2
  refine thn (po_none.run pins s2 σ H2 (fun o H3 => o = none ∧ H3 = H2) I2 ⟨rfl, rfl⟩) fun vu s3 ⟨u, H3, I3, pu, eu, e3⟩ => ?_
  subst eu e3
  refine thn (hst.run pins s3 σ H3 (fun o H4 => o = some (-1) ∧ H4 = H3) I3 ⟨1, rfl, -1, rfl, rfl, rfl⟩) fun vs s4 ⟨o, H4, I4, ps, eo, e4⟩ => ?_
  subst eo e4
  have evl : vl = .none := by cases pl; rfl
  have evu : vu = .none := by cases pu; rfl
  subst evl evu
  have I5 : Inv X pins σ H4 { s4 with heap := s4.heap.push { cls := .type "slice", data := .fields #[.none, .none, vs] } } := I4.kept (t' := s4.toks) fun b ob q => Heap.get?_push_of_some _ q
  obtain ⟨its, r, ht, hz⟩ := I5.tuple hx
  have hlen := r.length
  show wpAny (model X.prog X.w) X.A (subscriptTail e (.Slice none none (some (.UnaryOp .USub (.Constant (.int 1) k p1) p2)) p3) (.ref a) (.ref s4.heap.objs.size)) (EP X pins σ Q) X.xe { s4 with heap := s4.heap.push { cls := .type "slice", data := .fields #[.none, .none, vs] } }
  refine tail_any (ops := [.ref a, .ref s4.heap.objs.size]) ht.typeIs (PyProof.Rows.slot_tuple_getitem.lookup) ?_ (by with_unfolding_all rfl)
  refine DLT.getItem_tuple_rev ht (Heap.IsSliceOf.new _ .none .none vs) ps ?_ (by rw [List.size_toArray]; omega)
  refine ⟨.ref _, _, I5.laid (t' := s4.toks) (o := .tup xs.reverse) (fun b ob q => Heap.get?_push_of_some _ q) (Nat.le_refl _) ?_, rfl, q _ (I5.hok.fresh (Nat.le_refl _))⟩
  exact ⟨by rw [List.length_reverse]; exact hz, _, r.reverse, IsTup.new _ _⟩
end L2
namespace DL
open PySem L2
section
variable {Γ : Gam} {ρ : Rho} {μ : Mem} {Q : D → Mem → Prop} {a b c e o : Expr} {es : List Expr} {pos p p2 : Pos} {x : Str} {D' : DEnds}
/-- xs[::-1] of a tuple -/
theorem we_revT {k : Nat} {p1 q2 p3 : Pos} (h : WE Γ e ρ μ fun d μ1 => ∃ ds, d = .tup ds ∧ Q (.tup ds.reverse) μ1) : WE Γ (.Subscript e (.Slice none none (some (.UnaryOp .USub (.Constant (.int 1) k p1) q2)) p3) pos) ρ μ Q := fun σ F H s r => by
  refine semE.mk (t := tRevT Γ.K (semE Γ e)) (fun X hX => ?_) (h.go s r fun v F1 H1 d μ1 r1 e1 s1 p1' h1 => ?_)
  · have := pe_revT (X := X) (k := k) (p1 := p1) (p2 := q2) (p3 := p3) (pos := pos) (pe_sem hX e)
    rw [hX.K] at this; exact this
  · obtain ⟨ds, rfl, q⟩ := h1
    cases p1' with
    | tup g1 g2 => exact ⟨_, _, rfl, same_seqT r1.same g1, fun p hp => Post.ext e1 (post_tup r1 g2.reverse q p hp)⟩
/-- list(range(a, b)) -/
def semRg (Γ : Gam) (e : Expr) : L2.St → Hp → (Int → Int → Hp → Prop) → Prop := fun σ H Q => ∃ (t : L2.St → Hp → (Int → Int → Hp → Prop) → Prop) (Q0 : Int → Int → Hp → Prop), (∀ X, Γ.ok X → PRg X e t) ∧ t σ H Q0 ∧ ∀ i j H', Q0 i j H' → Q i j H'
theorem rg_sem {X : Cx} (hX : Γ.ok X) (e : Expr) : PRg X e (semRg Γ e) := fun pins s σ H Q I ⟨t, Q0, h, ht, hq⟩ =>
  thn (h X hX pins s σ H Q0 I ht) fun _ _ ⟨r, a, b, t, u, v, H', e, i, I', q⟩ => ⟨r, a, b, t, u, v, H', e, i, I', hq _ _ _ q⟩
def WRg (Γ : Gam) (e : Expr) (ρ : Rho) (μ : Mem) (R : Int → Int → Mem → Prop) : Prop := ∀ σ F H, Slots Γ.K F σ ρ → Rel Γ.K F H μ → semRg Γ e σ H fun i j H' => ∃ F' μ', Rel Γ.K F' H' μ' ∧ Ext F H μ F' H' μ' ∧ R i j μ'
theorem wrg_1 {R : Int → Int → Mem → Prop} (hm : Γ.mg "range" = none) (hg : GlD Γ "range" := by rfl) (na : ∀ env, starEach [a] env = (false, eval a env) :: starEach [] env := by intro _; rfl)
    (h : WE Γ a ρ μ fun d μ1 => ∃ n, d = .int n ∧ R 0 n μ1) : WRg Γ (.Call (.Name "range" p) [a] [] pos) ρ μ R := fun σ F H s r =>
  ⟨tRg1 (semE Γ a), _, fun X hX => prg_1 (hX.gl hg) (by rw [hX.mg]; exact hm) (pe_sem hX a) (na _), h.go s r fun v F1 H1 d μ1 r1 e1 s1 p1 q1 => by
    obtain ⟨n, rfl, q1⟩ := q1
    exact ⟨n, rep_int p1, F1, μ1, r1, e1, q1⟩, fun _ _ _ x => x⟩
theorem wrg_2 {R : Int → Int → Mem → Prop} (hm : Γ.mg "range" = none) (hg : GlD Γ "range" := by rfl) (na : ∀ env, starEach [a, b] env = (false, eval a env) :: starEach [b] env := by intro _; rfl)
    (nb : ∀ env, starEach [b] env = (false, eval b env) :: starEach [] env := by intro _; rfl) (hp : ∀ env, (backTo pos (starEach [b] env)).any (·.1) = false := by intro _; rfl)
    (h : WE Γ a ρ μ fun d μ1 => WE Γ b ρ μ1 fun e μ2 => ∃ i j, d = .int i ∧ e = .int j ∧ R i j μ2) : WRg Γ (.Call (.Name "range" p) [a, b] [] pos) ρ μ R := fun σ F H s r =>
  ⟨tRg2 (semE Γ a) (semE Γ b), _, fun X hX => prg_2 (hX.gl hg) (by rw [hX.mg]; exact hm) (pe_sem hX a) (pe_sem hX b) (na _) (nb _) (hp _), h.go s r fun v F1 H1 d μ1 r1 e1 s1 p1 q1 => q1.go s1 r1 fun u F2 H2 d2 μ2 r2 e2 s2 p2 q2 => by
    obtain ⟨i, j, rfl, rfl, q⟩ := q2
    exact ⟨i, j, rep_int (p1.mono e2.fr), rep_int p2, F2, μ2, r2, e1.trans e2, q⟩, fun _ _ _ x => x⟩
theorem rgV_reps {K : PySem.W.Frag} {F : Hp} (a b : Int) : Reps K F (rgV a b) (rangeD a (b - a).toNat) := by
  unfold rgV rangeD
  induction (List.range (b - a).toNat) with
  | nil => exact .nil
  | cons n r ih => exact .cons (.int _) ih
theorem we_listRg (hm : Γ.mg "list" = none) (hg : GlD Γ "list" := by rfl) (na : ∀ env, starEach [e] env = (false, eval e env) :: starEach [] env := by intro _; rfl)
    (h : WRg Γ e ρ μ fun i j μ1 => RgOk i j ∧ Q (.lst (rangeD i (j - i).toNat)) μ1) : WE Γ (.Call (.Name "list" p) [e] [] pos) ρ μ Q := fun σ F H s r => by
  obtain ⟨t, Q0, h1, h2, h3⟩ := h σ F H s r
  refine semE.mk (fun X hX => pe_listRg hX.calm (hX.gl hg) (by rw [hX.mg]; exact hm) (rg_sem hX e) (na _)) (t := tLstRg (semRg Γ e)) ⟨t, Q0, h1, h2, fun i j H' q => ?_⟩
  obtain ⟨F1, μ1, r1, e1, ok, q⟩ := h3 i j H' q
  exact ⟨ok, fun p hp => Post.ext e1 (post_lst r1 (rgV_reps i j) q p hp)⟩
end
end DL
namespace DL
open PySem L2

/-! ### the head of a law -/
abbrev spLaw : DSp := fun ds μ Q => ∃ ns : List Int, ds = [.lsr (ns.map .int)] ∧ ns.length ≤ 63 ∧ ∀ μ', Q (.bl true) μ'
theorem reps_ofInts {K : PySem.W.Frag} {F : Hp} : ∀ ns : List Int, Reps K F (ns.map V.int) (ns.map D.int)
  | [] => .nil
  | n :: ns => .cons (.int n) (reps_ofInts ns)
theorem law_start {K : PySem.W.Frag} {H : Hp} {a : Addr} {ns : List Int} {E : XK} (hl : ns.length ≤ 63) (h : SqL K H a (ns.map V.int)) : toSp K spLaw [.ref a] H (fun v _ => v = .bl true) E :=
  ⟨H, Mem.emp, [.lsr (ns.map .int)], fun d _ => d = .bl true, ⟨Same.refl _, fun a o h => by cases h⟩, .cons (.lsr h (reps_ofInts ns)) .nil, ⟨ns, rfl, hl, fun _ => rfl⟩, fun v H' q => by
    obtain ⟨F1, d, μ1, r1, e1, p1, rfl⟩ := q
    cases p1; rfl⟩
theorem TF.mk {K : PySem.W.Frag} {h : Heap} {mg : Str → Option Value} {x : Str} {st : Stmt} {ps : List Str} (X : K.In h) (G : h.Ns mainGlobals mg)
    {f : Addr} {oc : Value} {od an : Option Addr} {sl : Array (Option Value)} {kV dc pm cd ct : Value}
    (a : PySem.W.nsIn K mainGlobals x = some (some (.ref f))) (l : K.lookup f = some ⟨oc, od, .func (PySem.W.fnOf x x (defArgs st) (defBody st) (defScope st) .none kV dc pm an cd ct), sl⟩) (c : PySem.W.codeIn K cd x = true) (k : PySem.W.keepIn K (.ref f) = true)
    (b : ∀ (kV doc pm : Value) (an : Option Addr) (cdv ct : Value) (us : List Value), us.length = ps.length → bindArgs (PySem.W.fnOf x x (defArgs st) (defBody st) (defScope st) .none kV doc pm an cdv ct) ⟨us, []⟩ = pure (ps.zip us)) : TF K mg x st ps := by
  have F := fun_mk (st := st) l c k
  exact ⟨f, _, F, PySem.W.mg_of X G a, F.binds b⟩
theorem law_top {P : Program} {w : World} {K : PySem.W.Frag} {h : Heap} {mg : Str → Option Value} {fa : Addr} {st : Stmt} {N : List Str} {n : Nat} (X : K.In h) (G : h.Ns mainGlobals mg) (hfa : mg "law" = some (.ref fa))
    {f : Addr} {oc : Value} {od an : Option Addr} {sl : Array (Option Value)} {kV dc pm cd ct : Value}
    (a : PySem.W.nsIn K mainGlobals "law" = some (some (.ref f))) (l : K.lookup f = some ⟨oc, od, .func (PySem.W.fnOf "law" "law" (defArgs st) (defBody st) (defScope st) .none kV dc pm an cd ct), sl⟩) (c : PySem.W.codeIn K cd "law" = true) (k : PySem.W.keepIn K (.ref f) = true)
    (b : ∀ (kV doc pm : Value) (an : Option Addr) (cdv ct : Value) (u : Value), bindArgs (PySem.W.fnOf "law" "law" (defArgs st) (defBody st) (defScope st) .none kV doc pm an cdv ct) ⟨[u], []⟩ = pure [(("script" : Str), u)])
    (S : FnScope N ["script"] (defScope st))
    (body : ∀ base ds μ Q, spLaw ds μ Q → WSs (gamF P w K mg base N (defScope st) n) (defBody st) (startD N ds) μ { nx := fun _ μ1 => Q .non μ1, rt := Q }) :
    ∃ fd : FuncData, (∀ (s : Shared) (u : Value), BindsTo s fd ⟨[u], []⟩ [("script", u)]) ∧ ∀ base : Heap, K.In base → base.Ns mainGlobals mg → FnOk P w K mg base CX0 (n + 1) fa fd ["script"] (toSp K spLaw) := by
  have e := hfa.symm.trans (PySem.W.mg_of X G a)
  cases e
  have F := fun_mk (st := st) l c k
  refine ⟨_, fun s u => .of_eq (b kV dc pm an cd ct u), fun base _ _ => F.ok S (fun vs H Q E ⟨F, μ, ds, Q', r, p, q, z⟩ => by rw [p.length]; obtain ⟨ns, rfl, _⟩ := q; rfl) fun cdv A outer s H vs Q E hr ⟨F', μ, ds, Q', r, p, q, z⟩ => ?_⟩
  refine ⟨semSs (gamF P w K mg base N (defScope st) n) (defBody st), pss_sem ⟨rfl, rfl, rfl, rfl, rfl, rfl, rfl, rfl, rfl, rfl, hr, S.nd⟩ _, ?_⟩
  refine (body base ds μ Q' q _ F' H (slots_start p) r).le ⟨fun σ H' ⟨F1, ρ1, μ1, s1, r1, e1, q1⟩ => z _ _ ⟨F1, .non, μ1, r1, e1, .non, q1⟩, fun v H' q => z _ _ q, fun _ _ ⟨_, _, _, _, _, _, q⟩ => q, fun _ _ ⟨_, _, _, _, _, _, q⟩ => q⟩
end DL
namespace DL
open PySem L2

/-! ### equality of data without bools -/
mutual
def D.nb : Nat → D → Bool
  | _, .non => true | _, .int _ => true | _, .str x => PyData.strOk x
  | n + 1, .tup l => D.nbs n l | n + 1, .lst l => D.nbs n l
  | _, _ => false
def D.nbs : Nat → List D → Bool
  | _, [] => true
  | n, d :: ds => D.nb n d && D.nbs n ds
end
mutual
theorem D.nb_pure : ∀ (n : Nat) (d : D), d.nb n = true → d.pure n = true
  | n, .non, _ => by simp [D.pure]
  | n, .bl b, h => by cases n <;> simp [D.nb] at h
  | n, .int i, _ => by simp [D.pure]
  | n, .str x, h => by simpa [D.pure, D.nb] using h
  | n + 1, .tup l, h => by
    have h' : D.nbs n l = true := by simpa [D.nb] using h
    simpa [D.pure] using D.nbs_pure n l h'
  | n + 1, .lst l, h => by
    have h' : D.nbs n l = true := by simpa [D.nb] using h
    simpa [D.pure] using D.nbs_pure n l h'
  | 0, .tup l, h => by simp [D.nb] at h
  | 0, .lst l, h => by simp [D.nb] at h
  | n, .lsr l, h => by cases n <;> simp [D.nb] at h
  | n, .loc l, h => by cases n <;> simp [D.nb] at h
  | n, .ty l, h => by cases n <;> simp [D.nb] at h
theorem D.nbs_pure : ∀ (n : Nat) (ds : List D), D.nbs n ds = true → D.pures n ds = true
  | n, [], _ => by simp [D.pures]
  | n, d :: ds, h => by
    have h' : d.nb n = true ∧ D.nbs n ds = true := by simpa [D.nbs] using h
    simp [D.pures, D.nb_pure n d h'.1, D.nbs_pure n ds h'.2]
end
mutual
theorem eqv_nb : ∀ (n m : Nat) (d e : D), d.nb n = true → e.nb m = true → PyData.eqv d.pd e.pd = true → d = e
  | n, m, .non, e, _, he, h => by
    cases e with
    | non => rfl
    | lsr l => cases m <;> simp [D.nb] at he
    | loc l => cases m <;> simp [D.nb] at he
    | ty l => cases m <;> simp [D.nb] at he
    | _ => simp [D.pd, PyData.eqv] at h
  | n, m, .bl b, e, hd, _, _ => by cases n <;> simp [D.nb] at hd
  | n, m, .int i, e, _, he, h => by
    cases e with
    | int j => simp [D.pd, PyData.eqv] at h; rw [h]
    | bl b => cases m <;> simp [D.nb] at he
    | lsr l => cases m <;> simp [D.nb] at he
    | loc l => cases m <;> simp [D.nb] at he
    | ty l => cases m <;> simp [D.nb] at he
    | _ => simp [D.pd, PyData.eqv] at h
  | n, m, .str x, e, _, he, h => by
    cases e with
    | str y => simp [D.pd, PyData.eqv] at h; rw [h]
    | lsr l => cases m <;> simp [D.nb] at he
    | loc l => cases m <;> simp [D.nb] at he
    | ty l => cases m <;> simp [D.nb] at he
    | _ => simp [D.pd, PyData.eqv] at h
  | n + 1, m, .tup l, e, hd, he, h => by
    cases e with
    | tup k =>
      cases m with
      | zero => simp [D.nb] at he
      | succ m =>
        have h1 : D.nbs n l = true := by simpa [D.nb] using hd
        have h2 : D.nbs m k = true := by simpa [D.nb] using he
        rw [eqv_nbs n m l k h1 h2 (by simpa [D.pd, PyData.eqv] using h)]
    | lsr l => cases m <;> simp [D.nb] at he
    | loc l => cases m <;> simp [D.nb] at he
    | ty l => cases m <;> simp [D.nb] at he
    | _ => simp [D.pd, PyData.eqv] at h
  | n + 1, m, .lst l, e, hd, he, h => by
    cases e with
    | lst k =>
      cases m with
      | zero => simp [D.nb] at he
      | succ m =>
        have h1 : D.nbs n l = true := by simpa [D.nb] using hd
        have h2 : D.nbs m k = true := by simpa [D.nb] using he
        rw [eqv_nbs n m l k h1 h2 (by simpa [D.pd, PyData.eqv] using h)]
    | lsr l => cases m <;> simp [D.nb] at he
    | loc l => cases m <;> simp [D.nb] at he
    | ty l => cases m <;> simp [D.nb] at he
    | _ => simp [D.pd, PyData.eqv] at h
  | 0, m, .tup l, e, hd, _, _ => by simp [D.nb] at hd
  | 0, m, .lst l, e, hd, _, _ => by simp [D.nb] at hd
  | n, m, .lsr l, e, hd, _, _ => by cases n <;> simp [D.nb] at hd
  | n, m, .loc l, e, hd, _, _ => by cases n <;> simp [D.nb] at hd
  | n, m, .ty l, e, hd, _, _ => by cases n <;> simp [D.nb] at hd
theorem eqv_nbs : ∀ (n m : Nat) (ds es : List D), D.nbs n ds = true → D.nbs m es = true → PyData.eqvAll (D.pds ds) (D.pds es) = true → ds = es
  | n, m, [], es, _, _, h => by
    cases es with
    | nil => rfl
    | cons e es => simp [D.pds, PyData.eqvAll] at h
  | n, m, d :: ds, es, hd, he, h => by
    cases es with
    | nil => simp [D.pds, PyData.eqvAll] at h
    | cons e es =>
      have h1 : d.nb n = true ∧ D.nbs n ds = true := by simpa [D.nbs] using hd
      have h2 : e.nb m = true ∧ D.nbs m es = true := by simpa [D.nbs] using he
      have h3 : PyData.eqv d.pd e.pd = true ∧ PyData.eqvAll (D.pds ds) (D.pds es) = true := by simpa [D.pds, PyData.eqvAll] using h
      rw [eqv_nb n m d e h1.1 h2.1 h3.1, eqv_nbs n m ds es h1.2 h2.2 h3.2]
end
theorem eqv_nb_iff {n m : Nat} {d e : D} (hd : d.nb n = true) (he : e.nb m = true) : PyData.eqv d.pd e.pd = true ↔ d = e :=
  ⟨eqv_nb n m d e hd he, fun h => by subst h; exact eqv_refl n d (D.nb_pure n d hd)⟩
theorem nbs_ints (n : Nat) (l : List Int) : D.nbs n (l.map D.int) = true := by
  induction l with
  | nil => simp [D.nbs]
  | cons a l ih => simp [D.nbs, D.nb, ih]
theorem nbs_of {n : Nat} {l : List D} (h : ∀ d ∈ l, d.nb n = true) : D.nbs n l = true := by
  induction l with
  | nil => simp [D.nbs]
  | cons a l ih => simp [D.nbs, h a (by simp), ih fun d hd => h d (by simp [hd])]
section
variable {Γ : Gam} {ρ : Rho} {μ : Mem} {Q : D → Mem → Prop}
theorem wo_eqP (n : Nat) {d e : D} (h1 : d.nb n = true) (h2 : e.nb n = true) (q : ∀ b : Bool, (b = true ↔ d = e) → Q (.bl b) μ) (hn : n ≤ 64 := by decide) : WO Γ (compareOp .Eq) d e μ Q :=
  wo_eqD (D.nb_pure n d h1) (D.nb_pure n e h2) hn (q _ (eqv_nb_iff h1 h2))
theorem wo_neP (n : Nat) {d e : D} (h1 : d.nb n = true) (h2 : e.nb n = true) (q : ∀ b : Bool, (b = true ↔ d ≠ e) → Q (.bl b) μ) (hn : n ≤ 64 := by decide) : WO Γ (compareOp .NotEq) d e μ Q :=
  wo_neD (D.nb_pure n d h1) (D.nb_pure n e h2) hn (q _ (by rw [Bool.not_eq_true', ← Bool.not_eq_true, eqv_nb_iff h1 h2]))
theorem wo_eqB {a b : Bool} (q : Q (.bl (a == b)) μ) : WO Γ (compareOp .Eq) (.bl a) (.bl b) μ Q := wo_eqD (n := 0) rfl rfl (q := q)
theorem wo_neB {a b : Bool} (q : Q (.bl (!(a == b))) μ) : WO Γ (compareOp .NotEq) (.bl a) (.bl b) μ Q := wo_neD (n := 0) rfl rfl (q := q)
/-- a for over a name that holds a list or a tuple -/
theorem wi_name (i : Nat) {x : Str} {d : D} {ds : List D} {tg : Expr} {pos : Pos} {R : List D → Mem → Prop} (hN : Γ.N[i]? = some x := by rfl) (hv : Vis Γ.sc x := by first | exact Or.inl rfl | exact Or.inr (Or.inl rfl) | exact Or.inr (Or.inr rfl)) (hρ : ρ[i]? = some (some d) := by rfl)
    (hd : (x == ("__debug__" : Str)) = false := by decide) (hcd : (x == ("__classdict__" : Str)) = false := by decide) (s : d = .lst ds ∨ d = .tup ds) (h : R ds μ) : WI Γ tg (.Name x pos) ρ μ R := by
  rcases s with rfl | rfl
  · exact wi_lst (we_name i hN hv hρ hd hcd ⟨_, rfl, h⟩)
  · exact wi_tup (we_name i hN hv hρ hd hcd ⟨_, rfl, h⟩)
end
end DL
/-! DL: own classes: fields, methods, properties, new objects -/
namespace DL
open PySem L2

/-! ### fields -/
def putFD (f : Str) (v : D) : List (Str × D) → List (Str × D)
  | [] => [(f, v)]
  | (g, x) :: r => if g = f then (g, v) :: r else (g, x) :: putFD f v r
section
variable {K : PySem.W.Frag} {F : Hp}
theorem FReps.put {f : Str} {v : V} {d : D} (p : Rep K F v d) : ∀ {fs : List (Str × V)} {fds : List (Str × D)}, FReps K F fs fds → FReps K F (putF f v fs) (putFD f d fds)
  | _, _, .nil => .cons p .nil
  | _, _, @FReps.cons _ _ g x y r t h ht => by
    show FReps K F (if g = f then (g, v) :: r else (g, x) :: putF f v r) (if g = f then (g, d) :: t else (g, y) :: putFD f d t)
    by_cases e : g = f
    · rw [if_pos e, if_pos e]; exact .cons p ht
    · rw [if_neg e, if_neg e]; exact .cons h (ht.put p)
theorem FReps.look {f : Str} {d : D} : ∀ {fs : List (Str × V)} {fds : List (Str × D)}, FReps K F fs fds → fds.lookup f = some d → ∃ v, fs.lookup f = some v ∧ Rep K F v d
  | _, _, .nil, h => by cases h
  | _, _, @FReps.cons _ _ g x y r t h ht, e => by
    rw [List.lookup_cons] at e ⊢
    by_cases z : (f == g) = true
    · rw [z] at e ⊢; cases e; exact ⟨x, rfl, h⟩
    · have z' : (f == g) = false := by simpa using z
      rw [z'] at e ⊢; exact ht.look e
theorem FReps.miss {f : Str} : ∀ {fs : List (Str × V)} {fds : List (Str × D)}, FReps K F fs fds → fds.lookup f = none → fs.lookup f = none
  | _, _, .nil, _ => rfl
  | _, _, @FReps.cons _ _ g x y r t h ht, e => by
    rw [List.lookup_cons] at e ⊢
    by_cases z : (f == g) = true
    · rw [z] at e; cases e
    · have z' : (f == g) = false := by simpa using z
      rw [z'] at e ⊢; exact ht.miss e
theorem FReps.len : ∀ {fs : List (Str × V)} {fds : List (Str × D)}, FReps K F fs fds → fs.length = fds.length
  | _, _, .nil => rfl
  | _, _, .cons h ht => congrArg (· + 1) ht.len
theorem Rel.insAt {H : Hp} {μ : Mem} (r : Rel K F H μ) {a C : Addr} {fds : List (Str × D)} (m : μ a = some (.ins C fds)) : ∃ dx fs, H a = some (.ins C dx fs) ∧ FReps K F fs fds := by
  obtain ⟨hF, ho, hH, hr⟩ := r.mem a _ m
  cases hr with
  | ins h => exact ⟨_, _, hH, h⟩
theorem Rel.junk {H : Hp} {μ : Mem} (r : Rel K F H μ) {p : Addr} (h : H p = none) (o : HO) : Rel K F (L2.upd H p o) μ ∧ Ext F H μ F (L2.upd H p o) μ := by
  obtain ⟨hF, hM⟩ := r.fresh h
  refine ⟨⟨fun b u e => ?_, fun a u e => ?_⟩, Same.refl _, fun a u e _ => ?_, fun a q => .inl q, fun a q => .inl q⟩
  · rw [L2.upd_ne (ne_of_none e hF)]; exact r.same b u e
  · obtain ⟨h1, ho, h2, h3⟩ := r.mem a u e
    have ha : a ≠ p := fun z => by subst z; rw [hM] at e; cases e
    exact ⟨h1, ho, by rw [L2.upd_ne ha]; exact h2, h3⟩
  · rw [L2.upd_ne (ne_of_none e h)]; exact e
end

/-! ### defs of a class -/
theorem fnok_of {P : Program} {w : World} {K : PySem.W.Frag} {mg : Str → Option Value} {base : Heap} {x qual : Str} {st : Stmt} {f : Addr} {fd : FuncData} {N ps : List Str} {k : Nat} {sp : DSp} (F : Fun K x qual st f fd) (S : FnScope N ps (defScope st))
    (len : ∀ ds μ Q, sp ds μ Q → ds.length = ps.length)
    (body : ∀ ds μ Q, sp ds μ Q → WSs (gamF P w K mg base N (defScope st) k) (defBody st) (startD N ds) μ { nx := fun _ μ1 => Q .non μ1, rt := Q }) : FnOk P w K mg base CX0 (k + 1) f fd ps (toSp K sp) := by
  refine F.ok S (fun vs H Q E ⟨F, μ, ds, Q', r, p, q, z⟩ => by rw [p.length]; exact len _ _ _ q) fun cdv A outer s H vs Q E hr ⟨F', μ, ds, Q', r, p, q, z⟩ => ?_
  refine ⟨semSs (gamF P w K mg base N (defScope st) k) (defBody st), pss_sem ⟨rfl, rfl, rfl, rfl, rfl, rfl, rfl, rfl, rfl, rfl, hr, S.nd⟩ _, ?_⟩
  refine (body ds μ Q' q _ F' H (slots_start p) r).le ⟨fun σ H' ⟨F1, ρ1, μ1, s1, r1, e1, q1⟩ => z _ _ ⟨F1, .non, μ1, r1, e1, .non, q1⟩, fun v H' q => z _ _ q, fun _ _ ⟨_, _, _, _, _, _, q⟩ => q, fun _ _ ⟨_, _, _, _, _, _, q⟩ => q⟩
structure FnM (P : Program) (w : World) (K : PySem.W.Frag) (mg : Str → Option Value) (base : Heap) (k : Nat) (C : Addr) (m : Str) (sp : DSp) : Prop where
  ex : ∃ (f : Addr) (fd : FuncData) (ps : List Str), Meth K C m f ∧ Binds K fd ps [] ∧ FnOk P w K mg base CX0 k f fd ps (toSp K sp)
structure FnP (P : Program) (w : World) (K : PySem.W.Frag) (mg : Str → Option Value) (base : Heap) (k : Nat) (C : Addr) (m : Str) (sp : DSp) : Prop where
  ex : ∃ (p f : Addr) (fd : FuncData) (ps : List Str), PropOf K C m p f ∧ Binds K fd ps [] ∧ FnOk P w K mg base CX0 k f fd ps (toSp K sp)
/-- a method, a property of the text -/
def MT (K : PySem.W.Frag) (C : Addr) (m qual : Str) (st : Stmt) (ps : List Str) : Prop := ∃ (f : Addr) (fd : FuncData), Meth K C m f ∧ Fun K m qual st f fd ∧ Binds K fd ps []
def PrT (K : PySem.W.Frag) (C : Addr) (m qual : Str) (st : Stmt) (ps : List Str) : Prop := ∃ (p f : Addr) (fd : FuncData), PropOf K C m p f ∧ Fun K m qual st f fd ∧ Binds K fd ps []
structure ClsD (K : PySem.W.Frag) (mg : Str → Option Value) (x : Str) (C : Addr) : Prop where
  cl : Cls K C
  mgC : mg x = some (.ref C)
  makes : PySem.W.makesIn K C = true
  kp : PySem.W.keepIn K (.ref C) = true
section
variable {P : Program} {w : World} {K : PySem.W.Frag} {mg : Str → Option Value} {base : Heap} {C : Addr} {m qual : Str} {st : Stmt} {N ps : List Str} {sp : DSp}
theorem MT.ok (k : Nat) (T : MT K C m qual st ps) (S : FnScope N ps (defScope st)) (len : ∀ ds μ Q, sp ds μ Q → ds.length = ps.length)
    (body : ∀ ds μ Q, sp ds μ Q → WSs (gamF P w K mg base N (defScope st) k) (defBody st) (startD N ds) μ { nx := fun _ μ1 => Q .non μ1, rt := Q }) : FnM P w K mg base (k + 1) C m sp := by
  obtain ⟨f, fd, hm, F, hb⟩ := T
  exact ⟨f, fd, ps, hm, hb, fnok_of F S len body⟩
theorem PrT.ok (k : Nat) (T : PrT K C m qual st ps) (S : FnScope N ps (defScope st)) (len : ∀ ds μ Q, sp ds μ Q → ds.length = ps.length)
    (body : ∀ ds μ Q, sp ds μ Q → WSs (gamF P w K mg base N (defScope st) k) (defBody st) (startD N ds) μ { nx := fun _ μ1 => Q .non μ1, rt := Q }) : FnP P w K mg base (k + 1) C m sp := by
  obtain ⟨p, f, fd, hm, F, hb⟩ := T
  exact ⟨p, f, fd, ps, hm, hb, fnok_of F S len body⟩
end

section
variable {Γ : Gam} {ρ : Rho} {μ : Mem} {Q : D → Mem → Prop} {a b c e o : Expr} {es : List Expr} {pos p apos : Pos} {x f m : Str} {D' : DEnds} {C : Addr}
/-- o.f -/
theorem we_fld (cl : Cls Γ.K C) (n : NoAttr Γ.K C f) (hb : ∀ env, attributeBase o f env (eval o env) = eval o env := by intro _; rfl)
    (h : WE Γ o ρ μ fun x μ1 => ∃ a fs d, x = .loc a ∧ μ1 a = some (.ins C fs) ∧ fs.lookup f = some d ∧ Q d μ1) : WE Γ (.Attribute o f pos) ρ μ Q := fun σ F H s r =>
  semE.mk (t := tFld Γ.K (semE Γ o) f) (fun X hX => by have := pe_fld (X := X) (pos := pos) (pe_sem hX o) (hb _); rw [hX.K] at this; exact this) (h.go s r fun v F1 H1 x μ1 r1 e1 s1 p1 q1 => by
    obtain ⟨a, fs, d, rfl, m, l, q⟩ := q1
    cases p1
    obtain ⟨dx, vs, hH, g⟩ := r1.insAt m
    obtain ⟨v, h1, h2⟩ := g.look l
    exact ⟨a, C, dx, vs, v, rfl, hH, cl, n, h1, .ext e1 (.now r1 h2 q)⟩)
/-- o.f = e -/
theorem ws_fld (cl : Cls Γ.K C) (n : NoAttr Γ.K C f) {pos' : Pos} (hs : ∀ env, swapsWith e (some (.Attribute o f pos')) pos.line env = pure false := by intro _; rfl)
    (h : WE Γ e ρ μ fun d μ1 => WE Γ o ρ μ1 fun x μ2 => ∃ a fs, x = .loc a ∧ μ2 a = some (.ins C fs) ∧ fs.length < 1000 ∧ D'.nx ρ (μ2.upd a (.ins C (putFD f d fs)))) : WS Γ (.Assign [.Attribute o f pos'] e pos) ρ μ D' := fun σ F H s r =>
  semS.mk (t := sFld Γ.K (semE Γ o) (semE Γ e) f) (fun X hX => by have := ps_fld (X := X) (pe_sem hX o) (pe_sem hX e) (hs _); rw [hX.K] at this; exact this) (h.go s r fun v F1 H1 d μ1 r1 e1 s1 p1 h1 => h1.go s1 r1 fun ov F2 H2 od μ2 r2 e2 s2 p2 h2 => by
    obtain ⟨a, fs, rfl, m, hl, q⟩ := h2
    cases p2
    obtain ⟨dx, vs, hH, g⟩ := r2.insAt m
    obtain ⟨r3, e3⟩ := r2.put m (.ins (C := C) (dx := dx) (g.put (f := f) (p1.mono e2.fr)))
    exact ⟨a, C, dx, vs, rfl, hH, cl, n, by rw [g.len]; exact hl, F2, ρ, _, s2, r3, (e1.trans e2).trans e3, q⟩)
/-- o.f += e, ints -/
theorem ws_fldadd (cl : Cls Γ.K C) (n : NoAttr Γ.K C f) {pos' : Pos}
    (h : WE Γ o ρ μ fun x μ1 => ∃ a fs i, x = .loc a ∧ μ1 a = some (.ins C fs) ∧ fs.lookup f = some (.int i) ∧ WE Γ e ρ μ1 fun d μ2 => ∃ j fs2, d = .int j ∧ μ2 a = some (.ins C fs2) ∧ fs2.length < 1000 ∧ D'.nx ρ (μ2.upd a (.ins C (putFD f (.int (i + j)) fs2)))) :
    WS Γ (.AugAssign (.Attribute o f pos') .Add e pos) ρ μ D' := fun σ F H s r =>
  semS.mk (t := sFldAug Γ.K (semE Γ o) (semE Γ e) rAdd f) (fun X hX => by have := ps_fldaug (X := X) (f := f) (pos := pos) (tpos := pos') (pe_sem hX o) (pe_sem hX e) in_add; rw [hX.K] at this; exact this) (h.go s r fun ov F1 H1 od μ1 r1 e1 s1 p1 h1 => by
    obtain ⟨a, fs, i, rfl, m, l, h1⟩ := h1
    cases p1
    obtain ⟨dx, vs, hH, g⟩ := r1.insAt m
    obtain ⟨v, hv, pv⟩ := g.look l
    cases pv
    refine ⟨a, C, dx, vs, _, rfl, hH, cl, n, hv, h1.go s1 r1 fun v F2 H2 d μ2 r2 e2 s2 p2 h2 => ?_⟩
    obtain ⟨j, fs2, rfl, m2, hl, q⟩ := h2
    cases p2
    obtain ⟨dx2, vs2, hH2, g2⟩ := r2.insAt m2
    obtain ⟨r3, e3⟩ := r2.put m2 (.ins (C := C) (dx := dx2) (g2.put (f := f) (.int (i + j))))
    exact ⟨i, j, rfl, rfl, dx2, vs2, hH2, by rw [g2.len]; exact hl, F2, ρ, _, s2, r3, (e1.trans e2).trans e3, q⟩)
/-- o.m(..) -/
theorem we_meth {k : Nat} {sp : DSp} (cl : Cls Γ.K C) (M : FnM Γ.P Γ.w Γ.K Γ.mg Γ.base k C m sp) (hk : k ≤ Γ.k := by exact Nat.le_of_ble_eq_true rfl)
    (hst : ∀ env, starEach (e :: es) env = (false, eval e env) :: starEach es env := by intro _; rfl) (hpl : ∀ env, (backTo pos (starEach es env)).any (·.1) = false := by intro _; rfl)
    (ht : ∀ env, ∃ pl : Sem Bool, eval (.Call (.Attribute o m apos) (e :: es) [] pos) env = (do
      let ov ← eval o env
      standAt apos.atName
      let (f, first) ← holding [ov] (getMethod ov m pl)
      callWith pos f first (backTo pos (starEach (e :: es) env)) (backToKw pos (keywordEach [] env))) := by intro _; exact ⟨_, rfl⟩)
    (h : WE Γ o ρ μ fun x μ1 => ∃ a fs, x = .loc a ∧ μ1 a = some (.ins C fs) ∧ fs.lookup m = none ∧ WA Γ (e :: es) ρ μ1 fun ds μ2 => sp (.loc a :: ds) μ2 Q) : WE Γ (.Call (.Attribute o m apos) (e :: es) [] pos) ρ μ Q := fun σ F H s r => by
  obtain ⟨fa, fd, ps, hm, hb, hF⟩ := M.ex
  refine semE.mk (t := tMeth C m (toSp Γ.K sp) [] E0 (semE Γ o) (semA Γ (e :: es))) (fun X hX => ?_) (h.go s r fun v F1 H1 x μ1 r1 e1 s1 p1 q1 => ?_)
  · obtain ⟨pl, ht⟩ := ht X.env
    refine pe_meth (CX := CX0) (k := Γ.k) (fd := fd) (ps := ps) (f := fa) (pe_sem hX o) (by rw [hX.K]; exact cl) (by rw [hX.K]; exact hm) ?_ hX.room (by rw [hX.K]; exact hb) .nil pass0 (pa_sem hX _) (hst _) (hpl _) ht
    rw [hX.P, hX.w, hX.K, hX.mg, hX.base]
    exact hF.mono hk
  · obtain ⟨a, fs, rfl, mm, l, q⟩ := q1
    cases p1
    obtain ⟨dx, vs, hH, g⟩ := r1.insAt mm
    refine ⟨a, dx, vs, rfl, hH, g.miss l, q.go s1 r1 fun ws F2 H2 ds μ2 r2 e2 s2 p2 q2 => ?_⟩
    exact ⟨F2, μ2, _, Q, r2, by rw [List.append_nil]; exact .cons (.loc a) p2, q2, fun v H' q => q.ext (e1.trans e2)⟩
/-- o.m() -/
theorem we_meth0 {k : Nat} {sp : DSp} (cl : Cls Γ.K C) (M : FnM Γ.P Γ.w Γ.K Γ.mg Γ.base k C m sp) (hk : k ≤ Γ.k := by exact Nat.le_of_ble_eq_true rfl)
    (ht : ∀ env, ∃ pl : Sem Bool, eval (.Call (.Attribute o m apos) [] [] pos) env = (do
      let ov ← eval o env
      standAt apos.atName
      let (f, first) ← holding [ov] (getMethod ov m pl)
      callWith pos f first (backTo pos (starEach [] env)) (backToKw pos (keywordEach [] env))) := by intro _; exact ⟨_, rfl⟩)
    (h : WE Γ o ρ μ fun x μ1 => ∃ a fs, x = .loc a ∧ μ1 a = some (.ins C fs) ∧ fs.lookup m = none ∧ sp [.loc a] μ1 Q) : WE Γ (.Call (.Attribute o m apos) [] [] pos) ρ μ Q := fun σ F H s r => by
  obtain ⟨fa, fd, ps, hm, hb, hF⟩ := M.ex
  refine semE.mk (t := tMeth C m (toSp Γ.K sp) [] E0 (semE Γ o) tNil) (fun X hX => ?_) (h.go s r fun v F1 H1 x μ1 r1 e1 s1 p1 q1 => ?_)
  · obtain ⟨pl, ht⟩ := ht X.env
    refine pe_meth0 (CX := CX0) (k := Γ.k) (fd := fd) (ps := ps) (f := fa) (pe_sem hX o) (by rw [hX.K]; exact cl) (by rw [hX.K]; exact hm) ?_ hX.room (by rw [hX.K]; exact hb) .nil pass0 ht
    rw [hX.P, hX.w, hX.K, hX.mg, hX.base]
    exact hF.mono hk
  · obtain ⟨a, fs, rfl, mm, l, q⟩ := q1
    cases p1
    obtain ⟨dx, vs, hH, g⟩ := r1.insAt mm
    exact ⟨a, dx, vs, rfl, hH, g.miss l, F1, μ1, [.loc a], Q, r1, .cons (.loc a) .nil, q, fun v H' q => q.ext e1⟩
/-- o.f, a property -/
theorem we_prop {k : Nat} {sp : DSp} (cl : Cls Γ.K C) (M : FnP Γ.P Γ.w Γ.K Γ.mg Γ.base k C f sp) (hk : k + 1 ≤ Γ.k := by exact Nat.le_of_ble_eq_true rfl)
    (hab : ∀ env, attributeBase o f env (eval o env) = eval o env := by intro _; rfl)
    (h : WE Γ o ρ μ fun x μ1 => ∃ a fs, x = .loc a ∧ μ1 a = some (.ins C fs) ∧ sp [.loc a] μ1 Q) : WE Γ (.Attribute o f pos) ρ μ Q := fun σ F H s r => by
  obtain ⟨pa, fa, fd, ps, hm, hb, hF⟩ := M.ex
  refine semE.mk (t := tProp C (toSp Γ.K sp) [] E0 (semE Γ o)) (fun X hX => ?_) (h.go s r fun v F1 H1 x μ1 r1 e1 s1 p1 q1 => ?_)
  · refine pe_prop (CX := CX0) (k := k) (fd := fd) (ps := ps) (pe_sem hX o) (by rw [hX.K]; exact cl) (by rw [hX.K]; exact hm) ?_ (hX.room.mono hk) (by rw [hX.K]; exact hb) .nil pass0 (hab _)
    rw [hX.P, hX.w, hX.K, hX.mg, hX.base]
    exact hF
  · obtain ⟨a, fs, rfl, mm, q⟩ := q1
    cases p1
    obtain ⟨dx, vs, hH, g⟩ := r1.insAt mm
    exact ⟨a, dx, vs, rfl, hH, F1, μ1, [.loc a], Q, r1, .cons (.loc a) .nil, q, fun v H' q => q.ext e1⟩
/-- C(..) -/
theorem we_make {k : Nat} {sp : DSp} (T : ClsD Γ.K Γ.mg x C) (M : FnM Γ.P Γ.w Γ.K Γ.mg Γ.base k C "__init__" sp) (hk : k + 1 ≤ Γ.k := by exact Nat.le_of_ble_eq_true rfl) (hg : GlD Γ x := by rfl) (hdb : (x == ("__debug__" : Str)) = false := by decide)
    (he : ∀ env, starEach (e :: es) env = (false, eval e env) :: starEach es env := by intro _; rfl) (hpl : ∀ env, (backTo pos (starEach es env)).any (·.1) = false := by intro _; rfl)
    (h : WA Γ (e :: es) ρ μ fun ds μ1 => ∀ z, μ1 z = none → sp (.loc z :: ds) (μ1.upd z (.ins C [])) fun d μ2 => d = .non ∧ Q (.loc z) μ2) : WE Γ (.Call (.Name x p) (e :: es) [] pos) ρ μ Q := fun σ F H s r => by
  obtain ⟨fa, fd, ps, hm, hb, hF⟩ := M.ex
  refine semE.mk (t := tMake C (toSp Γ.K sp) [] E0 (semA Γ (e :: es))) (fun X hX => ?_) (h.go s r fun vs F1 H1 ds μ1 r1 e1 s1 p1 q1 => ?_)
  · refine pe_make (CX := CX0) (k := k) (fd := fd) (ps := ps) (f := fa) ⟨by rw [hX.K]; exact T.makes, by rw [hX.K]; exact hm.at_, by rw [hX.K]; exact hm.fn, by rw [hX.K]; exact T.kp⟩ ?_ (hX.room.mono hk) (hX.gl hg) (by rw [hX.mg]; exact T.mgC) (by rw [hX.K]; exact hb) .nil pass0 (pa_sem hX _) hdb (he _) (hpl _)
    rw [hX.P, hX.w, hX.K, hX.mg, hX.base]
    exact hF
  · intro z dx nz ndx nez
    obtain ⟨_, hμ⟩ := r1.fresh nz
    obtain ⟨r2, e2⟩ := r1.junk ndx (.own z)
    obtain ⟨r3, e3⟩ := r2.layM (p := z) (by rw [L2.upd_ne (Ne.symm nez)]; exact nz) (o := .ins C dx []) (m := .ins C []) (.ins .nil)
    refine ⟨F1, _, .loc z :: ds, _, r3, by rw [List.append_nil]; exact .cons (.loc z) p1, q1 z hμ, fun v H' q => ?_⟩
    obtain ⟨F4, d, μ4, r4, e4, p4, rfl, q4⟩ := q
    cases p4
    exact ⟨rfl, F4, .loc z, μ4, r4, ((e1.trans e2).trans e3).trans e4, .loc z, q4⟩
end
end DL
/-! DL: sorted of tuples of ints, any number of them, of any lengths -/
namespace DL
open PySem L2 PyProof.Rows
def lexL : List Int → List Int → Bool
  | [], [] => false | [], _ :: _ => true | _ :: _, [] => false
  | a :: as, b :: bs => if a = b then lexL as bs else decide (a < b)
theorem lexL_asym : ∀ x y, lexL x y = true → lexL y x = false
  | [], [], _ => rfl
  | [], _ :: _, _ => rfl
  | _ :: _, [], h => by cases h
  | a :: as, b :: bs, h => by
    unfold lexL at h ⊢
    by_cases e : a = b
    · rw [if_pos e] at h; rw [if_pos e.symm]; exact lexL_asym as bs h
    · rw [if_neg e] at h; rw [if_neg (Ne.symm e)]
      have := of_decide_eq_true h
      exact decide_eq_false (by omega)
theorem lexL_tr : ∀ x y z, lexL y x = false → lexL z y = false → lexL z x = false
  | [], y, z, h1, h2 => by cases z <;> rfl
  | x :: xs, [], z, h1, h2 => by cases h1
  | x :: xs, y :: ys, [], h1, h2 => by cases h2
  | x :: xs, y :: ys, z :: zs, h1, h2 => by
    unfold lexL at h1 h2 ⊢
    by_cases e1 : y = x
    · rw [if_pos e1] at h1
      by_cases e2 : z = y
      · rw [if_pos e2] at h2; rw [if_pos (by omega)]; exact lexL_tr xs ys zs h1 h2
      · rw [if_neg e2] at h2
        have := of_decide_eq_false h2
        rw [if_neg (by omega)]; exact decide_eq_false (by omega)
    · rw [if_neg e1] at h1
      have a1 := of_decide_eq_false h1
      by_cases e2 : z = y
      · rw [if_neg (by omega)]; exact decide_eq_false (by omega)
      · rw [if_neg e2] at h2
        have := of_decide_eq_false h2
        rw [if_neg (by omega)]; exact decide_eq_false (by omega)
theorem lexL_swo {α : Type} (k : α → List Int) : SrtO.Swo fun v u => lexL (k v) (k u) := ⟨fun x y => lexL_asym (k x) (k y), fun x y z => lexL_tr (k x) (k y) (k z)⟩
theorem lexL_eq : ∀ x y, lexL x y = false → lexL y x = false → x = y
  | [], [], _, _ => rfl
  | [], _ :: _, h, _ => by cases h
  | _ :: _, [], _, h => by cases h
  | a :: as, b :: bs, h1, h2 => by
    unfold lexL at h1 h2
    by_cases e : a = b
    · subst e; rw [if_pos rfl] at h1 h2; rw [lexL_eq as bs h1 h2]
    · rw [if_neg e] at h1; rw [if_neg (Ne.symm e)] at h2
      have := of_decide_eq_false h1
      have := of_decide_eq_false h2
      omega
section
variable {prog : Program} {w : World} {A : Around} {E : Value → Shared → Prop} {s : Shared}
theorem lex_ints {b fin : Bool} {xs ys : List Value} {ns ms : List Int} {Q : Bool → Shared → Prop} (i : Nat) (hx : IntsAre xs ns) (hy : IntsAre ys ms) (hf : fin = decide (ns.length < ms.length))
    (h : Q (lexL ns ms) s) : PySem.W.KatLex prog w A b fin Q (xs.zip ys) i s := by
  induction hx generalizing ys ms i with
  | nil =>
    cases hy with
    | nil => subst hf; exact PySem.W.kat_nil h
    | cons q u hy =>
      have : fin = true := by rw [hf]; exact decide_eq_true (by simp)
      subst this; exact PySem.W.kat_nil h
  | @cons p t xs ns hx ih =>
    cases hy with
    | nil =>
      have : fin = false := by rw [hf]; exact decide_eq_false (by simp)
      subst this; exact PySem.W.kat_nil h
    | @cons q u ys ms hy =>
      have hf' : fin = decide (ns.length < ms.length) := by rw [hf]; exact decide_eq_decide.mpr (by simp)
      show PySem.W.KatLex prog w A b fin Q ((Value.int p t, Value.int q u) :: xs.zip ys) i s
      refine PySem.W.kat_cons (wpAny_eqBool_int ?_)
      unfold lexL at h
      by_cases e : p = q
      · subst e
        rw [beq_self_eq_true]
        rw [if_pos rfl] at h
        exact PySem.W.kat_yes (ih (i + 1) hy hf' h)
      · rw [show (p == q) = false from beq_eq_false_iff_ne.mpr e]
        rw [if_neg e] at h
        exact PySem.W.kat_no (TS.oneLt_ints _ h)
def TupsAny (h : Heap) (vs : List Value) : Prop := ∀ v, v ∈ vs → ∃ ns, TS.TupInts h v ns ∧ ns ≠ []
theorem firsts_any {h : Heap} : ∀ vs : List Value, TupsAny h vs → ∃ fs, PySem.W.KatTups h vs fs ∧ fs.length = vs.length ∧ ∀ f, f ∈ fs → ∃ n t, f = Value.int n t
  | [], _ => ⟨[], PySem.W.KatTups.nil, rfl, fun f hf => by simp at hf⟩
  | v :: vs, x => by
    obtain ⟨fs, k, hl, hi⟩ := firsts_any vs fun u hu => x u (List.mem_cons_of_mem _ hu)
    obtain ⟨ns, ⟨a, xs, rfl, ⟨o, ho, hc, n, hdt⟩, i⟩, hn⟩ := x v (List.mem_cons_self ..)
    obtain ⟨y, ys, e⟩ : ∃ y ys, xs.toList = y :: ys := by
      cases q : xs.toList with
      | nil =>
        rw [q] at i
        have l := i.length
        exact absurd (List.eq_nil_of_length_eq_zero l.symm) hn
      | cons y ys => exact ⟨y, ys, rfl⟩
    obtain ⟨m, t, hy⟩ := i.all y (by rw [e]; exact List.mem_cons_self ..)
    refine ⟨y :: fs, PySem.W.KatTups.cons ho hc hdt ?_ k, by simp [hl], ?_⟩
    · have z := congrArg (fun l : List Value => l[0]?) e
      simpa using z
    · intro f hf
      rcases List.mem_cons.mp hf with rfl | hf
      · exact ⟨m, t, hy⟩
      · exact hi f hf
theorem tups_cmp {vs : List Value} (h₀ : Heap) (hp : ∀ v ∈ vs, ∃ ns, TS.TupInts s.heap v ns ∧ TS.intsOf h₀ v = ns) : SrtO.Cmp prog w A s (tuples' true) (fun p => p.1 ∈ vs) (SrtO.lt2 fun v u => lexL (TS.intsOf h₀ v) (TS.intsOf h₀ u)) := by
  intro p q hm hm'
  obtain ⟨ns, tp, ep⟩ := hp _ hm
  obtain ⟨ms, tq, eq2⟩ := hp _ hm'
  show wpAny (model prog w) A (keyLt' (tuples' true) p.1 q.1) (fun r s' => s' = s ∧ r = lexL (TS.intsOf h₀ p.1) (TS.intsOf h₀ q.1)) (fun _ _ => False) s
  rw [ep, eq2]
  obtain ⟨a, xs, e1, ⟨o, ho, hc, n, hdt⟩, i⟩ := tp
  obtain ⟨a', ys, e2, ⟨o', ho', hc', n', hdt'⟩, i'⟩ := tq
  rw [e1, e2]
  refine PySem.W.kat_lt ho hdt ho' hdt' ?_
  have l1 := i.length
  have l2 := i'.length
  rw [Array.length_toList] at l1 l2
  exact lex_ints 0 i i' (by rw [l1, l2]) ⟨rfl, rfl⟩
theorem tups_sortable {a : Addr} {vs : List Value} (h₀ : Heap) (h0 : 0 < vs.length) (hp : ∀ v ∈ vs, ∃ ns, TS.TupInts s.heap v ns ∧ ns ≠ [] ∧ TS.intsOf h₀ v = ns) (ha : ∀ o, s.heap.get? a = some o → o.cls ≠ .type "tuple") :
    SrtO.SortableO prog w A s a vs fun v u => lexL (TS.intsOf h₀ v) (TS.intsOf h₀ u) := by
  intro h' keep
  have hp' : ∀ v ∈ vs, ∃ ns, TS.TupInts h' v ns ∧ ns ≠ [] ∧ TS.intsOf h₀ v = ns := fun v hm => by
    obtain ⟨ns, t, r⟩ := hp v hm
    exact ⟨ns, t.keeps fun b o e c => keep b o (fun z => by subst z; exact ha o e c) e, r⟩
  obtain ⟨fs, h1, h2, h3⟩ := firsts_any vs fun v hm => by obtain ⟨ns, t, r, _⟩ := hp' v hm; exact ⟨ns, t, r⟩
  refine ⟨tuples' true, fun Q E hq => ?_, tups_cmp (s := { s with heap := h' }) h₀ fun v hv => by obtain ⟨ns, t, r, e⟩ := hp' v hv; exact ⟨ns, t, e⟩⟩
  refine PySem.W.kat_kind (T := .type "int") h1 (by omega) (fun f hm => ?_) (by rfl) ?_
  · obtain ⟨x, t, rfl⟩ := h3 f hm
    exact PySem.W.Looks.now
  · have e : (Value.type "int" != Value.type "tuple") = true := by first | decide +kernel | rfl | decide
    rw [e]
    exact hq
end
/-- sorted(xs), a list of tuples of ints -/
def rSortL (K : PySem.W.Frag) : List V → Hp → VK → Prop := fun vs H Q => ∃ (a : Addr) (xs : List V), vs = [V.ref a] ∧ SqL K H a xs ∧ (∀ x ∈ xs, ∃ ns, TupI K H x ns ∧ ns ≠ []) ∧
  ∀ (ys : List V) (p : Addr), ys.Perm xs → ys.Pairwise (fun x y => ∀ n m, TupI K H x n → TupI K H y m → lexL m n = false) → H p = none → Q (.ref p) (L2.upd H p (.lst ys))
theorem cr_sortL {X : Cx} : CallR X (.builtin "sorted") (rSortL X.K) := by
  intro pins s σ H vs us Q I r h
  obtain ⟨a, xs, rfl, hs, hx, q⟩ := h
  obtain ⟨its, rv, hl, hz⟩ := I.list hs
  rw [Vals.ref1 r]
  obtain ⟨e1, e2⟩ := bkV_refs rv fun x m => by
    obtain ⟨ns, ⟨t, e, _⟩, _⟩ := hx x m
    exact ⟨t, e⟩
  have hraw : ∀ v ∈ its, ∃ ns, TS.TupInts s.heap v ns ∧ ns ≠ [] ∧ TS.intsOf s.heap v = ns := fun v hv => by
    obtain ⟨t, rfl⟩ := e2 v hv
    have hm : V.ref t ∈ xs := by
      rw [e1]
      exact List.mem_map.mpr ⟨_, hv, rfl⟩
    obtain ⟨ns, ⟨t', e, ht⟩, hn⟩ := hx _ hm
    cases e
    exact ⟨ns, tupI_raw I ht, hn, (tupI_raw I ht).ints⟩
  refine SrtO.sorted_ord (lexL_swo (TS.intsOf s.heap)) hl.isList (by rw [← rv.length]; exact hz) (fun h2 h₁ a' ha kk => ?_) fun out hso hst => ?_
  · refine tups_sortable (s := { s with heap := h₁ }) s.heap (by omega) (fun v hm => ?_) fun o e => ?_
    · obtain ⟨ns, t, r⟩ := hraw v hm
      exact ⟨ns, t.keeps fun b o e _ => (kk b o e).2, r⟩
    · have e' : some o = some (seqObj "list" its.toArray 0) := e.symm.trans ha
      cases e'
      intro c
      exact absurd (Value.type.inj c) (by decide)
  · obtain ⟨ep, he'⟩ := PyProof.Rows.sortedAll_at s.heap its out.toArray
    have h3 : ∀ u ∈ out, ∃ a, u = Value.ref a := fun u hu => e2 u (hst.perm.mem_iff.mp hu)
    have hp : (out.map bkV).Perm xs := by
      rw [e1]
      exact hst.perm.map bkV
    have hlen : (out.map bkV).length ≤ sizeLine := by
      rw [hp.length_eq]
      exact hz
    refine ⟨.ref _, L2.upd H (s.heap.objs.size + 1) (.lst (out.map bkV)), I.laid (t' := s.toks) (fun _ _ => PyProof.Rows.sortedAll_old) (Nat.le_succ _) ⟨hlen, out, ep, bkV_vals h3, he'⟩, rfl, q _ _ hp ?_ (I.hok.fresh (Nat.le_succ _))⟩
    rw [List.pairwise_map]
    have hmem : out.Pairwise fun u v => u ∈ out ∧ v ∈ out ∧ lexL (TS.intsOf s.heap v) (TS.intsOf s.heap u) = false := by
      have : out.Pairwise fun x y => lexL (TS.intsOf s.heap y) (TS.intsOf s.heap x) = false := hso
      rw [List.pairwise_iff_getElem] at this ⊢
      exact fun i j hi hj hij => ⟨List.getElem_mem hi, List.getElem_mem hj, this i j hi hj hij⟩
    refine hmem.imp fun {u v} ⟨hu, hv, huv⟩ n m hn hm => ?_
    obtain ⟨t, rfl⟩ := h3 u hu
    obtain ⟨t', rfl⟩ := h3 v hv
    obtain ⟨_, et, ht⟩ := hn
    obtain ⟨_, et', ht'⟩ := hm
    cases et; cases et'
    rw [(tupI_raw I ht).ints, (tupI_raw I ht').ints] at huv
    exact huv

/-! ### over data -/
theorem Reps.perm {K : PySem.W.Frag} {F : Hp} {xs ys : List V} (p : ys.Perm xs) : ∀ {ds : List D}, Reps K F xs ds → ∃ es : List D, es.Perm ds ∧ Reps K F ys es := by
  have : ∀ {a b : List V}, a.Perm b → (∀ {ds : List D}, Reps K F b ds → ∃ es : List D, es.Perm ds ∧ Reps K F a es) ∧ (∀ {ds : List D}, Reps K F a ds → ∃ es : List D, es.Perm ds ∧ Reps K F b es) := by
    intro a b p
    induction p with
    | nil => exact ⟨fun h => ⟨_, .refl _, h⟩, fun h => ⟨_, .refl _, h⟩⟩
    | @cons x l m _ ih =>
      constructor
      · intro ds h
        cases h with
        | cons p t => obtain ⟨es, e1, e2⟩ := ih.1 t; exact ⟨_, e1.cons _, .cons p e2⟩
      · intro ds h
        cases h with
        | cons p t => obtain ⟨es, e1, e2⟩ := ih.2 t; exact ⟨_, e1.cons _, .cons p e2⟩
    | @swap x y l =>
      constructor
      · intro ds h
        cases h with
        | cons p t => cases t with
          | cons p2 t => exact ⟨_, .swap _ _ _, .cons p2 (.cons p t)⟩
      · intro ds h
        cases h with
        | cons p t => cases t with
          | cons p2 t => exact ⟨_, .swap _ _ _, .cons p2 (.cons p t)⟩
    | trans _ _ h1 h2 =>
      constructor
      · intro ds h
        obtain ⟨es, e1, e2⟩ := h2.1 h
        obtain ⟨fs, f1, f2⟩ := h1.1 e2
        exact ⟨fs, f1.trans e1, f2⟩
      · intro ds h
        obtain ⟨es, e1, e2⟩ := h1.2 h
        obtain ⟨fs, f1, f2⟩ := h2.2 e2
        exact ⟨fs, f1.trans e1, f2⟩
  intro ds h; exact (this p).1 h
def tI (r : List Int) : D := .tup (r.map .int)
theorem tI_inj {a b : List Int} (h : tI a = tI b) : a = b := by
  have : ∀ {l m : List Int}, l.map D.int = m.map D.int → l = m := by
    intro l
    induction l with
    | nil => intro m h; cases m with
      | nil => rfl
      | cons _ _ => cases h
    | cons a l ih => intro m h; cases m with
      | nil => cases h
      | cons b m =>
        rw [List.map_cons, List.map_cons, List.cons.injEq, D.int.injEq] at h
        rw [h.1, ih h.2]
  exact this (D.tup.inj h)
theorem perm_tI : ∀ (es : List D) (rows : List (List Int)), es.Perm (rows.map tI) → ∃ ms : List (List Int), es = ms.map tI ∧ ms.Perm rows
  | [], L, h => ⟨[], rfl, by
      have := h.length_eq
      rw [List.length_map] at this
      rw [List.eq_nil_of_length_eq_zero this.symm]⟩
  | y :: ys, L, h => by
    obtain ⟨x, hx, rfl⟩ := List.mem_map.mp (h.mem_iff.mp (by simp : y ∈ y :: ys))
    have p := List.perm_cons_erase hx
    have h2 : ys.Perm ((L.erase x).map tI) := (h.trans (p.map tI)).cons_inv
    obtain ⟨lots, rfl, q⟩ := perm_tI ys _ h2
    exact ⟨x :: lots, rfl, (q.cons x).trans p.symm⟩
section
variable {Γ : Gam} {μ : Mem} {Q : D → Mem → Prop}
theorem wc_sortedT {d : D} {rows : List (List Int)} (s : d = .lst (rows.map tI) ∨ ∃ a, d = .loc a ∧ μ a = some (.lst (rows.map tI))) (hne : ∀ r ∈ rows, r ≠ [])
    (q : ∀ ms : List (List Int), ms.Perm rows → ms.Pairwise (fun x y => lexL y x = false) → Q (.lst (ms.map tI)) μ) : WC Γ (.builtin "sorted") [d] μ Q := fun vs F H p r => by
  obtain ⟨v, rfl, g⟩ := reps1 p
  obtain ⟨a, xs, rfl, g1, g2⟩ : ∃ a xs, v = V.ref a ∧ SqL Γ.K H a xs ∧ Reps Γ.K F xs (rows.map tI) := by
    rcases s with rfl | ⟨a, rfl, m⟩
    · cases g with
      | @lst a xs _ h1 h2 => exact ⟨a, xs, rfl, SqL.of (r.same _ _ h1), h2⟩
    · cases g
      obtain ⟨xs, hH, gx⟩ := r.lstAt m
      exact ⟨a, xs, rfl, SqL.of hH, gx⟩
  have tup : ∀ {xs : List V} {rs : List (List Int)}, Reps Γ.K F xs (rs.map tI) → ∀ x ∈ xs, ∃ ns ∈ rs, TupI Γ.K H x ns := by
    intro xs rs h
    induction rs generalizing xs with
    | nil => cases h; intro x hx; cases hx
    | cons n rs ih =>
      cases h with
      | cons p t =>
        intro x hx
        rcases List.mem_cons.mp hx with rfl | hx
        · cases p with
          | tup h1 h2 =>
            obtain rfl := Reps.ints n h2
            exact ⟨n, by simp, _, rfl, same_seqT r.same h1⟩
        · obtain ⟨ns, h1, h2⟩ := ih t x hx
          exact ⟨ns, by simp [h1], h2⟩
  refine semC.mk (r := rSortL Γ.K) (fun X hX => hX.K ▸ cr_sortL) ⟨a, xs, rfl, g1, fun x hx => ?_, fun ys p hp hs hn => ?_⟩
  · obtain ⟨ns, h1, h2⟩ := tup g2 x hx
    exact ⟨ns, h2, hne ns h1⟩
  · obtain ⟨es, h1, h2⟩ := Reps.perm hp g2
    obtain ⟨ms, rfl, h3⟩ := perm_tI es rows h1
    refine post_lst r h2 (q ms h3 ?_) p hn
    have at' : ∀ {xs : List V} {rs : List (List Int)}, Reps Γ.K F xs (rs.map tI) → xs.Pairwise (fun x y => ∀ n m, TupI Γ.K H x n → TupI Γ.K H y m → lexL m n = false) → rs.Pairwise fun x y => lexL y x = false := by
      intro xs rs h
      induction rs generalizing xs with
      | nil => intro _; exact .nil
      | cons n rs ih =>
        cases h with
        | @cons v vs _ _ p t =>
          intro hp
          have hp' := List.pairwise_cons.mp hp
          refine List.Pairwise.cons (fun m hm => ?_) (ih t hp'.2)
          have hv : TupI Γ.K H v n := by
            cases p with
            | tup h1 h2 => obtain rfl := Reps.ints n h2; exact ⟨_, rfl, same_seqT r.same h1⟩
          obtain ⟨i, hi, rfl⟩ := List.mem_iff_getElem.mp hm
          have : ∃ x ∈ vs, TupI Γ.K H x rs[i] := by
            have hget : ∀ {xs : List V} {rs : List (List Int)}, Reps Γ.K F xs (rs.map tI) → ∀ m ∈ rs, ∃ x ∈ xs, TupI Γ.K H x m := by
              intro xs rs h
              induction rs generalizing xs with
              | nil => intro m hm; cases hm
              | cons n rs ih =>
                cases h with
                | cons p t =>
                  intro m hm
                  rcases List.mem_cons.mp hm with rfl | hm
                  · cases p with
                    | tup h1 h2 => obtain rfl := Reps.ints m h2; exact ⟨_, by simp, _, rfl, same_seqT r.same h1⟩
                  · obtain ⟨x, h1, h2⟩ := ih t m hm
                    exact ⟨x, by simp [h1], h2⟩
            exact hget t _ (List.getElem_mem hi)
          obtain ⟨x, hx, tx⟩ := this
          exact hp'.1 x hx _ _ hv tx
    exact at' h2 hs
end
end DL
/-! DL: what the top has left of classes -/
namespace DL
open PySem L2
section
variable {K : PySem.W.Frag} {mg : Str → Option Value} {h : Heap} {x m qual : Str} {C f p : Addr} {st : Stmt} {ps : List Str} {oc : Value} {od an : Option Addr} {sl : Array (Option Value)} {kV dc pm cd ct : Value} {rest : List Value}
theorem ClsD.of (X : K.In h) (G : h.Ns mainGlobals mg) (a : PySem.W.nsIn K mainGlobals x = some (some (.ref C))) (pg : PySem.W.plainGet K C Str.empty = true) (hd : PySem.W.hasDictIn K C = true) (po : PySem.W.plainOver K C = true) (sa : PySem.W.findIn K (.ref C) "__setattr__" = some (some (.builtin "object.__setattr__")))
    (mk : PySem.W.makesIn K C = true) (kc : PySem.W.keepIn K (.ref C) = true) : ClsD K mg x C := ⟨⟨pg, hd, po, sa⟩, PySem.W.mg_of X G a, mk, kc⟩
theorem MT.of (a : PySem.W.findIn K (.ref C) m = some (some (.ref f))) (i : PySem.W.isFn K (.ref f) = true) (l : K.lookup f = some ⟨oc, od, .func (PySem.W.fnOf m qual (defArgs st) (defBody st) (defScope st) .none kV dc pm an cd ct), sl⟩) (c : PySem.W.codeIn K cd qual = true) (k : PySem.W.keepIn K (.ref f) = true)
    (b : ∀ (kV doc pm : Value) (an : Option Addr) (cdv ct : Value) (us : List Value), us.length = ps.length → bindArgs (PySem.W.fnOf m qual (defArgs st) (defBody st) (defScope st) .none kV doc pm an cdv ct) ⟨us, []⟩ = pure (ps.zip us)) : MT K C m qual st ps :=
  ⟨f, _, ⟨a, i, k⟩, fun_mk (st := st) l c k, (fun_mk (st := st) l c k).binds b⟩
theorem PrT.of (a : PySem.W.findIn K (.ref C) m = some (some (.ref p))) (g : PySem.W.specialIn K (.ref p) "__get__" = some (some (.builtin "property.__get__"))) (t : PySem.W.takesIn K (.ref p) = some true) (r : PySem.W.recIn K p "property" = some (.ref f :: rest))
    (l : K.lookup f = some ⟨oc, od, .func (PySem.W.fnOf m qual (defArgs st) (defBody st) (defScope st) .none kV dc pm an cd ct), sl⟩) (c : PySem.W.codeIn K cd qual = true) (k : PySem.W.keepIn K (.ref f) = true)
    (b : ∀ (kV doc pm : Value) (an : Option Addr) (cdv ct : Value) (us : List Value), us.length = ps.length → bindArgs (PySem.W.fnOf m qual (defArgs st) (defBody st) (defScope st) .none kV doc pm an cdv ct) ⟨us, []⟩ = pure (ps.zip us)) : PrT K C m qual st ps :=
  ⟨p, f, _, ⟨a, g, t, rest, r⟩, fun_mk (st := st) l c k, (fun_mk (st := st) l c k).binds b⟩
end
end DL
/-! windows: the mathematics (shared by the window laws) -/
namespace Win
open PySem L2 DL

/-! ### sorting -/
def sortA (l : List Int) : List Int := l.mergeSort fun a b => decide (a ≤ b)
def sortD (l : List Int) : List Int := l.mergeSort fun a b => decide (b ≤ a)
theorem sortA_perm (l : List Int) : (sortA l).Perm l := List.mergeSort_perm _ _
theorem sortD_perm (l : List Int) : (sortD l).Perm l := List.mergeSort_perm _ _
theorem sortA_pw (l : List Int) : (sortA l).Pairwise (· ≤ ·) := by
  have := List.pairwise_mergeSort (le := fun a b : Int => decide (a ≤ b)) (by intro a b c h1 h2; simp only [decide_eq_true_eq] at *; omega) (by intro a b; simp only [Bool.or_eq_true, decide_eq_true_eq]; omega) l
  exact this.imp (by intro a b h; simpa using h)
theorem sortD_pw (l : List Int) : (sortD l).Pairwise (· ≥ ·) := by
  have := List.pairwise_mergeSort (le := fun a b : Int => decide (b ≤ a)) (by intro a b c h1 h2; simp only [decide_eq_true_eq] at *; omega) (by intro a b; simp only [Bool.or_eq_true, decide_eq_true_eq]; omega) l
  exact this.imp (by intro a b h; simpa using h)
theorem sortA_of {l m : List Int} (h : m.Perm l) (p : m.Pairwise (· ≤ ·)) : m = sortA l :=
  List.Perm.eq_of_pairwise (le := (· ≤ ·)) (fun a b _ _ h1 h2 => by omega) p (sortA_pw l) (h.trans (sortA_perm l).symm)
theorem sortD_of {l m : List Int} (h : m.Perm l) (p : m.Pairwise (· ≥ ·)) : m = sortD l :=
  List.Perm.eq_of_pairwise (le := (· ≥ ·)) (fun a b _ _ h1 h2 => by omega) p (sortD_pw l) (h.trans (sortD_perm l).symm)
theorem sortD_congr {l m : List Int} (h : m.Perm l) : sortD m = sortD l := sortD_of ((sortD_perm m).trans h) (sortD_pw m)
/-- into a descending list -/
def ins (v : Int) : List Int → List Int
  | [] => [v]
  | x :: s => if v ≤ x then x :: ins v s else v :: x :: s
theorem ins_perm (v : Int) : ∀ s : List Int, (ins v s).Perm (s ++ [v])
  | [] => .refl _
  | x :: s => by
    unfold ins
    split
    · exact (ins_perm v s).cons x
    · exact (List.perm_append_comm (l₁ := x :: s) (l₂ := [v])).symm
theorem ins_mem {v y : Int} {s : List Int} (h : y ∈ ins v s) : y = v ∨ y ∈ s := by
  have := (ins_perm v s).mem_iff.mp h
  simp at this
  exact this.symm
theorem ins_pw (v : Int) : ∀ s : List Int, s.Pairwise (· ≥ ·) → (ins v s).Pairwise (· ≥ ·)
  | [], _ => by simp [ins]
  | x :: s, h => by
    rw [List.pairwise_cons] at h
    unfold ins
    split
    · rename_i hv
      rw [List.pairwise_cons]
      refine ⟨fun y hy => ?_, ins_pw v s h.2⟩
      rcases ins_mem hy with rfl | hy
      · exact hv
      · exact h.1 y hy
    · rename_i hv
      rw [List.pairwise_cons]
      refine ⟨fun y hy => ?_, List.pairwise_cons.mpr h⟩
      rcases List.mem_cons.mp hy with rfl | hy
      · omega
      · have := h.1 y hy; omega
theorem sortD_snoc (l : List Int) (v : Int) : sortD (l ++ [v]) = ins v (sortD l) :=
  (sortD_of ((ins_perm v _).trans ((sortD_perm l).append_right _)) (ins_pw v _ (sortD_pw l))).symm
theorem take_cons_take (K : Nat) (x : Int) (s : List Int) : (x :: s.take K).take K = (x :: s).take K := by
  cases K with
  | zero => simp
  | succ K => simp [List.take_take]
theorem take_ins (v : Int) : ∀ (K : Nat) (s : List Int), (ins v (s.take K)).take K = (ins v s).take K
  | 0, s => by simp
  | K + 1, [] => by simp
  | K + 1, x :: s => by
    rw [List.take_succ_cons]
    unfold ins
    split
    · rw [List.take_succ_cons, List.take_succ_cons, take_ins v K s]
    · rw [List.take_succ_cons, List.take_succ_cons, take_cons_take]
/-- the K greatest, descending -/
def topK (K : Nat) (l : List Int) : List Int := (sortD l).take K
theorem topK_pw (K : Nat) (l : List Int) : (topK K l).Pairwise (· ≥ ·) := (sortD_pw l).sublist (List.take_sublist _ _)
theorem sortD_self {l : List Int} (h : l.Pairwise (· ≥ ·)) : sortD l = l := (sortD_of (.refl _) h).symm
theorem topK_step (K : Nat) (l : List Int) (v : Int) : topK K (topK K l ++ [v]) = topK K (l ++ [v]) := by
  show (sortD (topK K l ++ [v])).take K = (sortD (l ++ [v])).take K
  rw [sortD_snoc, sortD_snoc, sortD_self (topK_pw K l)]
  exact take_ins v K (sortD l)
theorem topK_nil (K : Nat) : topK K [] = [] := by
  have : sortD [] = [] := sortD_self .nil
  unfold topK; rw [this]; simp
theorem topK_len (K : Nat) (l : List Int) : (topK K l).length ≤ K := by unfold topK; rw [List.length_take]; omega

/-! ### grouping -/
def vals (kvs : List (Int × Int)) (k : Int) : List Int := (kvs.filter fun p => decide (p.1 = k)).map (·.2)
def dkeys (kvs : List (Int × Int)) : List Int := kvs.foldl (fun acc p => if p.1 ∈ acc then acc else acc ++ [p.1]) []
theorem vals_snoc (kvs : List (Int × Int)) (k v k' : Int) : vals (kvs ++ [(k, v)]) k' = vals kvs k' ++ if k = k' then [v] else [] := by
  unfold vals
  rw [List.filter_append, List.map_append]
  by_cases h : k = k' <;> simp [h]
theorem dkeys_snoc (kvs : List (Int × Int)) (k v : Int) : dkeys (kvs ++ [(k, v)]) = if k ∈ dkeys kvs then dkeys kvs else dkeys kvs ++ [k] := by
  unfold dkeys
  rw [List.foldl_append]
  rfl
theorem snoc_ind {α : Type} {M : List α → Prop} (h0 : M []) (h1 : ∀ l a, M l → M (l ++ [a])) (l : List α) : M l := by
  have : ∀ m : List α, M m.reverse := by
    intro m
    induction m with
    | nil => exact h0
    | cons a m ih => rw [List.reverse_cons]; exact h1 _ _ ih
  have := this l.reverse
  rwa [List.reverse_reverse] at this
theorem dkeys_nodup (kvs : List (Int × Int)) : (dkeys kvs).Nodup := by
  induction kvs using snoc_ind with
  | h0 => exact .nil
  | h1 l a ih =>
    obtain ⟨k, v⟩ := a
    rw [dkeys_snoc]
    split
    · exact ih
    · rename_i h
      rw [List.nodup_append]
      exact ⟨ih, by simp, fun x hx y hy => by simp at hy; subst hy; intro e; subst e; exact h hx⟩
theorem mem_dkeys {kvs : List (Int × Int)} {k : Int} : k ∈ dkeys kvs ↔ k ∈ kvs.map (·.1) := by
  induction kvs using snoc_ind with
  | h0 => simp [dkeys]
  | h1 l a ih =>
    obtain ⟨k', v⟩ := a
    rw [dkeys_snoc, List.map_append, List.mem_append]
    split
    · rename_i h
      rw [ih]
      constructor
      · exact .inl
      · rintro (z | z)
        · exact z
        · simp at z; subst z; exact ih.mp h
    · rw [List.mem_append, ih]; simp
theorem vals_nil {kvs : List (Int × Int)} {k : Int} (h : k ∉ dkeys kvs) : vals kvs k = [] := by
  rw [mem_dkeys] at h
  unfold vals
  rw [List.filter_eq_nil_iff.mpr]
  · rfl
  · intro p hp
    simp only [decide_eq_true_eq]
    intro e
    exact h (List.mem_map.mpr ⟨p, hp, e⟩)
theorem dkeys_few {kvs : List (Int × Int)} (h : ∀ p ∈ kvs, 0 ≤ p.1 ∧ p.1 < 10) : (dkeys kvs).length ≤ 10 := by
  have hs : dkeys kvs ⊆ (List.range 10).map fun n : Nat => (n : Int) := by
    intro k hk
    rw [mem_dkeys] at hk
    obtain ⟨p, hp, rfl⟩ := List.mem_map.mp hk
    have := h p hp
    exact List.mem_map.mpr ⟨p.1.toNat, by rw [List.mem_range]; omega, by omega⟩
  have := (dkeys_nodup kvs).length_le_of_subset hs
  simpa using this
section
variable {α : Type}
theorem getA_map (ks : List Int) (g : Int → α) (k : Int) : getA (ks.map fun k' => ((Sum.inl k' : Key), g k')) (.inl k) = if k ∈ ks then some (g k) else none := by
  induction ks with
  | nil => rfl
  | cons x r ih =>
    unfold getA at ih ⊢
    rw [List.map_cons, List.find?_cons]
    by_cases e : x = k
    · subst e; simp
    · have : ¬ ((Sum.inl x : Key) = Sum.inl k) := fun q => e (Sum.inl.inj q)
      simp only [this, decide_false]
      rw [ih]
      simp [Ne.symm e]
theorem putA_map (ks : List Int) (g : Int → α) (k : Int) (x : α) : putA (ks.map fun k' => ((Sum.inl k' : Key), g k')) (.inl k) x = (if k ∈ ks then ks else ks ++ [k]).map fun k' => ((Sum.inl k' : Key), if k' = k then x else g k') := by
  have hany : ((ks.map fun k' => ((Sum.inl k' : Key), g k')).any fun kv => decide (kv.1 = Sum.inl k)) = decide (k ∈ ks) := by
    rw [List.any_map, Bool.eq_iff_iff]
    simp only [List.any_eq_true, Function.comp, decide_eq_true_eq]
    constructor
    · rintro ⟨y, hy, e⟩; rw [← Sum.inl.inj e]; exact hy
    · intro h; exact ⟨k, h, rfl⟩
  unfold putA
  rw [hany]
  by_cases h : k ∈ ks
  · simp only [h, decide_true, if_true]
    rw [List.map_map]
    apply List.map_congr_left
    intro y hy
    simp only [Function.comp]
    by_cases e : y = k
    · subst e; simp
    · have : ¬ ((Sum.inl y : Key) = Sum.inl k) := fun q => e (Sum.inl.inj q)
      simp [this, e]
  · simp only [h, decide_false, if_false, Bool.false_eq_true]
    rw [List.map_append]
    congr 1
    · apply List.map_congr_left
      intro y hy
      have e : y ≠ k := fun z => h (z ▸ hy)
      simp [e]
    · simp
end
/-- what a window tells of its rows (key, value) -/
def toldK (K : Nat) (kvs : List (Int × Int)) : List (Int × List Int) := (sortA (dkeys kvs)).map fun k => (k, topK K (vals kvs k))

/-! ### entries -/
inductive Ent where
  | tick (n : Int) | row (k v : Int)
def Ent.enc : Ent → D
  | .tick n => .tup [.str "tick", .int n]
  | .row k v => .tup [.str "row", .int k, .int v]
def Ent.ok : Ent → Prop
  | .tick n => 1 ≤ n ∧ n ≤ 1000
  | .row k _ => 0 ≤ k ∧ k < 10
abbrev Row := Int × Int × Int
def Row.enc (r : Row) : D := .tup [.int r.1, .int r.2.1, .int r.2.2]
def kv (r : Row) : Int × Int := (r.2.1, r.2.2)
/-- the rows with the clock's time at which they came, from a clock on -/
def rowsF (c : Int) : List Ent → List Row
  | [] => []
  | .tick n :: es => rowsF (c + n) es
  | .row k v :: es => (c, k, v) :: rowsF c es
def clockF (c : Int) : List Ent → Int
  | [] => c
  | .tick n :: es => clockF (c + n) es
  | .row _ _ :: es => clockF c es
theorem rowsF_snoc (es : List Ent) (e : Ent) : ∀ c, rowsF c (es ++ [e]) = rowsF c es ++ (match e with | .tick _ => [] | .row k v => [(clockF c es, k, v)]) := by
  induction es with
  | nil => intro c; cases e <;> rfl
  | cons x es ih =>
    intro c
    cases x with
    | tick n => exact ih _
    | row k v => show (c, k, v) :: rowsF c (es ++ [e]) = _; rw [ih]; rfl
theorem clockF_snoc (es : List Ent) (e : Ent) : ∀ c, clockF c (es ++ [e]) = (match e with | .tick n => clockF c es + n | .row _ _ => clockF c es) := by
  induction es with
  | nil => intro c; cases e <;> rfl
  | cons x es ih =>
    intro c
    cases x with
    | tick n => exact ih _
    | row k v => exact ih _
theorem rowsF_len (es : List Ent) : ∀ c, (rowsF c es).length ≤ es.length := by
  induction es with
  | nil => intro c; exact Nat.le_refl _
  | cons x es ih =>
    intro c
    cases x with
    | tick n => exact Nat.le_succ_of_le (ih _)
    | row k v => exact Nat.succ_le_succ (ih _)
theorem rowsF_ok {es : List Ent} (h : ∀ e ∈ es, e.ok) : ∀ c, ∀ r ∈ rowsF c es, 0 ≤ r.2.1 ∧ r.2.1 < 10 := by
  induction es with
  | nil => intro c r hr; cases hr
  | cons x es ih =>
    intro c r hr
    have h' : ∀ e ∈ es, e.ok := fun e he => h e (by simp [he])
    cases x with
    | tick n => exact ih h' _ r hr
    | row k v =>
      rcases List.mem_cons.mp hr with rfl | hr
      · exact h (.row k v) (by simp)
      · exact ih h' _ r hr
/-- how much stands behind: rows or ticks -/
def behindF (b : Bool) : List Ent → Int
  | [] => 0
  | .tick n :: es => behindF b es + if b then 0 else n
  | .row _ _ :: es => behindF b es + if b then 1 else 0
/-- rows by age -/
def agedF (b : Bool) : List Ent → List Row
  | [] => []
  | .tick _ :: es => agedF b es
  | .row k v :: es => (behindF b es, k, v) :: agedF b es
theorem behind_rows (es : List Ent) : ∀ c, behindF true es = ((rowsF c es).length : Int) := by
  induction es with
  | nil => intro c; rfl
  | cons x es ih =>
    intro c
    cases x with
    | tick n => show behindF true es + 0 = _; rw [ih (c + n)]; show _ = ((rowsF (c + n) es).length : Int); omega
    | row k v => show behindF true es + 1 = _; rw [ih c]; show _ = (((rowsF c es).length + 1 : Nat) : Int); omega
theorem behind_ticks (es : List Ent) : ∀ c, behindF false es = clockF c es - c := by
  induction es with
  | nil => intro c; show (0 : Int) = c - c; omega
  | cons x es ih =>
    intro c
    cases x with
    | tick n => show behindF false es + n = clockF (c + n) es - c; rw [ih (c + n)]; omega
    | row k v => show behindF false es + 0 = clockF c es - c; rw [ih c]; omega
/-- the places of the rows that a window contains -/
def inWin (b : Bool) (size : Int) (es : List Ent) : List (Int × Int) :=
  if b then ((rowsF 0 es).drop ((rowsF 0 es).length - size.toNat)).map kv else ((rowsF 0 es).filter fun r => decide (r.1 > clockF 0 es - size)).map kv
theorem aged_ticks (size : Int) (es : List Ent) : ∀ c, ((agedF false es).filter fun r => decide (r.1 < size)).map kv = ((rowsF c es).filter fun r => decide (r.1 > clockF c es - size)).map kv := by
  induction es with
  | nil => intro c; rfl
  | cons x es ih =>
    intro c
    cases x with
    | tick n => exact ih _
    | row k v =>
      show (((behindF false es, k, v) :: agedF false es).filter _).map kv = (((c, k, v) :: rowsF c es).filter _).map kv
      rw [List.filter_cons, List.filter_cons]
      have e := behind_ticks es c
      have hh : (decide ((behindF false es, k, v).1 < size)) = decide ((c, k, v).1 > clockF c (.row k v :: es) - size) := by
        show decide (behindF false es < size) = decide (c > clockF c es - size)
        rw [e]
        by_cases z : clockF c es - c < size
        · rw [decide_eq_true z, decide_eq_true (by omega)]
        · rw [decide_eq_false z, decide_eq_false (by omega)]
      rw [hh]
      have ih' := ih c
      split
      · rw [List.map_cons, List.map_cons, ih']; rfl
      · exact ih'
theorem aged_rows (size : Int) (hs : 0 ≤ size) (es : List Ent) : ∀ c, ((agedF true es).filter fun r => decide (r.1 < size)).map kv = ((rowsF c es).drop ((rowsF c es).length - size.toNat)).map kv := by
  induction es with
  | nil => intro c; simp [rowsF, agedF]
  | cons x es ih =>
    intro c
    cases x with
    | tick n => exact ih _
    | row k v =>
      have e := behind_rows es c
      show (((behindF true es, k, v) :: agedF true es).filter _).map kv = (((c, k, v) :: rowsF c es).drop (((rowsF c es).length + 1) - size.toNat)).map kv
      rw [List.filter_cons]
      by_cases z : behindF true es < size
      · have z1 : (decide ((behindF true es, k, v).1 < size)) = true := decide_eq_true z
        rw [if_pos z1, List.map_cons, ih c]
        have z2 : (rowsF c es).length + 1 - size.toNat = 0 := by omega
        have z3 : (rowsF c es).length - size.toNat = 0 := by omega
        rw [z2, z3]
        rfl
      · have z1 : ¬ (decide ((behindF true es, k, v).1 < size)) = true := by simp; omega
        rw [if_neg z1, ih c]
        have z2 : (rowsF c es).length + 1 - size.toNat = ((rowsF c es).length - size.toNat) + 1 := by omega
        rw [z2, List.drop_succ_cons]
theorem aged_inWin (b : Bool) (size : Int) (hs : 0 ≤ size) (es : List Ent) : ((agedF b es).filter fun r => decide (r.1 < size)).map kv = inWin b size es := by
  cases b with
  | true => exact aged_rows size hs es 0
  | false => exact aged_ticks size es 0
def encW (b : Bool) (size K : Int) : D := .tup [.str (if b then "rows" else "ticks"), .int size, .int K]
def encP (p : Int × List Int) : D := .tup [.int p.1, .tup (p.2.map .int)]
def encT (l : List (Int × List Int)) : D := .tup (l.map encP)
theorem pures_ints (n : Nat) (l : List Int) : D.pures n (l.map D.int) = true := by
  induction l with
  | nil => simp [D.pures]
  | cons a l ih => rw [List.map_cons, D.pures, ih]; cases n <;> rfl
theorem encP_pure (n : Nat) (p : Int × List Int) : (encP p).pure (n + 2) = true := by
  show D.pures (n + 1) [.int p.1, .tup (p.2.map .int)] = true
  simp [D.pures, D.pure, pures_ints]
theorem encT_pure (l : List (Int × List Int)) : (encT l).pure 3 = true := by
  show D.pures 2 (l.map encP) = true
  induction l with
  | nil => rfl
  | cons a l ih => rw [List.map_cons, D.pures, ih, encP_pure 0]; rfl
end Win
/-! lots of a window's rows by counts: when two lots tell the same, which rows are worth keeping -/
namespace Win

/-! ### the told by counts -/
def cn (A : List (Int × Int)) (key v : Int) : Nat := A.countP fun q => decide (q.1 = key ∧ v ≤ q.2)
theorem cn_vals (A : List (Int × Int)) (key v : Int) : cn A key v = (vals A key).countP fun x => decide (v ≤ x) := by
  induction A with
  | nil => rfl
  | cons p A ih =>
    unfold cn vals at *
    rw [List.countP_cons, List.filter_cons, ih]
    by_cases h : p.1 = key
    · rw [if_pos (decide_eq_true h), List.map_cons, List.countP_cons]
      by_cases g : v ≤ p.2 <;> simp [h, g]
    · rw [if_neg (show ¬ (decide (p.1 = key) = true) by simpa using h)]
      simp [h]
theorem count_take (v : Int) : ∀ (s : List Int) (K : Nat), s.Pairwise (· ≥ ·) → (s.take K).countP (fun x => decide (v ≤ x)) = min K (s.countP fun x => decide (v ≤ x))
  | [], K, _ => by simp
  | x :: s, 0, _ => by simp
  | x :: s, K + 1, h => by
    have h2 := (List.pairwise_cons.mp h).2
    rw [List.take_succ_cons, List.countP_cons, List.countP_cons, count_take v s K h2]
    by_cases g : v ≤ x
    · simp only [g, decide_true, if_true]; omega
    · have z : s.countP (fun y => decide (v ≤ y)) = 0 := by
        rw [List.countP_eq_zero]
        intro y hy
        have := (List.pairwise_cons.mp h).1 y hy
        simp; omega
      simp [g, z]
theorem count_topK (K : Nat) (l : List Int) (v : Int) : (topK K l).countP (fun x => decide (v ≤ x)) = min K (l.countP fun x => decide (v ≤ x)) := by
  unfold topK
  rw [count_take v _ K (sortD_pw l), (sortD_perm l).countP_eq]
theorem desc_eq : ∀ (s m : List Int), s.Pairwise (· ≥ ·) → m.Pairwise (· ≥ ·) → (∀ v : Int, s.countP (fun x => decide (v ≤ x)) = m.countP fun x => decide (v ≤ x)) → s = m
  | [], [], _, _, _ => rfl
  | [], y :: m, _, _, h => by have := h y; simp at this
  | x :: s, [], _, _, h => by have := h x; simp at this
  | x :: s, y :: m, hs, hm, h => by
    have h1 := List.pairwise_cons.mp hs
    have h2 := List.pairwise_cons.mp hm
    have zero : ∀ (z : Int) (l : List Int), (∀ a ∈ l, z > a) → l.countP (fun a => decide (z ≤ a)) = 0 := fun z l g => by
      rw [List.countP_eq_zero]; intro a ha; have := g a ha; simp; omega
    have e : x = y := by
      by_cases c1 : x < y
      · have := h y
        rw [List.countP_cons, List.countP_cons, zero y s (fun a ha => by have := h1.1 a ha; omega)] at this
        simp [show ¬ y ≤ x by omega] at this
      · by_cases c2 : y < x
        · have := h x
          rw [List.countP_cons, List.countP_cons, zero x m (fun a ha => by have := h2.1 a ha; omega)] at this
          simp [show ¬ x ≤ y by omega] at this
        · omega
    subst e
    rw [desc_eq s m h1.2 h2.2 fun v => by
      have := h v
      rw [List.countP_cons, List.countP_cons] at this
      omega]
theorem topK_eq {K : Nat} {l m : List Int} : topK K l = topK K m ↔ ∀ v : Int, min K (l.countP fun x => decide (v ≤ x)) = min K (m.countP fun x => decide (v ≤ x)) := by
  constructor
  · intro e v
    rw [← count_topK, ← count_topK, e]
  · intro e
    refine desc_eq _ _ (topK_pw _ _) (topK_pw _ _) fun v => ?_
    rw [count_topK, count_topK, e]
theorem topK_empty {K : Nat} (hK : 1 ≤ K) {l : List Int} : topK K l = [] ↔ l = [] := by
  constructor
  · intro e
    have h : (topK K l).length = 0 := by rw [e]; rfl
    unfold topK at h
    rw [List.length_take, (sortD_perm l).length_eq] at h
    exact List.eq_nil_of_length_eq_zero (by omega)
  · rintro rfl; exact topK_nil K
theorem vals_mem {A : List (Int × Int)} {k : Int} : k ∈ dkeys A ↔ vals A k ≠ [] := by
  constructor
  · intro h e
    rw [mem_dkeys] at h
    obtain ⟨p, hp, rfl⟩ := List.mem_map.mp h
    have : p.2 ∈ vals A p.1 := List.mem_map.mpr ⟨p, List.mem_filter.mpr ⟨hp, by simp⟩, rfl⟩
    rw [e] at this; cases this
  · intro h
    by_cases g : k ∈ dkeys A
    · exact g
    · exact absurd (vals_nil g) h
theorem perm_of_mem {l m : List Int} (hl : l.Nodup) (hm : m.Nodup) (h : ∀ x, x ∈ l ↔ x ∈ m) : l.Perm m := by
  rw [List.perm_iff_count]
  intro x
  rw [List.Nodup.count hl, List.Nodup.count hm]
  by_cases g : x ∈ l
  · rw [if_pos g, if_pos ((h x).mp g)]
  · rw [if_neg g, if_neg fun z => g ((h x).mpr z)]
theorem toldK_iff {K : Nat} (hK : 1 ≤ K) {A B : List (Int × Int)} : toldK K A = toldK K B ↔ ∀ key v : Int, min K (cn A key v) = min K (cn B key v) := by
  have key1 : (∀ key v : Int, min K (cn A key v) = min K (cn B key v)) ↔ ∀ key, topK K (vals A key) = topK K (vals B key) := by
    constructor
    · intro h key; rw [topK_eq]; intro v; rw [← cn_vals, ← cn_vals]; exact h key v
    · intro h key v; rw [cn_vals, cn_vals]; exact topK_eq.mp (h key) v
  rw [key1]
  have one : ∀ {A B : List (Int × Int)}, toldK K A = toldK K B → ∀ key, key ∈ dkeys A → topK K (vals A key) = topK K (vals B key) ∧ key ∈ dkeys B := by
    intro A B e key h
    have : (key, topK K (vals A key)) ∈ toldK K B := by
      rw [← e]; exact List.mem_map.mpr ⟨key, (sortA_perm _).mem_iff.mpr h, rfl⟩
    obtain ⟨k', hk', e'⟩ := List.mem_map.mp this
    obtain ⟨rfl, e2⟩ := Prod.mk.inj e'
    exact ⟨e2.symm, (sortA_perm _).mem_iff.mp hk'⟩
  constructor
  · intro e key
    by_cases h : key ∈ dkeys A
    · exact (one e key h).1
    · by_cases g : key ∈ dkeys B
      · exact absurd (one e.symm key g).2 h
      · rw [vals_nil h, vals_nil g]
  · intro h
    have hm : ∀ k, k ∈ dkeys A ↔ k ∈ dkeys B := fun k => by
      rw [vals_mem, vals_mem, not_iff_not', ← topK_empty hK, h k, topK_empty hK]
    have p := perm_of_mem (dkeys_nodup A) (dkeys_nodup B) hm
    unfold toldK
    rw [sortA_of ((sortA_perm (dkeys A)).trans p) (sortA_pw _)]
    refine List.map_congr_left fun k _ => by rw [h k]
where
  not_iff_not' {a b : Prop} : (¬ a ↔ ¬ b) = (a ↔ b) := propext ⟨fun h => ⟨fun x => Classical.byContradiction fun y => h.mpr y x, fun x => Classical.byContradiction fun y => h.mp y x⟩, fun h => by rw [h]⟩

/-! ### counts over places -/
def tst (R : List Row) (t key v : Int) (j : Nat) : Bool := match R[j]? with | some r => decide (r.1 < t ∧ r.2.1 = key ∧ v ≤ r.2.2) | none => false
theorem tst_at {R : List Row} {t key v : Int} {j : Nat} {r : Row} (h : R[j]? = some r) : tst R t key v j = decide (r.1 < t ∧ r.2.1 = key ∧ v ≤ r.2.2) := by unfold tst; rw [h]
/-- the places below the rows' number of which p is true and that are tested, in number -/
def cP (n : Nat) (p : Nat → Bool) : Nat := (List.range n).countP p
def NN (R : List Row) (p : Nat → Bool) (t key v : Int) : Nat := cP R.length fun j => p j && tst R t key v j
theorem cP_le {n : Nat} {p q : Nat → Bool} (h : ∀ j, j < n → p j = true → q j = true) : cP n p ≤ cP n q :=
  List.countP_mono_left fun j hj g => h j (List.mem_range.mp hj) g
theorem cP_congr {n : Nat} {p q : Nat → Bool} (h : ∀ j, j < n → p j = q j) : cP n p = cP n q :=
  List.countP_congr fun j hj => by rw [h j (List.mem_range.mp hj)]
theorem cP_split (n : Nat) (p q : Nat → Bool) : cP n p = cP n (fun j => p j && q j) + cP n (fun j => p j && !q j) := by
  unfold cP
  induction (List.range n) with
  | nil => rfl
  | cons x l ih =>
    rw [List.countP_cons, List.countP_cons, List.countP_cons, ih]
    cases p x <;> cases q x <;> simp <;> omega
theorem cP_zero {n : Nat} {p : Nat → Bool} (h : ∀ j, j < n → p j = false) : cP n p = 0 := by
  unfold cP; rw [List.countP_eq_zero]; intro j hj; rw [h j (List.mem_range.mp hj)]; simp
theorem cP_pos {n : Nat} {p : Nat → Bool} {j : Nat} (hj : j < n) (h : p j = true) : 1 ≤ cP n p := by
  unfold cP; exact List.countP_pos_iff.mpr ⟨j, List.mem_range.mpr hj, h⟩
theorem cP_ex {n : Nat} {p : Nat → Bool} (h : 1 ≤ cP n p) : ∃ j, j < n ∧ p j = true := by
  obtain ⟨j, hj, g⟩ := List.countP_pos_iff.mp h
  exact ⟨j, List.mem_range.mp hj, g⟩
theorem countP_lot {n : Nat} {lot : List Nat} (hn : lot.Nodup) (hb : ∀ j ∈ lot, j < n) (f : Nat → Bool) : lot.countP f = cP n fun j => decide (j ∈ lot) && f j := by
  unfold cP
  rw [List.countP_eq_length_filter, List.countP_eq_length_filter]
  have p : (lot.filter f).Perm ((List.range n).filter fun j => decide (j ∈ lot) && f j) := by
    rw [List.perm_iff_count]
    intro x
    rw [List.Nodup.count (hn.filter _), List.Nodup.count (List.nodup_range.filter _)]
    by_cases g : x ∈ lot
    · by_cases z : f x = true <;> simp [g, z, hb x g]
    · simp [g]
  exact p.length_eq
theorem cn_lotF (size wait : Int) (R : List Row) (lot : List Nat) (key v : Int) (lotF : List (Int × Int)) (h : lotF = ((lot.filterMap (R[·]?)).filter fun r => decide (r.1 + wait < size)).map kv) : cn lotF key v = lot.countP (tst R (size - wait) key v) := by
  subst h
  induction lot with
  | nil => rfl
  | cons j lot ih =>
    rw [List.countP_cons, ← ih]
    cases e : R[j]? with
    | none => rw [List.filterMap_cons_none e]; unfold tst; rw [e]; simp
    | some r =>
      rw [List.filterMap_cons_some e, tst_at e, List.filter_cons]
      by_cases g : r.1 + wait < size
      · rw [if_pos (decide_eq_true g), List.map_cons]
        unfold cn
        rw [List.countP_cons]
        have : r.1 < size - wait := by omega
        by_cases z : r.2.1 = key ∧ v ≤ r.2.2 <;> simp [kv, this, z]
      · rw [if_neg (by simpa using g)]
        have : ¬ r.1 < size - wait := by omega
        simp [this]

/-! ### agreeing, lasting -/
/-- the lot p tells what all rows tell, of the rows younger than t -/
def Agr (K : Nat) (R : List Row) (p : Nat → Bool) (t : Int) : Prop := ∀ key v : Int, min K (NN R p t key v) = min K (NN R (fun _ => true) t key v)
def Lasts (K : Nat) (size : Int) (R : List Row) (p : Nat → Bool) : Prop := ∀ t, t ≤ size → Agr K R p t
theorem NN_le (R : List Row) (p : Nat → Bool) (t key v : Int) : NN R p t key v ≤ NN R (fun _ => true) t key v :=
  cP_le fun j _ h => by simp at h ⊢; exact h.2
theorem lasts_iff {K : Nat} {size : Int} {R : List Row} {p : Nat → Bool} : Lasts K size R p ↔ Agr K R p size ∧ ∀ r ∈ R, r.1 < size → Agr K R p r.1 := by
  constructor
  · intro h
    exact ⟨h size (Int.le_refl _), fun r _ hr => h r.1 (by omega)⟩
  · rintro ⟨h1, h2⟩
    have main : ∀ (n : Nat) (t : Int), t ≤ size → (size - t).toNat = n → Agr K R p t := by
      intro n
      induction n with
      | zero => intro t ht e; have : t = size := by omega
                rw [this]; exact h1
      | succ n ih =>
        intro t ht e
        by_cases g : ∃ r ∈ R, r.1 = t
        · obtain ⟨r, hr, rfl⟩ := g
          exact h2 r hr (by omega)
        · have q := ih (t + 1) (by omega) (by omega)
          have same : ∀ (p' : Nat → Bool) key v, NN R p' t key v = NN R p' (t + 1) key v := fun p' key v => by
            refine cP_congr fun j hj => ?_
            congr 1
            have e := List.getElem?_eq_getElem hj
            rw [tst_at e, tst_at e]
            have : R[j].1 ≠ t := fun z => g ⟨R[j], List.getElem_mem hj, z⟩
            by_cases c : R[j].1 < t
            · have c' : R[j].1 < t + 1 := by omega
              simp [c, c']
            · have c' : ¬ R[j].1 < t + 1 := by omega
              simp [c, c']
          intro key v
          rw [same, same]
          exact q key v
    exact fun t ht => main _ t ht rfl

/-! ### the rows worth keeping -/
def goesB (R : List Row) (o j : Nat) : Bool := match R[o]?, R[j]? with
  | some a, some b => decide (o ≠ j ∧ a.2.1 = b.2.1 ∧ a.1 ≤ b.1 ∧ (a.2.2 > b.2.2 ∨ (a.2.2 = b.2.2 ∧ o > j)))
  | _, _ => false
def inB (R : List Row) (size : Int) (j : Nat) : Bool := match R[j]? with | some r => decide (r.1 < size) | none => false
def firsts (R : List Row) (size : Int) (j : Nat) : Nat := cP R.length fun o => inB R size o && goesB R o j
def keptB (K : Nat) (size : Int) (R : List Row) (j : Nat) : Bool := inB R size j && decide (firsts R size j < K)
theorem goes_at {R : List Row} {o j : Nat} {a b : Row} (h1 : R[o]? = some a) (h2 : R[j]? = some b) : goesB R o j = decide (o ≠ j ∧ a.2.1 = b.2.1 ∧ a.1 ≤ b.1 ∧ (a.2.2 > b.2.2 ∨ (a.2.2 = b.2.2 ∧ o > j))) := by
  unfold goesB; rw [h1, h2]
theorem in_at {R : List Row} {size : Int} {j : Nat} {r : Row} (h : R[j]? = some r) : inB R size j = decide (r.1 < size) := by unfold inB; rw [h]
/-- ages fall from row to row -/
def Falls (R : List Row) : Prop := R.Pairwise fun a b => b.1 ≤ a.1
theorem Falls.le {R : List Row} (h : Falls R) {i j : Nat} (hij : i < j) (hj : j < R.length) : R[j].1 ≤ (R[i]'(by omega)).1 := List.pairwise_iff_getElem.mp h i j (by omega) hj hij

/-- a greatest one -/
theorem best_of {l : List Nat} (f : Nat → Int) (h : l ≠ []) : ∃ m ∈ l, ∀ o ∈ l, f o < f m ∨ (f o = f m ∧ o ≤ m) := by
  induction l with
  | nil => exact absurd rfl h
  | cons x l ih =>
    by_cases e : l = []
    · subst e; exact ⟨x, by simp, fun o ho => by simp at ho; subst ho; exact .inr ⟨rfl, Nat.le_refl _⟩⟩
    · obtain ⟨m, hm, g⟩ := ih e
      by_cases c : f x < f m ∨ (f x = f m ∧ x ≤ m)
      · refine ⟨m, by simp [hm], fun o ho => ?_⟩
        rcases List.mem_cons.mp ho with rfl | ho
        · exact c
        · exact g o ho
      · refine ⟨x, by simp, fun o ho => ?_⟩
        rcases List.mem_cons.mp ho with rfl | ho
        · exact .inr ⟨rfl, Nat.le_refl _⟩
        · have := g o ho
          rcases this with q | ⟨q1, q2⟩
          · by_cases z : f m < f x
            · exact .inl (by omega)
            · have : f m = f x := by omega
              exact .inl (by omega)
          · by_cases z : f m < f x
            · exact .inl (by omega)
            · have : f m = f x := by omega
              exact .inr ⟨by omega, by omega⟩
/-- a least place -/
theorem least_of {n : Nat} {p : Nat → Bool} (h : 1 ≤ cP n p) : ∃ m, m < n ∧ p m = true ∧ ∀ o, o < n → p o = true → m ≤ o := by
  obtain ⟨j, hj, g⟩ := cP_ex h
  induction j using Nat.strongRecOn with
  | _ j ih =>
    by_cases c : ∃ o, o < j ∧ p o = true
    · obtain ⟨o, ho, go⟩ := c
      exact ih o ho (by omega) go
    · refine ⟨j, hj, g, fun o ho go => ?_⟩
      by_cases z : j ≤ o
      · exact z
      · exact absurd ⟨o, by omega, go⟩ c

theorem kept_many {K : Nat} {size : Int} {R : List Row} {t key v : Int} (ht : t ≤ size) : min K (NN R (fun _ => true) t key v) ≤ NN R (keptB K size R) t key v := by
  let n := R.length
  let X : Nat → Bool := tst R t key v
  have eX : NN R (fun _ => true) t key v = cP n X := cP_congr fun j _ => by simp [X]
  let G : List Nat := (List.range n).filter fun j => X j && !keptB K size R j
  have rowOf : ∀ j, X j = true → ∃ r, R[j]? = some r ∧ r.1 < t ∧ r.2.1 = key ∧ v ≤ r.2.2 := fun j hj => by
    cases e : R[j]? with
    | none => simp [X, tst, e] at hj
    | some r =>
      have : tst R t key v j = true := hj
      rw [tst_at e] at this
      exact ⟨r, rfl, of_decide_eq_true this⟩
  by_cases hG : G = []
  · have : cP n X ≤ NN R (keptB K size R) t key v := cP_le fun j hj g => by
      have : j ∉ G := by rw [hG]; simp
      simp only [G, List.mem_filter, List.mem_range, Bool.and_eq_true, Bool.not_eq_true', not_and] at this
      have q := this hj g
      have g' : tst R t key v j = true := g
      rw [g']
      cases z : keptB K size R j with
      | true => rfl
      | false => exact absurd z q
    omega
  · obtain ⟨m, hm, best⟩ := best_of (fun j => match R[j]? with | some r => r.2.2 | none => 0) hG
    have hm' : m < n ∧ X m = true ∧ keptB K size R m = false := by
      simp only [G, List.mem_filter, List.mem_range, Bool.and_eq_true, Bool.not_eq_true'] at hm
      exact hm
    obtain ⟨r, er, r1, r2, r3⟩ := rowOf m hm'.2.1
    have hk : K ≤ firsts R size m := by
      have z := hm'.2.2
      unfold keptB at z
      rw [in_at er] at z
      have : r.1 < size := by omega
      simp [this] at z
      exact z
    have : firsts R size m ≤ NN R (keptB K size R) t key v := cP_le fun o ho g => by
      simp only [Bool.and_eq_true] at g
      have eo := List.getElem?_eq_getElem ho
      rw [goes_at eo er] at g
      obtain ⟨g1, g2⟩ := g
      have g3 := of_decide_eq_true g2
      have hx : X o = true := by
        show tst R t key v o = true
        rw [tst_at eo]
        exact decide_eq_true ⟨by omega, by omega, by rcases g3.2.2.2 with q | q <;> omega⟩
      have hx' : tst R t key v o = true := hx
      rw [hx']
      cases z : keptB K size R o with
      | true => rfl
      | false =>
        have : o ∈ G := by
          simp only [G, List.mem_filter, List.mem_range, Bool.and_eq_true, Bool.not_eq_true']
          exact ⟨ho, hx, z⟩
        have b := best o this
        rw [eo, er] at b
        simp only at b
        rcases b with b | ⟨b1, b2⟩
        · rcases g3.2.2.2 with q | q <;> omega
        · rcases g3.2.2.2 with q | q <;> omega
    omega

def eqB (R : List Row) (r : Row) (j : Nat) : Bool := decide (R[j]? = some r)
/-- as many of each row -/
def Enough (K : Nat) (size : Int) (R : List Row) (p : Nat → Bool) : Prop := ∀ r : Row, cP R.length (fun j => keptB K size R j && eqB R r j) ≤ cP R.length (fun j => p j && eqB R r j)
theorem countP_sub {α : Type} [BEq α] [LawfulBEq α] (f : α → Bool) : ∀ (B A : List α), (∀ x, B.count x ≤ A.count x) → B.countP f ≤ A.countP f
  | [], A, _ => by simp
  | b :: B, A, h => by
    have hb : b ∈ A := by
      have := h b
      rw [List.count_cons_self] at this
      exact List.count_pos_iff.mp (by omega)
    have p := List.perm_cons_erase hb
    rw [p.countP_eq, List.countP_cons, List.countP_cons]
    have := countP_sub f B (A.erase b) fun x => by
      have := h x
      rw [p.count_eq, List.count_cons, List.count_cons] at this
      omega
    omega
theorem count_rows (R : List Row) (p : Nat → Bool) (r : Row) : (((List.range R.length).filter p).filterMap (R[·]?)).count r = cP R.length (fun j => p j && eqB R r j) := by
  unfold cP
  have : ∀ l : List Nat, ((l.filter p).filterMap (R[·]?)).count r = l.countP fun j => p j && eqB R r j := by
    intro l
    induction l with
    | nil => rfl
    | cons j l ih =>
      rw [List.countP_cons, ← ih, List.filter_cons]
      cases e : p j with
      | false => simp
      | true =>
        rw [if_pos rfl]
        cases g : R[j]? with
        | none => rw [List.filterMap_cons_none g]; simp [eqB, g]
        | some s =>
          rw [List.filterMap_cons_some g, List.count_cons]
          simp only [eqB, g, Bool.true_and]
          by_cases z : s = r <;> simp [z]
  exact this _
theorem countP_rows (R : List Row) (p : Nat → Bool) (t key v : Int) : (((List.range R.length).filter p).filterMap (R[·]?)).countP (fun r => decide (r.1 < t ∧ r.2.1 = key ∧ v ≤ r.2.2)) = NN R p t key v := by
  unfold NN cP
  have : ∀ l : List Nat, ((l.filter p).filterMap (R[·]?)).countP (fun r => decide (r.1 < t ∧ r.2.1 = key ∧ v ≤ r.2.2)) = l.countP fun j => p j && tst R t key v j := by
    intro l
    induction l with
    | nil => rfl
    | cons j l ih =>
      rw [List.countP_cons, ← ih, List.filter_cons]
      cases e : p j with
      | false => simp
      | true =>
        rw [if_pos rfl]
        cases g : R[j]? with
        | none => rw [List.filterMap_cons_none g]; simp [tst, g]
        | some s => rw [List.filterMap_cons_some g, List.countP_cons]; simp [tst, g]
  exact this _
theorem enough_many {K : Nat} {size : Int} {R : List Row} {p : Nat → Bool} (h : Enough K size R p) (t key v : Int) : NN R (keptB K size R) t key v ≤ NN R p t key v := by
  rw [← countP_rows, ← countP_rows]
  refine countP_sub _ _ _ fun r => ?_
  rw [count_rows, count_rows]
  exact h r
theorem lasts_of_enough {K : Nat} {size : Int} {R : List Row} {p : Nat → Bool} (h : Enough K size R p) : Lasts K size R p := fun t ht key v => by
  have h1 := kept_many (K := K) (R := R) (key := key) (v := v) ht
  have h2 := enough_many h t key v
  have h3 := NN_le R p t key v
  omega
theorem enough_of_lasts {K : Nat} {size : Int} {R : List Row} {p : Nat → Bool} (hf : Falls R) (h : Lasts K size R p) : Enough K size R p := fun r => by
  by_cases h0 : cP R.length (fun j => keptB K size R j && eqB R r j) = 0
  · omega
  obtain ⟨j, hj, gj, least⟩ := least_of (n := R.length) (p := fun j => keptB K size R j && eqB R r j) (by omega)
  simp only [Bool.and_eq_true] at gj
  have ej : R[j]? = some r := of_decide_eq_true gj.2
  have hk : r.1 < size ∧ firsts R size j < K := by
    have := gj.1
    unfold keptB at this
    rw [in_at ej] at this
    simpa using this
  have ag := h (r.1 + 1) (by omega)
  -- all, split by the value and by the age
  have sp : ∀ q : Nat → Bool, NN R q (r.1 + 1) r.2.1 r.2.2 = NN R q (r.1 + 1) r.2.1 (r.2.2 + 1) + (cP R.length (fun i => q i && (tst R r.1 r.2.1 r.2.2 i && !tst R r.1 r.2.1 (r.2.2 + 1) i)) + cP R.length fun i => q i && eqB R r i) := fun q => by
    unfold NN
    rw [cP_split R.length _ (tst R (r.1 + 1) r.2.1 (r.2.2 + 1)), cP_split R.length (fun i => (q i && tst R (r.1 + 1) r.2.1 r.2.2 i) && !tst R (r.1 + 1) r.2.1 (r.2.2 + 1) i) (eqB R r)]
    rw [Nat.add_comm (cP R.length fun i => ((q i && tst R (r.1 + 1) r.2.1 r.2.2 i) && !tst R (r.1 + 1) r.2.1 (r.2.2 + 1) i) && eqB R r i)]
    congr 1
    · refine cP_congr fun i hi => ?_
      have e := List.getElem?_eq_getElem hi
      rw [tst_at e, tst_at e]
      cases q i <;> simp
      omega
    · congr 1
      · refine cP_congr fun i hi => ?_
        have e := List.getElem?_eq_getElem hi
        rw [tst_at e, tst_at e, tst_at e, tst_at e]
        unfold eqB
        rw [e]
        obtain ⟨a, b, c⟩ := R[i]
        obtain ⟨a', b', c'⟩ := r
        simp only [Option.some.injEq, Prod.mk.injEq]
        rw [Bool.eq_iff_iff]
        cases q i <;> simp
        omega
      · refine cP_congr fun i hi => ?_
        have e := List.getElem?_eq_getElem hi
        rw [tst_at e, tst_at e]
        unfold eqB
        rw [e]
        obtain ⟨a, b, c⟩ := R[i]
        obtain ⟨a', b', c'⟩ := r
        simp only [Option.some.injEq, Prod.mk.injEq]
        rw [Bool.eq_iff_iff]
        cases q i <;> simp
        omega
  have a1 := ag r.2.1 r.2.2
  have a2 := ag r.2.1 (r.2.2 + 1)
  rw [sp p, sp fun _ => true] at a1
  -- the first kept one of this kind has all of these ahead
  have ah : NN R (fun _ => true) (r.1 + 1) r.2.1 (r.2.2 + 1) + (cP R.length (fun i => true && (tst R r.1 r.2.1 r.2.2 i && !tst R r.1 r.2.1 (r.2.2 + 1) i)) + cP R.length fun i => (keptB K size R i && eqB R r i) && !decide (i = j)) ≤ firsts R size j := by
    unfold firsts NN
    rw [cP_split R.length (fun o => inB R size o && goesB R o j) (tst R (r.1 + 1) r.2.1 (r.2.2 + 1)), cP_split R.length (fun o => (inB R size o && goesB R o j) && !tst R (r.1 + 1) r.2.1 (r.2.2 + 1) o) (eqB R r)]
    have x1 : cP R.length (fun i => true && tst R (r.1 + 1) r.2.1 (r.2.2 + 1) i) ≤ cP R.length (fun o => (inB R size o && goesB R o j) && tst R (r.1 + 1) r.2.1 (r.2.2 + 1) o) := cP_le fun i hi g => by
      have e := List.getElem?_eq_getElem hi
      simp only [Bool.true_and] at g
      rw [g, in_at e, goes_at e ej]
      rw [tst_at e] at g
      have g' := of_decide_eq_true g
      have hne : i ≠ j := fun z => by subst z; rw [e] at ej; cases ej; omega
      simp only [Bool.and_true, Bool.and_eq_true, decide_eq_true_eq]
      exact ⟨by omega, hne, by omega, by omega, .inl (by omega)⟩
    have x2 : cP R.length (fun i => true && (tst R r.1 r.2.1 r.2.2 i && !tst R r.1 r.2.1 (r.2.2 + 1) i)) ≤ cP R.length (fun o => ((inB R size o && goesB R o j) && !tst R (r.1 + 1) r.2.1 (r.2.2 + 1) o) && !eqB R r o) := cP_le fun i hi g => by
      have e := List.getElem?_eq_getElem hi
      simp only [Bool.true_and] at g
      rw [tst_at e, tst_at e] at g
      simp only [Bool.and_eq_true, Bool.not_eq_true', decide_eq_true_eq, decide_eq_false_iff_not] at g
      obtain ⟨g1, g2⟩ := g
      have hne : i ≠ j := fun z => by subst z; rw [e] at ej; cases ej; omega
      have hij : i > j := by
        by_cases c : j < i
        · exact c
        · have := hf.le (i := i) (j := j) (by omega) hj
          have e2 := List.getElem?_eq_getElem hj
          rw [e2] at ej; cases ej
          omega
      rw [in_at e, goes_at e ej, tst_at e]
      unfold eqB
      rw [e]
      simp only [Bool.and_eq_true, Bool.not_eq_true', decide_eq_true_eq, decide_eq_false_iff_not]
      refine ⟨⟨⟨by omega, hne, by omega, by omega, ?_⟩, by omega⟩, fun z => by cases z; omega⟩
      exact .inr ⟨by omega, hij⟩
    have x3 : (cP R.length fun i => (keptB K size R i && eqB R r i) && !decide (i = j)) ≤ cP R.length (fun o => ((inB R size o && goesB R o j) && !tst R (r.1 + 1) r.2.1 (r.2.2 + 1) o) && eqB R r o) := cP_le fun i hi g => by
      simp only [Bool.and_eq_true, Bool.not_eq_true', decide_eq_false_iff_not] at g
      obtain ⟨⟨g1, g2⟩, g3⟩ := g
      have e : R[i]? = some r := of_decide_eq_true g2
      have := least i hi (by simp [g1, g2])
      rw [in_at e, goes_at e ej, tst_at e, g2]
      simp only [Bool.and_eq_true, Bool.not_eq_true', decide_eq_true_eq, decide_eq_false_iff_not, Bool.and_true]
      exact ⟨⟨by omega, g3, trivial, by omega, .inr ⟨trivial, by omega⟩⟩, by omega⟩
    dsimp only
    omega
  have one : cP R.length (fun i => keptB K size R i && eqB R r i) ≤ cP R.length (fun i => (keptB K size R i && eqB R r i) && !decide (i = j)) + 1 := by
    rw [cP_split R.length (fun i => keptB K size R i && eqB R r i) fun i => decide (i = j)]
    have : cP R.length (fun i => (keptB K size R i && eqB R r i) && decide (i = j)) ≤ cP R.length fun i => decide (i = j) := cP_le fun i _ g => by simp at g ⊢; exact g.2
    have : (cP R.length fun i => decide (i = j)) ≤ 1 := by
      unfold cP
      have : (List.range R.length).countP (fun i => decide (i = j)) = (List.range R.length).count j := by
        unfold List.count; exact List.countP_congr fun i _ => by simp
      rw [this, List.Nodup.count List.nodup_range]
      split <;> omega
    omega
  have le1 : cP R.length (fun i => p i && (tst R r.1 r.2.1 r.2.2 i && !tst R r.1 r.2.1 (r.2.2 + 1) i)) ≤ cP R.length (fun i => true && (tst R r.1 r.2.1 r.2.2 i && !tst R r.1 r.2.1 (r.2.2 + 1) i)) := cP_le fun i _ g => by simp at g ⊢; exact g.2
  have le2 : cP R.length (fun i => keptB K size R i && eqB R r i) ≤ cP R.length (fun i => true && eqB R r i) := cP_le fun i _ g => by simp at g ⊢; exact g.2
  omega
theorem lasts_enough {K : Nat} {size : Int} {R : List Row} {p : Nat → Bool} (hf : Falls R) : Lasts K size R p ↔ Enough K size R p := ⟨enough_of_lasts hf, lasts_of_enough⟩

/-! ### ages, from entry to entry -/
theorem aged_len (b : Bool) (es : List Ent) : ∀ c, (agedF b es).length = (rowsF c es).length := by
  induction es with
  | nil => intro c; rfl
  | cons x es ih =>
    intro c
    cases x with
    | tick n => exact ih _
    | row k v => exact congrArg (· + 1) (ih c)
theorem aged_kv (b : Bool) (es : List Ent) : ∀ c (j : Nat), ((agedF b es)[j]?).map kv = ((rowsF c es)[j]?).map kv := by
  induction es with
  | nil => intro c j; rfl
  | cons x es ih =>
    intro c j
    cases x with
    | tick n => exact ih _ j
    | row k v => cases j with
      | zero => rfl
      | succ j => show ((agedF b es)[j]?).map kv = ((rowsF c es)[j]?).map kv; exact ih c j
theorem aged_age_rows (es : List Ent) : ∀ (j : Nat) (r : Row), (agedF true es)[j]? = some r → r.1 = ((agedF true es).length : Int) - 1 - j := by
  induction es with
  | nil => intro j r h; cases h
  | cons x es ih =>
    intro j r h
    cases x with
    | tick n => exact ih j r h
    | row k v => cases j with
      | zero =>
        cases h
        show behindF true es = (((agedF true es).length + 1 : Nat) : Int) - 1 - 0
        rw [behind_rows es 0, aged_len true es 0]; omega
      | succ j =>
        have := ih j r h
        show r.1 = (((agedF true es).length + 1 : Nat) : Int) - 1 - ((j + 1 : Nat) : Int)
        omega
theorem aged_age_ticks (es : List Ent) : ∀ c (j : Nat) (r s : Row), (agedF false es)[j]? = some r → (rowsF c es)[j]? = some s → r.1 = clockF c es - s.1 := by
  induction es with
  | nil => intro c j r s h; cases h
  | cons x es ih =>
    intro c j r s h g
    cases x with
    | tick n => exact ih _ j r s h g
    | row k v => cases j with
      | zero =>
        cases h; cases g
        show behindF false es = clockF c es - c
        exact behind_ticks es c
      | succ j => exact ih c j r s h g
theorem behind_nonneg {b : Bool} {es : List Ent} (h : ∀ e ∈ es, e.ok) : 0 ≤ behindF b es := by
  induction es with
  | nil => exact Int.le_refl _
  | cons x es ih =>
    have ih' := ih fun e he => h e (by simp [he])
    cases x with
    | tick n =>
      have := h (.tick n) (by simp)
      show 0 ≤ behindF b es + if b then 0 else n
      have : 1 ≤ n := this.1
      split <;> omega
    | row k v => show 0 ≤ behindF b es + if b then 1 else 0; split <;> omega
theorem aged_le {b : Bool} {es : List Ent} (h : ∀ e ∈ es, e.ok) : ∀ r ∈ agedF b es, 0 ≤ r.1 ∧ r.1 ≤ behindF b es := by
  induction es with
  | nil => intro r hr; cases hr
  | cons x es ih =>
    intro r hr
    have h' : ∀ e ∈ es, e.ok := fun e he => h e (by simp [he])
    have hb := behind_nonneg (b := b) h'
    cases x with
    | tick n =>
      have q := ih h' r hr
      have : 1 ≤ n := (h (.tick n) (by simp)).1
      show 0 ≤ r.1 ∧ r.1 ≤ behindF b es + if b then 0 else n
      split <;> omega
    | row k v =>
      show 0 ≤ r.1 ∧ r.1 ≤ behindF b es + if b then 1 else 0
      rcases List.mem_cons.mp hr with rfl | hr
      · show 0 ≤ behindF b es ∧ behindF b es ≤ _; split <;> omega
      · have q := ih h' r hr; split <;> omega
theorem aged_falls {b : Bool} {es : List Ent} (h : ∀ e ∈ es, e.ok) : Falls (agedF b es) := by
  induction es with
  | nil => exact .nil
  | cons x es ih =>
    have h' : ∀ e ∈ es, e.ok := fun e he => h e (by simp [he])
    cases x with
    | tick n => exact ih h'
    | row k v => exact List.Pairwise.cons (fun r hr => (aged_le h' r hr).2) (ih h')
def older (n : Int) (r : Row) : Row := (r.1 + n, r.2)
theorem behind_append (b : Bool) (es more : List Ent) : behindF b (es ++ more) = behindF b es + behindF b more := by
  induction es with
  | nil => show _ = 0 + _; rw [Int.zero_add]; rfl
  | cons x es ih =>
    cases x with
    | tick n => show behindF b (es ++ more) + _ = behindF b es + _ + _; rw [ih]; omega
    | row k v => show behindF b (es ++ more) + _ = behindF b es + _ + _; rw [ih]; omega
theorem aged_append (b : Bool) (es more : List Ent) : agedF b (es ++ more) = (agedF b es).map (older (behindF b more)) ++ agedF b more := by
  induction es with
  | nil => rfl
  | cons x es ih =>
    cases x with
    | tick n => exact ih
    | row k v =>
      show (behindF b (es ++ more), k, v) :: agedF b (es ++ more) = _
      rw [ih, behind_append]; rfl
/-- the counts of two parts -/
theorem NN_append (R S : List Row) (n : Int) (p : Nat → Bool) (t key v : Int) : NN (R.map (older n) ++ S) p t key v = NN R p (t - n) key v + NN S (fun j => p (R.length + j)) t key v := by
  unfold NN cP
  rw [List.length_append, List.length_map, List.range_add, List.countP_append, List.countP_map]
  congr 1
  · refine List.countP_congr fun j hj => ?_
    have hj' : j < R.length := List.mem_range.mp hj
    have e := List.getElem?_eq_getElem hj'
    have e2 : (R.map (older n) ++ S)[j]? = some (older n R[j]) := by
      rw [List.getElem?_append_left (by simpa using hj'), List.getElem?_map, e]; rfl
    rw [tst_at e, tst_at e2]
    have : decide ((older n R[j]).1 < t ∧ (older n R[j]).2.1 = key ∧ v ≤ (older n R[j]).2.2) = decide (R[j].1 < t - n ∧ R[j].2.1 = key ∧ v ≤ R[j].2.2) := by
      show decide (R[j].1 + n < t ∧ R[j].2.1 = key ∧ v ≤ R[j].2.2) = _
      exact decide_eq_decide.mpr ⟨fun x => ⟨by omega, x.2⟩, fun x => ⟨by omega, x.2⟩⟩
    rw [this]
  · refine List.countP_congr fun j hj => ?_
    show (p (R.length + j) && tst _ t key v (R.length + j)) = true ↔ _
    have : tst (R.map (older n) ++ S) t key v (R.length + j) = tst S t key v j := by
      unfold tst
      rw [List.getElem?_append_right (by simp), List.length_map]
      simp
    rw [this]
theorem min_add {K a b c : Nat} (h : min K a = min K b) : min K (a + c) = min K (b + c) := by omega
/-- a lot that lasts still does with further rows -/
theorem lasts_more {K : Nat} {size n : Int} {R S : List Row} {p : Nat → Bool} (h : Lasts K size R p) (hn : 0 ≤ n) (hp : ∀ j, j < S.length → p (R.length + j) = true) : Lasts K size (R.map (older n) ++ S) p := fun t ht key v => by
  rw [NN_append, NN_append]
  have e : NN S (fun j => p (R.length + j)) t key v = NN S (fun j => true) t key v := cP_congr fun j hj => by dsimp only; rw [hp j hj]
  rw [e]
  exact min_add (h (t - n) (by omega) key v)
theorem Agr.congr {K : Nat} {R : List Row} {p q : Nat → Bool} {t : Int} (h : ∀ j, j < R.length → p j = q j) : Agr K R p t ↔ Agr K R q t := by
  have e : ∀ key v, NN R p t key v = NN R q t key v := fun key v => cP_congr fun j hj => by rw [h j hj]
  constructor
  · intro a key v; rw [← e]; exact a key v
  · intro a key v; rw [e]; exact a key v
theorem agr_low {K : Nat} {R : List Row} {p : Nat → Bool} {t : Int} (h0 : ∀ r ∈ R, 0 ≤ r.1) (ht : t ≤ 0) : Agr K R p t := fun key v => by
  have z : ∀ q : Nat → Bool, NN R q t key v = 0 := fun q => cP_zero fun j hj => by
    have e := List.getElem?_eq_getElem hj
    have := h0 _ (List.getElem_mem hj)
    rw [tst_at e, decide_eq_false (by omega), Bool.and_false]
  rw [z, z]

/-! ### what may come that parts two lots -/
def moreF (b : Bool) (low : Int) (s : Nat) : List Ent := if b then List.replicate s (.row 0 low) else if s = 0 then [] else [.tick s]
def lowF (rows : List Row) (low : Int) : Prop := ∀ r ∈ rows, low < r.2.2
theorem behind_more (b : Bool) (low : Int) (s : Nat) : behindF b (moreF b low s) = s := by
  cases b with
  | false =>
    unfold moreF
    by_cases h : s = 0
    · subst h; rfl
    · simp [h, behindF]
  | true =>
    show behindF true (List.replicate s (.row 0 low)) = s
    induction s with
    | zero => rfl
    | succ s ih =>
      show behindF true (List.replicate s (.row 0 low)) + 1 = _
      rw [ih]; omega
theorem more_rows (low : Int) (s : Nat) (t key v : Int) (hs : (s : Int) ≤ t) : NN (agedF true (moreF true low s)) (fun _ => true) t key v = if key = 0 ∧ v ≤ low then s else 0 := by
  show NN (agedF true (List.replicate s (.row 0 low))) _ t key v = _
  have len : (agedF true (List.replicate s (Ent.row 0 low))).length = s := by
    rw [aged_len true _ 0]
    induction s with
    | zero => rfl
    | succ s ih => exact congrArg (· + 1) (ih (by omega))
  have at' : ∀ (j : Nat) (r : Row), (agedF true (List.replicate s (Ent.row 0 low)))[j]? = some r → r.2 = (0, low) := by
    intro j r h
    have hk := aged_kv true (List.replicate s (Ent.row 0 low)) 0 j
    rw [h] at hk
    cases e : (rowsF 0 (List.replicate s (Ent.row 0 low)))[j]? with
    | none => rw [e] at hk; cases hk
    | some q =>
      rw [e] at hk
      have hq : q = (0, 0, low) := by
        have all : ∀ (m : Nat), ∀ q ∈ rowsF 0 (List.replicate m (Ent.row 0 low)), q = (0, 0, low) := by
          intro m
          induction m with
          | zero => intro q h; cases h
          | succ m ih => intro q h; rcases List.mem_cons.mp h with rfl | h
                         · rfl
                         · exact ih q h
        exact all s q (List.mem_of_getElem? e)
      subst hq
      have := Option.some.inj hk
      exact this
  unfold NN cP
  by_cases h : key = 0 ∧ v ≤ low
  · rw [if_pos h]
    have : (List.range (agedF true (List.replicate s (Ent.row 0 low))).length).countP (fun j => true && tst (agedF true (List.replicate s (Ent.row 0 low))) t key v j) = (List.range (agedF true (List.replicate s (Ent.row 0 low))).length).length := by
      rw [List.countP_eq_length]
      intro j hj
      have hj' := List.mem_range.mp hj
      have e := List.getElem?_eq_getElem hj'
      have h1 := at' j _ e
      have h2 := aged_age_rows _ j _ e
      rw [tst_at e]
      simp only [Bool.true_and, decide_eq_true_eq]
      rw [h1]
      refine ⟨by omega, h.1.symm, h.2⟩
    rw [this, List.length_range, len]
  · rw [if_neg h]
    rw [List.countP_eq_zero]
    intro j hj
    have hj' := List.mem_range.mp hj
    have e := List.getElem?_eq_getElem hj'
    have h1 := at' j _ e
    rw [tst_at e]
    simp only [Bool.true_and, decide_eq_true_eq]
    rw [h1]
    rintro ⟨_, g1, g2⟩
    exact h ⟨g1.symm, g2⟩
/-- a lot and all, behind what may come: as at the moment that this brings -/
theorem agr_more {K : Nat} {b : Bool} {low size : Int} {s : Nat} {es : List Ent} {p : Nat → Bool} (hs : (s : Int) ≤ size) (hl : b = true → lowF (agedF b es) low) (hp : ∀ j, j < (agedF b (moreF b low s)).length → p ((agedF b es).length + j) = true) :
    Agr K (agedF b (es ++ moreF b low s)) p size ↔ Agr K (agedF b es) p (size - s) := by
  rw [aged_append, behind_more]
  have e : ∀ key v, NN (agedF b (moreF b low s)) (fun j => p ((agedF b es).length + j)) size key v = NN (agedF b (moreF b low s)) (fun j => true) size key v := fun key v => cP_congr fun j hj => by dsimp only; rw [hp j hj]
  cases b with
  | false =>
    have z : agedF false (moreF false low s) = [] := by
      unfold moreF
      by_cases h : s = 0
      · subst h; rfl
      · simp [h, agedF]
    constructor
    · intro h key v
      have := h key v
      rw [NN_append, NN_append, z] at this
      exact this
    · intro h key v
      rw [NN_append, NN_append, z]
      exact h key v
  | true =>
    constructor
    · intro h
      have main : ∀ key v, ¬ (key = 0 ∧ v ≤ low) → min K (NN (agedF true es) p (size - s) key v) = min K (NN (agedF true es) (fun _ => true) (size - s) key v) := fun key v g => by
        have := h key v
        rw [NN_append, NN_append, e, more_rows low s size key v hs, if_neg g] at this
        exact this
      intro key v
      by_cases g : key = 0 ∧ v ≤ low
      · have eq : ∀ q : Nat → Bool, NN (agedF true es) q (size - s) key v = NN (agedF true es) q (size - s) key (low + 1) := fun q => cP_congr fun j hj => by
          have e := List.getElem?_eq_getElem hj
          have := hl rfl _ (List.getElem_mem hj)
          rw [tst_at e, tst_at e]
          congr 1
          refine decide_eq_decide.mpr ⟨fun x => ⟨x.1, x.2.1, by omega⟩, fun x => ⟨x.1, x.2.1, by omega⟩⟩
        rw [eq, eq]
        exact main key (low + 1) (by omega)
      · exact main key v g
    · intro h key v
      rw [NN_append, NN_append, e]
      exact min_add (h key v)
end Win
/-! stairs: what is kept from entry to entry -/
namespace Win

/-- of a lot that holds all that go ahead of its own, as many are kept as there are, K at most -/
theorem kept_up {K : Nat} {size : Int} {R : List Row} {X : Nat → Bool} (hin : ∀ j, j < R.length → X j = true → inB R size j = true) (hup : ∀ o m, o < R.length → X m = true → inB R size o = true → goesB R o m = true → X o = true) :
    min K (cP R.length X) ≤ cP R.length fun j => X j && keptB K size R j := by
  let n := R.length
  let G : List Nat := (List.range n).filter fun j => X j && !keptB K size R j
  by_cases hG : G = []
  · have : cP n X ≤ cP n fun j => X j && keptB K size R j := cP_le fun j hj g => by
      have : j ∉ G := by rw [hG]; simp
      simp only [G, List.mem_filter, List.mem_range, Bool.and_eq_true, Bool.not_eq_true', not_and] at this
      have q := this hj g
      rw [g]
      cases z : keptB K size R j with
      | true => rfl
      | false => exact absurd z q
    show min K (cP n X) ≤ cP n fun j => X j && keptB K size R j
    omega
  · obtain ⟨m, hm, best⟩ := best_of (fun j => match R[j]? with | some r => r.2.2 | none => 0) hG
    have hm' : m < n ∧ X m = true ∧ keptB K size R m = false := by
      simp only [G, List.mem_filter, List.mem_range, Bool.and_eq_true, Bool.not_eq_true'] at hm
      exact hm
    have er := List.getElem?_eq_getElem hm'.1
    have hk : K ≤ firsts R size m := by
      have z := hm'.2.2
      unfold keptB at z
      rw [hin m hm'.1 hm'.2.1] at z
      simpa using z
    have : firsts R size m ≤ cP n fun j => X j && keptB K size R j := cP_le fun o ho g => by
      simp only [Bool.and_eq_true] at g
      have eo := List.getElem?_eq_getElem ho
      have hx : X o = true := hup o m ho hm'.2.1 g.1 g.2
      rw [hx]
      cases z : keptB K size R o with
      | true => rfl
      | false =>
        have : o ∈ G := by
          simp only [G, List.mem_filter, List.mem_range, Bool.and_eq_true, Bool.not_eq_true']
          exact ⟨ho, hx, z⟩
        have b := best o this
        have g2 := g.2
        rw [goes_at eo er] at g2
        have g3 := of_decide_eq_true g2
        rw [eo, er] at b
        simp only at b
        rcases b with b | ⟨b1, b2⟩
        · rcases g3.2.2.2 with q | q <;> omega
        · rcases g3.2.2.2 with q | q <;> omega
    show min K (cP n X) ≤ cP n fun j => X j && keptB K size R j
    omega
theorem goes_trans {R : List Row} {o m j : Nat} (h1 : goesB R o m = true) (h2 : goesB R m j = true) : goesB R o j = true := by
  unfold goesB at *
  cases eo : R[o]? with
  | none => rw [eo] at h1; cases h1
  | some a =>
    cases em : R[m]? with
    | none => rw [eo, em] at h1; cases h1
    | some b =>
      cases ej : R[j]? with
      | none => rw [em, ej] at h2; cases h2
      | some c =>
        rw [eo, em] at h1
        rw [em, ej] at h2
        simp only [decide_eq_true_eq] at h1 h2 ⊢
        refine ⟨fun z => ?_, by omega, by omega, by omega⟩
        subst z
        rw [eo] at ej
        cases ej
        omega
/-- the number of those ahead, kept or not, is below K or not alike -/
theorem firsts_kept {K : Nat} {size : Int} {R : List Row} {j : Nat} {p : Nat → Bool} (hp : ∀ o, o < R.length → keptB K size R o = true → p o = true) :
    cP R.length (fun o => (inB R size o && p o) && goesB R o j) < K ↔ firsts R size j < K := by
  have h1 : cP R.length (fun o => (inB R size o && p o) && goesB R o j) ≤ firsts R size j := cP_le fun o _ g => by
    simp only [Bool.and_eq_true] at g ⊢
    exact ⟨g.1.1, g.2⟩
  have h2 := kept_up (K := K) (size := size) (R := R) (X := fun o => inB R size o && goesB R o j) (fun o _ g => by simp only [Bool.and_eq_true] at g; exact g.1) (fun o m ho g1 g2 g3 => by
    simp only [Bool.and_eq_true] at g1 ⊢
    exact ⟨g2, goes_trans g3 g1.2⟩)
  have h3 : (cP R.length fun o => (inB R size o && goesB R o j) && keptB K size R o) ≤ cP R.length (fun o => (inB R size o && p o) && goesB R o j) := cP_le fun o ho g => by
    simp only [Bool.and_eq_true] at g ⊢
    exact ⟨⟨g.1.1, hp o ho g.2⟩, g.1.2⟩
  have h4 : firsts R size j = cP R.length (fun o => inB R size o && goesB R o j) := rfl
  omega

/-! ### an entry more -/
theorem goes_older {R S : List Row} {n : Int} {o j : Nat} (ho : o < R.length) (hj : j < R.length) : goesB (R.map (older n) ++ S) o j = goesB R o j := by
  have e1 : ∀ i (hi : i < R.length), (R.map (older n) ++ S)[i]? = some (older n R[i]) := fun i hi => by
    rw [List.getElem?_append_left (by simpa using hi), List.getElem?_map, List.getElem?_eq_getElem hi]; rfl
  rw [goes_at (e1 o ho) (e1 j hj), goes_at (List.getElem?_eq_getElem ho) (List.getElem?_eq_getElem hj)]
  refine decide_eq_decide.mpr ?_
  show _ ∧ R[o].2.1 = R[j].2.1 ∧ R[o].1 + n ≤ R[j].1 + n ∧ _ ↔ _
  exact ⟨fun h => ⟨h.1, h.2.1, by omega, h.2.2.2⟩, fun h => ⟨h.1, h.2.1, by omega, h.2.2.2⟩⟩
/-- what is kept was kept -/
theorem kept_before {K : Nat} {size n : Int} {R S : List Row} {j : Nat} (hn : 0 ≤ n) (hj : j < R.length) (h : keptB K size (R.map (older n) ++ S) j = true) : keptB K size R j = true := by
  have e1 : ∀ i (hi : i < R.length), (R.map (older n) ++ S)[i]? = some (older n R[i]) := fun i hi => by
    rw [List.getElem?_append_left (by simpa using hi), List.getElem?_map, List.getElem?_eq_getElem hi]; rfl
  unfold keptB at h ⊢
  rw [in_at (e1 j hj)] at h
  rw [in_at (List.getElem?_eq_getElem hj)]
  simp only [Bool.and_eq_true, decide_eq_true_eq] at h ⊢
  have h1 : R[j].1 + n < size := h.1
  refine ⟨by omega, Nat.lt_of_le_of_lt ?_ h.2⟩
  unfold firsts cP
  rw [List.length_append, List.length_map, List.range_add, List.countP_append]
  refine Nat.le_trans ?_ (Nat.le_add_right _ _)
  refine List.countP_mono_left fun o ho g => ?_
  have ho' := List.mem_range.mp ho
  simp only [Bool.and_eq_true] at g
  rw [goes_older ho' hj, g.2, in_at (e1 o ho')]
  have g2 := g.2
  rw [goes_at (List.getElem?_eq_getElem ho') (List.getElem?_eq_getElem hj)] at g2
  have := of_decide_eq_true g2
  simp only [Bool.and_true, decide_eq_true_eq]
  show R[o].1 + n < size
  omega

/-! ### all that is kept of a window, by the places -/
/-- as many as this are kept of one key and value -/
theorem kept_few {K : Nat} {size : Int} {R : List Row} (hf : Falls R) (key v : Int) : cP R.length (fun j => keptB K size R j && match R[j]? with | some r => decide (r.2.1 = key ∧ r.2.2 = v) | none => false) ≤ K := by
  by_cases h0 : cP R.length (fun j => keptB K size R j && match R[j]? with | some r => decide (r.2.1 = key ∧ r.2.2 = v) | none => false) = 0
  · omega
  obtain ⟨j, hj, gj, least⟩ := least_of (n := R.length) (p := fun j => keptB K size R j && match R[j]? with | some r => decide (r.2.1 = key ∧ r.2.2 = v) | none => false) (by omega)
  have ej := List.getElem?_eq_getElem hj
  simp only [Bool.and_eq_true] at gj
  rw [ej] at gj
  have gj2 := of_decide_eq_true gj.2
  have hk : R[j].1 < size ∧ firsts R size j < K := by
    have := gj.1
    unfold keptB at this
    rw [in_at ej] at this
    simpa using this
  have ah : cP R.length (fun i => (keptB K size R i && match R[i]? with | some r => decide (r.2.1 = key ∧ r.2.2 = v) | none => false) && !decide (i = j)) ≤ firsts R size j := cP_le fun i hi g => by
    have e := List.getElem?_eq_getElem hi
    simp only [Bool.and_eq_true, Bool.not_eq_true', decide_eq_false_iff_not] at g
    obtain ⟨⟨g1, g2⟩, g3⟩ := g
    have hle := least i hi (by rw [g1, g2]; rfl)
    rw [e] at g2
    have g2' := of_decide_eq_true g2
    have hfall := hf.le (i := j) (j := i) (by omega) hi
    rw [in_at e, goes_at e ej]
    simp only [Bool.and_eq_true, decide_eq_true_eq]
    exact ⟨by omega, g3, by omega, hfall, .inr ⟨by omega, by omega⟩⟩
  have one : cP R.length (fun j => keptB K size R j && match R[j]? with | some r => decide (r.2.1 = key ∧ r.2.2 = v) | none => false) ≤ cP R.length (fun i => (keptB K size R i && match R[i]? with | some r => decide (r.2.1 = key ∧ r.2.2 = v) | none => false) && !decide (i = j)) + 1 := by
    rw [cP_split R.length (fun i => keptB K size R i && match R[i]? with | some r => decide (r.2.1 = key ∧ r.2.2 = v) | none => false) fun i => decide (i = j)]
    have h1 : cP R.length (fun i => (keptB K size R i && match R[i]? with | some r => decide (r.2.1 = key ∧ r.2.2 = v) | none => false) && decide (i = j)) ≤ cP R.length fun i => decide (i = j) := cP_le fun i _ g => by simp only [Bool.and_eq_true] at g; exact g.2
    have h2 : (cP R.length fun i => decide (i = j)) ≤ 1 := by
      unfold cP
      have : (List.range R.length).countP (fun i => decide (i = j)) = (List.range R.length).count j := by
        unfold List.count; exact List.countP_congr fun i _ => by simp
      rw [this, List.Nodup.count List.nodup_range]
      split <;> omega
    omega
  omega
/-- the kept rows tell what all tell -/
theorem kept_tells {K : Nat} {size : Int} {R : List Row} : Agr K R (keptB K size R) size := fun key v => by
  have h1 := kept_many (K := K) (R := R) (t := size) (key := key) (v := v) (Int.le_refl size)
  have h2 := NN_le R (keptB K size R) size key v
  omega
/-- a lot that lasts has no fewer rows than are kept -/
theorem lasts_len {K : Nat} {size : Int} {R : List Row} {lot : List Nat} (hf : Falls R) (hn : lot.Nodup) (hb : ∀ j ∈ lot, j < R.length) (h : Lasts K size R fun j => decide (j ∈ lot)) : ((List.range R.length).filter (keptB K size R)).length ≤ lot.length := by
  have he := enough_of_lasts hf h
  have h1 := countP_sub (fun _ : Row => true) (((List.range R.length).filter (keptB K size R)).filterMap (R[·]?)) (((List.range R.length).filter fun j => decide (j ∈ lot)).filterMap (R[·]?)) fun r => by
    rw [count_rows, count_rows]; exact he r
  have full : ∀ l : List Nat, (∀ j ∈ l, j < R.length) → (l.filterMap (R[·]?)).countP (fun _ : Row => true) = l.length := by
    intro l hl
    induction l with
    | nil => rfl
    | cons j l ih =>
      rw [List.filterMap_cons_some (List.getElem?_eq_getElem (hl j (by simp))), List.countP_cons, ih fun i hi => hl i (by simp [hi])]
      simp
  rw [full _ fun j hj => List.mem_range.mp (List.mem_filter.mp hj).1, full _ fun j hj => List.mem_range.mp (List.mem_filter.mp hj).1] at h1
  refine Nat.le_trans h1 ?_
  have : ((List.range R.length).filter fun j => decide (j ∈ lot)).length = lot.countP fun _ => true := by
    rw [countP_lot hn hb fun _ => true]
    unfold cP
    rw [← List.countP_eq_length_filter]
    exact List.countP_congr fun j _ => by simp
  rw [this]
  exact List.countP_le_length
end Win

namespace K76
open PySem L2 DL Win
def top (i : Nat) : Stmt := PySem.Challenge.pw_standingasks_k76_whole_stairs.main.body.getD i (.Pass ⟨0, 0, 0, 0⟩)
abbrev s_told_lots : Stmt := top 1
abbrev s_stays_no_shorter : Stmt := top 3
abbrev s_goes_ahead : Stmt := top 4
abbrev s_worth_keeping : Stmt := top 5
abbrev s_Stairs___init__ : Stmt := inClass (top 6) 0
abbrev s_Stairs_feed : Stmt := inClass (top 6) 1
abbrev s_Stairs_forget : Stmt := inClass (top 6) 2
abbrev s_Stairs_is_inside : Stmt := inClass (top 6) 3
abbrev s_Stairs_tell : Stmt := inClass (top 6) 4
abbrev s_Stairs_kept : Stmt := inClass (top 6) 5
abbrev s_begin : Stmt := top 8
abbrev s_draw : Stmt := top 9
abbrev s_pick : Stmt := top 10
abbrev s_shuffled : Stmt := top 11
abbrev s_is_int : Stmt := top 12
abbrev s_is_ints : Stmt := top 13
abbrev s_window : Stmt := top 14
abbrev s_aged : Stmt := top 15
abbrev s_lot_told : Stmt := top 16
abbrev s_is_window_told : Stmt := top 17
abbrev s_worth : Stmt := top 18
abbrev s_wait : Stmt := top 19
abbrev s_stream : Stmt := top 20
abbrev s_long_stream : Stmt := top 21
abbrev s_goes_first : Stmt := top 22
abbrev s_kept_rows : Stmt := top 23
abbrev s_kept_of_long : Stmt := top 24
abbrev s_is_lasting : Stmt := top 25
abbrev s_is_fewest : Stmt := top 26
abbrev s_step_is_right : Stmt := top 27
abbrev s_long_is_right : Stmt := top 28
abbrev s_law : Stmt := top 29
structure Txt (K : PySem.W.Frag) (mg : Str → Option Value) (c_Stairs : Addr) : Prop where
  b_abs : mg "abs" = none
  b_all : mg "all" = none
  b_bool : mg "bool" = none
  b_int : mg "int" = none
  b_isinstance : mg "isinstance" = none
  b_len : mg "len" = none
  b_list : mg "list" = none
  b_max : mg "max" = none
  b_min : mg "min" = none
  b_range : mg "range" = none
  b_sorted : mg "sorted" = none
  b_tuple : mg "tuple" = none
  f_told_lots : TF K mg "told_lots" s_told_lots ["window", "rows", "positions"]
  f_stays_no_shorter : TF K mg "stays_no_shorter" s_stays_no_shorter ["window", "rows", "other", "at"]
  f_goes_ahead : TF K mg "goes_ahead" s_goes_ahead ["window", "rows", "other", "at"]
  f_worth_keeping : TF K mg "worth_keeping" s_worth_keeping ["window", "rows", "positions"]
  f_begin : TF K mg "_law_begin" s_begin ["script"]
  f_draw : TF K mg "_law_draw" s_draw ["d", "many"]
  f_pick : TF K mg "_law_pick" s_pick ["d", "row"]
  f_shuffled : TF K mg "_law_shuffled" s_shuffled ["d", "row"]
  f_is_int : TF K mg "_law_is_int" s_is_int ["thing"]
  f_is_ints : TF K mg "_law_is_ints" s_is_ints ["thing"]
  f_window : TF K mg "_law_window" s_window ["d", "kind", "far"]
  f_aged : TF K mg "_law_aged" s_aged ["window", "entries"]
  f_lot_told : TF K mg "_law_lot_told" s_lot_told ["window", "aged", "lot", "wait"]
  f_is_window_told : TF K mg "_law_is_window_told" s_is_window_told ["answer"]
  f_worth : TF K mg "_law_worth" s_worth ["d"]
  f_wait : TF K mg "_law_wait" s_wait ["d", "window", "entries"]
  f_stream : TF K mg "_law_stream" s_stream ["d", "window", "keys", "most"]
  f_long_stream : TF K mg "_law_long_stream" s_long_stream ["d", "window", "keys", "span"]
  f_goes_first : TF K mg "_law_goes_first" s_goes_first ["aged", "other", "at"]
  f_kept_rows : TF K mg "_law_kept_rows" s_kept_rows ["window", "aged"]
  f_kept_of_long : TF K mg "_law_kept_of_long" s_kept_of_long ["window", "aged"]
  f_is_lasting : TF K mg "_law_is_lasting" s_is_lasting ["window", "aged", "lot"]
  f_is_fewest : TF K mg "_law_is_fewest" s_is_fewest ["window", "entries", "kept"]
  f_step_is_right : TF K mg "_law_step_is_right" s_step_is_right ["window", "entries", "stairs", "answer"]
  f_long_is_right : TF K mg "_law_long_is_right" s_long_is_right ["d", "key"]
  f_law : TF K mg "law" s_law ["script"]
  k_Stairs : ClsD K mg "Stairs" c_Stairs
  n_Stairs_window : NoAttr K c_Stairs "window"
  n_Stairs_clock : NoAttr K c_Stairs "clock"
  n_Stairs_seen : NoAttr K c_Stairs "seen"
  n_Stairs_held : NoAttr K c_Stairs "held"
  m_Stairs___init__ : MT K c_Stairs "__init__" "Stairs.__init__" s_Stairs___init__ ["self", "window"]
  m_Stairs_feed : MT K c_Stairs "feed" "Stairs.feed" s_Stairs_feed ["self", "entry"]
  m_Stairs_forget : MT K c_Stairs "forget" "Stairs.forget" s_Stairs_forget ["self"]
  m_Stairs_is_inside : MT K c_Stairs "is_inside" "Stairs.is_inside" s_Stairs_is_inside ["self", "at"]
  m_Stairs_tell : MT K c_Stairs "tell" "Stairs.tell" s_Stairs_tell ["self"]
  m_Stairs_kept : PrT K c_Stairs "kept" "Stairs.kept" s_Stairs_kept ["self"]
variable {P : Program} {w : World} {K : PySem.W.Frag} {mg : Str → Option Value} {base : Heap}

variable {C : Addr}
def IsDr (l : List D) : Prop := ∃ (cs : List Int) (pos pend seed : Int), 0 ≤ pos ∧ l = [.lst (cs.map .int), .int pos, .int pend, .int seed]
def sp_begin : DSp := fun ds μ Q => ∃ ns : List Int, ds = [.lsr (ns.map .int)] ∧ ∀ p l, IsDr l → μ p = none → Q (.loc p) (μ.upd p (.lst l))
def sp_draw : DSp := fun ds μ Q => ∃ (a : Addr) (l : List D) (m : Int), ds = [.loc a, .int m] ∧ μ a = some (.lst l) ∧ IsDr l ∧ 0 < m ∧ m < 1000000000 ∧ ∀ l' r, IsDr l' → 0 ≤ r → r < m → Q (.int r) (μ.upd a (.lst l'))
def sp_pick : DSp := fun ds μ Q => ∃ (a : Addr) (l xs : List D), ds = [.loc a, .lst xs] ∧ μ a = some (.lst l) ∧ IsDr l ∧ 0 < xs.length ∧ xs.length < 1000000000 ∧ ∀ l' x, IsDr l' → x ∈ xs → Q x (μ.upd a (.lst l'))
def sp_is_int : DSp := fun ds μ Q => ∃ i : Int, ds = [.int i] ∧ Q (.bl true) μ
def sp_is_ints : DSp := fun ds μ Q => ∃ ns : List Int, ds = [.tup (ns.map .int)] ∧ ns.length ≤ 1000000 ∧ Q (.bl true) μ
theorem cut63 {α : Type} (xs : List α) : cutD xs none (some 63) = xs.take 63 := by
  unfold cutD
  rw [HT.sIx_none, show HT.sIx xs.length xs.length (some 63) = min 63 xs.length from HT.sIx_nat xs.length _ 63, List.drop_zero, Nat.sub_zero]
  by_cases h : 63 ≤ xs.length
  · rw [Nat.min_eq_left h]
  · rw [Nat.min_eq_right (by omega), List.take_length, List.take_of_length_le (by omega)]
theorem atI_map {α : Type} (f : α → D) {xs : List α} {i : Int} {x : α} (h0 : 0 ≤ i) (h : xs[i.toNat]? = some x) : atI (xs.map f) i = some (f x) := by
  have hl : i.toNat < xs.length := (List.getElem?_eq_some_iff.mp h).1
  unfold atI ixN
  rw [if_pos h0, if_pos (by rw [List.length_map]; omega)]
  show (xs.map f)[i.toNat]? = _
  rw [List.getElem?_map, h]; rfl
theorem atI_at {xs : List D} {i : Int} {x : D} (h0 : 0 ≤ i) (h : xs[i.toNat]? = some x) : atI xs i = some x := by
  have := atI_map id h0 h
  rwa [List.map_id] at this
/- begin -/
theorem sc_begin : FnScope ["script", "cell"] ["script"] (defScope s_begin) := ⟨rfl, rfl, rfl, by decide +kernel, rfl, by decide +kernel, by decide +kernel⟩
theorem ok_begin (T : Txt K mg C) : FnD P w K mg base 1 "_law_begin" sp_begin := by
  refine TF.ok 0 T.f_begin sc_begin (fun ds μ Q ⟨ns, h, _⟩ => by rw [h]; rfl) fun ds μ Q h => ?_
  obtain ⟨ns, rfl, q⟩ := h
  refine wss_cons (ws_ret' (we_lstM (wa_cons (h := we_lc [("cell", 1)] (h := wi_lst (we_slice (we_name 0 (q := wp_none (wp_some (we_int ⟨_, rfl, wsl_lsr ⟨_, rfl, ?_⟩⟩))))))))))
  rw [cutD_map, cut63]
  refine LcHyp.mp _ D.int D.int [1] (by simp) (sz1000 (by simp; omega)) (fun n i hn => ?_) ?_
  · refine wg_name 1 (q := wts_nil ⟨rfl, rfl, ?_⟩)
    exact we_callT bt_int T.b_int (h := wa_cons (h := we_name 1 (q := wa_nil (wc_int ⟨rfl, rfl⟩))))
  · refine wa_cons (h := we_int (wa_cons (h := we_int (wa_cons (h := we_int (wa_nil ⟨szb rfl, fun p hp => ?_⟩))))))
    exact q p _ ⟨ns.take 63, 0, 0, 7, by omega, rfl⟩ hp
/- draw -/
theorem sc_draw : FnScope ["d", "many", "found", "cell", "size"] ["d", "many"] (defScope s_draw) := ⟨rfl, rfl, rfl, by decide +kernel, rfl, by decide +kernel, by decide +kernel⟩
theorem ok_draw (T : Txt K mg C) : FnD P w K mg base 1 "_law_draw" sp_draw := by
  refine TF.ok 0 T.f_draw sc_draw (fun ds μ Q ⟨a, l, m, h, _⟩ => by rw [h]; rfl) fun ds μ Q h => ?_
  obtain ⟨a, l, m, rfl, hm, ⟨cs, pos, pend, seed, hpos, rfl⟩, h0, h1, q⟩ := h
  refine wss_cons (ws_if (wt_cmp (h := we_sub (h := we_name 0 (q := we_int (wix_loc hm rfl (we_int (wo_gt ⟨_, rfl, fun hk => ?_, fun hk => ?_⟩))))))))
  · refine wss_cons (ws_set 2 (h := we_sub (h := we_name 0 (q := we_int (wix_loc hm rfl ?_)))))
    refine wss_cons (ws_putL (h := we_bin (we_name 2 (q := we_name 1 (q := wo_fdiv ⟨h0, by omega⟩ (we_name 0 (q := we_int ⟨a, _, _, 2, rfl, rfl, hm, rfl, ?_⟩)))))))
    refine wss_cons (ws_ret' (we_bin (we_callT bt_int T.b_int (h := wa_cons (h := we_name 2 (q := wa_nil (wc_int (we_name 1 (q := wo_mod h0 ?_)))))))))
    exact q _ _ ⟨cs, pos, _, seed, hpos, rfl⟩ (Int.emod_nonneg _ (by omega)) (Int.emod_lt_of_pos _ h0)
  refine wss_nil ?_
  have rest : ∀ cell : Int, WSs (gamF P w K mg base ["d", "many", "found", "cell", "size"] (defScope s_draw) 0) ((defBody s_draw).drop 2) [some (.loc a), some (.int m), none, some (.int cell), none] μ { nx := fun _ μ1 => Q .non μ1, rt := Q } := by
    intro cell
    refine wss_cons (ws_set 4 (h := we_bin (we_bin (we_int (we_callB bt_abs T.b_abs (h := wa_cons (h := we_name 3 (q := wa_nil (wc_abs (wo_mul (.inl ⟨by decide, by decide⟩) (we_callT bt_int T.b_int (h := wa_cons (h := we_cmp (h := we_name 3 (q := we_int (wo_lt (wa_nil (wc_intB (wo_add ?_)))))))))))))))))))
    refine wss_cons (ws_augL (fun _ => ip_add) (h := we_name 0 (q := we_int ⟨a, _, _, pos, rfl, rfl, hm, by decide, rfl, we_int ⟨_, _, rfl, hm, by show (1 : Int) < 4; decide, ?_⟩⟩)))
    have hm2 := Mem.upd_same (μ := μ) (a := a) (o := .lst [.lst (cs.map .int), .int (pos + 1), .int pend, .int seed])
    refine wss_cons (ws_if (wt_cmp (h := we_name 4 (q := we_bin (we_int (we_bin (we_int (we_int (wo_pow ⟨by decide, by decide, by decide⟩ (wo_mul (.inl ⟨by decide, by decide⟩) (wo_ge ⟨_, rfl, fun hk => ?_, fun hk => ?_⟩)))))))))))
    · refine wss_cons (ws_set 2 (h := we_bin (we_callT bt_int T.b_int (h := wa_cons (h := we_bin (we_name 4 (q := we_int (wo_fdiv ⟨by decide, by decide⟩ (wa_nil (wc_int (we_bin (we_int (we_int (wo_shl ⟨by decide, by decide, by decide⟩ (wo_mod (by decide +kernel) ?_)))))))))))))))
      refine wss_cons (ws_putL (h := we_bin (we_name 2 (q := we_name 1 (q := wo_fdiv ⟨h0, by omega⟩ (we_name 0 (q := we_int ⟨a, _, _, 2, rfl, rfl, hm2, rfl, ?_⟩)))))))
      refine wss_cons (ws_ret' (we_bin (we_callT bt_int T.b_int (h := wa_cons (h := we_name 2 (q := wa_nil (wc_int (we_name 1 (q := wo_mod h0 ?_)))))))))
      rw [Mem.upd_upd]
      exact q _ _ ⟨cs, pos + 1, _, seed, by omega, rfl⟩ (Int.emod_nonneg _ (by omega)) (Int.emod_lt_of_pos _ h0)
    refine wss_nil ?_
    refine wss_cons (ws_putL (h := we_bin (we_callT bt_int T.b_int (h := wa_cons (h := we_bin (we_bin (we_bin (we_bin (we_sub (h := we_name 0 (q := we_int (wix_loc hm2 rfl (we_int (wo_mul (.inr ⟨by decide, by decide⟩) (we_bin (we_bin (we_callT bt_int T.b_int (h := wa_cons (h := we_name 4 (q := wa_nil (wc_int (we_int (wo_mod (by decide) (we_int (wo_mul (.inr ⟨by decide, by decide⟩) (wo_add (we_bin (we_sub (h := we_name 0 (q := we_int (wix_loc hm2 rfl (we_int (wo_mul (.inr ⟨by decide, by decide⟩) (wo_add (we_int (wo_add (wa_nil (wc_int (we_int (wo_mod (by decide) (we_name 0 (q := we_int ⟨a, _, _, 3, rfl, rfl, hm2, rfl, ?_⟩))))))))))))))))))))))))))))))))))))))))))
    rw [Mem.upd_upd]
    refine wss_cons (ws_ret' (we_bin (we_callT bt_int T.b_int (h := wa_cons (h := we_bin (we_sub (h := we_name 0 (q := we_int (wix_loc Mem.upd_same rfl (we_int (wo_fdiv ⟨by decide, by decide⟩ (wa_nil (wc_int (we_name 1 (q := wo_mod h0 ?_)))))))))))))))
    exact q _ _ ⟨cs, pos + 1, pend, _, by omega, rfl⟩ (Int.emod_nonneg _ (by omega)) (Int.emod_lt_of_pos _ h0)
  refine wss_cons (ws_set 3 (h := we_ifExp (wt_cmp (h := we_sub (h := we_name 0 (q := we_int (wix_loc hm rfl (we_callB bt_len T.b_len (h := wa_cons (h := we_sub (h := we_name 0 (q := we_int (wix_loc hm rfl (wa_nil (wc_len_lst (wo_lt ⟨_, rfl, fun hk => ?_, fun hk => ?_⟩))))))))))))))))
  · have hlt : pos.toNat < cs.length := by
      rw [List.length_map] at hk
      have := of_decide_eq_true hk
      omega
    refine we_sub (h := we_sub (h := we_name 0 (q := we_int (wix_loc hm rfl (we_sub (h := we_name 0 (q := we_int (wix_loc hm rfl (wix_lst (atI_map D.int hpos (List.getElem?_eq_getElem hlt)) ?_)))))))))
    exact rest _
  · exact we_int (rest 0)
/- pick -/
theorem sc_pick : FnScope ["d", "row"] ["d", "row"] (defScope s_pick) := ⟨rfl, rfl, rfl, by decide +kernel, rfl, by decide +kernel, by decide +kernel⟩
theorem ok_pick (T : Txt K mg C) : FnD P w K mg base 2 "_law_pick" sp_pick := by
  refine TF.ok 1 T.f_pick sc_pick (fun ds μ Q ⟨a, l, xs, h, _⟩ => by rw [h]; rfl) fun ds μ Q h => ?_
  obtain ⟨a, l, xs, rfl, hm, hl, h0, h1, q⟩ := h
  refine wss_cons (ws_ret' (we_sub (h := we_name 1 (q := we_call (ok_draw T) (h := wa_cons (h := we_name 0 (q := wa_cons (h := we_callB bt_len T.b_len (h := wa_cons (h := we_name 1 (q := wa_nil (wc_len_lst (wa_nil ⟨a, l, _, rfl, hm, hl, by omega, by omega, fun l' r hl' r0 r1 => ?_⟩)))))))))))))
  have hlt : r.toNat < xs.length := by omega
  exact wix_lst (atI_at r0 (List.getElem?_eq_getElem hlt)) (q l' _ hl' (List.getElem_mem hlt))
/- is_int, is_ints -/
theorem sc_is_int : FnScope ["thing"] ["thing"] (defScope s_is_int) := ⟨rfl, rfl, rfl, by decide +kernel, rfl, by decide +kernel, by decide +kernel⟩
theorem ok_is_int (T : Txt K mg C) : FnD P w K mg base 1 "_law_is_int" sp_is_int := by
  refine TF.ok 0 T.f_is_int sc_is_int (fun ds μ Q ⟨i, h, _⟩ => by rw [h]; rfl) fun ds μ Q h => ?_
  obtain ⟨i, rfl, q⟩ := h
  refine wss_cons (ws_ret' (we_and (we_callB bt_isinstance T.b_isinstance (h := wa_cons (h := we_name 0 (q := wa_cons (h := we_type rfl T.b_int bt_int (by decide) (by decide) (wa_nil (wc_isi (k := true) rfl (by decide +kernel) ⟨_, rfl, fun hk => we_one (we_not (we_callB bt_isinstance T.b_isinstance (h := wa_cons (h := we_name 0 (q := wa_cons (h := we_type rfl T.b_bool bt_bool (by decide) (by decide) (wa_nil (wc_isi (k := false) rfl (by decide +kernel) ⟨_, rfl, ?_⟩)))))))), fun hk => nomatch hk⟩)))))))))
  exact q
theorem sc_is_ints : FnScope ["thing", "part"] ["thing"] (defScope s_is_ints) := ⟨rfl, rfl, rfl, by decide +kernel, rfl, by decide +kernel, by decide +kernel⟩
theorem ok_is_ints (T : Txt K mg C) : FnD P w K mg base 2 "_law_is_ints" sp_is_ints := by
  refine TF.ok 1 T.f_is_ints sc_is_ints (fun ds μ Q ⟨i, h, _⟩ => by rw [h]; rfl) fun ds μ Q h => ?_
  obtain ⟨ns, rfl, hl, q⟩ := h
  refine wss_cons (ws_ret' (we_and (we_callB bt_isinstance T.b_isinstance (h := wa_cons (h := we_name 0 (q := wa_cons (h := we_type rfl T.b_tuple bt_tuple (by decide) (by decide) (wa_nil (wc_isi (k := true) rfl (by decide +kernel) ⟨_, rfl, fun hk => we_one (we_callB bt_all T.b_all (h := wa_cons (h := we_lc [("part", 1)] (h := wi_tup (we_name 0 (q := ⟨_, rfl, ?_⟩)))))), fun hk => nomatch hk⟩)))))))))
  refine LcHyp.mp _ D.int (fun _ => .bl true) [1] (by simp) (szM (by omega)) (fun n i hn => ?_) ?_
  · refine wg_name 1 (q := wts_nil ⟨rfl, rfl, ?_⟩)
    exact we_call (ok_is_int T) (h := wa_cons (h := we_name 1 (q := wa_nil ⟨n, rfl, rfl, rfl⟩)))
  · refine wa_nil (wc_all (bs := ns.map fun _ => true) (by rw [List.map_map]; rfl) ?_)
    have : (ns.map fun _ => true).all id = true := by rw [List.all_eq_true]; intro b hb; obtain ⟨_, _, rfl⟩ := List.mem_map.mp hb; rfl
    rw [this]; exact q
theorem wss_mid {Γ : Gam} {ρ : Rho} {μ : Mem} {st : Stmt} {sts : List Stmt} {D' : DEnds} (M : Rho → Mem → Prop) (h1 : WS Γ st ρ μ { D' with nx := M }) (h2 : ∀ ρ1 μ1, M ρ1 μ1 → WSs Γ sts ρ1 μ1 D') : WSs Γ (st :: sts) ρ μ D' := fun σ F H s r =>
  (wss_cons (fun σ F H s r => (h1 σ F H s r).le ⟨fun _ _ ⟨F1, ρ1, μ1, s1, r1, e1, q1⟩ => ⟨F1, ρ1, μ1, s1, r1, e1, h2 _ _ q1⟩, fun _ _ h => h, fun _ _ h => h, fun _ _ h => h⟩)) σ F H s r
theorem getE {α : Type} {xs : List α} {f : α → D} {i : Nat} {d : D} (h : (xs.map f)[i]? = some d) : ∃ x, xs[i]? = some x ∧ d = f x := by
  rw [List.getElem?_map] at h
  cases e : xs[i]? with
  | none => rw [e] at h; cases h
  | some x => rw [e] at h; exact ⟨x, rfl, (Option.some.inj h).symm⟩
theorem take_snoc {α : Type} {xs : List α} {i : Nat} {x : α} (h : xs[i]? = some x) : xs.take (i + 1) = xs.take i ++ [x] := by
  rw [List.take_add_one, h]; rfl
theorem range_max (n size : Int) (h0 : 0 ≤ n) : rangeD (if 0 < n - size then n - size else 0) (n - (if 0 < n - size then n - size else 0)).toNat = ((List.range n.toNat).drop (n - size).toNat).map fun i : Nat => D.int i := by
  unfold rangeD
  apply List.ext_getElem?
  intro i
  rw [List.getElem?_map, List.getElem?_map, List.getElem?_drop]
  split
  · by_cases hi : (n - size).toNat + i < n.toNat
    · rw [List.getElem?_range (by omega), List.getElem?_range hi]
      simp; omega
    · rw [List.getElem?_eq_none (by simp; omega), List.getElem?_eq_none (by simp; omega)]; rfl
  · by_cases hi : (n - size).toNat + i < n.toNat
    · rw [List.getElem?_range (by omega), List.getElem?_range hi]
      simp; omega
    · rw [List.getElem?_eq_none (by simp; omega), List.getElem?_eq_none (by simp; omega)]; rfl
/-- the places that a window contains -/
def posF (b : Bool) (size : Int) (rows : List Row) (clock : Int) : List Nat :=
  if b then (List.range rows.length).drop ((rows.length : Int) - size).toNat else ((rows.zipIdx.filter fun q => decide (q.1.1 > clock - size)).map (·.2))
theorem enumD_map {α : Type} (f : α → D) (xs : List α) : enumD (xs.map f) = xs.zipIdx.map fun q => D.tup [.int (q.2 : Nat), f q.1] := by
  unfold enumD
  apply List.ext_getElem?
  intro i
  rw [List.getElem?_map, List.getElem?_map, List.getElem?_zipIdx, List.getElem?_zipIdx, List.getElem?_map]
  cases xs[i]? <;> rfl
theorem cut_to {α : Type} (xs : List α) {K : Int} (h : 0 ≤ K) : cutD xs none (some K) = xs.take K.toNat := by
  obtain ⟨n, rfl⟩ := Int.eq_ofNat_of_zero_le h
  unfold cutD
  rw [HT.sIx_none, show HT.sIx xs.length xs.length (some ((n : Nat) : Int)) = min n xs.length from HT.sIx_nat xs.length _ n, List.drop_zero, Nat.sub_zero]
  show xs.take (min n xs.length) = xs.take n
  by_cases h : n ≤ xs.length
  · rw [Nat.min_eq_left h]
  · rw [Nat.min_eq_right (by omega), List.take_length, List.take_of_length_le (by omega)]
structure LotsInv (μ : Mem) (a : Addr) (ks : List Int) (vs : Int → List Int) (addr : Int → Addr) (μ' : Mem) : Prop where
  dct : μ' a = some (.dct (ks.map fun k => ((Sum.inl k : Key), D.loc (addr k))))
  sub : μ.Sub μ'
  fa : μ a = none
  lst : ∀ k ∈ ks, μ' (addr k) = some (.lst ((vs k).map D.int)) ∧ addr k ≠ a ∧ μ (addr k) = none
  inj : ∀ k ∈ ks, ∀ k' ∈ ks, addr k = addr k' → k = k'
theorem sub_put {μ μ' : Mem} (s : μ.Sub μ') {p : Addr} {o : MO} (h : μ p = none) : μ.Sub (μ'.upd p o) := fun b u e => by
  have hb : b ≠ p := fun z => by subst z; rw [h] at e; cases e
  rw [Mem.upd_ne hb]; exact s b u e
theorem LotsInv.new {μ μ' : Mem} {a p : Addr} {ks : List Int} {vs : Int → List Int} {addr : Int → Addr} (h : LotsInv μ a ks vs addr μ') {k : Int} (hk : k ∉ ks) (hv : vs k = []) (hp : μ' p = none) :
    LotsInv μ a (ks ++ [k]) vs (fun k' => if k' = k then p else addr k') ((μ'.upd p (.lst [])).upd a (.dct (putA (ks.map fun k => ((Sum.inl k : Key), D.loc (addr k))) (.inl k) (.loc p)))) := by
  have hpa : p ≠ a := fun z => by subst z; rw [h.dct] at hp; cases hp
  have hμp : μ p = none := by
    cases e : μ p with
    | none => rfl
    | some o => rw [h.sub p o e] at hp; cases hp
  have hne : ∀ k' ∈ ks, addr k' ≠ p := fun k' hk' z => by rw [← z, (h.lst k' hk').1] at hp; cases hp
  refine ⟨?_, sub_put (sub_put h.sub hμp) h.fa, h.fa, fun k' hk' => ?_, fun k1 h1 k2 h2 e => ?_⟩
  · rw [Mem.upd_same, putA_map, if_neg hk]
    congr 2
    apply List.map_congr_left
    intro y _
    by_cases e : y = k <;> simp [e]
  · rcases List.mem_append.mp hk' with hk' | hk'
    · have e : k' ≠ k := fun z => hk (z ▸ hk')
      obtain ⟨h1, h2, h3⟩ := h.lst k' hk'
      simp only [e, if_false]
      exact ⟨by rw [Mem.upd_ne h2, Mem.upd_ne (hne k' hk')]; exact h1, h2, h3⟩
    · simp only [List.mem_singleton] at hk'
      subst hk'
      simp only [if_true]
      exact ⟨by rw [Mem.upd_ne hpa, Mem.upd_same, hv]; rfl, hpa, hμp⟩
  · rcases List.mem_append.mp h1 with g1 | g1 <;> rcases List.mem_append.mp h2 with g2 | g2
    · have e1 : k1 ≠ k := fun z => hk (z ▸ g1)
      have e2 : k2 ≠ k := fun z => hk (z ▸ g2)
      simp only [e1, e2, if_false] at e
      exact h.inj k1 g1 k2 g2 e
    · simp only [List.mem_singleton] at g2
      subst g2
      have e1 : k1 ≠ k2 := fun z => hk (z ▸ g1)
      simp only [e1, if_false, if_true] at e
      exact absurd e (hne k1 g1)
    · simp only [List.mem_singleton] at g1
      subst g1
      have e1 : k2 ≠ k1 := fun z => hk (z ▸ g2)
      simp only [e1, if_false, if_true] at e
      exact absurd e.symm (hne k2 g2)
    · simp only [List.mem_singleton] at g1 g2
      rw [g1, g2]
theorem LotsInv.app {μ μ' : Mem} {a : Addr} {ks : List Int} {vs vs' : Int → List Int} {addr : Int → Addr} (h : LotsInv μ a ks vs addr μ') {k v : Int} (hk : k ∈ ks) (hv : ∀ k', vs' k' = vs k' ++ if k = k' then [v] else []) :
    LotsInv μ a ks vs' addr (μ'.upd (addr k) (.lst ((vs k).map D.int ++ [.int v]))) := by
  obtain ⟨h1, h2, h3⟩ := h.lst k hk
  refine ⟨by rw [Mem.upd_ne (Ne.symm h2)]; exact h.dct, sub_put h.sub h3, h.fa, fun k' hk' => ?_, h.inj⟩
  obtain ⟨g1, g2, g3⟩ := h.lst k' hk'
  refine ⟨?_, g2, g3⟩
  rw [hv k']
  by_cases e : k = k'
  · subst e; rw [Mem.upd_same, if_pos rfl, List.map_append]; rfl
  · rw [Mem.upd_ne (fun z => e (h.inj k' hk' k hk z).symm), if_neg e, List.append_nil]; exact g1
/-- the rows at some places, as (key, value) -/
def pick (rows : List Row) (ps : List Nat) : List (Int × Int) := (ps.filterMap (rows[·]?)).map kv
theorem pick_snoc {rows : List Row} {ps : List Nat} {j : Nat} {r : Row} (h : rows[j]? = some r) : pick rows (ps ++ [j]) = pick rows ps ++ [kv r] := by
  unfold pick
  rw [List.filterMap_append, List.map_append]
  simp [h]
theorem pick_mem {rows : List Row} {ps : List Nat} {p : Int × Int} (h : p ∈ pick rows ps) : ∃ r ∈ rows, p = kv r := by
  unfold pick at h
  obtain ⟨r, hr, rfl⟩ := List.mem_map.mp h
  obtain ⟨j, _, hj⟩ := List.mem_filterMap.mp hr
  exact ⟨r, List.mem_of_getElem? hj, rfl⟩
theorem pick_len (rows : List Row) (ps : List Nat) : (pick rows ps).length ≤ ps.length := by
  unfold pick; rw [List.length_map]; exact List.length_filterMap_le _ _
theorem vals_len (kvs : List (Int × Int)) (k : Int) : (vals kvs k).length ≤ kvs.length := by
  unfold vals; rw [List.length_map]; exact List.length_filter_le _ _
theorem run_pick {α : Type} (pre : List α) : ∀ rest : List α, (List.range' pre.length rest.length).filterMap ((pre ++ rest)[·]?) = rest := by
  intro rest
  induction rest generalizing pre with
  | nil => simp
  | cons x r ih =>
    rw [List.length_cons, List.range'_succ, List.filterMap_cons]
    have h1 : (pre ++ x :: r)[pre.length]? = some x := by simp
    rw [h1]
    have := ih (pre ++ [x])
    rw [List.length_append, List.length_singleton, List.append_assoc] at this
    simp only [List.singleton_append] at this
    simp only [this]
theorem pick_drop (rows : List Row) (m : Nat) : pick rows ((List.range rows.length).drop m) = (rows.drop m).map kv := by
  unfold pick
  congr 1
  by_cases hm : m ≤ rows.length
  · have h := run_pick (rows.take m) (rows.drop m)
    rw [List.take_append_drop, List.length_take, Nat.min_eq_left hm, List.length_drop] at h
    have e : (List.range rows.length).drop m = List.range' m (rows.length - m) := by
      rw [List.range_eq_range', List.drop_range']; simp
    rw [e]; exact h
  · rw [List.drop_of_length_le (by rw [List.length_range]; omega), List.drop_of_length_le (by omega)]; rfl
theorem pick_filter (rows : List Row) (p : Row → Bool) : pick rows ((rows.zipIdx.filter fun q => p q.1).map (·.2)) = (rows.filter p).map kv := by
  unfold pick
  congr 1
  rw [List.filterMap_map]
  have h1 : ∀ q ∈ (rows.zipIdx.filter fun q => p q.1), ((rows[·]?) ∘ fun x : Row × Nat => x.2) q = (some ∘ fun x : Row × Nat => x.1) q := by
    intro q hq
    have := (List.mem_filter.mp hq).1
    rw [List.mem_zipIdx_iff_getElem?] at this
    exact this
  rw [DLT.fm_congr _ h1, List.filterMap_eq_map]
  have h2 : rows.filter p = (rows.zipIdx.map (·.1)).filter p := by rw [List.zipIdx_map_fst]
  rw [h2, List.filter_map]
  rfl
theorem pick_win (b : Bool) (size : Int) (hs : 0 ≤ size) (es : List Ent) : pick (rowsF 0 es) (posF b size (rowsF 0 es) (clockF 0 es)) = inWin b size es := by
  unfold posF inWin
  cases b with
  | true =>
    rw [if_pos rfl, if_pos rfl, pick_drop]
    have : (((rowsF 0 es).length : Int) - size).toNat = (rowsF 0 es).length - size.toNat := by omega
    rw [this]
  | false =>
    rw [if_neg (by simp), if_neg (by simp)]
    exact pick_filter _ fun r => decide (r.1 > clockF 0 es - size)
theorem posF_lt {b : Bool} {size : Int} {rows : List Row} {clock : Int} : ∀ j ∈ posF b size rows clock, j < rows.length := by
  intro j hj
  unfold posF at hj
  cases b with
  | true =>
    rw [if_pos rfl] at hj
    exact List.mem_range.mp (List.mem_of_mem_drop hj)
  | false =>
    rw [if_neg (by simp)] at hj
    obtain ⟨q, hq, rfl⟩ := List.mem_map.mp hj
    have := (List.mem_filter.mp hq).1
    rw [List.mem_zipIdx_iff_getElem?] at this
    exact (List.getElem?_eq_some_iff.mp this).1
theorem posF_len {b : Bool} {size : Int} {rows : List Row} {clock : Int} : (posF b size rows clock).length ≤ rows.length := by
  unfold posF
  cases b with
  | true => rw [if_pos rfl, List.length_drop, List.length_range]; omega
  | false => rw [if_neg (by simp), List.length_map]; exact Nat.le_trans (List.length_filter_le _ _) (by rw [List.length_zipIdx]; omega)
def sp_aged : DSp := fun ds μ Q => ∃ (b : Bool) (size k : Int) (es : List Ent), ds = [encW b size k, .tup (es.map Ent.enc)] ∧ es.length ≤ 1000000 ∧ Q (.lst ((agedF b es).map Row.enc)) μ
theorem agedF_len (b : Bool) (es : List Ent) : (agedF b es).length ≤ es.length := by
  induction es with
  | nil => exact Nat.le_refl _
  | cons e es ih =>
    cases e with
    | tick n => exact Nat.le_succ_of_le ih
    | row k v => exact Nat.succ_le_succ ih
theorem sc_aged : FnScope ["window", "entries", "found", "behind", "entry"] ["window", "entries"] (defScope s_aged) := ⟨rfl, rfl, rfl, by decide +kernel, rfl, by decide +kernel, by decide +kernel⟩
theorem drop_cons_of {α : Type} {es : List α} {i : Nat} {e : α} (h : es.reverse[i]? = some e) : es.drop (es.length - (i + 1)) = e :: es.drop (es.length - i) := by
  have hi : i < es.length := by
    have := (List.getElem?_eq_some_iff.mp h).1
    rwa [List.length_reverse] at this
  rw [List.getElem?_reverse hi] at h
  have h2 : es.length - 1 - i = es.length - (i + 1) := by omega
  rw [h2] at h
  have h3 : es.length - (i + 1) < es.length := by omega
  rw [List.drop_eq_getElem_cons h3]
  have h4 : es[es.length - (i + 1)] = e := by
    rw [List.getElem?_eq_getElem h3] at h
    exact Option.some.inj h
  rw [h4]
  congr 2
  omega
theorem ok_aged (T : Txt K mg C) : FnD P w K mg base 1 "_law_aged" sp_aged := by
  refine TF.ok 0 T.f_aged sc_aged (fun ds μ Q ⟨_, _, _, _, h, _⟩ => by rw [h]; rfl) fun ds μ Q h => ?_
  obtain ⟨b, size, k, es, rfl, hl, q⟩ := h
  refine wss_cons (ws_set 2 (h := we_lstM (wa_nil ⟨szb rfl, fun a ha => ?_⟩)))
  refine wss_cons (ws_set 3 (h := we_int ?_))
  refine wss_cons (ws_for (h := wi_tup (we_revT (we_name 1 (q := ⟨_, rfl, _, rfl, ?_⟩)))))
  rw [← List.map_reverse]
  refine ⟨[4], fun i ρ μ' => ∃ o, ρ = [some (encW b size k), some (.tup (es.map Ent.enc)), some (.loc a), some (.int (behindF b (es.drop (es.length - i)))), o] ∧ μ' = μ.upd a (.lst ((agedF b (es.drop (es.length - i))).reverse.map Row.enc)), ⟨none, ?_, ?_⟩, ?_, ?_⟩
  · rw [Nat.sub_zero, List.drop_length]; rfl
  · rw [Nat.sub_zero, List.drop_length]; rfl
  · rintro i d ρ μ' hd ⟨o, rfl, rfl⟩
    obtain ⟨e, he, rfl⟩ := getE hd
    have ht := drop_cons_of he
    have hsz : (agedF b (es.drop (es.length - i))).length ≤ 1000000 := Nat.le_trans (agedF_len _ _) (by rw [List.length_drop]; omega)
    refine wg_name 4 (q := ?_)
    cases e with
    | tick n =>
      refine wss_cons (ws_if (wt_cmp (h := we_sub (h := we_name 4 (q := we_int (wix_tup rfl (we_str (wo_eqS ⟨_, rfl, fun hk => ?_, fun hk => ?_⟩))))))))
      · exact absurd hk (by decide)
      · cases b with
        | true =>
          refine wss_cons (ws_if (wt_cmp (h := we_sub (h := we_name 0 (q := we_int (wix_tup rfl (we_str (wo_eqS ⟨_, rfl, fun hk => ?_, fun hk => ?_⟩))))))))
          · exact absurd hk (by decide)
          · refine wss_nil (wss_nil (wss_nil ⟨some (.tup [.str "tick", .int n]), ?_, ?_⟩))
            · rw [ht]; show _ = [_, _, _, some (D.int (behindF true _ + 0)), _]; rw [Int.add_zero]; rfl
            · rw [ht]; rfl
        | false =>
          refine wss_cons (ws_if (wt_cmp (h := we_sub (h := we_name 0 (q := we_int (wix_tup rfl (we_str (wo_eqS ⟨_, rfl, fun hk => ?_, fun hk => ?_⟩))))))))
          · refine wss_cons (ws_set 3 (h := we_bin (we_name 3 (q := we_sub (h := we_name 4 (q := we_int (wix_tup rfl (wo_add ?_))))))))
            refine wss_nil (wss_nil (wss_nil ⟨some (.tup [.str "tick", .int n]), ?_, ?_⟩))
            · rw [ht]; rfl
            · rw [ht]; rfl
          · exact absurd hk (by decide)
    | row k v =>
      refine wss_cons (ws_if (wt_cmp (h := we_sub (h := we_name 4 (q := we_int (wix_tup rfl (we_str (wo_eqS ⟨_, rfl, fun hk => ?_, fun hk => ?_⟩))))))))
      · refine wss_cons (ws_expr (h := we_lm PySem.F.slot_list_append PySem.F.type_list_append (h := we_name 2 (q := ⟨_, _, rfl, Mem.upd_same, wa_cons (h := we_tup (wa_cons (h := we_name 3 (q := wa_cons (h := we_sub (h := we_name 4 (q := we_int (wix_tup rfl (wa_cons (h := we_sub (h := we_name 4 (q := we_int (wix_tup rfl (wa_nil ⟨szb rfl, wa_nil (wm_append Mem.upd_same ?_ ?_)⟩))))))))))))))⟩))))
        · rw [List.length_map, List.length_reverse, sizeLine_eq]; omega
        refine wss_cons (ws_set 3 (h := we_bin (we_name 3 (q := we_callT bt_int T.b_int (h := wa_cons (h := we_cmp (h := we_sub (h := we_name 0 (q := we_int (wix_tup rfl (we_str (wo_eqS (wa_nil (wc_intB (wo_add ?_)))))))))))))))
        refine wss_nil (wss_nil ⟨some (.tup [.str "row", .int k, .int v]), ?_, ?_⟩)
        · rw [ht]
          cases b
          · show [_, _, _, some (D.int (behindF false _ + (if decide _ = true then 1 else 0))), _] = [_, _, _, some (.int (behindF false _ + 0)), _]
            rw [decide_eq_false (by decide)]; rfl
          · show [_, _, _, some (D.int (behindF true _ + (if decide _ = true then 1 else 0))), _] = [_, _, _, some (.int (behindF true _ + 1)), _]
            rw [decide_eq_true (by decide)]; rfl
        · rw [ht, Mem.upd_upd]
          show _ = μ.upd a (.lst (((behindF b _, k, v) :: agedF b _).reverse.map Row.enc))
          rw [List.reverse_cons, List.map_append]; rfl
      · exact absurd hk (by decide)
  · rintro ρ μ' ⟨o, rfl, rfl⟩
    rw [List.length_map, List.length_reverse, Nat.sub_self, List.drop_zero]
    refine wss_cons (ws_ret (we_revL (we_name 2 (q := ⟨_, .inr ⟨_, rfl, Mem.upd_same⟩, μ, Mem.Sub.new ha, ?_⟩))))
    rw [← List.map_reverse, List.reverse_reverse]
    exact q
theorem sc_lot_told : FnScope ["window", "aged", "lot", "wait", "highest", "at", "age", "key", "value"] ["window", "aged", "lot", "wait"] (defScope s_lot_told) := ⟨rfl, rfl, rfl, by decide +kernel, rfl, by decide +kernel, by decide +kernel⟩
/-- the rows of a lot that are not too old after a wait -/
def lotF (size wait : Int) (aged : List Row) (lot : List Nat) : List (Int × Int) := ((lot.filterMap (aged[·]?)).filter fun r => decide (r.1 + wait < size)).map kv
theorem lotF_snoc {size wait : Int} {aged : List Row} {lot : List Nat} {j : Nat} {r : Row} (h : aged[j]? = some r) : lotF size wait aged (lot ++ [j]) = lotF size wait aged lot ++ if r.1 + wait < size then [kv r] else [] := by
  unfold lotF
  rw [List.filterMap_append, List.filter_append, List.map_append]
  congr 1
  by_cases e : r.1 + wait < size <;> simp [h, e]
theorem lotF_mem {size wait : Int} {aged : List Row} {lot : List Nat} {p : Int × Int} (h : p ∈ lotF size wait aged lot) : ∃ r ∈ aged, p = kv r := by
  unfold lotF at h
  obtain ⟨r, hr, rfl⟩ := List.mem_map.mp h
  obtain ⟨j, _, hj⟩ := List.mem_filterMap.mp (List.mem_filter.mp hr).1
  exact ⟨r, List.mem_of_getElem? hj, rfl⟩
def sp_lot_told : DSp := fun ds μ Q => ∃ (b : Bool) (size k wait : Int) (aged : List Row) (lot : List Nat) (lotD : D), ds = [encW b size k, .lst (aged.map Row.enc), lotD, .int wait] ∧ (lotD = .lst (lot.map fun i : Nat => D.int i) ∨ lotD = .tup (lot.map fun i : Nat => D.int i)) ∧ 0 ≤ k ∧ k ≤ 1000 ∧
  (∀ j ∈ lot, j < aged.length) ∧ (∀ r ∈ aged, 0 ≤ r.2.1 ∧ r.2.1 < 10) ∧ Q (encT (toldK k.toNat (lotF size wait aged lot))) μ
theorem ok_lot_told (T : Txt K mg C) : FnD P w K mg base 1 "_law_lot_told" sp_lot_told := by
  refine TF.ok 0 T.f_lot_told sc_lot_told (fun ds μ Q ⟨_, _, _, _, _, _, _, h, _⟩ => by rw [h]; rfl) fun ds μ Q h => ?_
  obtain ⟨b, size, k, wait, aged, lot, lotD, rfl, hlD, hk0, hk1, hlot, hkeys, q⟩ := h
  refine wss_cons (ws_set 4 (h := we_dctM (fun a ha => ?_)))
  refine wss_cons (ws_for (h := wi_name 2 (s := hlD) (h := ?_)))
  have hfewL : ∀ l, (dkeys (lotF size wait aged l)).length ≤ 10 := fun l => dkeys_few fun p hp => by
    obtain ⟨r, hr, rfl⟩ := lotF_mem hp
    exact hkeys r hr
  refine ⟨[5], fun i ρ μ' => ∃ o1 o2 o3 o4, ρ = [some (encW b size k), some (.lst (aged.map Row.enc)), some lotD, some (.int wait), some (.loc a), o1, o2, o3, o4] ∧
    μ' = μ.upd a (.dct ((dkeys (lotF size wait aged (lot.take i))).map fun k' => ((Sum.inl k' : Key), D.lst ((topK k.toNat (vals (lotF size wait aged (lot.take i)) k')).map D.int)))), ⟨none, none, none, none, rfl, by simp [lotF, dkeys]⟩, ?_, ?_⟩
  · rintro i d ρ μ' hd ⟨o1, o2, o3, o4, rfl, rfl⟩
    obtain ⟨j, hj, rfl⟩ := getE hd
    have hjl := hlot j (List.mem_of_getElem? hj)
    have hr : aged[j]? = some aged[j] := List.getElem?_eq_getElem hjl
    generalize aged[j] = r at hr
    obtain ⟨t, ky, v⟩ := r
    have hx : atI (aged.map Row.enc) (j : Int) = some (Row.enc (t, ky, v)) := atI_map Row.enc (by omega) (by simpa using hr)
    have ht : lotF size wait aged (lot.take (i + 1)) = lotF size wait aged (lot.take i) ++ if t + wait < size then [(ky, v)] else [] := by rw [take_snoc hj, lotF_snoc hr]; rfl
    refine wg_name 5 (q := ?_)
    refine wss_cons (ws_asg (h := we_sub (h := we_name 1 (q := we_name 5 (q := wix_lst hx (wg_tup 3 (h := wgs_cons (ix := [6]) (h := wg_name 6 (q := wgs_cons (ix := [7]) (h := wg_name 7 (q := wgs_cons (ix := [8]) (h := wg_name 8 (q := wgs_nil ?_)))))))))))))
    refine wss_cons (ws_if (wt_cmp (h := we_bin (we_name 6 (q := we_name 3 (q := wo_add (we_sub (h := we_name 0 (q := we_int (wix_tup rfl (wo_lt ⟨_, rfl, fun hk => ?_, fun hk => ?_⟩)))))))))))
    · have hk' : t + wait < size := of_decide_eq_true hk
      rw [if_pos hk'] at ht
      have hg : getA ((dkeys (lotF size wait aged (lot.take i))).map fun k' => ((Sum.inl k' : Key), D.lst ((topK k.toNat (vals (lotF size wait aged (lot.take i)) k')).map D.int))) (.inl ky) = if ky ∈ dkeys (lotF size wait aged (lot.take i)) then some (.lst ((topK k.toNat (vals (lotF size wait aged (lot.take i)) ky)).map D.int)) else none := getA_map _ _ _
      have hgd : (getA ((dkeys (lotF size wait aged (lot.take i))).map fun k' => ((Sum.inl k' : Key), D.lst ((topK k.toNat (vals (lotF size wait aged (lot.take i)) k')).map D.int))) (.inl ky)).getD (.lst []) = .lst ((topK k.toNat (vals (lotF size wait aged (lot.take i)) ky)).map D.int) := by
        rw [hg]
        by_cases z : ky ∈ dkeys (lotF size wait aged (lot.take i))
        · rw [if_pos z]; rfl
        · rw [if_neg z, vals_nil z, topK_nil]; rfl
      refine wss_cons (ws_dput (h := we_slice (we_sortedRev T.b_sorted (h := we_bin (we_dget2 (h := we_name 4 (q := ⟨_, _, rfl, Mem.upd_same, we_name 7 (q := we_lst (wa_nil ⟨szb rfl, _, .inl ky, rfl, Mem.upd_same, ?_⟩))⟩)))))))
      rw [hgd]
      refine we_lst (wa_cons (h := we_name 8 (q := wa_nil ⟨szb rfl, wo_cat (.inl rfl) (.inl rfl) ?_ ⟨topK k.toNat (vals (lotF size wait aged (lot.take i)) ky) ++ [v], .inl (by rw [List.map_append]; rfl), fun ms hp hs => wp_none (wp_some (we_sub (h := we_name 0 (q := we_int (wix_tup rfl ⟨_, rfl, wsl_lst (we_name 4 (q := we_name 7 (q := ⟨_, _, .inl ky, rfl, rfl, Mem.upd_same, ?_, ?_⟩)))⟩)))))⟩⟩)))
      · rw [List.length_map]
        have := topK_len k.toNat (vals (lotF size wait aged (lot.take i)) ky)
        refine szM ?_
        show _ + 1 ≤ 16000000
        omega
      · rw [List.length_map, sizeLine_eq]; have := hfewL (lot.take i); omega
      · refine wss_nil (wss_nil ⟨_, _, _, _, rfl, ?_⟩)
        rw [Mem.upd_upd, sortD_of hp hs, cutD_map, cut_to _ hk0, putA_map, ht, dkeys_snoc]
        congr 2
        apply List.map_congr_left
        intro k' _
        rw [vals_snoc]
        by_cases e : k' = ky
        · subst e
          rw [if_pos rfl, if_pos rfl]
          show (_, D.lst ((topK k.toNat (topK k.toNat _ ++ [v])).map D.int)) = _
          rw [topK_step]
        · rw [if_neg e, if_neg (Ne.symm e), List.append_nil]
    · have hk' : ¬ t + wait < size := of_decide_eq_false hk
      rw [if_neg hk', List.append_nil] at ht
      refine wss_nil (wss_nil ⟨_, _, _, _, rfl, ?_⟩)
      rw [ht]
  · rintro ρ μ' ⟨o1, o2, o3, o4, rfl, rfl⟩
    rw [List.length_map, List.take_length]
    refine wss_cons (ws_ret (we_callT bt_tuple T.b_tuple (h := wa_cons (h := we_lc [("key", 7)] (h := wi_lst (we_callB bt_sorted T.b_sorted (h := wa_cons (h := we_name 4 (q := wa_nil (wc_sortedD Mem.upd_same (ks := dkeys (lotF size wait aged lot)) (by rw [List.map_map]; rfl) (by have := hfewL lot; omega) fun ms hp hs => ⟨_, rfl, ?_⟩))))))))))
    obtain rfl := sortA_of hp hs
    refine LcHyp.mp _ D.int (fun k' => encP (k', topK k.toNat (vals (lotF size wait aged lot) k'))) [7] (by simp) (sz1000 (by rw [(sortA_perm _).length_eq]; have := hfewL lot; omega)) (fun k' i hk => ?_) ?_
    · have hk' : k' ∈ dkeys (lotF size wait aged lot) := (sortA_perm _).mem_iff.mp (List.mem_of_getElem? hk)
      refine wg_name 7 (q := wts_nil ⟨rfl, rfl, ?_⟩)
      refine we_tup (wa_cons (h := we_name 7 (q := wa_cons (h := we_callT bt_tuple T.b_tuple (h := wa_cons (h := we_dget (h := we_name 4 (q := we_name 7 (q := ⟨a, _, .inl k', _, rfl, rfl, Mem.upd_same, by rw [getA_map, if_pos hk'], wa_nil (wc_tuple (.inl rfl) (wa_nil ⟨szb rfl, rfl, rfl⟩))⟩)))))))))
    · refine wa_nil (wc_tuple (.inl rfl) ⟨μ, Mem.Sub.new ha, ?_⟩)
      have : (sortA (dkeys (lotF size wait aged lot))).map (fun k' => encP (k', topK k.toNat (vals (lotF size wait aged lot) k'))) = (toldK k.toNat (lotF size wait aged lot)).map encP := by
        unfold toldK; rw [List.map_map]; rfl
      rw [this]
      exact q
def sp_is_window_told : DSp := fun ds μ Q => ∃ l : List (Int × List Int), ds = [encT l] ∧ (∀ p ∈ l, p.2.length ≤ 1000) ∧ Q (.bl true) μ
theorem sc_is_window_told : FnScope ["answer", "pair"] ["answer"] (defScope s_is_window_told) := ⟨rfl, rfl, rfl, by decide +kernel, rfl, by decide +kernel, by decide +kernel⟩
theorem ok_is_window_told (T : Txt K mg C) : FnD P w K mg base 3 "_law_is_window_told" sp_is_window_told := by
  refine TF.ok 2 T.f_is_window_told sc_is_window_told (fun ds μ Q ⟨_, h, _⟩ => by rw [h]; rfl) fun ds μ Q h => ?_
  obtain ⟨l, rfl, hl, q⟩ := h
  refine wss_cons (ws_if (wt_not (wt_val (h := we_callB bt_isinstance T.b_isinstance (h := wa_cons (h := we_name 0 (q := wa_cons (h := we_type rfl T.b_tuple bt_tuple (by decide) (by decide) (wa_nil (wc_isi (k := true) rfl (by decide +kernel) ⟨_, rfl, fun hk => (nomatch hk), fun hk => wss_nil ?_⟩))))))))))
  refine wss_cons (ws_for (h := wi_tup (we_name 0 (q := ⟨_, rfl, ?_⟩))))
  refine ⟨[1], fun i ρ μ' => ∃ o, ρ = [some (encT l), o] ∧ μ' = μ, ⟨none, rfl, rfl⟩, ?_, ?_⟩
  · rintro i d ρ μ' hd ⟨o, rfl, rfl⟩
    obtain ⟨⟨k, vs⟩, hx, rfl⟩ := getE hd
    have hvl : vs.length ≤ 1000 := hl _ (List.mem_of_getElem? hx)
    refine wg_name 1 (q := ?_)
    refine wss_cons (ws_if (wt_ww (ww_or (wt_not (wt_val (h := we_callB bt_isinstance T.b_isinstance (h := wa_cons (h := we_name 1 (q := wa_cons (h := we_type rfl T.b_tuple bt_tuple (by decide) (by decide) (wa_nil (wc_isi (k := true) rfl (by decide +kernel) ⟨_, rfl, fun hk => ?_, fun hk => (nomatch hk)⟩))))))))))))
    refine ww_or1 (wt_cmp (h := we_callB bt_len T.b_len (h := wa_cons (h := we_name 1 (q := wa_nil (wc_len_tup (we_int (wo_neI ⟨_, rfl, fun hk => (by simp at hk), fun hk => wss_nil ?_⟩))))))))
    refine wss_cons (ws_if (wt_ww (ww_or (wt_not (wt_val (h := we_call (ok_is_int T) (h := wa_cons (h := we_sub (h := we_name 1 (q := we_int (wix_tup rfl (wa_nil ⟨k, rfl, _, rfl, fun hk => ?_, fun hk => (nomatch hk)⟩))))))))))))
    refine ww_or1 (wt_not (wt_val (h := we_call (ok_is_ints T) (h := wa_cons (h := we_sub (h := we_name 1 (q := we_int (wix_tup rfl (wa_nil ⟨vs, rfl, by omega, _, rfl, fun hk => (nomatch hk), fun hk => wss_nil (wss_nil ⟨_, rfl, rfl⟩)⟩)))))))))
  · rintro ρ μ' ⟨o, rfl, rfl⟩
    exact wss_cons (ws_ret' (we_bl q))
def sp_worth : DSp := fun ds μ Q => ∃ (a : Addr) (l : List D), ds = [.loc a] ∧ μ a = some (.lst l) ∧ IsDr l ∧ ∀ l' v, IsDr l' → Q (.int v) (μ.upd a (.lst l'))
theorem sc_worth : FnScope ["d", "way"] ["d"] (defScope s_worth) := ⟨rfl, rfl, rfl, by decide +kernel, rfl, by decide +kernel, by decide +kernel⟩
theorem ok_worth (T : Txt K mg C) : FnD P w K mg base 2 "_law_worth" sp_worth := by
  refine TF.ok 1 T.f_worth sc_worth (fun ds μ Q ⟨_, _, h, _⟩ => by rw [h]; rfl) fun ds μ Q h => ?_
  obtain ⟨a, l, rfl, hm, hl, q⟩ := h
  refine wss_cons (ws_set 1 (h := we_call (ok_draw T) (h := wa_cons (h := we_name 0 (q := wa_cons (h := we_int (wa_nil ⟨a, l, 14, rfl, hm, hl, by decide, by decide, fun l1 r hl1 h0 h1 => ?_⟩)))))))
  refine wss_cons (ws_if (wt_cmp (h := we_name 1 (q := we_int (wo_lt ⟨_, rfl, fun hk => ?_, fun hk => wss_nil ?_⟩)))))
  · refine wss_cons (ws_ret' (we_bin (we_bin (we_bin (we_int (we_int (wo_pow ⟨by decide, by decide, by decide⟩ (we_call (ok_draw T) (h := wa_cons (h := we_name 0 (q := wa_cons (h := we_int (wa_nil ⟨a, l1, 3, rfl, Mem.upd_same, hl1, by decide, by decide, fun l2 r2 hl2 h02 h12 => wo_sub (we_bin (we_int (we_bin (we_int (we_name 1 (q := wo_mul (.inl ⟨by decide, by decide⟩) (wo_sub (wo_mul (by unfold CMul; left; constructor <;> simp <;> omega) ?_))))))))⟩)))))))))))))
    rw [Mem.upd_upd]
    exact q l2 _ hl2
  · refine wss_cons (ws_ret' (we_bin (we_call (ok_draw T) (h := wa_cons (h := we_name 0 (q := wa_cons (h := we_int (wa_nil ⟨a, l1, 6, rfl, Mem.upd_same, hl1, by decide, by decide, fun l2 r2 hl2 h02 h12 => we_int (wo_sub ?_)⟩))))))))
    rw [Mem.upd_upd]
    exact q l2 _ hl2
def sp_wait : DSp := fun ds μ Q => ∃ (a : Addr) (l : List D) (b : Bool) (size k : Int) (es : List Ent), ds = [.loc a, encW b size k, .tup (es.map Ent.enc)] ∧ μ a = some (.lst l) ∧ IsDr l ∧ 1 ≤ size ∧ size ≤ 1000 ∧ es.length ≤ 1000000 ∧
  ∀ l' n, IsDr l' → 1 ≤ n → n ≤ 1000 → Q (.int n) (μ.upd a (.lst l'))
theorem sc_wait : FnScope ["d", "window", "entries", "aged", "way", "steps"] ["d", "window", "entries"] (defScope s_wait) := ⟨rfl, rfl, rfl, by decide +kernel, rfl, by decide +kernel, by decide +kernel⟩
theorem ok_wait (T : Txt K mg C) : FnD P w K mg base 3 "_law_wait" sp_wait := by
  refine TF.ok 2 T.f_wait sc_wait (fun ds μ Q ⟨_, _, _, _, _, _, h, _⟩ => by rw [h]; rfl) fun ds μ Q h => ?_
  obtain ⟨a, l, b, size, k, es, rfl, hm, hl, hs0, hs1, hes, q⟩ := h
  refine wss_cons (ws_set 3 (h := we_call (ok_aged T) (h := wa_cons (h := we_name 1 (q := wa_cons (h := we_name 2 (q := wa_nil ⟨b, size, k, es, rfl, hes, ?_⟩)))))))
  have hal := Nat.le_trans (agedF_len b es) hes
  refine wss_cons (ws_set 4 (h := we_call (ok_draw T) (h := wa_cons (h := we_name 0 (q := wa_cons (h := we_int (wa_nil ⟨a, l, 6, rfl, hm, hl, by decide, by decide, fun l1 way hl1 _ _ => ?_⟩)))))))
  refine wss_cons (ws_set 5 (h := we_bin (we_int (we_call (ok_draw T) (h := wa_cons (h := we_name 0 (q := wa_cons (h := we_int (wa_nil ⟨a, l1, 3, rfl, Mem.upd_same, hl1, by decide, by decide, fun l2 r2 hl2 _ _ => wo_add ?_⟩)))))))))
  rw [Mem.upd_upd]
  refine wss_mid (fun ρ1 μ1 => ∃ l3 n, ρ1 = [some (.loc a), some (encW b size k), some (.tup (es.map Ent.enc)), some (.lst ((agedF b es).map Row.enc)), some (.int way), some (.int n)] ∧ μ1 = μ.upd a (.lst l3) ∧ IsDr l3) (ws_if (wt_cmp (h := we_name 4 (q := we_int (wo_eqI ⟨_, rfl, fun hk => ?_, fun hk => ?_⟩))))) ?_
  · refine wss_cons (ws_set 5 (h := we_bin (we_int (we_call (ok_draw T) (h := wa_cons (h := we_name 0 (q := wa_cons (h := we_int (wa_nil ⟨a, l2, 1000, rfl, Mem.upd_same, hl2, by decide, by decide, fun l3 r3 hl3 _ _ => wo_add (wss_nil ⟨l3, _, rfl, ?_, hl3⟩)⟩)))))))))
    rw [Mem.upd_upd]
  · refine wss_cons (ws_if (wt_cmp (h := we_name 4 (q := we_int (wo_eqI ⟨_, rfl, fun hk => ?_, fun hk => ?_⟩)))))
    · refine wss_cons (ws_set 5 (h := we_bin (we_int (we_call (ok_draw T) (h := wa_cons (h := we_name 0 (q := wa_cons (h := we_bin (we_int (we_bin (we_sub (h := we_name 1 (q := we_int (wix_tup rfl (we_int (wo_fdiv ⟨by decide, by decide⟩ (wo_add (wa_nil ⟨a, l2, _, rfl, Mem.upd_same, hl2, by omega, by omega, fun l3 r3 hl3 _ _ => wo_add (wss_nil (wss_nil ⟨l3, _, rfl, ?_, hl3⟩))⟩))))))))))))))))))
      rw [Mem.upd_upd]
    · refine wss_cons (ws_if (wt_ww (ww_and (wt_cmp (h := we_name 4 (q := we_int (wo_lt ⟨_, rfl, fun hk => ?_, fun hk => ⟨fun z => (nomatch z), fun _ => wss_nil (wss_nil (wss_nil ⟨l2, _, rfl, rfl, hl2⟩))⟩⟩)))))))
      refine ww_and1 (wt_cmp (h := we_callB bt_len T.b_len (h := wa_cons (h := we_name 3 (q := wa_nil (wc_len_lst (we_int (wo_gt ⟨_, rfl, fun hk => ?_, fun hk => ?_⟩))))))))
      · have hlen : 0 < (agedF b es).length := by
          have := of_decide_eq_true hk
          rw [List.length_map] at this; omega
        refine wss_cons (ws_set 5 (h := we_bin (we_bin (we_sub (h := we_name 1 (q := we_int (wix_tup rfl (we_sub (h := we_call (ok_pick T) (h := wa_cons (h := we_name 0 (q := wa_cons (h := we_name 3 (q := wa_nil ⟨a, l2, _, rfl, Mem.upd_same, hl2, by rw [List.length_map]; exact hlen, by rw [List.length_map]; omega, fun l3 x hl3 hx => ?_⟩))))))))))))))
        obtain ⟨⟨t, ky, v⟩, _, rfl⟩ := List.mem_map.mp hx
        refine we_int (wix_tup rfl (wo_sub (we_call (ok_draw T) (h := wa_cons (h := we_name 0 (q := wa_cons (h := we_int (wa_nil ⟨a, l3, 2, rfl, Mem.upd_same, hl3, by decide, by decide, fun l4 r4 hl4 _ _ => wo_sub (wss_nil (wss_nil (wss_nil ⟨l4, _, rfl, ?_, hl4⟩)))⟩))))))))
        rw [Mem.upd_upd, Mem.upd_upd]
      · exact wss_nil (wss_nil (wss_nil ⟨l2, _, rfl, rfl, hl2⟩))
  · rintro ρ1 μ1 ⟨l3, n, rfl, rfl, hl3⟩
    refine wss_cons (ws_ret' (we_callB bt_min T.b_min (h := wa_cons (h := we_int (wa_cons (h := we_callB bt_max T.b_max (h := wa_cons (h := we_int (wa_cons (h := we_name 5 (q := wa_nil (wc_max2 (wa_nil (wc_min2 ?_))))))))))))))
    exact q l3 _ hl3 (by split <;> (try split) <;> omega) (by split <;> (try split) <;> omega)
theorem ws_ifE {Γ : Gam} {ρ : Rho} {μ : Mem} {c : Expr} {A B : List Stmt} {pos : Pos} {D' : DEnds} (hB : WSs Γ B ρ μ D') (h : WT Γ c ρ μ fun k μ1 => μ1 = μ ∧ (k = true → WSs Γ A ρ μ D')) : WS Γ (.If c A B pos) ρ μ D' :=
  ws_if fun σ F H s r => by
    obtain ⟨t, Q0, h1, h2, h3⟩ := h σ F H s r
    refine ⟨t, Q0, h1, h2, fun b H' q => ?_⟩
    obtain ⟨F', μ', r', e', rfl, q⟩ := h3 b H' q
    exact ⟨F', _, r', e', q, fun _ => hB⟩
def KeysOk (keys : List Int) : Prop := 0 < keys.length ∧ keys.length ≤ 100 ∧ ∀ k ∈ keys, 0 ≤ k ∧ k < 10
def sp_stream : DSp := fun ds μ Q => ∃ (a : Addr) (l : List D) (b : Bool) (size k most : Int) (keys : List Int), ds = [.loc a, encW b size k, .lst (keys.map .int), .int most] ∧ μ a = some (.lst l) ∧ IsDr l ∧ 1 ≤ size ∧ size ≤ 1000 ∧ KeysOk keys ∧ 0 ≤ most ∧ most ≤ 1000 ∧
  ∀ l' es, IsDr l' → (∀ e ∈ es, e.ok) → es.length ≤ 1000 → (es.length : Int) ≤ most → Q (.tup (List.map Ent.enc es)) (μ.upd a (.lst l'))
theorem sc_stream : FnScope ["d", "window", "keys", "most", "entries", "k", "way"] ["d", "window", "keys", "most"] (defScope s_stream) := ⟨rfl, rfl, rfl, by decide +kernel, rfl, by decide +kernel, by decide +kernel⟩
theorem snoc_or {α : Type} (l : List α) : l = [] ∨ ∃ p x, l = p ++ [x] := by
  induction l using snoc_ind with
  | h0 => exact .inl rfl
  | h1 l a _ => exact .inr ⟨l, a, rfl⟩
theorem atI_last {p : List D} {x : D} : atI (p ++ [x]) (-1) = some x := by
  unfold atI ixN
  rw [if_neg (by omega), if_pos (by simp; omega)]
  show (p ++ [x])[(-1 + ((p ++ [x]).length : Int)).toNat]? = some x
  have : (-1 + ((p ++ [x]).length : Int)).toNat = p.length := by rw [List.length_append, List.length_singleton]; omega
  rw [this]; simp
theorem ok_stream (T : Txt K mg C) : FnD P w K mg base 4 "_law_stream" sp_stream := by
  refine TF.ok 3 T.f_stream sc_stream (fun ds μ Q ⟨_, _, _, _, _, _, _, h, _⟩ => by rw [h]; rfl) fun ds μ Q h => ?_
  obtain ⟨a, l, b, size, k, most, keys, rfl, hm, hl, hs0, hs1, ⟨hk0, hk1, hky⟩, hm0, hm1, q⟩ := h
  refine wss_cons (ws_set 4 (h := we_tup (wa_nil ⟨szb rfl, ?_⟩)))
  refine wss_cons (ws_for (h := wi_range1 T.b_range (h := wa_cons (h := we_call (ok_draw T) (h := wa_cons (h := we_name 0 (q := wa_cons (h := we_bin (we_name 3 (q := we_int (wo_add (wa_nil ⟨a, l, _, rfl, hm, hl, by omega, by omega, fun l1 r hl1 r0 r1 => wa_nil ⟨_, rfl, by omega, ?_⟩⟩))))))))))))
  refine ⟨[5], fun i ρ μ' => ∃ l' es o1 o2, ρ = [some (.loc a), some (encW b size k), some (.lst (keys.map .int)), some (.int most), some (.tup (List.map Ent.enc es)), o1, o2] ∧ μ' = μ.upd a (.lst l') ∧ IsDr l' ∧ es.length ≤ i ∧ ∀ e ∈ es, e.ok, ⟨l1, [], none, none, rfl, rfl, hl1, Nat.le_refl _, by simp⟩, ?_, ?_⟩
  · rintro i d ρ μ' hd ⟨l2, es, o1, o2, rfl, rfl, hl2, hle, hok⟩
    obtain ⟨hi, rfl⟩ := rangeD_get hd
    have hes : es.length ≤ 1000 := by omega
    have hsz : (List.map Ent.enc es).length + 1 ≤ sizeLine := by rw [List.length_map, sizeLine_eq]; omega
    have hok' : ∀ e : Ent, e.ok → ∀ x ∈ es ++ [e], x.ok := fun e he x hx => by
      rcases List.mem_append.mp hx with hx | hx
      · exact hok x hx
      · simp at hx; subst hx; exact he
    refine wg_name 5 (q := ?_)
    refine wss_cons (ws_set 6 (h := we_call (ok_draw T) (h := wa_cons (h := we_name 0 (q := wa_cons (h := we_int (wa_nil ⟨a, l2, 6, rfl, Mem.upd_same, hl2, by decide, by decide, fun l3 way hl3 _ _ => ?_⟩)))))))
    rw [Mem.upd_upd]
    refine wss_cons (ws_if (wt_cmp (h := we_name 6 (q := we_int (wo_lt ⟨_, rfl, fun hk => ?_, fun hk => ?_⟩)))))
    · refine wss_cons (ws_set 4 (h := we_bin (we_name 4 (q := we_tup (wa_cons (h := we_tup (wa_cons (h := we_str (wa_cons (h := we_call (ok_wait T) (h := wa_cons (h := we_name 0 (q := wa_cons (h := we_name 1 (q := wa_cons (h := we_name 4 (q := wa_nil ⟨a, l3, b, size, k, es, rfl, Mem.upd_same, hl3, hs0, hs1, by omega, fun l4 n hl4 n0 n1 => wa_nil ⟨szb rfl, wa_nil ⟨szb rfl, wo_catT hsz ?_⟩⟩⟩)))))))))))))))))
      refine wss_nil (wss_nil ⟨l4, es ++ [.tick n], some (.int (0 + (i : Int))), some (.int way), ?_, ?_, hl4, by rw [List.length_append, List.length_singleton]; omega, hok' (.tick n) ⟨n0, n1⟩⟩)
      · rw [List.map_append]; rfl
      · rw [Mem.upd_upd]
    · refine wss_cons (ws_ifE ?_ ?_)
      · refine wss_cons (ws_set 4 (h := we_bin (we_name 4 (q := we_tup (wa_cons (h := we_tup (wa_cons (h := we_str (wa_cons (h := we_call (ok_pick T) (h := wa_cons (h := we_name 0 (q := wa_cons (h := we_name 2 (q := wa_nil ⟨a, l3, _, rfl, Mem.upd_same, hl3, by rw [List.length_map]; exact hk0, by rw [List.length_map]; omega, fun l4 x hl4 hx => ?_⟩)))))))))))))))
        obtain ⟨ky, hky', rfl⟩ := List.mem_map.mp hx
        refine wa_cons (h := we_call (ok_worth T) (h := wa_cons (h := we_name 0 (q := wa_nil ⟨a, l4, rfl, Mem.upd_same, hl4, fun l5 v hl5 => wa_nil ⟨szb rfl, wa_nil ⟨szb rfl, wo_catT hsz ?_⟩⟩⟩))))
        refine wss_nil (wss_nil (wss_nil ⟨l5, es ++ [.row ky v], some (.int (0 + (i : Int))), some (.int way), ?_, ?_, hl5, by rw [List.length_append, List.length_singleton]; omega, hok' (.row ky v) (hky ky hky')⟩))
        · rw [List.map_append]; rfl
        · rw [Mem.upd_upd, Mem.upd_upd]
      · refine wt_ww (ww_and (wt_cmp (h := we_name 6 (q := we_int (wo_eqI ⟨_, rfl, fun hk => ?_, fun hk => ⟨rfl, fun z => (nomatch z)⟩⟩)))))
        refine ww_and (wt_cmp (h := we_callB bt_len T.b_len (h := wa_cons (h := we_name 4 (q := wa_nil (wc_len_tup (we_int (wo_gt ⟨_, rfl, fun hk => ?_, fun hk => ⟨rfl, fun z => (nomatch z)⟩⟩))))))))
        rcases snoc_or es with rfl | ⟨es', e, rfl⟩
        · simp at hk
        rw [List.map_append]
        have hlast : atI (List.map Ent.enc es' ++ [e].map Ent.enc) (-1) = some e.enc := atI_last
        rw [List.map_append] at hsz
        cases e with
        | tick n =>
          exact ww_and1 (wt_cmp (h := we_sub (h := we_sub (h := we_name 4 (q := we_un (we_int (wu_neg (wix_tup hlast (we_int (wix_tup rfl (we_str (wo_eqS ⟨_, rfl, rfl, fun hk => absurd hk (by decide)⟩))))))))))))
        | row ky v =>
          refine ww_and1 (wt_cmp (h := we_sub (h := we_sub (h := we_name 4 (q := we_un (we_int (wu_neg (wix_tup hlast (we_int (wix_tup rfl (we_str (wo_eqS ⟨_, rfl, rfl, fun _ => ?_⟩))))))))))))
          refine wss_cons (ws_set 4 (h := we_bin (we_name 4 (q := we_tup (wa_cons (h := we_sub (h := we_name 4 (q := we_un (we_int (wu_neg (wix_tup hlast (wa_nil ⟨szb rfl, wo_catT hsz ?_⟩))))))))))))
          refine wss_nil (wss_nil (wss_nil ⟨l3, es' ++ [.row ky v] ++ [.row ky v], some (.int (0 + (i : Int))), some (.int way), ?_, rfl, hl3, by rw [List.length_append, List.length_singleton]; omega, hok' (.row ky v) (hok _ (by simp))⟩))
          rw [List.map_append, List.map_append]; rfl
  · rintro ρ μ' ⟨l2, es, o1, o2, rfl, rfl, hl2, hle, hok⟩
    rw [rangeD_length] at hle
    exact wss_cons (ws_ret' (we_name 4 (q := q l2 es hl2 hok (by omega) (by omega))))
def InnR (keys : List Int) (span : Int) : Ent → Prop
  | .tick _ => True
  | .row k v => k ∈ keys ∧ -1 ≤ v ∧ v ≤ span - 2
theorem span_in (x : Int) {span : Int} (h : 1 ≤ span) : -1 ≤ x % span - 1 ∧ x % span - 1 ≤ span - 2 := by
  have h1 := Int.emod_nonneg x (b := span) (by omega)
  have h2 := Int.emod_lt_of_pos x (b := span) (by omega)
  omega
def sp_long_stream : DSp := fun ds μ Q => ∃ (a : Addr) (l : List D) (b : Bool) (size k span : Int) (keys : List Int), ds = [.loc a, encW b size k, .lst (keys.map .int), .int span] ∧ μ a = some (.lst l) ∧ IsDr l ∧ 1 ≤ size ∧ size ≤ 1000 ∧ KeysOk keys ∧ 1 ≤ span ∧ span ≤ 1000 ∧
  ∀ l' es, IsDr l' → (∀ e ∈ es, e.ok) → es.length ≤ 10000 → (∀ e ∈ es, InnR keys span e) → Q (.tup (List.map Ent.enc es)) (μ.upd a (.lst l'))
theorem sc_long_stream : FnScope ["d", "window", "keys", "span", "first", "second", "steps", "many", "found", "k"] ["d", "window", "keys", "span"] (defScope s_long_stream) := ⟨rfl, rfl, rfl, by decide +kernel, rfl, by decide +kernel, by decide +kernel⟩
theorem ok_long_stream (T : Txt K mg C) : FnD P w K mg base 2 "_law_long_stream" sp_long_stream := by
  refine TF.ok 1 T.f_long_stream sc_long_stream (fun ds μ Q ⟨_, _, _, _, _, _, _, h, _⟩ => by rw [h]; rfl) fun ds μ Q h => ?_
  obtain ⟨a, l, b, size, k, span, keys, rfl, hm, hl, hs0, hs1, ⟨hk0, hk1, hky⟩, hsp0, hsp1, q⟩ := h
  refine wss_cons (ws_set 4 (h := we_bin (we_int (we_call (ok_draw T) (h := wa_cons (h := we_name 0 (q := wa_cons (h := we_int (wa_nil ⟨a, l, 30, rfl, hm, hl, by decide, by decide, fun l1 r1 hl1 r10 r11 => wo_add ?_⟩)))))))))
  refine wss_cons (ws_set 5 (h := we_bin (we_int (we_call (ok_draw T) (h := wa_cons (h := we_name 0 (q := wa_cons (h := we_int (wa_nil ⟨a, l1, 30, rfl, Mem.upd_same, hl1, by decide, by decide, fun l2 r2 hl2 r20 r21 => wo_add ?_⟩)))))))))
  rw [Mem.upd_upd]
  refine wss_cons (ws_set 6 (h := we_bin (we_int (we_call (ok_draw T) (h := wa_cons (h := we_name 0 (q := wa_cons (h := we_int (wa_nil ⟨a, l2, 4, rfl, Mem.upd_same, hl2, by decide, by decide, fun l3 r3 hl3 r30 r31 => wo_add ?_⟩)))))))))
  rw [Mem.upd_upd]
  refine wss_cons (ws_set 7 (h := we_bin (we_bin (we_sub (h := we_name 1 (q := we_int (wix_tup rfl (we_int (wo_add (we_call (ok_draw T) (h := wa_cons (h := we_name 0 (q := wa_cons (h := we_int (wa_nil ⟨a, l3, 3, rfl, Mem.upd_same, hl3, by decide, by decide, fun l4 r4 hl4 r40 r41 => wo_add ?_⟩)))))))))))))))
  rw [Mem.upd_upd]
  refine wss_mid (fun ρ1 μ1 => ∃ many : Int, ρ1 = [some (D.loc a), some (encW b size k), some (.lst (keys.map .int)), some (.int span), some (.int (1 + r1)), some (.int (1 + r2)), some (.int (1 + r3)), some (.int many), none, none] ∧ μ1 = μ.upd a (.lst l4) ∧ 0 ≤ many ∧ many ≤ 2000) (ws_if (wt_cmp (h := we_sub (h := we_name 1 (q := we_int (wix_tup rfl (we_str (wo_eqS ⟨_, rfl, fun hk => ?_, fun hk => ?_⟩)))))))) ?_
  · refine wss_cons (ws_set 7 (h := we_bin (we_bin (we_sub (h := we_name 1 (q := we_int (wix_tup rfl (we_name 6 (q := wo_fdiv (by unfold CDiv; omega) (we_int (wo_add (wss_nil ⟨_, rfl, rfl, ?_, ?_⟩))))))))))))
    · have := Int.ediv_nonneg (a := size) (b := 1 + r3) (by omega) (by omega); omega
    · have := Int.ediv_le_self (a := size) (1 + r3) (by omega); omega
  · exact wss_nil ⟨_, rfl, rfl, by omega, by omega⟩
  rintro ρ1 μ1 ⟨many, rfl, rfl, hm0, hm1⟩
  refine wss_cons (ws_set 8 (h := we_lstM (wa_nil ⟨szb rfl, fun p hp => ?_⟩)))
  have hpa : p ≠ a := fun z => by subst z; rw [Mem.upd_same] at hp; cases hp
  have hkn : ∀ x : Int, ∃ key : Int, atI (keys.map D.int) (x % (keys.length : Int)) = some (.int key) ∧ key ∈ keys ∧ 0 ≤ key ∧ key < 10 := fun x => by
    have h1 := Int.emod_nonneg x (b := (keys.length : Int)) (by omega)
    have h2 := Int.emod_lt_of_pos x (b := (keys.length : Int)) (by omega)
    have hlt : (x % (keys.length : Int)).toNat < keys.length := by omega
    refine ⟨keys[(x % (keys.length : Int)).toNat], atI_map D.int h1 (List.getElem?_eq_getElem hlt), List.getElem_mem _, hky _ (List.getElem_mem _)⟩
  refine wss_cons (ws_for (h := wi_range1 T.b_range (h := wa_cons (h := we_name 7 (q := wa_nil ⟨_, rfl, by omega, ?_⟩)))))
  refine ⟨[9], fun i ρ μ' => ∃ es o, ρ = [some (D.loc a), some (encW b size k), some (.lst (keys.map .int)), some (.int span), some (.int (1 + r1)), some (.int (1 + r2)), some (.int (1 + r3)), some (.int many), some (.loc p), o] ∧
    μ' = (μ.upd a (.lst l4)).upd p (.lst (List.map Ent.enc es)) ∧ es.length ≤ 2 * i ∧ ∀ e ∈ es, e.ok ∧ InnR keys span e, ⟨[], none, rfl, rfl, Nat.le_refl _, by simp⟩, ?_, ?_⟩
  · rintro i d ρ μ' hd ⟨es, o, rfl, rfl, hle, hok⟩
    obtain ⟨hi, rfl⟩ := rangeD_get hd
    have hsz : (List.map Ent.enc es).length < 16000000 := by rw [List.length_map]; omega
    obtain ⟨key, hkey, hk5, hk3, hk4⟩ := hkn ((0 + (i : Int)) * (1 + r1))
    refine wg_name 9 (q := ?_)
    have hrow : ∀ v : Int, -1 ≤ v ∧ v ≤ span - 2 → ∀ x ∈ es ++ [Ent.row key v], x.ok ∧ InnR keys span x := fun v hv x hx => by
      rcases List.mem_append.mp hx with hx | hx
      · exact hok x hx
      · simp at hx; subst hx; exact ⟨⟨hk3, hk4⟩, hk5, hv⟩
    refine wss_cons (ws_expr (h := we_lm PySem.F.slot_list_append PySem.F.type_list_append (h := we_name 8 (q := ⟨_, _, rfl, Mem.upd_same, wa_cons (h := we_tup (wa_cons (h := we_str (wa_cons (h := we_sub (h := we_name 2 (q := we_bin (we_callT bt_int T.b_int (h := wa_cons (h := we_bin (we_name 9 (q := we_name 4 (q := wo_mul (by unfold CMul; omega) (wa_nil (wc_int (we_callB bt_len T.b_len (h := wa_cons (h := we_name 2 (q := wa_nil (wc_len_lst (wo_mod (by rw [List.length_map]; omega) (wix_lst (by rw [List.length_map]; exact hkey) ?_))))))))))))))))))))))⟩))))
    refine wa_cons (h := we_bin (we_bin (we_callT bt_int T.b_int (h := wa_cons (h := we_bin (we_bin (we_name 9 (q := we_name 5 (q := wo_mul (by unfold CMul; omega) (we_name 4 (q := wo_add (wa_nil (wc_int (we_name 3 (q := wo_mod (by omega) (we_int (wo_sub (wa_nil ⟨szb rfl, wa_nil (wm_append Mem.upd_same (by rw [sizeLine_eq]; omega) ?_)⟩))))))))))))))))))
    rw [Mem.upd_upd]
    cases b with
    | true =>
      refine wss_cons (ws_if (wt_cmp (h := we_sub (h := we_name 1 (q := we_int (wix_tup rfl (we_str (wo_eqS ⟨_, rfl, fun hk => ?_, fun hk => ?_⟩))))))))
      · exact absurd hk (by decide)
      · refine wss_nil (wss_nil ⟨es ++ [.row key (((0 + (i : Int)) * (1 + r2) + (1 + r1)) % span - 1)], some (.int (0 + (i : Int))), rfl, ?_, by rw [List.length_append, List.length_singleton]; omega, hrow _ (span_in _ hsp0)⟩)
        rw [List.map_append]; rfl
    | false =>
      refine wss_cons (ws_if (wt_cmp (h := we_sub (h := we_name 1 (q := we_int (wix_tup rfl (we_str (wo_eqS ⟨_, rfl, fun hk => ?_, fun hk => ?_⟩))))))))
      · refine wss_cons (ws_expr (h := we_lm PySem.F.slot_list_append PySem.F.type_list_append (h := we_name 8 (q := ⟨_, _, rfl, Mem.upd_same, wa_cons (h := we_tup (wa_cons (h := we_str (wa_cons (h := we_name 6 (q := wa_nil ⟨szb rfl, wa_nil (wm_append Mem.upd_same (by rw [List.length_append, List.length_singleton, sizeLine_eq]; omega) ?_)⟩))))))⟩))))
        rw [Mem.upd_upd]
        refine wss_nil (wss_nil ⟨es ++ [.row key (((0 + (i : Int)) * (1 + r2) + (1 + r1)) % span - 1)] ++ [.tick (1 + r3)], some (.int (0 + (i : Int))), rfl, ?_, by rw [List.length_append, List.length_append, List.length_singleton, List.length_singleton]; omega, fun x hx => ?_⟩)
        · rw [List.map_append, List.map_append]; rfl
        · rcases List.mem_append.mp hx with hx | hx
          · exact hrow _ (span_in _ hsp0) x hx
          · simp at hx; subst hx; exact ⟨⟨by omega, by omega⟩, trivial⟩
      · exact absurd hk (by decide)
  · rintro ρ μ' ⟨es, o, rfl, rfl, hle, hok⟩
    rw [rangeD_length] at hle
    refine wss_cons (ws_ret (we_callT bt_tuple T.b_tuple (h := wa_cons (h := we_name 8 (q := wa_nil (wc_tuple (.inr (.inr ⟨_, rfl, Mem.upd_same⟩)) ⟨μ.upd a (.lst l4), Mem.Sub.new hp, q l4 es hl4 (fun e he => (hok e he).1) (by omega) fun e he => (hok e he).2⟩))))))
theorem toldK_len {K : Nat} {kvs : List (Int × Int)} (hK : K ≤ 1000) : ∀ p ∈ toldK K kvs, p.2.length ≤ 1000 := by
  intro p hp
  unfold toldK at hp
  obtain ⟨k, _, rfl⟩ := List.mem_map.mp hp
  exact Nat.le_trans (topK_len _ _) hK
theorem agedF_ok {b : Bool} {es : List Ent} (h : ∀ e ∈ es, e.ok) : ∀ r ∈ agedF b es, 0 ≤ r.2.1 ∧ r.2.1 < 10 := by
  induction es with
  | nil => intro r hr; cases hr
  | cons x es ih =>
    intro r hr
    have h' : ∀ e ∈ es, e.ok := fun e he => h e (by simp [he])
    cases x with
    | tick n => exact ih h' r hr
    | row k v =>
      rcases List.mem_cons.mp hr with rfl | hr
      · exact h (.row k v) (by simp)
      · exact ih h' r hr
theorem range_all (rows : List Row) : (List.range rows.length).filterMap (rows[·]?) = rows := by
  have := run_pick [] rows
  simpa [List.range_eq_range'] using this
theorem rangeD_nat (n : Nat) : rangeD 0 n = (List.range n).map fun i : Nat => D.int i := by
  unfold rangeD
  apply List.map_congr_left
  intro i _
  rw [Int.zero_add]
def sp_window : DSp := fun ds μ Q => ∃ (a : Addr) (l : List D) (s : Str) (far : Int), ds = [.loc a, .str s, .int far] ∧ μ a = some (.lst l) ∧ IsDr l ∧ 1 ≤ far ∧ far ≤ 1000 ∧
  ∀ l' size k, IsDr l' → 1 ≤ size → size ≤ 1000 → 1 ≤ k → k ≤ 4 → Q (.tup [.str s, .int size, .int k]) (μ.upd a (.lst l'))
theorem sc_window : FnScope ["d", "kind", "far", "way", "size"] ["d", "kind", "far"] (defScope s_window) := ⟨rfl, rfl, rfl, by decide +kernel, rfl, by decide +kernel, by decide +kernel⟩
theorem ok_window (T : Txt K mg C) : FnD P w K mg base 3 "_law_window" sp_window := by
  refine TF.ok 2 T.f_window sc_window (fun ds μ Q ⟨_, _, _, _, h, _⟩ => by rw [h]; rfl) fun ds μ Q h => ?_
  obtain ⟨a, l, s, far, rfl, hm, hl, hf0, hf1, q⟩ := h
  refine wss_cons (ws_set 3 (h := we_call (ok_draw T) (h := wa_cons (h := we_name 0 (q := wa_cons (h := we_int (wa_nil ⟨a, l, 5, rfl, hm, hl, by decide, by decide, fun l1 way hl1 _ _ => ?_⟩)))))))
  refine wss_cons (ws_set 4 (h := we_bin (we_int (we_call (ok_draw T) (h := wa_cons (h := we_name 0 (q := wa_cons (h := we_int (wa_nil ⟨a, l1, 7, rfl, Mem.upd_same, hl1, by decide, by decide, fun l2 r2 hl2 _ _ => wo_add ?_⟩)))))))))
  rw [Mem.upd_upd]
  refine wss_mid (fun ρ1 μ1 => ∃ l3 size, ρ1 = [some (.loc a), some (.str s), some (.int far), some (.int way), some (.int size)] ∧ μ1 = μ.upd a (.lst l3) ∧ IsDr l3 ∧ 1 ≤ size ∧ size ≤ 1000) (ws_if (wt_cmp (h := we_name 3 (q := we_int (wo_eqI ⟨_, rfl, fun hk => ?_, fun hk => ?_⟩))))) ?_
  · refine wss_cons (ws_set 4 (h := we_bin (we_int (we_call (ok_draw T) (h := wa_cons (h := we_name 0 (q := wa_cons (h := we_name 2 (q := wa_nil ⟨a, l2, far, rfl, Mem.upd_same, hl2, by omega, by omega, fun l3 r3 hl3 _ _ => wo_add (wss_nil ⟨l3, _, rfl, ?_, hl3, by omega, by omega⟩)⟩)))))))))
    rw [Mem.upd_upd]
  · refine wss_cons (ws_if (wt_cmp (h := we_name 3 (q := we_int (wo_eqI ⟨_, rfl, fun hk => ?_, fun hk => ?_⟩)))))
    · refine wss_cons (ws_set 4 (h := we_bin (we_int (we_call (ok_draw T) (h := wa_cons (h := we_name 0 (q := wa_cons (h := we_int (wa_nil ⟨a, l2, 3, rfl, Mem.upd_same, hl2, by omega, by omega, fun l3 r3 hl3 _ _ => wo_sub (wss_nil (wss_nil ⟨l3, _, rfl, ?_, hl3, by omega, by omega⟩))⟩)))))))))
      rw [Mem.upd_upd]
    · exact wss_nil (wss_nil ⟨l2, _, rfl, rfl, hl2, by omega, by omega⟩)
  rintro ρ1 μ1 ⟨l3, size, rfl, rfl, hl3, hs0, hs1⟩
  refine wss_cons (ws_ret' (we_tup (wa_cons (h := we_name 1 (q := wa_cons (h := we_name 4 (q := wa_cons (h := we_call (ok_pick T) (h := wa_cons (h := we_name 0 (q := wa_cons (h := we_lst (wa_cons (h := we_int (wa_cons (h := we_int (wa_cons (h := we_int (wa_cons (h := we_int (wa_cons (h := we_int (wa_cons (h := we_int (wa_nil (⟨szb rfl, wa_nil ?_⟩))))))))))))))))))))))))))
  refine ⟨a, l3, [.int 1, .int 1, .int 2, .int 2, .int 3, .int 4], rfl, Mem.upd_same, hl3, by decide, by decide, fun l4 x hl4 hx => wa_nil ⟨szb rfl, ?_⟩⟩
  rw [Mem.upd_upd]
  simp only [List.mem_cons, List.mem_nil_iff, or_false] at hx
  rcases hx with rfl | rfl | rfl | rfl | rfl | rfl <;> exact q l4 size _ hl4 hs0 hs1 (by decide) (by decide)
abbrev nD (l : List Nat) : List D := l.map fun i : Nat => D.int i
def sp_shuffled : DSp := fun ds μ Q => ∃ (a : Addr) (l xs : List D), ds = [.loc a, .lst xs] ∧ μ a = some (.lst l) ∧ IsDr l ∧ xs.length ≤ 1000 ∧ ∀ l' ys, IsDr l' → ys.Perm xs → Q (.lst ys) (μ.upd a (.lst l'))
theorem erase_perm {α : Type} : ∀ (xs : List α) (k : Nat) (h : k < xs.length), ([xs[k]] ++ xs.eraseIdx k).Perm xs
  | x :: xs, 0, h => .refl _
  | x :: xs, k + 1, h => by
    have := erase_perm xs k (by simpa using h)
    exact (List.Perm.swap _ _ _).trans (List.Perm.cons x this)
theorem sc_shuffled : FnScope ["d", "row", "left", "k"] ["d", "row"] (defScope s_shuffled) := ⟨rfl, rfl, rfl, by decide +kernel, rfl, by decide +kernel, by decide +kernel⟩
theorem ok_shuffled (T : Txt K mg C) : FnD P w K mg base 2 "_law_shuffled" sp_shuffled := by
  refine TF.ok 1 T.f_shuffled sc_shuffled (fun ds μ Q ⟨_, _, _, h, _⟩ => by rw [h]; rfl) fun ds μ Q h => ?_
  obtain ⟨a, l, xs, rfl, hm, hl, hx, q⟩ := h
  refine wss_cons (ws_set 2 (h := we_callT bt_list T.b_list (h := wa_cons (h := we_name 1 (q := wa_nil (wc_listM (.inl rfl) fun p hp => ?_))))))
  have hpa : p ≠ a := fun z => by subst z; rw [hm] at hp; cases hp
  refine wss_cons (ws_ret (we_lc [("k", 3)] (h := wi_range1 T.b_range (h := wa_cons (h := we_callB bt_len T.b_len (h := wa_cons (h := we_name 1 (q := wa_nil (wc_len_lst (wa_nil ⟨_, rfl, by omega, ?_⟩))))))))))
  refine ⟨by rw [rangeD_length]; exact sz1000 (by omega), [3], fun i acc μ' => ∃ l' rest, μ' p = some (.lst rest) ∧ μ' a = some (.lst l') ∧ (∀ b, b ≠ p → b ≠ a → μ' b = μ b) ∧ IsDr l' ∧ (acc ++ rest).Perm xs ∧ rest.length + i = xs.length, by simp,
    ⟨l, xs, Mem.upd_same, by rw [Mem.upd_ne hpa.symm]; exact hm, fun b h1 h2 => Mem.upd_ne h1, hl, .refl _, rfl⟩, ?_, ?_⟩
  · rintro i d acc μ' hd ⟨l', rest, hr, ha, hb, hl', hperm, hlen⟩
    obtain ⟨hi, rfl⟩ := rangeD_get hd
    refine wg_name 3 (q := wts_nil ⟨fun _ => ?_, fun z => (nomatch z)⟩)
    refine we_lm PySem.F.slot_list_pop PySem.F.type_list_pop (h := we_name 2 (q := ⟨_, _, rfl, hr, wa_cons (h := we_call (ok_draw T) (h := wa_cons (h := we_name 0 (q := wa_cons (h := we_callB bt_len T.b_len (h := wa_cons (h := we_name 2 (q := wa_nil (wc_len_loc hr (wa_nil ⟨a, l', _, rfl, ha, hl', by have : i < xs.length := (by simpa using hi); omega, by omega, fun l2 r hl2 r0 r1 => wa_nil ?_⟩))))))))))⟩))
    have hi' : i < xs.length := by simpa using hi
    have hlt : r.toNat < rest.length := by omega
    refine wm_popAt (ds := rest) (k := r.toNat) (d := rest[r.toNat]) (by rw [Mem.upd_ne hpa]; exact hr) (by omega) ?_ (List.getElem?_eq_getElem hlt) ?_
    · have e1 : (if r < 0 then r + (rest.length : Int) else r) = r := if_neg (by omega)
      have e2 : (decide (0 ≤ r) && decide (r < (rest.length : Int))) = true := by simp; omega
      simp only [seqIndex?, e1, e2, if_true]
    · refine ⟨l2, rest.eraseIdx r.toNat, Mem.upd_same, by rw [Mem.upd_ne hpa.symm, Mem.upd_same], fun b h1 h2 => by rw [Mem.upd_ne h1, Mem.upd_ne h2, hb b h1 h2], hl2, ?_, ?_⟩
      · rw [List.append_assoc]
        refine List.Perm.trans ?_ hperm
        refine List.Perm.append_left _ ?_
        exact erase_perm rest r.toNat hlt
      · rw [List.length_eraseIdx]; rw [if_pos hlt]; omega
  · rintro acc μ' ⟨l', rest, hr, ha, hb, hl', hperm, hlen⟩
    rw [rangeD_length] at hlen
    have : rest = [] := List.eq_nil_of_length_eq_zero (by omega)
    subst this
    rw [List.append_nil] at hperm
    refine ⟨μ.upd a (.lst l'), fun b o e => ?_, q l' acc hl' hperm⟩
    by_cases h1 : b = a
    · subst h1; rw [Mem.upd_same] at e; rw [ha]; exact e
    · rw [Mem.upd_ne h1] at e
      have h2 : b ≠ p := fun z => by subst z; rw [hp] at e; cases e
      rw [hb b h2 h1]; exact e
def sp_goes_first : DSp := fun ds μ Q => ∃ (R : List Row) (o j : Nat) (a b : Row), ds = [.lst (R.map Row.enc), .int o, .int j] ∧ R[o]? = some a ∧ R[j]? = some b ∧ Q (.bl (goesB R o j)) μ
theorem at_row {R : List Row} {j : Nat} {r : Row} (h : R[j]? = some r) : atI (R.map Row.enc) (j : Int) = some r.enc := atI_map Row.enc (by omega) (by simpa using h)
theorem sc_goes_first : FnScope ["aged", "other", "at"] ["aged", "other", "at"] (defScope s_goes_first) := ⟨rfl, rfl, rfl, by decide +kernel, rfl, by decide +kernel, by decide +kernel⟩
theorem ok_goes_first (T : Txt K mg C) : FnD P w K mg base 1 "_law_goes_first" sp_goes_first := by
  refine TF.ok 0 T.f_goes_first sc_goes_first (fun ds μ Q ⟨_, _, _, _, _, h, _⟩ => by rw [h]; rfl) fun ds μ Q h => ?_
  obtain ⟨R, o, j, a, b, rfl, ho, hj, q⟩ := h
  have xo := at_row ho
  have xj := at_row hj
  rw [goes_at ho hj] at q
  have no : ¬ (o ≠ j ∧ a.2.1 = b.2.1 ∧ a.1 ≤ b.1 ∧ (a.2.2 > b.2.2 ∨ (a.2.2 = b.2.2 ∧ o > j))) → Q (.bl false) μ := fun h => by rw [decide_eq_false h] at q; exact q
  refine wss_cons (ws_if (wt_ww (ww_or (wt_cmp (h := we_name 1 (q := we_name 2 (q := wo_eqI ⟨_, rfl, fun hk => ?_, fun hk => ⟨fun _ => wss_cons (ws_ret' (we_bl (no ?_))), fun z => (nomatch z)⟩⟩)))))))
  · have k1 := of_decide_eq_false hk
    refine ww_or (wt_cmp (h := we_sub (h := we_sub (h := we_name 0 (q := we_name 1 (q := wix_lst xo (we_int (wix_tup rfl (we_sub (h := we_sub (h := we_name 0 (q := we_name 2 (q := wix_lst xj (we_int (wix_tup rfl (wo_neI ⟨_, rfl, fun hk2 => ?_, fun hk => ⟨fun _ => wss_cons (ws_ret' (we_bl (no ?_))), fun z => (nomatch z)⟩⟩))))))))))))))))
    · refine ww_or1 (wt_cmp (h := we_sub (h := we_sub (h := we_name 0 (q := we_name 1 (q := wix_lst xo (we_int (wix_tup rfl (we_sub (h := we_sub (h := we_name 0 (q := we_name 2 (q := wix_lst xj (we_int (wix_tup rfl (wo_gt ⟨_, rfl, fun hk => wss_cons (ws_ret' (we_bl (no ?_))), fun hk => wss_nil ?_⟩))))))))))))))))
      · have := of_decide_eq_true hk
        omega
      · have k3 := of_decide_eq_false hk
        have k2 : a.2.1 = b.2.1 := by simpa using hk2
        refine wss_cons (ws_ret' (we_or (we_cmp (h := we_sub (h := we_sub (h := we_name 0 (q := we_name 1 (q := wix_lst xo (we_int (wix_tup rfl (we_sub (h := we_sub (h := we_name 0 (q := we_name 2 (q := wix_lst xj (we_int (wix_tup rfl (wo_gt ⟨_, rfl, fun hk => ?_, fun hk => ?_⟩))))))))))))))))))
        · have k4 := of_decide_eq_false hk
          refine we_one (we_and (we_cmp (h := we_sub (h := we_sub (h := we_name 0 (q := we_name 1 (q := wix_lst xo (we_int (wix_tup rfl (we_sub (h := we_sub (h := we_name 0 (q := we_name 2 (q := wix_lst xj (we_int (wix_tup rfl (wo_eqI ⟨_, rfl, fun hk => we_one (we_cmp (h := we_name 1 (q := we_name 2 (q := wo_gt ?_)))), fun hk => no ?_⟩)))))))))))))))))
          · have k5 := of_decide_eq_true hk
            have : decide (o ≠ j ∧ a.2.1 = b.2.1 ∧ a.1 ≤ b.1 ∧ (a.2.2 > b.2.2 ∨ (a.2.2 = b.2.2 ∧ o > j))) = decide ((o : Int) > (j : Int)) := decide_eq_decide.mpr (by omega)
            rw [this] at q; exact q
          · have k5 := of_decide_eq_false hk
            omega
        · have k4 := of_decide_eq_true hk
          rw [decide_eq_true (by omega)] at q; exact q
    · have : ¬ a.2.1 = b.2.1 := by simpa using hk
      omega
  · have := of_decide_eq_true hk
    omega
theorem range_nD (n : Nat) : rangeD 0 ((n : Int)).toNat = nD (List.range n) := by rw [Int.toNat_natCast]; exact rangeD_nat n
theorem len_enc (R : List Row) : (R.map Row.enc).length = R.length := List.length_map ..
theorem enc_nb (r : Row) : r.enc.nb 1 = true := by simp [Row.enc, D.nb, D.nbs]
theorem enc_inj {a b : Row} (h : a.enc = b.enc) : a = b := by
  obtain ⟨a1, a2, a3⟩ := a
  obtain ⟨b1, b2, b3⟩ := b
  simp only [Row.enc, D.tup.injEq, List.cons.injEq, D.int.injEq] at h
  obtain ⟨rfl, rfl, rfl, _⟩ := h
  rfl
theorem ints_inj : ∀ {l m : List Int}, l.map D.int = m.map D.int → l = m
  | [], [], _ => rfl
  | [], _ :: _, h => by simp at h
  | _ :: _, [], h => by simp at h
  | a :: l, b :: m, h => by
    rw [List.map_cons, List.map_cons, List.cons.injEq, D.int.injEq] at h
    rw [h.1, ints_inj h.2]
theorem encT_inj : ∀ {l m : List (Int × List Int)}, encT l = encT m → l = m
  | [], [], _ => rfl
  | [], _ :: _, h => by simp [encT] at h
  | _ :: _, [], h => by simp [encT] at h
  | a :: l, b :: m, h => by
    simp only [encT, List.map_cons, D.tup.injEq, List.cons.injEq] at h
    obtain ⟨h1, h2⟩ := h
    simp only [encP, D.tup.injEq, List.cons.injEq, D.int.injEq] at h1
    obtain ⟨e1, e2, _⟩ := h1
    rw [encT_inj (l := l) (m := m) (by rw [encT, encT, h2])]
    obtain ⟨a1, a2⟩ := a
    obtain ⟨b1, b2⟩ := b
    rw [show a1 = b1 from e1, show a2 = b2 from ints_inj e2]
theorem encT_nb (l : List (Int × List Int)) : (encT l).nb 3 = true := by
  show D.nbs 2 (l.map encP) = true
  refine nbs_of fun d hd => ?_
  obtain ⟨p, _, rfl⟩ := List.mem_map.mp hd
  simp [encP, D.nb, D.nbs, nbs_ints]
theorem told_agr {R : List Row} {lot : List Nat} {size wait : Int} {k : Nat} (hk : 1 ≤ k) (hn : lot.Nodup) (hb : ∀ j ∈ lot, j < R.length) :
    encT (toldK k (lotF size wait R lot)) = encT (toldK k (lotF size wait R (List.range R.length))) ↔ Agr k R (fun j => decide (j ∈ lot)) (size - wait) := by
  have c1 : ∀ key v, cn (lotF size wait R lot) key v = NN R (fun j => decide (j ∈ lot)) (size - wait) key v := fun key v => by
    exact (cn_lotF size wait R lot key v _ rfl).trans (countP_lot hn hb _)
  have c2 : ∀ key v, cn (lotF size wait R (List.range R.length)) key v = NN R (fun _ => true) (size - wait) key v := fun key v => by
    refine (cn_lotF size wait R _ key v _ rfl).trans ?_
    unfold NN cP
    exact List.countP_congr fun j _ => by simp
  constructor
  · intro h key v
    have := (toldK_iff hk).mp (encT_inj h) key v
    rw [c1, c2] at this; exact this
  · intro h
    have e : toldK k (lotF size wait R lot) = toldK k (lotF size wait R (List.range R.length)) := (toldK_iff hk).mpr fun key v => by rw [c1, c2]; exact h key v
    rw [e]
def keptF (k : Nat) (size : Int) (R : List Row) : List Nat := (List.range R.length).filter (keptB k size R)
theorem keptF_ok (k : Nat) (size : Int) (R : List Row) : (keptF k size R).Nodup ∧ ∀ j ∈ keptF k size R, j < R.length :=
  ⟨List.nodup_range.filter _, fun j hj => List.mem_range.mp (List.mem_filter.mp hj).1⟩
theorem keptF_mem {k : Nat} {size : Int} {R : List Row} {j : Nat} (h : j < R.length) : decide (j ∈ keptF k size R) = keptB k size R j := by
  unfold keptF
  rw [Bool.eq_iff_iff, decide_eq_true_iff, List.mem_filter, List.mem_range]
  exact ⟨fun x => x.2, fun x => ⟨h, x⟩⟩
def sp_kept_rows : DSp := fun ds μ Q => ∃ (b : Bool) (size k : Int) (R : List Row), ds = [encW b size k, .lst (R.map Row.enc)] ∧ R.length ≤ 10000 ∧ 0 ≤ k ∧ Q (.lst (nD (keptF k.toNat size R))) μ
theorem sc_kept_rows : FnScope ["window", "aged", "inside", "at", "found", "firsts", "other"] ["window", "aged"] (defScope s_kept_rows) := ⟨rfl, rfl, rfl, by decide +kernel, rfl, by decide +kernel, by decide +kernel⟩
theorem ok_kept_rows (T : Txt K mg C) : FnD P w K mg base 2 "_law_kept_rows" sp_kept_rows := by
  refine TF.ok 1 T.f_kept_rows sc_kept_rows (fun ds μ Q ⟨_, _, _, _, h, _⟩ => by rw [h]; rfl) fun ds μ Q h => ?_
  obtain ⟨b, size, k, R, rfl, hR, hk0, q⟩ := h
  refine wss_cons (ws_setLc 2 [("at", 3)] (h := wi_range1 T.b_range (h := wa_cons (h := we_callB bt_len T.b_len (h := wa_cons (h := we_name 1 (q := wa_nil (wc_len_lst (wa_nil ⟨_, rfl, by rw [len_enc]; omega, ?_⟩)))))))))
  rw [len_enc, range_nD]
  refine LcHyp.fm (List.range R.length) (fun i : Nat => .int i) (inB R size) (fun i : Nat => .int i) [3] (by simp) (szM (by rw [List.length_range]; omega)) (fun j i hj => ?_) ?_
  · have hjl : j < R.length := List.mem_range.mp (List.mem_of_getElem? hj)
    have hr := List.getElem?_eq_getElem hjl
    exact wg_name 3 (q := wts_one (wt_cmp (h := we_sub (h := we_sub (h := we_name 1 (q := we_name 3 (q := wix_lst (at_row hr) (we_int (wix_tup rfl (we_sub (h := we_name 0 (q := we_int (wix_tup rfl (wo_lt ⟨_, rfl, (in_at hr).symm, rfl, fun _ => we_name 3 (q := ⟨rfl, rfl⟩)⟩))))))))))))))
  generalize hin : (List.range R.length).filter (inB R size) = inside
  have hinl : ∀ j ∈ inside, j < R.length := fun j hj => by rw [← hin] at hj; exact List.mem_range.mp (List.mem_filter.mp hj).1
  have hinn : inside.length ≤ 10000 := by rw [← hin]; exact Nat.le_trans (List.length_filter_le ..) (by rw [List.length_range]; exact hR)
  refine wss_cons (ws_set 4 (h := we_lstM (wa_nil ⟨szb rfl, fun p hp => ?_⟩)))
  refine wss_cons (ws_for (h := wi_lst (we_name 2 (q := ⟨_, rfl, ?_⟩))))
  refine ⟨[3], fun i ρ μ' => ∃ o1 o2 o3, ρ = [some (encW b size k), some (.lst (R.map Row.enc)), some (.lst (nD inside)), o1, some (.loc p), o2, o3] ∧ μ' = μ.upd p (.lst (nD ((inside.take i).filter fun j => decide (firsts R size j < k.toNat)))), ⟨none, none, none, rfl, rfl⟩, ?_, ?_⟩
  · rintro i d ρ μ' hd ⟨o1, o2, o3, rfl, rfl⟩
    obtain ⟨j, hj, rfl⟩ := getE hd
    have hjl := hinl j (List.mem_of_getElem? hj)
    have hrj := List.getElem?_eq_getElem hjl
    refine wg_name 3 (q := ?_)
    refine wss_cons (ws_setLc 5 [("other", 6)] (h := wi_lst (we_name 2 (q := ⟨_, rfl, ?_⟩))))
    refine LcHyp.fm inside (fun i : Nat => .int i) (fun o => goesB R o j) (fun i : Nat => .int i) [6] (by simp) (szM (by omega)) (fun o n ho => ?_) ?_
    · have hol := hinl o (List.mem_of_getElem? ho)
      have hro := List.getElem?_eq_getElem hol
      exact wg_name 6 (q := wts_one (wt_val (h := we_call (ok_goes_first T) (h := wa_cons (h := we_name 1 (q := wa_cons (h := we_name 6 (q := wa_cons (h := we_name 3 (q := wa_nil ⟨R, o, j, _, _, rfl, hro, hrj, _, rfl, rfl, rfl, fun _ => we_name 6 (q := ⟨rfl, rfl⟩)⟩))))))))))
    have hcount : (inside.filter fun o => goesB R o j).length = firsts R size j := by
      unfold firsts cP
      rw [List.countP_eq_length_filter, ← hin, List.filter_filter]
      congr 1
      exact List.filter_congr fun o _ => Bool.and_comm _ _
    have htk : inside.take (i + 1) = inside.take i ++ [j] := take_snoc hj
    refine wss_cons (ws_if (wt_cmp (h := we_callB bt_len T.b_len (h := wa_cons (h := we_name 5 (q := wa_nil (wc_len_lst (we_sub (h := we_name 0 (q := we_int (wix_tup rfl (wo_lt ⟨_, rfl, fun hk => ?_, fun hk => ?_⟩))))))))))))
    · have hk' := of_decide_eq_true hk
      rw [List.length_map, hcount] at hk'
      refine wss_cons (ws_expr (h := we_lm PySem.F.slot_list_append PySem.F.type_list_append (h := we_name 4 (q := ⟨_, _, rfl, Mem.upd_same, wa_cons (h := we_name 3 (q := wa_nil (wm_append Mem.upd_same ?_ (wss_nil (wss_nil ⟨_, _, _, rfl, ?_⟩)))))⟩))))
      · rw [List.length_map, sizeLine_eq]
        have := List.length_filter_le (fun j => decide (firsts R size j < k.toNat)) (inside.take i)
        have : (inside.take i).length ≤ inside.length := by rw [List.length_take]; omega
        omega
      · rw [Mem.upd_upd, htk, List.filter_append]
        have : ([j].filter fun j => decide (firsts R size j < k.toNat)) = [j] := by
          simp; omega
        rw [this]; simp only [nD, List.map_append]; rfl
    · have hk' := of_decide_eq_false hk
      rw [List.length_map, hcount] at hk'
      refine wss_nil (wss_nil ⟨_, _, _, rfl, ?_⟩)
      rw [htk, List.filter_append]
      have : ([j].filter fun j => decide (firsts R size j < k.toNat)) = [] := by
        simp; omega
      rw [this, List.append_nil]
  · rintro ρ μ' ⟨o1, o2, o3, rfl, rfl⟩
    refine wss_freeze 4 rfl Mem.upd_same ?_
    rw [Mem.del_upd hp]
    refine wss_cons (ws_ret' (we_name 4 (q := ?_)))
    have : (inside.take (nD inside).length).filter (fun j => decide (firsts R size j < k.toNat)) = keptF k.toNat size R := by
      rw [List.length_map, List.take_length, ← hin, List.filter_filter]
      unfold keptF
      exact List.filter_congr fun o _ => Bool.and_comm _ _
    rw [this]
    exact q
structure LotOk (R : List Row) (lot : List Nat) : Prop where
  nd : lot.Nodup
  lt : ∀ j ∈ lot, j < R.length
def inL (lot : List Nat) (j : Nat) : Bool := decide (j ∈ lot)
def KeysIn (R : List Row) : Prop := ∀ r ∈ R, 0 ≤ r.2.1 ∧ r.2.1 < 10
def sp_is_lasting : DSp := fun ds μ Q => ∃ (b : Bool) (size k : Int) (R : List Row) (lot : List Nat), ds = [encW b size k, .lst (R.map Row.enc), .tup (nD lot)] ∧ R.length ≤ 10000 ∧ 1 ≤ k ∧ k ≤ 1000 ∧ LotOk R lot ∧ KeysIn R ∧
  ∀ c : Bool, (c = true ↔ Lasts k.toNat size R (inL lot)) → Q (.bl c) μ
theorem sc_is_lasting : FnScope ["window", "aged", "lot", "every", "wait", "row"] ["window", "aged", "lot"] (defScope s_is_lasting) := ⟨rfl, rfl, rfl, by decide +kernel, rfl, by decide +kernel, by decide +kernel⟩
theorem ok_is_lasting (T : Txt K mg C) : FnD P w K mg base 2 "_law_is_lasting" sp_is_lasting := by
  refine TF.ok 1 T.f_is_lasting sc_is_lasting (fun ds μ Q ⟨_, _, _, _, _, h, _⟩ => by rw [h]; rfl) fun ds μ Q h => ?_
  obtain ⟨b, size, k, R, lot, rfl, hR, hk0, hk1, ⟨hnd, hlt⟩, hkeys, q⟩ := h
  refine wss_cons (ws_set 3 (h := we_listRg T.b_list (h := wrg_1 T.b_range (h := we_callB bt_len T.b_len (h := wa_cons (h := we_name 1 (q := wa_nil (wc_len_lst ⟨_, rfl, by rw [len_enc]; unfold RgOk; omega, ?_⟩))))))))
  rw [len_enc]
  have e0 : rangeD 0 (((R.length : Int)) - 0).toNat = nD (List.range R.length) := by rw [Int.sub_zero]; exact range_nD _
  first | rw [e0] | rw [range_nD]
  let W : List Int := 0 :: (R.filter fun r => decide (r.1 < size)).map fun r => size - r.1
  have hW : ∀ x ∈ W, x = 0 ∨ ∃ r ∈ R, r.1 < size ∧ x = size - r.1 := fun x hx => by
    rcases List.mem_cons.mp hx with h | h
    · exact .inl h
    · obtain ⟨r, hr, rfl⟩ := List.mem_map.mp h
      obtain ⟨h1, h2⟩ := List.mem_filter.mp hr
      exact .inr ⟨r, h1, of_decide_eq_true h2, rfl⟩
  refine wss_cons (ws_for (h := wi_lst (we_bin (we_lst (wa_cons (h := we_int (wa_nil ⟨szb rfl, we_lc [("row", 5)] (h := wi_lst (we_name 1 (q := ⟨_, rfl, ?_⟩)))⟩)))))))
  refine LcHyp.fm R Row.enc (fun r => decide (r.1 < size)) (fun r => .int (size - r.1)) [5] (by simp) (szM (by omega)) (fun r n hr => ?_) ?_
  · exact wg_name 5 (q := wts_one (wt_cmp (h := we_sub (h := we_name 5 (q := we_int (wix_tup rfl (we_sub (h := we_name 0 (q := we_int (wix_tup rfl (wo_lt ⟨_, rfl, rfl, rfl, fun _ => we_bin (we_sub (h := we_name 0 (q := we_int (wix_tup rfl (we_sub (h := we_name 5 (q := we_int (wix_tup rfl (wo_sub ⟨rfl, rfl⟩)))))))))⟩)))))))))))
  have hWl : W.length ≤ 10001 := by
    show _ + 1 ≤ _
    rw [List.length_map]
    have := List.length_filter_le (fun r : Row => decide (r.1 < size)) R
    omega
  have eW : [D.int 0] ++ (R.filter fun r => decide (r.1 < size)).map (fun r => D.int (size - r.1)) = W.map D.int := by
    show _ :: _ = _ :: List.map _ (List.map _ _)
    rw [List.map_map]; rfl
  refine wo_cat (.inl rfl) (.inl rfl) ?_ ⟨_, rfl, ?_⟩
  · rw [List.length_map]
    have := List.length_filter_le (fun r : Row => decide (r.1 < size)) R
    refine szM ?_
    show 1 + _ ≤ _
    omega
  rw [eW]
  refine ⟨[4], fun i ρ μ' => ∃ o1, ρ = [some (encW b size k), some (.lst (R.map Row.enc)), some (.tup (nD lot)), some (.lst (nD (List.range R.length))), o1, none] ∧ μ' = μ ∧ ∀ x ∈ W.take i, Agr k.toNat R (inL lot) (size - x), ⟨none, rfl, rfl, by simp⟩, ?_, ?_⟩
  · rintro i d ρ μ' hd ⟨o1, rfl, rfl, hag⟩
    obtain ⟨x, hx, rfl⟩ := getE hd
    have hta := told_agr (R := R) (lot := lot) (size := size) (wait := x) (k := k.toNat) (by omega) hnd hlt
    refine wg_name 4 (q := ?_)
    refine wss_cons (ws_if (wt_cmp (h := we_call (ok_lot_told T) (h := wa_cons (h := we_name 0 (q := wa_cons (h := we_name 1 (q := wa_cons (h := we_name 2 (q := wa_cons (h := we_name 4 (q := wa_nil ⟨b, size, k, x, R, lot, _, rfl, .inr rfl, by omega, hk1, hlt, hkeys, ?_⟩))))))))))))
    refine we_call (ok_lot_told T) (h := wa_cons (h := we_name 0 (q := wa_cons (h := we_name 1 (q := wa_cons (h := we_name 3 (q := wa_cons (h := we_name 4 (q := wa_nil ⟨b, size, k, x, R, List.range R.length, _, rfl, .inl rfl, by omega, hk1, fun j hj => List.mem_range.mp hj, hkeys, ?_⟩)))))))))
    refine wo_neP 3 (encT_nb _) (encT_nb _) fun c hc => ⟨_, rfl, fun hc1 => ?_, fun hc1 => ?_⟩
    · refine wss_cons (ws_ret' (we_bl (q _ ⟨fun z => (nomatch z), fun hl => ?_⟩)))
      have := hc.mp hc1
      refine absurd (hta.mpr (hl _ ?_)) this
      rcases hW x (List.mem_of_getElem? hx) with rfl | ⟨r, _, hr, rfl⟩
      · omega
      · omega
    · refine wss_nil (wss_nil ⟨_, rfl, rfl, fun y hy => ?_⟩)
      rw [take_snoc hx] at hy
      rcases List.mem_append.mp hy with hy | hy
      · exact hag y hy
      · simp at hy; subst hy
        refine hta.mp (Classical.byContradiction fun z => ?_)
        rw [hc.mpr z] at hc1; cases hc1
  · rintro ρ μ' ⟨o1, rfl, rfl, hag⟩
    refine wss_cons (ws_ret' (we_bl (q _ ⟨fun _ => lasts_iff.mpr ⟨?_, fun r hr hs => ?_⟩, fun _ => rfl⟩)))
    all_goals rw [List.length_map, List.take_length] at hag
    · have := hag 0 (by simp [W])
      rw [Int.sub_zero] at this; exact this
    · have := hag (size - r.1) (List.mem_cons_of_mem _ (List.mem_map.mpr ⟨r, List.mem_filter.mpr ⟨hr, decide_eq_true hs⟩, rfl⟩))
      have e : size - (size - r.1) = r.1 := by omega
      rw [e] at this; exact this
end K76
namespace K76
open PySem L2 DL Win
variable {P : Program} {w : World} {K : PySem.W.Frag} {mg : Str → Option Value} {base : Heap} {C : Addr}
abbrev intsN (l : List Nat) : List Int := l.map fun i : Nat => (i : Int)
/-- rows by their numbers, in a dict -/
def heldK (rows : List Row) (hs : List Nat) : List (Key × D) := (intsN hs).map fun k : Int => ((Sum.inl k : Key), (rows.getD k.toNat (0, 0, 0)).enc)
theorem mem_intsN {l : List Nat} {j : Nat} : (j : Int) ∈ intsN l ↔ j ∈ l := by
  rw [List.mem_map]
  constructor
  · rintro ⟨x, h, e⟩
    have : x = j := by omega
    subst this; exact h
  · exact fun h => ⟨j, h, rfl⟩
theorem held_get {rows : List Row} {hs : List Nat} {j : Nat} {r : Row} (h : j ∈ hs) (hr : rows[j]? = some r) : getA (heldK rows hs) (.inl (j : Int)) = some r.enc := by
  unfold heldK
  rw [getA_map (intsN hs) (fun k : Int => (rows.getD k.toNat (0, 0, 0)).enc) (j : Int), if_pos (mem_intsN.mpr h)]
  have e : rows.getD j (0, 0, 0) = r := by rw [List.getD_eq_getElem?_getD, hr]; rfl
  rw [Int.toNat_natCast, e]
theorem held_keys (rows : List Row) (hs : List Nat) : (heldK rows hs).map (·.1) = (intsN hs).map Sum.inl := by
  unfold heldK; rw [List.map_map]; rfl
theorem held_len (rows : List Row) (hs : List Nat) : (heldK rows hs).length = hs.length := by
  unfold heldK; rw [List.length_map, List.length_map]

/-! ### told_lots, of a dict of rows -/
def sp_told_lots : DSp := fun ds μ Q => ∃ (b : Bool) (size k : Int) (rows : List Row) (hs ps : List Nat) (r : Addr), ds = [encW b size k, .loc r, .lst (ps.map fun i : Nat => D.int i)] ∧ μ r = some (.dct (heldK rows hs)) ∧ ps.length ≤ 1000000 ∧ 0 ≤ k ∧
  (∀ j ∈ ps, j ∈ hs) ∧ (∀ j ∈ ps, j < rows.length) ∧ (∀ r ∈ rows, 0 ≤ r.2.1 ∧ r.2.1 < 10) ∧ Q (encT (toldK k.toNat (pick rows ps))) μ
theorem sc_told_lots : FnScope ["window", "rows", "positions", "lots", "at", "key"] ["window", "rows", "positions"] (defScope s_told_lots) := ⟨rfl, rfl, rfl, by decide +kernel, rfl, by decide +kernel, by decide +kernel⟩
theorem ok_told_lots (T : Txt K mg C) : FnD P w K mg base 1 "told_lots" sp_told_lots := by
  refine TF.ok 0 T.f_told_lots sc_told_lots (fun ds μ Q ⟨_, _, _, _, _, _, _, h, _⟩ => by rw [h]; rfl) fun ds μ Q h => ?_
  obtain ⟨b, size, K', rows, hs, ps, r, rfl, hrd, hl, hK, hsub, hps, hkeys, q⟩ := h
  refine wss_cons (ws_set 3 (h := we_dctM fun a ha => ?_))
  refine wss_cons (ws_for (h := wi_lst (we_name 2 (q := ⟨_, rfl, ?_⟩))))
  refine ⟨[4], fun i ρ μ' => ∃ o1 o2 addr, ρ = [some (encW b size K'), some (.loc r), some (.lst (ps.map fun i : Nat => D.int i)), some (.loc a), o1, o2] ∧ LotsInv μ a (dkeys (pick rows (ps.take i))) (vals (pick rows (ps.take i))) addr μ',
    ⟨none, none, fun _ => 0, rfl, ⟨Mem.upd_same, Mem.Sub.new ha, ha, fun k hk => by simp [pick, dkeys] at hk, fun k hk => by simp [pick, dkeys] at hk⟩⟩, ?_, ?_⟩
  · rintro i d ρ μ' hd ⟨o1, o2, addr, rfl, hI⟩
    obtain ⟨j, hj, rfl⟩ := getE hd
    have hjl := hps j (List.mem_of_getElem? hj)
    have hr : rows[j]? = some rows[j] := List.getElem?_eq_getElem hjl
    generalize rows[j] = rw_ at hr
    obtain ⟨t, k, v⟩ := rw_
    have hx : getA (heldK rows hs) (.inl (j : Int)) = some (Row.enc (t, k, v)) := held_get (hsub j (List.mem_of_getElem? hj)) hr
    have hps1 : pick rows (ps.take (i + 1)) = pick rows (ps.take i) ++ [(k, v)] := by rw [take_snoc hj, pick_snoc hr]; rfl
    have hlen : (vals (pick rows (ps.take i)) k).length < sizeLine := by
      have h1 := vals_len (pick rows (ps.take i)) k
      have h2 := pick_len rows (ps.take i)
      have h3 : (ps.take i).length ≤ ps.length := by rw [List.length_take]; omega
      rw [sizeLine_eq]; omega
    have hfew : (dkeys (pick rows (ps.take i))).length ≤ 10 := dkeys_few fun p hp => by
      obtain ⟨r, hr, rfl⟩ := pick_mem hp
      exact hkeys r hr
    refine wg_name 4 (q := ?_)
    refine wss_cons (ws_set 5 (h := we_sub (h := we_dget (h := we_name 1 (q := we_name 4 (q := ⟨r, _, .inl (j : Int), _, rfl, rfl, hI.sub _ _ hrd, hx, we_int (wix_tup rfl ?_)⟩))))))
    refine wss_mid (fun ρ1 μ1 => ∃ addr, ρ1 = [some (encW b size K'), some (.loc r), some (.lst (ps.map fun i : Nat => D.int i)), some (.loc a), some (.int (j : Nat)), some (.int k)] ∧
      LotsInv μ a (dkeys (pick rows (ps.take (i + 1)))) (vals (pick rows (ps.take i))) addr μ1) (ws_if (wt_dnotin (we_name 5 (q := we_name 3 (q := ⟨a, _, .inl k, rfl, rfl, hI.dct, fun hk => ?_, fun hk => ?_⟩))))) ?_
    · rw [getA_map] at hk
      have hk' : k ∉ dkeys (pick rows (ps.take i)) := fun z => by rw [if_pos z] at hk; cases hk
      refine wss_cons (ws_dput (h := we_lstM (wa_nil ⟨szb rfl, fun p hp => we_name 3 (q := we_name 5 (q := ⟨a, _, .inl k, rfl, rfl, by rw [Mem.upd_ne (fun z => by subst z; rw [hI.dct] at hp; cases hp)]; exact hI.dct, by rw [List.length_map, sizeLine_eq]; omega, ?_⟩))⟩)))
      have hN := hI.new hk' (vals_nil hk') hp
      refine wss_nil ?_
      rw [hps1, dkeys_snoc, if_neg hk']
      exact ⟨_, rfl, hN⟩
    · rw [getA_map] at hk
      have hk' : k ∈ dkeys (pick rows (ps.take i)) := by
        by_cases z : k ∈ dkeys (pick rows (ps.take i))
        · exact z
        · rw [if_neg z] at hk; cases hk
      refine wss_nil ⟨addr, rfl, ?_⟩
      rw [hps1, dkeys_snoc, if_pos hk']
      exact hI
    · rintro ρ1 μ1 ⟨addr, rfl, hJ⟩
      have hk' : k ∈ dkeys (pick rows (ps.take (i + 1))) := by
        rw [hps1, dkeys_snoc]; split
        · assumption
        · simp
      refine wss_cons (ws_expr (h := we_lm PySem.F.slot_list_append PySem.F.type_list_append (h := we_dget (h := we_name 3 (q := we_name 5 (q := ⟨a, _, .inl k, .loc (addr k), rfl, rfl, hJ.dct, by rw [getA_map, if_pos hk'], addr k, _, rfl, (hJ.lst k hk').1, wa_cons (h := we_sub (h := we_dget (h := we_name 1 (q := we_name 4 (q := ⟨r, _, .inl (j : Int), _, rfl, rfl, hJ.sub _ _ hrd, hx, we_int (wix_tup rfl (wa_nil (wm_append (hJ.lst k hk').1 (by rw [List.length_map]; exact hlen) ?_)))⟩)))))⟩))))))
      refine wss_nil ⟨_, _, addr, rfl, ?_⟩
      refine hJ.app hk' fun k' => ?_
      rw [hps1, vals_snoc]
  · rintro ρ μ' ⟨o1, o2, addr, rfl, hI⟩
    rw [List.length_map, List.take_length] at hI
    have hfew : (dkeys (pick rows ps)).length ≤ 10 := dkeys_few fun p hp => by
      obtain ⟨r, hr, rfl⟩ := pick_mem hp
      exact hkeys r hr
    refine wss_cons (ws_ret (we_callT bt_tuple T.b_tuple (h := wa_cons (h := we_lc [("key", 5)] (h := wi_lst (we_callB bt_sorted T.b_sorted (h := wa_cons (h := we_name 3 (q := wa_nil (wc_sortedD hI.dct (ks := dkeys (pick rows ps)) (by rw [List.map_map]; rfl) (by omega) fun ms hp hs => ⟨_, rfl, ?_⟩))))))))))
    obtain rfl := sortA_of hp hs
    refine LcHyp.mp _ D.int (fun k => encP (k, topK K'.toNat (vals (pick rows ps) k))) [5] (by simp) (sz1000 (by rw [(sortA_perm _).length_eq]; omega)) (fun k i hk => ?_) ?_
    · have hk' : k ∈ dkeys (pick rows ps) := (sortA_perm _).mem_iff.mp (List.mem_of_getElem? hk)
      refine wg_name 5 (q := wts_nil ⟨rfl, rfl, ?_⟩)
      refine we_tup (wa_cons (h := we_name 5 (q := wa_cons (h := we_callT bt_tuple T.b_tuple (h := wa_cons (h := we_slice (we_sortedRev T.b_sorted (h := we_dget (h := we_name 3 (q := we_name 5 (q := ⟨a, _, .inl k, .loc (addr k), rfl, rfl, hI.dct, by rw [getA_map, if_pos hk'], _, .inr ⟨_, rfl, (hI.lst k hk').1⟩, fun ms hp hs => wp_none (wp_some (we_sub (h := we_name 0 (q := we_int (wix_tup rfl ⟨_, rfl, wsl_lst (wa_nil (wc_tuple (.inl rfl) (wa_nil ⟨szb rfl, ?_, rfl⟩)))⟩)))))⟩)))))))))))
      rw [sortD_of hp hs, cutD_map, cut_to _ hK]
      rfl
    · refine wa_nil (wc_tuple (.inl rfl) ⟨μ, hI.sub, ?_⟩)
      have : (sortA (dkeys (pick rows ps))).map (fun k => encP (k, topK K'.toNat (vals (pick rows ps) k))) = (toldK K'.toNat (pick rows ps)).map encP := by
        unfold toldK; rw [List.map_map]; rfl
      rw [this]
      exact q
end K76
namespace K76
open PySem L2 DL Win
variable {P : Program} {w : World} {K : PySem.W.Frag} {mg : Str → Option Value} {base : Heap} {C : Addr}

/-! ### the dict of rows, changed -/
theorem held_del (rows : List Row) (l : List Nat) (j : Nat) : dropA (heldK rows l) (.inl (j : Int)) = heldK rows (l.filter fun i => decide (i ≠ j)) := by
  unfold heldK dropA
  induction l with
  | nil => rfl
  | cons i l ih =>
    rw [List.filter_cons]
    show List.filter _ (_ :: List.map _ (intsN l)) = _
    rw [List.filter_cons, ih]
    by_cases h : i = j
    · subst h; simp
    · have : ¬ (Sum.inl (i : Int) : Key) = Sum.inl (j : Int) := fun z => h (by have := Sum.inl.inj z; omega)
      simp [h, this]
theorem held_put (rows : List Row) (l : List Nat) (r : Row) (hl : ∀ i ∈ l, i < rows.length) : putA (heldK rows l) (.inl ((rows.length : Nat) : Int)) r.enc = heldK (rows ++ [r]) (l ++ [rows.length]) := by
  have hno : ¬ ((rows.length : Nat) : Int) ∈ intsN l := fun z => by have := hl _ (mem_intsN.mp z); omega
  unfold heldK
  rw [putA_map, if_neg hno]
  show List.map _ _ = List.map _ (List.map _ (l ++ [rows.length]))
  rw [List.map_append, List.map_append, List.map_append]
  congr 1
  · refine List.map_congr_left fun k hk => ?_
    obtain ⟨i, hi, rfl⟩ := List.mem_map.mp hk
    have hi' := hl i hi
    have ne : ¬ ((i : Nat) : Int) = ((rows.length : Nat) : Int) := by omega
    rw [if_neg ne]
    rw [List.getD_eq_getElem?_getD, List.getD_eq_getElem?_getD, Int.toNat_natCast, List.getElem?_append_left hi']
  · simp
theorem sub_filter {l m : List Nat} (h : l.Sublist m) (hn : m.Nodup) : l = m.filter fun j => decide (j ∈ l) := by
  induction h with
  | slnil => rfl
  | @cons l m a h ih =>
    have hn' := List.nodup_cons.mp hn
    have ha : ¬ a ∈ l := fun z => hn'.1 (h.subset z)
    rw [List.filter_cons_of_neg (by simpa using ha)]
    exact ih hn'.2
  | @cons_cons l m a h ih =>
    have hn' := List.nodup_cons.mp hn
    rw [List.filter_cons_of_pos (by simp)]
    congr 1
    refine (ih hn'.2).trans (List.filter_congr fun x hx => ?_)
    have : x ≠ a := fun z => hn'.1 (z ▸ hx)
    simp [this]
/-- of places in order: what is kept of them, where all that are kept are among them -/
theorem kept_of {k : Nat} {size : Int} {R : List Row} {hs : List Nat} (h : hs.Sublist (List.range R.length)) (hk : ∀ j, j < R.length → keptB k size R j = true → j ∈ hs) :
    (hs.filter (inB R size)).filter (fun j => decide (((hs.filter (inB R size)).filter fun o => goesB R o j).length < k)) = keptF k size R := by
  have hn := h.nodup List.nodup_range
  have hlt : ∀ j ∈ hs, j < R.length := fun j hj => List.mem_range.mp (h.subset hj)
  have cnt : ∀ j, ((hs.filter (inB R size)).filter fun o => goesB R o j).length = cP R.length (fun o => (inB R size o && decide (o ∈ hs)) && goesB R o j) := fun j => by
    rw [List.filter_filter, ← List.countP_eq_length_filter, countP_lot hn hlt]
    exact cP_congr fun o _ => by cases inB R size o <;> cases goesB R o j <;> simp
  have e1 : (hs.filter (inB R size)).filter (fun j => decide (((hs.filter (inB R size)).filter fun o => goesB R o j).length < k)) = hs.filter (keptB k size R) := by
    rw [List.filter_filter]
    refine List.filter_congr fun j hj => ?_
    unfold keptB
    rw [Bool.and_comm]
    congr 1
    rw [cnt]
    exact decide_eq_decide.mpr (firsts_kept fun o ho g => by simpa using hk o ho g)
  rw [e1, sub_filter h List.nodup_range, List.filter_filter]
  unfold keptF
  refine List.filter_congr fun j hj => ?_
  cases z : keptB k size R j with
  | false => rfl
  | true => simp [hk j (List.mem_range.mp hj) z]

/-! ### goes_ahead, worth_keeping -/
def aheadB (b : Bool) (rows : List Row) (o j : Nat) : Bool := match rows[o]?, rows[j]? with
  | some a, some c => decide (o ≠ j ∧ a.2.1 = c.2.1 ∧ (if b = true then o > j else a.1 ≥ c.1) ∧ (if a.2.2 ≠ c.2.2 then a.2.2 > c.2.2 else o > j))
  | _, _ => false
theorem ahead_at {b : Bool} {rows : List Row} {o j : Nat} {a c : Row} (h1 : rows[o]? = some a) (h2 : rows[j]? = some c) : aheadB b rows o j = decide (o ≠ j ∧ a.2.1 = c.2.1 ∧ (if b = true then o > j else a.1 ≥ c.1) ∧ (if a.2.2 ≠ c.2.2 then a.2.2 > c.2.2 else o > j)) := by
  unfold aheadB; rw [h1, h2]
theorem aged_rows_at {b : Bool} {es : List Ent} {j : Nat} (hj : j < (rowsF 0 es).length) : ∃ r s, (agedF b es)[j]? = some r ∧ (rowsF 0 es)[j]? = some s ∧ kv r = kv s := by
  have h3 := List.getElem?_eq_getElem hj
  have h2 : j < (agedF b es).length := by rw [aged_len b es 0]; exact hj
  have h1 := List.getElem?_eq_getElem h2
  refine ⟨_, _, h1, h3, ?_⟩
  have := aged_kv b es 0 j
  rw [h1, h3] at this
  exact Option.some.inj this
theorem ahead_goes {b : Bool} {es : List Ent} {o j : Nat} (ho : o < (rowsF 0 es).length) (hj : j < (rowsF 0 es).length) : aheadB b (rowsF 0 es) o j = goesB (agedF b es) o j := by
  obtain ⟨r, s, h1, h2, h3⟩ := aged_rows_at (b := b) ho
  obtain ⟨r', s', h1', h2', h3'⟩ := aged_rows_at (b := b) hj
  rw [ahead_at h2 h2', goes_at h1 h1']
  obtain ⟨e1, e2⟩ := Prod.mk.inj h3
  obtain ⟨e1', e2'⟩ := Prod.mk.inj h3'
  refine decide_eq_decide.mpr ?_
  have age : (if b = true then o > j else s.1 ≥ s'.1) ↔ (r.1 ≤ r'.1 ∧ (b = true → o > j)) ∨ (b = true ∧ o > j) := by
    cases b with
    | true =>
      have a1 := aged_age_rows es o r h1
      have a2 := aged_age_rows es j r' h1'
      simp
    | false =>
      have a1 := aged_age_ticks es 0 o r s h1 h2
      have a2 := aged_age_ticks es 0 j r' s' h1' h2'
      simp
      omega
  have cmp : (if s.2.2 ≠ s'.2.2 then s.2.2 > s'.2.2 else o > j) ↔ (s.2.2 > s'.2.2 ∨ (s.2.2 = s'.2.2 ∧ o > j)) := by
    by_cases z : s.2.2 = s'.2.2
    · simp [z]
    · simp [z]
  rw [age, cmp, e1, e1', e2, e2']
  cases b with
  | false => simp
  | true =>
    have a1 := aged_age_rows es o r h1
    have a2 := aged_age_rows es j r' h1'
    constructor
    · rintro ⟨g1, g2, g3, g4⟩
      refine ⟨g1, g2, ?_, g4⟩
      rcases g3 with g3 | g3
      · exact g3.1
      · omega
    · rintro ⟨g1, g2, g3, g4⟩
      exact ⟨g1, g2, .inr ⟨rfl, by omega⟩, g4⟩
def sp_stays_no_shorter : DSp := fun ds μ Q => ∃ (b : Bool) (size k : Int) (rows : List Row) (hs : List Nat) (r : Addr) (o j : Nat) (a c : Row), ds = [encW b size k, .loc r, .int o, .int j] ∧ μ r = some (.dct (heldK rows hs)) ∧ o ∈ hs ∧ j ∈ hs ∧ rows[o]? = some a ∧ rows[j]? = some c ∧
  ∀ x : Bool, (x = true ↔ if b = true then o > j else a.1 ≥ c.1) → Q (.bl x) μ
theorem sc_stays_no_shorter : FnScope ["window", "rows", "other", "at"] ["window", "rows", "other", "at"] (defScope s_stays_no_shorter) := ⟨rfl, rfl, rfl, by decide +kernel, rfl, by decide +kernel, by decide +kernel⟩
theorem ffE {C : Prop} (z : false = true) : C := nomatch z
theorem tfE {C : Prop} (z : true = false) : C := nomatch z
theorem ok_stays_no_shorter (T : Txt K mg C) : FnD P w K mg base 1 "stays_no_shorter" sp_stays_no_shorter := by
  refine TF.ok 0 T.f_stays_no_shorter sc_stays_no_shorter (fun ds μ Q ⟨_, _, _, _, _, _, _, _, _, _, h, _⟩ => by rw [h]; rfl) fun ds μ Q h => ?_
  obtain ⟨b, size, k, rows, hs, r, o, j, a, c, rfl, hr, ho, hj, ha, hc, q⟩ := h
  have go := held_get ho ha
  have gj := held_get hj hc
  cases b with
  | true =>
    refine wss_cons (ws_if (wt_cmp (h := we_sub (h := we_name 0 (q := we_int (wix_tup rfl (we_str (wo_eqS ⟨_, rfl, fun _ => ?_, fun z => (by exact tfE z)⟩))))))))
    exact wss_cons (ws_ret' (we_cmp (h := we_name 2 (q := we_name 3 (q := wo_gt (q _ (by rw [decide_eq_true_iff]; simp)))))))
  | false =>
    refine wss_cons (ws_if (wt_cmp (h := we_sub (h := we_name 0 (q := we_int (wix_tup rfl (we_str (wo_eqS ⟨_, rfl, fun z => (by exact ffE z), fun _ => wss_nil ?_⟩))))))))
    refine wss_cons (ws_ret' (we_cmp (h := we_sub (h := we_dget (h := we_name 1 (q := we_name 2 (q := ⟨r, _, .inl (o : Int), _, rfl, rfl, hr, go, we_int (wix_tup rfl (we_sub (h := we_dget (h := we_name 1 (q := we_name 3 (q := ⟨r, _, .inl (j : Int), _, rfl, rfl, hr, gj, we_int (wix_tup rfl (wo_ge (q _ ?_)))⟩))))))⟩)))))))
    rw [decide_eq_true_iff]; simp
def sp_goes_ahead : DSp := fun ds μ Q => ∃ (b : Bool) (size k : Int) (rows : List Row) (hs : List Nat) (r : Addr) (o j : Nat), ds = [encW b size k, .loc r, .int o, .int j] ∧ μ r = some (.dct (heldK rows hs)) ∧ o ∈ hs ∧ j ∈ hs ∧ o < rows.length ∧ j < rows.length ∧ Q (.bl (aheadB b rows o j)) μ
theorem sc_goes_ahead : FnScope ["window", "rows", "other", "at"] ["window", "rows", "other", "at"] (defScope s_goes_ahead) := ⟨rfl, rfl, rfl, by decide +kernel, rfl, by decide +kernel, by decide +kernel⟩
theorem ok_goes_ahead (T : Txt K mg C) : FnD P w K mg base 2 "goes_ahead" sp_goes_ahead := by
  refine TF.ok 1 T.f_goes_ahead sc_goes_ahead (fun ds μ Q ⟨_, _, _, _, _, _, _, _, h, _⟩ => by rw [h]; rfl) fun ds μ Q h => ?_
  obtain ⟨b, size, k, rows, hs, r, o, j, rfl, hr, ho, hj, hol, hjl, q⟩ := h
  have ha := List.getElem?_eq_getElem hol
  have hc := List.getElem?_eq_getElem hjl
  generalize rows[o] = a at ha
  generalize rows[j] = c at hc
  have go := held_get ho ha
  have gj := held_get hj hc
  rw [ahead_at ha hc] at q
  have no : ¬ (o ≠ j ∧ a.2.1 = c.2.1 ∧ (if b = true then o > j else a.1 ≥ c.1) ∧ (if a.2.2 ≠ c.2.2 then a.2.2 > c.2.2 else o > j)) → Q (.bl false) μ := fun h => by rw [decide_eq_false h] at q; exact q
  refine wss_cons (ws_if (wt_ww (ww_or (wt_cmp (h := we_name 2 (q := we_name 3 (q := wo_eqI ⟨_, rfl, fun hk => ?_, fun hk => ⟨fun _ => wss_cons (ws_ret' (we_bl (no ?_))), fun z => (nomatch z)⟩⟩)))))))
  · have k1 := of_decide_eq_false hk
    refine ww_or (wt_cmp (h := we_sub (h := we_dget (h := we_name 1 (q := we_name 2 (q := ⟨r, _, .inl (o : Int), _, rfl, rfl, hr, go, we_int (wix_tup rfl (we_sub (h := we_dget (h := we_name 1 (q := we_name 3 (q := ⟨r, _, .inl (j : Int), _, rfl, rfl, hr, gj, we_int (wix_tup rfl (wo_neI ⟨_, rfl, fun hk2 => ?_, fun hk2 => ⟨fun _ => wss_cons (ws_ret' (we_bl (no ?_))), fun z => (nomatch z)⟩⟩))⟩))))))⟩))))))
    · have k2 : a.2.1 = c.2.1 := by simpa using hk2
      refine ww_or1 (wt_not (wt_val (h := we_call (ok_stays_no_shorter T) (h := wa_cons (h := we_name 0 (q := wa_cons (h := we_name 1 (q := wa_cons (h := we_name 2 (q := wa_cons (h := we_name 3 (q := wa_nil ⟨b, size, k, rows, hs, r, o, j, a, c, rfl, hr, ho, hj, ha, hc, fun x hx => ⟨x, rfl, fun z => wss_cons (ws_ret' (we_bl (no ?_))), fun z => wss_nil ?_⟩⟩))))))))))))
      · rintro ⟨_, _, g, _⟩
        rw [hx.mpr g] at z; cases z
      · have k3 : x = true := by cases x with
          | true => rfl
          | false => cases z
        have k3' := hx.mp k3
        refine wss_cons (ws_if (wt_cmp (h := we_sub (h := we_dget (h := we_name 1 (q := we_name 2 (q := ⟨r, _, .inl (o : Int), _, rfl, rfl, hr, go, we_int (wix_tup rfl (we_sub (h := we_dget (h := we_name 1 (q := we_name 3 (q := ⟨r, _, .inl (j : Int), _, rfl, rfl, hr, gj, we_int (wix_tup rfl (wo_neI ⟨_, rfl, fun hk4 => ?_, fun hk4 => wss_nil ?_⟩))⟩))))))⟩)))))))
        · have k4 : a.2.2 ≠ c.2.2 := by simpa using hk4
          refine wss_cons (ws_ret' (we_cmp (h := we_sub (h := we_dget (h := we_name 1 (q := we_name 2 (q := ⟨r, _, .inl (o : Int), _, rfl, rfl, hr, go, we_int (wix_tup rfl (we_sub (h := we_dget (h := we_name 1 (q := we_name 3 (q := ⟨r, _, .inl (j : Int), _, rfl, rfl, hr, gj, we_int (wix_tup rfl (wo_gt ?_))⟩))))))⟩)))))))
          have : decide (o ≠ j ∧ a.2.1 = c.2.1 ∧ (if b = true then o > j else a.1 ≥ c.1) ∧ (if a.2.2 ≠ c.2.2 then a.2.2 > c.2.2 else o > j)) = decide (a.2.2 > c.2.2) := decide_eq_decide.mpr (by
            rw [if_pos k4]
            exact ⟨fun z => z.2.2.2, fun z => ⟨by omega, k2, k3', z⟩⟩)
          rw [this] at q; exact q
        · have k4 : a.2.2 = c.2.2 := by simpa using hk4
          refine wss_cons (ws_ret' (we_cmp (h := we_name 2 (q := we_name 3 (q := wo_gt ?_)))))
          have : decide (o ≠ j ∧ a.2.1 = c.2.1 ∧ (if b = true then o > j else a.1 ≥ c.1) ∧ (if a.2.2 ≠ c.2.2 then a.2.2 > c.2.2 else o > j)) = decide ((o : Int) > (j : Int)) := decide_eq_decide.mpr (by
            rw [if_neg (show ¬ (a.2.2 ≠ c.2.2) from fun z => z k4)]
            exact ⟨fun z => by have := z.2.2.2; omega, fun z => ⟨by omega, k2, k3', by omega⟩⟩)
          rw [this] at q; exact q
    · have : ¬ a.2.1 = c.2.1 := by simpa using hk2
      rintro ⟨_, g, _⟩
      exact this g
  · have := of_decide_eq_true hk
    rintro ⟨g, _⟩
    exact g (by omega)
def sp_worth_keeping : DSp := fun ds μ Q => ∃ (b : Bool) (size k : Int) (rows : List Row) (hs : List Nat) (r : Addr), ds = [encW b size k, .loc r, .lst (nD hs)] ∧ μ r = some (.dct (heldK rows hs)) ∧ hs.length ≤ 10000 ∧ 0 ≤ k ∧ (∀ j ∈ hs, j < rows.length) ∧
  Q (.lst (nD (hs.filter fun j => decide ((hs.filter fun o => aheadB b rows o j).length < k.toNat)))) μ
theorem sc_worth_keeping : FnScope ["window", "rows", "positions", "found", "at", "ahead", "other"] ["window", "rows", "positions"] (defScope s_worth_keeping) := ⟨rfl, rfl, rfl, by decide +kernel, rfl, by decide +kernel, by decide +kernel⟩
theorem ok_worth_keeping (T : Txt K mg C) : FnD P w K mg base 3 "worth_keeping" sp_worth_keeping := by
  refine TF.ok 2 T.f_worth_keeping sc_worth_keeping (fun ds μ Q ⟨_, _, _, _, _, _, h, _⟩ => by rw [h]; rfl) fun ds μ Q h => ?_
  obtain ⟨b, size, k, rows, hs, r, rfl, hr, hl, hk0, hlt, q⟩ := h
  refine wss_cons (ws_set 3 (h := we_lstM (wa_nil ⟨szb rfl, fun p hp => ?_⟩)))
  have hpr : r ≠ p := fun z => by subst z; rw [hr] at hp; cases hp
  refine wss_cons (ws_for (h := wi_lst (we_name 2 (q := ⟨_, rfl, ?_⟩))))
  refine ⟨[4], fun i ρ μ' => ∃ o1 o2 o3, ρ = [some (encW b size k), some (.loc r), some (.lst (nD hs)), some (.loc p), o1, o2, o3] ∧ μ' = μ.upd p (.lst (nD ((hs.take i).filter fun j => decide ((hs.filter fun o => aheadB b rows o j).length < k.toNat)))), ⟨none, none, none, rfl, rfl⟩, ?_, ?_⟩
  · rintro i d ρ μ' hd ⟨o1, o2, o3, rfl, rfl⟩
    obtain ⟨j, hj, rfl⟩ := getE hd
    have hjm := List.mem_of_getElem? hj
    refine wg_name 4 (q := ?_)
    refine wss_cons (ws_setLc 5 [("other", 6)] (h := wi_lst (we_name 2 (q := ⟨_, rfl, ?_⟩))))
    refine LcHyp.fm hs (fun i : Nat => .int i) (fun o => aheadB b rows o j) (fun i : Nat => .int i) [6] (by simp) (szM (by omega)) (fun o n ho => ?_) ?_
    · have hom := List.mem_of_getElem? ho
      exact wg_name 6 (q := wts_one (wt_val (h := we_call (ok_goes_ahead T) (h := wa_cons (h := we_name 0 (q := wa_cons (h := we_name 1 (q := wa_cons (h := we_name 6 (q := wa_cons (h := we_name 4 (q := wa_nil ⟨b, size, k, rows, hs, r, o, j, rfl, by rw [Mem.upd_ne hpr]; exact hr, hom, hjm, hlt o hom, hlt j hjm, _, rfl, rfl, rfl, fun _ => we_name 6 (q := ⟨rfl, rfl⟩)⟩))))))))))))
    have htk : hs.take (i + 1) = hs.take i ++ [j] := take_snoc hj
    refine wss_cons (ws_if (wt_cmp (h := we_callB bt_len T.b_len (h := wa_cons (h := we_name 5 (q := wa_nil (wc_len_lst (we_sub (h := we_name 0 (q := we_int (wix_tup rfl (wo_lt ⟨_, rfl, fun hk => ?_, fun hk => ?_⟩))))))))))))
    · have hk' := of_decide_eq_true hk
      rw [List.length_map] at hk'
      refine wss_cons (ws_expr (h := we_lm PySem.F.slot_list_append PySem.F.type_list_append (h := we_name 3 (q := ⟨_, _, rfl, Mem.upd_same, wa_cons (h := we_name 4 (q := wa_nil (wm_append Mem.upd_same ?_ (wss_nil (wss_nil ⟨_, _, _, rfl, ?_⟩)))))⟩))))
      · rw [List.length_map, sizeLine_eq]
        have := List.length_filter_le (fun j => decide ((hs.filter fun o => aheadB b rows o j).length < k.toNat)) (hs.take i)
        have : (hs.take i).length ≤ hs.length := by rw [List.length_take]; omega
        omega
      · rw [Mem.upd_upd, htk, List.filter_append]
        have : ([j].filter fun j => decide ((hs.filter fun o => aheadB b rows o j).length < k.toNat)) = [j] := by
          rw [List.filter_cons, if_pos (decide_eq_true (by omega))]; rfl
        rw [this]; simp only [nD, List.map_append]; rfl
    · have hk' := of_decide_eq_false hk
      rw [List.length_map] at hk'
      refine wss_nil (wss_nil ⟨_, _, _, rfl, ?_⟩)
      rw [htk, List.filter_append]
      have : ([j].filter fun j => decide ((hs.filter fun o => aheadB b rows o j).length < k.toNat)) = [] := by
        rw [List.filter_cons, if_neg (by rw [decide_eq_true_iff]; omega)]; rfl
      rw [this, List.append_nil]
  · rintro ρ μ' ⟨o1, o2, o3, rfl, rfl⟩
    rw [List.length_map, List.take_length]
    refine wss_freeze 3 rfl Mem.upd_same ?_
    rw [Mem.del_upd hp]
    exact wss_cons (ws_ret' (we_name 3 (q := q)))
end K76
namespace K76
open PySem L2 DL Win
variable {P : Program} {w : World} {K : PySem.W.Frag} {mg : Str → Option Value} {base : Heap} {C : Addr}

/-! ### stairs -/
abbrev stF (b : Bool) (size k clock seen : Int) (h : Addr) : List (Str × D) := [("window", encW b size k), ("clock", .int clock), ("seen", .int seen), ("held", .loc h)]
theorem putHit (f : Str) (v x : D) (r : List (Str × D)) : putFD f v ((f, x) :: r) = (f, v) :: r := by
  show (if f = f then _ else _) = _
  rw [if_pos rfl]
theorem putMiss {f g : Str} (h : ¬ g = f) (v x : D) (r : List (Str × D)) : putFD f v ((g, x) :: r) = (g, x) :: putFD f v r := by
  show (if g = f then _ else _) = _
  rw [if_neg h]
abbrev stA (d : D) : List (Str × D) := [("window", d)]
abbrev stB (d e : D) : List (Str × D) := [("window", d), ("clock", e)]
abbrev stC (d e f : D) : List (Str × D) := [("window", d), ("clock", e), ("seen", f)]
abbrev stE (d e f g : D) : List (Str × D) := [("window", d), ("clock", e), ("seen", f), ("held", g)]
theorem put_window (d : D) : putFD "window" d [] = stA d := rfl
theorem put_clock (d e : D) : putFD "clock" e (stA d) = stB d e := by
  rw [putMiss (by decide +kernel)]; rfl
theorem put_seen (d e f : D) : putFD "seen" f (stB d e) = stC d e f := by
  rw [putMiss (by decide +kernel), putMiss (by decide +kernel)]; rfl
theorem put_held (d e f g : D) : putFD "held" g (stC d e f) = stE d e f g := by
  rw [putMiss (by decide +kernel), putMiss (by decide +kernel), putMiss (by decide +kernel)]; rfl
theorem set_clock (b : Bool) (size k c c' n : Int) (h : Addr) : putFD "clock" (.int c') (stF b size k c n h) = stF b size k c' n h := by
  rw [putMiss (by decide +kernel), putHit]
theorem set_seen (b : Bool) (size k c n n' : Int) (h : Addr) : putFD "seen" (.int n') (stF b size k c n h) = stF b size k c n' h := by
  rw [putMiss (by decide +kernel), putMiss (by decide +kernel), putHit]
def sp_Stairs___init__ (C : Addr) : DSp := fun ds μ Q => ∃ (z : Addr) (b : Bool) (size k : Int), ds = [.loc z, encW b size k] ∧ μ z = some (.ins C []) ∧
  ∀ h μ', μ h = none → h ≠ z → μ' z = some (.ins C (stF b size k 0 0 h)) → μ' h = some (.dct []) → (∀ a, a ≠ z → a ≠ h → μ' a = μ a) → Q .non μ'
theorem sc_Stairs___init__ : FnScope ["self", "window"] ["self", "window"] (defScope s_Stairs___init__) := ⟨rfl, rfl, rfl, by decide +kernel, rfl, by decide +kernel, by decide +kernel⟩
theorem ok_Stairs___init__ (T : Txt K mg C) : FnM P w K mg base 1 C "__init__" (sp_Stairs___init__ C) := by
  refine MT.ok 0 T.m_Stairs___init__ sc_Stairs___init__ (fun ds μ Q ⟨_, _, _, _, h, _⟩ => by rw [h]; rfl) fun ds μ Q h => ?_
  obtain ⟨z, b, size, k, rfl, hz, q⟩ := h
  refine wss_cons (ws_fld T.k_Stairs.cl T.n_Stairs_window (h := we_name 1 (q := we_name 0 (q := ⟨z, _, rfl, hz, by show 0 < 1000; decide, ?_⟩))))
  rw [put_window]
  refine wss_cons (ws_fld T.k_Stairs.cl T.n_Stairs_clock (h := we_int (we_name 0 (q := ⟨z, _, rfl, Mem.upd_same, by show 1 < 1000; decide, ?_⟩))))
  rw [put_clock, Mem.upd_upd]
  refine wss_cons (ws_fld T.k_Stairs.cl T.n_Stairs_seen (h := we_int (we_name 0 (q := ⟨z, _, rfl, Mem.upd_same, by show 2 < 1000; decide, ?_⟩))))
  rw [put_seen, Mem.upd_upd]
  refine wss_cons (ws_fld T.k_Stairs.cl T.n_Stairs_held (h := we_dctM (fun h hh => ?_)))
  have hne : h ≠ z := fun e => by subst e; rw [Mem.upd_same] at hh; cases hh
  rw [Mem.upd_ne hne] at hh
  refine we_name 0 (q := ⟨z, _, rfl, (Mem.upd_ne hne.symm).trans Mem.upd_same, by show 3 < 1000; decide, ?_⟩)
  rw [put_held]
  refine wss_nil (q h _ hh hne ?_ ?_ fun a h1 h2 => ?_)
  · rw [Mem.upd_same]
  · rw [Mem.upd_ne hne, Mem.upd_same]
  · rw [Mem.upd_ne h1, Mem.upd_ne h2, Mem.upd_ne h1]

/-- the object and its dict, which holds the rows of these places -/
structure ObjAt (C : Addr) (b : Bool) (size k : Int) (es : List Ent) (rows : List Row) (hs : List Nat) (z h : Addr) (μ : Mem) : Prop where
  obj : μ z = some (.ins C (stF b size k (clockF 0 es) ((rowsF 0 es).length : Nat) h))
  dct : μ h = some (.dct (heldK rows hs))
  ne : h ≠ z

def sp_Stairs_is_inside (C : Addr) : DSp := fun ds μ Q => ∃ (z h : Addr) (b : Bool) (size k : Int) (es : List Ent) (hs : List Nat) (j : Nat), ds = [.loc z, .int j] ∧ ObjAt C b size k es (rowsF 0 es) hs z h μ ∧ j ∈ hs ∧ j < (rowsF 0 es).length ∧ Q (.bl (inB (agedF b es) size j)) μ
theorem sc_Stairs_is_inside : FnScope ["self", "at"] ["self", "at"] (defScope s_Stairs_is_inside) := ⟨rfl, rfl, rfl, by decide +kernel, rfl, by decide +kernel, by decide +kernel⟩
theorem ok_Stairs_is_inside (T : Txt K mg C) : FnM P w K mg base 1 C "is_inside" (sp_Stairs_is_inside C) := by
  refine MT.ok 0 T.m_Stairs_is_inside sc_Stairs_is_inside (fun ds μ Q ⟨_, _, _, _, _, _, _, _, h, _⟩ => by rw [h]; rfl) fun ds μ Q h => ?_
  obtain ⟨z, h, b, size, k, es, hs, j, rfl, O, hj, hjl, q⟩ := h
  obtain ⟨r, s, h1, h2, h3⟩ := aged_rows_at (b := b) (es := es) hjl
  rw [in_at h1] at q
  cases b with
  | true =>
    refine wss_cons (ws_if (wt_cmp (h := we_sub (h := we_fld T.k_Stairs.cl T.n_Stairs_window (h := we_name 0 (q := ⟨z, _, _, rfl, O.obj, rfl, we_int (wix_tup rfl (we_str (wo_eqS ⟨_, rfl, fun _ => ?_, fun z => (by exact tfE z)⟩)))⟩))))))
    refine wss_cons (ws_ret' (we_cmp (h := we_name 1 (q := we_bin (we_fld T.k_Stairs.cl T.n_Stairs_seen (h := we_name 0 (q := ⟨z, _, _, rfl, O.obj, rfl, we_sub (h := we_fld T.k_Stairs.cl T.n_Stairs_window (h := we_name 0 (q := ⟨z, _, _, rfl, O.obj, rfl, we_int (wix_tup rfl (wo_sub (wo_ge ?_)))⟩)))⟩)))))))
    have a1 := aged_age_rows es j r h1
    have a2 := aged_len true es 0
    have : decide (r.1 < size) = decide ((j : Int) ≥ ((rowsF 0 es).length : Nat) - size) := decide_eq_decide.mpr (by omega)
    rw [this] at q; exact q
  | false =>
    refine wss_cons (ws_if (wt_cmp (h := we_sub (h := we_fld T.k_Stairs.cl T.n_Stairs_window (h := we_name 0 (q := ⟨z, _, _, rfl, O.obj, rfl, we_int (wix_tup rfl (we_str (wo_eqS ⟨_, rfl, fun z => (by exact ffE z), fun _ => wss_nil ?_⟩)))⟩))))))
    refine wss_cons (ws_ret' (we_cmp (h := we_sub (h := we_dget (h := we_fld T.k_Stairs.cl T.n_Stairs_held (h := we_name 0 (q := ⟨z, _, _, rfl, O.obj, rfl, we_name 1 (q := ⟨h, _, .inl (j : Int), _, rfl, rfl, O.dct, held_get hj h2, we_int (wix_tup rfl (we_bin (we_fld T.k_Stairs.cl T.n_Stairs_clock (h := we_name 0 (q := ⟨z, _, _, rfl, O.obj, rfl, we_sub (h := we_fld T.k_Stairs.cl T.n_Stairs_window (h := we_name 0 (q := ⟨z, _, _, rfl, O.obj, rfl, we_int (wix_tup rfl (wo_sub (wo_gt ?_)))⟩)))⟩)))))⟩)⟩)))))))
    have a1 := aged_age_ticks es 0 j r s h1 h2
    have : decide (r.1 < size) = decide (s.1 > clockF 0 es - size) := decide_eq_decide.mpr (by omega)
    rw [this] at q; exact q

theorem intsN_sorted {hs : List Nat} (h : hs.Pairwise (· < ·)) {ms : List Int} (hp : ms.Perm (intsN hs)) (hm : ms.Pairwise (· ≤ ·)) : ms = intsN hs := by
  rw [sortA_of hp hm]
  refine (sortA_of (.refl _) ?_).symm
  rw [List.pairwise_map]
  exact h.imp fun {x y} h => by omega
theorem nD_intsN (hs : List Nat) : nD hs = (intsN hs).map D.int := by rw [List.map_map]; rfl
theorem keys_nD (rows : List Row) (hs : List Nat) : (heldK rows hs).map (fun kv => keyD kv.1) = nD hs := by
  unfold heldK; rw [List.map_map, nD_intsN]; rfl
theorem sub_lt {n : Nat} {hs : List Nat} (h : hs.Sublist (List.range n)) : hs.Pairwise (· < ·) := List.Pairwise.sublist h List.pairwise_lt_range
theorem filter_drop {hs : List Nat} {i j : Nat} (hn : hs.Nodup) (hj : hs[i]? = some j) (p : Nat → Bool) : ((hs.take i).filter p ++ hs.drop i).filter (fun x => decide (x ≠ j)) = (hs.take i).filter p ++ hs.drop (i + 1) := by
  have hi : i < hs.length := by
    by_cases z : i < hs.length
    · exact z
    · rw [List.getElem?_eq_none (by omega)] at hj; cases hj
  have ej : hs[i] = j := by rw [List.getElem?_eq_getElem hi] at hj; exact Option.some.inj hj
  have hd : hs.drop i = j :: hs.drop (i + 1) := by rw [List.drop_eq_getElem_cons hi, ej]
  have hsp : hs = hs.take i ++ (j :: hs.drop (i + 1)) := by rw [← hd, List.take_append_drop]
  rw [hsp] at hn
  obtain ⟨n1, n2, n3⟩ := List.nodup_append.mp hn
  have n4 := List.nodup_cons.mp n2
  rw [List.filter_append, hd, List.filter_cons, if_neg (by simp)]
  congr 1
  · rw [List.filter_filter]
    refine List.filter_congr fun x hx => ?_
    have : x ≠ j := n3 x hx j (by simp)
    simp [this]
  · refine List.filter_eq_self.mpr fun x hx => ?_
    have : x ≠ j := fun z => n4.1 (z ▸ hx)
    simp [this]
theorem filter_next {hs : List Nat} {i j : Nat} (hj : hs[i]? = some j) (p : Nat → Bool) : (hs.take (i + 1)).filter p ++ hs.drop (i + 1) = if p j = true then (hs.take i).filter p ++ hs.drop i else (hs.take i).filter p ++ hs.drop (i + 1) := by
  have hi : i < hs.length := by
    by_cases z : i < hs.length
    · exact z
    · rw [List.getElem?_eq_none (by omega)] at hj; cases hj
  have ej : hs[i] = j := by rw [List.getElem?_eq_getElem hi] at hj; exact Option.some.inj hj
  have hd : hs.drop i = j :: hs.drop (i + 1) := by rw [List.drop_eq_getElem_cons hi, ej]
  rw [take_snoc hj, List.filter_append]
  by_cases h : p j = true
  · have : [j].filter p = [j] := by simp [h]
    rw [if_pos h, this, hd, List.append_assoc]; rfl
  · have : [j].filter p = [] := by simp [h]
    rw [if_neg h, this, List.append_nil]
/-- forget: what is not inside, then what is not worth keeping -/
def sp_Stairs_forget (C : Addr) : DSp := fun ds μ Q => ∃ (z h : Addr) (b : Bool) (size k : Int) (es : List Ent) (hs : List Nat), ds = [.loc z] ∧ ObjAt C b size k es (rowsF 0 es) hs z h μ ∧ hs.Sublist (List.range (rowsF 0 es).length) ∧ hs.length < 64 ∧ 0 ≤ k ∧
  (∀ j, j < (agedF b es).length → keptB k.toNat size (agedF b es) j = true → j ∈ hs) ∧ Q .non (μ.upd h (.dct (heldK (rowsF 0 es) (keptF k.toNat size (agedF b es)))))
theorem sc_Stairs_forget : FnScope ["self", "at", "keep"] ["self"] (defScope s_Stairs_forget) := ⟨rfl, rfl, rfl, by decide +kernel, rfl, by decide +kernel, by decide +kernel⟩
theorem ok_Stairs_forget (T : Txt K mg C) : FnM P w K mg base 4 C "forget" (sp_Stairs_forget C) := by
  refine MT.ok 3 T.m_Stairs_forget sc_Stairs_forget (fun ds μ Q ⟨_, _, _, _, _, _, _, h, _⟩ => by rw [h]; rfl) fun ds μ Q h => ?_
  obtain ⟨z, h, b, size, k, es, hs, rfl, O, hsub, h64, hk0, hkeep, q⟩ := h
  have hne := O.ne
  have hnd : hs.Nodup := hsub.nodup List.nodup_range
  have hlt : ∀ j ∈ hs, j < (rowsF 0 es).length := fun j hj => List.mem_range.mp (hsub.subset hj)
  have hal := aged_len b es 0
  -- what is not inside
  refine wss_cons (ws_for (h := wi_lst (we_callT bt_list T.b_list (h := wa_cons (h := we_fld T.k_Stairs.cl T.n_Stairs_held (h := we_name 0 (q := ⟨z, _, _, rfl, O.obj, rfl, wa_nil (wc_listD O.dct ⟨_, rfl, ?_⟩)⟩)))))))
  rw [keys_nD]
  have upd_self : ∀ {μ : Mem} {a : Addr} {o : MO}, μ a = some o → μ.upd a o = μ := fun {μ a o} e => by
    funext x
    by_cases hx : x = a
    · subst hx; rw [Mem.upd_same, e]
    · rw [Mem.upd_ne hx]
  refine ⟨[1], fun i ρ μ' => ∃ o1, ρ = [some (.loc z), o1, none] ∧ μ' = μ.upd h (.dct (heldK (rowsF 0 es) ((hs.take i).filter (inB (agedF b es) size) ++ hs.drop i))), ⟨none, rfl, by simp [upd_self O.dct]⟩, ?_, ?_⟩
  · rintro i d ρ μ' hd ⟨o1, rfl, rfl⟩
    obtain ⟨j, hj, rfl⟩ := getE hd
    have hjm := List.mem_of_getElem? hj
    have hi : i < hs.length := by
      by_cases z : i < hs.length
      · exact z
      · rw [List.getElem?_eq_none (by omega)] at hj; cases hj
    have hmem : j ∈ (hs.take i).filter (inB (agedF b es) size) ++ hs.drop i := List.mem_append.mpr (.inr (by
      rw [List.getElem?_eq_getElem hi] at hj
      rw [List.drop_eq_getElem_cons hi, Option.some.inj hj]; simp))
    have O' : ObjAt C b size k es (rowsF 0 es) ((hs.take i).filter (inB (agedF b es) size) ++ hs.drop i) z h (μ.upd h (.dct (heldK (rowsF 0 es) ((hs.take i).filter (inB (agedF b es) size) ++ hs.drop i)))) := ⟨by rw [Mem.upd_ne hne.symm]; exact O.obj, Mem.upd_same, hne⟩
    refine wg_name 1 (q := ?_)
    have hN := filter_next hj (inB (agedF b es) size)
    refine wss_cons (ws_if (wt_not (wt_val (h := we_meth T.k_Stairs.cl (ok_Stairs_is_inside T) (h := we_name 0 (q := ⟨z, _, rfl, O'.obj, rfl, wa_cons (h := we_name 1 (q := wa_nil ⟨z, h, b, size, k, es, _, j, rfl, O', hmem, hlt j hjm, _, rfl, fun hk => ?_, fun hk => ?_⟩))⟩))))))
    · have hk' : ¬ inB (agedF b es) size j = true := by simpa using hk
      rw [if_neg hk'] at hN
      refine wss_cons (ws_ddel (we_fld T.k_Stairs.cl T.n_Stairs_held (h := we_name 0 (q := ⟨z, _, _, rfl, O'.obj, rfl, we_name 1 (q := ⟨h, _, .inl (j : Int), rfl, rfl, O'.dct, ?_, ?_⟩)⟩))))
      · rw [held_get hmem (List.getElem?_eq_getElem (hlt j hjm))]; rfl
      · refine wss_nil (wss_nil ⟨_, rfl, ?_⟩)
        rw [Mem.upd_upd, held_del, filter_drop hnd hj, hN]
    · have hk' : inB (agedF b es) size j = true := by simpa using hk
      rw [if_pos hk'] at hN
      refine wss_nil (wss_nil ⟨_, rfl, ?_⟩)
      rw [hN]
  rintro ρ μ' ⟨o1, rfl, rfl⟩
  rw [List.length_map, List.take_length, List.drop_length, List.append_nil]
  have hsub2 : (hs.filter (inB (agedF b es) size)).Sublist hs := List.filter_sublist
  have hsub3 := hsub2.trans hsub
  have hlen2 := hsub2.length_le
  have hfin := kept_of (k := k.toNat) (size := size) (R := agedF b es) (hs := hs) (by rw [hal]; exact hsub) hkeep
  generalize hs.filter (inB (agedF b es) size) = hi at hsub2 hsub3 hlen2 hfin
  have hlt2 : ∀ j ∈ hi, j < (rowsF 0 es).length := fun j hj => List.mem_range.mp (hsub3.subset hj)
  have hnd2 : hi.Nodup := hsub3.nodup List.nodup_range
  have O2 : ObjAt C b size k es (rowsF 0 es) hi z h (μ.upd h (.dct (heldK (rowsF 0 es) hi))) := ⟨by rw [Mem.upd_ne hne.symm]; exact O.obj, Mem.upd_same, hne⟩
  refine wss_cons (ws_set 2 (h := we_call (ok_worth_keeping T) (h := wa_cons (h := we_fld T.k_Stairs.cl T.n_Stairs_window (h := we_name 0 (q := ⟨z, _, _, rfl, O2.obj, rfl, wa_cons (h := we_fld T.k_Stairs.cl T.n_Stairs_held (h := we_name 0 (q := ⟨z, _, _, rfl, O2.obj, rfl, wa_cons (h := we_callB bt_sorted T.b_sorted (h := wa_cons (h := we_fld T.k_Stairs.cl T.n_Stairs_held (h := we_name 0 (q := ⟨z, _, _, rfl, O2.obj, rfl, wa_nil (wc_sortedD O2.dct (held_keys _ _) (by rw [List.length_map]; omega) fun ms hp hs => wa_nil ?_)⟩)))))⟩)))⟩))))))
  obtain rfl := intsN_sorted (sub_lt hsub3) hp hs
  rw [← nD_intsN]
  refine ⟨b, size, k, rowsF 0 es, hi, h, rfl, O2.dct, by omega, hk0, hlt2, ?_⟩
  have e1 : hi.filter (fun j => decide ((hi.filter fun o => aheadB b (rowsF 0 es) o j).length < k.toNat)) = keptF k.toNat size (agedF b es) := by
    rw [← hfin]
    refine List.filter_congr fun j hj => ?_
    have : (hi.filter fun o => aheadB b (rowsF 0 es) o j) = hi.filter fun o => goesB (agedF b es) o j := List.filter_congr fun o ho => ahead_goes (hlt2 o ho) (hlt2 j hj)
    rw [this]
  rw [e1]
  have hkm : ∀ j ∈ hi, (!decide (j ∈ keptF k.toNat size (agedF b es))) = !keptB k.toNat size (agedF b es) j := fun j hj => by rw [keptF_mem (by rw [hal]; exact hlt2 j hj)]
  have e2 : hi.filter (keptB k.toNat size (agedF b es)) = keptF k.toNat size (agedF b es) := by
    have hs4 : (keptF k.toNat size (agedF b es)).Sublist hi := by rw [← hfin]; exact List.filter_sublist
    rw [sub_filter hs4 hnd2]
    refine List.filter_congr fun j hj => (keptF_mem (by rw [hal]; exact hlt2 j hj)).symm
  -- what is not worth keeping
  refine wss_cons (ws_for (h := wi_lst (we_callT bt_list T.b_list (h := wa_cons (h := we_fld T.k_Stairs.cl T.n_Stairs_held (h := we_name 0 (q := ⟨z, _, _, rfl, O2.obj, rfl, wa_nil (wc_listD O2.dct ⟨_, rfl, ?_⟩)⟩)))))))
  rw [keys_nD]
  refine ⟨[1], fun i ρ μ' => ∃ o1, ρ = [some (.loc z), o1, some (.lst (nD (keptF k.toNat size (agedF b es))))] ∧ μ' = μ.upd h (.dct (heldK (rowsF 0 es) ((hi.take i).filter (keptB k.toNat size (agedF b es)) ++ hi.drop i))), ⟨_, rfl, by simp⟩, ?_, ?_⟩
  · rintro i d ρ μ' hd ⟨o1, rfl, rfl⟩
    obtain ⟨j, hj, rfl⟩ := getE hd
    have hjm := List.mem_of_getElem? hj
    have hi' : i < hi.length := by
      by_cases z : i < hi.length
      · exact z
      · rw [List.getElem?_eq_none (by omega)] at hj; cases hj
    have hmem : j ∈ (hi.take i).filter (keptB k.toNat size (agedF b es)) ++ hi.drop i := List.mem_append.mpr (.inr (by
      rw [List.getElem?_eq_getElem hi'] at hj
      rw [List.drop_eq_getElem_cons hi', Option.some.inj hj]; simp))
    have O' : ObjAt C b size k es (rowsF 0 es) ((hi.take i).filter (keptB k.toNat size (agedF b es)) ++ hi.drop i) z h (μ.upd h (.dct (heldK (rowsF 0 es) ((hi.take i).filter (keptB k.toNat size (agedF b es)) ++ hi.drop i)))) := ⟨by rw [Mem.upd_ne hne.symm]; exact O.obj, Mem.upd_same, hne⟩
    refine wg_name 1 (q := ?_)
    have hN := filter_next hj (keptB k.toNat size (agedF b es))
    refine wss_cons (ws_if (wt_cmp (h := we_name 1 (q := we_name 2 (q := wo_inI true (.inr ⟨rfl, rfl⟩) (.inl (by rw [nD_intsN])) ⟨_, rfl, fun hk => ?_, fun hk => ?_⟩)))))
    · have hk' : ¬ keptB k.toNat size (agedF b es) j = true := by
        rw [if_pos rfl] at hk
        have e3 : decide ((j : Int) ∈ intsN (keptF k.toNat size (agedF b es))) = decide (j ∈ keptF k.toNat size (agedF b es)) := decide_eq_decide.mpr mem_intsN
        rw [e3, hkm j hjm] at hk
        simpa using hk
      rw [if_neg hk'] at hN
      refine wss_cons (ws_ddel (we_fld T.k_Stairs.cl T.n_Stairs_held (h := we_name 0 (q := ⟨z, _, _, rfl, O'.obj, rfl, we_name 1 (q := ⟨h, _, .inl (j : Int), rfl, rfl, O'.dct, ?_, ?_⟩)⟩))))
      · rw [held_get hmem (List.getElem?_eq_getElem (hlt2 j hjm))]; rfl
      · refine wss_nil (wss_nil ⟨_, rfl, ?_⟩)
        rw [Mem.upd_upd, held_del, filter_drop hnd2 hj, hN]
    · have hk' : keptB k.toNat size (agedF b es) j = true := by
        rw [if_pos rfl] at hk
        have e3 : decide ((j : Int) ∈ intsN (keptF k.toNat size (agedF b es))) = decide (j ∈ keptF k.toNat size (agedF b es)) := decide_eq_decide.mpr mem_intsN
        rw [e3, hkm j hjm] at hk
        simpa using hk
      rw [if_pos hk'] at hN
      refine wss_nil (wss_nil ⟨_, rfl, ?_⟩)
      rw [hN]
  rintro ρ μ' ⟨o1, rfl, rfl⟩
  rw [List.length_map, List.take_length, List.drop_length, List.append_nil, e2]
  exact wss_nil q

/-! ### tell, kept, feed -/
def sp_Stairs_tell (C : Addr) : DSp := fun ds μ Q => ∃ (z h : Addr) (b : Bool) (size k : Int) (es : List Ent) (hs : List Nat), ds = [.loc z] ∧ ObjAt C b size k es (rowsF 0 es) hs z h μ ∧ hs.Sublist (List.range (rowsF 0 es).length) ∧ hs.length < 64 ∧ 0 ≤ k ∧ (∀ e ∈ es, e.ok) ∧ Q (encT (toldK k.toNat (pick (rowsF 0 es) hs))) μ
theorem sc_Stairs_tell : FnScope ["self"] ["self"] (defScope s_Stairs_tell) := ⟨rfl, rfl, rfl, by decide +kernel, rfl, by decide +kernel, by decide +kernel⟩
theorem ok_Stairs_tell (T : Txt K mg C) : FnM P w K mg base 2 C "tell" (sp_Stairs_tell C) := by
  refine MT.ok 1 T.m_Stairs_tell sc_Stairs_tell (fun ds μ Q ⟨_, _, _, _, _, _, _, h, _⟩ => by rw [h]; rfl) fun ds μ Q h => ?_
  obtain ⟨z, h, b, size, k, es, hs, rfl, O, hsub, h64, hk0, hok, q⟩ := h
  refine wss_cons (ws_ret' (we_call (ok_told_lots T) (h := wa_cons (h := we_fld T.k_Stairs.cl T.n_Stairs_window (h := we_name 0 (q := ⟨z, _, _, rfl, O.obj, rfl, wa_cons (h := we_fld T.k_Stairs.cl T.n_Stairs_held (h := we_name 0 (q := ⟨z, _, _, rfl, O.obj, rfl, wa_cons (h := we_callB bt_sorted T.b_sorted (h := wa_cons (h := we_fld T.k_Stairs.cl T.n_Stairs_held (h := we_name 0 (q := ⟨z, _, _, rfl, O.obj, rfl, wa_nil (wc_sortedD O.dct (held_keys _ _) (by rw [List.length_map]; omega) fun ms hp hs => wa_nil ?_)⟩)))))⟩)))⟩))))))
  obtain rfl := intsN_sorted (sub_lt hsub) hp hs
  rw [← nD_intsN]
  exact ⟨b, size, k, rowsF 0 es, _, _, h, rfl, O.dct, by omega, hk0, fun j hj => hj, fun j hj => List.mem_range.mp (hsub.subset hj), rowsF_ok hok 0, q⟩
def sp_Stairs_kept (C : Addr) : DSp := fun ds μ Q => ∃ (z h : Addr) (b : Bool) (size k : Int) (es : List Ent) (hs : List Nat), ds = [.loc z] ∧ ObjAt C b size k es (rowsF 0 es) hs z h μ ∧ hs.Sublist (List.range (rowsF 0 es).length) ∧ hs.length < 64 ∧ Q (.tup (nD hs)) μ
theorem sc_Stairs_kept : FnScope ["self"] ["self"] (defScope s_Stairs_kept) := ⟨rfl, rfl, rfl, by decide +kernel, rfl, by decide +kernel, by decide +kernel⟩
theorem ok_Stairs_kept (T : Txt K mg C) : FnP P w K mg base 1 C "kept" (sp_Stairs_kept C) := by
  refine PrT.ok 0 T.m_Stairs_kept sc_Stairs_kept (fun ds μ Q ⟨_, _, _, _, _, _, _, h, _⟩ => by rw [h]; rfl) fun ds μ Q h => ?_
  obtain ⟨z, h, b, size, k, es, hs, rfl, O, hsub, h64, q⟩ := h
  refine wss_cons (ws_ret' (we_callT bt_tuple T.b_tuple (h := wa_cons (h := we_callB bt_sorted T.b_sorted (h := wa_cons (h := we_fld T.k_Stairs.cl T.n_Stairs_held (h := we_name 0 (q := ⟨z, _, _, rfl, O.obj, rfl, wa_nil (wc_sortedD O.dct (held_keys _ _) (by rw [List.length_map]; omega) fun ms hp hs => wa_nil (wc_tuple (.inl rfl) ?_))⟩))))))))
  obtain rfl := intsN_sorted (sub_lt hsub) hp hs
  rw [← nD_intsN]
  exact q
end K76
namespace K76
open PySem L2 DL Win
variable {P : Program} {w : World} {K : PySem.W.Frag} {mg : Str → Option Value} {base : Heap} {C : Addr}
abbrev keptE (b : Bool) (size k : Int) (es : List Ent) : List Nat := keptF k.toNat size (agedF b es)
abbrev Stair (C : Addr) (b : Bool) (size k : Int) (es : List Ent) (z h : Addr) (μ : Mem) : Prop := ObjAt C b size k es (rowsF 0 es) (keptE b size k es) z h μ
abbrev toldE (b : Bool) (size k : Int) (es : List Ent) : List (Int × List Int) := toldK k.toNat (pick (rowsF 0 es) (keptE b size k es))
theorem keptE_sub (b : Bool) (size k : Int) (es : List Ent) : (keptE b size k es).Sublist (List.range (rowsF 0 es).length) := by
  unfold keptE keptF
  rw [aged_len b es 0]
  exact List.filter_sublist

/-! ### feed -/
def sp_Stairs_feed (C : Addr) : DSp := fun ds μ Q => ∃ (z h : Addr) (b : Bool) (size k : Int) (es : List Ent) (e : Ent), ds = [.loc z, e.enc] ∧ Stair C b size k es z h μ ∧ (∀ x ∈ es, x.ok) ∧ e.ok ∧ 0 ≤ k ∧ (keptE b size k es).length < 60 ∧ (keptE b size k (es ++ [e])).length < 60 ∧
  ∀ μ', Stair C b size k (es ++ [e]) z h μ' → (∀ a, a ≠ z → a ≠ h → μ' a = μ a) → Q (encT (toldE b size k (es ++ [e]))) μ'
theorem sc_Stairs_feed : FnScope ["self", "entry"] ["self", "entry"] (defScope s_Stairs_feed) := ⟨rfl, rfl, rfl, by decide +kernel, rfl, by decide +kernel, by decide +kernel⟩
theorem ok_Stairs_feed (T : Txt K mg C) : FnM P w K mg base 5 C "feed" (sp_Stairs_feed C) := by
  refine MT.ok 4 T.m_Stairs_feed sc_Stairs_feed (fun ds μ Q ⟨_, _, _, _, _, _, _, h, _⟩ => by rw [h]; rfl) fun ds μ Q h => ?_
  obtain ⟨z, h, b, size, k, es, e, rfl, O, hok, hoe, hk0, h60, h60', q⟩ := h
  have hne := O.ne
  have hoka : ∀ x ∈ es ++ [e], x.ok := fun x hx => (List.mem_append.mp hx).elim (hok x) fun hx => by simp at hx; subst hx; exact hoe
  have hbe : 0 ≤ behindF b [e] := behind_nonneg fun x hx => by simp at hx; subst hx; exact hoe
  have ha := aged_append b es [e]
  have kb : ∀ j, j < (agedF b es).length → keptB k.toNat size (agedF b (es ++ [e])) j = true → j ∈ keptE b size k es := fun j hj hk => by
    rw [ha] at hk
    have := kept_before hbe hj hk
    have e1 := keptF_mem (k := k.toNat) (size := size) hj
    rw [this] at e1
    exact of_decide_eq_true e1
  have hal := aged_len b es 0
  -- the entry comes
  refine wss_mid (fun ρ1 μ1 => ∃ hs : List Nat, ρ1 = [some (.loc z), some e.enc] ∧ ObjAt C b size k (es ++ [e]) (rowsF 0 (es ++ [e])) hs z h μ1 ∧ hs.Sublist (List.range (rowsF 0 (es ++ [e])).length) ∧ hs.length < 64 ∧ (∀ j, j < (agedF b (es ++ [e])).length → keptB k.toNat size (agedF b (es ++ [e])) j = true → j ∈ hs) ∧ ∀ a, a ≠ z → a ≠ h → μ1 a = μ a) ?_ ?_
  · have hr := rowsF_snoc es e 0
    have hc := clockF_snoc es e 0
    cases e with
    | tick n =>
      refine ws_if (wt_cmp (h := we_sub (h := we_name 1 (q := we_int (wix_tup rfl (we_str (wo_eqS ⟨_, rfl, fun _ => ?_, fun z => (by exact tfE z)⟩)))))))
      refine wss_cons (ws_fld T.k_Stairs.cl T.n_Stairs_clock (h := we_bin (we_fld T.k_Stairs.cl T.n_Stairs_clock (h := we_name 0 (q := ⟨z, _, _, rfl, O.obj, rfl, we_sub (h := we_name 1 (q := we_int (wix_tup rfl (wo_add (we_name 0 (q := ⟨z, _, rfl, O.obj, by show 4 < 1000; decide, ?_⟩))))))⟩)))))
      rw [set_clock]
      refine wss_nil ⟨keptE b size k es, rfl, ⟨?_, ?_, hne⟩, ?_, by omega, fun j hj hk => ?_, fun a h1 h2 => Mem.upd_ne h1⟩
      · rw [Mem.upd_same, hr, hc, List.append_nil]
      · rw [Mem.upd_ne hne, hr, List.append_nil]; exact O.dct
      · rw [hr, List.append_nil]; exact keptE_sub b size k es
      · refine kb j ?_ hk
        rw [ha, List.length_append, List.length_map] at hj
        exact hj
    | row ky v =>
      refine ws_if (wt_cmp (h := we_sub (h := we_name 1 (q := we_int (wix_tup rfl (we_str (wo_eqS ⟨_, rfl, fun z => (by exact ffE z), fun _ => ?_⟩)))))))
      refine wss_cons (ws_dput (h := we_tup (wa_cons (h := we_fld T.k_Stairs.cl T.n_Stairs_clock (h := we_name 0 (q := ⟨z, _, _, rfl, O.obj, rfl, wa_cons (h := we_sub (h := we_name 1 (q := we_int (wix_tup rfl (wa_cons (h := we_sub (h := we_name 1 (q := we_int (wix_tup rfl (wa_nil ⟨szb rfl, we_fld T.k_Stairs.cl T.n_Stairs_held (h := we_name 0 (q := ⟨z, _, _, rfl, O.obj, rfl, we_fld T.k_Stairs.cl T.n_Stairs_seen (h := we_name 0 (q := ⟨z, _, _, rfl, O.obj, rfl, ⟨h, _, .inl (((rowsF 0 es).length : Nat) : Int), rfl, rfl, O.dct, by rw [held_len, sizeLine_eq]; omega, ?_⟩⟩))⟩))⟩))))))))))⟩))))))
      have hlt : ∀ i ∈ keptE b size k es, i < (rowsF 0 es).length := fun i hi => List.mem_range.mp ((keptE_sub b size k es).subset hi)
      have hput := held_put (rowsF 0 es) (keptE b size k es) (clockF 0 es, ky, v) hlt
      rw [show D.tup [.int (clockF 0 es), .int ky, .int v] = Row.enc (clockF 0 es, ky, v) from rfl, hput]
      refine wss_cons (ws_fldadd T.k_Stairs.cl T.n_Stairs_seen (h := we_name 0 (q := ⟨z, _, _, rfl, by rw [Mem.upd_ne hne.symm]; exact O.obj, rfl, we_int ⟨_, _, rfl, by rw [Mem.upd_ne hne.symm]; exact O.obj, by show 4 < 1000; decide, ?_⟩⟩)))
      rw [set_seen]
      refine wss_nil ⟨keptE b size k es ++ [(rowsF 0 es).length], rfl, ⟨?_, ?_, hne⟩, ?_, ?_, fun j hj hk => ?_, fun a h1 h2 => ?_⟩
      · rw [Mem.upd_same, hr, hc, List.length_append]
        simp
      · rw [Mem.upd_ne hne, Mem.upd_same, hr]
      · rw [hr, List.length_append, List.length_singleton, List.range_succ]
        exact (keptE_sub b size k es).append (List.Sublist.refl _)
      · rw [List.length_append, List.length_singleton]; omega
      · rw [ha, List.length_append, List.length_map] at hj
        by_cases g : j < (agedF b es).length
        · exact List.mem_append.mpr (.inl (kb j g hk))
        · have : (agedF b [Ent.row ky v]).length = 1 := rfl
          refine List.mem_append.mpr (.inr ?_)
          have : j = (rowsF 0 es).length := by omega
          simp [this]
      · rw [Mem.upd_ne h1, Mem.upd_ne h2]
  rintro ρ1 μ1 ⟨hs, rfl, O1, hsub, h64, hkeep, hfr⟩
  generalize es ++ [e] = es' at *
  refine wss_cons (ws_expr (h := we_meth0 T.k_Stairs.cl (ok_Stairs_forget T) (h := we_name 0 (q := ⟨z, _, rfl, O1.obj, rfl, ⟨z, h, b, size, k, es', hs, rfl, O1, hsub, h64, hk0, hkeep, ?_⟩⟩))))
  have O2 : Stair C b size k es' z h (μ1.upd h (.dct (heldK (rowsF 0 es') (keptE b size k es')))) := ⟨by rw [Mem.upd_ne hne.symm]; exact O1.obj, Mem.upd_same, hne⟩
  refine wss_cons (ws_ret' (we_meth0 T.k_Stairs.cl (ok_Stairs_tell T) (h := we_name 0 (q := ⟨z, _, rfl, O2.obj, rfl, ⟨z, h, b, size, k, es', _, rfl, O2, keptE_sub b size k es', by omega, hk0, hoka, q _ O2 fun a h1 h2 => ?_⟩⟩))))
  rw [Mem.upd_ne h2]; exact hfr a h1 h2

/-! ### what is told is due -/
theorem cn_kept (b : Bool) (size : Int) (k : Nat) (es : List Ent) (key v : Int) : cn (pick (rowsF 0 es) (keptF k size (agedF b es))) key v = NN (agedF b es) (keptB k size (agedF b es)) size key v := by
  unfold keptF NN cP
  have : ∀ l : List Nat, (∀ j ∈ l, j < (rowsF 0 es).length) → cn (pick (rowsF 0 es) (l.filter (keptB k size (agedF b es)))) key v = l.countP fun j => keptB k size (agedF b es) j && tst (agedF b es) size key v j := by
    intro l hl
    induction l with
    | nil => rfl
    | cons j l ih =>
      have ih' := ih fun i hi => hl i (by simp [hi])
      obtain ⟨r, s, h1, h2, h3⟩ := aged_rows_at (b := b) (es := es) (hl j (by simp))
      rw [List.countP_cons, ← ih', List.filter_cons, tst_at h1]
      by_cases g : keptB k size (agedF b es) j = true
      · have gin : r.1 < size := by
          have := g
          unfold keptB at this
          rw [in_at h1] at this
          simp at this; exact this.1
        rw [if_pos g]
        have e : pick (rowsF 0 es) (j :: l.filter (keptB k size (agedF b es))) = kv s :: pick (rowsF 0 es) (l.filter (keptB k size (agedF b es))) := by
          unfold pick; rw [List.filterMap_cons_some h2, List.map_cons]
        rw [e, ← h3]
        unfold cn
        rw [List.countP_cons]
        by_cases z : r.2.1 = key ∧ v ≤ r.2.2 <;> simp [kv, g, gin, z]
      · rw [if_neg g]
        simp [g]
  exact this _ fun j hj => by rw [← aged_len b es 0]; exact List.mem_range.mp hj
theorem told_due {b : Bool} {size k : Int} {es : List Ent} (hk : 1 ≤ k) : toldE b size k es = toldK k.toNat (lotF size 0 (agedF b es) (List.range (agedF b es).length)) := by
  refine (toldK_iff (by omega)).mpr fun key v => ?_
  have c2 : cn (lotF size 0 (agedF b es) (List.range (agedF b es).length)) key v = NN (agedF b es) (fun _ => true) size key v := by
    refine (cn_lotF size 0 (agedF b es) _ key v _ rfl).trans ?_
    rw [Int.sub_zero]
    unfold NN cP
    exact List.countP_congr fun j _ => by simp
  rw [cn_kept, c2]
  exact kept_tells key v
theorem agedF_keys {b : Bool} {es : List Ent} (h : ∀ e ∈ es, e.ok) : KeysIn (agedF b es) := by
  induction es with
  | nil => intro r hr; cases hr
  | cons x es ih =>
    intro r hr
    have h' : ∀ e ∈ es, e.ok := fun e he => h e (by simp [he])
    cases x with
    | tick n => exact ih h' r hr
    | row k v =>
      rcases List.mem_cons.mp hr with rfl | hr
      · exact h (.row k v) (by simp)
      · exact ih h' r hr
def sp_step_is_right (C : Addr) : DSp := fun ds μ Q => ∃ (z h : Addr) (b : Bool) (size k : Int) (es : List Ent), ds = [encW b size k, .tup (es.map Ent.enc), .loc z, encT (toldE b size k es)] ∧ Stair C b size k es z h μ ∧ es.length ≤ 10000 ∧ 1 ≤ k ∧ k ≤ 1000 ∧ (∀ e ∈ es, e.ok) ∧ (keptE b size k es).length < 60 ∧ Q (.bl true) μ
theorem sc_step_is_right : FnScope ["window", "entries", "stairs", "answer", "aged", "due", "now"] ["window", "entries", "stairs", "answer"] (defScope s_step_is_right) := ⟨rfl, rfl, rfl, by decide +kernel, rfl, by decide +kernel, by decide +kernel⟩
theorem ints_nb (l : List Nat) : (D.lst (nD l)).nb 1 = true := by
  show D.nbs 0 (nD l) = true
  rw [nD_intsN]; exact nbs_ints 0 _
theorem ok_step_is_right (T : Txt K mg C) : FnD P w K mg base 4 "_law_step_is_right" (sp_step_is_right C) := by
  refine TF.ok 3 T.f_step_is_right sc_step_is_right (fun ds μ Q ⟨_, _, _, _, _, _, h, _⟩ => by rw [h]; rfl) fun ds μ Q h => ?_
  obtain ⟨z, h, b, size, k, es, rfl, O, hl, hk0, hk1, hok, h60, q⟩ := h
  have hal := Nat.le_trans (agedF_len b es) hl
  refine wss_cons (ws_set 4 (h := we_call (ok_aged T) (h := wa_cons (h := we_name 0 (q := wa_cons (h := we_name 1 (q := wa_nil ⟨b, size, k, es, rfl, by omega, ?_⟩)))))))
  refine wss_cons (ws_set 5 (h := we_call (ok_lot_told T) (h := wa_cons (h := we_name 0 (q := wa_cons (h := we_name 4 (q := wa_cons (h := we_listRg T.b_list (h := wrg_1 T.b_range (h := we_callB bt_len T.b_len (h := wa_cons (h := we_name 4 (q := wa_nil (wc_len_lst ⟨_, rfl, by rw [len_enc]; unfold RgOk; omega, ?_⟩))))))))))))))
  rw [len_enc]
  have e0 : rangeD 0 ((((agedF b es).length : Int)) - 0).toNat = nD (List.range (agedF b es).length) := by rw [Int.sub_zero]; exact range_nD _
  first | rw [e0] | rw [range_nD]
  refine wa_cons (h := we_int (wa_nil ⟨b, size, k, 0, agedF b es, List.range (agedF b es).length, _, rfl, .inl rfl, by omega, hk1, fun j hj => List.mem_range.mp hj, agedF_keys hok, ?_⟩))
  rw [← told_due hk0]
  refine wss_cons (ws_for (h := wi_tup (we_tup (wa_cons (h := we_name 3 (q := wa_cons (h := we_meth0 T.k_Stairs.cl (ok_Stairs_tell T) (h := we_name 2 (q := ⟨z, _, rfl, O.obj, rfl, ⟨z, h, b, size, k, es, _, rfl, O, keptE_sub b size k es, by omega, by omega, hok, wa_nil ⟨szb rfl, _, rfl, ?_⟩⟩⟩)))))))))
  refine ⟨[6], fun i ρ μ' => ∃ o, ρ = [some (encW b size k), some (.tup (es.map Ent.enc)), some (.loc z), some (encT (toldE b size k es)), some (.lst ((agedF b es).map Row.enc)), some (encT (toldE b size k es)), o] ∧ μ = μ', ⟨none, rfl, rfl⟩, ?_, ?_⟩
  · rintro i d ρ μ' hd ⟨o, rfl, rfl⟩
    have e2 : d = encT (toldE b size k es) := by
      match i, hd with
      | 0, hd => exact (Option.some.inj hd).symm
      | 1, hd => exact (Option.some.inj hd).symm
      | n + 2, hd => cases hd
    subst e2
    refine wg_name 6 (q := ?_)
    refine wss_cons (ws_if (wt_ww (ww_or (wt_not (wt_val (h := we_call (ok_is_window_told T) (h := wa_cons (h := we_name 6 (q := wa_nil ⟨_, rfl, toldK_len (by omega), _, rfl, fun _ => ?_, fun z => (by exact ffE z)⟩)))))))))
    refine ww_or1 (wt_cmp (h := we_name 6 (q := we_name 5 (q := wo_neP 3 (encT_nb _) (encT_nb _) fun c hc => ⟨_, rfl, fun z => absurd rfl (hc.mp z), fun _ => wss_nil (wss_nil ⟨_, rfl, rfl⟩)⟩))))
  · rintro ρ μ' ⟨o, rfl, rfl⟩
    refine wss_cons (ws_ret' (we_and (we_call (ok_is_ints T) (h := wa_cons (h := we_prop T.k_Stairs.cl (ok_Stairs_kept T) (h := we_name 2 (q := ⟨z, _, rfl, O.obj, ⟨z, h, b, size, k, es, _, rfl, O, keptE_sub b size k es, by omega, wa_nil ⟨intsN (keptE b size k es), by rw [nD_intsN], by rw [List.length_map]; omega, true, rfl, fun _ => ?_, fun z => (nomatch z)⟩⟩⟩)))))))
    refine we_one (we_cmp (h := we_callT bt_list T.b_list (h := wa_cons (h := we_prop T.k_Stairs.cl (ok_Stairs_kept T) (h := we_name 2 (q := ⟨z, _, rfl, O.obj, ⟨z, h, b, size, k, es, _, rfl, O, keptE_sub b size k es, by omega, wa_nil (wc_list (.inr (.inl rfl)) ?_)⟩⟩))))))
    refine we_call (ok_kept_rows T) (h := wa_cons (h := we_name 0 (q := wa_cons (h := we_name 4 (q := wa_nil ⟨b, size, k, agedF b es, rfl, by omega, by omega, wo_eqP 1 (ints_nb _) (ints_nb _) fun c hc => ?_⟩)))))
    rw [hc.mpr rfl]
    exact q
end K76
namespace K76
open PySem L2 DL Win
variable {P : Program} {w : World} {K : PySem.W.Frag} {mg : Str → Option Value} {base : Heap} {C : Addr}

theorem cutD_sub {α : Type} {xs : List α} {lo hi : Option Int} : (∀ x ∈ cutD xs lo hi, x ∈ xs) ∧ (cutD xs lo hi).length ≤ xs.length :=
  ⟨fun x h => List.mem_of_mem_drop (List.mem_of_mem_take h), by unfold cutD; rw [List.length_take, List.length_drop]; omega⟩
theorem upd_self {μ : Mem} {a : Addr} {o : MO} (e : μ a = some o) : μ.upd a o = μ := by
  funext x
  by_cases hx : x = a
  · subst hx; rw [Mem.upd_same, e]
  · rw [Mem.upd_ne hx]
theorem nodup_len {lot l : List Nat} (h : lot.Nodup) (hs : ∀ j ∈ lot, j ∈ l) : lot.length ≤ l.length := by
  have := countP_sub (fun _ : Nat => true) lot l fun x => by
    rw [List.Nodup.count h]
    by_cases z : x ∈ lot
    · rw [if_pos z]; exact List.count_pos_iff.mpr (hs x z)
    · rw [if_neg z]; exact Nat.zero_le _
  simpa using this

/-! ### is_fewest -/
def sp_is_fewest : DSp := fun ds μ Q => ∃ (b : Bool) (size k : Int) (es : List Ent), ds = [encW b size k, .tup (es.map Ent.enc), .tup (nD (keptE b size k es))] ∧ es.length ≤ 10000 ∧ 1 ≤ k ∧ k ≤ 1000 ∧ (∀ e ∈ es, e.ok) ∧ Q (.bl true) μ
theorem sc_is_fewest : FnScope ["window", "entries", "kept", "aged", "inside", "at", "lots", "lot"] ["window", "entries", "kept"] (defScope s_is_fewest) := ⟨rfl, rfl, rfl, by decide +kernel, rfl, by decide +kernel, by decide +kernel⟩
theorem ok_is_fewest (T : Txt K mg C) : FnD P w K mg base 3 "_law_is_fewest" sp_is_fewest := by
  refine TF.ok 2 T.f_is_fewest sc_is_fewest (fun ds μ Q ⟨_, _, _, _, h, _⟩ => by rw [h]; rfl) fun ds μ Q h => ?_
  obtain ⟨b, size, k, es, rfl, hl, hk0, hk1, hok, q⟩ := h
  have hal := Nat.le_trans (agedF_len b es) hl
  have hkf := keptF_ok k.toNat size (agedF b es)
  refine wss_cons (ws_set 3 (h := we_call (ok_aged T) (h := wa_cons (h := we_name 0 (q := wa_cons (h := we_name 1 (q := wa_nil ⟨b, size, k, es, rfl, by omega, ?_⟩)))))))
  refine wss_cons (ws_setLc 4 [("at", 5)] (h := wi_range1 T.b_range (h := wa_cons (h := we_callB bt_len T.b_len (h := wa_cons (h := we_name 3 (q := wa_nil (wc_len_lst (wa_nil ⟨_, rfl, by rw [len_enc]; omega, ?_⟩)))))))))
  rw [len_enc, range_nD]
  refine LcHyp.fm (List.range (agedF b es).length) (fun i : Nat => .int i) (inB (agedF b es) size) (fun i : Nat => .int i) [5] (by simp) (szM (by rw [List.length_range]; omega)) (fun j i hj => ?_) ?_
  · have hjl : j < (agedF b es).length := List.mem_range.mp (List.mem_of_getElem? hj)
    have hr := List.getElem?_eq_getElem hjl
    exact wg_name 5 (q := wts_one (wt_cmp (h := we_sub (h := we_sub (h := we_name 3 (q := we_name 5 (q := wix_lst (at_row hr) (we_int (wix_tup rfl (we_sub (h := we_name 0 (q := we_int (wix_tup rfl (wo_lt ⟨_, rfl, (in_at hr).symm, rfl, fun _ => we_name 5 (q := ⟨rfl, rfl⟩)⟩))))))))))))))
  have hin : LotOk (agedF b es) ((List.range (agedF b es).length).filter (inB (agedF b es) size)) := ⟨List.nodup_range.filter _, fun j hj => List.mem_range.mp (List.mem_filter.mp hj).1⟩
  generalize (List.range (agedF b es).length).filter (inB (agedF b es) size) = inside at hin
  refine wss_cons (ws_if (wt_not (wt_val (h := we_call (ok_is_lasting T) (h := wa_cons (h := we_name 0 (q := wa_cons (h := we_name 3 (q := wa_cons (h := we_name 2 (q := wa_nil ⟨b, size, k, agedF b es, _, rfl, by omega, hk0, hk1, ⟨hkf.1, hkf.2⟩, agedF_keys hok, fun c hc => ⟨c, rfl, fun z => ?_, fun _ => wss_nil ?_⟩⟩)))))))))))
  · have : c = true := hc.mpr (lasts_of_enough fun r => Nat.le_of_eq (cP_congr fun j hj => by
      have := keptF_mem (k := k.toNat) (size := size) hj
      unfold inL
      rw [this]))
    rw [this] at z; cases z
  refine wss_cons (ws_set 6 (h := we_lst (wa_cons (h := we_tup (wa_nil ⟨szb rfl, wa_nil ⟨szb rfl, ?_⟩⟩)))))
  refine wss_cons (ws_for (h := wi_lst (we_slice (we_name 4 (q := wp_none (wp_some (we_bin (we_int (we_callT bt_int T.b_int (h := wa_cons (h := we_cmp (h := we_callB bt_len T.b_len (h := wa_cons (h := we_name 4 (q := wa_nil (wc_len_lst (we_int (wo_lt (wa_nil (wc_intB (wo_mul (.inl ⟨by decide, by decide⟩) ⟨_, rfl, wsl_lst ⟨_, rfl, ?_⟩⟩)))))))))))))))))))))
  have hcut : ∃ cut : List Nat, cutD (nD inside) none (some (7 * (if decide (((nD inside).length : Nat) < (8 : Int)) = true then 1 else 0))) = nD cut ∧ cut.Nodup ∧ cut.length ≤ 7 ∧ ∀ j ∈ cut, j ∈ inside := by
    refine ⟨cutD inside none (some (7 * (if decide (((nD inside).length : Nat) < (8 : Int)) = true then 1 else 0))), cutD_map _ _ _ _, ?_, ?_, fun j hj => (cutD_sub (xs := inside)).1 j hj⟩
    · rw [cut_to _ (by split <;> omega)]
      exact hin.nd.sublist (List.take_sublist _ _)
    · rw [cut_to _ (by split <;> omega), List.length_take]
      split <;> omega
  obtain ⟨cut, hce, hcn, hcl, hci⟩ := hcut
  rw [hce]
  refine ⟨[5], fun i ρ μ' => ∃ (o1 : Option D) (lots : List (List Nat)), ρ = [some (encW b size k), some (.tup (es.map Ent.enc)), some (.tup (nD (keptE b size k es))), some (.lst ((agedF b es).map Row.enc)), some (.lst (nD inside)), o1, some (.lst (lots.map fun lot => .tup (nD lot))), none] ∧ μ' = μ ∧ lots.length ≤ 2 ^ i ∧ ∀ lot ∈ lots, lot.Nodup ∧ ∀ j ∈ lot, j ∈ cut.take i, ⟨none, [[]], rfl, rfl, Nat.le_refl _, fun lot hl => ?_⟩, ?_, ?_⟩
  · simp at hl; subst hl; exact ⟨List.nodup_nil, fun j hj => by cases hj⟩
  · rintro i d ρ μ' hd ⟨o1, lots, rfl, rfl, hll, hlo⟩
    obtain ⟨j, hj, rfl⟩ := getE hd
    have hi : i < cut.length := by
      by_cases z : i < cut.length
      · exact z
      · rw [List.getElem?_eq_none (by omega)] at hj; cases hj
    have htk : cut.take (i + 1) = cut.take i ++ [j] := take_snoc hj
    have hjn : j ∉ cut.take i := fun h => by
      have : (cut.take (i + 1)).Nodup := hcn.sublist (List.take_sublist _ _)
      rw [htk] at this
      exact (List.nodup_append.mp this).2.2 j h j (by simp) rfl
    have h2 : lots.length ≤ 64 := Nat.le_trans hll (by
      have : i ≤ 6 := by omega
      calc 2 ^ i ≤ 2 ^ 6 := Nat.pow_le_pow_right (by decide) this
        _ = 64 := rfl)
    have hs : ∀ lot ∈ lots, lot.length ≤ 7 := fun lot hl => by
      have h3 : lot.length ≤ (cut.take i).length := nodup_len (hlo lot hl).1 (hlo lot hl).2
      rw [List.length_take] at h3; omega
    refine wg_name 5 (q := ?_)
    refine wss_cons (ws_set 6 (h := we_bin (we_name 6 (q := we_lc [("lot", 7)] (h := wi_lst (we_name 6 (q := ⟨_, rfl, ?_⟩)))))))
    refine LcHyp.fm lots (fun lot : List Nat => D.tup (nD lot)) (fun lot => decide (lot.length + 1 < (keptE b size k es).length)) (fun lot => .tup (nD (lot ++ [j]))) [7] (by simp) (sz1000 (by omega)) (fun lot n hlot => ?_) ?_
    · refine wg_name 7 (q := wts_one (wt_cmp (h := we_bin (we_callB bt_len T.b_len (h := wa_cons (h := we_name 7 (q := wa_nil (wc_len_tup (we_int (wo_add (we_callB bt_len T.b_len (h := wa_cons (h := we_name 2 (q := wa_nil (wc_len_tup (wo_lt ⟨_, rfl, ?_, rfl, fun _ => we_bin (we_name 7 (q := we_tup (wa_cons (h := we_name 5 (q := wa_nil ⟨szb rfl, wo_catT ?_ ⟨?_, rfl⟩⟩)))))⟩))))))))))))))))
      · rw [List.length_map, List.length_map]
        exact decide_eq_decide.mpr (by omega)
      · rw [List.length_map]
        have := hs lot (List.mem_of_getElem? hlot)
        exact sz1000 (by show _ + 1 ≤ 1000; omega)
      · simp only [nD, List.map_append]; rfl
    · have hfl := List.length_filter_le (fun lot : List Nat => decide (lot.length + 1 < (keptE b size k es).length)) lots
      refine wo_cat (.inl rfl) (.inl rfl) (sz1000 (by rw [List.length_map, List.length_map]; omega)) (wss_nil ⟨some (.int (j : Nat)), lots ++ (lots.filter fun lot => decide (lot.length + 1 < (keptE b size k es).length)).map (· ++ [j]), ?_, rfl, ?_, ?_⟩)
      · rw [List.map_append, List.map_map]; rfl
      · rw [List.length_append, List.length_map, Nat.pow_succ]; omega
      · intro lot hl
        rcases List.mem_append.mp hl with hl | hl
        · exact ⟨(hlo lot hl).1, fun x hx => by rw [htk]; exact List.mem_append.mpr (.inl ((hlo lot hl).2 x hx))⟩
        · obtain ⟨lt, hlt, rfl⟩ := List.mem_map.mp hl
          have := hlo lt (List.mem_filter.mp hlt).1
          refine ⟨List.nodup_append.mpr ⟨this.1, by simp, fun x hx y hy e => ?_⟩, fun x hx => ?_⟩
          · simp at hy; subst hy; subst e; exact hjn (this.2 _ hx)
          · rw [htk]
            rcases List.mem_append.mp hx with hx | hx
            · exact List.mem_append.mpr (.inl (this.2 x hx))
            · exact List.mem_append.mpr (.inr hx)
  · rintro ρ μ' ⟨o1, lots, rfl, rfl, hll, hlo⟩
    refine wss_cons (ws_for (h := wi_lst (we_name 6 (q := ⟨_, rfl, ?_⟩))))
    refine ⟨[7], fun i ρ μ1 => ∃ o2, ρ = [some (encW b size k), some (.tup (es.map Ent.enc)), some (.tup (nD (keptE b size k es))), some (.lst ((agedF b es).map Row.enc)), some (.lst (nD inside)), o1, some (.lst (lots.map fun lot => .tup (nD lot))), o2] ∧ μ1 = μ', ⟨none, rfl, rfl⟩, ?_, ?_⟩
    · rintro i d ρ μ1 hd ⟨o2, rfl, rfl⟩
      obtain ⟨lot, hlot, rfl⟩ := getE hd
      have hlo1 := hlo lot (List.mem_of_getElem? hlot)
      have hlk : LotOk (agedF b es) lot := ⟨hlo1.1, fun j hj => hin.lt j (hci j (List.mem_of_mem_take (hlo1.2 j hj)))⟩
      refine wg_name 7 (q := ?_)
      refine wss_cons (ws_if (wt_ww (ww_and (wt_cmp (h := we_bin (we_callB bt_len T.b_len (h := wa_cons (h := we_name 7 (q := wa_nil (wc_len_tup (we_int (wo_add (we_callB bt_len T.b_len (h := wa_cons (h := we_name 2 (q := wa_nil (wc_len_tup (wo_eqI ⟨_, rfl, fun hk => ?_, fun hk => ⟨fun z => (nomatch z), fun _ => wss_nil (wss_nil ⟨_, rfl, rfl⟩)⟩⟩))))))))))))))))))
      refine ww_and1 (wt_val (h := we_call (ok_is_lasting T) (h := wa_cons (h := we_name 0 (q := wa_cons (h := we_name 3 (q := wa_cons (h := we_name 7 (q := wa_nil ⟨b, size, k, agedF b es, lot, rfl, by omega, hk0, hk1, hlk, agedF_keys hok, fun c hc => ⟨c, rfl, fun z => ?_, fun _ => wss_nil (wss_nil ⟨_, rfl, rfl⟩)⟩⟩)))))))))
      have h1 := lasts_len (aged_falls hok) hlk.nd hlk.lt (hc.mp z)
      have h2 := of_decide_eq_true hk
      rw [List.length_map, List.length_map] at h2
      have h3 : (keptE b size k es).length = ((List.range (agedF b es).length).filter (keptB k.toNat size (agedF b es))).length := rfl
      omega
    · rintro ρ μ1 ⟨o2, rfl, rfl⟩
      exact wss_cons (ws_ret' (we_bl q))
end K76
namespace K76
open PySem L2 DL Win
variable {P : Program} {w : World} {K : PySem.W.Frag} {mg : Str → Option Value} {base : Heap} {C : Addr}

/-! ### kept_of_long: by age, then value, then place -/
def tri (R : List Row) (j : Nat) : List Int := match R[j]? with | some r => [r.1, 0 - r.2.2, 0 - (j : Int)] | none => []
theorem tri_at {R : List Row} {j : Nat} {r : Row} (h : R[j]? = some r) : tri R j = [r.1, 0 - r.2.2, 0 - (j : Int)] := by unfold tri; rw [h]
theorem lex3 {a b c a' b' c' : Int} : lexL [a, b, c] [a', b', c'] = false ↔ ¬ (a < a' ∨ (a = a' ∧ (b < b' ∨ (b = b' ∧ c < c')))) := by
  unfold lexL lexL lexL lexL
  by_cases h1 : a = a'
  · rw [if_pos h1]
    by_cases h2 : b = b'
    · rw [if_pos h2]
      by_cases h3 : c = c'
      · rw [if_pos h3]; simp; omega
      · rw [if_neg h3, decide_eq_false_iff_not]; omega
    · rw [if_neg h2, decide_eq_false_iff_not]; omega
  · rw [if_neg h1, decide_eq_false_iff_not]; omega
theorem perm_map' {α β : Type} [BEq α] [LawfulBEq α] (f : α → β) : ∀ (ys : List β) (L : List α), ys.Perm (L.map f) → ∃ lots : List α, ys = lots.map f ∧ lots.Perm L
  | [], L, h => ⟨[], rfl, by
      have := h.length_eq
      rw [List.length_map] at this
      rw [List.eq_nil_of_length_eq_zero this.symm]⟩
  | y :: ys, L, h => by
    obtain ⟨x, hx, rfl⟩ := List.mem_map.mp (h.mem_iff.mp (by simp : y ∈ y :: ys))
    have p := List.perm_cons_erase hx
    have h2 : ys.Perm ((L.erase x).map f) := (h.trans (p.map f)).cons_inv
    obtain ⟨lots, rfl, q⟩ := perm_map' f ys _ h2
    exact ⟨x :: lots, rfl, (q.cons x).trans p.symm⟩
theorem cn_pick_any (R : List Row) (key v : Int) : ∀ l : List Nat, cn (pick R l) key v = l.countP fun j => match R[j]? with | some r => decide (r.2.1 = key ∧ v ≤ r.2.2) | none => false := by
  intro l
  induction l with
  | nil => rfl
  | cons j l ih =>
    rw [List.countP_cons, ← ih]
    cases e : R[j]? with
    | none =>
      have : pick R (j :: l) = pick R l := by unfold pick; rw [List.filterMap_cons_none e]
      rw [this]; simp
    | some r =>
      have : pick R (j :: l) = kv r :: pick R l := by unfold pick; rw [List.filterMap_cons_some e, List.map_cons]
      rw [this]
      unfold cn
      rw [List.countP_cons]
      by_cases z : r.2.1 = key ∧ v ≤ r.2.2 <;> simp [kv, z]
theorem firsts_before {R : List Row} {size : Int} {js : List Nat} (hf : Falls R) (hp : js.Perm ((List.range R.length).filter (inB R size))) (ho : js.Pairwise fun a b => lexL (tri R b) (tri R a) = false) {i j : Nat} {r : Row} (hj : js[i]? = some j) (hr : R[j]? = some r) :
    cn (pick R (js.take i)) r.2.1 r.2.2 = firsts R size j := by
  have hi : i < js.length := by
    by_cases z : i < js.length
    · exact z
    · rw [List.getElem?_eq_none (by omega)] at hj; cases hj
  have ej : js[i] = j := by rw [List.getElem?_eq_getElem hi] at hj; exact Option.some.inj hj
  have hsp : js = js.take i ++ (j :: js.drop (i + 1)) := by
    have hd : js.drop i = j :: js.drop (i + 1) := by rw [List.drop_eq_getElem_cons hi, ej]
    rw [← hd, List.take_append_drop]
  have hnd : js.Nodup := hp.nodup_iff.mpr (List.nodup_range.filter _)
  have hlt : ∀ o ∈ js, o < R.length := fun o ho => List.mem_range.mp (List.mem_filter.mp (hp.mem_iff.mp ho)).1
  have e1 : firsts R size j = js.countP fun o => goesB R o j := by
    unfold firsts cP
    rw [hp.countP_eq, List.countP_filter]
    exact List.countP_congr fun o _ => by cases inB R size o <;> cases goesB R o j <;> simp
  rw [hsp] at ho hnd
  obtain ⟨p1, p2, p3⟩ := List.pairwise_append.mp ho
  obtain ⟨n1, n2, n3⟩ := List.nodup_append.mp hnd
  have p4 := List.pairwise_cons.mp p2
  have n4 := List.nodup_cons.mp n2
  have hj' : j < R.length := by
    by_cases z : j < R.length
    · exact z
    · rw [List.getElem?_eq_none (by omega)] at hr; cases hr
  rw [e1, cn_pick_any]
  have e2 : js.countP (fun o => goesB R o j) = (js.take i).countP fun o => goesB R o j := by
    have a1 : (j :: js.drop (i + 1)).countP (fun o => goesB R o j) = 0 := by
      rw [List.countP_eq_zero]
      intro o ho
      rcases List.mem_cons.mp ho with rfl | ho
      · rw [goes_at hr hr]; simp
      · have hol := hlt o (List.mem_of_mem_drop ho)
        have er := List.getElem?_eq_getElem hol
        have q := p4.1 o ho
        rw [tri_at er, tri_at hr, lex3] at q
        rw [goes_at er hr, decide_eq_true_iff]
        rintro ⟨g1, g2, g3, g4⟩
        omega
    have := congrArg (List.countP fun o => goesB R o j) hsp
    rw [List.countP_append, a1] at this
    exact this
  rw [e2]
  refine List.countP_congr fun o ho => ?_
  have hol := hlt o (List.mem_of_mem_take ho)
  have er := List.getElem?_eq_getElem hol
  have q := p3 o ho j (by simp)
  have hne : o ≠ j := fun z => n3 o ho j (by simp) z
  rw [tri_at er, tri_at hr, lex3] at q
  rw [er, goes_at er hr]
  show decide _ = true ↔ _
  rw [decide_eq_true_iff, decide_eq_true_iff]
  constructor
  · rintro ⟨g1, g2⟩
    refine ⟨hne, g1, by omega, ?_⟩
    by_cases z : R[o].2.2 > r.2.2
    · exact .inl z
    · refine .inr ⟨by omega, ?_⟩
      by_cases z2 : o > j
      · exact z2
      · have := hf.le (i := o) (j := j) (by omega) hj'
        have e3 : R[j] = r := by rw [List.getElem?_eq_getElem hj'] at hr; exact Option.some.inj hr
        rw [e3] at this
        omega
  · rintro ⟨_, g1, g2, g3⟩
    exact ⟨g1, by omega⟩
/-- a value is above the least of the K greatest, or there are fewer: fewer than K are as great -/
theorem below_last {K : Nat} (hK : 1 ≤ K) (l : List Int) (v : Int) : ((topK K l).length < K ∨ ∃ p x, topK K l = p ++ [x] ∧ x < v) ↔ (l.countP fun x => decide (v ≤ x)) < K := by
  have hc := count_topK K l v
  have hle : (topK K l).countP (fun x => decide (v ≤ x)) ≤ (topK K l).length := List.countP_le_length
  have htl := topK_len K l
  constructor
  · rintro (h | ⟨p, x, e, hx⟩)
    · omega
    · rw [e, List.countP_append] at hc
      have : ([x].countP fun x => decide (v ≤ x)) = 0 := by simp; omega
      have h2 : (p.countP fun x => decide (v ≤ x)) ≤ p.length := List.countP_le_length
      have h3 : (topK K l).length = p.length + 1 := by rw [e, List.length_append]; rfl
      omega
  · intro h
    by_cases z : (topK K l).length < K
    · exact .inl z
    · rcases snoc_or (topK K l) with e | ⟨p, x, e⟩
      · rw [e] at z; simp at z; omega
      · refine .inr ⟨p, x, e, ?_⟩
        by_cases z2 : x < v
        · exact z2
        · have pw := topK_pw K l
          rw [e] at pw
          have all : (topK K l).countP (fun x => decide (v ≤ x)) = (topK K l).length := by
            rw [List.countP_eq_length]
            intro y hy
            rw [e] at hy
            rcases List.mem_append.mp hy with hy | hy
            · have := (List.pairwise_append.mp pw).2.2 y hy x (by simp)
              simp; omega
            · simp at hy; subst hy; simp; omega
          omega
theorem ws_ifP {Γ : Gam} {ρ : Rho} {μ : Mem} {c : Expr} {A B : List Stmt} {pos : Pos} {D' : DEnds} {φ : Prop} (hA : φ → WSs Γ A ρ μ D') (hB : ¬ φ → WSs Γ B ρ μ D') (h : WT Γ c ρ μ fun k μ1 => μ1 = μ ∧ (k = true ↔ φ)) : WS Γ (.If c A B pos) ρ μ D' :=
  ws_if fun σ F H s r => by
    obtain ⟨t, Q0, h1, h2, h3⟩ := h σ F H s r
    refine ⟨t, Q0, h1, h2, fun b H' q => ?_⟩
    obtain ⟨F', μ', r', e', rfl, q⟩ := h3 b H' q
    exact ⟨F', _, r', e', fun z => hA (q.mp z), fun z => hB fun f => by rw [q.mpr f] at z; cases z⟩
def highD (k : Int) (kvs : List (Int × Int)) : List (Key × D) := (dkeys kvs).map fun k' => ((Sum.inl k' : Key), D.lst ((topK k.toNat (vals kvs k')).map D.int))
def sp_kept_of_long : DSp := fun ds μ Q => ∃ (b : Bool) (size k : Int) (R : List Row), ds = [encW b size k, .lst (R.map Row.enc)] ∧ R.length ≤ 10000 ∧ 1 ≤ k ∧ k ≤ 1000 ∧ KeysIn R ∧ Falls R ∧ Q (.lst (nD (keptF k.toNat size R))) μ
theorem sc_kept_of_long : FnScope ["window", "aged", "inside", "at", "highest", "found", "age", "low", "back", "key", "known"] ["window", "aged"] (defScope s_kept_of_long) := ⟨rfl, rfl, rfl, by decide +kernel, rfl, by decide +kernel, by decide +kernel⟩
theorem ok_kept_of_long (T : Txt K mg C) : FnD P w K mg base 1 "_law_kept_of_long" sp_kept_of_long := by
  refine TF.ok 0 T.f_kept_of_long sc_kept_of_long (fun ds μ Q ⟨_, _, _, _, h, _⟩ => by rw [h]; rfl) fun ds μ Q h => ?_
  obtain ⟨b, size, k, R, rfl, hR, hk0, hk1, hkeys, hf, q⟩ := h
  refine wss_cons (ws_setLc 2 [("at", 3)] (h := wi_range1 T.b_range (h := wa_cons (h := we_callB bt_len T.b_len (h := wa_cons (h := we_name 1 (q := wa_nil (wc_len_lst (wa_nil ⟨_, rfl, by rw [len_enc]; omega, ?_⟩)))))))))
  rw [len_enc, range_nD]
  refine LcHyp.fm (List.range R.length) (fun i : Nat => .int i) (inB R size) (fun i : Nat => .int i) [3] (by simp) (szM (by rw [List.length_range]; omega)) (fun j i hj => ?_) ?_
  · have hjl : j < R.length := List.mem_range.mp (List.mem_of_getElem? hj)
    have hr := List.getElem?_eq_getElem hjl
    exact wg_name 3 (q := wts_one (wt_cmp (h := we_sub (h := we_sub (h := we_name 1 (q := we_name 3 (q := wix_lst (at_row hr) (we_int (wix_tup rfl (we_sub (h := we_name 0 (q := we_int (wix_tup rfl (wo_lt ⟨_, rfl, (in_at hr).symm, rfl, fun _ => we_name 3 (q := ⟨rfl, rfl⟩)⟩))))))))))))))
  generalize hin : (List.range R.length).filter (inB R size) = inside
  have hinl : ∀ j ∈ inside, j < R.length := fun j hj => by rw [← hin] at hj; exact List.mem_range.mp (List.mem_filter.mp hj).1
  have hinn : inside.length ≤ 10000 := by rw [← hin]; exact Nat.le_trans (List.length_filter_le ..) (by rw [List.length_range]; exact hR)
  refine wss_cons (ws_set 4 (h := we_dctM (fun p hp => ?_)))
  refine wss_cons (ws_set 5 (h := we_lstM (wa_nil ⟨szb rfl, fun f hfn => ?_⟩)))
  have hfp : f ≠ p := fun z => by subst z; rw [Mem.upd_same] at hfn; cases hfn
  have hfn' : μ f = none := by rw [Mem.upd_ne hfp] at hfn; exact hfn
  refine wss_cons (ws_for (h := wi_lst (we_callB bt_sorted T.b_sorted (h := wa_cons (h := we_lc [("at", 3)] (h := wi_lst (we_name 2 (q := ⟨_, rfl, ?_⟩))))))))
  refine LcHyp.mp inside (fun i : Nat => .int i) (fun j => tI (tri R j)) [3] (by simp) (szM (by omega)) (fun j i hj => ?_) ?_
  · have hr := List.getElem?_eq_getElem (hinl j (List.mem_of_getElem? hj))
    refine wg_name 3 (q := wts_nil ⟨rfl, rfl, we_tup (wa_cons (h := we_sub (h := we_sub (h := we_name 1 (q := we_name 3 (q := wix_lst (at_row hr) (we_int (wix_tup rfl (wa_cons (h := we_bin (we_int (we_sub (h := we_sub (h := we_name 1 (q := we_name 3 (q := wix_lst (at_row hr) (we_int (wix_tup rfl (wo_sub (wa_cons (h := we_bin (we_int (we_name 3 (q := wo_sub (wa_nil ⟨szb rfl, ?_, rfl⟩)))))))))))))))))))))))))⟩)
    rw [tri_at hr]; rfl
  refine wa_nil (wc_sortedT (rows := inside.map (tri R)) (.inl (by rw [List.map_map]; rfl)) (fun r hr => ?_) fun ms hms hso => ⟨_, rfl, ?_⟩)
  · obtain ⟨j, hj, rfl⟩ := List.mem_map.mp hr
    rw [tri_at (List.getElem?_eq_getElem (hinl j hj))]
    exact fun z => (nomatch z)
  obtain ⟨js, rfl, hjs⟩ := perm_map' (tri R) _ _ hms
  rw [List.pairwise_map] at hso
  have hjsl : js.length ≤ 10000 := by rw [hjs.length_eq]; exact hinn
  have hjlt : ∀ j ∈ js, j < R.length := fun j hj => hinl j (hjs.mem_iff.mp hj)
  have hjs' : js.Perm ((List.range R.length).filter (inB R size)) := by rw [hin]; exact hjs
  have hfew : ∀ l : List Nat, (dkeys (pick R l)).length ≤ 10 := fun l => dkeys_few fun p hp => by
    obtain ⟨r, hr, rfl⟩ := pick_mem hp
    exact hkeys r hr
  refine ⟨[6, 7, 8], fun i ρ μ' => ∃ o3 o6 o7 o8 o9 o10, ρ = [some (encW b size k), some (.lst (R.map Row.enc)), some (.lst (nD inside)), o3, some (.loc p), some (.loc f), o6, o7, o8, o9, o10] ∧
    μ' = (μ.upd p (.dct (highD k (pick R (js.take i))))).upd f (.lst (nD ((js.take i).filter fun j => decide (firsts R size j < k.toNat)))), ⟨none, none, none, none, none, none, rfl, rfl⟩, ?_, ?_⟩
  · rintro i d ρ μ' hd ⟨o3, o6, o7, o8, o9, o10, rfl, rfl⟩
    obtain ⟨t, ht, rfl⟩ := getE hd
    rw [List.getElem?_map] at ht
    obtain ⟨j, hj, rfl⟩ : ∃ j, js[i]? = some j ∧ t = tri R j := by
      cases e : js[i]? with
      | none => rw [e] at ht; cases ht
      | some j => rw [e] at ht; exact ⟨j, rfl, (Option.some.inj ht).symm⟩
    have hjm := List.mem_of_getElem? hj
    have hr := List.getElem?_eq_getElem (hjlt j hjm)
    generalize R[j]'(hjlt j hjm) = r at hr
    have htk : js.take (i + 1) = js.take i ++ [j] := take_snoc hj
    have hpk : pick R (js.take (i + 1)) = pick R (js.take i) ++ [(r.2.1, r.2.2)] := by rw [htk, pick_snoc hr]; rfl
    have hfi := firsts_before hf hjs' hso hj hr
    have hmt : (js.take i).length ≤ js.length := by rw [List.length_take]; omega
    generalize js.take i = done at hpk hfi htk hmt
    rw [tri_at hr]
    refine wg_tup 3 (h := wgs_cons (ix := [6]) (h := wg_name 6 (q := wgs_cons (ix := [7]) (h := wg_name 7 (q := wgs_cons (ix := [8]) (h := wg_name 8 (q := wgs_nil ?_)))))))
    have ej : (0 - (0 - (j : Int))) = j := by omega
    have ev : (0 - (0 - r.2.2)) = r.2.2 := by omega
    refine wss_cons (ws_set 9 (h := we_sub (h := we_sub (h := we_name 1 (q := we_bin (we_int (we_name 8 (q := wo_sub ?_))))))))
    rw [ej]
    refine wix_lst (at_row hr) (we_int (wix_tup rfl ?_))
    have hD : ∀ {m : MO}, ((μ.upd p (.dct (highD k (pick R done)))).upd f m) p = some (.dct (highD k (pick R done))) := fun {m} => by rw [Mem.upd_ne hfp.symm, Mem.upd_same]
    have hgd : (getA (highD k (pick R done)) (.inl r.2.1)).getD (.lst []) = .lst ((topK k.toNat (vals (pick R done) r.2.1)).map D.int) := by
      unfold highD
      rw [getA_map]
      by_cases z : r.2.1 ∈ dkeys (pick R done)
      · rw [if_pos z]; rfl
      · rw [if_neg z, vals_nil z, topK_nil]; rfl
    refine wss_cons (ws_set 10 (h := we_dget2 (h := we_name 4 (q := ⟨_, _, rfl, hD, we_name 9 (q := we_lst (wa_nil ⟨szb rfl, _, .inl r.2.1, rfl, hD, ?_⟩))⟩))))
    rw [hgd]
    have hlast := below_last (K := k.toNat) (by omega) (vals (pick R done) r.2.1) r.2.2
    rw [← cn_vals, hfi] at hlast
    have htl := topK_len k.toNat (vals (pick R done) r.2.1)
    refine wss_mid (fun ρ1 μ1 => ρ1 = [some (encW b size k), some (.lst (R.map Row.enc)), some (.lst (nD inside)), o3, some (.loc p), some (.loc f), some (.int r.1), some (.int (0 - r.2.2)), some (.int (0 - (j : Int))), some (.int r.2.1), some (.lst ((topK k.toNat (vals (pick R done) r.2.1)).map D.int))] ∧
      μ1 = (μ.upd p (.dct (highD k (pick R done)))).upd f (.lst (nD ((done ++ [j]).filter fun j => decide (firsts R size j < k.toNat))))) ?_ ?_
    · refine ws_ifP (φ := firsts R size j < k.toNat) (fun h => ?_) (fun h => ?_) ?_
      · refine wss_cons (ws_expr (h := we_lm PySem.F.slot_list_append PySem.F.type_list_append (h := we_name 5 (q := ⟨_, _, rfl, Mem.upd_same, wa_cons (h := we_bin (we_int (we_name 8 (q := wo_sub ?_))))⟩))))
        rw [ej]
        refine wa_nil (wm_append Mem.upd_same ?_ (wss_nil ⟨rfl, ?_⟩))
        · rw [List.length_map, sizeLine_eq]
          have := List.length_filter_le (fun j => decide (firsts R size j < k.toNat)) done
          omega
        · rw [Mem.upd_upd, List.filter_append]
          have : ([j].filter fun j => decide (firsts R size j < k.toNat)) = [j] := by rw [List.filter_cons, if_pos (decide_eq_true h)]; rfl
          rw [this]; simp only [nD, List.map_append]; rfl
      · refine wss_nil ⟨rfl, ?_⟩
        rw [List.filter_append]
        have : ([j].filter fun j => decide (firsts R size j < k.toNat)) = [] := by rw [List.filter_cons, if_neg (by rw [decide_eq_true_iff]; exact h)]; rfl
        rw [this, List.append_nil]
      refine wt_ww (ww_or (wt_cmp (h := we_callB bt_len T.b_len (h := wa_cons (h := we_name 10 (q := wa_nil (wc_len_lst (we_sub (h := we_name 0 (q := we_int (wix_tup rfl (wo_lt ⟨_, rfl, fun hk => ?_, fun hk => ⟨rfl, fun _ => hlast.mp (.inl ?_), fun _ => rfl⟩⟩))))))))))))
      · have hk' := of_decide_eq_false hk
        rw [List.length_map] at hk'
        rcases snoc_or (topK k.toNat (vals (pick R done) r.2.1)) with e | ⟨pp, x, e⟩
        · rw [e] at hk'; simp at hk'; omega
        · have hat : atI ((topK k.toNat (vals (pick R done) r.2.1)).map D.int) (-1) = some (.int x) := by
            rw [e, List.map_append]; exact atI_last
          refine ww_or1 (wt_cmp (h := we_sub (h := we_name 10 (q := we_un (we_int (wu_neg (wix_lst hat (we_bin (we_int (we_name 7 (q := wo_sub ?_)))))))))))
          rw [ev]
          refine wo_lt ⟨_, rfl, rfl, fun hx => hlast.mp (.inr ⟨pp, x, e, of_decide_eq_true hx⟩), fun z => decide_eq_true ?_⟩
          rcases hlast.mpr z with h1 | ⟨p', x', e', h'⟩
          · omega
          · rw [e] at e'
            have := (List.append_inj' e' rfl).2
            simp at this; subst this
            exact h'
      · have hk' := of_decide_eq_true hk
        rw [List.length_map] at hk'
        omega
    rintro ρ1 μ1 ⟨rfl, rfl⟩
    refine wss_cons (ws_dput (h := we_slice (we_sortedRev T.b_sorted (h := we_bin (we_name 10 (q := we_lst (wa_cons (h := we_bin (we_int (we_name 7 (q := wo_sub ?_)))))))))))
    rw [ev]
    refine wa_nil ⟨szb rfl, wo_cat (.inl rfl) (.inl rfl) (szM (by rw [List.length_map]; show _ + 1 ≤ _; omega)) ⟨topK k.toNat (vals (pick R done) r.2.1) ++ [r.2.2], .inl (by rw [List.map_append]; rfl), fun ms hp hs => wp_none (wp_some (we_sub (h := we_name 0 (q := we_int (wix_tup rfl ⟨_, rfl, wsl_lst (we_name 4 (q := we_name 9 (q := ⟨_, _, .inl r.2.1, rfl, rfl, hD, ?_, ?_⟩)))⟩)))))⟩⟩
    · unfold highD
      rw [List.length_map, sizeLine_eq]; have := hfew done; omega
    · refine wss_nil ⟨_, _, _, _, _, _, rfl, ?_⟩
      rw [hpk, htk, sortD_of hp hs, cutD_map, cut_to _ (by omega)]
      have e : putA (highD k (pick R done)) (.inl r.2.1) (.lst ((List.take k.toNat (sortD (topK k.toNat (vals (pick R done) r.2.1) ++ [r.2.2]))).map D.int)) = highD k (pick R done ++ [(r.2.1, r.2.2)]) := by
        unfold highD
        rw [putA_map, dkeys_snoc]
        apply List.map_congr_left
        intro k' _
        rw [vals_snoc]
        by_cases e : k' = r.2.1
        · subst e
          rw [if_pos rfl, if_pos rfl]
          show (_, D.lst ((topK k.toNat (topK k.toNat _ ++ [r.2.2])).map D.int)) = _
          rw [topK_step]
        · rw [if_neg e, if_neg (Ne.symm e), List.append_nil]
      rw [e]
      funext x
      by_cases h1 : x = f
      · subst h1; rw [Mem.upd_ne hfp, Mem.upd_same, Mem.upd_same]
      · by_cases h2 : x = p
        · subst h2; rw [Mem.upd_same, Mem.upd_ne h1, Mem.upd_same]
        · rw [Mem.upd_ne h2, Mem.upd_ne h1, Mem.upd_ne h2, Mem.upd_ne h1, Mem.upd_ne h2]
  · rintro ρ μ' ⟨o3, o6, o7, o8, o9, o10, rfl, rfl⟩
    rw [List.length_map, List.length_map, List.take_length]
    refine wss_cons (ws_ret (we_callB bt_sorted T.b_sorted (h := wa_cons (h := we_name 5 (q := wa_nil (wc_sortedI (ns := intsN (js.filter fun j => decide (firsts R size j < k.toNat))) (.inr ⟨f, rfl, by rw [Mem.upd_same, nD_intsN]⟩) fun ms hp hs => ⟨μ, fun x o e => ?_, ?_⟩))))))
    · have h1 : x ≠ p := fun z => by subst z; rw [hp] at e; cases e
      have h2 : x ≠ f := fun z => by subst z; rw [hfn'] at e; cases e
      rw [Mem.upd_ne h2, Mem.upd_ne h1]; exact e
    · have e : ms = intsN (keptF k.toNat size R) := by
        refine intsN_sorted ?_ (hp.trans ?_) hs
        · exact List.Pairwise.sublist List.filter_sublist List.pairwise_lt_range
        · refine List.Perm.map _ ?_
          have e2 : keptF k.toNat size R = ((List.range R.length).filter (inB R size)).filter fun j => decide (firsts R size j < k.toNat) := by
            rw [List.filter_filter]
            unfold keptF
            exact List.filter_congr fun j _ => Bool.and_comm _ _
          rw [e2]
          exact hjs'.filter _
      rw [e, ← nD_intsN]
      exact q
end K76
namespace K76
open PySem L2 DL Win
variable {P : Program} {w : World} {K : PySem.W.Frag} {mg : Str → Option Value} {base : Heap} {C : Addr}

theorem aged_inn {b : Bool} {key span : Int} {es : List Ent} (h : ∀ e ∈ es, InnR [key] span e) : ∀ r ∈ agedF b es, r.2.1 = key ∧ -1 ≤ r.2.2 ∧ r.2.2 ≤ span - 2 := by
  induction es with
  | nil => intro r hr; cases hr
  | cons x es ih =>
    intro r hr
    have h' : ∀ e ∈ es, InnR [key] span e := fun e he => h e (by simp [he])
    cases x with
    | tick n => exact ih h' r hr
    | row k v =>
      rcases List.mem_cons.mp hr with rfl | hr
      · have := h (.row k v) (by simp)
        obtain ⟨h1, h2⟩ := this
        simp at h1
        exact ⟨h1, h2⟩
      · exact ih h' r hr
theorem few_kept {b : Bool} {size k key : Int} {es : List Ent} (hok : ∀ e ∈ es, e.ok) (h : ∀ e ∈ es, InnR [key] 4 e) : (keptE b size k es).length ≤ 4 * k.toNat := by
  let R := agedF b es
  let t : Int → Nat → Bool := fun v j => match R[j]? with | some r => decide (r.2.1 = key ∧ r.2.2 = v) | none => false
  let kb := keptB k.toNat size R
  have hf : Falls R := aged_falls hok
  have hin := aged_inn (b := b) h
  have f : ∀ v, cP R.length (fun j => kb j && t v j) ≤ k.toNat := fun v => kept_few hf key v
  have s1 := cP_split R.length kb (t (-1))
  have s2 := cP_split R.length (fun j => kb j && !t (-1) j) (t 0)
  have s3 := cP_split R.length (fun j => (kb j && !t (-1) j) && !t 0 j) (t 1)
  have s4 := cP_split R.length (fun j => ((kb j && !t (-1) j) && !t 0 j) && !t 1 j) (t 2)
  have m2 : cP R.length (fun j => (kb j && !t (-1) j) && t 0 j) ≤ cP R.length (fun j => kb j && t 0 j) := cP_le fun j _ g => by
    simp only [Bool.and_eq_true] at g ⊢; exact ⟨g.1.1, g.2⟩
  have m3 : cP R.length (fun j => ((kb j && !t (-1) j) && !t 0 j) && t 1 j) ≤ cP R.length (fun j => kb j && t 1 j) := cP_le fun j _ g => by
    simp only [Bool.and_eq_true] at g ⊢; exact ⟨g.1.1.1, g.2⟩
  have m4 : cP R.length (fun j => (((kb j && !t (-1) j) && !t 0 j) && !t 1 j) && t 2 j) ≤ cP R.length (fun j => kb j && t 2 j) := cP_le fun j _ g => by
    simp only [Bool.and_eq_true] at g ⊢; exact ⟨g.1.1.1.1, g.2⟩
  have z : cP R.length (fun j => (((kb j && !t (-1) j) && !t 0 j) && !t 1 j) && !t 2 j) = 0 := cP_zero fun j hj => by
    have e := List.getElem?_eq_getElem hj
    have hi := hin R[j] (List.getElem_mem hj)
    have tv : ∀ v, t v j = decide (R[j].2.1 = key ∧ R[j].2.2 = v) := fun v => by simp only [t]; rw [e]
    rw [tv, tv, tv, tv]
    have : R[j].2.2 = -1 ∨ R[j].2.2 = 0 ∨ R[j].2.2 = 1 ∨ R[j].2.2 = 2 := by omega
    rcases this with q | q | q | q <;> simp [hi.1, q]
  have e0 : (keptE b size k es).length = cP R.length kb := by
    show ((List.range R.length).filter kb).length = _
    unfold cP; rw [List.countP_eq_length_filter]
  have f1 := f (-1)
  have f2 := f 0
  have f3 := f 1
  have f4 := f 2
  omega
theorem kept_le {b : Bool} {size k : Int} {es : List Ent} : (keptE b size k es).length ≤ es.length := by
  have h1 := (keptE_sub b size k es).length_le
  rw [List.length_range] at h1
  exact Nat.le_trans h1 (rowsF_len es 0)
theorem keptE_nil (b : Bool) (size k : Int) : keptE b size k [] = [] := rfl
theorem Stair.start {μ : Mem} {b : Bool} {size k : Int} {z h : Addr} (h1 : μ z = some (.ins C (stF b size k 0 0 h))) (h2 : μ h = some (.dct [])) (h3 : h ≠ z) : Stair C b size k [] z h μ := ⟨h1, h2, h3⟩
theorem Stair.fr {μ μ' : Mem} {b : Bool} {size k : Int} {es : List Ent} {z h : Addr} (S : Stair C b size k es z h μ) (h1 : μ' z = μ z) (h2 : μ' h = μ h) : Stair C b size k es z h μ' := ⟨h1.trans S.obj, h2.trans S.dct, S.ne⟩
theorem slice_ents (es : List Ent) (n : Nat) : cutD (es.map Ent.enc) none (some ((n : Int) + 1)) = (es.take (n + 1)).map Ent.enc := by
  rw [cutD_map, cut_to _ (by omega)]
  have : ((n : Int) + 1).toNat = n + 1 := by omega
  rw [this]

/-! ### long_is_right -/
def sp_long_is_right : DSp := fun ds μ Q => ∃ (a : Addr) (l : List D) (key : Int), ds = [.loc a, .int key] ∧ μ a = some (.lst l) ∧ IsDr l ∧ 0 ≤ key ∧ key < 10 ∧ ∀ μ', Q (.bl true) μ'
theorem sc_long_is_right : FnScope ["d", "key", "kind", "window", "entries", "stairs", "at", "answer", "aged", "due"] ["d", "key"] (defScope s_long_is_right) := ⟨rfl, rfl, rfl, by decide +kernel, rfl, by decide +kernel, by decide +kernel⟩
theorem ok_long_is_right (T : Txt K mg C) : FnD P w K mg base 6 "_law_long_is_right" sp_long_is_right := by
  refine TF.ok 5 T.f_long_is_right sc_long_is_right (fun ds μ Q ⟨_, _, _, h, _⟩ => by rw [h]; rfl) fun ds μ Q h => ?_
  obtain ⟨a, l, key, rfl, hm, hl, hy0, hy1, q⟩ := h
  refine wss_cons (ws_set 2 (h := we_call (ok_pick T) (h := wa_cons (h := we_name 0 (q := wa_cons (h := we_lst (wa_cons (h := we_str (wa_cons (h := we_str (wa_nil ⟨szb rfl, wa_nil ⟨a, l, _, rfl, hm, hl, by decide, by decide, fun l1 x hl1 hx => ?_⟩⟩)))))))))))
  obtain ⟨b, rfl⟩ : ∃ b : Bool, x = .str (if b then "rows" else "ticks") := by
    simp only [List.mem_cons, List.mem_nil_iff, or_false] at hx
    rcases hx with rfl | rfl
    · exact ⟨true, rfl⟩
    · exact ⟨false, rfl⟩
  refine wss_cons (ws_set 3 (h := we_tup (wa_cons (h := we_name 2 (q := wa_cons (h := we_bin (we_int (we_bin (we_call (ok_draw T) (h := wa_cons (h := we_name 0 (q := wa_cons (h := we_int (wa_nil ⟨a, l1, 3, rfl, Mem.upd_same, hl1, by decide, by decide, fun l2 r2 hl2 r20 r21 => ?_⟩))))))))))))))
  refine we_call (ok_draw T) (h := wa_cons (h := we_name 0 (q := wa_cons (h := we_int (wa_nil ⟨a, l2, 300, rfl, Mem.upd_same, hl2, by decide, by decide, fun l3 r3 hl3 r30 r31 => wo_mul (by unfold CMul; omega) (wo_sub ?_)⟩)))))
  refine wa_cons (h := we_bin (we_int (we_call (ok_draw T) (h := wa_cons (h := we_name 0 (q := wa_cons (h := we_int (wa_nil ⟨a, l3, 2, rfl, Mem.upd_same, hl3, by decide, by decide, fun l4 r4 hl4 r40 r41 => wo_add (wa_nil ⟨szb rfl, ?_⟩)⟩))))))))
  have hmul : 0 ≤ r2 * r3 ∧ r2 * r3 ≤ 598 := by
    have : r2 = 0 ∨ r2 = 1 ∨ r2 = 2 := by omega
    rcases this with rfl | rfl | rfl <;> omega
  generalize r2 * r3 = prod at hmul
  rw [Mem.upd_upd, Mem.upd_upd, Mem.upd_upd]
  refine wss_cons (ws_set 4 (h := we_call (ok_long_stream T) (h := wa_cons (h := we_name 0 (q := wa_cons (h := we_name 3 (q := wa_cons (h := we_lst (wa_cons (h := we_name 1 (q := wa_nil ⟨szb rfl, wa_cons (h := we_int (wa_nil ⟨a, l4, b, 1000 - prod, 1 + r4, 4, [key], rfl, Mem.upd_same, hl4, by omega, by omega, ⟨by simp, by simp, by simp; omega⟩, by decide, by decide, fun l5 es hl5 hok hlen hinn => ?_⟩))⟩)))))))))))
  generalize hsz : 1000 - prod = size
  generalize hkk : 1 + r4 = k
  have hs0 : 1 ≤ size := by omega
  have hk0 : 1 ≤ k := by omega
  have hk1 : k ≤ 2 := by omega
  refine wss_cons (ws_set 5 (h := we_make T.k_Stairs (ok_Stairs___init__ T) (h := wa_cons (h := we_name 3 (q := wa_nil fun z hz => ⟨z, b, size, k, rfl, Mem.upd_same, fun h μ' hh hne hobj hdct hfr => ⟨rfl, ?_⟩⟩)))))
  have O0 : Stair C b size k [] z h μ' := Stair.start hobj hdct hne
  have hfew : ∀ n, (keptE b size k (es.take n)).length < 60 := fun n => by
    have := few_kept (b := b) (size := size) (k := k) (key := key) (es := es.take n) (fun e he => hok e (List.mem_of_mem_take he)) fun e he => hinn e (List.mem_of_mem_take he)
    omega
  refine wss_cons (ws_for (h := wi_range1 T.b_range (h := wa_cons (h := we_callB bt_len T.b_len (h := wa_cons (h := we_name 4 (q := wa_nil (wc_len_tup (wa_nil ⟨_, rfl, by rw [List.length_map]; omega, ?_⟩)))))))))
  rw [List.length_map]
  refine ⟨[6], fun i ρ μ1 => ∃ o6 o7 o8 o9, ρ = [some (.loc a), some (.int key), some (.str (if b then "rows" else "ticks")), some (encW b size k), some (.tup (es.map Ent.enc)), some (.loc z), o6, o7, o8, o9] ∧ Stair C b size k (es.take i) z h μ1, ⟨none, none, none, none, rfl, O0⟩, ?_, ?_⟩
  · rintro i d ρ μ1 hd ⟨o6, o7, o8, o9, rfl, O⟩
    obtain ⟨hi, rfl⟩ := rangeD_get hd
    rw [Int.zero_add]
    have hi' : i < es.length := by simpa using hi
    have he := List.getElem?_eq_getElem hi'
    generalize es[i] = e at he
    have htk : es.take (i + 1) = es.take i ++ [e] := take_snoc he
    have hat : atI (es.map Ent.enc) (i : Int) = some e.enc := atI_map Ent.enc (by omega) (by simpa using he)
    have hoe : e.ok := hok e (List.mem_of_getElem? he)
    have hkp := hfew (i + 1)
    rw [htk] at hkp
    refine wg_name 6 (q := ?_)
    refine wss_cons (ws_set 7 (h := we_meth T.k_Stairs.cl (ok_Stairs_feed T) (h := we_name 5 (q := ⟨z, _, rfl, O.obj, rfl, wa_cons (h := we_sub (h := we_name 4 (q := we_name 6 (q := wix_tup hat (wa_nil ⟨z, h, b, size, k, es.take i, e, rfl, O, fun x hx => hok x (List.mem_of_mem_take hx), hoe, by omega, hfew i, hkp, fun μ2 O2 _ => ?_⟩)))))⟩))))
    rw [← htk] at O2 ⊢
    have hok1 : ∀ x ∈ es.take (i + 1), x.ok := fun x hx => hok x (List.mem_of_mem_take hx)
    have hl1' : (es.take (i + 1)).length ≤ 10000 := by rw [List.length_take]; omega
    have hsl := slice_ents es i
    have h60 := hfew (i + 1)
    have hal := Nat.le_trans (agedF_len b (es.take (i + 1))) hl1'
    have hkeys := agedF_keys (b := b) hok1
    have hfalls := aged_falls (b := b) hok1
    generalize hes' : es.take (i + 1) = es' at *
    refine wss_cons (ws_if (wt_cmp (h := we_bin (we_name 6 (q := we_int (wo_add (we_callB bt_len T.b_len (h := wa_cons (h := we_name 4 (q := wa_nil (wc_len_tup (wo_gt ⟨_, rfl, fun hk => ?_, fun hk => wss_nil (wss_nil ⟨_, _, _, _, rfl, by rw [hes']; exact O2⟩)⟩))))))))))))
    refine wss_cons (ws_set 8 (h := we_call (ok_aged T) (h := wa_cons (h := we_name 3 (q := wa_cons (h := we_slice (we_name 4 (q := wp_none (wp_some (we_bin (we_name 6 (q := we_int (wo_add ⟨_, rfl, wsl_tup (wa_nil ?_)⟩)))))))))))))
    rw [hsl]
    refine ⟨b, size, k, es', rfl, by omega, ?_⟩
    refine wss_cons (ws_set 9 (h := we_call (ok_lot_told T) (h := wa_cons (h := we_name 3 (q := wa_cons (h := we_name 8 (q := wa_cons (h := we_listRg T.b_list (h := wrg_1 T.b_range (h := we_callB bt_len T.b_len (h := wa_cons (h := we_name 8 (q := wa_nil (wc_len_lst ⟨_, rfl, by rw [len_enc]; unfold RgOk; omega, ?_⟩))))))))))))))
    rw [len_enc]
    have e0 : rangeD 0 ((((agedF b es').length : Int)) - 0).toNat = nD (List.range (agedF b es').length) := by rw [Int.sub_zero]; exact range_nD _
    first | rw [e0] | rw [range_nD]
    refine wa_cons (h := we_int (wa_nil ⟨b, size, k, 0, agedF b es', List.range (agedF b es').length, _, rfl, .inl rfl, by omega, by omega, fun j hj => List.mem_range.mp hj, hkeys, ?_⟩))
    rw [← told_due hk0]
    refine wss_cons (ws_if (wt_ww (ww_or (wt_not (wt_val (h := we_call (ok_is_window_told T) (h := wa_cons (h := we_name 7 (q := wa_nil ⟨_, rfl, toldK_len (by omega), _, rfl, fun _ => ?_, fun z => (by exact ffE z)⟩)))))))))
    refine ww_or1 (wt_cmp (h := we_name 7 (q := we_name 9 (q := wo_neP 3 (encT_nb _) (encT_nb _) fun c hc => ⟨_, rfl, fun z => absurd rfl (hc.mp z), fun _ => wss_nil ?_⟩))))
    refine wss_cons (ws_if (wt_ww (ww_or (wt_not (wt_val (h := we_call (ok_is_ints T) (h := wa_cons (h := we_prop T.k_Stairs.cl (ok_Stairs_kept T) (h := we_name 5 (q := ⟨z, _, rfl, O2.obj, ⟨z, h, b, size, k, es', _, rfl, O2, keptE_sub b size k es', by omega, wa_nil ⟨intsN (keptE b size k es'), by rw [nD_intsN], by rw [List.length_map]; omega, true, rfl, fun _ => ?_, fun z => (by exact ffE z)⟩⟩⟩))))))))))
    refine ww_or1 (wt_cmp (h := we_callT bt_list T.b_list (h := wa_cons (h := we_prop T.k_Stairs.cl (ok_Stairs_kept T) (h := we_name 5 (q := ⟨z, _, rfl, O2.obj, ⟨z, h, b, size, k, es', _, rfl, O2, keptE_sub b size k es', by omega, wa_nil (wc_list (.inr (.inl rfl)) ?_)⟩⟩))))))
    refine we_call (ok_kept_of_long T) (h := wa_cons (h := we_name 3 (q := wa_cons (h := we_name 8 (q := wa_nil ⟨b, size, k, agedF b es', rfl, by omega, hk0, by omega, hkeys, hfalls, wo_neP 1 (ints_nb _) (ints_nb _) fun c hc => ⟨_, rfl, fun z => absurd rfl (hc.mp z), fun _ => wss_nil (wss_nil (wss_nil ⟨_, _, _, _, rfl, by rw [hes']; exact O2⟩))⟩⟩)))))
  · rintro ρ μ1 ⟨o6, o7, o8, o9, rfl, O⟩
    exact wss_cons (ws_ret' (we_bl (q _)))
end K76
namespace K76
open PySem L2 DL Win
variable {P : Program} {w : World} {K : PySem.W.Frag} {mg : Str → Option Value} {base : Heap} {C : Addr}
abbrev NL : List Str := ["script", "d", "windows", "keys", "k", "most", "streams", "window", "objects", "side", "at", "answer"]
theorem sc_law : FnScope NL ["script"] (defScope s_law) := ⟨rfl, rfl, rfl, by decide +kernel, rfl, by decide +kernel, by decide +kernel⟩
structure W3 where
  b : Bool
  size : Int
  k : Int
def W3.enc (x : W3) : D := encW x.b x.size x.k
def W3.ok (x : W3) : Prop := 1 ≤ x.size ∧ x.size ≤ 1000 ∧ 1 ≤ x.k ∧ x.k ≤ 4
theorem perm_two {A B : D} {ys : List D} (h : ys.Perm [A, B]) : ys = [A, B] ∨ ys = [B, A] := by
  have hl := h.length_eq
  match ys, hl with
  | [y0, y1], _ =>
    have : y0 ∈ [A, B] := h.mem_iff.mp (by simp)
    simp at this
    rcases this with rfl | rfl
    · left
      have := List.Perm.cons_inv h
      rw [List.perm_singleton] at this
      rw [this]
    · right
      have h2 : [y0, y1].Perm [y0, A] := h.trans (List.Perm.swap _ _ _)
      have := List.Perm.cons_inv h2
      rw [List.perm_singleton] at this
      rw [this]
theorem told_nil (b : Bool) (size k : Int) : encT (toldE b size k []) = .tup [] := by
  have : toldE b size k [] = [] := by
    unfold toldE toldK
    have e : sortA (dkeys (pick (rowsF 0 []) (keptE b size k []))) = [] := List.Perm.eq_nil (sortA_perm [])
    rw [e]; rfl
  rw [this]; rfl
abbrev St (C : Addr) (x : W3) (es : List Ent) (n : Nat) (z h : Addr) (μ : Mem) : Prop := Stair C x.b x.size x.k (es.take n) z h μ
/-- both stairs and the drawing list -/
structure Two (C a z0 h0 z1 h1 : Addr) (x0 x1 : W3) (es0 es1 : List Ent) (n0 n1 : Nat) (μ : Mem) : Prop where
  s0 : St C x0 es0 n0 z0 h0 μ
  s1 : St C x1 es1 n1 z1 h1 μ
  dr : ∃ l, μ a = some (.lst l) ∧ IsDr l
structure Apart (a z0 h0 z1 h1 : Addr) : Prop where
  a1 : z1 ≠ z0
  a2 : z1 ≠ h0
  a3 : h1 ≠ z0
  a4 : h1 ≠ h0
  a5 : a ≠ z0
  a6 : a ≠ h0
  a7 : a ≠ z1
  a8 : a ≠ h1
theorem Two.go0 {a z0 h0 z1 h1 : Addr} {x0 x1 : W3} {es0 es1 : List Ent} {n0 n1 n : Nat} {μ μ' : Mem} (A : Apart a z0 h0 z1 h1) (T : Two C a z0 h0 z1 h1 x0 x1 es0 es1 n0 n1 μ) (S : St C x0 es0 n z0 h0 μ') (f : ∀ b, b ≠ z0 → b ≠ h0 → μ' b = μ b) : Two C a z0 h0 z1 h1 x0 x1 es0 es1 n n1 μ' :=
  ⟨S, Stair.fr T.s1 (f _ A.a1 A.a2) (f _ A.a3 A.a4), by rw [f _ A.a5 A.a6]; exact T.dr⟩
theorem Two.go1 {a z0 h0 z1 h1 : Addr} {x0 x1 : W3} {es0 es1 : List Ent} {n0 n1 n : Nat} {μ μ' : Mem} (A : Apart a z0 h0 z1 h1) (T : Two C a z0 h0 z1 h1 x0 x1 es0 es1 n0 n1 μ) (S : St C x1 es1 n z1 h1 μ') (f : ∀ b, b ≠ z1 → b ≠ h1 → μ' b = μ b) : Two C a z0 h0 z1 h1 x0 x1 es0 es1 n0 n μ' :=
  ⟨Stair.fr T.s0 (f _ A.a1.symm A.a3.symm) (f _ A.a2.symm A.a4.symm), S, by rw [f _ A.a7 A.a8]; exact T.dr⟩
theorem take_more {es : List Ent} {n : Nat} (h : es.length ≤ n) : es.take (n + 1) = es.take n := by rw [List.take_of_length_le h, List.take_of_length_le (by omega)]
def ObjI (C a : Addr) (l7 : List D) (x0 x1 : W3) (es0 es1 : List Ent) (μ0 : Mem) : Nat → List D → Mem → Prop
  | 0, acc, μ' => acc = [] ∧ μ0 = μ'
  | 1, acc, μ' => ∃ z0 h0, acc = [.loc z0] ∧ St C x0 es0 0 z0 h0 μ' ∧ a ≠ z0 ∧ a ≠ h0 ∧ μ' a = some (.lst l7)
  | _ + 2, acc, μ' => ∃ z0 h0 z1 h1, acc = [.loc z0, .loc z1] ∧ Apart a z0 h0 z1 h1 ∧ Two C a z0 h0 z1 h1 x0 x1 es0 es1 0 0 μ'
set_option maxHeartbeats 1000000 in
theorem body_law (T : Txt K mg C) (base : Heap) (ds : List D) (μ : Mem) (Q : D → Mem → Prop) (h : spLaw ds μ Q) : WSs (gamF P w K mg base NL (defScope s_law) 6) (defBody s_law) (startD NL ds) μ { nx := fun _ μ1 => Q .non μ1, rt := Q } := by
  obtain ⟨ns, rfl, -, q⟩ := h
  refine wss_cons (ws_set 1 (h := we_call (ok_begin T) (h := wa_cons (h := we_name 0 (q := wa_nil ⟨ns, rfl, fun a l hl _ => ?_⟩)))))
  refine wss_cons (ws_set 2 (h := we_call (ok_shuffled T) (h := wa_cons (h := we_name 1 (q := wa_cons (h := we_lst (wa_cons (h := we_call (ok_window T) (h := wa_cons (h := we_name 1 (q := wa_cons (h := we_str (wa_cons (h := we_int (wa_nil ⟨a, l, _, 40, rfl, Mem.upd_same, hl, by decide, by decide, fun l1 s1 k1 hl1 g1 g2 g3 g4 => ?_⟩)))))))))))))))
  refine wa_cons (h := we_call (ok_window T) (h := wa_cons (h := we_name 1 (q := wa_cons (h := we_str (wa_cons (h := we_int (wa_nil ⟨a, l1, _, 1000, rfl, Mem.upd_same, hl1, by decide, by decide, fun l2 s2 k2 hl2 g5 g6 g7 g8 => wa_nil ⟨szb rfl, wa_nil ?_⟩⟩))))))))
  refine ⟨a, l2, _, rfl, Mem.upd_same, hl2, by simp, fun l3 ys hl3 hys => ?_⟩
  rw [Mem.upd_upd, Mem.upd_upd, Mem.upd_upd]
  obtain ⟨x0, x1, hx0, hx1, rfl⟩ : ∃ x0 x1 : W3, x0.ok ∧ x1.ok ∧ ys = [x0.enc, x1.enc] := by
    rcases perm_two hys with e | e
    · exact ⟨⟨true, s1, k1⟩, ⟨false, s2, k2⟩, ⟨g1, g2, g3, g4⟩, ⟨g5, g6, g7, g8⟩, e⟩
    · exact ⟨⟨false, s2, k2⟩, ⟨true, s1, k1⟩, ⟨g5, g6, g7, g8⟩, ⟨g1, g2, g3, g4⟩, e⟩
  refine wss_cons (ws_setC 3 (h := we_lc [("k", 4)] (h := wi_range1 T.b_range (h := wa_cons (h := we_bin (we_int (we_call (ok_draw T) (h := wa_cons (h := we_name 1 (q := wa_cons (h := we_int (wa_nil ⟨a, l3, 3, rfl, Mem.upd_same, hl3, by decide, by decide, fun l4 r4 hl4 r40 r41 => wo_add (wa_nil ⟨_, rfl, by omega, ?_⟩)⟩))))))))))))
  rw [Mem.upd_upd]
  refine ⟨by rw [rangeD_length]; exact sz1000 (by omega), [4], fun i acc μ' => ∃ l' ks, acc = ks.map D.int ∧ ks.length = i ∧ (∀ k ∈ ks, 0 ≤ k ∧ k < 10) ∧ μ' = μ.upd a (.lst l') ∧ IsDr l', by simp, ⟨l4, [], rfl, rfl, by simp, rfl, hl4⟩, ?_, ?_⟩
  · rintro i d acc μ' hd ⟨l4, ks, rfl, rfl, hks, rfl, hl4⟩
    refine wg_name 4 (q := wts_nil ⟨fun _ => ?_, fun z => (nomatch z)⟩)
    refine we_call (ok_draw T) (h := wa_cons (h := we_name 1 (q := wa_cons (h := we_int (wa_nil ⟨a, l4, 10, rfl, Mem.upd_same, hl4, by decide, by decide, fun l5 r5 hl5 r50 r51 => ⟨l5, ks ++ [r5], by rw [List.map_append]; rfl, by rw [List.length_append]; rfl, fun k hk => ?_, by rw [Mem.upd_upd], hl5⟩⟩)))))
    rcases List.mem_append.mp hk with hk | hk
    · exact hks k hk
    · simp at hk; subst hk; exact ⟨r50, r51⟩
  rintro acc μ' ⟨l5, keys, rfl, hkl, hks, rfl, hl5⟩
  rw [rangeD_length] at hkl
  have hK : KeysOk keys := ⟨by omega, by omega, hks⟩
  refine wss_mid (fun ρ1 μ1 => ∃ most l', ρ1 = [some (.lsr (ns.map .int)), some (.loc a), some (.lst [x0.enc, x1.enc]), some (.lst (keys.map .int)), none, some (.int most), none, none, none, none, none, none] ∧ μ1 = μ.upd a (.lst l') ∧ IsDr l' ∧ 0 ≤ most ∧ most ≤ 40) (ws_set 5 (h := we_ifExp (wt_cmp (h := we_call (ok_draw T) (h := wa_cons (h := we_name 1 (q := wa_cons (h := we_int (wa_nil ⟨a, l5, 16, rfl, Mem.upd_same, hl5, by decide, by decide, fun l6 r6 hl6 _ _ => we_int (wo_eqI ⟨_, rfl, fun _ => we_int ⟨40, l6, rfl, by rw [Mem.upd_upd], hl6, by decide, by decide⟩, fun _ => we_int ⟨20, l6, rfl, by rw [Mem.upd_upd], hl6, by decide, by decide⟩⟩)⟩))))))))) ?_
  rintro ρ1 μ1 ⟨most, l6, rfl, rfl, hl6, hm0, hm1⟩
  -- the streams
  refine wss_cons (ws_setLc 6 [("window", 7)] (h := wi_lst (we_name 2 (q := ⟨_, rfl, ?_⟩))))
  refine ⟨szb rfl, [7], fun i acc μ' => ∃ (l' : List D) (ess : List (List Ent)), acc = ess.map (fun es => D.tup (es.map Ent.enc)) ∧ ess.length = i ∧ (∀ es ∈ ess, (∀ e ∈ es, e.ok) ∧ es.length ≤ 40 ∧ es.length ≤ most.toNat) ∧ μ' = μ.upd a (.lst l') ∧ IsDr l', by simp, ⟨l6, [], rfl, rfl, by simp, rfl, hl6⟩, ?_, ?_⟩
  · rintro i d acc μ' hd ⟨l7, ess, rfl, rfl, hess, rfl, hl7⟩
    obtain ⟨x, hx, rfl⟩ : ∃ x : W3, x.ok ∧ d = x.enc := by
      have := List.mem_of_getElem? hd
      simp at this
      rcases this with rfl | rfl
      · exact ⟨x0, hx0, rfl⟩
      · exact ⟨x1, hx1, rfl⟩
    refine wg_name 7 (q := wts_nil ⟨fun _ => ?_, fun z => (nomatch z)⟩)
    refine we_call (ok_stream T) (h := wa_cons (h := we_name 1 (q := wa_cons (h := we_name 7 (q := wa_cons (h := we_name 3 (q := wa_cons (h := we_name 5 (q := wa_nil ⟨a, l7, x.b, x.size, x.k, most, keys, rfl, Mem.upd_same, hl7, hx.1, hx.2.1, hK, hm0, by omega, fun l8 es hl8 hok hlen hlm => ⟨l8, ess ++ [es], by rw [List.map_append]; rfl, by rw [List.length_append]; rfl, fun e he => ?_, by rw [Mem.upd_upd], hl8⟩⟩)))))))))
    rcases List.mem_append.mp he with he | he
    · exact hess e he
    · simp at he; subst he; exact ⟨hok, by omega, by omega⟩
  rintro acc μ' ⟨l7, ess, rfl, hel, hess, rfl, hl7⟩
  obtain ⟨es0, es1, rfl⟩ : ∃ es0 es1, ess = [es0, es1] := by
    match ess, hel with
    | [e0, e1], _ => exact ⟨e0, e1, rfl⟩
  have he0 := hess es0 (by simp)
  have he1 := hess es1 (by simp)
  have hμa : (μ.upd a (.lst l7)) a = some (.lst l7) := Mem.upd_same
  generalize μ.upd a (.lst l7) = μ0 at hμa
  -- the objects
  refine wss_cons (ws_setC 8 (h := we_lc [("window", 7)] (h := wi_lst (we_name 2 (q := ⟨_, rfl, ?_⟩)))))
  refine ⟨szb rfl, [7], ObjI C a l7 x0 x1 es0 es1 μ0, by simp, ⟨rfl, rfl⟩, ?_, ?_⟩
  · rintro i d acc μ' hd hI
    match i, hd, hI with
    | 0, hd, ⟨e1, e2⟩ =>
      subst e1; subst e2
      have hd' := (Option.some.inj hd).symm
      subst hd'
      refine wg_name 7 (q := wts_nil ⟨fun _ => ?_, fun z => (nomatch z)⟩)
      refine we_make T.k_Stairs (ok_Stairs___init__ T) (h := wa_cons (h := we_name 7 (q := wa_nil fun z hz => ⟨z, x0.b, x0.size, x0.k, rfl, Mem.upd_same, fun h μ' hh hne hobj hdct hfr => ⟨rfl, z, h, rfl, Stair.start hobj hdct hne, ?_, ?_, ?_⟩⟩)))
      · exact fun e => by subst e; rw [hμa] at hz; cases hz
      · intro e
        subst e
        have hne' := hne
        rw [Mem.upd_ne hne, hμa] at hh; cases hh
      · have h1 : a ≠ z := fun e => by subst e; rw [hμa] at hz; cases hz
        have h2 : a ≠ h := fun e => by subst e; rw [Mem.upd_ne hne, hμa] at hh; cases hh
        rw [hfr a h1 h2, Mem.upd_ne h1]; exact hμa
    | 1, hd, ⟨z0, h0, e1, hS, ha1, ha2, hma⟩ =>
      subst e1
      have hd' := (Option.some.inj hd).symm
      subst hd'
      refine wg_name 7 (q := wts_nil ⟨fun _ => ?_, fun z => (nomatch z)⟩)
      refine we_make T.k_Stairs (ok_Stairs___init__ T) (h := wa_cons (h := we_name 7 (q := wa_nil fun z hz => ⟨z, x1.b, x1.size, x1.k, rfl, Mem.upd_same, fun h μ2 hh hne hobj hdct hfr => ⟨rfl, z0, h0, z, h, rfl, ?_, ?_⟩⟩)))
      · have n1 : z ≠ z0 := fun e => by subst e; rw [hS.obj] at hz; cases hz
        have n2 : z ≠ h0 := fun e => by subst e; rw [hS.dct] at hz; cases hz
        have n3 : a ≠ z := fun e => by subst e; rw [hma] at hz; cases hz
        refine ⟨n1, n2, fun e => ?_, fun e => ?_, ha1, ha2, n3, fun e => ?_⟩
        · subst e; rw [Mem.upd_ne hne, hS.obj] at hh; cases hh
        · subst e; rw [Mem.upd_ne hne, hS.dct] at hh; cases hh
        · subst e; rw [Mem.upd_ne hne, hma] at hh; cases hh
      · have n1 : z ≠ z0 := fun e => by subst e; rw [hS.obj] at hz; cases hz
        have n2 : z ≠ h0 := fun e => by subst e; rw [hS.dct] at hz; cases hz
        have n3 : a ≠ z := fun e => by subst e; rw [hma] at hz; cases hz
        have n4 : h ≠ z0 := fun e => by subst e; rw [Mem.upd_ne hne, hS.obj] at hh; cases hh
        have n5 : h ≠ h0 := fun e => by subst e; rw [Mem.upd_ne hne, hS.dct] at hh; cases hh
        have n6 : a ≠ h := fun e => by subst e; rw [Mem.upd_ne hne, hma] at hh; cases hh
        have fr : ∀ b, b ≠ z → b ≠ h → μ2 b = μ' b := fun b h1 h2 => by rw [hfr b h1 h2, Mem.upd_ne h1]
        exact ⟨Stair.fr hS (fr _ n1.symm n4.symm) (fr _ n2.symm n5.symm), Stair.start hobj hdct hne, l7, by rw [fr a n3 n6]; exact hma, hl7⟩
    | n + 2, hd, _ => cases hd
  rintro acc μ1 ⟨z0, h0, z1, h1, rfl, hA, hT⟩
  -- one side, by its number
  have side : ∀ (s : Nat), s < 2 → ∀ n0 n1 μ', Two C a z0 h0 z1 h1 x0 x1 es0 es1 n0 n1 μ' → ∃ (x : W3) (es : List Ent) (z h : Addr), x.ok ∧ (∀ e ∈ es, e.ok) ∧ (es.length ≤ 40 ∧ es.length ≤ most.toNat) ∧ atI [x0.enc, x1.enc] (s : Int) = some x.enc ∧ atI [D.tup (es0.map Ent.enc), D.tup (es1.map Ent.enc)] (s : Int) = some (D.tup (es.map Ent.enc)) ∧ atI [D.loc z0, D.loc z1] (s : Int) = some (D.loc z) ∧
      St C x es (if s = 0 then n0 else n1) z h μ' ∧ (∀ n μ2, St C x es n z h μ2 → (∀ b, b ≠ z → b ≠ h → μ2 b = μ' b) → Two C a z0 h0 z1 h1 x0 x1 es0 es1 (if s = 0 then n else n0) (if s = 0 then n1 else n) μ2) := fun s hs n0 n1 μ' hT => by
    match s, hs with
    | 0, _ => exact ⟨x0, es0, z0, h0, hx0, he0.1, he0.2, rfl, rfl, rfl, hT.s0, fun n μ2 S f => hT.go0 hA S f⟩
    | 1, _ => exact ⟨x1, es1, z1, h1, hx1, he1.1, he1.2, rfl, rfl, rfl, hT.s1, fun n μ2 S f => hT.go1 hA S f⟩
  refine wss_cons (ws_if (wt_not (wt_val (h := we_callB bt_all T.b_all (h := wa_cons (h := we_lc [("side", 9)] (h := wi_range1 T.b_range (h := wa_cons (h := we_int (wa_nil ⟨_, rfl, by decide, ?_⟩))))))))))
  have e2 : rangeD 0 (2 : Int).toNat = nD (List.range 2) := rangeD_nat 2
  rw [e2]
  refine LcHyp.mp (List.range 2) (fun i : Nat => .int i) (fun _ => .bl true) [9] (by simp) (szb rfl) (fun s i hs => ?_) ?_
  · have hs2 : s < 2 := List.mem_range.mp (List.mem_of_getElem? hs)
    obtain ⟨x, es, z, h, hx, hok, ⟨hlen, _⟩, w1, w2, w3, S, _⟩ := side s hs2 0 0 _ hT
    have S0 : Stair C x.b x.size x.k [] z h μ1 := by
      have := S
      simp only [ite_self, List.take_zero] at this
      exact this
    refine wg_name 9 (q := wts_nil ⟨rfl, rfl, we_call (ok_step_is_right T) (h := wa_cons (h := we_sub (h := we_name 2 (q := we_name 9 (q := wix_lst w1 (wa_cons (h := we_tup (wa_nil ⟨szb rfl, wa_cons (h := we_sub (h := we_name 8 (q := we_name 9 (q := wix_lst w3 (wa_cons (h := we_tup (wa_nil ⟨szb rfl, wa_nil ?_⟩)))))))⟩))))))))⟩)
    exact ⟨z, h, x.b, x.size, x.k, [], by rw [told_nil]; rfl, S0, by simp, hx.2.2.1, by have := hx.2.2.2; omega, by simp, by rw [keptE_nil]; decide, rfl, rfl⟩
  refine wa_nil (wc_all (bs := (List.range 2).map fun _ => true) rfl ⟨_, rfl, fun hk => (by exact ffE hk), fun _ => wss_nil ?_⟩)
  -- all entries, by turns
  refine wss_cons (ws_for (h := wi_range1 T.b_range (h := wa_cons (h := we_name 5 (q := wa_nil ⟨_, rfl, by omega, ?_⟩)))))
  refine ⟨[10], fun i ρ μ' => ∃ o9 o10 o11, ρ = [some (.lsr (ns.map .int)), some (.loc a), some (.lst [x0.enc, x1.enc]), some (.lst (keys.map .int)), none, some (.int most), some (.lst [.tup (es0.map Ent.enc), .tup (es1.map Ent.enc)]), none, some (.lst [.loc z0, .loc z1]), o9, o10, o11] ∧ Two C a z0 h0 z1 h1 x0 x1 es0 es1 i i μ', ⟨none, none, none, rfl, hT⟩, ?_, ?_⟩
  · rintro n d ρ μ' hd ⟨o9, o10, o11, rfl, hT⟩
    obtain ⟨hi, rfl⟩ := rangeD_get hd
    rw [Int.zero_add]
    refine wg_name 10 (q := ?_)
    refine wss_cons (ws_for (h := wi_range1 T.b_range (h := wa_cons (h := we_int (wa_nil ⟨_, rfl, by decide, ?_⟩)))))
    rw [e2]
    refine ⟨[9], fun i ρ μ' => ∃ o9 o11, ρ = [some (.lsr (ns.map .int)), some (.loc a), some (.lst [x0.enc, x1.enc]), some (.lst (keys.map .int)), none, some (.int most), some (.lst [.tup (es0.map Ent.enc), .tup (es1.map Ent.enc)]), none, some (.lst [.loc z0, .loc z1]), o9, some (.int (n : Nat)), o11] ∧ Two C a z0 h0 z1 h1 x0 x1 es0 es1 (if 0 < i then n + 1 else n) (if 1 < i then n + 1 else n) μ', ⟨_, _, rfl, hT⟩, ?_, ?_⟩
    · rintro i d ρ μ2 hd ⟨o9, o11, rfl, hT⟩
      obtain ⟨s, hs, rfl⟩ := getE hd
      have hs2 : i < 2 := by
        by_cases z : i < 2
        · exact z
        · rw [List.getElem?_eq_none (by rw [List.length_range]; omega)] at hs; cases hs
      have hsi : s = i := by rw [List.getElem?_range hs2] at hs; exact (Option.some.inj hs).symm
      subst hsi
      obtain ⟨x, es, z, h, hx, hok, ⟨hlen, _⟩, w1, w2, w3, S, back⟩ := side s hs2 _ _ _ hT
      have S' : St C x es n z h μ2 := by
        have := S
        match s, hs2 with
        | 0, _ => exact this
        | 1, _ => exact this
      have back' : ∀ μ3, St C x es (n + 1) z h μ3 → (∀ b, b ≠ z → b ≠ h → μ3 b = μ2 b) → Two C a z0 h0 z1 h1 x0 x1 es0 es1 (if 0 < s + 1 then n + 1 else n) (if 1 < s + 1 then n + 1 else n) μ3 := fun μ3 S3 f => by
        have := back (n + 1) μ3 S3 f
        match s, hs2 with
        | 0, _ => exact this
        | 1, _ => exact this
      refine wg_name 9 (q := ?_)
      refine wss_cons (ws_if (wt_cmp (h := we_name 10 (q := we_callB bt_len T.b_len (h := wa_cons (h := we_sub (h := we_name 6 (q := we_name 9 (q := wix_lst w2 (wa_nil (wc_len_tup (wo_lt ⟨_, rfl, fun hk => ?_, fun hk => ?_⟩))))))))))))
      · have hk' := of_decide_eq_true hk
        rw [List.length_map] at hk'
        have hn : n < es.length := by omega
        have he := List.getElem?_eq_getElem hn
        generalize es[n] = e at he
        have htk : es.take (n + 1) = es.take n ++ [e] := take_snoc he
        have hat : atI (es.map Ent.enc) (n : Int) = some e.enc := atI_map Ent.enc (by omega) (by simpa using he)
        have klen : ∀ m, (keptE x.b x.size x.k (es.take m)).length < 60 := fun m => by
          have h1 := kept_le (b := x.b) (size := x.size) (k := x.k) (es := es.take m)
          rw [List.length_take] at h1; omega
        have hkp := klen (n + 1)
        rw [htk] at hkp
        refine wss_cons (ws_set 11 (h := we_meth T.k_Stairs.cl (ok_Stairs_feed T) (h := we_sub (h := we_name 8 (q := we_name 9 (q := wix_lst w3 ⟨z, _, rfl, S'.obj, rfl, wa_cons (h := we_sub (h := we_sub (h := we_name 6 (q := we_name 9 (q := wix_lst w2 (we_name 10 (q := wix_tup hat (wa_nil ⟨z, h, x.b, x.size, x.k, es.take n, e, rfl, S', fun y hy => hok y (List.mem_of_mem_take hy), hok e (List.mem_of_getElem? he), by have := hx.2.2.1; omega, klen n, hkp, fun μ3 O3 f3 => ?_⟩))))))))⟩))))))
        rw [← htk] at O3 ⊢
        refine wss_cons (ws_if (wt_not (wt_val (h := we_call (ok_step_is_right T) (h := wa_cons (h := we_sub (h := we_name 2 (q := we_name 9 (q := wix_lst w1 (wa_cons (h := we_slice (we_sub (h := we_name 6 (q := we_name 9 (q := wix_lst w2 (wp_none (wp_some (we_bin (we_name 10 (q := we_int (wo_add ⟨_, rfl, wsl_tup (wa_cons (h := we_sub (h := we_name 8 (q := we_name 9 (q := wix_lst w3 (wa_cons (h := we_name 11 (q := wa_nil ?_))))))))⟩)))))))))))))))))))))
        rw [slice_ents]
        refine ⟨z, h, x.b, x.size, x.k, es.take (n + 1), rfl, O3, by rw [List.length_take]; omega, hx.2.2.1, by have := hx.2.2.2; omega, fun y hy => hok y (List.mem_of_mem_take hy), klen (n + 1), true, rfl, fun z => (by exact ffE z), fun _ => wss_nil (wss_nil (wss_nil ⟨_, _, rfl, back' _ O3 f3⟩))⟩
      · have hk' := of_decide_eq_false hk
        rw [List.length_map] at hk'
        refine wss_nil (wss_nil ⟨_, _, rfl, back' _ ?_ fun _ _ _ => rfl⟩)
        have e3 : es.take (n + 1) = es.take n := take_more (by omega)
        show Stair C x.b x.size x.k (es.take (n + 1)) z h μ2
        rw [e3]; exact S'
    · rintro ρ μ2 ⟨o9, o11, rfl, hT⟩
      exact wss_nil ⟨_, _, _, rfl, hT⟩
  rintro ρ μ2 ⟨o9, o10, o11, rfl, hT⟩
  rw [rangeD_length] at hT
  refine wss_cons (ws_for (h := wi_range1 T.b_range (h := wa_cons (h := we_int (wa_nil ⟨_, rfl, by decide, ?_⟩)))))
  rw [e2]
  refine ⟨[9], fun i ρ μ' => ∃ o9, ρ = [some (.lsr (ns.map .int)), some (.loc a), some (.lst [x0.enc, x1.enc]), some (.lst (keys.map .int)), none, some (.int most), some (.lst [.tup (es0.map Ent.enc), .tup (es1.map Ent.enc)]), none, some (.lst [.loc z0, .loc z1]), o9, o10, o11] ∧ μ2 = μ', ⟨o9, rfl, rfl⟩, ?_, ?_⟩
  · rintro i d ρ μ3 hd ⟨o, rfl, rfl⟩
    obtain ⟨s, hs, rfl⟩ := getE hd
    have hs2 : s < 2 := List.mem_range.mp (List.mem_of_getElem? hs)
    obtain ⟨x, es, z, h, hx, hok, ⟨hlen, hlm⟩, w1, w2, w3, S, _⟩ := side s hs2 _ _ _ hT
    have S0 : Stair C x.b x.size x.k es z h μ2 := by
      have := S
      simp only [ite_self] at this
      have e3 : es.take most.toNat = es := List.take_of_length_le hlm
      have this2 : Stair C x.b x.size x.k (es.take most.toNat) z h μ2 := this
      rw [e3] at this2
      exact this2
    refine wg_name 9 (q := ?_)
    refine wss_cons (ws_if (wt_not (wt_val (h := we_call (ok_is_fewest T) (h := wa_cons (h := we_sub (h := we_name 2 (q := we_name 9 (q := wix_lst w1 (wa_cons (h := we_sub (h := we_name 6 (q := we_name 9 (q := wix_lst w2 (wa_cons (h := we_prop T.k_Stairs.cl (ok_Stairs_kept T) (h := we_sub (h := we_name 8 (q := we_name 9 (q := wix_lst w3 ?_))))))))))))))))))))
    refine ⟨z, _, rfl, S0.obj, ⟨z, h, x.b, x.size, x.k, es, _, rfl, S0, keptE_sub x.b x.size x.k es, ?_, wa_nil ⟨x.b, x.size, x.k, es, rfl, by omega, hx.2.2.1, by have := hx.2.2.2; omega, hok, true, rfl, fun z => (by exact ffE z), fun _ => wss_nil (wss_nil ⟨_, rfl, rfl⟩)⟩⟩⟩
    have := kept_le (b := x.b) (size := x.size) (k := x.k) (es := es)
    omega
  · rintro ρ μ3 ⟨o, rfl, rfl⟩
    obtain ⟨l8, hma, hl8⟩ := hT.dr
    have hk0 : 0 < keys.length := by omega
    have hky := hks keys[0] (List.getElem_mem hk0)
    refine wss_cons (ws_ret' (we_or (we_cmp (h := we_call (ok_draw T) (h := wa_cons (h := we_name 1 (q := wa_cons (h := we_int (wa_nil ⟨a, l8, 24, rfl, hma, hl8, by decide, by decide, fun l9 r9 hl9 _ _ => we_int (wo_gt ⟨_, rfl, fun _ => ?_, fun _ => q _⟩)⟩)))))))))
    exact we_one (we_call (ok_long_is_right T) (h := wa_cons (h := we_name 1 (q := wa_cons (h := we_sub (h := we_name 3 (q := we_int (wix_lst (atI_map D.int (by decide) (List.getElem?_eq_getElem hk0)) (wa_nil ⟨a, l9, keys[0], rfl, Mem.upd_same, hl9, hky.1, hky.2, q⟩)))))))))
end K76
open PySem PySem.W PyProof.Rows
set_option maxHeartbeats 0 in
theorem PySem.Challenge.cw_standingasks_k76_whole_stairs_holds : PySem.Challenge.rw_standingasks_k76_whole_stairs.Holds := by
  w_on; o_law; k_head; (case hw => w_witness2)
  k_fill
  refine L2.walk_of (l := PySem.Challenge.rw_standingasks_k76_whole_stairs) (n := 63) (k := 7) (x := "script") (CX := fun _ => L2.CX0) (sp := fun w => DL.toSp _ DL.spLaw) rfl (by decide) rfl ⟨rfl, by decide, by decide⟩ (fun w h Y => PySem.W.kIn_of Y) ?F (fun _ _ a ns hl _ hS => DL.law_start hl hS) (fun _ _ _ _ _ h => h)
  case F =>
    intro w mg fa h KX G hmg
    refine' (fun (C : Addr) (T : K76.Txt _ mg C) => ?main) _ ?T
    case main =>
      refine' DL.law_top (st := K76.s_law) (n := 6) KX G hmg ?a ?l ?c ?k (fun _ _ _ _ _ _ _ => rfl) K76.sc_law (fun base ds μ Q h => K76.body_law T base ds μ Q h)
      (case a => k_is); (case l => k_is); (case c => k_is); (case k => k_is)
    case T =>
      constructor
      all_goals first
        | exact PySem.W.mg_none_of KX G (by k_is)
        | (refine' DL.TF.mk KX G ?a ?l ?c ?k ?b; (case a => k_is); (case l => k_is); (case c => k_is); (case k => k_is); (case b => intro _ _ _ _ _ _ us hl; first | exact (match us, hl with | [_], _ => rfl) | exact (match us, hl with | [_, _], _ => rfl) | exact (match us, hl with | [_, _, _], _ => rfl) | exact (match us, hl with | [_, _, _, _], _ => rfl) | exact (match us, hl with | [_, _, _, _, _], _ => rfl)))
        | (refine' DL.ClsD.of KX G ?a ?pg ?hd ?po ?sa ?mk ?kc; (case a => k_is); (case pg => k_is); (case hd => k_is); (case po => k_is); (case sa => k_is); (case mk => k_is); (case kc => k_is))
        | (refine' DL.MT.of ?a ?i ?l ?c ?k ?b; (case a => k_is); (case i => k_is); (case l => k_is); (case c => k_is); (case k => k_is); (case b => intro _ _ _ _ _ _ us hl; first | exact (match us, hl with | [_], _ => rfl) | exact (match us, hl with | [_, _], _ => rfl) | exact (match us, hl with | [_, _, _], _ => rfl)))
        | (refine' DL.PrT.of ?a ?g ?t ?r ?l ?c ?k ?b; (case a => k_is); (case g => k_is); (case t => k_is); (case r => k_is); (case l => k_is); (case c => k_is); (case k => k_is); (case b => intro _ _ _ _ _ _ us hl; exact (match us, hl with | [_], _ => rfl)))
        | (unfold L2.NoAttr; k_is)
