import PyProof.Rows.All
import Wide.All
import OpenK.AllK
import Wide.FinOn
import HandS.ForMost
import HandS.SortKw
import HandS.IsInst
import HandS.Conv
import HandS.TupAny
import HandS.Wide
import HandS.Flow
import HandS.Style
import HandS.Small
import HandS.NoneIn
import HandS.More
import HandS.Property
import HandS.TupSets
import HandS.SortRule
import HandS.SortInts
import HandS.SetFor
import HandS.Strs
import HandS.Zip
import HandS.Iter
import KE.DataMinMax
import KE.KDictList
import HandS.TupLe
import PySem.Challenge.RW_standingasks_k80_whole_fewest_tellings
set_option Elab.async false
set_option linter.all false
set_option maxRecDepth 100000
/-! DL: a layer over HandS that speaks of plain data. Values are seen as data D (ints, texts, tuples, lists that no longer change) or as places of things that change (loc); Mem tells what stands at those places. A frozen part F of the abstract heap bears the data. -/
namespace DL
open PySem L2

/-! ### data -/
inductive D where
  | non | bl (b : Bool) | int (i : Int) | str (x : Str)
  | tup (l : List D) | lst (l : List D)
  /-- a list that is read alone (the script) -/
  | lsr (l : List D)
  | loc (a : Addr)
  | ty (n : String)

mutual
inductive Rep (K : PySem.W.Frag) (F : Hp) : V → D → Prop
  | non : Rep K F .non .non
  | bl (b : Bool) : Rep K F (.bl b) (.bl b)
  | int (i : Int) : Rep K F (.int i) (.int i)
  | str (x : Str) : Rep K F (.str x) (.str x)
  | tup {a : Addr} {xs : List V} {ds : List D} : SqT K F a xs → Reps K F xs ds → Rep K F (.ref a) (.tup ds)
  | lst {a : Addr} {xs : List V} {ds : List D} : F a = some (.lst xs) → Reps K F xs ds → Rep K F (.ref a) (.lst ds)
  | lsr {a : Addr} {xs : List V} {ds : List D} : SqL K F a xs → Reps K F xs ds → Rep K F (.ref a) (.lsr ds)
  | loc (a : Addr) : Rep K F (.ref a) (.loc a)
  | ty (n : String) : Rep K F (.ty n) (.ty n)
inductive Reps (K : PySem.W.Frag) (F : Hp) : List V → List D → Prop
  | nil : Reps K F [] []
  | cons {v : V} {vs : List V} {d : D} {ds : List D} : Rep K F v d → Reps K F vs ds → Reps K F (v :: vs) (d :: ds)
end

theorem same_seqT {K : PySem.W.Frag} {H H' : Hp} {a : Addr} {xs : List V} (e : Same H H') (h : SqT K H a xs) : SqT K H' a xs := by
  rcases h with (h | ⟨o, h⟩) | h
  · exact .inl (.inl (e _ _ h))
  · exact .inl (.inr ⟨o, e _ _ h⟩)
  · exact .inr h

mutual
theorem Rep.mono {K : PySem.W.Frag} {F F' : Hp} (s : Same F F') : ∀ {v : V} {d : D}, Rep K F v d → Rep K F' v d
  | _, _, .non => .non
  | _, _, .bl b => .bl b
  | _, _, .int i => .int i
  | _, _, .str x => .str x
  | _, _, .tup h hs => .tup (same_seqT s h) (Reps.mono s hs)
  | _, _, .lst h hs => .lst (s _ _ h) (Reps.mono s hs)
  | _, _, .lsr h hs => .lsr (s.seq h) (Reps.mono s hs)
  | _, _, .loc a => .loc a
  | _, _, .ty n => .ty n
theorem Reps.mono {K : PySem.W.Frag} {F F' : Hp} (s : Same F F') : ∀ {vs : List V} {ds : List D}, Reps K F vs ds → Reps K F' vs ds
  | _, _, .nil => .nil
  | _, _, .cons h hs => .cons (Rep.mono s h) (Reps.mono s hs)
end
section
variable {K : PySem.W.Frag} {F : Hp} {vs ws : List V} {ds es : List D}
theorem Reps.length : ∀ {vs : List V} {ds : List D}, Reps K F vs ds → vs.length = ds.length
  | _, _, .nil => rfl
  | _, _, .cons _ t => congrArg (· + 1) (Reps.length t)
theorem Reps.append : ∀ {vs ws : List V} {ds es : List D}, Reps K F vs ds → Reps K F ws es → Reps K F (vs ++ ws) (ds ++ es)
  | _, _, _, _, .nil, s => s
  | _, _, _, _, .cons r t, s => .cons r (Reps.append t s)
theorem Reps.get : ∀ {vs : List V} {ds : List D} {i : Nat} {d : D}, Reps K F vs ds → ds[i]? = some d → ∃ v, vs[i]? = some v ∧ Rep K F v d
  | _, _, _, _, .nil, e => by simp at e
  | _, _, 0, d, .cons r _, e => by simp at e; subst e; exact ⟨_, rfl, r⟩
  | _, _, i + 1, d, .cons _ t, e => by
    obtain ⟨u, h1, h2⟩ := Reps.get (i := i) (d := d) t (by simpa using e)
    exact ⟨u, by simpa using h1, h2⟩
theorem Reps.get' : ∀ {vs : List V} {ds : List D} {i : Nat} {v : V}, Reps K F vs ds → vs[i]? = some v → ∃ d, ds[i]? = some d ∧ Rep K F v d
  | _, _, _, _, .nil, e => by simp at e
  | _, _, 0, d, .cons r _, e => by simp at e; subst e; exact ⟨_, rfl, r⟩
  | _, _, i + 1, d, .cons _ t, e => by
    obtain ⟨u, h1, h2⟩ := Reps.get' (i := i) (v := d) t (by simpa using e)
    exact ⟨u, by simpa using h1, h2⟩
theorem Reps.take : ∀ {vs : List V} {ds : List D} (n : Nat), Reps K F vs ds → Reps K F (vs.take n) (ds.take n)
  | _, _, 0, _ => .nil
  | _, _, _ + 1, .nil => .nil
  | _, _, n + 1, .cons r t => .cons r (Reps.take n t)
theorem Reps.drop : ∀ {vs : List V} {ds : List D} (n : Nat), Reps K F vs ds → Reps K F (vs.drop n) (ds.drop n)
  | _, _, 0, r => r
  | _, _, _ + 1, .nil => .nil
  | _, _, n + 1, .cons _ t => Reps.drop n t
theorem Reps.set {v : V} {d : D} (r : Rep K F v d) : ∀ {vs : List V} {ds : List D} (i : Nat), Reps K F vs ds → Reps K F (vs.set i v) (ds.set i d)
  | _, _, _, .nil => .nil
  | _, _, 0, .cons _ t => .cons r t
  | _, _, i + 1, .cons q t => .cons q (Reps.set r i t)
theorem Reps.reverse : ∀ {vs : List V} {ds : List D}, Reps K F vs ds → Reps K F vs.reverse ds.reverse
  | _, _, .nil => .nil
  | _, _, .cons r t => by
    rw [List.reverse_cons, List.reverse_cons]
    exact Reps.append (Reps.reverse t) (.cons r .nil)
theorem Reps.eraseIdx : ∀ {vs : List V} {ds : List D} (i : Nat), Reps K F vs ds → Reps K F (vs.eraseIdx i) (ds.eraseIdx i)
  | _, _, _, .nil => .nil
  | _, _, 0, .cons _ t => t
  | _, _, i + 1, .cons q t => .cons q (Reps.eraseIdx i t)
theorem Reps.of_ints (ns : List Int) : Reps K F (ns.map V.int) (ns.map D.int) := by
  induction ns with
  | nil => exact .nil
  | cons n r ih => exact .cons (.int n) ih
theorem Reps.ints : ∀ {vs : List V} (ns : List Int), Reps K F vs (ns.map D.int) → vs = ns.map V.int
  | _, [], .nil => rfl
  | _, n :: r, .cons (.int _) t => by rw [Reps.ints r t]; rfl
theorem Reps.bls : ∀ {vs : List V} (ns : List Bool), Reps K F vs (ns.map D.bl) → vs = ns.map V.bl
  | _, [], .nil => rfl
  | _, n :: r, .cons (.bl _) t => by rw [Reps.bls r t]; rfl
end

/-! ### what changes -/
/-- a thing that changes: a list, a dict, an instance -/
inductive MO where
  | lst (ds : List D)
  | dct (kvs : List (Key × D))
  | ins (C : Addr) (fs : List (Str × D))
  | exn (fs : List (Str × D))
  | raw (o : HO)
  /-- a dict that is walked over -/
  | fdct (o : Obj) (vs : List (Key × V)) (kvs : List (Key × D))

abbrev Mem := Addr → Option MO
def Mem.upd (μ : Mem) (a : Addr) (o : MO) : Mem := fun b => if b = a then some o else μ b
def Mem.del (μ : Mem) (a : Addr) : Mem := fun b => if b = a then none else μ b
def Mem.emp : Mem := fun _ => none
theorem Mem.upd_same {μ : Mem} {a : Addr} {o : MO} : (μ.upd a o) a = some o := by unfold Mem.upd; rw [if_pos rfl]
theorem Mem.upd_ne {μ : Mem} {a b : Addr} {o : MO} (h : b ≠ a) : (μ.upd a o) b = μ b := by unfold Mem.upd; rw [if_neg h]
theorem Mem.upd_upd {μ : Mem} {a : Addr} {o u : MO} : (μ.upd a o).upd a u = μ.upd a u := by
  funext b; unfold Mem.upd; split <;> rfl
theorem Mem.del_same {μ : Mem} {a : Addr} : (μ.del a) a = none := by unfold Mem.del; rw [if_pos rfl]
theorem Mem.del_ne {μ : Mem} {a b : Addr} (h : b ≠ a) : (μ.del a) b = μ b := by unfold Mem.del; rw [if_neg h]
theorem Mem.del_upd {μ : Mem} {a : Addr} {o : MO} (h : μ a = none) : (μ.upd a o).del a = μ := by
  funext b
  show (if b = a then none else if b = a then some o else μ b) = μ b
  by_cases e : b = a
  · rw [if_pos e, e, h]
  · rw [if_neg e, if_neg e]
/-- all that stands in μ stands in μ' -/
def Mem.Sub (μ μ' : Mem) : Prop := ∀ a o, μ a = some o → μ' a = some o
theorem Mem.Sub.refl (μ : Mem) : μ.Sub μ := fun _ _ h => h
theorem Mem.Sub.trans {a b c : Mem} (h : a.Sub b) (k : b.Sub c) : a.Sub c := fun x o e => k x o (h x o e)
theorem Mem.Sub.new {μ : Mem} {a : Addr} {o : MO} (h : μ a = none) : μ.Sub (μ.upd a o) := fun b u e => by
  unfold Mem.upd; split
  · rename_i q; subst q; rw [h] at e; cases e
  · exact e

/-- a dict's entries -/
inductive KReps (K : PySem.W.Frag) (F : Hp) : List (Key × V) → List (Key × D) → Prop
  | nil : KReps K F [] []
  | cons {k : Key} {v : V} {d : D} {kvs : List (Key × V)} {kds : List (Key × D)} : Rep K F v d → KReps K F kvs kds → KReps K F ((k, v) :: kvs) ((k, d) :: kds)
inductive FReps (K : PySem.W.Frag) (F : Hp) : List (Str × V) → List (Str × D) → Prop
  | nil : FReps K F [] []
  | cons {k : Str} {v : V} {d : D} {kvs : List (Str × V)} {kds : List (Str × D)} : Rep K F v d → FReps K F kvs kds → FReps K F ((k, v) :: kvs) ((k, d) :: kds)
theorem KReps.mono {K : PySem.W.Frag} {F F' : Hp} (s : Same F F') : ∀ {a : List (Key × V)} {b : List (Key × D)}, KReps K F a b → KReps K F' a b
  | _, _, .nil => .nil
  | _, _, .cons r t => .cons (r.mono s) (KReps.mono s t)
theorem FReps.mono {K : PySem.W.Frag} {F F' : Hp} (s : Same F F') : ∀ {a : List (Str × V)} {b : List (Str × D)}, FReps K F a b → FReps K F' a b
  | _, _, .nil => .nil
  | _, _, .cons r t => .cons (r.mono s) (FReps.mono s t)
inductive RepO (K : PySem.W.Frag) (F : Hp) : HO → MO → Prop
  | lst {xs : List V} {ds : List D} : Reps K F xs ds → RepO K F (.lst xs) (.lst ds)
  | dct {kvs : List (Key × V)} {kds : List (Key × D)} : KReps K F kvs kds → RepO K F (.dK kvs) (.dct kds)
  | ins {C dx : Addr} {fs : List (Str × V)} {fds : List (Str × D)} : FReps K F fs fds → RepO K F (.ins C dx fs) (.ins C fds)
  | exn {fs : List (Str × V)} {fds : List (Str × D)} : FReps K F fs fds → RepO K F (.xd fs) (.exn fds)
  | raw (o : HO) : RepO K F o (.raw o)
  | fdct {kvs : List (Key × V)} {kds : List (Key × D)} (o : Obj) : KReps K F kvs kds → RepO K F (.frz o (.dK kvs)) (.fdct o kvs kds)
theorem RepO.mono {K : PySem.W.Frag} {F F' : Hp} (s : Same F F') {o : HO} {m : MO} (h : RepO K F o m) : RepO K F' o m := by
  cases h with
  | lst h => exact .lst (h.mono s)
  | dct h => exact .dct (h.mono s)
  | ins h => exact .ins (h.mono s)
  | exn h => exact .exn (h.mono s)
  | raw o => exact .raw o
  | fdct o h => exact .fdct o (h.mono s)

/-- the frozen part F, the heap H, what changes μ -/
structure Rel (K : PySem.W.Frag) (F H : Hp) (μ : Mem) : Prop where
  same : Same F H
  mem : ∀ a o, μ a = some o → F a = none ∧ ∃ ho, H a = some ho ∧ RepO K F ho o
/-- how the state may go on -/
structure Ext (F H : Hp) (μ : Mem) (F' H' : Hp) (μ' : Mem) : Prop where
  fr : Same F F'
  keep : ∀ a o, H a = some o → μ a = none → H' a = some o
  newF : ∀ a, F' a ≠ none → F a ≠ none ∨ μ a ≠ none ∨ H a = none
  newM : ∀ a, μ' a ≠ none → μ a ≠ none ∨ H a = none
theorem Ext.refl (F H : Hp) (μ : Mem) : Ext F H μ F H μ := ⟨Same.refl _, fun _ _ h _ => h, fun _ h => .inl h, fun _ h => .inl h⟩
theorem Ext.trans {F H F1 H1 F2 H2 : Hp} {μ μ1 μ2 : Mem} (a : Ext F H μ F1 H1 μ1) (b : Ext F1 H1 μ1 F2 H2 μ2) : Ext F H μ F2 H2 μ2 := by
  have stay : ∀ x, H1 x = none → μ x ≠ none ∨ H x = none := fun x h => by
    cases q : H x with
    | none => exact .inr rfl
    | some o =>
      refine .inl fun m => ?_
      rw [a.keep x o q m] at h; cases h
  refine ⟨a.fr.trans b.fr, fun x o h m => ?_, fun x h => ?_, fun x h => ?_⟩
  · refine b.keep x o (a.keep x o h m) ?_
    cases q : μ1 x with
    | none => rfl
    | some u =>
      rcases a.newM x (by rw [q]; simp) with z | z
      · exact absurd m z
      · rw [h] at z; cases z
  · rcases b.newF x h with z | z | z
    · exact a.newF x z
    · rcases a.newM x z with y | y
      · exact .inr (.inl y)
      · exact .inr (.inr y)
    · rcases stay x z with y | y
      · exact .inr (.inl y)
      · exact .inr (.inr y)
  · rcases b.newM x h with z | z
    · exact a.newM x z
    · exact stay x z
/-- things may be forgotten -/
theorem Rel.drop {K : PySem.W.Frag} {F H : Hp} {μ μ' : Mem} (r : Rel K F H μ) (s : μ'.Sub μ) : Rel K F H μ' := ⟨r.same, fun a o h => r.mem a o (s a o h)⟩
theorem Ext.drop {F H F1 H1 : Hp} {μ μ1 μ2 : Mem} (a : Ext F H μ F1 H1 μ1) (s : μ2.Sub μ1) : Ext F H μ F1 H1 μ2 := by
  refine ⟨a.fr, a.keep, a.newF, fun x h => a.newM x fun q => h ?_⟩
  cases e : μ2 x with
  | none => rfl
  | some o => rw [s x o e] at q; cases q
/-- a new frozen object -/
theorem Rel.fresh {K : PySem.W.Frag} {F H : Hp} {μ : Mem} (r : Rel K F H μ) {p : Addr} (h : H p = none) : F p = none ∧ μ p = none := by
  constructor
  · exact r.same.free h
  · cases q : μ p with
    | none => rfl
    | some o => obtain ⟨_, ho, e, _⟩ := r.mem p o q; rw [h] at e; cases e
theorem same_new {F : Hp} {p : Addr} {o : HO} (h : F p = none) : Same F (L2.upd F p o) := fun b u e => by
  rw [L2.upd_ne (ne_of_none e h)]; exact e
theorem Rel.layF {K : PySem.W.Frag} {F H : Hp} {μ : Mem} (r : Rel K F H μ) {p : Addr} (h : H p = none) (o : HO) :
    Rel K (L2.upd F p o) (L2.upd H p o) μ ∧ Ext F H μ (L2.upd F p o) (L2.upd H p o) μ := by
  obtain ⟨hF, hM⟩ := r.fresh h
  refine ⟨⟨fun b u e => ?_, fun a u e => ?_⟩, same_new hF, fun a u e m => ?_, fun a q => ?_, fun a q => .inl q⟩
  · by_cases hb : b = p
    · subst hb; rw [L2.upd_same] at e ⊢; exact e
    · rw [L2.upd_ne hb] at e ⊢; exact r.same b u e
  · obtain ⟨h1, ho, h2, h3⟩ := r.mem a u e
    have ha : a ≠ p := ne_of_none h2 h
    rw [L2.upd_ne ha, L2.upd_ne ha]
    exact ⟨h1, ho, h2, h3.mono (same_new hF)⟩
  · rw [L2.upd_ne (ne_of_none e h)]; exact e
  · by_cases ha : a = p
    · subst ha; exact .inr (.inr h)
    · rw [L2.upd_ne ha] at q; exact .inl q
/-- a new thing that changes -/
theorem Rel.layM {K : PySem.W.Frag} {F H : Hp} {μ : Mem} (r : Rel K F H μ) {p : Addr} (h : H p = none) {o : HO} {m : MO} (ho : RepO K F o m) :
    Rel K F (L2.upd H p o) (μ.upd p m) ∧ Ext F H μ F (L2.upd H p o) (μ.upd p m) := by
  obtain ⟨hF, hM⟩ := r.fresh h
  refine ⟨⟨fun b u e => ?_, fun a u e => ?_⟩, Same.refl _, fun a u e _ => ?_, fun a q => .inl q, fun a q => ?_⟩
  · rw [L2.upd_ne (ne_of_none e hF)]; exact r.same b u e
  · by_cases ha : a = p
    · subst ha; rw [Mem.upd_same] at e; cases e; exact ⟨hF, o, L2.upd_same, ho⟩
    · rw [Mem.upd_ne ha] at e
      obtain ⟨h1, ho, h2, h3⟩ := r.mem a u e
      exact ⟨h1, ho, by rw [L2.upd_ne ha]; exact h2, h3⟩
  · rw [L2.upd_ne (ne_of_none e h)]; exact e
  · by_cases ha : a = p
    · subst ha; exact .inr h
    · rw [Mem.upd_ne ha] at q; exact .inl q
/-- a thing changes -/
theorem Rel.put {K : PySem.W.Frag} {F H : Hp} {μ : Mem} (r : Rel K F H μ) {p : Addr} {m0 : MO} (h : μ p = some m0) {o : HO} {m : MO} (ho : RepO K F o m) :
    Rel K F (L2.upd H p o) (μ.upd p m) ∧ Ext F H μ F (L2.upd H p o) (μ.upd p m) := by
  obtain ⟨hF, ho0, hH, _⟩ := r.mem p m0 h
  refine ⟨⟨fun b u e => ?_, fun a u e => ?_⟩, Same.refl _, fun a u e q => ?_, fun a q => .inl q, fun a q => ?_⟩
  · rw [L2.upd_ne (ne_of_none e hF)]; exact r.same b u e
  · by_cases ha : a = p
    · subst ha; rw [Mem.upd_same] at e; cases e; exact ⟨hF, o, L2.upd_same, ho⟩
    · rw [Mem.upd_ne ha] at e
      obtain ⟨h1, ho, h2, h3⟩ := r.mem a u e
      exact ⟨h1, ho, by rw [L2.upd_ne ha]; exact h2, h3⟩
  · have ha : a ≠ p := fun z => by subst z; rw [h] at q; cases q
    rw [L2.upd_ne ha]; exact e
  · by_cases ha : a = p
    · subst ha; exact .inl (by rw [h]; simp)
    · rw [Mem.upd_ne ha] at q; exact .inl q
/-- a list that no longer changes -/
theorem Rel.freeze {K : PySem.W.Frag} {F H : Hp} {μ : Mem} (r : Rel K F H μ) {p : Addr} {ds : List D} (h : μ p = some (.lst ds)) :
    ∃ F', Rel K F' H (μ.del p) ∧ Ext F H μ F' H (μ.del p) ∧ Rep K F' (.ref p) (.lst ds) := by
  obtain ⟨hF, ho, hH, q⟩ := r.mem p _ h
  cases q with
  | @lst xs _ hx =>
    refine ⟨L2.upd F p (.lst xs), ⟨fun b u e => ?_, fun a u e => ?_⟩, ⟨same_new hF, fun a u e _ => e, fun a q => ?_, fun a q => ?_⟩, .lst L2.upd_same (hx.mono (same_new hF))⟩
    · by_cases hb : b = p
      · subst hb; rw [L2.upd_same] at e; rw [← e]; exact hH
      · rw [L2.upd_ne hb] at e; exact r.same b u e
    · have ha : a ≠ p := fun z => by subst z; rw [Mem.del_same] at e; cases e
      rw [Mem.del_ne ha] at e
      obtain ⟨h1, ho, h2, h3⟩ := r.mem a u e
      exact ⟨by rw [L2.upd_ne ha]; exact h1, ho, h2, h3.mono (same_new hF)⟩
    · by_cases ha : a = p
      · subst ha; exact .inr (.inl (by rw [h]; simp))
      · rw [L2.upd_ne ha] at q; exact .inl q
    · refine .inl fun z => q ?_
      unfold Mem.del
      rw [z]; split <;> rfl

/-! ### a family of contexts -/
structure Gam where
  P : Program
  w : World
  K : PySem.W.Frag
  mg : Str → Option Value
  base : Heap
  N : List Str
  sc : Scope
  fn : Str → Bool
  k : Nat
  hand : Option (Addr × Value × Option Addr)
  top : Bool
/-- no except suite -/
class Calm (Γ : Gam) : Prop where
  h : Γ.hand = none
structure Gam.ok (Γ : Gam) (X : Cx) : Prop where
  P : X.prog = Γ.P
  w : X.w = Γ.w
  K : X.K = Γ.K
  mg : X.mg = Γ.mg
  base : X.base = Γ.base
  N : X.N = Γ.N
  sc : X.env.scope = Γ.sc
  fn : X.fn = Γ.fn
  calm : Γ.hand = none → X.calm = true
  xe : X.xe = fun _ _ => False
  room : Γ.hand = none → Room Γ.k X.A
  un : X.A.units + 16 * Γ.k + 200 < cLine
  nd : X.N.Nodup
  tops : Γ.top = true → X.stack = X.env :: X.outer ∧ X.env.frame = some X.env.locals
  held : ∀ a cls d, Γ.hand = some (a, cls, d) → ∃ oe, (a, oe) ∈ X.pn ∧ (oe.cls = cls ∧ oe.dict = d) ∧ ∃ vs, oe.data = .fields vs

def semE (Γ : Gam) (e : Expr) : TE := fun σ H Q => ∃ (t : TE) (Q0 : VK), (∀ X, Γ.ok X → PE X e t) ∧ t σ H Q0 ∧ ∀ v H', Q0 v H' → Q v H'
def semT (Γ : Gam) (e : Expr) : TT := fun σ H Q => ∃ (t : TT) (Q0 : Bool → Hp → Prop), (∀ X, Γ.ok X → PT X e t) ∧ t σ H Q0 ∧ ∀ v H', Q0 v H' → Q v H'
def semW (Γ : Gam) (e : Expr) : TT := fun σ H Q => ∃ (t : TT) (Q0 : Bool → Hp → Prop), (∀ X, Γ.ok X → PW X e t) ∧ t σ H Q0 ∧ ∀ v H', Q0 v H' → Q v H'
def semTs (Γ : Gam) (es : List Expr) : TT := fun σ H Q => ∃ (t : TT) (Q0 : Bool → Hp → Prop), (∀ X, Γ.ok X → PTs X es t) ∧ t σ H Q0 ∧ ∀ v H', Q0 v H' → Q v H'
def semA (Γ : Gam) (es : List Expr) : TA := fun σ H Q => ∃ (t : TA) (Q0 : List V → Hp → Prop), (∀ X, Γ.ok X → PA X es t) ∧ t σ H Q0 ∧ ∀ v H', Q0 v H' → Q v H'
def semG (Γ : Gam) (e : Expr) : TG := fun v σ H Q => ∃ (t : TG) (Q0 : L2.St → Hp → Prop), (∀ X, Γ.ok X → PG X e t) ∧ t v σ H Q0 ∧ ∀ σ' H', Q0 σ' H' → Q σ' H'
structure EndsLe (D E : Ends) : Prop where
  nx : ∀ σ H, D.nx σ H → E.nx σ H
  rt : ∀ v H, D.rt v H → E.rt v H
  bk : ∀ σ H, D.bk σ H → E.bk σ H
  ct : ∀ σ H, D.ct σ H → E.ct σ H
theorem sp_le {X : Cx} {pins : List (Addr × Obj)} {D E : Ends} (h : EndsLe D E) {f : Flow} {s : Shared} (q : SP X pins D f s) : SP X pins E f s := by
  cases f with
  | next => obtain ⟨σ', H', I, q⟩ := q; exact ⟨σ', H', I, h.nx _ _ q⟩
  | brk => obtain ⟨σ', H', I, q⟩ := q; exact ⟨σ', H', I, h.bk _ _ q⟩
  | cont => obtain ⟨σ', H', I, q⟩ := q; exact ⟨σ', H', I, h.ct _ _ q⟩
  | ret u => obtain ⟨v, σ', H', I, r, q⟩ := q; exact ⟨v, σ', H', I, r, h.rt _ _ q⟩
def semS (Γ : Gam) (st : Stmt) : TS := fun D σ H => ∃ (t : TS) (D0 : Ends), (∀ X, Γ.ok X → PS X st t) ∧ t D0 σ H ∧ EndsLe D0 D
def semSs (Γ : Gam) (st : List Stmt) : TS := fun D σ H => ∃ (t : TS) (D0 : Ends), (∀ X, Γ.ok X → PSs X st t) ∧ t D0 σ H ∧ EndsLe D0 D

section
variable {Γ : Gam} {X : Cx}
theorem pe_sem (hX : Γ.ok X) (e : Expr) : PE X e (semE Γ e) := ⟨fun pins s σ H Q I ⟨t, Q0, h, ht, hq⟩ =>
  thn ((h X hX).run pins s σ H Q0 I ht) fun _ _ ⟨v, H', I', r, q⟩ => ⟨v, H', I', r, hq _ _ q⟩⟩
theorem pt_sem (hX : Γ.ok X) (e : Expr) : PT X e (semT Γ e) := ⟨fun pins s σ H Q I ⟨t, Q0, h, ht, hq⟩ =>
  thn ((h X hX).run pins s σ H Q0 I ht) fun _ _ ⟨H', I', q⟩ => ⟨H', I', hq _ _ q⟩⟩
theorem pw_sem (hX : Γ.ok X) (e : Expr) : PW X e (semW Γ e) := ⟨fun wh pins s σ H Q I ⟨t, Q0, h, ht, hq⟩ =>
  thn ((h X hX).run wh pins s σ H Q0 I ht) fun _ _ ⟨H', I', q⟩ => ⟨H', I', hq _ _ q⟩⟩
theorem pts_sem (hX : Γ.ok X) (es : List Expr) : PTs X es (semTs Γ es) := ⟨fun pins s σ H Q I ⟨t, Q0, h, ht, hq⟩ =>
  thn ((h X hX).run pins s σ H Q0 I ht) fun _ _ ⟨H', I', q⟩ => ⟨H', I', hq _ _ q⟩⟩
theorem pa_sem (hX : Γ.ok X) (es : List Expr) : PA X es (semA Γ es) := ⟨fun pos pins s σ H Q I ⟨t, Q0, h, ht, hq⟩ =>
  thn ((h X hX).run pos pins s σ H Q0 I ht) fun _ _ ⟨v, H', I', r, q⟩ => ⟨v, H', I', r, hq _ _ q⟩⟩
theorem pg_sem (hX : Γ.ok X) (e : Expr) : PG X e (semG Γ e) := ⟨fun pins s σ H v u Q I r ⟨t, Q0, h, ht, hq⟩ =>
  thn ((h X hX).run pins s σ H v u Q0 I r ht) fun _ _ ⟨σ', H', I', q⟩ => ⟨σ', H', I', hq _ _ q⟩⟩
theorem ps_sem (hX : Γ.ok X) (st : Stmt) : PS X st (semS Γ st) := ⟨fun pins s σ H D I ⟨t, D0, h, ht, hq⟩ =>
  thn ((h X hX).run pins s σ H D0 I ht) fun _ _ q => sp_le hq q⟩
theorem pss_sem (hX : Γ.ok X) (st : List Stmt) : PSs X st (semSs Γ st) := ⟨fun pins s σ H D I ⟨t, D0, h, ht, hq⟩ =>
  thn ((h X hX).run pins s σ H D0 I ht) fun _ _ q => sp_le hq q⟩
end

/-! ### operations by values, in a family -/
def semO (Γ : Gam) (f : Value → Value → Sem Value) : R2 := fun x y H Q => ∃ (r : R2) (Q0 : VK), (∀ X, Γ.ok X → OpR X f r) ∧ r x y H Q0 ∧ ∀ v H', Q0 v H' → Q v H'
def semIx (Γ : Gam) : R2 := fun x y H Q => ∃ (r : R2) (Q0 : VK), (∀ X, Γ.ok X → IxR X r) ∧ r x y H Q0 ∧ ∀ v H', Q0 v H' → Q v H'
def semC (Γ : Gam) (f : Value) : List V → Hp → VK → Prop := fun xs H Q => ∃ (r : List V → Hp → VK → Prop) (Q0 : VK), (∀ X, Γ.ok X → CallR X f r) ∧ r xs H Q0 ∧ ∀ v H', Q0 v H' → Q v H'
def semU (Γ : Gam) (f : Value → Sem Value) : V → Hp → VK → Prop := fun x H Q => ∃ (r : V → Hp → VK → Prop) (Q0 : VK), (∀ X, Γ.ok X → UnR X f r) ∧ r x H Q0 ∧ ∀ v H', Q0 v H' → Q v H'
def semM (Γ : Gam) (id : String) : V → List V → Hp → VK → Prop := fun x xs H Q => ∃ (r : V → List V → Hp → VK → Prop) (Q0 : VK), (∀ X, Γ.ok X → MtR X id r) ∧ r x xs H Q0 ∧ ∀ v H', Q0 v H' → Q v H'
def semSl (Γ : Gam) : V → Option Int → Option Int → Hp → VK → Prop := fun x lo hi H Q => ∃ (r : V → Option Int → Option Int → Hp → VK → Prop) (Q0 : VK), (∀ X, Γ.ok X → SlR X r) ∧ r x lo hi H Q0 ∧ ∀ v H', Q0 v H' → Q v H'
theorem ep_mono {X : Cx} {pins : List (Addr × Obj)} {σ : L2.St} {Q0 Q : VK} (h : ∀ v H', Q0 v H' → Q v H') {u : Value} {s : Shared} (q : EP X pins σ Q0 u s) : EP X pins σ Q u s := by
  obtain ⟨v, H', I, r, q⟩ := q
  exact ⟨v, H', I, r, h _ _ q⟩
end DL
namespace DL
open PySem L2

abbrev Rho := List (Option D)
structure Slots (K : PySem.W.Frag) (F : Hp) (σ : L2.St) (ρ : Rho) : Prop where
  len : σ.length = ρ.length
  at_ : ∀ (i : Nat) (d : D), ρ[i]? = some (some d) → ∃ v, σ[i]? = some (some v) ∧ Rep K F v d
section
variable {K : PySem.W.Frag} {F F' : Hp} {σ : L2.St} {ρ : Rho}
theorem Slots.mono (s : Same F F') (h : Slots K F σ ρ) : Slots K F' σ ρ := ⟨h.len, fun i d e => by
  obtain ⟨v, h1, h2⟩ := h.at_ i d e; exact ⟨v, h1, h2.mono s⟩⟩
theorem Slots.set (h : Slots K F σ ρ) (i : Nat) {v : V} {d : D} (r : Rep K F v d) : Slots K F (σ.set i (some v)) (ρ.set i (some d)) := by
  refine ⟨by rw [List.length_set, List.length_set]; exact h.len, fun j e q => ?_⟩
  by_cases hj : i = j
  · subst hj
    by_cases hl : i < ρ.length
    · rw [List.getElem?_set_self hl] at q
      cases q
      exact ⟨v, List.getElem?_set_self (by rw [h.len]; exact hl), r⟩
    · rw [List.getElem?_eq_none (by rw [List.length_set]; omega)] at q; cases q
  · rw [List.getElem?_set_ne hj] at q ⊢
    exact h.at_ j e q
theorem Slots.unset (h : Slots K F σ ρ) (i : Nat) (o : Option V) : Slots K F (σ.set i o) (ρ.set i none) := by
  refine ⟨by rw [List.length_set, List.length_set]; exact h.len, fun j e q => ?_⟩
  by_cases hj : i = j
  · subst hj
    by_cases hl : i < ρ.length
    · rw [List.getElem?_set_self hl] at q; cases q
    · rw [List.getElem?_eq_none (by rw [List.length_set]; omega)] at q; cases q
  · rw [List.getElem?_set_ne hj] at q ⊢
    exact h.at_ j e q
/-- what is known of the slots may be replaced by other data of the same place -/
theorem Slots.put (h : Slots K F σ ρ) (i : Nat) {d : D} (r : ∀ v, σ[i]? = some (some v) → Rep K F v d) (hi : ∃ v, σ[i]? = some (some v)) : Slots K F σ (ρ.set i (some d)) := by
  refine ⟨by rw [List.length_set]; exact h.len, fun j e q => ?_⟩
  by_cases hj : i = j
  · subst hj
    by_cases hl : i < ρ.length
    · rw [List.getElem?_set_self hl] at q; cases q
      obtain ⟨v, hv⟩ := hi
      exact ⟨v, hv, r v hv⟩
    · rw [List.getElem?_eq_none (by rw [List.length_set]; omega)] at q; cases q
  · rw [List.getElem?_set_ne hj] at q
    exact h.at_ j e q
end
def wipeD (ρ : Rho) : List Nat → Rho
  | [] => ρ
  | v :: vs => (wipeD ρ vs).set v none
theorem Slots.wipe {K : PySem.W.Frag} {F : Hp} {σ : L2.St} {ρ : Rho} (h : Slots K F σ ρ) : ∀ vs : List Nat, Slots K F (wipe σ vs) (wipeD ρ vs)
  | [] => h
  | v :: vs => (Slots.wipe h vs).unset v none

/-! ### what is wanted -/
def Post (K : PySem.W.Frag) (F H : Hp) (μ : Mem) (Q : D → Mem → Prop) : VK := fun v H' => ∃ F' d μ', Rel K F' H' μ' ∧ Ext F H μ F' H' μ' ∧ Rep K F' v d ∧ Q d μ'
def PostT (K : PySem.W.Frag) (F H : Hp) (μ : Mem) (Q : Bool → Mem → Prop) : Bool → Hp → Prop := fun b H' => ∃ F' μ', Rel K F' H' μ' ∧ Ext F H μ F' H' μ' ∧ Q b μ'
def PostA (K : PySem.W.Frag) (F H : Hp) (μ : Mem) (Q : List D → Mem → Prop) : List V → Hp → Prop := fun vs H' => ∃ F' ds μ', Rel K F' H' μ' ∧ Ext F H μ F' H' μ' ∧ Reps K F' vs ds ∧ Q ds μ'
def PostS (K : PySem.W.Frag) (F H : Hp) (μ : Mem) (Q : Rho → Mem → Prop) : L2.St → Hp → Prop := fun σ' H' => ∃ F' ρ' μ', Slots K F' σ' ρ' ∧ Rel K F' H' μ' ∧ Ext F H μ F' H' μ' ∧ Q ρ' μ'
structure DEnds where
  nx : Rho → Mem → Prop
  rt : D → Mem → Prop
  bk : Rho → Mem → Prop := fun _ _ => False
  ct : Rho → Mem → Prop := fun _ _ => False
def DEnds.lift (D : DEnds) (K : PySem.W.Frag) (F H : Hp) (μ : Mem) : Ends := ⟨PostS K F H μ D.nx, Post K F H μ D.rt, PostS K F H μ D.bk, PostS K F H μ D.ct⟩

def WE (Γ : Gam) (e : Expr) (ρ : Rho) (μ : Mem) (Q : D → Mem → Prop) : Prop := ∀ σ F H, Slots Γ.K F σ ρ → Rel Γ.K F H μ → semE Γ e σ H (Post Γ.K F H μ Q)
def WT (Γ : Gam) (e : Expr) (ρ : Rho) (μ : Mem) (Q : Bool → Mem → Prop) : Prop := ∀ σ F H, Slots Γ.K F σ ρ → Rel Γ.K F H μ → semT Γ e σ H (PostT Γ.K F H μ Q)
def WW (Γ : Gam) (e : Expr) (ρ : Rho) (μ : Mem) (Q : Bool → Mem → Prop) : Prop := ∀ σ F H, Slots Γ.K F σ ρ → Rel Γ.K F H μ → semW Γ e σ H (PostT Γ.K F H μ Q)
def WTs (Γ : Gam) (es : List Expr) (ρ : Rho) (μ : Mem) (Q : Bool → Mem → Prop) : Prop := ∀ σ F H, Slots Γ.K F σ ρ → Rel Γ.K F H μ → semTs Γ es σ H (PostT Γ.K F H μ Q)
def WA (Γ : Gam) (es : List Expr) (ρ : Rho) (μ : Mem) (Q : List D → Mem → Prop) : Prop := ∀ σ F H, Slots Γ.K F σ ρ → Rel Γ.K F H μ → semA Γ es σ H (PostA Γ.K F H μ Q)
def WG (Γ : Gam) (e : Expr) (d : D) (ρ : Rho) (μ : Mem) (Q : Rho → Mem → Prop) : Prop := ∀ v σ F H, Rep Γ.K F v d → Slots Γ.K F σ ρ → Rel Γ.K F H μ → semG Γ e v σ H (PostS Γ.K F H μ Q)
def WS (Γ : Gam) (st : Stmt) (ρ : Rho) (μ : Mem) (D : DEnds) : Prop := ∀ σ F H, Slots Γ.K F σ ρ → Rel Γ.K F H μ → semS Γ st (D.lift Γ.K F H μ) σ H
def WSs (Γ : Gam) (st : List Stmt) (ρ : Rho) (μ : Mem) (D : DEnds) : Prop := ∀ σ F H, Slots Γ.K F σ ρ → Rel Γ.K F H μ → semSs Γ st (D.lift Γ.K F H μ) σ H
def WO (Γ : Gam) (f : Value → Value → Sem Value) (x y : D) (μ : Mem) (Q : D → Mem → Prop) : Prop := ∀ v u F H, Rep Γ.K F v x → Rep Γ.K F u y → Rel Γ.K F H μ → semO Γ f v u H (Post Γ.K F H μ Q)
def WIx (Γ : Gam) (x y : D) (μ : Mem) (Q : D → Mem → Prop) : Prop := ∀ v u F H, Rep Γ.K F v x → Rep Γ.K F u y → Rel Γ.K F H μ → semIx Γ v u H (Post Γ.K F H μ Q)
def WU (Γ : Gam) (f : Value → Sem Value) (x : D) (μ : Mem) (Q : D → Mem → Prop) : Prop := ∀ v F H, Rep Γ.K F v x → Rel Γ.K F H μ → semU Γ f v H (Post Γ.K F H μ Q)
def WC (Γ : Gam) (f : Value) (xs : List D) (μ : Mem) (Q : D → Mem → Prop) : Prop := ∀ vs F H, Reps Γ.K F vs xs → Rel Γ.K F H μ → semC Γ f vs H (Post Γ.K F H μ Q)
def WM (Γ : Gam) (id : String) (x : D) (xs : List D) (μ : Mem) (Q : D → Mem → Prop) : Prop := ∀ v vs F H, Rep Γ.K F v x → Reps Γ.K F vs xs → Rel Γ.K F H μ → semM Γ id v vs H (Post Γ.K F H μ Q)

section
variable {K : PySem.W.Frag} {F H F1 H1 : Hp} {μ μ1 : Mem}
theorem Post.ext {Q : D → Mem → Prop} (e : Ext F H μ F1 H1 μ1) {v : V} {H2 : Hp} (h : Post K F1 H1 μ1 Q v H2) : Post K F H μ Q v H2 := by
  obtain ⟨F', d, μ', r, x, p, q⟩ := h; exact ⟨F', d, μ', r, e.trans x, p, q⟩
theorem PostT.ext {Q : Bool → Mem → Prop} (e : Ext F H μ F1 H1 μ1) {v : Bool} {H2 : Hp} (h : PostT K F1 H1 μ1 Q v H2) : PostT K F H μ Q v H2 := by
  obtain ⟨F', μ', r, x, q⟩ := h; exact ⟨F', μ', r, e.trans x, q⟩
theorem PostA.ext {Q : List D → Mem → Prop} (e : Ext F H μ F1 H1 μ1) {v : List V} {H2 : Hp} (h : PostA K F1 H1 μ1 Q v H2) : PostA K F H μ Q v H2 := by
  obtain ⟨F', d, μ', r, x, p, q⟩ := h; exact ⟨F', d, μ', r, e.trans x, p, q⟩
theorem PostS.ext {Q : Rho → Mem → Prop} (e : Ext F H μ F1 H1 μ1) {v : L2.St} {H2 : Hp} (h : PostS K F1 H1 μ1 Q v H2) : PostS K F H μ Q v H2 := by
  obtain ⟨F', d, μ', s, r, x, q⟩ := h; exact ⟨F', d, μ', s, r, e.trans x, q⟩
theorem DEnds.ext {D : DEnds} (e : Ext F H μ F1 H1 μ1) : EndsLe (D.lift K F1 H1 μ1) (D.lift K F H μ) :=
  ⟨fun _ _ h => PostS.ext e h, fun _ _ h => Post.ext e h, fun _ _ h => PostS.ext e h, fun _ _ h => PostS.ext e h⟩
end
section
variable {Γ : Gam} {ρ : Rho} {μ : Mem} {σ : L2.St} {F H : Hp} {e : Expr}
/-- onward from an expression -/
theorem WE.go {Q : D → Mem → Prop} {R : VK} (h : WE Γ e ρ μ Q) (s : Slots Γ.K F σ ρ) (r : Rel Γ.K F H μ)
    (k : ∀ v F1 H1 d μ1, Rel Γ.K F1 H1 μ1 → Ext F H μ F1 H1 μ1 → Slots Γ.K F1 σ ρ → Rep Γ.K F1 v d → Q d μ1 → R v H1) : semE Γ e σ H R := by
  obtain ⟨t, Q0, h1, h2, h3⟩ := h σ F H s r
  refine ⟨t, Q0, h1, h2, fun v H' q => ?_⟩
  obtain ⟨F', d, μ', r', x, p, q⟩ := h3 v H' q
  exact k v F' H' d μ' r' x (s.mono x.fr) p q
theorem WT.go {Q : Bool → Mem → Prop} {R : Bool → Hp → Prop} (h : WT Γ e ρ μ Q) (s : Slots Γ.K F σ ρ) (r : Rel Γ.K F H μ)
    (k : ∀ v F1 H1 μ1, Rel Γ.K F1 H1 μ1 → Ext F H μ F1 H1 μ1 → Slots Γ.K F1 σ ρ → Q v μ1 → R v H1) : semT Γ e σ H R := by
  obtain ⟨t, Q0, h1, h2, h3⟩ := h σ F H s r
  refine ⟨t, Q0, h1, h2, fun v H' q => ?_⟩
  obtain ⟨F', μ', r', x, q⟩ := h3 v H' q
  exact k v F' H' μ' r' x (s.mono x.fr) q
theorem WW.go {Q : Bool → Mem → Prop} {R : Bool → Hp → Prop} (h : WW Γ e ρ μ Q) (s : Slots Γ.K F σ ρ) (r : Rel Γ.K F H μ)
    (k : ∀ v F1 H1 μ1, Rel Γ.K F1 H1 μ1 → Ext F H μ F1 H1 μ1 → Slots Γ.K F1 σ ρ → Q v μ1 → R v H1) : semW Γ e σ H R := by
  obtain ⟨t, Q0, h1, h2, h3⟩ := h σ F H s r
  refine ⟨t, Q0, h1, h2, fun v H' q => ?_⟩
  obtain ⟨F', μ', r', x, q⟩ := h3 v H' q
  exact k v F' H' μ' r' x (s.mono x.fr) q
theorem WTs.go {es : List Expr} {Q : Bool → Mem → Prop} {R : Bool → Hp → Prop} (h : WTs Γ es ρ μ Q) (s : Slots Γ.K F σ ρ) (r : Rel Γ.K F H μ)
    (k : ∀ v F1 H1 μ1, Rel Γ.K F1 H1 μ1 → Ext F H μ F1 H1 μ1 → Slots Γ.K F1 σ ρ → Q v μ1 → R v H1) : semTs Γ es σ H R := by
  obtain ⟨t, Q0, h1, h2, h3⟩ := h σ F H s r
  refine ⟨t, Q0, h1, h2, fun v H' q => ?_⟩
  obtain ⟨F', μ', r', x, q⟩ := h3 v H' q
  exact k v F' H' μ' r' x (s.mono x.fr) q
theorem WA.go {es : List Expr} {Q : List D → Mem → Prop} {R : List V → Hp → Prop} (h : WA Γ es ρ μ Q) (s : Slots Γ.K F σ ρ) (r : Rel Γ.K F H μ)
    (k : ∀ v F1 H1 d μ1, Rel Γ.K F1 H1 μ1 → Ext F H μ F1 H1 μ1 → Slots Γ.K F1 σ ρ → Reps Γ.K F1 v d → Q d μ1 → R v H1) : semA Γ es σ H R := by
  obtain ⟨t, Q0, h1, h2, h3⟩ := h σ F H s r
  refine ⟨t, Q0, h1, h2, fun v H' q => ?_⟩
  obtain ⟨F', d, μ', r', x, p, q⟩ := h3 v H' q
  exact k v F' H' d μ' r' x (s.mono x.fr) p q
theorem WG.go {Q : Rho → Mem → Prop} {R : L2.St → Hp → Prop} {v : V} {d : D} (h : WG Γ e d ρ μ Q) (p : Rep Γ.K F v d) (s : Slots Γ.K F σ ρ) (r : Rel Γ.K F H μ)
    (k : ∀ σ1 F1 H1 ρ1 μ1, Rel Γ.K F1 H1 μ1 → Ext F H μ F1 H1 μ1 → Slots Γ.K F1 σ1 ρ1 → Q ρ1 μ1 → R σ1 H1) : semG Γ e v σ H R := by
  obtain ⟨t, Q0, h1, h2, h3⟩ := h v σ F H p s r
  refine ⟨t, Q0, h1, h2, fun v H' q => ?_⟩
  obtain ⟨F', ρ', μ', s', r', x, q⟩ := h3 v H' q
  exact k v F' H' ρ' μ' r' x s' q
theorem WO.go {f : Value → Value → Sem Value} {x y : D} {Q : D → Mem → Prop} {F0 H0 : Hp} {μ0 : Mem} {v u : V} (h : WO Γ f x y μ Q) (p : Rep Γ.K F v x) (q : Rep Γ.K F u y) (r : Rel Γ.K F H μ) (z : Ext F0 H0 μ0 F H μ) :
    semO Γ f v u H (Post Γ.K F0 H0 μ0 Q) := by
  obtain ⟨t, Q0, h1, h2, h3⟩ := h v u F H p q r
  exact ⟨t, Q0, h1, h2, fun v H' q => (h3 v H' q).ext z⟩
theorem WIx.go {x y : D} {Q : D → Mem → Prop} {F0 H0 : Hp} {μ0 : Mem} {v u : V} (h : WIx Γ x y μ Q) (p : Rep Γ.K F v x) (q : Rep Γ.K F u y) (r : Rel Γ.K F H μ) (z : Ext F0 H0 μ0 F H μ) :
    semIx Γ v u H (Post Γ.K F0 H0 μ0 Q) := by
  obtain ⟨t, Q0, h1, h2, h3⟩ := h v u F H p q r
  exact ⟨t, Q0, h1, h2, fun v H' q => (h3 v H' q).ext z⟩
theorem WU.go {f : Value → Sem Value} {x : D} {Q : D → Mem → Prop} {F0 H0 : Hp} {μ0 : Mem} {v : V} (h : WU Γ f x μ Q) (p : Rep Γ.K F v x) (r : Rel Γ.K F H μ) (z : Ext F0 H0 μ0 F H μ) :
    semU Γ f v H (Post Γ.K F0 H0 μ0 Q) := by
  obtain ⟨t, Q0, h1, h2, h3⟩ := h v F H p r
  exact ⟨t, Q0, h1, h2, fun v H' q => (h3 v H' q).ext z⟩
theorem WC.go {f : Value} {xs : List D} {Q : D → Mem → Prop} {F0 H0 : Hp} {μ0 : Mem} {vs : List V} (h : WC Γ f xs μ Q) (p : Reps Γ.K F vs xs) (r : Rel Γ.K F H μ) (z : Ext F0 H0 μ0 F H μ) :
    semC Γ f vs H (Post Γ.K F0 H0 μ0 Q) := by
  obtain ⟨t, Q0, h1, h2, h3⟩ := h vs F H p r
  exact ⟨t, Q0, h1, h2, fun v H' q => (h3 v H' q).ext z⟩
theorem WM.go {id : String} {x : D} {xs : List D} {Q : D → Mem → Prop} {F0 H0 : Hp} {μ0 : Mem} {v : V} {vs : List V} (h : WM Γ id x xs μ Q) (p0 : Rep Γ.K F v x) (p : Reps Γ.K F vs xs) (r : Rel Γ.K F H μ) (z : Ext F0 H0 μ0 F H μ) :
    semM Γ id v vs H (Post Γ.K F0 H0 μ0 Q) := by
  obtain ⟨t, Q0, h1, h2, h3⟩ := h v vs F H p0 p r
  exact ⟨t, Q0, h1, h2, fun v H' q => (h3 v H' q).ext z⟩
theorem or_sem {X : Cx} (hX : Γ.ok X) (f : Value → Value → Sem Value) : OpR X f (semO Γ f) := fun pins s σ H x y v u Q I rx ry ⟨r, Q0, h, hr, hq⟩ =>
  thn (h X hX pins s σ H x y v u Q0 I rx ry hr) fun _ _ q => ep_mono hq q
theorem ix_sem {X : Cx} (hX : Γ.ok X) : IxR X (semIx Γ) := fun va sl pins s σ H x y v u Q I rx ry ⟨r, Q0, h, hr, hq⟩ hs =>
  thn (h X hX va sl pins s σ H x y v u Q0 I rx ry hr hs) fun _ _ q => ep_mono hq q
theorem cr_sem {X : Cx} (hX : Γ.ok X) (f : Value) : CallR X f (semC Γ f) := fun pins s σ H xs us Q I rx ⟨r, Q0, h, hr, hq⟩ =>
  thn (h X hX pins s σ H xs us Q0 I rx hr) fun _ _ q => ep_mono hq q
theorem un_sem {X : Cx} (hX : Γ.ok X) (f : Value → Sem Value) : UnR X f (semU Γ f) := fun pins s σ H x v Q I rx ⟨r, Q0, h, hr, hq⟩ =>
  thn (h X hX pins s σ H x v Q0 I rx hr) fun _ _ q => ep_mono hq q
theorem mt_sem {X : Cx} (hX : Γ.ok X) (id : String) : MtR X id (semM Γ id) := fun pins s σ H x xs v us Q I rx rxs ⟨r, Q0, h, hr, hq⟩ =>
  thn (h X hX pins s σ H x xs v us Q0 I rx rxs hr) fun _ _ q => ep_mono hq q
/-- make -/
theorem semE.mk {t : TE} {Q : VK} (h : ∀ X, Γ.ok X → PE X e t) (q : t σ H Q) : semE Γ e σ H Q := ⟨t, Q, h, q, fun _ _ x => x⟩
theorem semT.mk {t : TT} {Q : Bool → Hp → Prop} (h : ∀ X, Γ.ok X → PT X e t) (q : t σ H Q) : semT Γ e σ H Q := ⟨t, Q, h, q, fun _ _ x => x⟩
theorem semW.mk {t : TT} {Q : Bool → Hp → Prop} (h : ∀ X, Γ.ok X → PW X e t) (q : t σ H Q) : semW Γ e σ H Q := ⟨t, Q, h, q, fun _ _ x => x⟩
theorem semO.mk {f : Value → Value → Sem Value} {r : R2} {x y : V} {Q : VK} (h : ∀ X, Γ.ok X → OpR X f r) (q : r x y H Q) : semO Γ f x y H Q := ⟨r, Q, h, q, fun _ _ x => x⟩
theorem semIx.mk {r : R2} {x y : V} {Q : VK} (h : ∀ X, Γ.ok X → IxR X r) (q : r x y H Q) : semIx Γ x y H Q := ⟨r, Q, h, q, fun _ _ x => x⟩
theorem semC.mk {f : Value} {r : List V → Hp → VK → Prop} {xs : List V} {Q : VK} (h : ∀ X, Γ.ok X → CallR X f r) (q : r xs H Q) : semC Γ f xs H Q := ⟨r, Q, h, q, fun _ _ x => x⟩
theorem semU.mk {f : Value → Sem Value} {r : V → Hp → VK → Prop} {x : V} {Q : VK} (h : ∀ X, Γ.ok X → UnR X f r) (q : r x H Q) : semU Γ f x H Q := ⟨r, Q, h, q, fun _ _ x => x⟩
theorem semM.mk {id : String} {r : V → List V → Hp → VK → Prop} {x : V} {xs : List V} {Q : VK} (h : ∀ X, Γ.ok X → MtR X id r) (q : r x xs H Q) : semM Γ id x xs H Q := ⟨r, Q, h, q, fun _ _ x => x⟩
theorem semA.mk {es : List Expr} {t : TA} {Q : List V → Hp → Prop} (h : ∀ X, Γ.ok X → PA X es t) (q : t σ H Q) : semA Γ es σ H Q := ⟨t, Q, h, q, fun _ _ x => x⟩
theorem semG.mk {t : TG} {v : V} {Q : L2.St → Hp → Prop} (h : ∀ X, Γ.ok X → PG X e t) (q : t v σ H Q) : semG Γ e v σ H Q := ⟨t, Q, h, q, fun _ _ x => x⟩
theorem EndsLe.refl (D : Ends) : EndsLe D D := ⟨fun _ _ h => h, fun _ _ h => h, fun _ _ h => h, fun _ _ h => h⟩
theorem EndsLe.trans {A B C : Ends} (h : EndsLe A B) (k : EndsLe B C) : EndsLe A C := ⟨fun _ _ x => k.nx _ _ (h.nx _ _ x), fun _ _ x => k.rt _ _ (h.rt _ _ x), fun _ _ x => k.bk _ _ (h.bk _ _ x), fun _ _ x => k.ct _ _ (h.ct _ _ x)⟩
theorem semS.mk {st : Stmt} {t : TS} {D : Ends} (h : ∀ X, Γ.ok X → PS X st t) (q : t D σ H) : semS Γ st D σ H := ⟨t, D, h, q, .refl _⟩
theorem semSs.mk {st : List Stmt} {t : TS} {D : Ends} (h : ∀ X, Γ.ok X → PSs X st t) (q : t D σ H) : semSs Γ st D σ H := ⟨t, D, h, q, .refl _⟩
theorem semS.le {st : Stmt} {D E : Ends} (q : semS Γ st D σ H) (h : EndsLe D E) : semS Γ st E σ H := by
  obtain ⟨t, D0, h1, h2, h3⟩ := q; exact ⟨t, D0, h1, h2, h3.trans h⟩
theorem semSs.le {st : List Stmt} {D E : Ends} (q : semSs Γ st D σ H) (h : EndsLe D E) : semSs Γ st E σ H := by
  obtain ⟨t, D0, h1, h2, h3⟩ := q; exact ⟨t, D0, h1, h2, h3.trans h⟩
end
theorem Gam.ok.vis {Γ : Gam} {X : Cx} (hX : Γ.ok X) {x : Str} (h : Vis Γ.sc x) : Vis X.env.scope x := by rw [hX.sc]; exact h
theorem Gam.ok.loc {Γ : Gam} {X : Cx} (hX : Γ.ok X) {x : Str} (h : Loc Γ.sc x) : Loc X.env.scope x := by rw [hX.sc]; exact h
theorem Gam.ok.nm {Γ : Gam} {X : Cx} (hX : Γ.ok X) {x : Str} {i : Nat} (h : Γ.N[i]? = some x) : X.N[i]? = some x := by rw [hX.N]; exact h
def GlD (Γ : Gam) (x : Str) : Prop := Γ.sc.names.lookup x = some .globalImplicit
theorem Gam.ok.gl {Γ : Gam} {X : Cx} (hX : Γ.ok X) {x : Str} (h : GlD Γ x) : Gl X x := by
  show X.env.scope.names.lookup x = _
  rw [hX.sc]; exact h
end DL
namespace DL
open PySem L2

section
variable {Γ : Gam} {ρ : Rho} {μ : Mem} {Q : D → Mem → Prop} {a b c e : Expr} {es : List Expr} {pos : Pos}

/-! ### names and constants -/
theorem Post.now {K : PySem.W.Frag} {F H : Hp} {v : V} {d : D} (r : Rel K F H μ) (p : Rep K F v d) (q : Q d μ) : Post K F H μ Q v H := ⟨F, d, μ, r, .refl _ _ _, p, q⟩
theorem we_name (i : Nat) {x : Str} {d : D} (hN : Γ.N[i]? = some x := by rfl) (hv : Vis Γ.sc x := by first | exact Or.inl rfl | exact Or.inr (Or.inl rfl) | exact Or.inr (Or.inr rfl)) (hρ : ρ[i]? = some (some d) := by rfl)
    (hd : (x == ("__debug__" : Str)) = false := by decide) (hcd : (x == ("__classdict__" : Str)) = false := by decide) (q : Q d μ) : WE Γ (.Name x pos) ρ μ Q := fun σ F H s r => by
  obtain ⟨v, h1, h2⟩ := s.at_ i d hρ
  exact semE.mk (fun X hX => pe_var (i := i) (hX.nm hN) (hX.vis hv) hd hcd) ⟨v, h1, .now r h2 q⟩
theorem we_int {i : Int} {j : Nat} (q : Q (.int i) μ) : WE Γ (.Constant (.int i) j pos) ρ μ Q := fun σ F H s r => semE.mk (fun X hX => pe_int) (.now r (.int i) q)
theorem we_bl {i : Bool} {j : Nat} (q : Q (.bl i) μ) : WE Γ (.Constant (.bool i) j pos) ρ μ Q := fun σ F H s r => semE.mk (fun X hX => pe_bl) (.now r (.bl i) q)
theorem we_non {j : Nat} (q : Q .non μ) : WE Γ (.Constant .none j pos) ρ μ Q := fun σ F H s r => semE.mk (fun X hX => pe_non) (.now r .non q)
theorem we_str {i : Str} {j : Nat} (q : Q (.str i) μ) : WE Γ (.Constant (.str i) j pos) ρ μ Q := fun σ F H s r => semE.mk (fun X hX => pe_str) (.now r (.str i) q)
/-- a built-in class by its name, as a value -/
theorem we_type {x : Str} {n : String} (hg : GlD Γ x) (hm : Γ.mg x = none) (hv : bootBuiltins x = some (.type n)) (hn : x ≠ "__name__") (hd : (x == ("__debug__" : Str)) = false) (q : Q (.ty n) μ) : WE Γ (.Name x pos) ρ μ Q := fun σ F H s r =>
  semE.mk (fun X hX => pe_bltn (v := .ty n) (hX.gl hg) (by rw [hX.mg]; exact hm) hv rfl hn hd) (.now r (.ty n) q)

/-! ### operators -/
theorem we_bin {op : Operator} (h : WE Γ a ρ μ fun x μ1 => WE Γ b ρ μ1 fun y μ2 => WO Γ (binaryOp op) x y μ2 Q) : WE Γ (.BinOp a op b pos) ρ μ Q := fun σ F H s r =>
  semE.mk (fun X hX => pe_op (or_sem hX _) (pe_sem hX a) (pe_sem hX b)) (h.go s r fun v F1 H1 x μ1 r1 e1 s1 p1 h1 => h1.go s1 r1 fun u F2 H2 y μ2 r2 e2 s2 p2 h2 =>
    h2.go (p1.mono e2.fr) p2 r2 (e1.trans e2))
theorem we_cmp {op : CmpOp} (hm : behindInMarks op b = false := by rfl) (h : WE Γ a ρ μ fun x μ1 => WE Γ b ρ μ1 fun y μ2 => WO Γ (compareOp op) x y μ2 Q) : WE Γ (.Compare a [op] [b] pos) ρ μ Q := fun σ F H s r =>
  semE.mk (fun X hX => pe_cmpR (or_sem hX _) (pe_sem hX a) (pe_sem hX b) hm) (h.go s r fun v F1 H1 x μ1 r1 e1 s1 p1 h1 => h1.go s1 r1 fun u F2 H2 y μ2 r2 e2 s2 p2 h2 =>
    h2.go (p1.mono e2.fr) p2 r2 (e1.trans e2))
theorem we_un {op : UnaryOp} (h : WE Γ a ρ μ fun x μ1 => WU Γ (unaryOp op) x μ1 Q) : WE Γ (.UnaryOp op a pos) ρ μ Q := fun σ F H s r =>
  semE.mk (fun X hX => pe_un (un_sem hX _) (pe_sem hX a)) (h.go s r fun v F1 H1 x μ1 r1 e1 s1 p1 h1 => h1.go p1 r1 e1)
theorem rep_bl {K : PySem.W.Frag} {F : Hp} {v : V} {k : Bool} (h : Rep K F v (.bl k)) : v = .bl k := by cases h; rfl
theorem rep_int {K : PySem.W.Frag} {F : Hp} {v : V} {k : Int} (h : Rep K F v (.int k)) : v = .int k := by cases h; rfl
theorem rep_str {K : PySem.W.Frag} {F : Hp} {v : V} {k : Str} (h : Rep K F v (.str k)) : v = .str k := by cases h; rfl
theorem we_not (h : WE Γ a ρ μ fun x μ1 => ∃ k, x = .bl k ∧ Q (.bl (!k)) μ1) : WE Γ (.UnaryOp .Not a pos) ρ μ Q := fun σ F H s r =>
  semE.mk (fun X hX => pe_not (pe_sem hX a)) (h.go s r fun v F1 H1 x μ1 r1 e1 s1 p1 h1 => by
    obtain ⟨k, rfl, h1⟩ := h1
    exact ⟨k, rep_bl p1, .ext e1 (.now r1 (.bl _) h1)⟩)
theorem we_one {op : BoolOp} (h : WE Γ a ρ μ Q) : WE Γ (.BoolOp op [a] pos) ρ μ Q := fun σ F H s r =>
  semE.mk (fun X hX => pe_one (pe_sem hX a)) (h σ F H s r)
theorem we_and (h : WE Γ a ρ μ fun x μ1 => ∃ k, x = .bl k ∧ (k = true → WE Γ (.BoolOp .And (b :: es) pos) ρ μ1 Q) ∧ (k = false → Q (.bl false) μ1)) : WE Γ (.BoolOp .And (a :: b :: es) pos) ρ μ Q := fun σ F H s r =>
  semE.mk (fun X hX => pe_and (pe_sem hX a) (pe_sem hX _)) (h.go s r fun v F1 H1 x μ1 r1 e1 s1 p1 h1 => by
    obtain ⟨k, rfl, h1, h2⟩ := h1
    refine ⟨k, rep_bl p1, ?_⟩
    cases k with
    | true => rw [if_pos rfl]; exact (h1 rfl).go s1 r1 fun v F2 H2 y μ2 r2 e2 s2 p2 q => ⟨F2, y, μ2, r2, e1.trans e2, p2, q⟩
    | false => rw [if_neg (by simp)]; exact .ext e1 (.now r1 (.bl _) (h2 rfl)))
theorem we_or (h : WE Γ a ρ μ fun x μ1 => ∃ k, x = .bl k ∧ (k = false → WE Γ (.BoolOp .Or (b :: es) pos) ρ μ1 Q) ∧ (k = true → Q (.bl true) μ1)) : WE Γ (.BoolOp .Or (a :: b :: es) pos) ρ μ Q := fun σ F H s r =>
  semE.mk (fun X hX => pe_or (pe_sem hX a) (pe_sem hX _)) (h.go s r fun v F1 H1 x μ1 r1 e1 s1 p1 h1 => by
    obtain ⟨k, rfl, h1, h2⟩ := h1
    refine ⟨k, rep_bl p1, ?_⟩
    cases k with
    | false => rw [if_neg (by simp)]; exact (h1 rfl).go s1 r1 fun v F2 H2 y μ2 r2 e2 s2 p2 q => ⟨F2, y, μ2, r2, e1.trans e2, p2, q⟩
    | true => rw [if_pos rfl]; exact .ext e1 (.now r1 (.bl _) (h2 rfl)))
theorem we_ifExp (h : WT Γ c ρ μ fun k μ1 => (k = true → WE Γ a ρ μ1 Q) ∧ (k = false → WE Γ b ρ μ1 Q)) : WE Γ (.IfExp c a b pos) ρ μ Q := fun σ F H s r =>
  semE.mk (fun X hX => pe_ifExp (pt_sem hX c) (pe_sem hX a) (pe_sem hX b)) (h.go s r fun k F1 H1 μ1 r1 e1 s1 h1 => by
    cases k with
    | true => rw [if_pos rfl]; exact (h1.1 rfl).go s1 r1 fun v F2 H2 y μ2 r2 e2 s2 p2 q => ⟨F2, y, μ2, r2, e1.trans e2, p2, q⟩
    | false => rw [if_neg (by simp)]; exact (h1.2 rfl).go s1 r1 fun v F2 H2 y μ2 r2 e2 s2 p2 q => ⟨F2, y, μ2, r2, e1.trans e2, p2, q⟩)

/-! ### tests -/
variable {T : Bool → Mem → Prop}
theorem wt_val (he : ∀ (env : Env) (whole : Sem Value), isTrue e env whole = (do let v ← whole; standAt e.pos; holding [v] (truthy v)) := by intros; rfl) (h : WE Γ e ρ μ fun x μ1 => ∃ k, x = .bl k ∧ T k μ1) : WT Γ e ρ μ T := fun σ F H s r =>
  semT.mk (fun X hX => pt_val (pe_sem hX e) (he _)) (h.go s r fun v F1 H1 x μ1 r1 e1 s1 p1 h1 => by
    obtain ⟨k, rfl, h1⟩ := h1
    exact ⟨k, rep_bl p1, F1, μ1, r1, e1, h1⟩)
theorem wt_cmp {op : CmpOp} (hm : behindInMarks op b = false := by rfl) (h : WE Γ a ρ μ fun x μ1 => WE Γ b ρ μ1 fun y μ2 => WO Γ (compareOp op) x y μ2 fun d μ3 => ∃ k, d = .bl k ∧ T k μ3) : WT Γ (.Compare a [op] [b] pos) ρ μ T := fun σ F H s r =>
  semT.mk (fun X hX => pt_cmpR (r := fun x y H Q => semO Γ (compareOp op) x y H Q) (or_sem hX _) (pe_sem hX a) (pe_sem hX b) hm) (h.go s r fun v F1 H1 x μ1 r1 e1 s1 p1 h1 => h1.go s1 r1 fun u F2 H2 y μ2 r2 e2 s2 p2 h2 => by
    obtain ⟨t, Q0, g1, g2, g3⟩ := h2 v u F2 H2 (p1.mono e2.fr) p2 r2
    refine ⟨t, Q0, g1, g2, fun w H' q => ?_⟩
    obtain ⟨F', d, μ', r', x', p', k, rfl, q'⟩ := g3 w H' q
    exact ⟨k, rep_bl p', F', μ', r', (e1.trans e2).trans x', q'⟩)
theorem wt_not (h : WT Γ a ρ μ fun k μ1 => T (!k) μ1) : WT Γ (.UnaryOp .Not a pos) ρ μ T := fun σ F H s r =>
  semT.mk (fun X hX => pt_not (pt_sem hX a)) (h.go s r fun k F1 H1 μ1 r1 e1 s1 h1 => ⟨F1, μ1, r1, e1, h1⟩)
theorem wt_ww (h : WW Γ e ρ μ T) : WT Γ e ρ μ T := fun σ F H s r => semT.mk (fun X hX => (pw_sem hX e).pt) (h σ F H s r)
theorem ww_and1 (h : WT Γ a ρ μ T) : WW Γ (.BoolOp .And [a] pos) ρ μ T := fun σ F H s r => semW.mk (fun X hX => pw_and1 (pt_sem hX a)) (h σ F H s r)
theorem ww_or1 (h : WT Γ a ρ μ T) : WW Γ (.BoolOp .Or [a] pos) ρ μ T := fun σ F H s r => semW.mk (fun X hX => pw_or1 (pt_sem hX a)) (h σ F H s r)
theorem ww_and (h : WT Γ a ρ μ fun k μ1 => (k = true → WW Γ (.BoolOp .And (b :: es) pos) ρ μ1 T) ∧ (k = false → T false μ1)) : WW Γ (.BoolOp .And (a :: b :: es) pos) ρ μ T := fun σ F H s r =>
  semW.mk (fun X hX => pw_and (pt_sem hX a) (pw_sem hX _)) (h.go s r fun k F1 H1 μ1 r1 e1 s1 h1 => by
    cases k with
    | true => rw [if_pos rfl]; exact (h1.1 rfl).go s1 r1 fun k F2 H2 μ2 r2 e2 s2 q => ⟨F2, μ2, r2, e1.trans e2, q⟩
    | false => rw [if_neg (by simp)]; exact ⟨F1, μ1, r1, e1, h1.2 rfl⟩)
theorem ww_or (h : WT Γ a ρ μ fun k μ1 => (k = false → WW Γ (.BoolOp .Or (b :: es) pos) ρ μ1 T) ∧ (k = true → T true μ1)) : WW Γ (.BoolOp .Or (a :: b :: es) pos) ρ μ T := fun σ F H s r =>
  semW.mk (fun X hX => pw_or (pt_sem hX a) (pw_sem hX _)) (h.go s r fun k F1 H1 μ1 r1 e1 s1 h1 => by
    cases k with
    | false => rw [if_neg (by simp)]; exact (h1.1 rfl).go s1 r1 fun k F2 H2 μ2 r2 e2 s2 q => ⟨F2, μ2, r2, e1.trans e2, q⟩
    | true => rw [if_pos rfl]; exact ⟨F1, μ1, r1, e1, h1.2 rfl⟩)
theorem we_chain {op op' : CmpOp} (hm : lastMarks [op, op'] [b, c] = false := by with_unfolding_all rfl)
    (h : WE Γ a ρ μ fun x μ1 => WE Γ b ρ μ1 fun y μ2 => WO Γ (compareOp op) x y μ2 fun d μ3 => ∃ k, d = .bl k ∧ (k = true → WE Γ c ρ μ3 fun z μ4 => WO Γ (compareOp op') y z μ4 Q) ∧ (k = false → Q (.bl false) μ3)) :
    WE Γ (.Compare a [op, op'] [b, c] pos) ρ μ Q := fun σ F H s r =>
  semE.mk (fun X hX => pe_chain (or_sem hX _) (or_sem hX _) (pe_sem hX a) (pe_sem hX b) (pe_sem hX c) hm) (h.go s r fun v F1 H1 x μ1 r1 e1 s1 p1 h1 => h1.go s1 r1 fun u F2 H2 y μ2 r2 e2 s2 p2 h2 => by
    obtain ⟨t, Q0, g1, g2, g3⟩ := h2 v u F2 H2 (p1.mono e2.fr) p2 r2
    refine ⟨t, Q0, g1, g2, fun w H' q => ?_⟩
    obtain ⟨F', d, μ', r', x', p', k, rfl, q1, q2⟩ := g3 w H' q
    refine ⟨k, rep_bl p', ?_⟩
    cases k with
    | true =>
      rw [if_pos rfl]
      exact (q1 rfl).go (s2.mono x'.fr) r' fun v3 F3 H3 z μ3 r3 e3 s3 p3 h3 => h3.go ((p2.mono x'.fr).mono e3.fr) p3 r3 (((e1.trans e2).trans x').trans e3)
    | false => rw [if_neg (by simp)]; exact .ext ((e1.trans e2).trans x') (.now r' (.bl _) (q2 rfl)))
theorem wt_chain {op op' : CmpOp} (hm : lastMarks [op, op'] [b, c] = false := by with_unfolding_all rfl)
    (h : WE Γ a ρ μ fun x μ1 => WE Γ b ρ μ1 fun y μ2 => WO Γ (compareOp op) x y μ2 fun d μ3 => ∃ k, d = .bl k ∧ (k = true → WE Γ c ρ μ3 fun z μ4 => WO Γ (compareOp op') y z μ4 fun d μ5 => ∃ k, d = .bl k ∧ T k μ5) ∧ (k = false → T false μ3)) :
    WT Γ (.Compare a [op, op'] [b, c] pos) ρ μ T := fun σ F H s r =>
  semT.mk (fun X hX => pt_chain (r := fun x y H Q => semO Γ (compareOp op) x y H Q) (r' := fun x y H Q => semO Γ (compareOp op') x y H Q) (or_sem hX _) (or_sem hX _) (pe_sem hX a) (pe_sem hX b) (pe_sem hX c) hm) (h.go s r fun v F1 H1 x μ1 r1 e1 s1 p1 h1 => h1.go s1 r1 fun u F2 H2 y μ2 r2 e2 s2 p2 h2 => by
    obtain ⟨t, Q0, g1, g2, g3⟩ := h2 v u F2 H2 (p1.mono e2.fr) p2 r2
    refine ⟨t, Q0, g1, g2, fun w H' q => ?_⟩
    obtain ⟨F', d, μ', r', x', p', k, rfl, q1, q2⟩ := g3 w H' q
    refine ⟨k, rep_bl p', ?_⟩
    cases k with
    | true =>
      rw [if_pos rfl]
      refine (q1 rfl).go (s2.mono x'.fr) r' fun v3 F3 H3 z μ3 r3 e3 s3 p3 h3 => ?_
      obtain ⟨t, Q0, g1, g2, g3⟩ := h3 u v3 F3 H3 ((p2.mono x'.fr).mono e3.fr) p3 r3
      refine ⟨t, Q0, g1, g2, fun w H' q => ?_⟩
      obtain ⟨F', d, μ', r', x'', p', k, rfl, q'⟩ := g3 w H' q
      exact ⟨k, rep_bl p', F', μ', r', (((e1.trans e2).trans x').trans e3).trans x'', q'⟩
    | false => rw [if_neg (by simp)]; exact ⟨false, rfl, F', μ', r', (e1.trans e2).trans x', q2 rfl⟩)

/-! ### arguments, displays -/
theorem wa_nil {Q : List D → Mem → Prop} (q : Q [] μ) : WA Γ [] ρ μ Q := fun σ F H s r => semA.mk (fun X hX => pa_nil) ⟨F, [], μ, r, .refl _ _ _, .nil, q⟩
theorem wa_cons {Q : List D → Mem → Prop} (hs : ∀ env, starEach (e :: es) env = (false, eval e env) :: starEach es env := by intro _; rfl) (h : WE Γ e ρ μ fun x μ1 => WA Γ es ρ μ1 fun xs μ2 => Q (x :: xs) μ2) : WA Γ (e :: es) ρ μ Q := fun σ F H s r =>
  semA.mk (fun X hX => pa_cons (pe_sem hX e) (pa_sem hX es) (hs _)) (h.go s r fun v F1 H1 x μ1 r1 e1 s1 p1 h1 => h1.go s1 r1 fun vs F2 H2 xs μ2 r2 e2 s2 p2 h2 =>
    ⟨F2, x :: xs, μ2, r2, e1.trans e2, .cons (p1.mono e2.fr) p2, h2⟩)
theorem we_tup {k : Nat} (h : WA Γ es ρ μ fun xs μ1 => xs.length ≤ sizeLine ∧ Q (.tup xs) μ1) : WE Γ (.Tuple es k pos) ρ μ Q := fun σ F H s r =>
  semE.mk (fun X hX => pe_tup (pa_sem hX es)) (h.go s r fun vs F1 H1 xs μ1 r1 e1 s1 p1 h1 => ⟨by rw [p1.length]; exact h1.1, fun p hp => by
    obtain ⟨r2, e2⟩ := r1.layF hp (.tup vs)
    exact ⟨_, .tup xs, μ1, r2, e1.trans e2, .tup (.inl (.inl L2.upd_same)) (p1.mono e2.fr), h1.2⟩⟩)
/-- a list display that no one changes -/
theorem we_lst (h : WA Γ es ρ μ fun xs μ1 => xs.length ≤ sizeLine ∧ Q (.lst xs) μ1) : WE Γ (.List es pos) ρ μ Q := fun σ F H s r =>
  semE.mk (fun X hX => pe_lst (pa_sem hX es)) (h.go s r fun vs F1 H1 xs μ1 r1 e1 s1 p1 h1 => ⟨by rw [p1.length]; exact h1.1, fun p hp => by
    obtain ⟨r2, e2⟩ := r1.layF hp (.lst vs)
    exact ⟨_, .lst xs, μ1, r2, e1.trans e2, .lst L2.upd_same (p1.mono e2.fr), h1.2⟩⟩)
/-- a list display that is to change -/
theorem we_lstM (h : WA Γ es ρ μ fun xs μ1 => xs.length ≤ sizeLine ∧ ∀ p, μ1 p = none → Q (.loc p) (μ1.upd p (.lst xs))) : WE Γ (.List es pos) ρ μ Q := fun σ F H s r =>
  semE.mk (fun X hX => pe_lst (pa_sem hX es)) (h.go s r fun vs F1 H1 xs μ1 r1 e1 s1 p1 h1 => ⟨by rw [p1.length]; exact h1.1, fun p hp => by
    obtain ⟨r2, e2⟩ := r1.layM hp (.lst p1)
    exact ⟨_, .loc p, _, r2, e1.trans e2, .loc p, h1.2 p (r1.fresh hp).2⟩⟩)
theorem we_dctM (h : ∀ p, μ p = none → Q (.loc p) (μ.upd p (.dct []))) : WE Γ (.Dict [] [] pos) ρ μ Q := fun σ F H s r =>
  semE.mk (fun X hX => pe_dnewK) (fun p hp => by
    obtain ⟨r2, e2⟩ := r.layM hp (.dct (.nil (K := Γ.K) (F := F)))
    exact ⟨_, .loc p, _, r2, e2, .loc p, h p (r.fresh hp).2⟩)

/-! ### subscripts, slices -/
theorem we_sub (hs : PlainIx b := by exact fun _ _ => rfl) (h : WE Γ a ρ μ fun x μ1 => WE Γ b ρ μ1 fun y μ2 => WIx Γ x y μ2 Q) : WE Γ (.Subscript a b pos) ρ μ Q := fun σ F H s r =>
  semE.mk (fun X hX => pe_ix (ix_sem hX) (pe_sem hX a) (pe_sem hX b) hs) (h.go s r fun v F1 H1 x μ1 r1 e1 s1 p1 h1 => h1.go s1 r1 fun u F2 H2 y μ2 r2 e2 s2 p2 h2 =>
    h2.go (p1.mono e2.fr) p2 r2 (e1.trans e2))
end

/-! ### operations on data -/
section
variable {Γ : Gam} {μ : Mem} {Q : D → Mem → Prop}
theorem wo_ints {f : Value → Value → Sem Value} {C : Int → Int → Prop} {g : Int → Int → Int} (h : ∀ X : Cx, OpR X f (rI C fun i j => .int (g i j))) {i j : Int} (hc : C i j) (q : Q (.int (g i j)) μ) : WO Γ f (.int i) (.int j) μ Q := fun v u F H p1 p2 r => by
  cases p1; cases p2
  exact semO.mk (fun X _ => h X) ⟨i, j, rfl, rfl, hc, .now r (.int _) q⟩
theorem wo_ints0 {f : Value → Value → Sem Value} {g : Int → Int → Int} (h : ∀ X : Cx, OpR X f (rI0 fun i j => .int (g i j))) {i j : Int} (q : Q (.int (g i j)) μ) : WO Γ f (.int i) (.int j) μ Q := fun v u F H p1 p2 r => by
  cases p1; cases p2
  exact semO.mk (fun X _ => h X) ⟨i, j, rfl, rfl, .now r (.int _) q⟩
theorem wo_bls0 {f : Value → Value → Sem Value} {g : Int → Int → Bool} (h : ∀ X : Cx, OpR X f (rI0 fun i j => .bl (g i j))) {i j : Int} (q : Q (.bl (g i j)) μ) : WO Γ f (.int i) (.int j) μ Q := fun v u F H p1 p2 r => by
  cases p1; cases p2
  exact semO.mk (fun X _ => h X) ⟨i, j, rfl, rfl, .now r (.bl _) q⟩
variable {i j : Int}
theorem wo_add (q : Q (.int (i + j)) μ) : WO Γ (binaryOp .Add) (.int i) (.int j) μ Q := wo_ints0 (fun _ => op_add) q
theorem wo_sub (q : Q (.int (i - j)) μ) : WO Γ (binaryOp .Sub) (.int i) (.int j) μ Q := wo_ints0 (fun _ => op_sub) q
theorem wo_mul (h : CMul i j) (q : Q (.int (i * j)) μ) : WO Γ (binaryOp .Mult) (.int i) (.int j) μ Q := wo_ints (fun _ => op_mul) h q
theorem wo_fdiv (h : CDiv i j) (q : Q (.int (i / j)) μ) : WO Γ (binaryOp .FloorDiv) (.int i) (.int j) μ Q := wo_ints (fun _ => op_fdiv) h q
theorem wo_mod (h : 0 < j) (q : Q (.int (i % j)) μ) : WO Γ (binaryOp .Mod) (.int i) (.int j) μ Q := wo_ints (fun _ => op_mod) h q
theorem wo_pow (h : CPow i j) (q : Q (.int (i ^ j.toNat)) μ) : WO Γ (binaryOp .Pow) (.int i) (.int j) μ Q := wo_ints (fun _ => op_pow) h q
theorem wo_shl (h : CPow i j) (q : Q (.int (i * 2 ^ j.toNat)) μ) : WO Γ (binaryOp .LShift) (.int i) (.int j) μ Q := wo_ints (fun _ => op_shl) h q
theorem wo_lt (q : Q (.bl (decide (i < j))) μ) : WO Γ (compareOp .Lt) (.int i) (.int j) μ Q := wo_bls0 (fun _ => op_lt) q
theorem wo_le (q : Q (.bl (decide (i ≤ j))) μ) : WO Γ (compareOp .LtE) (.int i) (.int j) μ Q := wo_bls0 (fun _ => op_le) q
theorem wo_gt (q : Q (.bl (decide (j < i))) μ) : WO Γ (compareOp .Gt) (.int i) (.int j) μ Q := wo_bls0 (fun _ => op_gt) q
theorem wo_ge (q : Q (.bl (decide (j ≤ i))) μ) : WO Γ (compareOp .GtE) (.int i) (.int j) μ Q := wo_bls0 (fun _ => op_ge) q
theorem wu_neg (q : Q (.int (-i)) μ) : WU Γ (unaryOp .USub) (.int i) μ Q := fun v F H p r => by
  cases p
  exact semU.mk (fun X _ => un_neg) ⟨i, rfl, .now r (.int _) q⟩
/-- scalars that may be compared -/
def scV : D → Option V
  | .non => some .non | .bl b => some (.bl b) | .int i => some (.int i) | .str x => some (.str x) | _ => none
theorem rep_scV {K : PySem.W.Frag} {F : Hp} {v : V} {d : D} {x : V} (h : Rep K F v d) (e : scV d = some x) : v = x := by
  cases h <;> simp [scV] at e <;> exact e
theorem wo_eq {d e : D} {x y : V} (h1 : scV d = some x) (h2 : scV e = some y) (hs : scal x y = true) (q : Q (.bl (decide (x = y))) μ) : WO Γ (compareOp .Eq) d e μ Q := fun v u F H p1 p2 r => by
  have a := rep_scV p1 h1; have b := rep_scV p2 h2; subst a b
  exact semO.mk (fun X _ => op_eq) ⟨hs, .now r (.bl _) q⟩
theorem wo_ne {d e : D} {x y : V} (h1 : scV d = some x) (h2 : scV e = some y) (hs : scal x y = true) (q : Q (.bl (!decide (x = y))) μ) : WO Γ (compareOp .NotEq) d e μ Q := fun v u F H p1 p2 r => by
  have a := rep_scV p1 h1; have b := rep_scV p2 h2; subst a b
  exact semO.mk (fun X _ => op_ne) ⟨hs, .now r (.bl _) q⟩
theorem wo_eqI (q : Q (.bl (decide (i = j))) μ) : WO Γ (compareOp .Eq) (.int i) (.int j) μ Q :=
  wo_eq (x := .int i) (y := .int j) rfl rfl rfl (by
    have : decide ((V.int i) = V.int j) = decide (i = j) := by simp
    rw [this]; exact q)
theorem wo_neI (q : Q (.bl (!decide (i = j))) μ) : WO Γ (compareOp .NotEq) (.int i) (.int j) μ Q :=
  wo_ne (x := .int i) (y := .int j) rfl rfl rfl (by
    have : decide ((V.int i) = V.int j) = decide (i = j) := by simp
    rw [this]; exact q)
theorem wo_eqS {s t : Str} (q : Q (.bl (decide (s = t))) μ) : WO Γ (compareOp .Eq) (.str s) (.str t) μ Q :=
  wo_eq (x := .str s) (y := .str t) rfl rfl rfl (by
    have : decide ((V.str s) = V.str t) = decide (s = t) := by simp
    rw [this]; exact q)
theorem wo_neS {s t : Str} (q : Q (.bl (!decide (s = t))) μ) : WO Γ (compareOp .NotEq) (.str s) (.str t) μ Q :=
  wo_ne (x := .str s) (y := .str t) rfl rfl rfl (by
    have : decide ((V.str s) = V.str t) = decide (s = t) := by simp
    rw [this]; exact q)
theorem wo_isN {d : D} (n : Bool) (h : (n = true ∧ d = .non) ∨ (n = false ∧ d ≠ .non)) (q : Q (.bl n) μ) : WO Γ (compareOp .Is) d .non μ Q := fun v u F H p1 p2 r => by
  cases p2
  refine semO.mk (fun X _ => op_isN) ⟨rfl, ?_⟩
  have e : decide (v = V.non) = n := by
    rcases h with ⟨rfl, rfl⟩ | ⟨rfl, h⟩
    · cases p1; rfl
    · refine decide_eq_false fun z => ?_
      subst z; cases p1; exact h rfl
  rw [e]
  exact .now r (.bl _) q
theorem wo_notN {d : D} (n : Bool) (h : (n = false ∧ d = .non) ∨ (n = true ∧ d ≠ .non)) (q : Q (.bl n) μ) : WO Γ (compareOp .IsNot) d .non μ Q := fun v u F H p1 p2 r => by
  cases p2
  refine semO.mk (fun X _ => op_notN) ⟨rfl, ?_⟩
  have e : (!decide (v = V.non)) = n := by
    rcases h with ⟨rfl, rfl⟩ | ⟨rfl, h⟩
    · cases p1; rfl
    · rw [decide_eq_false fun z => ?_]; rfl
      subst z; cases p1; exact h rfl
  rw [e]
  exact .now r (.bl _) q
theorem reps_atI {K : PySem.W.Frag} {F : Hp} {vs : List V} {ds : List D} {k : Int} {d : D} (h : Reps K F vs ds) (e : atI ds k = some d) : ∃ v, atI vs k = some v ∧ Rep K F v d := by
  unfold atI at e ⊢
  rw [h.length]
  cases q : ixN ds.length k with
  | none => rw [q] at e; cases e
  | some j => rw [q] at e; exact h.get e
theorem wix_tup {ds : List D} {k : Int} {d : D} (e : atI ds k = some d) (q : Q d μ) : WIx Γ (.tup ds) (.int k) μ Q := fun v u F H p1 p2 r => by
  cases p2
  cases p1 with
  | tup h hs =>
    obtain ⟨w, h1, h2⟩ := reps_atI hs e
    exact semIx.mk (r := rIxT Γ.K) (fun X hX => hX.K ▸ ix_tup) ⟨_, _, _, w, rfl, rfl, same_seqT r.same h, h1, .now r h2 q⟩
theorem wix_lst {ds : List D} {k : Int} {d : D} (e : atI ds k = some d) (q : Q d μ) : WIx Γ (.lst ds) (.int k) μ Q := fun v u F H p1 p2 r => by
  cases p2
  cases p1 with
  | lst h hs =>
    obtain ⟨w, h1, h2⟩ := reps_atI hs e
    exact semIx.mk (r := rIxL Γ.K) (fun X hX => hX.K ▸ ix_list) ⟨_, _, _, w, rfl, rfl, SqL.of (r.same _ _ h), h1, .now r h2 q⟩
theorem wix_loc {a : Addr} {ds : List D} {k : Int} {d : D} (m : μ a = some (.lst ds)) (e : atI ds k = some d) (q : Q d μ) : WIx Γ (.loc a) (.int k) μ Q := fun v u F H p1 p2 r => by
  cases p2
  cases p1
  obtain ⟨_, ho, hH, hr⟩ := r.mem a _ m
  cases hr with
  | lst hs =>
    obtain ⟨w, h1, h2⟩ := reps_atI hs e
    exact semIx.mk (r := rIxL Γ.K) (fun X hX => hX.K ▸ ix_list) ⟨_, _, _, w, rfl, rfl, SqL.of hH, h1, .now r h2 q⟩
end
end DL
namespace DL
open PySem L2

/-! ### calls of the text's own defs -/
abbrev DSp := List D → Mem → (D → Mem → Prop) → Prop
def toSp (K : PySem.W.Frag) (sp : DSp) : Sp := fun vs H Q _ => ∃ F μ ds Q', Rel K F H μ ∧ Reps K F vs ds ∧ sp ds μ Q' ∧ ∀ v H', Post K F H μ Q' v H' → Q v H'
/-- the def named x keeps the promise sp, by at most level k -/
structure FnD (P : Program) (w : World) (K : PySem.W.Frag) (mg : Str → Option Value) (base : Heap) (k : Nat) (x : Str) (sp : DSp) : Prop where
  ex : ∃ (f : Addr) (fd : FuncData) (ps : List Str), mg x = some (.ref f) ∧ PySem.W.keepIn K (.ref f) = true ∧ Binds K fd ps [] ∧ FnOk P w K mg base CX0 k f fd ps (toSp K sp)
theorem FnD.mono {P : Program} {w : World} {K : PySem.W.Frag} {mg : Str → Option Value} {base : Heap} {k : Nat} {x : Str} {sp sp' : DSp} (h : FnD P w K mg base k x sp) (i : ∀ ds μ Q, sp' ds μ Q → sp ds μ Q) : FnD P w K mg base k x sp' := by
  obtain ⟨f, fd, ps, h1, h2, h3, h4⟩ := h.ex
  exact ⟨f, fd, ps, h1, h2, h3, h4.imp fun vs H Q E ⟨F, μ, ds, Q', r, p, q, z⟩ => ⟨F, μ, ds, Q', r, p, i _ _ _ q, z⟩⟩

section
variable {Γ : Gam} {ρ : Rho} {μ : Mem} {Q : D → Mem → Prop} {a b c e : Expr} {es : List Expr} {pos p : Pos} {x : Str}
theorem we_call [hc : Calm Γ] {k : Nat} {sp : DSp} (f : FnD Γ.P Γ.w Γ.K Γ.mg Γ.base k x sp) (hk : k ≤ Γ.k := by exact Nat.le_of_ble_eq_true rfl) (hg : GlD Γ x := by rfl) (hdb : (x == ("__debug__" : Str)) = false := by decide)
    (he : ∀ env, starEach (e :: es) env = (false, eval e env) :: starEach es env := by intro _; rfl) (hpl : ∀ env, (backTo pos (starEach es env)).any (·.1) = false := by intro _; rfl)
    (h : WA Γ (e :: es) ρ μ fun ds μ1 => sp ds μ1 Q) : WE Γ (.Call (.Name x p) (e :: es) [] pos) ρ μ Q := fun σ F H s r => by
  obtain ⟨fa, fd, ps, h1, h2, h3, h4⟩ := f.ex
  refine semE.mk (t := tCall (toSp Γ.K sp) [] E0 (semA Γ (e :: es))) (fun X hX => ?_) (h.go s r fun vs F1 H1 ds μ1 r1 e1 s1 p1 q1 => ?_)
  · refine pe_call (CX := CX0) (k := Γ.k) (fd := fd) (ps := ps) ?_ (hX.room hc.h) (hX.gl hg) (by rw [hX.mg]; exact h1) (by rw [hX.K]; exact h2) (by rw [hX.K]; exact h3) .nil pass0 (pa_sem hX _) hdb (he _) (hpl _)
    rw [hX.P, hX.w, hX.K, hX.mg, hX.base]
    exact h4.mono hk
  · exact ⟨F1, μ1, ds, Q, r1, by rw [List.append_nil]; exact p1, q1, fun v H' q => q.ext e1⟩
theorem we_callB {id : String} (hv : bootBuiltins x = some (.builtin id)) (hm : Γ.mg x = none) (hg : GlD Γ x := by rfl) (hn : x ≠ "__name__" := by decide) (hdb : (x == ("__debug__" : Str)) = false := by decide)
    (he : ∀ env, starEach (e :: es) env = (false, eval e env) :: starEach es env := by intro _; rfl) (hpl : ∀ env, (backTo pos (starEach es env)).any (·.1) = false := by intro _; rfl)
    (h : WA Γ (e :: es) ρ μ fun ds μ1 => WC Γ (.builtin id) ds μ1 Q) : WE Γ (.Call (.Name x p) (e :: es) [] pos) ρ μ Q := fun σ F H s r =>
  semE.mk (fun X hX => pe_callB (cr_sem hX _) (hX.gl hg) (by rw [hX.mg]; exact hm) hv (pa_sem hX _) hn hdb (he _) (hpl _)) (h.go s r fun vs F1 H1 ds μ1 r1 e1 s1 p1 q1 => q1.go p1 r1 e1)
theorem we_callT {T : String} (hv : bootBuiltins x = some (.type T)) (hm : Γ.mg x = none) (hg : GlD Γ x := by rfl) (hn : x ≠ "__name__" := by decide) (hdb : (x == ("__debug__" : Str)) = false := by decide)
    (he : ∀ env, starEach (e :: es) env = (false, eval e env) :: starEach es env := by intro _; rfl) (hpl : ∀ env, (backTo pos (starEach es env)).any (·.1) = false := by intro _; rfl)
    (h : WA Γ (e :: es) ρ μ fun ds μ1 => WC Γ (.type T) ds μ1 Q) : WE Γ (.Call (.Name x p) (e :: es) [] pos) ρ μ Q := fun σ F H s r =>
  semE.mk (fun X hX => pe_callTy (cr_sem hX _) (hX.gl hg) (by rw [hX.mg]; exact hm) hv (pa_sem hX _) hn hdb (he _) (hpl _)) (h.go s r fun vs F1 H1 ds μ1 r1 e1 s1 p1 q1 => q1.go p1 r1 e1)
/-- a method of a list that changes -/
theorem we_lm {o : Expr} {m : Str} {id : String} {apos : Pos} (slot : Slot "list" m id) (hty : typeOf (.builtin id) = pure (.type "method_descriptor"))
    (hb : ∀ env, attributeBase o m env (eval o env) = eval o env := by intro _; rfl)
    (hfew : ∀ env, ((backTo pos (starEach (e :: es) env)).all (fun x => !x.1) && (backToKw pos (keywordEach [] env)).all (fun x => x.1.isSome)
      && decide ((e :: es).length + ([] : List Keyword).length + (if ([] : List Keyword).isEmpty then 0 else 1) < 30)) = true := by intro _; rfl)
    (hl : (apos.endLine == pos.line) = true := by rfl) (he : ∀ env, starEach (e :: es) env = (false, eval e env) :: starEach es env := by intro _; rfl) (hpl : ∀ env, (backTo pos (starEach es env)).any (·.1) = false := by intro _; rfl)
    (h : WE Γ o ρ μ fun d μ1 => ∃ a ds0, d = .loc a ∧ μ1 a = some (.lst ds0) ∧ WA Γ (e :: es) ρ μ1 fun ds μ2 => WM Γ id d ds μ2 Q) : WE Γ (.Call (.Attribute o m apos) (e :: es) [] pos) ρ μ Q := fun σ F H s r =>
  semE.mk (t := tBM Γ.K "list" (semM Γ id) (semE Γ o) (semA Γ (e :: es))) (fun X hX => by
      have := pe_bm (X := X) (apos := apos) (cpos := pos) PySem.F.plainAttrs_list slot hty (mt_sem hX id) (pe_sem hX o) (pa_sem hX (e :: es)) (hb _) (hfew _) hl (he _) (hpl _)
      rw [hX.K] at this; exact this)
    (h.go s r fun v F1 H1 d μ1 r1 e1 s1 p1 q1 => by
      obtain ⟨a, ds0, rfl, hm, q1⟩ := q1
      cases p1
      obtain ⟨_, ho, hH, hr⟩ := r1.mem a _ hm
      cases hr with
      | lst hs =>
        refine ⟨.inl ⟨rfl, _, SqL.of hH⟩, q1.go s1 r1 fun vs F2 H2 ds μ2 r2 e2 s2 p2 q2 => q2.go (.loc a) p2 r2 (e1.trans e2)⟩)

/-! ### statements -/
variable {D' : DEnds} {st : Stmt} {sts : List Stmt}
theorem DEnds.le_of {K : PySem.W.Frag} {F H F1 H1 : Hp} {μ μ1 : Mem} {A B : DEnds} (x : Ext F H μ F1 H1 μ1) (hn : ∀ σ H', PostS K F1 H1 μ1 A.nx σ H' → (B.lift K F H μ).nx σ H') (hr : A.rt = B.rt) (hb : A.bk = B.bk) (hc : A.ct = B.ct) :
    EndsLe (A.lift K F1 H1 μ1) { B.lift K F H μ with nx := (B.lift K F H μ).nx } :=
  ⟨hn, fun _ _ h => by
    have : Post K F1 H1 μ1 A.rt _ _ := h
    rw [hr] at this; exact this.ext x, fun _ _ h => by
    have : PostS K F1 H1 μ1 A.bk _ _ := h
    rw [hb] at this; exact this.ext x, fun _ _ h => by
    have : PostS K F1 H1 μ1 A.ct _ _ := h
    rw [hc] at this; exact this.ext x⟩
theorem wss_nil (q : D'.nx ρ μ) : WSs Γ [] ρ μ D' := fun σ F H s r => semSs.mk (fun X hX => pss_nil) ⟨F, ρ, μ, s, r, .refl _ _ _, q⟩
theorem wss_cons (h : WS Γ st ρ μ { D' with nx := fun ρ1 μ1 => WSs Γ sts ρ1 μ1 D' }) : WSs Γ (st :: sts) ρ μ D' := fun σ F H s r =>
  semSs.mk (t := tSeq (semS Γ st) (semSs Γ sts)) (fun X hX => pss_cons (ps_sem hX st) (pss_sem hX sts)) ((h σ F H s r).le ⟨fun σ' H' ⟨F1, ρ1, μ1, s1, r1, e1, q1⟩ => (q1 σ' F1 H' s1 r1).le (DEnds.ext e1), fun _ _ h => h, fun _ _ h => h, fun _ _ h => h⟩)
theorem WSs.le {A B : DEnds} (h : WSs Γ sts ρ μ A) (hn : ∀ ρ μ, A.nx ρ μ → B.nx ρ μ) (hr : ∀ d μ, A.rt d μ → B.rt d μ) (hb : ∀ ρ μ, A.bk ρ μ → B.bk ρ μ) (hc : ∀ ρ μ, A.ct ρ μ → B.ct ρ μ) : WSs Γ sts ρ μ B := fun σ F H s r =>
  (h σ F H s r).le ⟨fun _ _ ⟨F1, ρ1, μ1, s1, r1, e1, q1⟩ => ⟨F1, ρ1, μ1, s1, r1, e1, hn _ _ q1⟩, fun _ _ ⟨F1, ρ1, μ1, s1, r1, e1, q1⟩ => ⟨F1, ρ1, μ1, s1, r1, e1, hr _ _ q1⟩, fun _ _ ⟨F1, ρ1, μ1, s1, r1, e1, q1⟩ => ⟨F1, ρ1, μ1, s1, r1, e1, hb _ _ q1⟩, fun _ _ ⟨F1, ρ1, μ1, s1, r1, e1, q1⟩ => ⟨F1, ρ1, μ1, s1, r1, e1, hc _ _ q1⟩⟩
theorem ws_expr (hs : ∀ env, swapsWith e none pos.line env = pure false := by intro _; rfl) (h : WE Γ e ρ μ fun _ μ1 => D'.nx ρ μ1) : WS Γ (.Expr e pos) ρ μ D' := fun σ F H s r =>
  semS.mk (fun X hX => ps_expr (pe_sem hX e) (hs _)) (h.go s r fun v F1 H1 d μ1 r1 e1 s1 p1 q1 => ⟨F1, ρ, μ1, s1, r1, e1, q1⟩)
theorem ws_ret (h : WE Γ e ρ μ fun d μ1 => ∃ μ2 : Mem, μ2.Sub μ1 ∧ D'.rt d μ2) : WS Γ (.Return (some e) pos) ρ μ D' := fun σ F H s r =>
  semS.mk (fun X hX => ps_ret (pe_sem hX e)) (h.go s r fun v F1 H1 d μ1 r1 e1 s1 p1 ⟨μ2, z, q1⟩ => ⟨F1, d, μ2, r1.drop z, e1.drop z, p1, q1⟩)
theorem ws_ret' (h : WE Γ e ρ μ D'.rt) : WS Γ (.Return (some e) pos) ρ μ D' := fun σ F H s r =>
  semS.mk (fun X hX => ps_ret (pe_sem hX e)) (h.go s r fun v F1 H1 d μ1 r1 e1 s1 p1 q1 => ⟨F1, d, μ1, r1, e1, p1, q1⟩)
theorem ws_retN (h : D'.rt .non μ) : WS Γ (.Return none pos) ρ μ D' := fun σ F H s r =>
  semS.mk (fun X hX => ps_retN) ⟨F, .non, μ, r, .refl _ _ _, .non, h⟩
theorem ws_if {A B : List Stmt} (h : WT Γ c ρ μ fun k μ1 => (k = true → WSs Γ A ρ μ1 D') ∧ (k = false → WSs Γ B ρ μ1 D')) : WS Γ (.If c A B pos) ρ μ D' := fun σ F H s r =>
  semS.mk (fun X hX => ps_if (pt_sem hX c) (pss_sem hX A) (pss_sem hX B)) (h.go s r fun k F1 H1 μ1 r1 e1 s1 q1 => by
    cases k with
    | true => rw [if_pos rfl]; exact (q1.1 rfl σ F1 H1 s1 r1).le (DEnds.ext e1)
    | false => rw [if_neg (by simp)]; exact (q1.2 rfl σ F1 H1 s1 r1).le (DEnds.ext e1))
theorem ws_pass (h : D'.nx ρ μ) : WS Γ (.Pass pos) ρ μ D' := fun σ F H s r => semS.mk (fun X hX => ps_pass) ⟨F, ρ, μ, s, r, .refl _ _ _, h⟩
theorem ws_break (h : D'.bk ρ μ) : WS Γ (.Break pos) ρ μ D' := fun σ F H s r => semS.mk (fun X hX => ps_break) ⟨F, ρ, μ, s, r, .refl _ _ _, h⟩
theorem ws_cont (h : D'.ct ρ μ) : WS Γ (.Continue pos) ρ μ D' := fun σ F H s r => semS.mk (fun X hX => ps_continue) ⟨F, ρ, μ, s, r, .refl _ _ _, h⟩
/-- how a name may be stored -/
def StD (Γ : Gam) (x : Str) : Prop := Loc Γ.sc x ∧ (Γ.fn x = true ∨ Γ.sc.names.lookup x = some .local)
theorem Gam.ok.st1 {X : Cx} (hX : Γ.ok X) (h : StD Γ x) : Loc X.env.scope x := hX.loc h.1
theorem Gam.ok.st2 {X : Cx} (hX : Γ.ok X) (h : StD Γ x) : X.fn x = true ∨ X.env.scope.names.lookup x = some .local := by
  rcases h.2 with k | k
  · exact .inl (by rw [hX.fn]; exact k)
  · exact .inr (by rw [hX.sc]; exact k)
theorem ws_set (i : Nat) {pos' : Pos} (hN : Γ.N[i]? = some x := by rfl) (hx : StD Γ x := by first | exact ⟨Or.inl rfl, Or.inr rfl⟩ | exact ⟨Or.inr rfl, Or.inl rfl⟩)
    (hs : ∀ env, swapsWith e (some (.Name x pos')) pos.line env = pure false := by intro _; rfl) (h : WE Γ e ρ μ fun d μ1 => D'.nx (ρ.set i (some d)) μ1) : WS Γ (.Assign [.Name x pos'] e pos) ρ μ D' := fun σ F H s r =>
  semS.mk (t := tAsg (semE Γ e) (gName i)) (fun X hX => ps_set hX.nd (hX.nm hN) (hX.st1 hx) (pe_sem hX e) (hs _) (hX.st2 hx)) (h.go s r fun v F1 H1 d μ1 r1 e1 s1 p1 q1 => ⟨F1, _, μ1, s1.set i p1, r1, e1, q1⟩)
/-- targets: ix tells which slots they store -/
def WGi (Γ : Gam) (ix : List Nat) (e : Expr) (d : D) (ρ : Rho) (μ : Mem) (Q : Rho → Mem → Prop) : Prop := ∀ v σ F H, Rep Γ.K F v d → Slots Γ.K F σ ρ → Rel Γ.K F H μ →
  semG Γ e v σ H fun σ' H' => ((∀ j, j ∉ ix → σ'[j]? = σ[j]?) ∧ σ'.length = σ.length) ∧ PostS Γ.K F H μ Q σ' H'
theorem wg_name (i : Nat) {d : D} {R : Rho → Mem → Prop} (hN : Γ.N[i]? = some x := by rfl) (hx : StD Γ x := by first | exact ⟨Or.inl rfl, Or.inr rfl⟩ | exact ⟨Or.inr rfl, Or.inl rfl⟩)
    (q : R (ρ.set i (some d)) μ) : WGi Γ [i] (.Name x pos) d ρ μ R := fun v σ F H p s r =>
  semG.mk (t := gName i) (fun X hX => pg_name hX.nd (hX.nm hN) (hX.st1 hx) (hX.st2 hx)) ⟨⟨fun j hj => List.getElem?_set_ne fun z => hj (by simp [z]), by rw [List.length_set]⟩, F, _, μ, s.set i p, r, .refl _ _ _, q⟩
/-- a row of targets for a row of data -/
def WGs (Γ : Gam) (ix : List Nat) (es : List Expr) (ds : List D) (ρ : Rho) (μ : Mem) (Q : Rho → Mem → Prop) : Prop := ∀ vs σ F H, Reps Γ.K F vs ds → Slots Γ.K F σ ρ → Rel Γ.K F H μ →
  ∃ (t : TGs) (Q0 : L2.St → Hp → Prop), (∀ X, Γ.ok X → PGs X es t) ∧ t vs σ H Q0 ∧ ∀ σ' H', Q0 σ' H' → ((∀ j, j ∉ ix → σ'[j]? = σ[j]?) ∧ σ'.length = σ.length) ∧ PostS Γ.K F H μ Q σ' H'
theorem wgs_nil {R : Rho → Mem → Prop} (q : R ρ μ) : WGs Γ [] [] [] ρ μ R := fun vs σ F H p s r => by
  cases p
  exact ⟨gNil, fun σ' H' => σ' = σ ∧ H' = H, fun X hX => pgs_nil, ⟨rfl, rfl, rfl⟩, fun σ' H' ⟨e1, e2⟩ => by
    subst e1 e2
    exact ⟨⟨fun _ _ => rfl, rfl⟩, F, ρ, μ, s, r, .refl _ _ _, q⟩⟩
def semGs (Γ : Gam) (es : List Expr) : TGs := fun vs σ H Q => ∃ (t : TGs) (Q0 : L2.St → Hp → Prop), (∀ X, Γ.ok X → PGs X es t) ∧ t vs σ H Q0 ∧ ∀ σ' H', Q0 σ' H' → Q σ' H'
theorem pgs_sem {X : Cx} (hX : Γ.ok X) (es : List Expr) : PGs X es (semGs Γ es) := ⟨fun pins s σ H vs us Q I r ⟨t, Q0, h, ht, hq⟩ =>
  thn ((h X hX).run pins s σ H vs us Q0 I r ht) fun _ _ ⟨σ', H', I', q⟩ => ⟨σ', H', I', hq _ _ q⟩⟩
theorem wgs_cons {ix jx : List Nat} {d : D} {ds : List D} {R : Rho → Mem → Prop} (ha : ∀ env, List.map (fun x => x.snd) (assignEach (e :: es) env) = assign e env :: List.map (fun x => x.snd) (assignEach es env) := by intro _; rfl) (h : WGi Γ ix e d ρ μ fun ρ1 μ1 => WGs Γ jx es ds ρ1 μ1 R) : WGs Γ (ix ++ jx) (e :: es) (d :: ds) ρ μ R := fun vs σ F H p s r => by
  cases p with
  | @cons v vs _ _ p ps =>
    refine ⟨gCons (semG Γ e) (semGs Γ es), fun σ' H' => ((∀ j, j ∉ ix ++ jx → σ'[j]? = σ[j]?) ∧ σ'.length = σ.length) ∧ PostS Γ.K F H μ R σ' H', fun X hX => pgs_cons (pg_sem hX e) (pgs_sem hX es) (ha _), ⟨v, vs, rfl, ?_⟩, fun _ _ h => h⟩
    obtain ⟨t, Q0, h1, h2, h3⟩ := h v σ F H p s r
    refine ⟨t, Q0, h1, h2, fun σ1 H1 q => ?_⟩
    obtain ⟨⟨g1, g1'⟩, F1, ρ1, μ1, s1, r1, e1, q1⟩ := h3 σ1 H1 q
    obtain ⟨t2, Q2, k1, k2, k3⟩ := q1 vs σ1 F1 H1 (ps.mono e1.fr) s1 r1
    refine ⟨t2, Q2, k1, k2, fun σ2 H2 q2 => ?_⟩
    obtain ⟨⟨g2, g2'⟩, q3⟩ := k3 σ2 H2 q2
    refine ⟨⟨fun j hj => ?_, g2'.trans g1'⟩, q3.ext e1⟩
    rw [List.mem_append, not_or] at hj
    rw [g2 j hj.2, g1 j hj.1]
theorem wg_tup [hc : Calm Γ] {ix : List Nat} {k : Nat} {ds : List D} {R : Rho → Mem → Prop} (n : Nat) (hl : ds.length = n := by rfl) (hn : ∀ env, (assignEach es env).length = n := by intro _; rfl) (hst : ∀ env, (assignEach es env).findIdx? (·.1) = none := by intro _; rfl)
    (h : WGs Γ ix es ds ρ μ R) : WGi Γ ix (.Tuple es k pos) (.tup ds) ρ μ R := fun v σ F H p s r => by
  cases p with
  | @tup a xs _ h1 h2 =>
    obtain ⟨t, Q0, g1, g2, g3⟩ := h xs σ F H h2 s r
    refine semG.mk (t := gTup Γ.K n (semGs Γ es)) (fun X hX => ?_) ⟨a, xs, rfl, same_seqT r.same h1, by rw [h2.length]; exact hl, t, Q0, g1, g2, g3⟩
    have := pg_tup (X := X) (es := es) (k := k) (pos := pos) (hX.calm hc.h) (pgs_sem hX es) (hn _) (hst _)
    rw [hX.K] at this; exact this
theorem ws_asg {ix : List Nat} {tg : Expr} (hs : ∀ env, swapsWithSole [tg] e pos.line env = pure false := by intro _; rfl) (hw : ∀ env, swappedStores [tg] e env = pure none := by intro _; rfl) (h1 : ∀ env, (assignEach [tg] env).map (·.2) = [assign tg env] := by intro _; rfl)
    (h : WE Γ e ρ μ fun d μ1 => WGi Γ ix tg d ρ μ1 D'.nx) : WS Γ (.Assign [tg] e pos) ρ μ D' := fun σ F H s r =>
  semS.mk (fun X hX => ps_asg (pe_sem hX e) (pg_sem hX tg) (hs _) (hw _) (h1 _)) (h.go s r fun v F1 H1 d μ1 r1 e1 s1 p1 q1 => by
    obtain ⟨t, Q0, g1, g2, g3⟩ := q1 v σ F1 H1 p1 s1 r1
    exact ⟨t, Q0, g1, g2, fun σ' H' q => (g3 σ' H' q).2.ext e1⟩)
/-- x += e, ints -/
theorem ws_augI (i : Nat) {op : Operator} {f : Int → Int → Int} {pos' : Pos} {m : Int} (ho : ∀ X : Cx, PIp X op (ipI f)) (hN : Γ.N[i]? = some x := by rfl) (hx : StD Γ x := by first | exact ⟨Or.inl rfl, Or.inr rfl⟩ | exact ⟨Or.inr rfl, Or.inl rfl⟩)
    (hρ : ρ[i]? = some (some (.int m)) := by rfl) (h : WE Γ e ρ μ fun d μ1 => ∃ n, d = .int n ∧ D'.nx (ρ.set i (some (.int (f m n)))) μ1) : WS Γ (.AugAssign (.Name x pos') op e pos) ρ μ D' := fun σ F H s r => by
  obtain ⟨v, h1, h2⟩ := s.at_ i _ hρ
  cases h2
  refine semS.mk (fun X hX => ps_aug (i := i) hX.nd (hX.nm hN) (hX.st1 hx) (pe_sem hX e) (ho X) (hX.st2 hx)) ⟨.int m, h1, h.go s r fun v F1 H1 d μ1 r1 e1 s1 p1 q1 => ?_⟩
  obtain ⟨n, rfl, q1⟩ := q1
  cases p1
  exact ⟨m, n, rfl, rfl, F1, _, μ1, s1.set i (.int _), r1, e1, q1⟩
/-- a list that no longer changes: its name's slot bears its data from here on -/
theorem wss_freeze (i : Nat) {a : Addr} {ds : List D} (hρ : ρ[i]? = some (some (.loc a))) (hm : μ a = some (.lst ds)) (h : WSs Γ sts (ρ.set i (some (.lst ds))) (μ.del a) D') : WSs Γ sts ρ μ D' := fun σ F H s r => by
  obtain ⟨F1, r1, e1, p1⟩ := r.freeze hm
  obtain ⟨v, h1, h2⟩ := s.at_ i _ hρ
  cases h2
  refine (h σ F1 H ((s.mono e1.fr).put i (fun v hv => ?_) ⟨_, h1⟩) r1).le (DEnds.ext e1)
  rw [h1] at hv; cases hv; exact p1
theorem we_freeze (i : Nat) {a : Addr} {ds : List D} (hρ : ρ[i]? = some (some (.loc a))) (hm : μ a = some (.lst ds)) (h : WE Γ e (ρ.set i (some (.lst ds))) (μ.del a) Q) : WE Γ e ρ μ Q := fun σ F H s r => by
  obtain ⟨F1, r1, e1, p1⟩ := r.freeze hm
  obtain ⟨v, h1, h2⟩ := s.at_ i _ hρ
  cases h2
  obtain ⟨t, Q0, g1, g2, g3⟩ := h σ F1 H ((s.mono e1.fr).put i (fun v hv => by rw [h1] at hv; cases hv; exact p1) ⟨_, h1⟩) r1
  exact ⟨t, Q0, g1, g2, fun v H' q => (g3 v H' q).ext e1⟩
/-- things may be forgotten at any place -/
theorem wss_drop {μ' : Mem} (z : μ'.Sub μ) (h : WSs Γ sts ρ μ' D') : WSs Γ sts ρ μ D' := fun σ F H s r =>
  (h σ F H s (r.drop z)).le (DEnds.ext ⟨Same.refl _, fun _ _ h _ => h, fun _ h => .inl h, fun a h => .inl fun q => h (by
    cases e : μ' a with
    | none => rfl
    | some o => rw [z a o e] at q; cases q)⟩)
end

/-! ### a def by its body -/
def startD (N : List Str) (ds : List D) : Rho := ds.map some ++ List.replicate (N.length - ds.length) none
theorem slots_start {K : PySem.W.Frag} {F : Hp} {N : List Str} {vs : List V} {ds : List D} (h : Reps K F vs ds) : Slots K F (L2.start N vs) (startD N ds) := by
  refine ⟨by unfold L2.start startD; simp [h.length], fun i d e => ?_⟩
  unfold startD at e
  unfold L2.start
  by_cases hi : i < ds.length
  · rw [List.getElem?_append_left (by simpa using hi), List.getElem?_map] at e
    rw [List.getElem?_append_left (by simpa [h.length] using hi), List.getElem?_map]
    cases q : ds[i]? with
    | none => rw [q] at e; cases e
    | some d' =>
      rw [q] at e; cases e
      obtain ⟨v, h1, h2⟩ := h.get q
      exact ⟨v, by rw [h1]; rfl, h2⟩
  · rw [List.getElem?_append_right (by simpa using Nat.not_lt.mp hi), List.getElem?_replicate] at e
    split at e <;> cases e
abbrev gamF (P : Program) (w : World) (K : PySem.W.Frag) (mg : Str → Option Value) (base : Heap) (N : List Str) (sc : Scope) (k : Nat) : Gam := ⟨P, w, K, mg, base, N, sc, fun _ => true, k, none, true⟩
instance calm_gamF {P : Program} {w : World} {K : PySem.W.Frag} {mg : Str → Option Value} {base : Heap} {N : List Str} {sc : Scope} {k : Nat} : Calm (gamF P w K mg base N sc k) := ⟨rfl⟩
instance calm_mk {P : Program} {w : World} {K : PySem.W.Frag} {mg : Str → Option Value} {base : Heap} {N : List Str} {sc : Scope} {fn : Str → Bool} {k : Nat} {top : Bool} : Calm ⟨P, w, K, mg, base, N, sc, fn, k, none, top⟩ := ⟨rfl⟩
theorem FnD.of {P : Program} {w : World} {K : PySem.W.Frag} {mg : Str → Option Value} {base : Heap} {x qual : Str} {st : Stmt} {f : Addr} {fd : FuncData} {N ps : List Str} {k : Nat} {sp : DSp} (F : Fun K x qual st f fd) (S : FnScope N ps (defScope st)) (hm : mg x = some (.ref f))
    (hb : Binds K fd ps []) (len : ∀ ds μ Q, sp ds μ Q → ds.length = ps.length)
    (body : ∀ ds μ Q, sp ds μ Q → WSs (gamF P w K mg base N (defScope st) k) (defBody st) (startD N ds) μ { nx := fun _ μ1 => Q .non μ1, rt := Q }) : FnD P w K mg base (k + 1) x sp := by
  refine ⟨f, fd, ps, hm, F.kp, hb, F.ok S (fun vs H Q E ⟨F, μ, ds, Q', r, p, q, z⟩ => by rw [p.length]; exact len _ _ _ q) fun cdv A outer s H vs Q E hr ⟨F', μ, ds, Q', r, p, q, z⟩ => ?_⟩
  refine ⟨semSs (gamF P w K mg base N (defScope st) k) (defBody st), pss_sem ⟨rfl, rfl, rfl, rfl, rfl, rfl, rfl, rfl, fun _ => rfl, rfl, fun _ => hr, hr.un, S.nd, fun _ => ⟨rfl, rfl⟩, fun _ _ _ e => by cases e⟩ _, ?_⟩
  refine (body ds μ Q' q _ F' H (slots_start p) r).le ⟨fun σ H' ⟨F1, ρ1, μ1, s1, r1, e1, q1⟩ => z _ _ ⟨F1, .non, μ1, r1, e1, .non, q1⟩, fun v H' q => z _ _ q, fun _ _ ⟨_, _, _, _, _, _, q⟩ => q, fun _ _ ⟨_, _, _, _, _, _, q⟩ => q⟩
/-- a def of the text, as the top has left it -/
def TF (K : PySem.W.Frag) (mg : Str → Option Value) (x : Str) (st : Stmt) (ps : List Str) : Prop := ∃ (f : Addr) (fd : FuncData), Fun K x x st f fd ∧ mg x = some (.ref f) ∧ Binds K fd ps []
theorem TF.ok {P : Program} {w : World} {K : PySem.W.Frag} {mg : Str → Option Value} {base : Heap} {x : Str} {st : Stmt} {N ps : List Str} (k : Nat) {sp : DSp} (T : TF K mg x st ps) (S : FnScope N ps (defScope st)) (len : ∀ ds μ Q, sp ds μ Q → ds.length = ps.length)
    (body : ∀ ds μ Q, sp ds μ Q → WSs (gamF P w K mg base N (defScope st) k) (defBody st) (startD N ds) μ { nx := fun _ μ1 => Q .non μ1, rt := Q }) : FnD P w K mg base (k + 1) x sp := by
  obtain ⟨f, fd, F, hm, hb⟩ := T
  exact FnD.of F S hm hb len body
end DL
namespace DL
open PySem L2

def semI (Γ : Gam) (tg iter : Expr) : TI := fun σ H R => ∃ (wi : TI) (R0 : It → Hp → Prop), (∀ X, Γ.ok X → PI X tg iter wi) ∧ wi σ H R0 ∧ ∀ J H', R0 J H' → R J H'
theorem pi_sem {Γ : Gam} {X : Cx} (hX : Γ.ok X) (tg iter : Expr) : PI X tg iter (semI Γ tg iter) := ⟨fun pins s σ H R I ⟨wi, R0, h, hw, hq⟩ =>
  thn ((h X hX).run pins s σ H R0 I hw) fun v s1 h1 => thn h1 fun itv s2 ⟨it, fp, tn, J, H', e, I2, T, t2, f2, q⟩ => ⟨it, fp, tn, J, H', e, I2, T, t2, f2, hq _ _ q⟩⟩
/-- an iterator gives just ds, whatever else happens -/
structure IterOk (K : PySem.W.Frag) (F1 : Hp) (J : It) (ds : List D) : Prop where
  go : ∀ (i : Nat) (F H : Hp) (μ : Mem), Same F1 F → Rel K F H μ → ∀ d, ds[i]? = some d → J.go i H ∧ ∀ x H', J.yld i H x H' → ∃ F', Rel K F' H' μ ∧ Ext F H μ F' H' μ ∧ Rep K F' x d
  stop : ∀ (i : Nat) (F H : Hp) (μ : Mem), Same F1 F → Rel K F H μ → ds.length ≤ i → J.stop i H
/-- the same, while G holds of what changes -/
structure IterG (K : PySem.W.Frag) (F1 : Hp) (J : It) (ds : List D) (G : Mem → Prop) : Prop where
  go : ∀ (i : Nat) (F H : Hp) (μ : Mem), Same F1 F → Rel K F H μ → G μ → ∀ d, ds[i]? = some d → J.go i H ∧ ∀ x H', J.yld i H x H' → ∃ F', Rel K F' H' μ ∧ Ext F H μ F' H' μ ∧ Rep K F' x d
  stop : ∀ (i : Nat) (F H : Hp) (μ : Mem), Same F1 F → Rel K F H μ → G μ → ds.length ≤ i → J.stop i H
theorem IterOk.g {K : PySem.W.Frag} {F1 : Hp} {J : It} {ds : List D} (h : IterOk K F1 J ds) : IterG K F1 J ds fun _ => True := ⟨fun i F H μ s r _ => h.go i F H μ s r, fun i F H μ s r _ => h.stop i F H μ s r⟩
theorem semI.mk {Γ : Gam} {tg iter : Expr} {wi : TI} {σ : L2.St} {H : Hp} {R : It → Hp → Prop} (h : ∀ X, Γ.ok X → PI X tg iter wi) (q : wi σ H R) : semI Γ tg iter σ H R := ⟨wi, R, h, q, fun _ _ x => x⟩
def WI (Γ : Gam) (tg iter : Expr) (ρ : Rho) (μ : Mem) (R : List D → Mem → Prop) : Prop := ∀ σ F H, Slots Γ.K F σ ρ → Rel Γ.K F H μ →
  semI Γ tg iter σ H fun J H1 => ∃ F1 μ1 ds, Rel Γ.K F1 H1 μ1 ∧ Ext F H μ F1 H1 μ1 ∧ IterOk Γ.K F1 J ds ∧ R ds μ1

def WIG (Γ : Gam) (tg iter : Expr) (ρ : Rho) (μ : Mem) (R : List D → (Mem → Prop) → Mem → Prop) : Prop := ∀ σ F H, Slots Γ.K F σ ρ → Rel Γ.K F H μ →
  semI Γ tg iter σ H fun J H1 => ∃ F1 μ1 ds G, Rel Γ.K F1 H1 μ1 ∧ Ext F H μ F1 H1 μ1 ∧ IterG Γ.K F1 J ds G ∧ R ds G μ1
theorem WI.g {Γ : Gam} {tg iter : Expr} {ρ : Rho} {μ : Mem} {R : List D → Mem → Prop} (h : WI Γ tg iter ρ μ R) : WIG Γ tg iter ρ μ fun ds G μ1 => (∀ μ', G μ') ∧ R ds μ1 := fun σ F H s r => by
  obtain ⟨wi, R0, h1, h2, h3⟩ := h σ F H s r
  refine ⟨wi, R0, h1, h2, fun J H' q => ?_⟩
  obtain ⟨F1, μ1, ds, r1, e1, ok, q⟩ := h3 J H' q
  exact ⟨F1, μ1, ds, _, r1, e1, ok.g, fun _ => trivial, q⟩

section
variable {Γ : Gam} {ρ : Rho} {μ : Mem} {Q : D → Mem → Prop} {a b c e : Expr} {es : List Expr} {pos p : Pos} {x : Str} {tg iter : Expr} {R : List D → Mem → Prop} {D' : DEnds} {body : List Stmt}
theorem iter_lst {K : PySem.W.Frag} {F1 : Hp} {a : Addr} {xs : List V} {ds : List D} (h : SqL K F1 a xs) (hs : Reps K F1 xs ds) (inj : ∀ F H μ, Same F1 F → Rel K F H μ → ∀ ys, SqL K H a ys → True) : IterOk K F1 (Itl K a) ds where
  go := fun i F H μ s r d e => by
    obtain ⟨v, h1, h2⟩ := hs.get e
    have hH := r.same.seq (s.seq h)
    refine ⟨⟨xs, v, hH, h1⟩, fun x H' ⟨e1, y⟩ => ?_⟩
    subst e1
    have := y xs hH
    rw [h1] at this; cases this
    exact ⟨F, r, .refl _ _ _, h2.mono s⟩
  stop := fun i F H μ s r hl => ⟨xs, r.same.seq (s.seq h), by rw [hs.length]; exact hl⟩
theorem iter_tup {K : PySem.W.Frag} {F1 : Hp} {a : Addr} {xs : List V} {ds : List D} (h : SqT K F1 a xs) (hs : Reps K F1 xs ds) : IterOk K F1 (Itt K a) ds where
  go := fun i F H μ s r d e => by
    obtain ⟨v, h1, h2⟩ := hs.get e
    have hH := same_seqT r.same (same_seqT s h)
    refine ⟨⟨xs, v, hH, h1⟩, fun x H' ⟨e1, y⟩ => ?_⟩
    subst e1
    have := y xs hH
    rw [h1] at this; cases this
    exact ⟨F, r, .refl _ _ _, h2.mono s⟩
  stop := fun i F H μ s r hl => ⟨xs, same_seqT r.same (same_seqT s h), by rw [hs.length]; exact hl⟩
/-- over a list that stands -/
theorem wi_lst (h : WE Γ iter ρ μ fun d μ1 => ∃ ds, d = .lst ds ∧ R ds μ1) : WI Γ tg iter ρ μ R := fun σ F H s r => by
  refine semI.mk (wi := iList Γ.K (semE Γ iter)) (fun X hX => ?_) (h.go s r fun v F1 H1 d μ1 r1 e1 s1 p1 q1 => ?_)
  · have := pi_list (X := X) (tg := tg) (pe_sem hX iter)
    rw [hX.K] at this; exact this
  · obtain ⟨ds, rfl, q1⟩ := q1
    cases p1 with
    | @lst a xs _ g1 g2 => exact ⟨a, rfl, ⟨xs, SqL.of (r1.same _ _ g1)⟩, F1, μ1, ds, r1, e1, iter_lst (SqL.of g1) g2 (fun _ _ _ _ _ _ _ => trivial), q1⟩
theorem wi_tup (h : WE Γ iter ρ μ fun d μ1 => ∃ ds, d = .tup ds ∧ R ds μ1) : WI Γ tg iter ρ μ R := fun σ F H s r => by
  refine semI.mk (wi := iTup Γ.K (semE Γ iter)) (fun X hX => ?_) (h.go s r fun v F1 H1 d μ1 r1 e1 s1 p1 q1 => ?_)
  · have := pi_tup (X := X) (tg := tg) (pe_sem hX iter)
    rw [hX.K] at this; exact this
  · obtain ⟨ds, rfl, q1⟩ := q1
    cases p1 with
    | @tup a xs _ g1 g2 => exact ⟨a, rfl, ⟨xs, same_seqT r1.same g1⟩, F1, μ1, ds, r1, e1, iter_tup g1 g2, q1⟩
/-- lo, lo + 1, .. -/
def rangeD (lo : Int) (n : Nat) : List D := (List.range n).map fun i : Nat => D.int (lo + (i : Int))
theorem rangeD_length (lo : Int) (n : Nat) : (rangeD lo n).length = n := by unfold rangeD; simp
theorem rangeD_get {lo : Int} {n i : Nat} {d : D} (h : (rangeD lo n)[i]? = some d) : i < n ∧ d = .int (lo + (i : Int)) := by
  have hi : i < n := by
    have := (List.getElem?_eq_some_iff.mp h).1
    rw [rangeD_length] at this; exact this
  refine ⟨hi, ?_⟩
  unfold rangeD at h
  rw [List.getElem?_map, List.getElem?_range hi] at h
  exact (Option.some.inj h).symm
theorem iter_rng {K : PySem.W.Frag} {F1 : Hp} (lo : Int) (n : Nat) : IterOk K F1 (Itr lo n) (rangeD lo n) where
  go := fun i F H μ s r d e => by
    obtain ⟨hi, rfl⟩ := rangeD_get e
    refine ⟨hi, fun x H' ⟨e1, y⟩ => ?_⟩
    subst e1 y
    exact ⟨F, r, .refl _ _ _, .int _⟩
  stop := fun i F H μ s r hl => by rw [rangeD_length] at hl; exact hl
theorem reps_one {K : PySem.W.Frag} {F : Hp} {vs : List V} {i : Int} (h : Reps K F vs [.int i]) : vs = [.int i] := by
  cases h with | cons h t => cases h; cases t; rfl
theorem reps_two {K : PySem.W.Frag} {F : Hp} {vs : List V} {i j : Int} (h : Reps K F vs [.int i, .int j]) : vs = [.int i, .int j] := by
  cases h with | cons h t => cases h; rw [reps_one t]
theorem reps_three {K : PySem.W.Frag} {F : Hp} {vs : List V} {i j k : Int} (h : Reps K F vs [.int i, .int j, .int k]) : vs = [.int i, .int j, .int k] := by
  cases h with | cons h t => cases h; rw [reps_two t]
theorem wi_range1 (hm : Γ.mg "range" = none) (hg : GlD Γ "range" := by rfl) (hs : ∀ env, starEach [a] env = [(false, eval a env)] := by intro _; rfl)
    (h : WA Γ [a] ρ μ fun ds μ1 => ∃ n : Int, ds = [.int n] ∧ (-(2 ^ 62) ≤ n ∧ n < 2 ^ 62) ∧ R (rangeD 0 n.toNat) μ1) : WI Γ tg (.Call (.Name "range" p) [a] [] pos) ρ μ R := fun σ F H s r => by
  refine semI.mk (wi := iRng1 (semA Γ [a])) (fun X hX => pi_range1 (hX.gl hg) (by rw [hX.mg]; exact hm) (pa_sem hX _) (hs _)) (h.go s r fun vs F1 H1 ds μ1 r1 e1 s1 p1 q1 => ?_)
  obtain ⟨n, rfl, ⟨h1, h2⟩, q1⟩ := q1
  exact ⟨n, reps_one p1, h1, h2, F1, μ1, _, r1, e1, iter_rng 0 _, q1⟩
theorem wi_range2 (hm : Γ.mg "range" = none) (hg : GlD Γ "range" := by rfl) (hs : ∀ env, starEach [a, b] env = [(false, eval a env), (false, eval b env)] := by intro _; rfl) (hs2 : ∀ env, starEach [b] env = [(false, eval b env)] := by intro _; rfl)
    (h : WA Γ [a, b] ρ μ fun ds μ1 => ∃ i j : Int, ds = [.int i, .int j] ∧ (-(2 ^ 62) ≤ i ∧ i < 2 ^ 62 ∧ -(2 ^ 62) ≤ j ∧ j < 2 ^ 62) ∧ R (rangeD i (j - i).toNat) μ1) : WI Γ tg (.Call (.Name "range" p) [a, b] [] pos) ρ μ R := fun σ F H s r => by
  refine semI.mk (wi := iRng2 (semA Γ [a, b])) (fun X hX => pi_range2 (hX.gl hg) (by rw [hX.mg]; exact hm) (pa_sem hX _) (hs _) (hs2 _)) (h.go s r fun vs F1 H1 ds μ1 r1 e1 s1 p1 q1 => ?_)
  obtain ⟨i, j, rfl, h1, q1⟩ := q1
  exact ⟨i, j, reps_two p1, h1, F1, μ1, _, r1, e1, iter_rng i _, q1⟩
/-- enumerate over a list that stands: pairs -/
def enumD (ds : List D) : List D := ds.zipIdx.map fun q => D.tup [.int (q.2 : Nat), q.1]
theorem enumD_length (ds : List D) : (enumD ds).length = ds.length := by unfold enumD; simp
theorem enumD_get {ds : List D} {i : Nat} {d : D} (h : (enumD ds)[i]? = some d) : ∃ e, ds[i]? = some e ∧ d = .tup [.int (i : Nat), e] := by
  unfold enumD at h
  rw [List.getElem?_map, List.getElem?_zipIdx] at h
  cases q : ds[i]? with
  | none => rw [q] at h; cases h
  | some e => rw [q] at h; refine ⟨e, rfl, ?_⟩; simpa using (Option.some.inj h).symm

/-! ### for -/
theorem ws_forG [hc : Calm Γ] (hs : ∀ env x, foldedSetIterable iter env x = pure x := by intros; rfl) (h : WIG Γ tg iter ρ μ fun ds G μ1 => ∃ (ix : List Nat) (I : Nat → Rho → Mem → Prop), (∀ i ρ' μ', I i ρ' μ' → G μ') ∧ I 0 ρ μ1 ∧
      (∀ i d ρ' μ', ds[i]? = some d → I i ρ' μ' → WGi Γ ix tg d ρ' μ' fun ρ2 μ2 => WSs Γ body ρ2 μ2 { nx := I (i + 1), rt := D'.rt, bk := D'.nx, ct := I (i + 1) }) ∧ (∀ ρ' μ', I ds.length ρ' μ' → D'.nx ρ' μ')) :
    WS Γ (.For tg iter body [] pos) ρ μ D' := fun σ F H s r => by
  obtain ⟨wi, R0, h1, h2, h3⟩ := h σ F H s r
  refine semS.mk (t := tFor (semI Γ tg iter) (semG Γ tg) (semSs Γ body)) (fun X hX => ps_for (by rw [hX.xe]; exact PassesOwn.never) (hX.calm hc.h) (pi_sem hX tg iter) (pg_sem hX tg) (pss_sem hX body) (hs _)) ⟨wi, R0, h1, h2, fun J H1 q => ?_⟩
  obtain ⟨F1, μ1, ds, G, r1, e1, ok, ix, I, gd, i0, step, done⟩ := h3 J H1 q
  refine ⟨fun i m σ' H' => m = ds.length - i ∧ i ≤ ds.length ∧ ∃ F' ρ' μ', Slots Γ.K F' σ' ρ' ∧ Rel Γ.K F' H' μ' ∧ Ext F H μ F' H' μ' ∧ Same F1 F' ∧ I i ρ' μ', ⟨ds.length, by simp, Nat.zero_le _, F1, ρ, μ1, s.mono e1.fr, r1, e1, Same.refl _, i0⟩, ?_⟩
  rintro i m σ' H' ⟨rfl, hi, F', ρ', μ', s', r', e', f', hI⟩
  by_cases hlt : i < ds.length
  · have hd : ds[i]? = some ds[i] := List.getElem?_eq_getElem hlt
    obtain ⟨go, yl⟩ := ok.go i F' H' μ' f' r' (gd _ _ _ hI) _ hd
    refine .inr ⟨go, fun σ2 H2 => ∃ F2 ρ2 μ2, Slots Γ.K F2 σ2 ρ2 ∧ Rel Γ.K F2 H2 μ2 ∧ Ext F H μ F2 H2 μ2 ∧ Same F1 F2 ∧ I (i + 1) ρ2 μ2, fun σ2 H2 z => ⟨ds.length - (i + 1), by omega, rfl, hlt, z⟩, fun v H2 hy => ?_⟩
    obtain ⟨F2, r2, e2, p2⟩ := yl v H2 hy
    obtain ⟨t, Q0, g1, g2, g3⟩ := step i _ ρ' μ' hd hI v σ' F2 H2 p2 (s'.mono e2.fr) r2
    refine ⟨t, Q0, g1, g2, fun σ3 H3 q3 => ?_⟩
    obtain ⟨_, F3, ρ3, μ3, s3, r3, e3, q3⟩ := g3 σ3 H3 q3
    have E3 := (e'.trans e2).trans e3
    have f3 := (f'.trans e2.fr).trans e3.fr
    refine (q3 σ3 F3 H3 s3 r3).le ⟨fun σ4 H4 ⟨F4, ρ4, μ4, s4, r4, e4, q4⟩ => ⟨F4, ρ4, μ4, s4, r4, E3.trans e4, f3.trans e4.fr, q4⟩, fun _ _ q => Post.ext E3 q, fun _ _ q => PostS.ext E3 q, fun σ4 H4 ⟨F4, ρ4, μ4, s4, r4, e4, q4⟩ => ⟨F4, ρ4, μ4, s4, r4, E3.trans e4, f3.trans e4.fr, q4⟩⟩
  · have ei : i = ds.length := by omega
    subst ei
    exact .inl ⟨ok.stop _ F' H' μ' f' r' (gd _ _ _ hI) (Nat.le_refl _), F', ρ', μ', s', r', e', done _ _ hI⟩

theorem ws_for [hc : Calm Γ] (hs : ∀ env x, foldedSetIterable iter env x = pure x := by intros; rfl) (h : WI Γ tg iter ρ μ fun ds μ1 => ∃ (ix : List Nat) (I : Nat → Rho → Mem → Prop), I 0 ρ μ1 ∧
      (∀ i d ρ' μ', ds[i]? = some d → I i ρ' μ' → WGi Γ ix tg d ρ' μ' fun ρ2 μ2 => WSs Γ body ρ2 μ2 { nx := I (i + 1), rt := D'.rt, bk := D'.nx, ct := I (i + 1) }) ∧ (∀ ρ' μ', I ds.length ρ' μ' → D'.nx ρ' μ')) :
    WS Γ (.For tg iter body [] pos) ρ μ D' := ws_forG hs fun σ F H s r => by
  obtain ⟨wi, R0, h1, h2, h3⟩ := h.g σ F H s r
  refine ⟨wi, R0, h1, h2, fun J H' q => ?_⟩
  obtain ⟨F1, μ1, ds, G, r1, e1, ok, g, ix, I, i0, step, done⟩ := h3 J H' q
  exact ⟨F1, μ1, ds, G, r1, e1, ok, ix, I, fun _ _ _ _ => g _, i0, step, done⟩

/-! ### while -/
theorem ws_while (h : ∃ (I : Nat → Rho → Mem → Prop), (∃ m, I m ρ μ) ∧ (∀ m ρ' μ', I m ρ' μ' → WT Γ c ρ' μ' fun k μ1 =>
      (k = true → WSs Γ body ρ' μ1 { nx := fun ρ2 μ2 => ∃ m', m' < m ∧ I m' ρ2 μ2, rt := D'.rt, bk := D'.nx, ct := fun ρ2 μ2 => ∃ m', m' < m ∧ I m' ρ2 μ2 }) ∧ (k = false → D'.nx ρ' μ1))) :
    WS Γ (.While c body [] pos) ρ μ D' := fun σ F H s r => by
  obtain ⟨I, ⟨m0, i0⟩, step⟩ := h
  refine semS.mk (t := tWhile (semT Γ c) (semSs Γ body)) (fun X hX => ps_while (by rw [hX.xe]; exact PassesOwn.never) (pt_sem hX c) (pss_sem hX body)) ?_
  refine ⟨fun m σ' H' => ∃ F' ρ' μ', Slots Γ.K F' σ' ρ' ∧ Rel Γ.K F' H' μ' ∧ Ext F H μ F' H' μ' ∧ I m ρ' μ', ⟨m0, F, ρ, μ, s, r, .refl _ _ _, i0⟩, ?_⟩
  rintro m σ' H' ⟨F', ρ', μ', s', r', e', hI⟩
  refine (step m ρ' μ' hI).go s' r' fun k F1 H1 μ1 r1 e1 s1 q1 => ?_
  have E1 := e'.trans e1
  cases k with
  | true =>
    rw [if_pos rfl]
    refine ⟨fun σ2 H2 => ∃ m', m' < m ∧ ∃ F2 ρ2 μ2, Slots Γ.K F2 σ2 ρ2 ∧ Rel Γ.K F2 H2 μ2 ∧ Ext F H μ F2 H2 μ2 ∧ I m' ρ2 μ2, fun σ2 H2 z => z, ?_⟩
    refine (q1.1 rfl σ' F1 H1 s1 r1).le ⟨fun σ4 H4 ⟨F4, ρ4, μ4, s4, r4, e4, m', hm, q4⟩ => ⟨m', hm, F4, ρ4, μ4, s4, r4, E1.trans e4, q4⟩, fun _ _ q => Post.ext E1 q, fun _ _ q => PostS.ext E1 q, fun σ4 H4 ⟨F4, ρ4, μ4, s4, r4, e4, m', hm, q4⟩ => ⟨m', hm, F4, ρ4, μ4, s4, r4, E1.trans e4, q4⟩⟩
  | false =>
    rw [if_neg (by simp)]
    exact ⟨F1, ρ', μ1, s1, r1, E1, q1.2 rfl⟩

/-! ### comprehensions -/
abbrev Gam.blk (Γ : Gam) (scope : Scope) : Gam := { Γ with sc := relS scope Γ.sc, fn := fun x => scope.names.lookup x == some .cell, top := false }
theorem Gam.ok.blk [hc : Calm Γ] {X : Cx} (hX : Γ.ok X) (s : Shared) (H : Hp) (scope : Scope) (C : Addr) (cl : List (Str × Addr)) (fp : List Addr) : (Γ.blk scope).ok (X.blk s H scope (compEnvC scope cl C X.env) fp) :=
  ⟨hX.P, hX.w, hX.K, hX.mg, hX.base, hX.N, by show relS scope X.env.scope = _; rw [hX.sc], rfl, hX.calm, rfl, hX.room, hX.un, hX.nd, (fun e => by cases e), fun a cls d e => by rw [show Γ.hand = none from hc.h] at e; cases e⟩
instance calm_blk {Γ : Gam} [hc : Calm Γ] {sc : Scope} : Calm (Γ.blk sc) := ⟨hc.h⟩
theorem wipe_eq {σ σ' : L2.St} {ix vs : List Nat} (h : ∀ j, j ∉ ix → σ'[j]? = σ[j]?) (hl : σ'.length = σ.length) (hi : ∀ j ∈ ix, j ∈ vs) : wipe σ' vs = wipe σ vs := by
  have get : ∀ (τ : L2.St) (vs : List Nat) (j : Nat), (wipe τ vs)[j]? = if j ∈ vs then (if j < τ.length then some none else none) else τ[j]? := by
    intro τ vs
    induction vs with
    | nil => intro j; simp [wipe]
    | cons v vs ih =>
      intro j
      unfold wipe
      by_cases e : v = j
      · subst e
        by_cases hl : v < τ.length
        · rw [List.getElem?_set_self (by rw [wipe_length]; exact hl)]; simp [hl]
        · rw [List.getElem?_eq_none (by rw [List.length_set, wipe_length]; omega)]; simp [hl]
      · rw [List.getElem?_set_ne e, ih]
        simp [Ne.symm e]
  apply List.ext_getElem?
  intro j
  rw [get, get, hl]
  by_cases hv : j ∈ vs
  · simp [hv]
  · simp only [hv, if_false]
    exact h j fun z => hv (hi j z)
theorem ext_poke {F1 H1 F H : Hp} {μ1 μ : Mem} (e : Ext F1 H1 μ1 F H μ) {p : Addr} (hp : H1 p = none) (o : HO) : Ext F1 H1 μ1 F (L2.upd H p o) μ :=
  ⟨e.fr, fun a u h m => by rw [L2.upd_ne (ne_of_none h hp)]; exact e.keep a u h m, e.newF, e.newM⟩
/-- what a comprehension's rounds are to keep: I by the turn and the items made so far -/
theorem lc_okG {elt : Expr} {ifs : List Expr} {scope : Scope} (vs : List Nat) (P : List D → Mem → Prop) (mu : Bool)
    (hQ : ∀ acc μ', P acc μ' → if mu then ∀ p, μ' p = none → Q (.loc p) (μ'.upd p (.lst acc)) else Q (.lst acc) μ')
    (h : WIG Γ tg iter ρ μ fun ds G μ1 => ds.length ≤ sizeLine ∧ ∃ (ix : List Nat) (I : Nat → List D → Mem → Prop), (∀ i acc μ', I i acc μ' → G μ') ∧ (∀ j ∈ ix, j ∈ vs) ∧ I 0 [] μ1 ∧
      (∀ i d acc μ', ds[i]? = some d → I i acc μ' → WGi (Γ.blk scope) ix tg d (wipeD ρ vs) μ' fun ρ2 μ2 => WTs (Γ.blk scope) ifs ρ2 μ2 fun b μ3 =>
        (b = true → WE (Γ.blk scope) elt ρ2 μ3 fun y μ4 => I (i + 1) (acc ++ [y]) μ4) ∧ (b = false → I (i + 1) acc μ3)) ∧ (∀ acc μ', I ds.length acc μ' → P acc μ'))
    {σ : L2.St} {F H : Hp} (s : Slots Γ.K F σ ρ) (r : Rel Γ.K F H μ) :
    tLc (semI Γ tg iter) (semG (Γ.blk scope) tg) (semTs (Γ.blk scope) ifs) (semE (Γ.blk scope) elt) vs σ H (Post Γ.K F H μ Q) := by
  obtain ⟨wi, R0, h1, h2, h3⟩ := h σ F H s r
  refine ⟨wi, R0, h1, h2, fun J H1 q => ?_⟩
  obtain ⟨F1, μ1, ds, G, r1, e1, ok, hsz, ix, I, gd, hix, i0, step, done⟩ := h3 J H1 q
  intro p hp
  obtain ⟨hF1, hM1⟩ := r1.fresh hp
  refine ⟨fun i m H' => m = ds.length - i ∧ i ≤ ds.length ∧ ∃ F' μ' acc ws, Rel Γ.K F' H' μ' ∧ Ext F1 H1 μ1 F' H' μ' ∧ F' p = none ∧ μ' p = none ∧ H' p = some (.lst ws) ∧ Reps Γ.K F' ws acc ∧ acc.length ≤ i ∧ I i acc μ', ⟨ds.length, by simp, Nat.zero_le _, F1, μ1, [], [], ?_, ?_, hF1, hM1, L2.upd_same, .nil, Nat.zero_le _, i0⟩, ?_⟩
  · refine ⟨fun b u e => ?_, fun a o e => ?_⟩
    · rw [L2.upd_ne (ne_of_none e hF1)]; exact r1.same b u e
    · obtain ⟨g1, ho, g2, g3⟩ := r1.mem a o e
      exact ⟨g1, ho, by rw [L2.upd_ne (ne_of_none g2 hp)]; exact g2, g3⟩
  · exact ⟨Same.refl _, fun a o e _ => by rw [L2.upd_ne (ne_of_none e hp)]; exact e, fun a z => .inl z, fun a z => .inl z⟩
  rintro i m H' ⟨rfl, hi, F', μ', acc, ws, r', e', hF', hM', hH', p', hl', hI⟩
  have f' := e'.fr
  by_cases hlt : i < ds.length
  · have hd : ds[i]? = some ds[i] := List.getElem?_eq_getElem hlt
    obtain ⟨go, yl⟩ := ok.go i F' H' μ' f' r' (gd _ _ _ hI) _ hd
    refine .inr ⟨go, fun H2 => ∃ F2 μ2 acc ws, Rel Γ.K F2 H2 μ2 ∧ Ext F1 H1 μ1 F2 H2 μ2 ∧ F2 p = none ∧ μ2 p = none ∧ H2 p = some (.lst ws) ∧ Reps Γ.K F2 ws acc ∧ acc.length ≤ i + 1 ∧ I (i + 1) acc μ2, fun H2 z => ⟨ds.length - (i + 1), by omega, rfl, hlt, z⟩, fun v H2 hy => ?_⟩
    obtain ⟨F2, r2, e2, p2⟩ := yl v H2 hy
    obtain ⟨t, Q0, g1, g2, g3⟩ := step i _ acc μ' hd hI v (wipe σ vs) F2 H2 p2 (((s.mono e1.fr).mono f').mono e2.fr |>.wipe vs) r2
    refine ⟨t, Q0, g1, g2, fun σ3 H3 q3 => ?_⟩
    obtain ⟨⟨w1, w2⟩, F3, ρ3, μ3, s3, r3, e3, q3⟩ := g3 σ3 H3 q3
    have stay : ∀ {Fa Ha Fb Hb : Hp} {μa μb : Mem}, Ext Fa Ha μa Fb Hb μb → Fa p = none → μa p = none → ∀ o, Ha p = some o → Fb p = none ∧ μb p = none ∧ Hb p = some o := by
      intro Fa Ha Fb Hb μa μb ex x1 x2 o x3
      refine ⟨?_, ?_, ex.keep p o x3 x2⟩
      · cases z : Fb p with
        | none => rfl
        | some u =>
          rcases ex.newF p (by rw [z]; simp) with y | y | y
          · exact absurd x1 y
          · exact absurd x2 y
          · rw [x3] at y; cases y
      · cases z : μb p with
        | none => rfl
        | some u =>
          rcases ex.newM p (by rw [z]; simp) with y | y
          · exact absurd x2 y
          · rw [x3] at y; cases y
    have ww : wipe (wipe σ vs) vs = wipe σ vs := by
      refine wipe_eq (ix := vs) (fun j hj => ?_) (wipe_length _ _) fun j h => h
      have : ∀ vs : List Nat, j ∉ vs → (wipe σ vs)[j]? = σ[j]? := by
        intro vs
        induction vs with
        | nil => intro _; rfl
        | cons v vs ih =>
          intro hj
          rw [List.mem_cons, not_or] at hj
          unfold wipe
          rw [List.getElem?_set_ne (Ne.symm hj.1), ih hj.2]
      exact this vs hj
    refine ⟨(wipe_eq w1 w2 hix).trans ww, ?_⟩
    refine q3.go s3 r3 fun b F4 H4 μ4 r4 e4 s4 q4 => ?_
    obtain ⟨y1, y2, y3⟩ := stay e2 hF' hM' _ hH'
    obtain ⟨y1, y2, y3⟩ := stay e3 y1 y2 _ y3
    obtain ⟨y1, y2, y3⟩ := stay e4 y1 y2 _ y3
    have E4 := ((e'.trans e2).trans e3).trans e4
    have P4 := ((p'.mono e2.fr).mono e3.fr).mono e4.fr
    cases b with
    | true =>
      rw [if_pos rfl]
      refine (q4.1 rfl).go s4 r4 fun u F5 H5 y μ5 r5 e5 s5 p5 q5 => ?_
      obtain ⟨z1, z2, z3⟩ := stay e5 y1 y2 _ y3
      refine ⟨ws, z3, by rw [p'.length]; omega, F5, μ5, acc ++ [y], ws ++ [u], ?_, ext_poke (E4.trans e5) hp _, z1, z2, L2.upd_same, Reps.append (P4.mono e5.fr) (.cons p5 .nil), by rw [List.length_append, List.length_singleton]; omega, q5⟩
      · refine ⟨fun b u e => ?_, fun a o e => ?_⟩
        · rw [L2.upd_ne (ne_of_none e z1)]; exact r5.same b u e
        · have ha : a ≠ p := fun z => by subst z; rw [z2] at e; cases e
          obtain ⟨g1, ho, g2, g3⟩ := r5.mem a o e
          exact ⟨g1, ho, by rw [L2.upd_ne ha]; exact g2, g3⟩
    | false =>
      rw [if_neg (by simp)]
      exact ⟨F4, μ4, acc, ws, r4, E4, y1, y2, y3, P4, by omega, q4.2 rfl⟩
  · have ei : i = ds.length := by omega
    subst ei
    refine .inl ⟨ok.stop _ F' H' μ' f' r' (gd _ _ _ hI) (Nat.le_refl _), ?_⟩
    have z := hQ acc μ' (done acc μ' hI)
    cases mu with
    | true =>
      rw [if_pos rfl] at z
      refine Post.ext e1 ⟨F', .loc p, μ'.upd p (.lst acc), ⟨r'.same, fun a o q => ?_⟩, ⟨e'.fr, e'.keep, e'.newF, fun a q => ?_⟩, .loc p, z p hM'⟩
      · by_cases ha : a = p
        · subst ha; rw [Mem.upd_same] at q; cases q; exact ⟨hF', _, hH', .lst p'⟩
        · rw [Mem.upd_ne ha] at q; exact r'.mem a o q
      · by_cases ha : a = p
        · subst ha; exact .inr hp
        · rw [Mem.upd_ne ha] at q; exact e'.newM a q
    | false =>
      rw [if_neg (by simp)] at z
      refine Post.ext e1 ⟨L2.upd F' p (.lst ws), .lst acc, μ', ⟨fun b u q => ?_, fun a o q => ?_⟩, ⟨e'.fr.trans (same_new hF'), e'.keep, fun a q => ?_, e'.newM⟩, .lst L2.upd_same (p'.mono (same_new hF')), z⟩
      · by_cases ha : b = p
        · subst ha; rw [L2.upd_same] at q; rw [← q]; exact hH'
        · rw [L2.upd_ne ha] at q; exact r'.same b u q
      · have ha : a ≠ p := fun z => by subst z; rw [hM'] at q; cases q
        obtain ⟨g1, ho, g2, g3⟩ := r'.mem a o q
        exact ⟨by rw [L2.upd_ne ha]; exact g1, ho, g2, g3.mono (same_new hF')⟩
      · by_cases ha : a = p
        · subst ha; exact .inr (.inr hp)
        · rw [L2.upd_ne ha] at q; exact e'.newF a q
theorem lc_ok {elt : Expr} {ifs : List Expr} {scope : Scope} (vs : List Nat) (P : List D → Mem → Prop) (mu : Bool)
    (hQ : ∀ acc μ', P acc μ' → if mu then ∀ p, μ' p = none → Q (.loc p) (μ'.upd p (.lst acc)) else Q (.lst acc) μ')
    (h : WI Γ tg iter ρ μ fun ds μ1 => ds.length ≤ sizeLine ∧ ∃ (ix : List Nat) (I : Nat → List D → Mem → Prop), (∀ j ∈ ix, j ∈ vs) ∧ I 0 [] μ1 ∧
      (∀ i d acc μ', ds[i]? = some d → I i acc μ' → WGi (Γ.blk scope) ix tg d (wipeD ρ vs) μ' fun ρ2 μ2 => WTs (Γ.blk scope) ifs ρ2 μ2 fun b μ3 =>
        (b = true → WE (Γ.blk scope) elt ρ2 μ3 fun y μ4 => I (i + 1) (acc ++ [y]) μ4) ∧ (b = false → I (i + 1) acc μ3)) ∧ (∀ acc μ', I ds.length acc μ' → P acc μ'))
    {σ : L2.St} {F H : Hp} (s : Slots Γ.K F σ ρ) (r : Rel Γ.K F H μ) :
    tLc (semI Γ tg iter) (semG (Γ.blk scope) tg) (semTs (Γ.blk scope) ifs) (semE (Γ.blk scope) elt) vs σ H (Post Γ.K F H μ Q) := by
  refine lc_okG vs P mu hQ (fun σ F H s r => ?_) s r
  obtain ⟨wi, R0, h1, h2, h3⟩ := h.g σ F H s r
  refine ⟨wi, R0, h1, h2, fun J H' q => ?_⟩
  obtain ⟨F1, μ1, ds, G, r1, e1, ok, g, hsz, ix, I, q⟩ := h3 J H' q
  exact ⟨F1, μ1, ds, G, r1, e1, ok, hsz, ix, I, fun _ _ _ _ => g _, q⟩
end
end DL
namespace DL
open PySem L2

section
variable {Γ : Gam} {ρ : Rho} {μ : Mem} {Q : D → Mem → Prop} {a b c e elt tg iter : Expr} {es ifs : List Expr} {pos p : Pos} {x : Str} {R : List D → Mem → Prop} {D' : DEnds} {body : List Stmt} {scope : Scope}

/-! ### comprehensions, the forms one uses -/
theorem blk_all {X : Cx} (hX : Γ.ok X) {own : List (Str × Nat)} (hb : blkC Γ.N Γ.sc scope own = true) : BlkOk X.N X.env.scope scope own := by
  rw [hX.N, hX.sc]; exact blkOk_by hb
abbrev LcHyp (Γ : Gam) (ρ : Rho) (tg elt : Expr) (ifs : List Expr) (scope : Scope) (vs : List Nat) (P : List D → Mem → Prop) (ds : List D) (μ1 : Mem) : Prop :=
  ds.length ≤ sizeLine ∧ ∃ (ix : List Nat) (I : Nat → List D → Mem → Prop), (∀ j ∈ ix, j ∈ vs) ∧ I 0 [] μ1 ∧
      (∀ i d acc μ', ds[i]? = some d → I i acc μ' → WGi (Γ.blk scope) ix tg d (wipeD ρ vs) μ' fun ρ2 μ2 => WTs (Γ.blk scope) ifs ρ2 μ2 fun b μ3 =>
        (b = true → WE (Γ.blk scope) elt ρ2 μ3 fun y μ4 => I (i + 1) (acc ++ [y]) μ4) ∧ (b = false → I (i + 1) acc μ3)) ∧ (∀ acc μ', I ds.length acc μ' → P acc μ')
theorem we_lc [hc : Calm Γ] (own : List (Str × Nat)) (hb : blkC Γ.N Γ.sc scope own = true := by first | (dsimp only [gamF, Gam.blk]; decide +kernel) | decide +kernel) (hs : ∀ env x, foldedSetIterable iter env x = pure x := by intros; rfl)
    (h : WI Γ tg iter ρ μ (LcHyp Γ ρ tg elt ifs scope (own.map (·.2)) fun acc μ' => Q (.lst acc) μ')) : WE Γ (.ListComp elt [⟨tg, iter, ifs, 0⟩] scope pos) ρ μ Q := fun σ F H s r =>
  semE.mk (fun X hX => pe_lc (hX.calm hc.h) hX.nd (pi_sem hX tg iter) (blk_all hX hb) (fun s H C cl fp => pg_sem (hX.blk s H scope C cl fp) tg) (fun s H C cl fp => pts_sem (hX.blk s H scope C cl fp) ifs) (fun s H C cl fp => pe_sem (hX.blk s H scope C cl fp) elt) (hs _))
    (lc_ok (Γ := Γ) (own.map (·.2)) (fun acc μ' => Q (.lst acc) μ') false (fun acc μ' q => by rw [if_neg (by simp)]; exact q) h s r)
abbrev LcHypG (Γ : Gam) (ρ : Rho) (tg elt : Expr) (ifs : List Expr) (scope : Scope) (vs : List Nat) (P : List D → Mem → Prop) (ds : List D) (G : Mem → Prop) (μ1 : Mem) : Prop :=
  ds.length ≤ sizeLine ∧ ∃ (ix : List Nat) (I : Nat → List D → Mem → Prop), (∀ i acc μ', I i acc μ' → G μ') ∧ (∀ j ∈ ix, j ∈ vs) ∧ I 0 [] μ1 ∧
      (∀ i d acc μ', ds[i]? = some d → I i acc μ' → WGi (Γ.blk scope) ix tg d (wipeD ρ vs) μ' fun ρ2 μ2 => WTs (Γ.blk scope) ifs ρ2 μ2 fun b μ3 =>
        (b = true → WE (Γ.blk scope) elt ρ2 μ3 fun y μ4 => I (i + 1) (acc ++ [y]) μ4) ∧ (b = false → I (i + 1) acc μ3)) ∧ (∀ acc μ', I ds.length acc μ' → P acc μ')
theorem we_lcG [hc : Calm Γ] (own : List (Str × Nat)) (hb : blkC Γ.N Γ.sc scope own = true := by first | (dsimp only [gamF, Gam.blk]; decide +kernel) | decide +kernel) (hs : ∀ env x, foldedSetIterable iter env x = pure x := by intros; rfl)
    (h : WIG Γ tg iter ρ μ (LcHypG Γ ρ tg elt ifs scope (own.map (·.2)) fun acc μ' => Q (.lst acc) μ')) : WE Γ (.ListComp elt [⟨tg, iter, ifs, 0⟩] scope pos) ρ μ Q := fun σ F H s r =>
  semE.mk (fun X hX => pe_lc (hX.calm hc.h) hX.nd (pi_sem hX tg iter) (blk_all hX hb) (fun s H C cl fp => pg_sem (hX.blk s H scope C cl fp) tg) (fun s H C cl fp => pts_sem (hX.blk s H scope C cl fp) ifs) (fun s H C cl fp => pe_sem (hX.blk s H scope C cl fp) elt) (hs _))
    (lc_okG (Γ := Γ) (own.map (·.2)) (fun acc μ' => Q (.lst acc) μ') false (fun acc μ' q => by rw [if_neg (by simp)]; exact q) h s r)
theorem we_lcM [hc : Calm Γ] (own : List (Str × Nat)) (hb : blkC Γ.N Γ.sc scope own = true := by first | (dsimp only [gamF, Gam.blk]; decide +kernel) | decide +kernel) (hs : ∀ env x, foldedSetIterable iter env x = pure x := by intros; rfl)
    (h : WI Γ tg iter ρ μ (LcHyp Γ ρ tg elt ifs scope (own.map (·.2)) fun acc μ' => ∀ p, μ' p = none → Q (.loc p) (μ'.upd p (.lst acc)))) : WE Γ (.ListComp elt [⟨tg, iter, ifs, 0⟩] scope pos) ρ μ Q := fun σ F H s r =>
  semE.mk (fun X hX => pe_lc (hX.calm hc.h) hX.nd (pi_sem hX tg iter) (blk_all hX hb) (fun s H C cl fp => pg_sem (hX.blk s H scope C cl fp) tg) (fun s H C cl fp => pts_sem (hX.blk s H scope C cl fp) ifs) (fun s H C cl fp => pe_sem (hX.blk s H scope C cl fp) elt) (hs _))
    (lc_ok (Γ := Γ) (own.map (·.2)) (fun acc μ' => ∀ p, μ' p = none → Q (.loc p) (μ'.upd p (.lst acc))) true (fun acc μ' q => by rw [if_pos rfl]; exact q) h s r)
/-- y = [..], y a local -/
theorem ws_setLc [hc : Calm Γ] (i : Nat) {py spos : Pos} (own : List (Str × Nat)) (hN : Γ.N[i]? = some x := by rfl) (hl : Γ.sc.names.lookup x = some .local := by rfl) (hk : Γ.sc.kind = .function := by rfl) (hline : (py.line == pos.line) = true := by rfl)
    (hno : (scope.names.any fun (n, k) => n == x && (k == .local || k == .cell)) = false := by decide +kernel)
    (hb : blkC Γ.N Γ.sc scope own = true := by first | (dsimp only [gamF, Gam.blk]; decide +kernel) | decide +kernel) (hs : ∀ env x, foldedSetIterable iter env x = pure x := by intros; rfl)
    (h : WI Γ tg iter ρ μ (LcHyp Γ ρ tg elt ifs scope (own.map (·.2)) fun acc μ' => D'.nx (ρ.set i (some (.lst acc))) μ')) : WS Γ (.Assign [.Name x py] (.ListComp elt [⟨tg, iter, ifs, 0⟩] scope pos) spos) ρ μ D' := fun σ F H s r => by
  refine semS.mk (fun X hX => ps_setLc (i := i) (hX.calm hc.h) hX.nd (hX.nm hN) (by rw [hX.sc]; exact hl) (sw_true (by rw [hX.sc]; exact hk) (by rw [hX.sc]; exact hl) hline hno) (pi_sem hX tg iter) (blk_all hX hb) (fun s H C cl fp => pg_sem (hX.blk s H scope C cl fp) tg) (fun s H C cl fp => pts_sem (hX.blk s H scope C cl fp) ifs) (fun s H C cl fp => pe_sem (hX.blk s H scope C cl fp) elt) (hs _)) ?_
  have h1 := lc_ok (Γ := Γ) (Q := fun d μ' => D'.nx (ρ.set i (some d)) μ') (own.map (·.2)) (fun acc μ' => D'.nx (ρ.set i (some (.lst acc))) μ') false (fun acc μ' q => by rw [if_neg (by simp)]; exact q) h s r
  obtain ⟨wi, R0, g1, g2, g3⟩ := h1
  refine ⟨wi, R0, g1, g2, fun J H1 q p hp => ?_⟩
  obtain ⟨W, w0, st⟩ := g3 J H1 q p hp
  refine ⟨W, w0, fun i' m H' hW => ?_⟩
  rcases st i' m H' hW with ⟨k1, F', d, μ', r', e', p', q'⟩ | k
  · exact .inl ⟨k1, F', _, μ', (s.mono e'.fr).set i p', r', e', q'⟩
  · exact .inr k
theorem ws_setLcM [hc : Calm Γ] (i : Nat) {py spos : Pos} (own : List (Str × Nat)) (hN : Γ.N[i]? = some x := by rfl) (hl : Γ.sc.names.lookup x = some .local := by rfl) (hk : Γ.sc.kind = .function := by rfl) (hline : (py.line == pos.line) = true := by rfl)
    (hno : (scope.names.any fun (n, k) => n == x && (k == .local || k == .cell)) = false := by decide +kernel)
    (hb : blkC Γ.N Γ.sc scope own = true := by first | (dsimp only [gamF, Gam.blk]; decide +kernel) | decide +kernel) (hs : ∀ env x, foldedSetIterable iter env x = pure x := by intros; rfl)
    (h : WI Γ tg iter ρ μ (LcHyp Γ ρ tg elt ifs scope (own.map (·.2)) fun acc μ' => ∀ p, μ' p = none → D'.nx (ρ.set i (some (.loc p))) (μ'.upd p (.lst acc)))) : WS Γ (.Assign [.Name x py] (.ListComp elt [⟨tg, iter, ifs, 0⟩] scope pos) spos) ρ μ D' := fun σ F H s r => by
  refine semS.mk (fun X hX => ps_setLc (i := i) (hX.calm hc.h) hX.nd (hX.nm hN) (by rw [hX.sc]; exact hl) (sw_true (by rw [hX.sc]; exact hk) (by rw [hX.sc]; exact hl) hline hno) (pi_sem hX tg iter) (blk_all hX hb) (fun s H C cl fp => pg_sem (hX.blk s H scope C cl fp) tg) (fun s H C cl fp => pts_sem (hX.blk s H scope C cl fp) ifs) (fun s H C cl fp => pe_sem (hX.blk s H scope C cl fp) elt) (hs _)) ?_
  have h1 := lc_ok (Γ := Γ) (Q := fun d μ' => D'.nx (ρ.set i (some d)) μ') (own.map (·.2)) (fun acc μ' => ∀ p, μ' p = none → D'.nx (ρ.set i (some (.loc p))) (μ'.upd p (.lst acc))) true (fun acc μ' q => by rw [if_pos rfl]; exact q) h s r
  obtain ⟨wi, R0, g1, g2, g3⟩ := h1
  refine ⟨wi, R0, g1, g2, fun J H1 q p hp => ?_⟩
  obtain ⟨W, w0, st⟩ := g3 J H1 q p hp
  refine ⟨W, w0, fun i' m H' hW => ?_⟩
  rcases st i' m H' hW with ⟨k1, F', d, μ', r', e', p', q'⟩ | k
  · exact .inl ⟨k1, F', _, μ', (s.mono e'.fr).set i p', r', e', q'⟩
  · exact .inr k
theorem wts_nil {T : Bool → Mem → Prop} (q : T true μ) : WTs Γ [] ρ μ T := fun σ F H s r => ⟨tYes, PostT Γ.K F H μ T, fun X hX => pts_nil, (⟨F, μ, r, .refl _ _ _, q⟩ : PostT Γ.K F H μ T true H), fun _ _ x => x⟩
theorem wts_one {T : Bool → Mem → Prop} (h : WT Γ e ρ μ T) : WTs Γ [e] ρ μ T := fun σ F H s r => ⟨semT Γ e, _, fun X hX => pts_one (pt_sem hX e), h σ F H s r, fun _ _ x => x⟩

/-! ### enumerate, zip, reversed of lists that stand -/
theorem reps_lst1 {K : PySem.W.Frag} {F : Hp} {vs : List V} {ds : List D} (h : Reps K F vs [.lst ds]) : ∃ a xs, vs = [.ref a] ∧ SqL K F a xs ∧ Reps K F xs ds := by
  cases h with | cons h t => cases h with | lst g1 g2 => cases t; exact ⟨_, _, rfl, SqL.of g1, g2⟩
theorem reps_tup1 {K : PySem.W.Frag} {F : Hp} {vs : List V} {ds : List D} (h : Reps K F vs [.tup ds]) : ∃ a xs, vs = [.ref a] ∧ SqT K F a xs ∧ Reps K F xs ds := by
  cases h with | cons h t => cases h with | tup g1 g2 => cases t; exact ⟨_, _, rfl, g1, g2⟩
theorem iter_enum {K : PySem.W.Frag} {F1 : Hp} {a : Addr} {xs : List V} {ds : List D} (h : SqL K F1 a xs) (hs : Reps K F1 xs ds) : IterOk K F1 (Ite K a) (enumD ds) where
  go := fun i F H μ s r d e => by
    obtain ⟨d', e', rfl⟩ := enumD_get e
    obtain ⟨v, h1, h2⟩ := hs.get e'
    have hH := r.same.seq (s.seq h)
    refine ⟨⟨xs, v, hH, h1⟩, fun x H' ⟨T, y, e1, hT, e2, y'⟩ => ?_⟩
    subst e1 e2
    have := y' xs hH
    rw [h1] at this; cases this
    obtain ⟨r2, x2⟩ := r.layF hT (.tup [.int (i : Nat), v])
    exact ⟨_, r2, x2, .tup (.inl (.inl L2.upd_same)) (.cons (.int _) (.cons ((h2.mono s).mono x2.fr) .nil))⟩
  stop := fun i F H μ s r hl => ⟨xs, r.same.seq (s.seq h), by rw [hs.length]; rw [enumD_length] at hl; exact hl⟩
theorem wi_enum {elts : List Expr} {kk : Nat} {tpos : Pos} (hm : Γ.mg "enumerate" = none) (hg : GlD Γ "enumerate" := by rfl) (hs : ∀ env, starEach [e] env = [(false, eval e env)] := by intro _; rfl)
    (h : WA Γ [e] ρ μ fun xs μ1 => ∃ ds, xs = [.lst ds] ∧ R (enumD ds) μ1) : WI Γ (.Tuple elts kk tpos) (.Call (.Name "enumerate" p) [e] [] pos) ρ μ R := fun σ F H s r => by
  refine semI.mk (wi := iEnum Γ.K (semA Γ [e])) (fun X hX => ?_) (h.go s r fun vs F1 H1 xs μ1 r1 e1 s1 p1 q1 => ?_)
  · have := pi_enum (X := X) (p := p) (pos := pos) (tpos := tpos) (elts := elts) (kk := kk) (hX.gl hg) (by rw [hX.mg]; exact hm) (pa_sem hX [e]) (hs _)
    rw [hX.K] at this; exact this
  · obtain ⟨ds, rfl, q1⟩ := q1
    obtain ⟨a, ys, rfl, g1, g2⟩ := reps_lst1 p1
    exact ⟨a, ys, rfl, r1.same.seq g1, F1, μ1, _, r1, e1, iter_enum g1 g2, q1⟩
end

/-! ### built-in calls -/
section
variable {Γ : Gam} {μ : Mem} {Q : D → Mem → Prop}
theorem reps1 {K : PySem.W.Frag} {F : Hp} {vs : List V} {d : D} (h : Reps K F vs [d]) : ∃ v, vs = [v] ∧ Rep K F v d := by
  cases h with | cons h t => cases t; exact ⟨_, rfl, h⟩
theorem reps2 {K : PySem.W.Frag} {F : Hp} {vs : List V} {d e : D} (h : Reps K F vs [d, e]) : ∃ v w, vs = [v, w] ∧ Rep K F v d ∧ Rep K F w e := by
  cases h with | cons h t => obtain ⟨w, rfl, g⟩ := reps1 t; exact ⟨_, w, rfl, h, g⟩
theorem wc_len_lst {ds : List D} (q : Q (.int ds.length) μ) : WC Γ (.builtin "len") [.lst ds] μ Q := fun vs F H p r => by
  obtain ⟨a, xs, rfl, g1, g2⟩ := reps_lst1 p
  refine semC.mk (r := fun xs H Q => ∃ p ys, xs = [.ref p] ∧ (SqL Γ.K H p ys ∨ SqT Γ.K H p ys) ∧ Q (.int ys.length) H) (fun X hX => hX.K ▸ call_len_seq) ⟨a, xs, rfl, .inl (r.same.seq g1), ?_⟩
  rw [g2.length]; exact .now r (.int _) q
theorem wc_len_tup {ds : List D} (q : Q (.int ds.length) μ) : WC Γ (.builtin "len") [.tup ds] μ Q := fun vs F H p r => by
  obtain ⟨a, xs, rfl, g1, g2⟩ := reps_tup1 p
  refine semC.mk (r := fun xs H Q => ∃ p ys, xs = [.ref p] ∧ (SqL Γ.K H p ys ∨ SqT Γ.K H p ys) ∧ Q (.int ys.length) H) (fun X hX => hX.K ▸ call_len_seq) ⟨a, xs, rfl, .inr (same_seqT r.same g1), ?_⟩
  rw [g2.length]; exact .now r (.int _) q
theorem reps_loc1 {K : PySem.W.Frag} {F : Hp} {vs : List V} {a : Addr} (h : Reps K F vs [.loc a]) : vs = [.ref a] := by
  cases h with | cons h t => cases h; cases t; rfl
theorem Rel.lstAt {K : PySem.W.Frag} {F H : Hp} (r : Rel K F H μ) {a : Addr} {ds : List D} (m : μ a = some (.lst ds)) : ∃ xs, H a = some (.lst xs) ∧ Reps K F xs ds := by
  obtain ⟨_, ho, hH, hr⟩ := r.mem a _ m
  cases hr with | lst h => exact ⟨_, hH, h⟩
theorem Rel.dctAt {K : PySem.W.Frag} {F H : Hp} (r : Rel K F H μ) {a : Addr} {ds : List (Key × D)} (m : μ a = some (.dct ds)) : ∃ xs, H a = some (.dK xs) ∧ KReps K F xs ds := by
  obtain ⟨_, ho, hH, hr⟩ := r.mem a _ m
  cases hr with | dct h => exact ⟨_, hH, h⟩
theorem wc_len_loc {a : Addr} {ds : List D} (m : μ a = some (.lst ds)) (q : Q (.int ds.length) μ) : WC Γ (.builtin "len") [.loc a] μ Q := fun vs F H p r => by
  obtain rfl := reps_loc1 p
  obtain ⟨xs, hH, g2⟩ := r.lstAt m
  refine semC.mk (r := fun xs H Q => ∃ p ys, xs = [.ref p] ∧ (SqL Γ.K H p ys ∨ SqT Γ.K H p ys) ∧ Q (.int ys.length) H) (fun X hX => hX.K ▸ call_len_seq) ⟨a, xs, rfl, .inl (SqL.of hH), ?_⟩
  rw [g2.length]; exact .now r (.int _) q
theorem wc_abs {i : Int} (q : Q (.int (if i < 0 then -i else i)) μ) : WC Γ (.builtin "abs") [.int i] μ Q := fun vs F H p r => by
  obtain rfl := reps_one p
  exact semC.mk (fun X hX => call_abs) ⟨i, rfl, .now r (.int _) q⟩
theorem wc_max2 [hc : Calm Γ] {i j : Int} (q : Q (.int (if j > i then j else i)) μ) : WC Γ (.builtin "max") [.int i, .int j] μ Q := fun vs F H p r => by
  obtain rfl := reps_two p
  exact semC.mk (fun X hX => call_max2 (hX.calm hc.h)) ⟨i, j, rfl, .now r (.int _) q⟩
theorem wc_min2 [hc : Calm Γ] {i j : Int} (q : Q (.int (if j < i then j else i)) μ) : WC Γ (.builtin "min") [.int i, .int j] μ Q := fun vs F H p r => by
  obtain rfl := reps_two p
  exact semC.mk (fun X hX => call_min2 (hX.calm hc.h)) ⟨i, j, rfl, .now r (.int _) q⟩
theorem wc_int {i : Int} (q : Q (.int i) μ) : WC Γ (.type "int") [.int i] μ Q := fun vs F H p r => by
  obtain rfl := reps_one p
  exact semC.mk (fun X hX => call_int1) (.inl ⟨i, rfl, .now r (.int _) q⟩)
theorem wc_intB {k : Bool} (q : Q (.int (if k then 1 else 0)) μ) : WC Γ (.type "int") [.bl k] μ Q := fun vs F H p r => by
  obtain ⟨v, rfl, g⟩ := reps1 p
  cases g
  exact semC.mk (fun X hX => call_int1) (.inr ⟨k, rfl, .now r (.int _) q⟩)
/-- a new list that no one changes -/
theorem post_lst {K : PySem.W.Frag} {F H : Hp} {xs : List V} {ds : List D} (r : Rel K F H μ) (h : Reps K F xs ds) (q : Q (.lst ds) μ) (p : Addr) (hp : H p = none) : Post K F H μ Q (.ref p) (L2.upd H p (.lst xs)) := by
  obtain ⟨r2, e2⟩ := r.layF hp (.lst xs)
  exact ⟨_, .lst ds, μ, r2, e2, .lst L2.upd_same (h.mono e2.fr), q⟩
theorem post_lstM {K : PySem.W.Frag} {F H : Hp} {xs : List V} {ds : List D} (r : Rel K F H μ) (h : Reps K F xs ds) (q : ∀ p, μ p = none → Q (.loc p) (μ.upd p (.lst ds))) (p : Addr) (hp : H p = none) : Post K F H μ Q (.ref p) (L2.upd H p (.lst xs)) := by
  obtain ⟨r2, e2⟩ := r.layM hp (.lst h)
  exact ⟨_, .loc p, _, r2, e2, .loc p, q p (r.fresh hp).2⟩
theorem post_tup {K : PySem.W.Frag} {F H : Hp} {xs : List V} {ds : List D} (r : Rel K F H μ) (h : Reps K F xs ds) (q : Q (.tup ds) μ) (p : Addr) (hp : H p = none) : Post K F H μ Q (.ref p) (L2.upd H p (.tup xs)) := by
  obtain ⟨r2, e2⟩ := r.layF hp (.tup xs)
  exact ⟨_, .tup ds, μ, r2, e2, .tup (.inl (.inl L2.upd_same)) (h.mono e2.fr), q⟩
/-- a sequence that may be read: its items -/
def SeqD (μ : Mem) (d : D) (ds : List D) : Prop := d = .lst ds ∨ d = .tup ds ∨ ∃ a, d = .loc a ∧ μ a = some (.lst ds)
theorem seqD_at {K : PySem.W.Frag} {F H : Hp} {d : D} {ds : List D} {v : V} (s : SeqD μ d ds) (r : Rel K F H μ) (p : Rep K F v d) : ∃ a xs, v = .ref a ∧ (SqL K H a xs ∨ SqT K H a xs) ∧ Reps K F xs ds := by
  rcases s with rfl | rfl | ⟨a, rfl, m⟩
  · cases p with | lst g1 g2 => exact ⟨_, _, rfl, .inl (SqL.of (r.same _ _ g1)), g2⟩
  · cases p with | tup g1 g2 => exact ⟨_, _, rfl, .inr (same_seqT r.same g1), g2⟩
  · cases p
    obtain ⟨xs, hH, g⟩ := r.lstAt m
    exact ⟨a, xs, rfl, .inl (SqL.of hH), g⟩
theorem wc_list {d : D} {ds : List D} (s : SeqD μ d ds) (q : Q (.lst ds) μ) : WC Γ (.type "list") [d] μ Q := fun vs F H p r => by
  obtain ⟨v, rfl, g⟩ := reps1 p
  obtain ⟨a, xs, rfl, g1, g2⟩ := seqD_at s r g
  exact semC.mk (r := fun xs H Q => ∃ p ys, xs = [.ref p] ∧ (SqL Γ.K H p ys ∨ SqT Γ.K H p ys) ∧ ∀ l, H l = none → Q (.ref l) (L2.upd H l (.lst ys))) (fun X hX => hX.K ▸ call_list_of) ⟨a, xs, rfl, g1, post_lst r g2 q⟩
theorem wc_listM {d : D} {ds : List D} (s : SeqD μ d ds) (q : ∀ p, μ p = none → Q (.loc p) (μ.upd p (.lst ds))) : WC Γ (.type "list") [d] μ Q := fun vs F H p r => by
  obtain ⟨v, rfl, g⟩ := reps1 p
  obtain ⟨a, xs, rfl, g1, g2⟩ := seqD_at s r g
  exact semC.mk (r := fun xs H Q => ∃ p ys, xs = [.ref p] ∧ (SqL Γ.K H p ys ∨ SqT Γ.K H p ys) ∧ ∀ l, H l = none → Q (.ref l) (L2.upd H l (.lst ys))) (fun X hX => hX.K ▸ call_list_of) ⟨a, xs, rfl, g1, post_lstM r g2 q⟩
theorem wc_tuple {d : D} {ds : List D} (s : SeqD μ d ds) (q : Q (.tup ds) μ) : WC Γ (.type "tuple") [d] μ Q := fun vs F H p r => by
  obtain ⟨v, rfl, g⟩ := reps1 p
  refine semC.mk (r := fun xs H Q => ∃ p ys, xs = [.ref p] ∧ ((SqL Γ.K H p ys ∧ ∀ l, H l = none → Q (.ref l) (L2.upd H l (.tup ys))) ∨ (SqT Γ.K H p ys ∧ Q (.ref p) H))) (fun X hX => hX.K ▸ call_tuple_of) ?_
  rcases s with rfl | rfl | ⟨a, rfl, m⟩
  · cases g with | lst g1 g2 => exact ⟨_, _, rfl, .inl ⟨SqL.of (r.same _ _ g1), post_tup r g2 q⟩⟩
  · cases g with | tup g1 g2 => exact ⟨_, _, rfl, .inr ⟨same_seqT r.same g1, .now r (.tup g1 g2) q⟩⟩
  · cases g
    obtain ⟨xs, hH, g⟩ := r.lstAt m
    exact ⟨a, xs, rfl, .inl ⟨SqL.of hH, post_tup r g q⟩⟩
/-- sorted(ints) -/
theorem wc_sortedI {d : D} {ns : List Int} (s : d = .lst (ns.map D.int) ∨ ∃ a, d = .loc a ∧ μ a = some (.lst (ns.map D.int))) (q : ∀ ms : List Int, ms.Perm ns → ms.Pairwise (· ≤ ·) → Q (.lst (ms.map D.int)) μ) : WC Γ (.builtin "sorted") [d] μ Q := fun vs F H p r => by
  obtain ⟨v, rfl, g⟩ := reps1 p
  obtain ⟨a, xs, rfl, g1, g2⟩ : ∃ a xs, v = V.ref a ∧ SqL Γ.K H a xs ∧ Reps Γ.K F xs (ns.map D.int) := by
    rcases s with rfl | ⟨a, rfl, m⟩
    · cases g with | lst g1 g2 => exact ⟨_, _, rfl, SqL.of (r.same _ _ g1), g2⟩
    · cases g
      obtain ⟨xs, hH, g⟩ := r.lstAt m
      exact ⟨a, xs, rfl, SqL.of hH, g⟩
  obtain rfl := Reps.ints ns g2
  exact semC.mk (r := rSortedI Γ.K) (fun X hX => hX.K ▸ cr_sortedI) ⟨a, ns, rfl, g1, fun ms p h1 h2 hp => post_lst r (Reps.of_ints ms) (q ms h1 h2) p hp⟩
theorem wc_all [hc : Calm Γ] {d : D} {bs : List Bool} (s : d = .lst (bs.map D.bl)) (q : Q (.bl (bs.all id)) μ) : WC Γ (.builtin "all") [d] μ Q := fun vs F H p r => by
  subst s
  obtain ⟨a, xs, rfl, g1, g2⟩ := reps_lst1 p
  obtain rfl := Reps.bls bs g2
  exact semC.mk (r := rAll Γ.K) (fun X hX => hX.K ▸ cr_all (hX.calm hc.h)) ⟨a, bs, rfl, r.same.seq g1, .now r (.bl _) q⟩
theorem wc_any [hc : Calm Γ] {d : D} {bs : List Bool} (s : d = .lst (bs.map D.bl)) (q : Q (.bl (bs.any id)) μ) : WC Γ (.builtin "any") [d] μ Q := fun vs F H p r => by
  subst s
  obtain ⟨a, xs, rfl, g1, g2⟩ := reps_lst1 p
  obtain rfl := Reps.bls bs g2
  exact semC.mk (r := rAny Γ.K) (fun X hX => hX.K ▸ cr_any (hX.calm hc.h)) ⟨a, bs, rfl, r.same.seq g1, .now r (.bl _) q⟩
theorem wc_maxL [hc : Calm Γ] {d : D} {ns : List Int} (s : d = .lst (ns.map D.int)) (h0 : 0 < ns.length) (q : ∀ m, m ∈ ns → (∀ y, y ∈ ns → y ≤ m) → Q (.int m) μ) : WC Γ (.builtin "max") [d] μ Q := fun vs F H p r => by
  subst s
  obtain ⟨a, xs, rfl, g1, g2⟩ := reps_lst1 p
  obtain rfl := Reps.ints ns g2
  exact semC.mk (r := rMax Γ.K) (fun X hX => hX.K ▸ cr_max (hX.calm hc.h)) ⟨a, ns, rfl, r.same.seq g1, h0, fun m h1 h2 => .now r (.int _) (q m h1 h2)⟩
theorem wc_minL [hc : Calm Γ] {d : D} {ns : List Int} (s : d = .lst (ns.map D.int)) (h0 : 0 < ns.length) (q : ∀ m, m ∈ ns → (∀ y, y ∈ ns → m ≤ y) → Q (.int m) μ) : WC Γ (.builtin "min") [d] μ Q := fun vs F H p r => by
  subst s
  obtain ⟨a, xs, rfl, g1, g2⟩ := reps_lst1 p
  obtain rfl := Reps.ints ns g2
  exact semC.mk (r := rMin Γ.K) (fun X hX => hX.K ▸ cr_min (hX.calm hc.h)) ⟨a, ns, rfl, r.same.seq g1, h0, fun m h1 h2 => .now r (.int _) (q m h1 h2)⟩
/-- the built-in type of a value -/
def tyD : D → Option String
  | .non => some "NoneType" | .bl _ => some "bool" | .int _ => some "int" | .str _ => some "str" | .tup _ => some "tuple" | .lst _ => some "list" | _ => none
theorem tyX_of {K : PySem.W.Frag} {F H : Hp} {d : D} {v : V} {T : String} (h : tyD d = some T) (r : Rel K F H μ) (p : Rep K F v d) : TyX K H v (.type T) := by
  cases p <;> simp [tyD] at h <;> subst h
  · exact .base .non
  · exact .base (.bl _)
  · exact .base (.int _)
  · exact .base (.str _)
  · rename_i a xs ds h1 h2
    rcases same_seqT r.same h1 with (z | ⟨o, z⟩) | ⟨o, its, n, z, c, _⟩
    · exact .base (.tup z)
    · exact .fTuple z
    · exact .kTuple z c
  · rename_i a xs ds h1 h2
    exact .base (.lst (r.same _ _ h1))
theorem wc_isi {d : D} {T n : String} {k : Bool} (h : tyD d = some T) (e : kitB T n = some k) (q : Q (.bl k) μ) : WC Γ (.builtin "isinstance") [d, .ty n] μ Q := fun vs F H p r => by
  obtain ⟨v, w, rfl, g1, g2⟩ := reps2 p
  cases g2
  exact semC.mk (r := rIsi Γ.K) (fun X hX => hX.K ▸ call_isi) ⟨v, .ty n, .type T, .type n, k, rfl, .ty n, tyX_of h r g1, kit_ty e, .now r (.bl _) q⟩
theorem wc_sum [hc : Calm Γ] {d : D} {ns : List Int} (s : d = .lst (ns.map D.int)) (q : Q (.int ns.sum) μ) : WC Γ (.builtin "sum") [d] μ Q := fun vs F H p r => by
  subst s
  obtain ⟨a, xs, rfl, g1, g2⟩ := reps_lst1 p
  obtain rfl := Reps.ints ns g2
  exact semC.mk (r := rSum Γ.K) (fun X hX => hX.K ▸ cr_sum (hX.calm hc.h)) ⟨a, ns, rfl, r.same.seq g1, .now r (.int _) q⟩

/-! ### methods of lists that change -/
theorem wm_append {a : Addr} {ds : List D} {d : D} (m : μ a = some (.lst ds)) (hl : ds.length < sizeLine) (q : Q .non (μ.upd a (.lst (ds ++ [d])))) : WM Γ "list.append" (.loc a) [d] μ Q := fun v vs F H p ps r => by
  cases p
  obtain ⟨u, rfl, g⟩ := reps1 ps
  obtain ⟨xs, hH, gx⟩ := r.lstAt m
  obtain ⟨r2, e2⟩ := r.put m (.lst (gx.append (.cons g .nil)))
  exact semM.mk (r := rAppend) (fun X hX => mt_append) ⟨a, xs, u, rfl, rfl, hH, by rw [gx.length]; exact hl, F, .non, _, r2, e2, .non, q⟩
theorem wm_extend {a : Addr} {ds es : List D} (m : μ a = some (.lst ds)) (hl : ds.length + es.length ≤ sizeLine) (q : Q .non (μ.upd a (.lst (ds ++ es)))) : WM Γ "list.extend" (.loc a) [.lst es] μ Q := fun v vs F H p ps r => by
  cases p
  obtain ⟨u, rfl, g⟩ := reps1 ps
  obtain ⟨xs, hH, gx⟩ := r.lstAt m
  obtain ⟨b, ys, rfl, hb, gy⟩ : ∃ b ys, u = V.ref b ∧ H b = some (.lst ys) ∧ Reps Γ.K F ys es := by
    cases g with | lst g1 g2 => exact ⟨_, _, rfl, r.same _ _ g1, g2⟩
  obtain ⟨r2, e2⟩ := r.put m (.lst (gx.append gy))
  exact semM.mk (r := rExtend) (fun X hX => mt_extend) ⟨a, b, xs, ys, rfl, rfl, hH, hb, by rw [gx.length, gy.length]; exact hl, F, .non, _, r2, e2, .non, q⟩
theorem wm_popAt {a : Addr} {ds : List D} {i : Int} {k : Nat} {d : D} (m : μ a = some (.lst ds)) (h1 : -(2 ^ 63) ≤ i ∧ i < 2 ^ 63) (h2 : seqIndex? i ds.length = some k) (h3 : ds[k]? = some d) (q : Q d (μ.upd a (.lst (ds.eraseIdx k)))) : WM Γ "list.pop" (.loc a) [.int i] μ Q := fun v vs F H p ps r => by
  cases p
  obtain rfl := reps_one ps
  obtain ⟨xs, hH, gx⟩ := r.lstAt m
  obtain ⟨w, e1, g⟩ := gx.get h3
  obtain ⟨r2, e2⟩ := r.put m (.lst (gx.eraseIdx k))
  exact semM.mk (r := rPopAt) (fun X hX => mt_popAt) ⟨a, xs, i, k, w, rfl, rfl, hH, h1.1, h1.2, by rw [gx.length]; exact h2, e1, F, d, _, r2, e2, g, q⟩
end
end DL
namespace DL
open PySem L2

/-! ### slices -/
def cutD {α : Type} (xs : List α) (lo hi : Option Int) : List α := (xs.drop (HT.sIx xs.length 0 lo)).take (HT.sIx xs.length xs.length hi - HT.sIx xs.length 0 lo)
theorem Reps.cut {K : PySem.W.Frag} {F : Hp} {vs : List V} {ds : List D} (h : Reps K F vs ds) (lo hi : Option Int) : Reps K F (cutV vs lo hi) (cutD ds lo hi) := by
  unfold cutV cutD
  rw [h.length]
  exact (h.drop _).take _
theorem cutD_map {α β : Type} (f : α → β) (xs : List α) (lo hi : Option Int) : cutD (xs.map f) lo hi = (cutD xs lo hi).map f := by
  unfold cutD; rw [List.length_map, ← List.map_drop, ← List.map_take]
def semP (Γ : Gam) (e : Option Expr) : TO := fun σ H Q => ∃ (t : TO) (Q0 : Option Int → Hp → Prop), (∀ X, Γ.ok X → PO X e t) ∧ t σ H Q0 ∧ ∀ v H', Q0 v H' → Q v H'
theorem po_sem {Γ : Gam} {X : Cx} (hX : Γ.ok X) (e : Option Expr) : PO X e (semP Γ e) := ⟨fun pins s σ H Q I ⟨t, Q0, h, ht, hq⟩ =>
  thn ((h X hX).run pins s σ H Q0 I ht) fun _ _ ⟨o, H', I', r, q⟩ => ⟨o, H', I', r, hq _ _ q⟩⟩
def WP (Γ : Gam) (e : Option Expr) (ρ : Rho) (μ : Mem) (Q : Option Int → Mem → Prop) : Prop := ∀ σ F H, Slots Γ.K F σ ρ → Rel Γ.K F H μ → semP Γ e σ H fun o H' => ∃ F' μ', Rel Γ.K F' H' μ' ∧ Ext F H μ F' H' μ' ∧ Q o μ'
def semSlx (Γ : Gam) : V → Option Int → Option Int → Hp → VK → Prop := semSl Γ
theorem sl_sem {Γ : Gam} {X : Cx} (hX : Γ.ok X) : SlR X (semSl Γ) := fun pins s σ H x v vl vu lo hi sl Q I rx hs pl pu ⟨r, Q0, h, hr, hq⟩ => by
  obtain ⟨T, id, h1, h2, h3⟩ := h X hX pins s σ H x v vl vu lo hi sl Q0 I rx hs pl pu hr
  exact ⟨T, id, h1, h2, thn h3 fun _ _ q => ep_mono hq q⟩
def WSl (Γ : Gam) (x : D) (lo hi : Option Int) (μ : Mem) (Q : D → Mem → Prop) : Prop := ∀ v F H, Rep Γ.K F v x → Rel Γ.K F H μ → semSl Γ v lo hi H (Post Γ.K F H μ Q)
section
variable {Γ : Gam} {ρ : Rho} {μ : Mem} {Q : D → Mem → Prop} {a b c e o : Expr} {es : List Expr} {pos p p2 : Pos} {x : Str} {D' : DEnds} {lo hi : Option Expr}
theorem wp_none {R : Option Int → Mem → Prop} (q : R none μ) : WP Γ none ρ μ R := fun σ F H s r => ⟨tNoPart, fun o H' => ∃ F' μ', Rel Γ.K F' H' μ' ∧ Ext F H μ F' H' μ' ∧ R o μ', fun X hX => po_none, ⟨F, μ, r, .refl _ _ _, q⟩, fun _ _ x => x⟩
theorem wp_some {R : Option Int → Mem → Prop} (h : WE Γ e ρ μ fun d μ1 => ∃ i, d = .int i ∧ R (some i) μ1) : WP Γ (some e) ρ μ R := fun σ F H s r =>
  ⟨tPart (semE Γ e), fun o H' => ∃ F' μ', Rel Γ.K F' H' μ' ∧ Ext F H μ F' H' μ' ∧ R o μ', fun X hX => po_some (pe_sem hX e), h.go s r fun v F1 H1 d μ1 r1 e1 s1 p1 q1 => by
    obtain ⟨i, rfl, q1⟩ := q1
    exact ⟨i, rep_int p1, F1, μ1, r1, e1, q1⟩, fun _ _ x => x⟩
theorem WP.go {R : Option Int → Mem → Prop} {S : Option Int → Hp → Prop} {σ : L2.St} {F H : Hp} (h : WP Γ lo ρ μ R) (s : Slots Γ.K F σ ρ) (r : Rel Γ.K F H μ)
    (k : ∀ o F1 H1 μ1, Rel Γ.K F1 H1 μ1 → Ext F H μ F1 H1 μ1 → Slots Γ.K F1 σ ρ → R o μ1 → S o H1) : semP Γ lo σ H S := by
  obtain ⟨t, Q0, h1, h2, h3⟩ := h σ F H s r
  refine ⟨t, Q0, h1, h2, fun o H' q => ?_⟩
  obtain ⟨F', μ', r', x, q⟩ := h3 o H' q
  exact k o F' H' μ' r' x (s.mono x.fr) q
theorem we_slice (h : WE Γ e ρ μ fun d μ1 => WP Γ lo ρ μ1 fun l μ2 => WP Γ hi ρ μ2 fun u μ3 => WSl Γ d l u μ3 Q) : WE Γ (.Subscript e (.Slice lo hi none p2) pos) ρ μ Q := fun σ F H s r =>
  semE.mk (fun X hX => pe_slice (sl_sem hX) (pe_sem hX e) (po_sem hX lo) (po_sem hX hi)) (h.go s r fun v F1 H1 d μ1 r1 e1 s1 p1 h1 => h1.go s1 r1 fun l F2 H2 μ2 r2 e2 s2 h2 => h2.go s2 r2 fun u F3 H3 μ3 r3 e3 s3 h3 => by
    obtain ⟨t, Q0, g1, g2, g3⟩ := h3 v F3 H3 ((p1.mono e2.fr).mono e3.fr) r3
    exact ⟨t, Q0, g1, g2, fun v H' q => (g3 v H' q).ext ((e1.trans e2).trans e3)⟩)
theorem wsl_lst {ds : List D} {l u : Option Int} (q : Q (.lst (cutD ds l u)) μ) : WSl Γ (.lst ds) l u μ Q := fun v F H p r => by
  cases p with
  | lst g1 g2 => exact ⟨rSlL Γ.K, _, fun X hX => hX.K ▸ sl_list, ⟨_, _, rfl, SqL.of (r.same _ _ g1), post_lst r (g2.cut l u) q⟩, fun _ _ x => x⟩
theorem wsl_lsr {ds : List D} {l u : Option Int} (q : Q (.lst (cutD ds l u)) μ) : WSl Γ (.lsr ds) l u μ Q := fun v F H p r => by
  cases p with
  | lsr g1 g2 => exact ⟨rSlL Γ.K, _, fun X hX => hX.K ▸ sl_list, ⟨_, _, rfl, r.same.seq g1, post_lst r (g2.cut l u) q⟩, fun _ _ x => x⟩
theorem wsl_loc {ds : List D} {a : Addr} {l u : Option Int} (m : μ a = some (.lst ds)) (q : Q (.lst (cutD ds l u)) μ) : WSl Γ (.loc a) l u μ Q := fun v F H p r => by
  cases p
  obtain ⟨xs, hH, g⟩ := r.lstAt m
  exact ⟨rSlL Γ.K, _, fun X hX => hX.K ▸ sl_list, ⟨_, _, rfl, SqL.of hH, post_lst r (g.cut l u) q⟩, fun _ _ x => x⟩
/-- .. as a new list that is to change -/
theorem wsl_lstM {d : D} {ds : List D} {l u : Option Int} (s : d = .lst ds ∨ ∃ a, d = .loc a ∧ μ a = some (.lst ds)) (q : ∀ p, μ p = none → Q (.loc p) (μ.upd p (.lst (cutD ds l u)))) : WSl Γ d l u μ Q := fun v F H p r => by
  rcases s with rfl | ⟨a, rfl, m⟩
  · cases p with
    | lst g1 g2 => exact ⟨rSlL Γ.K, _, fun X hX => hX.K ▸ sl_list, ⟨_, _, rfl, SqL.of (r.same _ _ g1), post_lstM r (g2.cut l u) q⟩, fun _ _ x => x⟩
  · cases p
    obtain ⟨xs, hH, g⟩ := r.lstAt m
    exact ⟨rSlL Γ.K, _, fun X hX => hX.K ▸ sl_list, ⟨_, _, rfl, SqL.of hH, post_lstM r (g.cut l u) q⟩, fun _ _ x => x⟩
theorem sIx_end {n : Nat} {hi : Option Int} (h : HT.sIx n n hi = n) {α : Type} (xs : List α) (hl : xs.length = n) {lo : Option Int} (h0 : HT.sIx n 0 lo = 0) : cutD xs lo hi = xs := by
  unfold cutD
  rw [hl, h, h0, Nat.sub_zero, ← hl, List.drop_zero, List.take_length]
theorem wsl_tup {ds : List D} {l u : Option Int} (q : Q (.tup (cutD ds l u)) μ) : WSl Γ (.tup ds) l u μ Q := fun v F H p r => by
  cases p with
  | @tup a xs _ g1 g2 =>
    refine ⟨rSlA Γ.K, _, fun X hX => hX.K ▸ sl_tupA, ⟨_, _, rfl, same_seqT r.same g1, fun w => ?_, fun w => post_tup r (g2.cut l u) q⟩, fun _ _ x => x⟩
    rw [g2.length] at w
    rw [sIx_end w.2 ds rfl w.1] at q
    exact .now r (.tup g1 g2) q
/-- xs[::-1] of a list -/
theorem we_revL {k : Nat} {p1 q2 p3 : Pos} (h : WE Γ e ρ μ fun d μ1 => ∃ ds, (d = .lst ds ∨ ∃ a, d = .loc a ∧ μ1 a = some (.lst ds)) ∧ Q (.lst ds.reverse) μ1) : WE Γ (.Subscript e (.Slice none none (some (.UnaryOp .USub (.Constant (.int 1) k p1) q2)) p3) pos) ρ μ Q := fun σ F H s r => by
  refine semE.mk (t := tRevL Γ.K (semE Γ e)) (fun X hX => ?_) (h.go s r fun v F1 H1 d μ1 r1 e1 s1 p1' h1 => ?_)
  · have := pe_revL (X := X) (k := k) (p1 := p1) (p2 := q2) (p3 := p3) (pos := pos) (pe_sem hX e)
    rw [hX.K] at this; exact this
  · obtain ⟨ds, hd, q⟩ := h1
    obtain ⟨a, xs, rfl, g1, g2⟩ : ∃ a xs, v = V.ref a ∧ SqL Γ.K H1 a xs ∧ Reps Γ.K F1 xs ds := by
      rcases hd with rfl | ⟨a, rfl, m⟩
      · cases p1' with | lst g1 g2 => exact ⟨_, _, rfl, SqL.of (r1.same _ _ g1), g2⟩
      · cases p1'
        obtain ⟨xs, hH, g⟩ := r1.lstAt m
        exact ⟨a, xs, rfl, SqL.of hH, g⟩
    exact ⟨a, xs, rfl, g1, fun p hp => Post.ext e1 (post_lst r1 g2.reverse q p hp)⟩

/-! ### list + list, tuple + tuple, in -/
theorem lst_at {K : PySem.W.Frag} {F H : Hp} {d : D} {ds : List D} {v : V} (hd : d = .lst ds ∨ ∃ a, d = .loc a ∧ μ a = some (.lst ds)) (r : Rel K F H μ) (p : Rep K F v d) : ∃ a xs, v = V.ref a ∧ H a = some (.lst xs) ∧ Reps K F xs ds := by
  rcases hd with rfl | ⟨a, rfl, m⟩
  · cases p with | lst g1 g2 => exact ⟨_, _, rfl, r.same _ _ g1, g2⟩
  · cases p
    obtain ⟨xs, hH, g⟩ := r.lstAt m
    exact ⟨a, xs, rfl, hH, g⟩
abbrev LstD (μ : Mem) (d : D) (ds : List D) : Prop := d = .lst ds ∨ ∃ a, d = .loc a ∧ μ a = some (.lst ds)
theorem wo_cat {x y : D} {ds es : List D} (hx : LstD μ x ds) (hy : LstD μ y es) (hl : ds.length + es.length ≤ sizeLine) (q : Q (.lst (ds ++ es)) μ) : WO Γ (binaryOp .Add) x y μ Q := fun v u F H p1 p2 r => by
  obtain ⟨a, xs, rfl, h1, g1⟩ := lst_at hx r p1
  obtain ⟨b, ys, rfl, h2, g2⟩ := lst_at hy r p2
  exact semO.mk (fun X _ => op_cat) ⟨a, b, xs, ys, rfl, rfl, h1, h2, by rw [g1.length, g2.length]; exact hl, post_lst r (g1.append g2) q⟩
theorem wo_catM {x y : D} {ds es : List D} (hx : LstD μ x ds) (hy : LstD μ y es) (hl : ds.length + es.length ≤ sizeLine) (q : ∀ p, μ p = none → Q (.loc p) (μ.upd p (.lst (ds ++ es)))) : WO Γ (binaryOp .Add) x y μ Q := fun v u F H p1 p2 r => by
  obtain ⟨a, xs, rfl, h1, g1⟩ := lst_at hx r p1
  obtain ⟨b, ys, rfl, h2, g2⟩ := lst_at hy r p2
  exact semO.mk (fun X _ => op_cat) ⟨a, b, xs, ys, rfl, rfl, h1, h2, by rw [g1.length, g2.length]; exact hl, post_lstM r (g1.append g2) q⟩
theorem Reps.nil_iff {K : PySem.W.Frag} {F : Hp} {vs : List V} {ds : List D} (h : Reps K F vs ds) : vs = [] ↔ ds = [] := by
  cases h <;> simp
theorem wo_catT {ds es : List D} (hl : ds.length + es.length ≤ sizeLine) (q : Q (.tup (ds ++ es)) μ) : WO Γ (binaryOp .Add) (.tup ds) (.tup es) μ Q := fun v u F H p1 p2 r => by
  cases p1 with
  | @tup a xs _ h1 g1 =>
    cases p2 with
    | @tup b ys _ h2 g2 =>
      refine semO.mk (r := rCatA Γ.K) (fun X hX => hX.K ▸ op_catA) ⟨a, b, xs, ys, rfl, rfl, same_seqT r.same h1, same_seqT r.same h2, by rw [g1.length, g2.length]; exact hl, fun z => ?_, fun z1 z2 => ?_, fun z1 z2 => post_tup r (g1.append g2) q⟩
      · have := g1.nil_iff.mp z; subst this
        exact .now r (.tup h2 g2) q
      · have := g2.nil_iff.mp z2; subst this
        rw [List.append_nil] at q
        exact .now r (.tup h1 g1) q
/-- flat items -/
def flD : D → Option V
  | .non => some .non | .bl b => some (.bl b) | .int i => some (.int i) | .str x => some (.str x) | _ => none
theorem wo_inI (neg : Bool) {op : CmpOp} (hop : (op = .In ∧ neg = false) ∨ (op = .NotIn ∧ neg = true)) {d : D} {i : Int} {ns : List Int} (s : SeqD μ d (ns.map D.int)) (q : Q (.bl (if neg then !decide (i ∈ ns) else decide (i ∈ ns))) μ) : WO Γ (compareOp op) (.int i) d μ Q := fun v u F H p1 p2 r => by
  cases p1
  obtain ⟨a, xs, rfl, g1, g2⟩ := seqD_at s r p2
  obtain rfl := Reps.ints ns g2
  have hin : inV (V.int i) (ns.map V.int) = decide (i ∈ ns) := by
    unfold inV
    rw [List.any_map]
    rw [Bool.eq_iff_iff]
    simp only [List.any_eq_true, decide_eq_true_eq, Function.comp]
    constructor
    · rintro ⟨x, h1, h2⟩
      have : x = i := by simpa [eqV] using h2
      rw [← this]; exact h1
    · intro h; exact ⟨i, h, by simp [eqV]⟩
  have hfl : (ns.map V.int).all flatV = true := by
    rw [List.all_eq_true]; intro x hx; obtain ⟨n, _, rfl⟩ := List.mem_map.mp hx; rfl
  rcases hop with ⟨rfl, rfl⟩ | ⟨rfl, rfl⟩
  · refine semO.mk (r := rIn Γ.K false) (fun X hX => hX.K ▸ op_in_seq) ⟨a, _, rfl, g1, rfl, hfl, ?_⟩
    rw [hin]; exact .now r (.bl _) q
  · refine semO.mk (r := rIn Γ.K true) (fun X hX => hX.K ▸ op_notIn_seq) ⟨a, _, rfl, g1, rfl, hfl, ?_⟩
    rw [hin]; exact .now r (.bl _) q

/-! ### == of data -/
mutual
def D.pd : D → PyData
  | .non => .none | .bl b => .bool b | .int i => .int i | .str x => .str x
  | .tup l => .tuple (D.pds l) | .lst l => .list (D.pds l) | .lsr l => .list (D.pds l)
  | .loc _ => .none | .ty _ => .none
def D.pds : List D → List PyData
  | [] => []
  | d :: ds => d.pd :: D.pds ds
end
mutual
/-- data through and through, of a small depth, its texts well made -/
def D.pure : Nat → D → Bool
  | _, .non => true | _, .bl _ => true | _, .int _ => true | _, .str x => PyData.strOk x
  | n + 1, .tup l => D.pures n l | n + 1, .lst l => D.pures n l
  | _, _ => false
def D.pures : Nat → List D → Bool
  | _, [] => true
  | n, d :: ds => D.pure n d && D.pures n ds
end
mutual
theorem D.dp {K : PySem.W.Frag} {F H : Hp} (s : Same F H) : ∀ (n : Nat) {d : D} {v : V}, d.pure n = true → Rep K F v d → Dp K H v d.pd
  | n, .non, _, _, .non => .non
  | n, .bl b, _, _, .bl _ => .bl b
  | n, .int i, _, _, .int _ => .int i
  | n, .str x, _, _, .str _ => .str x
  | n + 1, .tup l, _, h, .tup g1 g2 => by
    have h' : D.pures n l = true := by simpa [D.pure] using h
    exact .tup (same_seqT s g1) (D.dps s n h' g2)
  | n + 1, .lst l, _, h, .lst g1 g2 => by
    have h' : D.pures n l = true := by simpa [D.pure] using h
    exact .lst (SqL.of (s _ _ g1)) (D.dps s n h' g2)
  | 0, .tup l, _, h, _ => by simp [D.pure] at h
  | 0, .lst l, _, h, _ => by simp [D.pure] at h
  | n, .lsr l, _, h, _ => by cases n <;> simp [D.pure] at h
  | n, .loc l, _, h, _ => by cases n <;> simp [D.pure] at h
  | n, .ty l, _, h, _ => by cases n <;> simp [D.pure] at h
theorem D.dps {K : PySem.W.Frag} {F H : Hp} (s : Same F H) : ∀ (n : Nat) {ds : List D} {vs : List V}, D.pures n ds = true → Reps K F vs ds → DpAll K H vs (D.pds ds)
  | n, [], _, _, .nil => .nil
  | n, d :: ds, _, h, .cons g1 g2 => by
    have h' : d.pure n = true ∧ D.pures n ds = true := by simpa [D.pures] using h
    exact .cons (D.dp s n h'.1 g1) (D.dps s n h'.2 g2)
end
mutual
theorem D.lay : ∀ (n : Nat) (d : D), d.pure n = true → d.pd.canLay0 = true ∧ d.pd.depth ≤ n
  | n, .non, _ => ⟨rfl, by simp [D.pd, PyData.depth]⟩
  | n, .bl b, _ => ⟨rfl, by simp [D.pd, PyData.depth]⟩
  | n, .int i, _ => ⟨rfl, by simp [D.pd, PyData.depth]⟩
  | n, .str x, h => ⟨by cases n <;> simpa [D.pure, D.pd, PyData.canLay0] using h, by simp [D.pd, PyData.depth]⟩
  | n + 1, .tup l, h => by
    have h' : D.pures n l = true := by simpa [D.pure] using h
    obtain ⟨h1, h2⟩ := D.lays n l h'
    exact ⟨by simpa [D.pd, PyData.canLay0] using h1, by simp only [D.pd, PyData.depth]; omega⟩
  | n + 1, .lst l, h => by
    have h' : D.pures n l = true := by simpa [D.pure] using h
    obtain ⟨h1, h2⟩ := D.lays n l h'
    exact ⟨by simpa [D.pd, PyData.canLay0] using h1, by simp only [D.pd, PyData.depth]; omega⟩
  | 0, .tup l, h => by simp [D.pure] at h
  | 0, .lst l, h => by simp [D.pure] at h
  | n, .lsr l, h => by cases n <;> simp [D.pure] at h
  | n, .loc l, h => by cases n <;> simp [D.pure] at h
  | n, .ty l, h => by cases n <;> simp [D.pure] at h
theorem D.lays : ∀ (n : Nat) (ds : List D), D.pures n ds = true → PyData.canLayAll0 (D.pds ds) = true ∧ PyData.depthAll (D.pds ds) ≤ n
  | n, [], _ => ⟨rfl, by simp [D.pds, PyData.depthAll]⟩
  | n, d :: ds, h => by
    have h' : d.pure n = true ∧ D.pures n ds = true := by simpa [D.pures] using h
    obtain ⟨h1, h2⟩ := D.lay n d h'.1
    obtain ⟨h3, h4⟩ := D.lays n ds h'.2
    exact ⟨by simp [D.pds, PyData.canLayAll0, h1, h3], by simp only [D.pds, PyData.depthAll]; omega⟩
end
theorem D.shaped {d : D} {n : Nat} (h : d.pure n = true) (hn : n ≤ 64) : SeqAt.shaped d.pd = true := by
  obtain ⟨h1, h2⟩ := D.lay n d h
  unfold SeqAt.shaped
  rw [h1, Bool.true_and]
  exact decide_eq_true (by omega)
theorem Gam.ok.u64 {X : Cx} (hX : Γ.ok X) : X.A.units + 64 < cLine := by have := hX.un; omega
theorem wo_eqD {d e : D} {n : Nat} (h1 : d.pure n = true) (h2 : e.pure n = true) (hn : n ≤ 64 := by decide) (q : Q (.bl (PyData.eqv d.pd e.pd)) μ) : WO Γ (compareOp .Eq) d e μ Q := fun v u F H p1 p2 r =>
  semO.mk (r := rEqD Γ.K) (fun X hX => hX.K ▸ op_eqD hX.u64) ⟨d.pd, e.pd, D.dp r.same n h1 p1, D.dp r.same n h2 p2, D.shaped h1 hn, D.shaped h2 hn, .now r (.bl _) q⟩
theorem wo_neD {d e : D} {n : Nat} (h1 : d.pure n = true) (h2 : e.pure n = true) (hn : n ≤ 64 := by decide) (q : Q (.bl (!PyData.eqv d.pd e.pd)) μ) : WO Γ (compareOp .NotEq) d e μ Q := fun v u F H p1 p2 r =>
  semO.mk (r := rNeD Γ.K) (fun X hX => hX.K ▸ op_neD hX.u64) ⟨d.pd, e.pd, D.dp r.same n h1 p1, D.dp r.same n h2 p2, D.shaped h1 hn, D.shaped h2 hn, .now r (.bl _) q⟩
mutual
theorem eqv_refl : ∀ (n : Nat) (d : D), d.pure n = true → PyData.eqv d.pd d.pd = true
  | n, .non, _ => by simp [D.pd, PyData.eqv]
  | n, .bl b, _ => by simp [D.pd, PyData.eqv]
  | n, .int i, _ => by simp [D.pd, PyData.eqv]
  | n, .str x, h => by simp [D.pd, PyData.eqv]
  | n + 1, .tup l, h => by
    have h' : D.pures n l = true := by simpa [D.pure] using h
    simp only [D.pd, PyData.eqv]; exact eqv_refls n l h'
  | n + 1, .lst l, h => by
    have h' : D.pures n l = true := by simpa [D.pure] using h
    simp only [D.pd, PyData.eqv]; exact eqv_refls n l h'
  | 0, .tup l, h => by simp [D.pure] at h
  | 0, .lst l, h => by simp [D.pure] at h
  | n, .lsr l, h => by cases n <;> simp [D.pure] at h
  | n, .loc l, h => by cases n <;> simp [D.pure] at h
  | n, .ty l, h => by cases n <;> simp [D.pure] at h
theorem eqv_refls : ∀ (n : Nat) (ds : List D), D.pures n ds = true → PyData.eqvAll (D.pds ds) (D.pds ds) = true
  | n, [], _ => by simp [D.pds, PyData.eqvAll]
  | n, d :: ds, h => by
    have h' : d.pure n = true ∧ D.pures n ds = true := by simpa [D.pures] using h
    simp [D.pds, PyData.eqvAll, eqv_refl n d h'.1, eqv_refls n ds h'.2]
end

/-! ### stores to lists -/
/-- xs[i] = v -/
theorem ws_putL {pos' : Pos} {i : Expr} (hs : ∀ env, swapsWithSole [Expr.Subscript o i pos'] e pos.line env = pure false := by intro _; rfl) (hw : ∀ env, swappedStores [Expr.Subscript o i pos'] e env = pure none := by intro _; rfl)
    (h1 : ∀ env, (assignEach [Expr.Subscript o i pos'] env).map (·.2) = [assign (Expr.Subscript o i pos') env] := by intro _; rfl)
    (ha : ∀ env v, assign (.Subscript o i pos') env v = (do
      let ov ← holding [v] (eval o env)
      let iv ← holding [v, ov] (eval i env)
      standAt pos'
      holding [v, ov, iv] (setItem ov iv v)
      release [v, ov, iv] []) := by intros; rfl)
    (h : WE Γ e ρ μ fun d μ1 => WE Γ o ρ μ1 fun od μ2 => WE Γ i ρ μ2 fun id μ3 => ∃ a ds k j, od = .loc a ∧ id = .int k ∧ μ3 a = some (.lst ds) ∧ ixN ds.length k = some j ∧ D'.nx ρ (μ3.upd a (.lst (ds.set j d)))) : WS Γ (.Assign [.Subscript o i pos'] e pos) ρ μ D' := fun σ F H s r =>
  semS.mk (t := tAsg (semE Γ e) (gSub (semE Γ o) (semE Γ i) rSetL)) (fun X hX => ps_asg (pe_sem hX e) (pg_sub (pe_sem hX o) (pe_sem hX i) set_list (ha _)) (hs _) (hw _) (h1 _)) (h.go s r fun v F1 H1 d μ1 r1 e1 s1 p1 h1 => h1.go s1 r1 fun ov F2 H2 od μ2 r2 e2 s2 p2 h2 => h2.go s2 r2 fun iv F3 H3 id μ3 r3 e3 s3 p3 h3 => by
    obtain ⟨a, ds, k, j, rfl, rfl, m, hj, q⟩ := h3
    cases p2; cases p3
    obtain ⟨xs, hH, g⟩ := r3.lstAt m
    obtain ⟨r4, e4⟩ := r3.put m (.lst (g.set ((p1.mono e2.fr).mono e3.fr) j))
    exact ⟨a, xs, k, j, rfl, rfl, hH, by rw [g.length]; exact hj, F3, ρ, _, s3, r4, ((e1.trans e2).trans e3).trans e4, q⟩)
theorem pget_list {X : Cx} : PGet X (fun o i H Q => ∃ p xs k v, o = .ref p ∧ i = .int k ∧ H p = some (.lst xs) ∧ 0 ≤ k ∧ xs[k.toNat]? = some v ∧ Q v H) := by
  intro pins s σ H o i ov iv Q I ro ri h
  obtain ⟨p, xs, k, v, rfl, rfl, hp, h0, hv, q⟩ := h
  cases ro
  obtain ⟨t, rfl⟩ := ri
  obtain ⟨its, r, pl, hz⟩ := I.list (SqL.of (K := X.K) hp)
  obtain ⟨u, hu, ru⟩ := r.get hv
  have hlt := (List.getElem?_eq_some_iff.mp hv).1
  have hn := line63
  exact wpAny_getItem_list pl.isList h0 (by omega) (by simpa using hu) ⟨v, H, I, ru, q⟩
/-- xs[i] += n, ints -/
theorem ws_augL {i : Expr} {tpos : Pos} {op : Operator} {f : Int → Int → Int} (ho : ∀ X : Cx, PIp X op (ipI f)) (ha : ∀ ov iv new, augStore i ov iv new = (do holding [new, ov, iv] (setItem ov iv new); release [new, ov, iv] []; pure .next) := by intros; rfl)
    (h : WE Γ o ρ μ fun od μ1 => WE Γ i ρ μ1 fun id μ2 => ∃ a ds k m, od = .loc a ∧ id = .int k ∧ μ2 a = some (.lst ds) ∧ 0 ≤ k ∧ ds[k.toNat]? = some (.int m) ∧
      WE Γ e ρ μ2 fun d μ3 => ∃ n ds, d = .int n ∧ μ3 a = some (.lst ds) ∧ k < ds.length ∧ D'.nx ρ (μ3.upd a (.lst (ds.set k.toNat (.int (f m n)))))) : WS Γ (.AugAssign (.Subscript o i tpos) op e pos) ρ μ D' := fun σ F H s r =>
  semS.mk (fun X hX => ps_augS (pe_sem hX o) (pe_sem hX i) pget_list (pe_sem hX e) (ho X) set_list ha) (h.go s r fun ov F1 H1 od μ1 r1 e1 s1 p1 h1 => h1.go s1 r1 fun iv F2 H2 id μ2 r2 e2 s2 p2 h2 => by
    obtain ⟨a, ds, k, m, rfl, rfl, hm, h0, hk, h2⟩ := h2
    cases p1; cases p2
    obtain ⟨xs, hH, g⟩ := r2.lstAt hm
    obtain ⟨w, hw, gw⟩ := g.get hk
    cases gw
    refine ⟨a, xs, k, .int m, rfl, rfl, hH, h0, hw, h2.go s2 r2 fun v F3 H3 d μ3 r3 e3 s3 p3 h3 => ?_⟩
    obtain ⟨n, ds', rfl, hm', hlt, q⟩ := h3
    cases p3
    obtain ⟨xs', hH', g'⟩ := r3.lstAt hm'
    obtain ⟨r4, e4⟩ := r3.put hm' (.lst (g'.set (.int (f m n)) k.toNat))
    refine ⟨m, n, rfl, rfl, a, xs', k, k.toNat, rfl, rfl, hH', ?_, F3, ρ, _, s3, r4, ((e1.trans e2).trans e3).trans e4, q⟩
    unfold ixN
    rw [if_pos h0, g'.length, if_pos hlt])
end
end DL
namespace DL
open PySem L2
theorem bt_int : bootBuiltins "int" = some (.type "int") := by decide +kernel
theorem bt_list : bootBuiltins "list" = some (.type "list") := by decide +kernel
theorem bt_tuple : bootBuiltins "tuple" = some (.type "tuple") := by decide +kernel
theorem bt_bool : bootBuiltins "bool" = some (.type "bool") := by decide +kernel
theorem bt_set : bootBuiltins "set" = some (.type "set") := by decide +kernel
theorem bt_len : bootBuiltins "len" = some (.builtin "len") := by decide +kernel
theorem bt_abs : bootBuiltins "abs" = some (.builtin "abs") := by decide +kernel
theorem bt_min : bootBuiltins "min" = some (.builtin "min") := by decide +kernel
theorem bt_max : bootBuiltins "max" = some (.builtin "max") := by decide +kernel
theorem bt_sum : bootBuiltins "sum" = some (.builtin "sum") := by decide +kernel
theorem bt_all : bootBuiltins "all" = some (.builtin "all") := by decide +kernel
theorem bt_any : bootBuiltins "any" = some (.builtin "any") := by decide +kernel
theorem bt_sorted : bootBuiltins "sorted" = some (.builtin "sorted") := by decide +kernel
theorem bt_isinstance : bootBuiltins "isinstance" = some (.builtin "isinstance") := by decide +kernel
theorem sz1000 {n : Nat} (h : n ≤ 1000) : n ≤ sizeLine := Nat.le_of_lt (small1000 h)
theorem szb {n : Nat} (h : Nat.ble n 1000 = true) : n ≤ sizeLine := sz1000 (Nat.le_of_ble_eq_true h)
theorem szM {n : Nat} (h : n ≤ 16000000) : n ≤ sizeLine := by rw [sizeLine_eq]; omega

section
variable {Γ : Gam} {ρ : Rho} {μ : Mem} {Q : D → Mem → Prop} {a b c e elt tg iter o i : Expr} {es ifs : List Expr} {pos p tpos apos cpos : Pos} {x : Str} {R : List D → Mem → Prop} {D' : DEnds} {body sts : List Stmt} {scope : Scope}
/-- what is known of a slot may be forgotten -/
theorem wss_forget (i : Nat) (h : WSs Γ sts (ρ.set i none) μ D') : WSs Γ sts ρ μ D' := fun σ F H s r => h σ F H (by
  refine ⟨by rw [List.length_set]; exact s.len, fun j d q => ?_⟩
  by_cases hj : i = j
  · subst hj
    by_cases hl : i < ρ.length
    · rw [List.getElem?_set_self hl] at q; cases q
    · rw [List.getElem?_eq_none (by rw [List.length_set]; omega)] at q; cases q
  · rw [List.getElem?_set_ne hj] at q
    exact s.at_ j d q) r
/-- y = [..], y a cell -/
theorem sw_cell {elt : Expr} {gs : List Comprehension} {scope : Scope} {pos py : Pos} {y : Str} {l : Nat} {env : Env} (hy : env.scope.names.lookup y = some .cell) : swapsWith (.ListComp elt gs scope pos) (some (.Name y py)) l env = pure false := by
  have ky : env.kindOf y = some .cell := hy
  unfold swapsWith
  simp only [ky]
  show (pure _ : Sem Bool) = _
  congr 1
  have : ((some NameKind.cell == some NameKind.local) : Bool) = false := rfl
  rw [this]
  simp
theorem ws_setC (i : Nat) {py spos : Pos} {gs : List Comprehension} (hN : Γ.N[i]? = some x := by rfl) (hl : Γ.sc.names.lookup x = some .cell := by rfl) (hf : Γ.fn x = true := by rfl)
    (h : WE Γ (.ListComp elt gs scope pos) ρ μ fun d μ1 => D'.nx (ρ.set i (some d)) μ1) : WS Γ (.Assign [.Name x py] (.ListComp elt gs scope pos) spos) ρ μ D' := fun σ F H s r =>
  semS.mk (t := tAsg (semE Γ (.ListComp elt gs scope pos)) (gName i)) (fun X hX => ps_set hX.nd (hX.nm hN) (hX.loc (.inr hl)) (pe_sem hX _) (sw_cell (by rw [hX.sc]; exact hl)) (hX.st2 ⟨.inr hl, .inl hf⟩)) (h.go s r fun v F1 H1 d μ1 r1 e1 s1 p1 q1 => ⟨F1, _, μ1, s1.set i p1, r1, e1, q1⟩)

/-- a comprehension that makes data of data -/
theorem LcHyp.fm {α : Type} {vs : List Nat} {P : List D → Mem → Prop} (xs : List α) (enc : α → D) (t : α → Bool) (g : α → D) (ix : List Nat) (hix : ∀ j ∈ ix, j ∈ vs) (hsz : xs.length ≤ sizeLine)
    (step : ∀ (x : α) (i : Nat), xs[i]? = some x → WGi (Γ.blk scope) ix tg (enc x) (wipeD ρ vs) μ fun ρ2 μ2 => WTs (Γ.blk scope) ifs ρ2 μ2 fun b μ3 => b = t x ∧ μ3 = μ ∧ (t x = true → WE (Γ.blk scope) elt ρ2 μ fun y μ4 => y = g x ∧ μ4 = μ))
    (done : P ((xs.filter t).map g) μ) : LcHyp Γ ρ tg elt ifs scope vs P (xs.map enc) μ := by
  refine ⟨by rw [List.length_map]; exact hsz, ix, fun i acc μ' => μ' = μ ∧ acc = ((xs.take i).filter t).map g, hix, ⟨rfl, by simp⟩, ?_, ?_⟩
  · rintro i d acc μ' hd ⟨rfl, rfl⟩
    rw [List.getElem?_map] at hd
    cases hx : xs[i]? with
    | none => rw [hx] at hd; cases hd
    | some x =>
      rw [hx] at hd
      cases (Option.some.inj hd)
      intro v σ F H p s r
      refine (fun z => ?_) (step x i hx v σ F H p s r)
      obtain ⟨tt, Q0, h1, h2, h3⟩ := z
      refine ⟨tt, Q0, h1, h2, fun σ' H' q => ?_⟩
      obtain ⟨g1, F1, ρ1, μ1, s1, r1, e1, q1⟩ := h3 σ' H' q
      refine ⟨g1, F1, ρ1, μ1, s1, r1, e1, fun σ F H s r => ?_⟩
      obtain ⟨tt, Q0, h1, h2, h3⟩ := q1 σ F H s r
      refine ⟨tt, Q0, h1, h2, fun b H' q => ?_⟩
      obtain ⟨F2, μ2, r2, e2, rfl, rfl, q2⟩ := h3 b H' q
      refine ⟨F2, _, r2, e2, fun hb σ F H s r => ?_, fun hb => ⟨rfl, ?_⟩⟩
      · obtain ⟨tt, Q0, h1, h2, h3⟩ := q2 hb σ F H s r
        refine ⟨tt, Q0, h1, h2, fun v H' q => ?_⟩
        obtain ⟨F3, d, μ3, r3, e3, p3, rfl, rfl⟩ := h3 v H' q
        refine ⟨F3, _, _, r3, e3, p3, rfl, ?_⟩
        rw [List.take_add_one, hx]
        simp [hb]
      · rw [List.take_add_one, hx]
        simp [hb]
  · rintro acc μ' ⟨rfl, rfl⟩
    rw [List.length_map, List.take_length]
    exact done
theorem filter_true {α : Type} (xs : List α) : xs.filter (fun _ => true) = xs := by simp
theorem LcHyp.mp {α : Type} {vs : List Nat} {P : List D → Mem → Prop} (xs : List α) (enc : α → D) (g : α → D) (ix : List Nat) (hix : ∀ j ∈ ix, j ∈ vs) (hsz : xs.length ≤ sizeLine)
    (step : ∀ (x : α) (i : Nat), xs[i]? = some x → WGi (Γ.blk scope) ix tg (enc x) (wipeD ρ vs) μ fun ρ2 μ2 => WTs (Γ.blk scope) ifs ρ2 μ2 fun b μ3 => b = true ∧ μ3 = μ ∧ WE (Γ.blk scope) elt ρ2 μ fun y μ4 => y = g x ∧ μ4 = μ)
    (done : P (xs.map g) μ) : LcHyp Γ ρ tg elt ifs scope vs P (xs.map enc) μ := by
  refine LcHyp.fm xs enc (fun _ => true) g ix hix hsz (fun x i hx => ?_) (by rw [filter_true]; exact done)
  intro v σ F H p s r
  obtain ⟨tt, Q0, h1, h2, h3⟩ := step x i hx v σ F H p s r
  refine ⟨tt, Q0, h1, h2, fun σ' H' q => ?_⟩
  obtain ⟨g1, F1, ρ1, μ1, s1, r1, e1, q1⟩ := h3 σ' H' q
  refine ⟨g1, F1, ρ1, μ1, s1, r1, e1, fun σ F H s r => ?_⟩
  obtain ⟨tt, Q0, h1, h2, h3⟩ := q1 σ F H s r
  refine ⟨tt, Q0, h1, h2, fun b H' q => ?_⟩
  obtain ⟨F2, μ2, r2, e2, rfl, rfl, q2⟩ := h3 b H' q
  exact ⟨F2, _, r2, e2, rfl, rfl, fun _ => q2⟩

/-! ### dicts -/
def getA {α : Type} (kvs : List (Key × α)) (k : Key) : Option α := (kvs.find? fun kv => decide (kv.1 = k)).map (·.2)
def putA {α : Type} (kvs : List (Key × α)) (k : Key) (v : α) : List (Key × α) :=
  if (kvs.any fun kv => decide (kv.1 = k)) = true then kvs.map (fun kv => if kv.1 = k then (kv.1, v) else kv) else kvs ++ [(k, v)]
def dropA {α : Type} (kvs : List (Key × α)) (k : Key) : List (Key × α) := kvs.filter fun kv => decide (kv.1 ≠ k)
section
variable {K : PySem.W.Frag} {F : Hp}
theorem KReps.length : ∀ {a : List (Key × V)} {b : List (Key × D)}, KReps K F a b → a.length = b.length
  | _, _, .nil => rfl
  | _, _, .cons _ t => congrArg (· + 1) (KReps.length t)
theorem KReps.keys : ∀ {a : List (Key × V)} {b : List (Key × D)}, KReps K F a b → a.map (·.1) = b.map (·.1)
  | _, _, .nil => rfl
  | _, _, .cons _ t => by simp [KReps.keys t]
theorem KReps.none : ∀ {a : List (Key × V)} {b : List (Key × D)} {k : Key}, KReps K F a b → getA b k = none → valV a k = none
  | _, _, _, .nil, _ => rfl
  | _, _, k, .cons (k := k') r t, h => by
    unfold getA at h
    unfold valV
    rw [List.find?_cons] at h ⊢
    by_cases e : k' = k
    · simp [e] at h
    · simp only [e, decide_false] at h ⊢
      exact KReps.none t h
theorem KReps.some : ∀ {a : List (Key × V)} {b : List (Key × D)} {k : Key} {d : D}, KReps K F a b → getA b k = some d → ∃ v, valV a k = some v ∧ Rep K F v d
  | _, _, _, _, .nil, h => by cases h
  | _, _, k, d, .cons (k := k') r t, h => by
    unfold getA at h
    unfold valV
    rw [List.find?_cons] at h ⊢
    by_cases e : k' = k
    · simp only [e, decide_true, Option.map_some, Option.some.injEq] at h ⊢
      subst h
      exact ⟨_, rfl, r⟩
    · simp only [e, decide_false] at h ⊢
      exact KReps.some t h
theorem KReps.any {a : List (Key × V)} {b : List (Key × D)} {k : Key} (h : KReps K F a b) : (a.any fun kv => decide (kv.1 = k)) = b.any fun kv => decide (kv.1 = k) := by
  have e1 : (a.any fun kv => decide (kv.1 = k)) = (a.map (·.1)).any fun y => decide (y = k) := by rw [List.any_map]; rfl
  have e2 : (b.any fun kv => decide (kv.1 = k)) = (b.map (·.1)).any fun y => decide (y = k) := by rw [List.any_map]; rfl
  rw [e1, e2, h.keys]
theorem KReps.app : ∀ {a a' : List (Key × V)} {b b' : List (Key × D)}, KReps K F a b → KReps K F a' b' → KReps K F (a ++ a') (b ++ b')
  | _, _, _, _, .nil, s => s
  | _, _, _, _, .cons r t, s => .cons r (KReps.app t s)
theorem KReps.put {a : List (Key × V)} {b : List (Key × D)} {k : Key} {v : V} {d : D} (h : KReps K F a b) (r : Rep K F v d) : KReps K F (putK a k v) (putA b k d) := by
  unfold putK putA
  rw [h.any]
  split
  · rename_i hz
    clear hz
    induction h with
    | nil => exact .nil
    | @cons k' v' d' _ _ r' t ih =>
      rw [List.map_cons, List.map_cons]
      by_cases e : k' = k
      · simp only [e, if_true]; exact .cons r ih
      · simp only [e, if_false]; exact .cons r' ih
  · exact h.app (.cons r .nil)
theorem KReps.drop {a : List (Key × V)} {b : List (Key × D)} {k : Key} (h : KReps K F a b) : KReps K F (dropK a k) (dropA b k) := by
  unfold dropK dropA
  induction h with
  | nil => exact .nil
  | @cons k' v' d' _ _ r' t ih =>
    rw [List.filter_cons, List.filter_cons]
    by_cases e : k' = k
    · simp only [e, ne_eq, not_true, decide_false, if_false]; exact ih
    · simp only [e, ne_eq, not_false_iff, decide_true, if_true]; exact .cons r' ih
end
def keyD : Key → D
  | .inl i => .int i
  | .inr x => .str x
theorem rep_key {K : PySem.W.Frag} {F : Hp} {v : V} {k : Key} (h : Rep K F v (keyD k)) : v = kV k := by
  cases k <;> (cases h; rfl)
theorem Gam.ok.u1 {X : Cx} (hX : Γ.ok X) : X.A.units + 1 < cLine := by have := hX.un; omega
/-- d[k], there -/
theorem we_dget (hs : NoSl i := by exact fun _ _ => rfl) (h : WE Γ o ρ μ fun od μ1 => WE Γ i ρ μ1 fun kd μ2 => ∃ a kvs k d, od = .loc a ∧ kd = keyD k ∧ μ2 a = some (.dct kvs) ∧ getA kvs k = some d ∧ Q d μ2) : WE Γ (.Subscript o i pos) ρ μ Q := fun σ F H s r =>
  semE.mk (fun X hX => pe_dget hX.u1 (pe_sem hX o) (pe_sem hX i) hs) (h.go s r fun ov F1 H1 od μ1 r1 e1 s1 p1 h1 => h1.go s1 r1 fun iv F2 H2 kd μ2 r2 e2 s2 p2 h2 => by
    obtain ⟨a, kvs, k, d, rfl, rfl, m, g, q⟩ := h2
    cases p1
    obtain rfl := rep_key p2
    obtain ⟨ks, hH, kr⟩ := r2.dctAt m
    obtain ⟨v, hv, rv⟩ := kr.some g
    exact ⟨a, v, rfl, hv ▸ DGet.k hH, .ext (e1.trans e2) (.now r2 rv q)⟩)
/-- k in d, k not in d -/
theorem we_din (h : WE Γ i ρ μ fun kd μ1 => WE Γ o ρ μ1 fun od μ2 => ∃ a kvs k, od = .loc a ∧ kd = keyD k ∧ μ2 a = some (.dct kvs) ∧ Q (.bl (getA kvs k).isSome) μ2) (hm : behindInMarks .In o = false := by rfl) : WE Γ (.Compare i [.In] [o] pos) ρ μ Q := fun σ F H s r =>
  semE.mk (fun X hX => pe_cmp (pc_din hX.u1 (pe_sem hX i) (pe_sem hX o)) hm) (h.go s r fun iv F1 H1 kd μ1 r1 e1 s1 p1 h1 => h1.go s1 r1 fun ov F2 H2 od μ2 r2 e2 s2 p2 h2 => by
    obtain ⟨a, kvs, k, rfl, rfl, m, q⟩ := h2
    cases p2
    obtain rfl := rep_key p1
    obtain ⟨ks, hH, kr⟩ := r2.dctAt m
    refine ⟨a, valV ks k, rfl, DGet.k hH, ?_⟩
    have e : (valV ks k).isSome = (getA kvs k).isSome := by
      cases z : getA kvs k with
      | none => rw [kr.none z]; rfl
      | some d => obtain ⟨v, hv, _⟩ := kr.some z; rw [hv]; rfl
    rw [e]
    exact .ext (e1.trans e2) (.now r2 (.bl _) q))
theorem wt_din {T : Bool → Mem → Prop} (h : WE Γ i ρ μ fun kd μ1 => WE Γ o ρ μ1 fun od μ2 => ∃ a kvs k, od = .loc a ∧ kd = keyD k ∧ μ2 a = some (.dct kvs) ∧ T (getA kvs k).isSome μ2) (hm : behindInMarks .In o = false := by rfl) : WT Γ (.Compare i [.In] [o] pos) ρ μ T := fun σ F H s r =>
  semT.mk (fun X hX => pt_cmp (pc_din hX.u1 (pe_sem hX i) (pe_sem hX o)) hm) (h.go s r fun iv F1 H1 kd μ1 r1 e1 s1 p1 h1 => h1.go s1 r1 fun ov F2 H2 od μ2 r2 e2 s2 p2 h2 => by
    obtain ⟨a, kvs, k, rfl, rfl, m, q⟩ := h2
    cases p2
    obtain rfl := rep_key p1
    obtain ⟨ks, hH, kr⟩ := r2.dctAt m
    refine ⟨a, valV ks k, rfl, DGet.k hH, ?_⟩
    have e : (valV ks k).isSome = (getA kvs k).isSome := by
      cases z : getA kvs k with
      | none => rw [kr.none z]; rfl
      | some d => obtain ⟨v, hv, _⟩ := kr.some z; rw [hv]; rfl
    rw [e]
    exact ⟨_, rfl, F2, μ2, r2, e1.trans e2, q⟩)
theorem wt_dnotin {T : Bool → Mem → Prop} (h : WE Γ i ρ μ fun kd μ1 => WE Γ o ρ μ1 fun od μ2 => ∃ a kvs k, od = .loc a ∧ kd = keyD k ∧ μ2 a = some (.dct kvs) ∧ T (!(getA kvs k).isSome) μ2) (hm : behindInMarks .NotIn o = false := by rfl) : WT Γ (.Compare i [.NotIn] [o] pos) ρ μ T := fun σ F H s r =>
  semT.mk (fun X hX => pt_cmp (pc_dnotin hX.u1 (pe_sem hX i) (pe_sem hX o)) hm) (h.go s r fun iv F1 H1 kd μ1 r1 e1 s1 p1 h1 => h1.go s1 r1 fun ov F2 H2 od μ2 r2 e2 s2 p2 h2 => by
    obtain ⟨a, kvs, k, rfl, rfl, m, q⟩ := h2
    cases p2
    obtain rfl := rep_key p1
    obtain ⟨ks, hH, kr⟩ := r2.dctAt m
    refine ⟨a, valV ks k, rfl, DGet.k hH, ?_⟩
    have e : (valV ks k).isSome = (getA kvs k).isSome := by
      cases z : getA kvs k with
      | none => rw [kr.none z]; rfl
      | some d => obtain ⟨v, hv, _⟩ := kr.some z; rw [hv]; rfl
    rw [e]
    exact ⟨_, rfl, F2, μ2, r2, e1.trans e2, q⟩)
/-- d[k] = v -/
theorem ws_dput {pos' : Pos} (hs : ∀ env, swapsWith e (some (.Subscript o i pos')) pos.line env = pure false := by intro _; rfl)
    (h : WE Γ e ρ μ fun d μ1 => WE Γ o ρ μ1 fun od μ2 => WE Γ i ρ μ2 fun kd μ3 => ∃ a kvs k, od = .loc a ∧ kd = keyD k ∧ μ3 a = some (.dct kvs) ∧ kvs.length < sizeLine ∧ D'.nx ρ (μ3.upd a (.dct (putA kvs k d)))) : WS Γ (.Assign [.Subscript o i pos'] e pos) ρ μ D' := fun σ F H s r =>
  semS.mk (fun X hX => ps_dput hX.u1 (pe_sem hX o) (pe_sem hX i) (pe_sem hX e) (hs _)) (h.go s r fun v F1 H1 d μ1 r1 e1 s1 p1 h1 => h1.go s1 r1 fun ov F2 H2 od μ2 r2 e2 s2 p2 h2 => h2.go s2 r2 fun iv F3 H3 kd μ3 r3 e3 s3 p3 h3 => by
    obtain ⟨a, kvs, k, rfl, rfl, m, hl, q⟩ := h3
    cases p2
    obtain rfl := rep_key p3
    obtain ⟨ks, hH, kr⟩ := r3.dctAt m
    obtain ⟨r4, e4⟩ := r3.put m (.dct (kr.put (k := k) ((p1.mono e2.fr).mono e3.fr)))
    exact ⟨a, _, rfl, DPut.k hH (by rw [kr.length]; exact hl), F3, ρ, _, s3, r4, ((e1.trans e2).trans e3).trans e4, q⟩)
/-- del d[k] -/
theorem ws_ddel (h : WE Γ o ρ μ fun od μ2 => WE Γ i ρ μ2 fun kd μ3 => ∃ a kvs k, od = .loc a ∧ kd = keyD k ∧ μ3 a = some (.dct kvs) ∧ (getA kvs k).isSome = true ∧ D'.nx ρ (μ3.upd a (.dct (dropA kvs k)))) : WS Γ (.Delete [.Subscript o i tpos] pos) ρ μ D' := fun σ F H s r =>
  semS.mk (fun X hX => ps_ddel (pe_sem hX o) (pe_sem hX i)) (h.go s r fun ov F2 H2 od μ2 r2 e2 s2 p2 h2 => h2.go s2 r2 fun iv F3 H3 kd μ3 r3 e3 s3 p3 h3 => by
    obtain ⟨a, kvs, k, rfl, rfl, m, hg, q⟩ := h3
    cases p2
    obtain rfl := rep_key p3
    obtain ⟨ks, hH, kr⟩ := r3.dctAt m
    obtain ⟨r4, e4⟩ := r3.put m (.dct (kr.drop (k := k)))
    refine ⟨a, ks, k, rfl, hH, rfl, ?_, F3, ρ, _, s3, r4, (e2.trans e3).trans e4, q⟩
    cases z : getA kvs k with
    | none => rw [z] at hg; cases hg
    | some d => obtain ⟨v, hv, _⟩ := kr.some z; rw [hv]; rfl)
/-- d.get(k, x) -/
theorem we_dget2 (hb : ∀ env, attributeBase o "get" env (eval o env) = eval o env := by intro _; rfl)
    (hf : ∀ env, ((backTo cpos (starEach [a, b] env)).all (fun x => !x.1) && (backToKw cpos (keywordEach [] env)).all (fun x => x.1.isSome)
      && decide (([a, b] : List Expr).length + ([] : List Keyword).length + (if ([] : List Keyword).isEmpty then 0 else 1) < 30)) = true := by intro _; rfl)
    (hl : (apos.endLine == cpos.line) = true := by rfl) (ht : ∀ env, backTo cpos (starEach [a, b] env) = [(false, eval a env), (false, eval b env)] := by intro _; rfl)
    (h : WE Γ o ρ μ fun od μ1 => ∃ ad kvs0, od = .loc ad ∧ μ1 ad = some (.dct kvs0) ∧ WE Γ a ρ μ1 fun kd μ2 => WE Γ b ρ μ2 fun x μ3 => ∃ kvs k, kd = keyD k ∧ μ3 ad = some (.dct kvs) ∧ Q ((getA kvs k).getD x) μ3) : WE Γ (.Call (.Attribute o "get" apos) [a, b] [] cpos) ρ μ Q := fun σ F H s r =>
  semE.mk (fun X hX => pe_dget2 hX.u1 (pe_sem hX o) (pe_sem hX a) (pe_sem hX b) ⟨hb _, hf _, hl, ht _⟩) (h.go s r fun ov F1 H1 od μ1 r1 e1 s1 p1 h1 => by
    obtain ⟨ad, kvs0, rfl, m0, h1⟩ := h1
    cases p1
    obtain ⟨ks0, hH0, _⟩ := r1.dctAt m0
    refine ⟨ad, rfl, .inl ⟨_, .inl hH0⟩, h1.go s1 r1 fun iv F2 H2 kd μ2 r2 e2 s2 p2 h2 => h2.go s2 r2 fun xv F3 H3 x μ3 r3 e3 s3 p3 h3 => ?_⟩
    obtain ⟨kvs, k, rfl, m, q⟩ := h3
    obtain rfl := rep_key p2
    obtain ⟨ks, hH, kr⟩ := r3.dctAt m
    refine ⟨valV ks k, DGet.k hH, .ext ((e1.trans e2).trans e3) ?_⟩
    cases z : getA kvs k with
    | none => rw [kr.none z]; rw [z] at q; exact .now r3 p3 q
    | some d =>
      obtain ⟨v, hv, rv⟩ := kr.some z
      rw [hv]; rw [z] at q; exact .now r3 rv q)
end
/-- sorted(d), the keys ints -/
theorem wc_sortedD {Γ : Gam} [hc : Calm Γ] {μ : Mem} {Q : D → Mem → Prop} {a : Addr} {kvs : List (Key × D)} {ks : List Int} (m : μ a = some (.dct kvs)) (hk : kvs.map (·.1) = ks.map Sum.inl) (hl : ks.length < 64) (q : ∀ ms : List Int, ms.Perm ks → ms.Pairwise (· ≤ ·) → Q (.lst (ms.map D.int)) μ) : WC Γ (.builtin "sorted") [.loc a] μ Q := fun vs F H p r => by
  obtain rfl := reps_loc1 p
  obtain ⟨xs, hH, kr⟩ := r.dctAt m
  exact semC.mk (fun X hX => call_sortedDI (hX.calm hc.h)) ⟨a, xs, ks, rfl, .inl hH, by rw [kr.keys]; exact hk, hl, fun ms p h1 h2 hp => post_lst r (Reps.of_ints ms) (q ms h1 h2) p hp⟩
/-- list(d), the keys ints -/
theorem wc_listD {Γ : Gam} [hc : Calm Γ] {μ : Mem} {Q : D → Mem → Prop} {a : Addr} {kvs : List (Key × D)} (m : μ a = some (.dct kvs)) (q : Q (.lst (kvs.map fun kv => keyD kv.1)) μ) : WC Γ (.type "list") [.loc a] μ Q := fun vs F H p r => by
  obtain rfl := reps_loc1 p
  obtain ⟨xs, hH, kr⟩ := r.dctAt m
  refine semC.mk (fun X hX => call_listD (hX.calm hc.h)) ⟨a, xs, rfl, .inl hH, fun p hp => post_lst r ?_ q p hp⟩
  have : ∀ {a : List (Key × V)} {b : List (Key × D)}, KReps Γ.K F a b → Reps Γ.K F (a.map fun kv => kV kv.1) (b.map fun kv => keyD kv.1) := by
    intro a b h
    induction h with
    | nil => exact .nil
    | @cons k v d _ _ _ _ ih => exact .cons (by cases k <;> constructor) ih
  exact this kr
theorem wc_lenD {Γ : Gam} {μ : Mem} {Q : D → Mem → Prop} {a : Addr} {kvs : List (Key × D)} (m : μ a = some (.dct kvs)) (q : Q (.int kvs.length) μ) : WC Γ (.builtin "len") [.loc a] μ Q := fun vs F H p r => by
  obtain rfl := reps_loc1 p
  obtain ⟨xs, hH, kr⟩ := r.dctAt m
  refine semC.mk (fun X hX => call_lenD) ⟨a, xs, rfl, hH, ?_⟩
  rw [kr.length]
  exact .now r (.int _) q

/-! ### calls with a keyword; sorted(xs, reverse=True) -/
section
variable {Γ : Gam} {ρ : Rho} {μ : Mem} {Q : D → Mem → Prop} {a b c e : Expr} {pos p kpos : Pos}
theorem we_sortedRev {j : Nat} {kp : Pos} (hm : Γ.mg "sorted" = none) (hg : GlD Γ "sorted" := by rfl)
    (he : ∀ env, backTo pos (starEach [e] env) = (false, eval e env) :: backTo pos (starEach [] env) := by intro _; rfl) (he0 : ∀ env, starEach [e] env = (false, eval e env) :: starEach [] env := by intro _; rfl) (hpl : ∀ env, (backTo pos (starEach [e] env)).any (·.1) = false := by intro _; rfl)
    (h : WE Γ e ρ μ fun d μ1 => ∃ ns : List Int, LstD μ1 d (ns.map D.int) ∧ ∀ ms : List Int, ms.Perm ns → ms.Pairwise (· ≥ ·) → Q (.lst (ms.map D.int)) μ1) :
    WE Γ (.Call (.Name "sorted" p) [e] [⟨some "reverse", .Constant (.bool true) j kp, kpos⟩] pos) ρ μ Q := fun σ F H s r => by
  refine semE.mk (t := tCKw (rSortedKw Γ.K true [.bl true]) (tCons (semE Γ e) tNil) (tCons (tC (.bl true)) tNil)) (fun X hX => ?_) (h.go s r fun v F1 H1 d μ1 r1 e1 s1 p1 h1 => ?_)
  · have h0 : X.mg "sorted" = none := by rw [hX.mg]; exact hm
    have := pe_callBK (X := X) (p := p) (pos := pos) (kws := [⟨some "reverse", .Constant (.bool true) j kp, kpos⟩]) (ks := [Str.ofString "reverse"]) (cr_sortedRev (X := X) (b := true)) (hX.gl hg) h0 bt_sorted (pa_cons (pe_sem hX e) pa_nil (he0 _)) (pk_cons pe_bl pk_nil) (by decide) (by decide) (he _) (hpl _)
    rw [hX.K] at this; exact this
  · obtain ⟨ns, hd, q⟩ := h1
    obtain ⟨ad, xs, rfl, hH, g⟩ := lst_at hd r1 p1
    obtain rfl := Reps.ints ns g
    exact ⟨ad, ns, rfl, rfl, SqL.of hH, fun ms p h1 h2 hp => Post.ext e1 (post_lst r1 (Reps.of_ints ms) (q ms h1 (by simpa [OrdB] using h2)) p hp)⟩
end
end DL
namespace DLT
open PySem PySem.Spec PyProof.Rows HT
section
variable {prog : Program} {w : World} {A : Around} {E : Value → Shared → Prop} {s : Shared}
theorem places_rev (n : Nat) : Builtin.Slice.slicePlaces ((n : Int) - 1) (-1) (-1) = n := by
  unfold Builtin.Slice.slicePlaces
  have h1 : ¬ ((-1 : Int) > 0) := by omega
  have h2 : (-(-1) : Int) = 1 := by omega
  simp only [h1, if_false, h2, Int.ediv_one]
  split <;> omega
theorem sliceApplied_rev {sl : Addr} {vs : Value} {n : Nat} {Q : Int × Int × Nat → Shared → Prop} (hs : s.heap.IsSliceOf sl .none .none vs) (ps : IsPart vs (some (-1)))
    (h : Q ((n : Int) - 1, -1, n) s) : wpAny (model prog w) A (Builtin.Slice.sliceApplied (.ref sl) (pure (n : Int))) Q E s := by
  obtain ⟨os, hos, hcs, hds⟩ := id hs
  unfold Builtin.Slice.sliceApplied Builtin.Slice.sliceFields
  refine wpAny_bind (wpAny_bind (wpAny_field hos hds (x := .none) rfl (wpAny_bind (wpAny_field hos hds (x := .none) rfl (wpAny_bind (wpAny_field hos hds (x := vs) rfl (wpAny_pure ?_)))))))
  refine wpAny_bind (slicePart_ ps ?_)
  show wpAny _ _ (if ((-1 : Int) == 0) = true then _ else _) _ _ s
  rw [if_neg (by decide)]
  refine wpAny_bind (slicePart_none (wpAny_bind (slicePart_none (wpAny_bind (wpAny_pure ?_)))))
  show wpAny _ _ (pure ((n : Int) - 1, (-1 : Int), Builtin.Slice.slicePlaces ((n : Int) - 1) (-1) (-1))) _ _ s
  rw [places_rev]
  exact wpAny_pure h
theorem fm_congr {α β : Type} {f g : α → Option β} : ∀ (l : List α), (∀ m ∈ l, f m = g m) → l.filterMap f = l.filterMap g
  | [], _ => rfl
  | a :: l, h => by
    rw [List.filterMap_cons, List.filterMap_cons, h a (by simp), fm_congr l fun m hm => h m (by simp [hm])]
theorem pick_rev (xs : Array Value) : ((List.range xs.size).filterMap fun (m : Nat) => xs[(((xs.size : Nat) : Int) - 1 + (m : Int) * (-1)).toNat]?).toArray = xs.toList.reverse.toArray := by
  congr 1
  have e : ∀ m ∈ List.range xs.size, xs[(((xs.size : Nat) : Int) - 1 + (m : Int) * (-1)).toNat]? = (xs[·]?) ((fun k => xs.size - 1 - k) m) := by
    intro m hm
    have := List.mem_range.mp hm
    show xs[_]? = xs[xs.size - 1 - m]?
    congr 1
    omega
  have e2 : (List.range xs.size).filterMap (fun (m : Nat) => xs[(((xs.size : Nat) : Int) - 1 + (m : Int) * (-1)).toNat]?) = ((List.range xs.size).map (fun k => xs.size - 1 - k)).filterMap (xs[·]?) := by
    rw [List.filterMap_map]
    exact fm_congr _ e
  rw [e2, PySem.W.krv_range, List.filterMap_reverse, PySem.W.krv_all]
theorem getItem_tuple_rev {t sl : Addr} {items : Array Value} {vs : Value} {Q : Value → Shared → Prop} (ht : IsTup s.heap t items) (hs : s.heap.IsSliceOf sl .none .none vs) (ps : IsPart vs (some (-1)))
    (h : Q (.ref s.heap.objs.size) { s with heap := s.heap.push { cls := .type "tuple", data := .seq items.toList.reverse.toArray } })
    (hsz : items.size ≤ sizeLine) : wpAny (model prog w) A (getItem (.ref t) (.ref sl)) Q E s := by
  have htake : sizeOk (.seq items.toList.reverse.toArray) := by
    show items.toList.reverse.toArray.size ≤ sizeLine
    rw [List.size_toArray, List.length_reverse, Array.length_toList]
    exact hsz
  obtain ⟨os, hos, hcs, hds⟩ := id hs
  have hTs : s.TypeIs (.ref sl) "slice" := ⟨os, hos, hcs⟩
  unfold getItem
  try with_reducible refine wpAny_holding ?_
  first | refine wpAny_bind (wpAny_pure ?_) | skip
  refine wpAny_bind (wpAny_sequenceKey ht.typeIs (by decide) ?_)
  refine wpAny_bind (wpAny_callSpecial?_slot (name := Str.ofString "__getitem__") ht.typeIs PyProof.Rows.slot_tuple_getitem
    (wpAny_call_entry PyProof.Rows.slot_tuple_getitem ht.typeIs entry_tuple_getitem ?_ (args_tuple_getitem _ _)))
  show wpAny _ _ (Builtin.Tuple.tupleItemsOf (.ref t) >>= _) _ _ s
  refine wpAny_bind (tupleItemsOf_ ht ?_)
  refine wpAny_bind (wpAny_typeOf hTs ?_)
  rw [if_pos (by decide)]
  refine wpAny_bind (sliceApplied_rev hs ps ?_)
  have hno : ¬ ((((items.size : Nat) : Int) - 1 == 0 && (-1 : Int) == 1 && items.size == items.size) = true) := by
    intro q
    rw [Bool.and_eq_true, Bool.and_eq_true] at q
    have q1 : ((-1 : Int) == 1) = true := q.1.2
    exact absurd q1 (by decide)
  show wpAny _ _ (if ((((items.size : Nat) : Int) - 1 == 0 && (-1 : Int) == 1 && items.size == items.size) = true) then _ else _) _ _ s
  rw [if_neg hno, pick_rev]
  first
    | exact wpAny_bind (m := Builtin.Tuple.tupleExact _) (wpAny_newObj_type (wpAny_pure ⟨_, rfl, wpAny_pure h⟩) htake)
    | exact wpAny_bind (m := Builtin.Tuple.tupleExact _) (wpAny_newObj_type (wpAny_bind (wpAny_pure (wpAny_pure ⟨_, rfl, wpAny_pure h⟩))) htake)
    | exact wpAny_bind (wpAny_bind (m := Builtin.Tuple.tupleExact _) (wpAny_newObj_type (wpAny_pure (wpAny_pure ⟨_, rfl, wpAny_pure h⟩)) htake))
    | exact wpAny_bind (wpAny_bind (m := Builtin.Tuple.tupleExact _) (wpAny_newObj_type (wpAny_pure ⟨_, rfl, wpAny_pure h⟩) htake))
end
end DLT
namespace L2
open PySem PySem.Spec PyProof.Rows
def tRevT (K : PySem.W.Frag) (te : TE) : TE := fun σ H Q => te σ H fun x H1 => ∃ a xs, x = .ref a ∧ SqT K H1 a xs ∧ ∀ p, H1 p = none → Q (.ref p) (upd H1 p (.tup xs.reverse))
theorem pe_revT {X : Cx} {pos : Pos} {e : Expr} {te : TE} {k : Nat} {p1 p2 p3 : Pos} (he : PE X e te) : PE X (.Subscript e (.Slice none none (some (.UnaryOp .USub (.Constant (.int 1) k p1) p2)) p3) pos) (tRevT X.K te) := by
  refine ⟨fun pins s σ H Q I h => ?_⟩
  refine Subscript_ (thn (he.run pins s σ H _ I h) fun v s1 ⟨x, H1, I1, r1, q1⟩ => ?_)
  obtain ⟨a, xs, ex, hx, q⟩ := q1
  subst ex
  cases r1
  have hst : PO X (some (.UnaryOp .USub (.Constant (.int 1) k p1) p2)) (tPart (tUn (rU fun i => .int (-i)) (tC (.int 1)))) := po_some (pe_un un_neg pe_int)
  refine wpAny_Slice (thn (po_none.run pins s1 σ H1 (fun o H2 => o = none ∧ H2 = H1) I1 ⟨rfl, rfl⟩) fun vl s2 ⟨l, H2, I2, pl, el, e2⟩ => ?_)
  subst el e2
  refine thn (po_none.run pins s2 σ H2 (fun o H3 => o = none ∧ H3 = H2) I2 ⟨rfl, rfl⟩) fun vu s3 ⟨u, H3, I3, pu, eu, e3⟩ => ?_
  subst eu e3
  refine thn (hst.run pins s3 σ H3 (fun o H4 => o = some (-1) ∧ H4 = H3) I3 ⟨1, rfl, -1, rfl, rfl, rfl⟩) fun vs s4 ⟨o, H4, I4, ps, eo, e4⟩ => ?_
  subst eo e4
  have evl : vl = .none := by cases pl; rfl
  have evu : vu = .none := by cases pu; rfl
  subst evl evu
  have I5 : Inv X pins σ H4 { s4 with heap := s4.heap.push { cls := .type "slice", data := .fields #[.none, .none, vs] } } := I4.kept (t' := s4.toks) fun b ob q => Heap.get?_push_of_some _ q
  obtain ⟨its, r, ht, hz⟩ := I5.tuple hx
  have hlen := r.length
  show wpAny (model X.prog X.w) X.A (subscriptTail e (.Slice none none (some (.UnaryOp .USub (.Constant (.int 1) k p1) p2)) p3) (.ref a) (.ref s4.heap.objs.size)) (EP X pins σ Q) X.xe { s4 with heap := s4.heap.push { cls := .type "slice", data := .fields #[.none, .none, vs] } }
  refine tail_any (ops := [.ref a, .ref s4.heap.objs.size]) ht.typeIs (PyProof.Rows.slot_tuple_getitem.lookup) ?_ (by with_unfolding_all rfl)
  refine DLT.getItem_tuple_rev ht (Heap.IsSliceOf.new _ .none .none vs) ps ?_ (by rw [List.size_toArray]; omega)
  refine ⟨.ref _, _, I5.laid (t' := s4.toks) (o := .tup xs.reverse) (fun b ob q => Heap.get?_push_of_some _ q) (Nat.le_refl _) ?_, rfl, q _ (I5.hok.fresh (Nat.le_refl _))⟩
  exact ⟨by rw [List.length_reverse]; exact hz, _, r.reverse, IsTup.new _ _⟩
end L2
namespace DL
open PySem L2
section
variable {Γ : Gam} {ρ : Rho} {μ : Mem} {Q : D → Mem → Prop} {a b c e o : Expr} {es : List Expr} {pos p p2 : Pos} {x : Str} {D' : DEnds}
/-- xs[::-1] of a tuple -/
theorem we_revT {k : Nat} {p1 q2 p3 : Pos} (h : WE Γ e ρ μ fun d μ1 => ∃ ds, d = .tup ds ∧ Q (.tup ds.reverse) μ1) : WE Γ (.Subscript e (.Slice none none (some (.UnaryOp .USub (.Constant (.int 1) k p1) q2)) p3) pos) ρ μ Q := fun σ F H s r => by
  refine semE.mk (t := tRevT Γ.K (semE Γ e)) (fun X hX => ?_) (h.go s r fun v F1 H1 d μ1 r1 e1 s1 p1' h1 => ?_)
  · have := pe_revT (X := X) (k := k) (p1 := p1) (p2 := q2) (p3 := p3) (pos := pos) (pe_sem hX e)
    rw [hX.K] at this; exact this
  · obtain ⟨ds, rfl, q⟩ := h1
    cases p1' with
    | tup g1 g2 => exact ⟨_, _, rfl, same_seqT r1.same g1, fun p hp => Post.ext e1 (post_tup r1 g2.reverse q p hp)⟩
/-- list(range(a, b)) -/
def semRg (Γ : Gam) (e : Expr) : L2.St → Hp → (Int → Int → Hp → Prop) → Prop := fun σ H Q => ∃ (t : L2.St → Hp → (Int → Int → Hp → Prop) → Prop) (Q0 : Int → Int → Hp → Prop), (∀ X, Γ.ok X → PRg X e t) ∧ t σ H Q0 ∧ ∀ i j H', Q0 i j H' → Q i j H'
theorem rg_sem {X : Cx} (hX : Γ.ok X) (e : Expr) : PRg X e (semRg Γ e) := fun pins s σ H Q I ⟨t, Q0, h, ht, hq⟩ =>
  thn (h X hX pins s σ H Q0 I ht) fun _ _ ⟨r, a, b, t, u, v, H', e, i, I', q⟩ => ⟨r, a, b, t, u, v, H', e, i, I', hq _ _ _ q⟩
def WRg (Γ : Gam) (e : Expr) (ρ : Rho) (μ : Mem) (R : Int → Int → Mem → Prop) : Prop := ∀ σ F H, Slots Γ.K F σ ρ → Rel Γ.K F H μ → semRg Γ e σ H fun i j H' => ∃ F' μ', Rel Γ.K F' H' μ' ∧ Ext F H μ F' H' μ' ∧ R i j μ'
theorem wrg_1 {R : Int → Int → Mem → Prop} (hm : Γ.mg "range" = none) (hg : GlD Γ "range" := by rfl) (na : ∀ env, starEach [a] env = (false, eval a env) :: starEach [] env := by intro _; rfl)
    (h : WE Γ a ρ μ fun d μ1 => ∃ n, d = .int n ∧ R 0 n μ1) : WRg Γ (.Call (.Name "range" p) [a] [] pos) ρ μ R := fun σ F H s r =>
  ⟨tRg1 (semE Γ a), _, fun X hX => prg_1 (hX.gl hg) (by rw [hX.mg]; exact hm) (pe_sem hX a) (na _), h.go s r fun v F1 H1 d μ1 r1 e1 s1 p1 q1 => by
    obtain ⟨n, rfl, q1⟩ := q1
    exact ⟨n, rep_int p1, F1, μ1, r1, e1, q1⟩, fun _ _ _ x => x⟩
theorem wrg_2 {R : Int → Int → Mem → Prop} (hm : Γ.mg "range" = none) (hg : GlD Γ "range" := by rfl) (na : ∀ env, starEach [a, b] env = (false, eval a env) :: starEach [b] env := by intro _; rfl)
    (nb : ∀ env, starEach [b] env = (false, eval b env) :: starEach [] env := by intro _; rfl) (hp : ∀ env, (backTo pos (starEach [b] env)).any (·.1) = false := by intro _; rfl)
    (h : WE Γ a ρ μ fun d μ1 => WE Γ b ρ μ1 fun e μ2 => ∃ i j, d = .int i ∧ e = .int j ∧ R i j μ2) : WRg Γ (.Call (.Name "range" p) [a, b] [] pos) ρ μ R := fun σ F H s r =>
  ⟨tRg2 (semE Γ a) (semE Γ b), _, fun X hX => prg_2 (hX.gl hg) (by rw [hX.mg]; exact hm) (pe_sem hX a) (pe_sem hX b) (na _) (nb _) (hp _), h.go s r fun v F1 H1 d μ1 r1 e1 s1 p1 q1 => q1.go s1 r1 fun u F2 H2 d2 μ2 r2 e2 s2 p2 q2 => by
    obtain ⟨i, j, rfl, rfl, q⟩ := q2
    exact ⟨i, j, rep_int (p1.mono e2.fr), rep_int p2, F2, μ2, r2, e1.trans e2, q⟩, fun _ _ _ x => x⟩
theorem rgV_reps {K : PySem.W.Frag} {F : Hp} (a b : Int) : Reps K F (rgV a b) (rangeD a (b - a).toNat) := by
  unfold rgV rangeD
  induction (List.range (b - a).toNat) with
  | nil => exact .nil
  | cons n r ih => exact .cons (.int _) ih
theorem we_listRg [hc : Calm Γ] (hm : Γ.mg "list" = none) (hg : GlD Γ "list" := by rfl) (na : ∀ env, starEach [e] env = (false, eval e env) :: starEach [] env := by intro _; rfl)
    (h : WRg Γ e ρ μ fun i j μ1 => RgOk i j ∧ Q (.lst (rangeD i (j - i).toNat)) μ1) : WE Γ (.Call (.Name "list" p) [e] [] pos) ρ μ Q := fun σ F H s r => by
  obtain ⟨t, Q0, h1, h2, h3⟩ := h σ F H s r
  refine semE.mk (fun X hX => pe_listRg (hX.calm hc.h) (hX.gl hg) (by rw [hX.mg]; exact hm) (rg_sem hX e) (na _)) (t := tLstRg (semRg Γ e)) ⟨t, Q0, h1, h2, fun i j H' q => ?_⟩
  obtain ⟨F1, μ1, r1, e1, ok, q⟩ := h3 i j H' q
  exact ⟨ok, fun p hp => Post.ext e1 (post_lst r1 (rgV_reps i j) q p hp)⟩
end
end DL
namespace DL
open PySem L2

/-! ### the head of a law -/
abbrev spLaw : DSp := fun ds μ Q => ∃ ns : List Int, ds = [.lsr (ns.map .int)] ∧ ns.length ≤ 63 ∧ ∀ μ', Q (.bl true) μ'
theorem reps_ofInts {K : PySem.W.Frag} {F : Hp} : ∀ ns : List Int, Reps K F (ns.map V.int) (ns.map D.int)
  | [] => .nil
  | n :: ns => .cons (.int n) (reps_ofInts ns)
theorem law_start {K : PySem.W.Frag} {H : Hp} {a : Addr} {ns : List Int} {E : XK} (hl : ns.length ≤ 63) (h : SqL K H a (ns.map V.int)) : toSp K spLaw [.ref a] H (fun v _ => v = .bl true) E :=
  ⟨H, Mem.emp, [.lsr (ns.map .int)], fun d _ => d = .bl true, ⟨Same.refl _, fun a o h => by cases h⟩, .cons (.lsr h (reps_ofInts ns)) .nil, ⟨ns, rfl, hl, fun _ => rfl⟩, fun v H' q => by
    obtain ⟨F1, d, μ1, r1, e1, p1, rfl⟩ := q
    cases p1; rfl⟩
theorem TF.mk {K : PySem.W.Frag} {h : Heap} {mg : Str → Option Value} {x : Str} {st : Stmt} {ps : List Str} (X : K.In h) (G : h.Ns mainGlobals mg)
    {f : Addr} {oc : Value} {od an : Option Addr} {sl : Array (Option Value)} {kV dc pm cd ct : Value}
    (a : PySem.W.nsIn K mainGlobals x = some (some (.ref f))) (l : K.lookup f = some ⟨oc, od, .func (PySem.W.fnOf x x (defArgs st) (defBody st) (defScope st) .none kV dc pm an cd ct), sl⟩) (c : PySem.W.codeIn K cd x = true) (k : PySem.W.keepIn K (.ref f) = true)
    (b : ∀ (kV doc pm : Value) (an : Option Addr) (cdv ct : Value) (us : List Value), us.length = ps.length → bindArgs (PySem.W.fnOf x x (defArgs st) (defBody st) (defScope st) .none kV doc pm an cdv ct) ⟨us, []⟩ = pure (ps.zip us)) : TF K mg x st ps := by
  have F := fun_mk (st := st) l c k
  exact ⟨f, _, F, PySem.W.mg_of X G a, F.binds b⟩
theorem law_top {P : Program} {w : World} {K : PySem.W.Frag} {h : Heap} {mg : Str → Option Value} {fa : Addr} {st : Stmt} {N : List Str} {n : Nat} (X : K.In h) (G : h.Ns mainGlobals mg) (hfa : mg "law" = some (.ref fa))
    {f : Addr} {oc : Value} {od an : Option Addr} {sl : Array (Option Value)} {kV dc pm cd ct : Value}
    (a : PySem.W.nsIn K mainGlobals "law" = some (some (.ref f))) (l : K.lookup f = some ⟨oc, od, .func (PySem.W.fnOf "law" "law" (defArgs st) (defBody st) (defScope st) .none kV dc pm an cd ct), sl⟩) (c : PySem.W.codeIn K cd "law" = true) (k : PySem.W.keepIn K (.ref f) = true)
    (b : ∀ (kV doc pm : Value) (an : Option Addr) (cdv ct : Value) (u : Value), bindArgs (PySem.W.fnOf "law" "law" (defArgs st) (defBody st) (defScope st) .none kV doc pm an cdv ct) ⟨[u], []⟩ = pure [(("script" : Str), u)])
    (S : FnScope N ["script"] (defScope st))
    (body : ∀ base ds μ Q, spLaw ds μ Q → WSs (gamF P w K mg base N (defScope st) n) (defBody st) (startD N ds) μ { nx := fun _ μ1 => Q .non μ1, rt := Q }) :
    ∃ fd : FuncData, (∀ (s : Shared) (u : Value), BindsTo s fd ⟨[u], []⟩ [("script", u)]) ∧ ∀ base : Heap, K.In base → base.Ns mainGlobals mg → FnOk P w K mg base CX0 (n + 1) fa fd ["script"] (toSp K spLaw) := by
  have e := hfa.symm.trans (PySem.W.mg_of X G a)
  cases e
  have F := fun_mk (st := st) l c k
  refine ⟨_, fun s u => .of_eq (b kV dc pm an cd ct u), fun base _ _ => F.ok S (fun vs H Q E ⟨F, μ, ds, Q', r, p, q, z⟩ => by rw [p.length]; obtain ⟨ns, rfl, _⟩ := q; rfl) fun cdv A outer s H vs Q E hr ⟨F', μ, ds, Q', r, p, q, z⟩ => ?_⟩
  refine ⟨semSs (gamF P w K mg base N (defScope st) n) (defBody st), pss_sem ⟨rfl, rfl, rfl, rfl, rfl, rfl, rfl, rfl, fun _ => rfl, rfl, fun _ => hr, hr.un, S.nd, fun _ => ⟨rfl, rfl⟩, fun _ _ _ e => by cases e⟩ _, ?_⟩
  refine (body base ds μ Q' q _ F' H (slots_start p) r).le ⟨fun σ H' ⟨F1, ρ1, μ1, s1, r1, e1, q1⟩ => z _ _ ⟨F1, .non, μ1, r1, e1, .non, q1⟩, fun v H' q => z _ _ q, fun _ _ ⟨_, _, _, _, _, _, q⟩ => q, fun _ _ ⟨_, _, _, _, _, _, q⟩ => q⟩
end DL
namespace DL
open PySem L2

/-! ### equality of data without bools -/
mutual
def D.nb : Nat → D → Bool
  | _, .non => true | _, .int _ => true | _, .str x => PyData.strOk x
  | n + 1, .tup l => D.nbs n l | n + 1, .lst l => D.nbs n l
  | _, _ => false
def D.nbs : Nat → List D → Bool
  | _, [] => true
  | n, d :: ds => D.nb n d && D.nbs n ds
end
mutual
theorem D.nb_pure : ∀ (n : Nat) (d : D), d.nb n = true → d.pure n = true
  | n, .non, _ => by simp [D.pure]
  | n, .bl b, h => by cases n <;> simp [D.nb] at h
  | n, .int i, _ => by simp [D.pure]
  | n, .str x, h => by simpa [D.pure, D.nb] using h
  | n + 1, .tup l, h => by
    have h' : D.nbs n l = true := by simpa [D.nb] using h
    simpa [D.pure] using D.nbs_pure n l h'
  | n + 1, .lst l, h => by
    have h' : D.nbs n l = true := by simpa [D.nb] using h
    simpa [D.pure] using D.nbs_pure n l h'
  | 0, .tup l, h => by simp [D.nb] at h
  | 0, .lst l, h => by simp [D.nb] at h
  | n, .lsr l, h => by cases n <;> simp [D.nb] at h
  | n, .loc l, h => by cases n <;> simp [D.nb] at h
  | n, .ty l, h => by cases n <;> simp [D.nb] at h
theorem D.nbs_pure : ∀ (n : Nat) (ds : List D), D.nbs n ds = true → D.pures n ds = true
  | n, [], _ => by simp [D.pures]
  | n, d :: ds, h => by
    have h' : d.nb n = true ∧ D.nbs n ds = true := by simpa [D.nbs] using h
    simp [D.pures, D.nb_pure n d h'.1, D.nbs_pure n ds h'.2]
end
mutual
theorem eqv_nb : ∀ (n m : Nat) (d e : D), d.nb n = true → e.nb m = true → PyData.eqv d.pd e.pd = true → d = e
  | n, m, .non, e, _, he, h => by
    cases e with
    | non => rfl
    | lsr l => cases m <;> simp [D.nb] at he
    | loc l => cases m <;> simp [D.nb] at he
    | ty l => cases m <;> simp [D.nb] at he
    | _ => simp [D.pd, PyData.eqv] at h
  | n, m, .bl b, e, hd, _, _ => by cases n <;> simp [D.nb] at hd
  | n, m, .int i, e, _, he, h => by
    cases e with
    | int j => simp [D.pd, PyData.eqv] at h; rw [h]
    | bl b => cases m <;> simp [D.nb] at he
    | lsr l => cases m <;> simp [D.nb] at he
    | loc l => cases m <;> simp [D.nb] at he
    | ty l => cases m <;> simp [D.nb] at he
    | _ => simp [D.pd, PyData.eqv] at h
  | n, m, .str x, e, _, he, h => by
    cases e with
    | str y => simp [D.pd, PyData.eqv] at h; rw [h]
    | lsr l => cases m <;> simp [D.nb] at he
    | loc l => cases m <;> simp [D.nb] at he
    | ty l => cases m <;> simp [D.nb] at he
    | _ => simp [D.pd, PyData.eqv] at h
  | n + 1, m, .tup l, e, hd, he, h => by
    cases e with
    | tup k =>
      cases m with
      | zero => simp [D.nb] at he
      | succ m =>
        have h1 : D.nbs n l = true := by simpa [D.nb] using hd
        have h2 : D.nbs m k = true := by simpa [D.nb] using he
        rw [eqv_nbs n m l k h1 h2 (by simpa [D.pd, PyData.eqv] using h)]
    | lsr l => cases m <;> simp [D.nb] at he
    | loc l => cases m <;> simp [D.nb] at he
    | ty l => cases m <;> simp [D.nb] at he
    | _ => simp [D.pd, PyData.eqv] at h
  | n + 1, m, .lst l, e, hd, he, h => by
    cases e with
    | lst k =>
      cases m with
      | zero => simp [D.nb] at he
      | succ m =>
        have h1 : D.nbs n l = true := by simpa [D.nb] using hd
        have h2 : D.nbs m k = true := by simpa [D.nb] using he
        rw [eqv_nbs n m l k h1 h2 (by simpa [D.pd, PyData.eqv] using h)]
    | lsr l => cases m <;> simp [D.nb] at he
    | loc l => cases m <;> simp [D.nb] at he
    | ty l => cases m <;> simp [D.nb] at he
    | _ => simp [D.pd, PyData.eqv] at h
  | 0, m, .tup l, e, hd, _, _ => by simp [D.nb] at hd
  | 0, m, .lst l, e, hd, _, _ => by simp [D.nb] at hd
  | n, m, .lsr l, e, hd, _, _ => by cases n <;> simp [D.nb] at hd
  | n, m, .loc l, e, hd, _, _ => by cases n <;> simp [D.nb] at hd
  | n, m, .ty l, e, hd, _, _ => by cases n <;> simp [D.nb] at hd
theorem eqv_nbs : ∀ (n m : Nat) (ds es : List D), D.nbs n ds = true → D.nbs m es = true → PyData.eqvAll (D.pds ds) (D.pds es) = true → ds = es
  | n, m, [], es, _, _, h => by
    cases es with
    | nil => rfl
    | cons e es => simp [D.pds, PyData.eqvAll] at h
  | n, m, d :: ds, es, hd, he, h => by
    cases es with
    | nil => simp [D.pds, PyData.eqvAll] at h
    | cons e es =>
      have h1 : d.nb n = true ∧ D.nbs n ds = true := by simpa [D.nbs] using hd
      have h2 : e.nb m = true ∧ D.nbs m es = true := by simpa [D.nbs] using he
      have h3 : PyData.eqv d.pd e.pd = true ∧ PyData.eqvAll (D.pds ds) (D.pds es) = true := by simpa [D.pds, PyData.eqvAll] using h
      rw [eqv_nb n m d e h1.1 h2.1 h3.1, eqv_nbs n m ds es h1.2 h2.2 h3.2]
end
theorem eqv_nb_iff {n m : Nat} {d e : D} (hd : d.nb n = true) (he : e.nb m = true) : PyData.eqv d.pd e.pd = true ↔ d = e :=
  ⟨eqv_nb n m d e hd he, fun h => by subst h; exact eqv_refl n d (D.nb_pure n d hd)⟩
theorem nbs_ints (n : Nat) (l : List Int) : D.nbs n (l.map D.int) = true := by
  induction l with
  | nil => simp [D.nbs]
  | cons a l ih => simp [D.nbs, D.nb, ih]
theorem nbs_of {n : Nat} {l : List D} (h : ∀ d ∈ l, d.nb n = true) : D.nbs n l = true := by
  induction l with
  | nil => simp [D.nbs]
  | cons a l ih => simp [D.nbs, h a (by simp), ih fun d hd => h d (by simp [hd])]
section
variable {Γ : Gam} {ρ : Rho} {μ : Mem} {Q : D → Mem → Prop}
theorem wo_eqP (n : Nat) {d e : D} (h1 : d.nb n = true) (h2 : e.nb n = true) (q : ∀ b : Bool, (b = true ↔ d = e) → Q (.bl b) μ) (hn : n ≤ 64 := by decide) : WO Γ (compareOp .Eq) d e μ Q :=
  wo_eqD (D.nb_pure n d h1) (D.nb_pure n e h2) hn (q _ (eqv_nb_iff h1 h2))
theorem wo_neP (n : Nat) {d e : D} (h1 : d.nb n = true) (h2 : e.nb n = true) (q : ∀ b : Bool, (b = true ↔ d ≠ e) → Q (.bl b) μ) (hn : n ≤ 64 := by decide) : WO Γ (compareOp .NotEq) d e μ Q :=
  wo_neD (D.nb_pure n d h1) (D.nb_pure n e h2) hn (q _ (by rw [Bool.not_eq_true', ← Bool.not_eq_true, eqv_nb_iff h1 h2]))
theorem wo_eqB {a b : Bool} (q : Q (.bl (a == b)) μ) : WO Γ (compareOp .Eq) (.bl a) (.bl b) μ Q := wo_eqD (n := 0) rfl rfl (q := q)
theorem wo_neB {a b : Bool} (q : Q (.bl (!(a == b))) μ) : WO Γ (compareOp .NotEq) (.bl a) (.bl b) μ Q := wo_neD (n := 0) rfl rfl (q := q)
/-- a for over a name that holds a list or a tuple -/
theorem wi_name (i : Nat) {x : Str} {d : D} {ds : List D} {tg : Expr} {pos : Pos} {R : List D → Mem → Prop} (hN : Γ.N[i]? = some x := by rfl) (hv : Vis Γ.sc x := by first | exact Or.inl rfl | exact Or.inr (Or.inl rfl) | exact Or.inr (Or.inr rfl)) (hρ : ρ[i]? = some (some d) := by rfl)
    (hd : (x == ("__debug__" : Str)) = false := by decide) (hcd : (x == ("__classdict__" : Str)) = false := by decide) (s : d = .lst ds ∨ d = .tup ds) (h : R ds μ) : WI Γ tg (.Name x pos) ρ μ R := by
  rcases s with rfl | rfl
  · exact wi_lst (we_name i hN hv hρ hd hcd ⟨_, rfl, h⟩)
  · exact wi_tup (we_name i hN hv hρ hd hcd ⟨_, rfl, h⟩)
end
end DL
/-! DL: own classes: fields, methods, properties, new objects -/
namespace DL
open PySem L2

/-! ### fields -/
def putFD (f : Str) (v : D) : List (Str × D) → List (Str × D)
  | [] => [(f, v)]
  | (g, x) :: r => if g = f then (g, v) :: r else (g, x) :: putFD f v r
section
variable {K : PySem.W.Frag} {F : Hp}
theorem FReps.put {f : Str} {v : V} {d : D} (p : Rep K F v d) : ∀ {fs : List (Str × V)} {fds : List (Str × D)}, FReps K F fs fds → FReps K F (putF f v fs) (putFD f d fds)
  | _, _, .nil => .cons p .nil
  | _, _, @FReps.cons _ _ g x y r t h ht => by
    show FReps K F (if g = f then (g, v) :: r else (g, x) :: putF f v r) (if g = f then (g, d) :: t else (g, y) :: putFD f d t)
    by_cases e : g = f
    · rw [if_pos e, if_pos e]; exact .cons p ht
    · rw [if_neg e, if_neg e]; exact .cons h (ht.put p)
theorem FReps.look {f : Str} {d : D} : ∀ {fs : List (Str × V)} {fds : List (Str × D)}, FReps K F fs fds → fds.lookup f = some d → ∃ v, fs.lookup f = some v ∧ Rep K F v d
  | _, _, .nil, h => by cases h
  | _, _, @FReps.cons _ _ g x y r t h ht, e => by
    rw [List.lookup_cons] at e ⊢
    by_cases z : (f == g) = true
    · rw [z] at e ⊢; cases e; exact ⟨x, rfl, h⟩
    · have z' : (f == g) = false := by simpa using z
      rw [z'] at e ⊢; exact ht.look e
theorem FReps.miss {f : Str} : ∀ {fs : List (Str × V)} {fds : List (Str × D)}, FReps K F fs fds → fds.lookup f = none → fs.lookup f = none
  | _, _, .nil, _ => rfl
  | _, _, @FReps.cons _ _ g x y r t h ht, e => by
    rw [List.lookup_cons] at e ⊢
    by_cases z : (f == g) = true
    · rw [z] at e; cases e
    · have z' : (f == g) = false := by simpa using z
      rw [z'] at e ⊢; exact ht.miss e
theorem FReps.len : ∀ {fs : List (Str × V)} {fds : List (Str × D)}, FReps K F fs fds → fs.length = fds.length
  | _, _, .nil => rfl
  | _, _, .cons h ht => congrArg (· + 1) ht.len
theorem Rel.insAt {H : Hp} {μ : Mem} (r : Rel K F H μ) {a C : Addr} {fds : List (Str × D)} (m : μ a = some (.ins C fds)) : ∃ dx fs, H a = some (.ins C dx fs) ∧ FReps K F fs fds := by
  obtain ⟨hF, ho, hH, hr⟩ := r.mem a _ m
  cases hr with
  | ins h => exact ⟨_, _, hH, h⟩
theorem Rel.junk {H : Hp} {μ : Mem} (r : Rel K F H μ) {p : Addr} (h : H p = none) (o : HO) : Rel K F (L2.upd H p o) μ ∧ Ext F H μ F (L2.upd H p o) μ := by
  obtain ⟨hF, hM⟩ := r.fresh h
  refine ⟨⟨fun b u e => ?_, fun a u e => ?_⟩, Same.refl _, fun a u e _ => ?_, fun a q => .inl q, fun a q => .inl q⟩
  · rw [L2.upd_ne (ne_of_none e hF)]; exact r.same b u e
  · obtain ⟨h1, ho, h2, h3⟩ := r.mem a u e
    have ha : a ≠ p := fun z => by subst z; rw [hM] at e; cases e
    exact ⟨h1, ho, by rw [L2.upd_ne ha]; exact h2, h3⟩
  · rw [L2.upd_ne (ne_of_none e h)]; exact e
end

/-! ### defs of a class -/
theorem fnok_of {P : Program} {w : World} {K : PySem.W.Frag} {mg : Str → Option Value} {base : Heap} {x qual : Str} {st : Stmt} {f : Addr} {fd : FuncData} {N ps : List Str} {k : Nat} {sp : DSp} (F : Fun K x qual st f fd) (S : FnScope N ps (defScope st))
    (len : ∀ ds μ Q, sp ds μ Q → ds.length = ps.length)
    (body : ∀ ds μ Q, sp ds μ Q → WSs (gamF P w K mg base N (defScope st) k) (defBody st) (startD N ds) μ { nx := fun _ μ1 => Q .non μ1, rt := Q }) : FnOk P w K mg base CX0 (k + 1) f fd ps (toSp K sp) := by
  refine F.ok S (fun vs H Q E ⟨F, μ, ds, Q', r, p, q, z⟩ => by rw [p.length]; exact len _ _ _ q) fun cdv A outer s H vs Q E hr ⟨F', μ, ds, Q', r, p, q, z⟩ => ?_
  refine ⟨semSs (gamF P w K mg base N (defScope st) k) (defBody st), pss_sem ⟨rfl, rfl, rfl, rfl, rfl, rfl, rfl, rfl, fun _ => rfl, rfl, fun _ => hr, hr.un, S.nd, fun _ => ⟨rfl, rfl⟩, fun _ _ _ e => by cases e⟩ _, ?_⟩
  refine (body ds μ Q' q _ F' H (slots_start p) r).le ⟨fun σ H' ⟨F1, ρ1, μ1, s1, r1, e1, q1⟩ => z _ _ ⟨F1, .non, μ1, r1, e1, .non, q1⟩, fun v H' q => z _ _ q, fun _ _ ⟨_, _, _, _, _, _, q⟩ => q, fun _ _ ⟨_, _, _, _, _, _, q⟩ => q⟩
structure FnM (P : Program) (w : World) (K : PySem.W.Frag) (mg : Str → Option Value) (base : Heap) (k : Nat) (C : Addr) (m : Str) (sp : DSp) : Prop where
  ex : ∃ (f : Addr) (fd : FuncData) (ps : List Str), Meth K C m f ∧ Binds K fd ps [] ∧ FnOk P w K mg base CX0 k f fd ps (toSp K sp)
structure FnP (P : Program) (w : World) (K : PySem.W.Frag) (mg : Str → Option Value) (base : Heap) (k : Nat) (C : Addr) (m : Str) (sp : DSp) : Prop where
  ex : ∃ (p f : Addr) (fd : FuncData) (ps : List Str), PropOf K C m p f ∧ Binds K fd ps [] ∧ FnOk P w K mg base CX0 k f fd ps (toSp K sp)
/-- a method, a property of the text -/
def MT (K : PySem.W.Frag) (C : Addr) (m qual : Str) (st : Stmt) (ps : List Str) : Prop := ∃ (f : Addr) (fd : FuncData), Meth K C m f ∧ Fun K m qual st f fd ∧ Binds K fd ps []
def PrT (K : PySem.W.Frag) (C : Addr) (m qual : Str) (st : Stmt) (ps : List Str) : Prop := ∃ (p f : Addr) (fd : FuncData), PropOf K C m p f ∧ Fun K m qual st f fd ∧ Binds K fd ps []
structure ClsD (K : PySem.W.Frag) (mg : Str → Option Value) (x : Str) (C : Addr) : Prop where
  cl : Cls K C
  mgC : mg x = some (.ref C)
  makes : PySem.W.makesIn K C = true
  kp : PySem.W.keepIn K (.ref C) = true
section
variable {P : Program} {w : World} {K : PySem.W.Frag} {mg : Str → Option Value} {base : Heap} {C : Addr} {m qual : Str} {st : Stmt} {N ps : List Str} {sp : DSp}
theorem MT.ok (k : Nat) (T : MT K C m qual st ps) (S : FnScope N ps (defScope st)) (len : ∀ ds μ Q, sp ds μ Q → ds.length = ps.length)
    (body : ∀ ds μ Q, sp ds μ Q → WSs (gamF P w K mg base N (defScope st) k) (defBody st) (startD N ds) μ { nx := fun _ μ1 => Q .non μ1, rt := Q }) : FnM P w K mg base (k + 1) C m sp := by
  obtain ⟨f, fd, hm, F, hb⟩ := T
  exact ⟨f, fd, ps, hm, hb, fnok_of F S len body⟩
theorem PrT.ok (k : Nat) (T : PrT K C m qual st ps) (S : FnScope N ps (defScope st)) (len : ∀ ds μ Q, sp ds μ Q → ds.length = ps.length)
    (body : ∀ ds μ Q, sp ds μ Q → WSs (gamF P w K mg base N (defScope st) k) (defBody st) (startD N ds) μ { nx := fun _ μ1 => Q .non μ1, rt := Q }) : FnP P w K mg base (k + 1) C m sp := by
  obtain ⟨p, f, fd, hm, F, hb⟩ := T
  exact ⟨p, f, fd, ps, hm, hb, fnok_of F S len body⟩
end

section
variable {Γ : Gam} {ρ : Rho} {μ : Mem} {Q : D → Mem → Prop} {a b c e o : Expr} {es : List Expr} {pos p apos : Pos} {x f m : Str} {D' : DEnds} {C : Addr}
/-- o.f -/
theorem we_fld (cl : Cls Γ.K C) (n : NoAttr Γ.K C f) (hb : ∀ env, attributeBase o f env (eval o env) = eval o env := by intro _; rfl)
    (h : WE Γ o ρ μ fun x μ1 => ∃ a fs d, x = .loc a ∧ μ1 a = some (.ins C fs) ∧ fs.lookup f = some d ∧ Q d μ1) : WE Γ (.Attribute o f pos) ρ μ Q := fun σ F H s r =>
  semE.mk (t := tFld Γ.K (semE Γ o) f) (fun X hX => by have := pe_fld (X := X) (pos := pos) (pe_sem hX o) (hb _); rw [hX.K] at this; exact this) (h.go s r fun v F1 H1 x μ1 r1 e1 s1 p1 q1 => by
    obtain ⟨a, fs, d, rfl, m, l, q⟩ := q1
    cases p1
    obtain ⟨dx, vs, hH, g⟩ := r1.insAt m
    obtain ⟨v, h1, h2⟩ := g.look l
    exact ⟨a, C, dx, vs, v, rfl, hH, cl, n, h1, .ext e1 (.now r1 h2 q)⟩)
/-- o.f = e -/
theorem ws_fld (cl : Cls Γ.K C) (n : NoAttr Γ.K C f) {pos' : Pos} (hs : ∀ env, swapsWith e (some (.Attribute o f pos')) pos.line env = pure false := by intro _; rfl)
    (h : WE Γ e ρ μ fun d μ1 => WE Γ o ρ μ1 fun x μ2 => ∃ a fs, x = .loc a ∧ μ2 a = some (.ins C fs) ∧ fs.length < 1000 ∧ D'.nx ρ (μ2.upd a (.ins C (putFD f d fs)))) : WS Γ (.Assign [.Attribute o f pos'] e pos) ρ μ D' := fun σ F H s r =>
  semS.mk (t := sFld Γ.K (semE Γ o) (semE Γ e) f) (fun X hX => by have := ps_fld (X := X) (pe_sem hX o) (pe_sem hX e) (hs _); rw [hX.K] at this; exact this) (h.go s r fun v F1 H1 d μ1 r1 e1 s1 p1 h1 => h1.go s1 r1 fun ov F2 H2 od μ2 r2 e2 s2 p2 h2 => by
    obtain ⟨a, fs, rfl, m, hl, q⟩ := h2
    cases p2
    obtain ⟨dx, vs, hH, g⟩ := r2.insAt m
    obtain ⟨r3, e3⟩ := r2.put m (.ins (C := C) (dx := dx) (g.put (f := f) (p1.mono e2.fr)))
    exact ⟨a, C, dx, vs, rfl, hH, cl, n, by rw [g.len]; exact hl, F2, ρ, _, s2, r3, (e1.trans e2).trans e3, q⟩)
/-- o.f += e, ints -/
theorem ws_fldadd (cl : Cls Γ.K C) (n : NoAttr Γ.K C f) {pos' : Pos}
    (h : WE Γ o ρ μ fun x μ1 => ∃ a fs i, x = .loc a ∧ μ1 a = some (.ins C fs) ∧ fs.lookup f = some (.int i) ∧ WE Γ e ρ μ1 fun d μ2 => ∃ j fs2, d = .int j ∧ μ2 a = some (.ins C fs2) ∧ fs2.length < 1000 ∧ D'.nx ρ (μ2.upd a (.ins C (putFD f (.int (i + j)) fs2)))) :
    WS Γ (.AugAssign (.Attribute o f pos') .Add e pos) ρ μ D' := fun σ F H s r =>
  semS.mk (t := sFldAug Γ.K (semE Γ o) (semE Γ e) rAdd f) (fun X hX => by have := ps_fldaug (X := X) (f := f) (pos := pos) (tpos := pos') (pe_sem hX o) (pe_sem hX e) in_add; rw [hX.K] at this; exact this) (h.go s r fun ov F1 H1 od μ1 r1 e1 s1 p1 h1 => by
    obtain ⟨a, fs, i, rfl, m, l, h1⟩ := h1
    cases p1
    obtain ⟨dx, vs, hH, g⟩ := r1.insAt m
    obtain ⟨v, hv, pv⟩ := g.look l
    cases pv
    refine ⟨a, C, dx, vs, _, rfl, hH, cl, n, hv, h1.go s1 r1 fun v F2 H2 d μ2 r2 e2 s2 p2 h2 => ?_⟩
    obtain ⟨j, fs2, rfl, m2, hl, q⟩ := h2
    cases p2
    obtain ⟨dx2, vs2, hH2, g2⟩ := r2.insAt m2
    obtain ⟨r3, e3⟩ := r2.put m2 (.ins (C := C) (dx := dx2) (g2.put (f := f) (.int (i + j))))
    exact ⟨i, j, rfl, rfl, dx2, vs2, hH2, by rw [g2.len]; exact hl, F2, ρ, _, s2, r3, (e1.trans e2).trans e3, q⟩)
/-- o.m(..) -/
theorem we_meth [hc : Calm Γ] {k : Nat} {sp : DSp} (cl : Cls Γ.K C) (M : FnM Γ.P Γ.w Γ.K Γ.mg Γ.base k C m sp) (hk : k ≤ Γ.k := by exact Nat.le_of_ble_eq_true rfl)
    (hst : ∀ env, starEach (e :: es) env = (false, eval e env) :: starEach es env := by intro _; rfl) (hpl : ∀ env, (backTo pos (starEach es env)).any (·.1) = false := by intro _; rfl)
    (ht : ∀ env, ∃ pl : Sem Bool, eval (.Call (.Attribute o m apos) (e :: es) [] pos) env = (do
      let ov ← eval o env
      standAt apos.atName
      let (f, first) ← holding [ov] (getMethod ov m pl)
      callWith pos f first (backTo pos (starEach (e :: es) env)) (backToKw pos (keywordEach [] env))) := by intro _; exact ⟨_, rfl⟩)
    (h : WE Γ o ρ μ fun x μ1 => ∃ a fs, x = .loc a ∧ μ1 a = some (.ins C fs) ∧ fs.lookup m = none ∧ WA Γ (e :: es) ρ μ1 fun ds μ2 => sp (.loc a :: ds) μ2 Q) : WE Γ (.Call (.Attribute o m apos) (e :: es) [] pos) ρ μ Q := fun σ F H s r => by
  obtain ⟨fa, fd, ps, hm, hb, hF⟩ := M.ex
  refine semE.mk (t := tMeth C m (toSp Γ.K sp) [] E0 (semE Γ o) (semA Γ (e :: es))) (fun X hX => ?_) (h.go s r fun v F1 H1 x μ1 r1 e1 s1 p1 q1 => ?_)
  · obtain ⟨pl, ht⟩ := ht X.env
    refine pe_meth (CX := CX0) (k := Γ.k) (fd := fd) (ps := ps) (f := fa) (pe_sem hX o) (by rw [hX.K]; exact cl) (by rw [hX.K]; exact hm) ?_ (hX.room hc.h) (by rw [hX.K]; exact hb) .nil pass0 (pa_sem hX _) (hst _) (hpl _) ht
    rw [hX.P, hX.w, hX.K, hX.mg, hX.base]
    exact hF.mono hk
  · obtain ⟨a, fs, rfl, mm, l, q⟩ := q1
    cases p1
    obtain ⟨dx, vs, hH, g⟩ := r1.insAt mm
    refine ⟨a, dx, vs, rfl, hH, g.miss l, q.go s1 r1 fun ws F2 H2 ds μ2 r2 e2 s2 p2 q2 => ?_⟩
    exact ⟨F2, μ2, _, Q, r2, by rw [List.append_nil]; exact .cons (.loc a) p2, q2, fun v H' q => q.ext (e1.trans e2)⟩
/-- o.m() -/
theorem we_meth0 [hc : Calm Γ] {k : Nat} {sp : DSp} (cl : Cls Γ.K C) (M : FnM Γ.P Γ.w Γ.K Γ.mg Γ.base k C m sp) (hk : k ≤ Γ.k := by exact Nat.le_of_ble_eq_true rfl)
    (ht : ∀ env, ∃ pl : Sem Bool, eval (.Call (.Attribute o m apos) [] [] pos) env = (do
      let ov ← eval o env
      standAt apos.atName
      let (f, first) ← holding [ov] (getMethod ov m pl)
      callWith pos f first (backTo pos (starEach [] env)) (backToKw pos (keywordEach [] env))) := by intro _; exact ⟨_, rfl⟩)
    (h : WE Γ o ρ μ fun x μ1 => ∃ a fs, x = .loc a ∧ μ1 a = some (.ins C fs) ∧ fs.lookup m = none ∧ sp [.loc a] μ1 Q) : WE Γ (.Call (.Attribute o m apos) [] [] pos) ρ μ Q := fun σ F H s r => by
  obtain ⟨fa, fd, ps, hm, hb, hF⟩ := M.ex
  refine semE.mk (t := tMeth C m (toSp Γ.K sp) [] E0 (semE Γ o) tNil) (fun X hX => ?_) (h.go s r fun v F1 H1 x μ1 r1 e1 s1 p1 q1 => ?_)
  · obtain ⟨pl, ht⟩ := ht X.env
    refine pe_meth0 (CX := CX0) (k := Γ.k) (fd := fd) (ps := ps) (f := fa) (pe_sem hX o) (by rw [hX.K]; exact cl) (by rw [hX.K]; exact hm) ?_ (hX.room hc.h) (by rw [hX.K]; exact hb) .nil pass0 ht
    rw [hX.P, hX.w, hX.K, hX.mg, hX.base]
    exact hF.mono hk
  · obtain ⟨a, fs, rfl, mm, l, q⟩ := q1
    cases p1
    obtain ⟨dx, vs, hH, g⟩ := r1.insAt mm
    exact ⟨a, dx, vs, rfl, hH, g.miss l, F1, μ1, [.loc a], Q, r1, .cons (.loc a) .nil, q, fun v H' q => q.ext e1⟩
/-- o.f, a property -/
theorem we_prop [hc : Calm Γ] {k : Nat} {sp : DSp} (cl : Cls Γ.K C) (M : FnP Γ.P Γ.w Γ.K Γ.mg Γ.base k C f sp) (hk : k + 1 ≤ Γ.k := by exact Nat.le_of_ble_eq_true rfl)
    (hab : ∀ env, attributeBase o f env (eval o env) = eval o env := by intro _; rfl)
    (h : WE Γ o ρ μ fun x μ1 => ∃ a fs, x = .loc a ∧ μ1 a = some (.ins C fs) ∧ sp [.loc a] μ1 Q) : WE Γ (.Attribute o f pos) ρ μ Q := fun σ F H s r => by
  obtain ⟨pa, fa, fd, ps, hm, hb, hF⟩ := M.ex
  refine semE.mk (t := tProp C (toSp Γ.K sp) [] E0 (semE Γ o)) (fun X hX => ?_) (h.go s r fun v F1 H1 x μ1 r1 e1 s1 p1 q1 => ?_)
  · refine pe_prop (CX := CX0) (k := k) (fd := fd) (ps := ps) (pe_sem hX o) (by rw [hX.K]; exact cl) (by rw [hX.K]; exact hm) ?_ ((hX.room hc.h).mono hk) (by rw [hX.K]; exact hb) .nil pass0 (hab _)
    rw [hX.P, hX.w, hX.K, hX.mg, hX.base]
    exact hF
  · obtain ⟨a, fs, rfl, mm, q⟩ := q1
    cases p1
    obtain ⟨dx, vs, hH, g⟩ := r1.insAt mm
    exact ⟨a, dx, vs, rfl, hH, F1, μ1, [.loc a], Q, r1, .cons (.loc a) .nil, q, fun v H' q => q.ext e1⟩
/-- C(..) -/
theorem we_make [hc : Calm Γ] {k : Nat} {sp : DSp} (T : ClsD Γ.K Γ.mg x C) (M : FnM Γ.P Γ.w Γ.K Γ.mg Γ.base k C "__init__" sp) (hk : k + 1 ≤ Γ.k := by exact Nat.le_of_ble_eq_true rfl) (hg : GlD Γ x := by rfl) (hdb : (x == ("__debug__" : Str)) = false := by decide)
    (he : ∀ env, starEach (e :: es) env = (false, eval e env) :: starEach es env := by intro _; rfl) (hpl : ∀ env, (backTo pos (starEach es env)).any (·.1) = false := by intro _; rfl)
    (h : WA Γ (e :: es) ρ μ fun ds μ1 => ∀ z, μ1 z = none → sp (.loc z :: ds) (μ1.upd z (.ins C [])) fun d μ2 => d = .non ∧ Q (.loc z) μ2) : WE Γ (.Call (.Name x p) (e :: es) [] pos) ρ μ Q := fun σ F H s r => by
  obtain ⟨fa, fd, ps, hm, hb, hF⟩ := M.ex
  refine semE.mk (t := tMake C (toSp Γ.K sp) [] E0 (semA Γ (e :: es))) (fun X hX => ?_) (h.go s r fun vs F1 H1 ds μ1 r1 e1 s1 p1 q1 => ?_)
  · refine pe_make (CX := CX0) (k := k) (fd := fd) (ps := ps) (f := fa) ⟨by rw [hX.K]; exact T.makes, by rw [hX.K]; exact hm.at_, by rw [hX.K]; exact hm.fn, by rw [hX.K]; exact T.kp⟩ ?_ ((hX.room hc.h).mono hk) (hX.gl hg) (by rw [hX.mg]; exact T.mgC) (by rw [hX.K]; exact hb) .nil pass0 (pa_sem hX _) hdb (he _) (hpl _)
    rw [hX.P, hX.w, hX.K, hX.mg, hX.base]
    exact hF
  · intro z dx nz ndx nez
    obtain ⟨_, hμ⟩ := r1.fresh nz
    obtain ⟨r2, e2⟩ := r1.junk ndx (.own z)
    obtain ⟨r3, e3⟩ := r2.layM (p := z) (by rw [L2.upd_ne (Ne.symm nez)]; exact nz) (o := .ins C dx []) (m := .ins C []) (.ins .nil)
    refine ⟨F1, _, .loc z :: ds, _, r3, by rw [List.append_nil]; exact .cons (.loc z) p1, q1 z hμ, fun v H' q => ?_⟩
    obtain ⟨F4, d, μ4, r4, e4, p4, rfl, q4⟩ := q
    cases p4
    exact ⟨rfl, F4, .loc z, μ4, r4, ((e1.trans e2).trans e3).trans e4, .loc z, q4⟩
end
end DL
/-! DL: sorted of tuples of ints, any number of them, of any lengths -/
namespace DL
open PySem L2 PyProof.Rows
def lexL : List Int → List Int → Bool
  | [], [] => false | [], _ :: _ => true | _ :: _, [] => false
  | a :: as, b :: bs => if a = b then lexL as bs else decide (a < b)
theorem lexL_asym : ∀ x y, lexL x y = true → lexL y x = false
  | [], [], _ => rfl
  | [], _ :: _, _ => rfl
  | _ :: _, [], h => by cases h
  | a :: as, b :: bs, h => by
    unfold lexL at h ⊢
    by_cases e : a = b
    · rw [if_pos e] at h; rw [if_pos e.symm]; exact lexL_asym as bs h
    · rw [if_neg e] at h; rw [if_neg (Ne.symm e)]
      have := of_decide_eq_true h
      exact decide_eq_false (by omega)
theorem lexL_tr : ∀ x y z, lexL y x = false → lexL z y = false → lexL z x = false
  | [], y, z, h1, h2 => by cases z <;> rfl
  | x :: xs, [], z, h1, h2 => by cases h1
  | x :: xs, y :: ys, [], h1, h2 => by cases h2
  | x :: xs, y :: ys, z :: zs, h1, h2 => by
    unfold lexL at h1 h2 ⊢
    by_cases e1 : y = x
    · rw [if_pos e1] at h1
      by_cases e2 : z = y
      · rw [if_pos e2] at h2; rw [if_pos (by omega)]; exact lexL_tr xs ys zs h1 h2
      · rw [if_neg e2] at h2
        have := of_decide_eq_false h2
        rw [if_neg (by omega)]; exact decide_eq_false (by omega)
    · rw [if_neg e1] at h1
      have a1 := of_decide_eq_false h1
      by_cases e2 : z = y
      · rw [if_neg (by omega)]; exact decide_eq_false (by omega)
      · rw [if_neg e2] at h2
        have := of_decide_eq_false h2
        rw [if_neg (by omega)]; exact decide_eq_false (by omega)
theorem lexL_swo {α : Type} (k : α → List Int) : SrtO.Swo fun v u => lexL (k v) (k u) := ⟨fun x y => lexL_asym (k x) (k y), fun x y z => lexL_tr (k x) (k y) (k z)⟩
theorem lexL_eq : ∀ x y, lexL x y = false → lexL y x = false → x = y
  | [], [], _, _ => rfl
  | [], _ :: _, h, _ => by cases h
  | _ :: _, [], _, h => by cases h
  | a :: as, b :: bs, h1, h2 => by
    unfold lexL at h1 h2
    by_cases e : a = b
    · subst e; rw [if_pos rfl] at h1 h2; rw [lexL_eq as bs h1 h2]
    · rw [if_neg e] at h1; rw [if_neg (Ne.symm e)] at h2
      have := of_decide_eq_false h1
      have := of_decide_eq_false h2
      omega
section
variable {prog : Program} {w : World} {A : Around} {E : Value → Shared → Prop} {s : Shared}
theorem lex_ints {b fin : Bool} {xs ys : List Value} {ns ms : List Int} {Q : Bool → Shared → Prop} (i : Nat) (hx : IntsAre xs ns) (hy : IntsAre ys ms) (hf : fin = decide (ns.length < ms.length))
    (h : Q (lexL ns ms) s) : PySem.W.KatLex prog w A b fin Q (xs.zip ys) i s := by
  induction hx generalizing ys ms i with
  | nil =>
    cases hy with
    | nil => subst hf; exact PySem.W.kat_nil h
    | cons q u hy =>
      have : fin = true := by rw [hf]; exact decide_eq_true (by simp)
      subst this; exact PySem.W.kat_nil h
  | @cons p t xs ns hx ih =>
    cases hy with
    | nil =>
      have : fin = false := by rw [hf]; exact decide_eq_false (by simp)
      subst this; exact PySem.W.kat_nil h
    | @cons q u ys ms hy =>
      have hf' : fin = decide (ns.length < ms.length) := by rw [hf]; exact decide_eq_decide.mpr (by simp)
      show PySem.W.KatLex prog w A b fin Q ((Value.int p t, Value.int q u) :: xs.zip ys) i s
      refine PySem.W.kat_cons (wpAny_eqBool_int ?_)
      unfold lexL at h
      by_cases e : p = q
      · subst e
        rw [beq_self_eq_true]
        rw [if_pos rfl] at h
        exact PySem.W.kat_yes (ih (i + 1) hy hf' h)
      · rw [show (p == q) = false from beq_eq_false_iff_ne.mpr e]
        rw [if_neg e] at h
        exact PySem.W.kat_no (TS.oneLt_ints _ h)
def TupsAny (h : Heap) (vs : List Value) : Prop := ∀ v, v ∈ vs → ∃ ns, TS.TupInts h v ns ∧ ns ≠ []
theorem firsts_any {h : Heap} : ∀ vs : List Value, TupsAny h vs → ∃ fs, PySem.W.KatTups h vs fs ∧ fs.length = vs.length ∧ ∀ f, f ∈ fs → ∃ n t, f = Value.int n t
  | [], _ => ⟨[], PySem.W.KatTups.nil, rfl, fun f hf => by simp at hf⟩
  | v :: vs, x => by
    obtain ⟨fs, k, hl, hi⟩ := firsts_any vs fun u hu => x u (List.mem_cons_of_mem _ hu)
    obtain ⟨ns, ⟨a, xs, rfl, ⟨o, ho, hc, n, hdt⟩, i⟩, hn⟩ := x v (List.mem_cons_self ..)
    obtain ⟨y, ys, e⟩ : ∃ y ys, xs.toList = y :: ys := by
      cases q : xs.toList with
      | nil =>
        rw [q] at i
        have l := i.length
        exact absurd (List.eq_nil_of_length_eq_zero l.symm) hn
      | cons y ys => exact ⟨y, ys, rfl⟩
    obtain ⟨m, t, hy⟩ := i.all y (by rw [e]; exact List.mem_cons_self ..)
    refine ⟨y :: fs, PySem.W.KatTups.cons ho hc hdt ?_ k, by simp [hl], ?_⟩
    · have z := congrArg (fun l : List Value => l[0]?) e
      simpa using z
    · intro f hf
      rcases List.mem_cons.mp hf with rfl | hf
      · exact ⟨m, t, hy⟩
      · exact hi f hf
theorem tups_cmp {vs : List Value} (h₀ : Heap) (hp : ∀ v ∈ vs, ∃ ns, TS.TupInts s.heap v ns ∧ TS.intsOf h₀ v = ns) : SrtO.Cmp prog w A s (tuples' true) (fun p => p.1 ∈ vs) (SrtO.lt2 fun v u => lexL (TS.intsOf h₀ v) (TS.intsOf h₀ u)) := by
  intro p q hm hm'
  obtain ⟨ns, tp, ep⟩ := hp _ hm
  obtain ⟨ms, tq, eq2⟩ := hp _ hm'
  show wpAny (model prog w) A (keyLt' (tuples' true) p.1 q.1) (fun r s' => s' = s ∧ r = lexL (TS.intsOf h₀ p.1) (TS.intsOf h₀ q.1)) (fun _ _ => False) s
  rw [ep, eq2]
  obtain ⟨a, xs, e1, ⟨o, ho, hc, n, hdt⟩, i⟩ := tp
  obtain ⟨a', ys, e2, ⟨o', ho', hc', n', hdt'⟩, i'⟩ := tq
  rw [e1, e2]
  refine PySem.W.kat_lt ho hdt ho' hdt' ?_
  have l1 := i.length
  have l2 := i'.length
  rw [Array.length_toList] at l1 l2
  exact lex_ints 0 i i' (by rw [l1, l2]) ⟨rfl, rfl⟩
theorem tups_sortable {a : Addr} {vs : List Value} (h₀ : Heap) (h0 : 0 < vs.length) (hp : ∀ v ∈ vs, ∃ ns, TS.TupInts s.heap v ns ∧ ns ≠ [] ∧ TS.intsOf h₀ v = ns) (ha : ∀ o, s.heap.get? a = some o → o.cls ≠ .type "tuple") :
    SrtO.SortableO prog w A s a vs fun v u => lexL (TS.intsOf h₀ v) (TS.intsOf h₀ u) := by
  intro h' keep
  have hp' : ∀ v ∈ vs, ∃ ns, TS.TupInts h' v ns ∧ ns ≠ [] ∧ TS.intsOf h₀ v = ns := fun v hm => by
    obtain ⟨ns, t, r⟩ := hp v hm
    exact ⟨ns, t.keeps fun b o e c => keep b o (fun z => by subst z; exact ha o e c) e, r⟩
  obtain ⟨fs, h1, h2, h3⟩ := firsts_any vs fun v hm => by obtain ⟨ns, t, r, _⟩ := hp' v hm; exact ⟨ns, t, r⟩
  refine ⟨tuples' true, fun Q E hq => ?_, tups_cmp (s := { s with heap := h' }) h₀ fun v hv => by obtain ⟨ns, t, r, e⟩ := hp' v hv; exact ⟨ns, t, e⟩⟩
  refine PySem.W.kat_kind (T := .type "int") h1 (by omega) (fun f hm => ?_) (by rfl) ?_
  · obtain ⟨x, t, rfl⟩ := h3 f hm
    exact PySem.W.Looks.now
  · have e : (Value.type "int" != Value.type "tuple") = true := by first | decide +kernel | rfl | decide
    rw [e]
    exact hq
end
/-- sorted(xs), a list of tuples of ints -/
def rSortL (K : PySem.W.Frag) : List V → Hp → VK → Prop := fun vs H Q => ∃ (a : Addr) (xs : List V), vs = [V.ref a] ∧ SqL K H a xs ∧ (∀ x ∈ xs, ∃ ns, TupI K H x ns ∧ ns ≠ []) ∧
  ∀ (ys : List V) (p : Addr), ys.Perm xs → ys.Pairwise (fun x y => ∀ n m, TupI K H x n → TupI K H y m → lexL m n = false) → H p = none → Q (.ref p) (L2.upd H p (.lst ys))
theorem cr_sortL {X : Cx} : CallR X (.builtin "sorted") (rSortL X.K) := by
  intro pins s σ H vs us Q I r h
  obtain ⟨a, xs, rfl, hs, hx, q⟩ := h
  obtain ⟨its, rv, hl, hz⟩ := I.list hs
  rw [Vals.ref1 r]
  obtain ⟨e1, e2⟩ := bkV_refs rv fun x m => by
    obtain ⟨ns, ⟨t, e, _⟩, _⟩ := hx x m
    exact ⟨t, e⟩
  have hraw : ∀ v ∈ its, ∃ ns, TS.TupInts s.heap v ns ∧ ns ≠ [] ∧ TS.intsOf s.heap v = ns := fun v hv => by
    obtain ⟨t, rfl⟩ := e2 v hv
    have hm : V.ref t ∈ xs := by
      rw [e1]
      exact List.mem_map.mpr ⟨_, hv, rfl⟩
    obtain ⟨ns, ⟨t', e, ht⟩, hn⟩ := hx _ hm
    cases e
    exact ⟨ns, tupI_raw I ht, hn, (tupI_raw I ht).ints⟩
  refine SrtO.sorted_ord (lexL_swo (TS.intsOf s.heap)) hl.isList (by rw [← rv.length]; exact hz) (fun h2 h₁ a' ha kk => ?_) fun out hso hst => ?_
  · refine tups_sortable (s := { s with heap := h₁ }) s.heap (by omega) (fun v hm => ?_) fun o e => ?_
    · obtain ⟨ns, t, r⟩ := hraw v hm
      exact ⟨ns, t.keeps fun b o e _ => (kk b o e).2, r⟩
    · have e' : some o = some (seqObj "list" its.toArray 0) := e.symm.trans ha
      cases e'
      intro c
      exact absurd (Value.type.inj c) (by decide)
  · obtain ⟨ep, he'⟩ := PyProof.Rows.sortedAll_at s.heap its out.toArray
    have h3 : ∀ u ∈ out, ∃ a, u = Value.ref a := fun u hu => e2 u (hst.perm.mem_iff.mp hu)
    have hp : (out.map bkV).Perm xs := by
      rw [e1]
      exact hst.perm.map bkV
    have hlen : (out.map bkV).length ≤ sizeLine := by
      rw [hp.length_eq]
      exact hz
    refine ⟨.ref _, L2.upd H (s.heap.objs.size + 1) (.lst (out.map bkV)), I.laid (t' := s.toks) (fun _ _ => PyProof.Rows.sortedAll_old) (Nat.le_succ _) ⟨hlen, out, ep, bkV_vals h3, he'⟩, rfl, q _ _ hp ?_ (I.hok.fresh (Nat.le_succ _))⟩
    rw [List.pairwise_map]
    have hmem : out.Pairwise fun u v => u ∈ out ∧ v ∈ out ∧ lexL (TS.intsOf s.heap v) (TS.intsOf s.heap u) = false := by
      have : out.Pairwise fun x y => lexL (TS.intsOf s.heap y) (TS.intsOf s.heap x) = false := hso
      rw [List.pairwise_iff_getElem] at this ⊢
      exact fun i j hi hj hij => ⟨List.getElem_mem hi, List.getElem_mem hj, this i j hi hj hij⟩
    refine hmem.imp fun {u v} ⟨hu, hv, huv⟩ n m hn hm => ?_
    obtain ⟨t, rfl⟩ := h3 u hu
    obtain ⟨t', rfl⟩ := h3 v hv
    obtain ⟨_, et, ht⟩ := hn
    obtain ⟨_, et', ht'⟩ := hm
    cases et; cases et'
    rw [(tupI_raw I ht).ints, (tupI_raw I ht').ints] at huv
    exact huv

/-! ### over data -/
theorem Reps.perm {K : PySem.W.Frag} {F : Hp} {xs ys : List V} (p : ys.Perm xs) : ∀ {ds : List D}, Reps K F xs ds → ∃ es : List D, es.Perm ds ∧ Reps K F ys es := by
  have : ∀ {a b : List V}, a.Perm b → (∀ {ds : List D}, Reps K F b ds → ∃ es : List D, es.Perm ds ∧ Reps K F a es) ∧ (∀ {ds : List D}, Reps K F a ds → ∃ es : List D, es.Perm ds ∧ Reps K F b es) := by
    intro a b p
    induction p with
    | nil => exact ⟨fun h => ⟨_, .refl _, h⟩, fun h => ⟨_, .refl _, h⟩⟩
    | @cons x l m _ ih =>
      constructor
      · intro ds h
        cases h with
        | cons p t => obtain ⟨es, e1, e2⟩ := ih.1 t; exact ⟨_, e1.cons _, .cons p e2⟩
      · intro ds h
        cases h with
        | cons p t => obtain ⟨es, e1, e2⟩ := ih.2 t; exact ⟨_, e1.cons _, .cons p e2⟩
    | @swap x y l =>
      constructor
      · intro ds h
        cases h with
        | cons p t => cases t with
          | cons p2 t => exact ⟨_, .swap _ _ _, .cons p2 (.cons p t)⟩
      · intro ds h
        cases h with
        | cons p t => cases t with
          | cons p2 t => exact ⟨_, .swap _ _ _, .cons p2 (.cons p t)⟩
    | trans _ _ h1 h2 =>
      constructor
      · intro ds h
        obtain ⟨es, e1, e2⟩ := h2.1 h
        obtain ⟨fs, f1, f2⟩ := h1.1 e2
        exact ⟨fs, f1.trans e1, f2⟩
      · intro ds h
        obtain ⟨es, e1, e2⟩ := h1.2 h
        obtain ⟨fs, f1, f2⟩ := h2.2 e2
        exact ⟨fs, f1.trans e1, f2⟩
  intro ds h; exact (this p).1 h
def tI (r : List Int) : D := .tup (r.map .int)
theorem tI_inj {a b : List Int} (h : tI a = tI b) : a = b := by
  have : ∀ {l m : List Int}, l.map D.int = m.map D.int → l = m := by
    intro l
    induction l with
    | nil => intro m h; cases m with
      | nil => rfl
      | cons _ _ => cases h
    | cons a l ih => intro m h; cases m with
      | nil => cases h
      | cons b m =>
        rw [List.map_cons, List.map_cons, List.cons.injEq, D.int.injEq] at h
        rw [h.1, ih h.2]
  exact this (D.tup.inj h)
theorem perm_tI : ∀ (es : List D) (rows : List (List Int)), es.Perm (rows.map tI) → ∃ ms : List (List Int), es = ms.map tI ∧ ms.Perm rows
  | [], L, h => ⟨[], rfl, by
      have := h.length_eq
      rw [List.length_map] at this
      rw [List.eq_nil_of_length_eq_zero this.symm]⟩
  | y :: ys, L, h => by
    obtain ⟨x, hx, rfl⟩ := List.mem_map.mp (h.mem_iff.mp (by simp : y ∈ y :: ys))
    have p := List.perm_cons_erase hx
    have h2 : ys.Perm ((L.erase x).map tI) := (h.trans (p.map tI)).cons_inv
    obtain ⟨lots, rfl, q⟩ := perm_tI ys _ h2
    exact ⟨x :: lots, rfl, (q.cons x).trans p.symm⟩
section
variable {Γ : Gam} {μ : Mem} {Q : D → Mem → Prop}
theorem wc_sortedT {d : D} {rows : List (List Int)} (s : d = .lst (rows.map tI) ∨ ∃ a, d = .loc a ∧ μ a = some (.lst (rows.map tI))) (hne : ∀ r ∈ rows, r ≠ [])
    (q : ∀ ms : List (List Int), ms.Perm rows → ms.Pairwise (fun x y => lexL y x = false) → Q (.lst (ms.map tI)) μ) : WC Γ (.builtin "sorted") [d] μ Q := fun vs F H p r => by
  obtain ⟨v, rfl, g⟩ := reps1 p
  obtain ⟨a, xs, rfl, g1, g2⟩ : ∃ a xs, v = V.ref a ∧ SqL Γ.K H a xs ∧ Reps Γ.K F xs (rows.map tI) := by
    rcases s with rfl | ⟨a, rfl, m⟩
    · cases g with
      | @lst a xs _ h1 h2 => exact ⟨a, xs, rfl, SqL.of (r.same _ _ h1), h2⟩
    · cases g
      obtain ⟨xs, hH, gx⟩ := r.lstAt m
      exact ⟨a, xs, rfl, SqL.of hH, gx⟩
  have tup : ∀ {xs : List V} {rs : List (List Int)}, Reps Γ.K F xs (rs.map tI) → ∀ x ∈ xs, ∃ ns ∈ rs, TupI Γ.K H x ns := by
    intro xs rs h
    induction rs generalizing xs with
    | nil => cases h; intro x hx; cases hx
    | cons n rs ih =>
      cases h with
      | cons p t =>
        intro x hx
        rcases List.mem_cons.mp hx with rfl | hx
        · cases p with
          | tup h1 h2 =>
            obtain rfl := Reps.ints n h2
            exact ⟨n, by simp, _, rfl, same_seqT r.same h1⟩
        · obtain ⟨ns, h1, h2⟩ := ih t x hx
          exact ⟨ns, by simp [h1], h2⟩
  refine semC.mk (r := rSortL Γ.K) (fun X hX => hX.K ▸ cr_sortL) ⟨a, xs, rfl, g1, fun x hx => ?_, fun ys p hp hs hn => ?_⟩
  · obtain ⟨ns, h1, h2⟩ := tup g2 x hx
    exact ⟨ns, h2, hne ns h1⟩
  · obtain ⟨es, h1, h2⟩ := Reps.perm hp g2
    obtain ⟨ms, rfl, h3⟩ := perm_tI es rows h1
    refine post_lst r h2 (q ms h3 ?_) p hn
    have at' : ∀ {xs : List V} {rs : List (List Int)}, Reps Γ.K F xs (rs.map tI) → xs.Pairwise (fun x y => ∀ n m, TupI Γ.K H x n → TupI Γ.K H y m → lexL m n = false) → rs.Pairwise fun x y => lexL y x = false := by
      intro xs rs h
      induction rs generalizing xs with
      | nil => intro _; exact .nil
      | cons n rs ih =>
        cases h with
        | @cons v vs _ _ p t =>
          intro hp
          have hp' := List.pairwise_cons.mp hp
          refine List.Pairwise.cons (fun m hm => ?_) (ih t hp'.2)
          have hv : TupI Γ.K H v n := by
            cases p with
            | tup h1 h2 => obtain rfl := Reps.ints n h2; exact ⟨_, rfl, same_seqT r.same h1⟩
          obtain ⟨i, hi, rfl⟩ := List.mem_iff_getElem.mp hm
          have : ∃ x ∈ vs, TupI Γ.K H x rs[i] := by
            have hget : ∀ {xs : List V} {rs : List (List Int)}, Reps Γ.K F xs (rs.map tI) → ∀ m ∈ rs, ∃ x ∈ xs, TupI Γ.K H x m := by
              intro xs rs h
              induction rs generalizing xs with
              | nil => intro m hm; cases hm
              | cons n rs ih =>
                cases h with
                | cons p t =>
                  intro m hm
                  rcases List.mem_cons.mp hm with rfl | hm
                  · cases p with
                    | tup h1 h2 => obtain rfl := Reps.ints m h2; exact ⟨_, by simp, _, rfl, same_seqT r.same h1⟩
                  · obtain ⟨x, h1, h2⟩ := ih t m hm
                    exact ⟨x, by simp [h1], h2⟩
            exact hget t _ (List.getElem_mem hi)
          obtain ⟨x, hx, tx⟩ := this
          exact hp'.1 x hx _ _ hv tx
    exact at' h2 hs
end
end DL
/-! DL: what the top has left of classes -/
namespace DL
open PySem L2
section
variable {K : PySem.W.Frag} {mg : Str → Option Value} {h : Heap} {x m qual : Str} {C f p : Addr} {st : Stmt} {ps : List Str} {oc : Value} {od an : Option Addr} {sl : Array (Option Value)} {kV dc pm cd ct : Value} {rest : List Value}
theorem ClsD.of (X : K.In h) (G : h.Ns mainGlobals mg) (a : PySem.W.nsIn K mainGlobals x = some (some (.ref C))) (pg : PySem.W.plainGet K C Str.empty = true) (hd : PySem.W.hasDictIn K C = true) (po : PySem.W.plainOver K C = true) (sa : PySem.W.findIn K (.ref C) "__setattr__" = some (some (.builtin "object.__setattr__")))
    (mk : PySem.W.makesIn K C = true) (kc : PySem.W.keepIn K (.ref C) = true) : ClsD K mg x C := ⟨⟨pg, hd, po, sa⟩, PySem.W.mg_of X G a, mk, kc⟩
theorem MT.of (a : PySem.W.findIn K (.ref C) m = some (some (.ref f))) (i : PySem.W.isFn K (.ref f) = true) (l : K.lookup f = some ⟨oc, od, .func (PySem.W.fnOf m qual (defArgs st) (defBody st) (defScope st) .none kV dc pm an cd ct), sl⟩) (c : PySem.W.codeIn K cd qual = true) (k : PySem.W.keepIn K (.ref f) = true)
    (b : ∀ (kV doc pm : Value) (an : Option Addr) (cdv ct : Value) (us : List Value), us.length = ps.length → bindArgs (PySem.W.fnOf m qual (defArgs st) (defBody st) (defScope st) .none kV doc pm an cdv ct) ⟨us, []⟩ = pure (ps.zip us)) : MT K C m qual st ps :=
  ⟨f, _, ⟨a, i, k⟩, fun_mk (st := st) l c k, (fun_mk (st := st) l c k).binds b⟩
theorem PrT.of (a : PySem.W.findIn K (.ref C) m = some (some (.ref p))) (g : PySem.W.specialIn K (.ref p) "__get__" = some (some (.builtin "property.__get__"))) (t : PySem.W.takesIn K (.ref p) = some true) (r : PySem.W.recIn K p "property" = some (.ref f :: rest))
    (l : K.lookup f = some ⟨oc, od, .func (PySem.W.fnOf m qual (defArgs st) (defBody st) (defScope st) .none kV dc pm an cd ct), sl⟩) (c : PySem.W.codeIn K cd qual = true) (k : PySem.W.keepIn K (.ref f) = true)
    (b : ∀ (kV doc pm : Value) (an : Option Addr) (cdv ct : Value) (us : List Value), us.length = ps.length → bindArgs (PySem.W.fnOf m qual (defArgs st) (defBody st) (defScope st) .none kV doc pm an cdv ct) ⟨us, []⟩ = pure (ps.zip us)) : PrT K C m qual st ps :=
  ⟨p, f, _, ⟨a, g, t, rest, r⟩, fun_mk (st := st) l c k, (fun_mk (st := st) l c k).binds b⟩
end
end DL
/-! DL: steps by themselves. walk_at "dl": one step at the goal's head; walk_at "go": as many as go. -/
namespace DL
open PySem L2
theorem szl {n : Nat} (h : n < 16000000) : n < sizeLine := by rw [sizeLine_eq]; omega
theorem szle {n : Nat} (h : n ≤ 16000000) : n ≤ sizeLine := by rw [sizeLine_eq]; omega
theorem ne_fresh {μ : Mem} {a p : Addr} {o : MO} (hm : μ a = some o) (hp : μ p = none) : a ≠ p := fun e => by subst e; rw [hm] at hp; cases hp
theorem if_tt {A B : Prop} (h : A) : (true = true → A) ∧ (true = false → B) := ⟨fun _ => h, fun z => (nomatch z)⟩
theorem if_ff {A B : Prop} (h : B) : (false = true → A) ∧ (false = false → B) := ⟨fun z => (nomatch z), fun _ => h⟩
theorem if_dec {P A B : Prop} [Decidable P] (h1 : P → A) (h2 : ¬ P → B) : (decide P = true → A) ∧ (decide P = false → B) := ⟨fun z => h1 (of_decide_eq_true z), fun z => h2 (of_decide_eq_false z)⟩
theorem if_ndec {P A B : Prop} [Decidable P] (h1 : ¬ P → A) (h2 : P → B) : ((!decide P) = true → A) ∧ ((!decide P) = false → B) := ⟨fun z => h1 (by simpa using z), fun z => h2 (by simpa using z)⟩
theorem if_f_dec {P A B : Prop} [Decidable P] (h1 : ¬ P → A) (h2 : P → B) : (decide P = false → A) ∧ (decide P = true → B) := ⟨fun z => h1 (of_decide_eq_false z), fun z => h2 (of_decide_eq_true z)⟩
theorem if_f_tt {A B : Prop} (h : B) : (true = false → A) ∧ (true = true → B) := ⟨fun z => (nomatch z), fun _ => h⟩
theorem if_f_ff {A B : Prop} (h : A) : (false = false → A) ∧ (false = true → B) := ⟨fun _ => h, fun z => (nomatch z)⟩
theorem if_f_ndec {P A B : Prop} [Decidable P] (h1 : P → A) (h2 : ¬ P → B) : ((!decide P) = false → A) ∧ ((!decide P) = true → B) := ⟨fun z => h1 (by simpa using z), fun z => h2 (by simpa using z)⟩
theorem if_nb {b : Bool} {A B : Prop} (h1 : b = false → A) (h2 : b = true → B) : ((!b) = true → A) ∧ ((!b) = false → B) := by cases b <;> simp_all
theorem if_f_nb {b : Bool} {A B : Prop} (h1 : b = true → A) (h2 : b = false → B) : ((!b) = false → A) ∧ ((!b) = true → B) := by cases b <;> simp_all
theorem ex_rfl {α : Type} {β : Sort _} {f : α → β} {k : α} {P : α → Prop} (h : P k) : ∃ x, f k = f x ∧ P x := ⟨k, rfl, h⟩
section
variable {Γ : Gam} {ρ : Rho} {μ : Mem} {Q : D → Mem → Prop} {a b c e o i : Expr} {pos pos' : Pos} {D' : DEnds}
theorem WE.imp {Q' : D → Mem → Prop} (h : WE Γ e ρ μ Q) (i : ∀ d μ', Q d μ' → Q' d μ') : WE Γ e ρ μ Q' := fun σ F H s r => by
  obtain ⟨t, Q0, h1, h2, h3⟩ := h σ F H s r
  exact ⟨t, Q0, h1, h2, fun v H' q => by
    obtain ⟨F', d, μ', r', x, p, q⟩ := h3 v H' q
    exact ⟨F', d, μ', r', x, p, i _ _ q⟩⟩
theorem ws_putA (hs : ∀ env, swapsWithSole [Expr.Subscript o i pos'] e pos.line env = pure false := by intro _; rfl) (hw : ∀ env, swappedStores [Expr.Subscript o i pos'] e env = pure none := by intro _; rfl)
    (h1 : ∀ env, (assignEach [Expr.Subscript o i pos'] env).map (·.2) = [assign (Expr.Subscript o i pos') env] := by intro _; rfl)
    (ha : ∀ env v, assign (.Subscript o i pos') env v = (do
      let ov ← holding [v] (eval o env)
      let iv ← holding [v, ov] (eval i env)
      standAt pos'
      holding [v, ov, iv] (setItem ov iv v)
      release [v, ov, iv] []) := by intros; rfl)
    (h : WE Γ e ρ μ fun d μ1 => WE Γ o ρ μ1 fun od μ2 => WE Γ i ρ μ2 fun id μ3 => ∃ a, od = .loc a ∧ ∃ k, id = .int k ∧ ∃ ds, μ3 a = some (.lst ds) ∧ ∃ j, ixN ds.length k = some j ∧ D'.nx ρ (μ3.upd a (.lst (ds.set j d)))) : WS Γ (.Assign [.Subscript o i pos'] e pos) ρ μ D' :=
  ws_putL hs hw h1 ha (h.imp fun d μ1 h => h.imp fun od μ2 h => h.imp fun id μ3 h => by
    obtain ⟨a, e1, k, e2, ds, e3, j, e4, q⟩ := h; exact ⟨a, ds, k, j, e1, e2, e3, e4, q⟩)
theorem ws_dputA (hs : ∀ env, swapsWith e (some (.Subscript o i pos')) pos.line env = pure false := by intro _; rfl)
    (h : WE Γ e ρ μ fun d μ1 => WE Γ o ρ μ1 fun od μ2 => WE Γ i ρ μ2 fun kd μ3 => ∃ a, od = .loc a ∧ ∃ k, kd = keyD k ∧ ∃ kvs, μ3 a = some (.dct kvs) ∧ kvs.length < sizeLine ∧ D'.nx ρ (μ3.upd a (.dct (putA kvs k d)))) : WS Γ (.Assign [.Subscript o i pos'] e pos) ρ μ D' :=
  ws_dput hs (h.imp fun d μ1 h => h.imp fun od μ2 h => h.imp fun id μ3 h => by
    obtain ⟨a, e1, k, e2, kvs, e3, e4, q⟩ := h; exact ⟨a, kvs, k, e1, e2, e3, e4, q⟩)
theorem we_dgetA (hs : NoSl i := by exact fun _ _ => rfl) (h : WE Γ o ρ μ fun od μ1 => WE Γ i ρ μ1 fun kd μ2 => ∃ a, od = .loc a ∧ ∃ k, kd = keyD k ∧ ∃ kvs, μ2 a = some (.dct kvs) ∧ ∃ d, getA kvs k = some d ∧ Q d μ2) : WE Γ (.Subscript o i pos) ρ μ Q :=
  we_dget hs (h.imp fun od μ1 h => h.imp fun kd μ2 h => by
    obtain ⟨a, e1, k, e2, kvs, e3, d, e4, q⟩ := h; exact ⟨a, kvs, k, d, e1, e2, e3, e4, q⟩)
theorem we_dinA (h : WE Γ i ρ μ fun kd μ1 => WE Γ o ρ μ1 fun od μ2 => ∃ k, kd = keyD k ∧ ∃ a, od = .loc a ∧ ∃ kvs, μ2 a = some (.dct kvs) ∧ Q (.bl (getA kvs k).isSome) μ2) (hm : behindInMarks .In o = false := by rfl) : WE Γ (.Compare i [.In] [o] pos) ρ μ Q :=
  we_din (h.imp fun kd μ1 h => h.imp fun od μ2 h => by
    obtain ⟨k, e1, a, e2, kvs, e3, q⟩ := h; exact ⟨a, kvs, k, e2, e1, e3, q⟩) hm
theorem wt_dinA {T : Bool → Mem → Prop} (h : WE Γ i ρ μ fun kd μ1 => WE Γ o ρ μ1 fun od μ2 => ∃ k, kd = keyD k ∧ ∃ a, od = .loc a ∧ ∃ kvs, μ2 a = some (.dct kvs) ∧ T (getA kvs k).isSome μ2) (hm : behindInMarks .In o = false := by rfl) : WT Γ (.Compare i [.In] [o] pos) ρ μ T :=
  wt_din (h.imp fun kd μ1 h => h.imp fun od μ2 h => by
    obtain ⟨k, e1, a, e2, kvs, e3, q⟩ := h; exact ⟨a, kvs, k, e2, e1, e3, q⟩) hm
theorem wt_dnotinA {T : Bool → Mem → Prop} (h : WE Γ i ρ μ fun kd μ1 => WE Γ o ρ μ1 fun od μ2 => ∃ k, kd = keyD k ∧ ∃ a, od = .loc a ∧ ∃ kvs, μ2 a = some (.dct kvs) ∧ T (!(getA kvs k).isSome) μ2) (hm : behindInMarks .NotIn o = false := by rfl) : WT Γ (.Compare i [.NotIn] [o] pos) ρ μ T :=
  wt_dnotin (h.imp fun kd μ1 h => h.imp fun od μ2 h => by
    obtain ⟨k, e1, a, e2, kvs, e3, q⟩ := h; exact ⟨a, kvs, k, e2, e1, e3, q⟩) hm
theorem ws_ddelA {tpos : Pos} (h : WE Γ o ρ μ fun od μ2 => WE Γ i ρ μ2 fun kd μ3 => ∃ a, od = .loc a ∧ ∃ k, kd = keyD k ∧ ∃ kvs, μ3 a = some (.dct kvs) ∧ (getA kvs k).isSome = true ∧ D'.nx ρ (μ3.upd a (.dct (dropA kvs k)))) : WS Γ (.Delete [.Subscript o i tpos] pos) ρ μ D' :=
  ws_ddel (h.imp fun od μ2 h => h.imp fun kd μ3 h => by
    obtain ⟨a, e1, k, e2, kvs, e3, e4, q⟩ := h; exact ⟨a, kvs, k, e1, e2, e3, e4, q⟩)
theorem ws_augLA {tpos : Pos} {op : Operator} {f : Int → Int → Int} (ho : ∀ X : Cx, PIp X op (ipI f)) (ha : ∀ ov iv new, augStore i ov iv new = (do holding [new, ov, iv] (setItem ov iv new); release [new, ov, iv] []; pure .next) := by intros; rfl)
    (h : WE Γ o ρ μ fun od μ1 => WE Γ i ρ μ1 fun id μ2 => ∃ a, od = .loc a ∧ ∃ k, id = .int k ∧ ∃ ds, μ2 a = some (.lst ds) ∧ 0 ≤ k ∧ ∃ m, ds[k.toNat]? = some (.int m) ∧
      WE Γ e ρ μ2 fun d μ3 => ∃ n, d = .int n ∧ ∃ ds, μ3 a = some (.lst ds) ∧ k < ds.length ∧ D'.nx ρ (μ3.upd a (.lst (ds.set k.toNat (.int (f m n)))))) : WS Γ (.AugAssign (.Subscript o i tpos) op e pos) ρ μ D' :=
  ws_augL ho ha (h.imp fun od μ1 h => h.imp fun id μ2 h => by
    obtain ⟨a, e1, k, e2, ds, e3, e4, m, e5, h⟩ := h
    exact ⟨a, ds, k, m, e1, e2, e3, e4, e5, h.imp fun d μ3 h => by
      obtain ⟨n, e1, ds, e2, e3, q⟩ := h; exact ⟨n, ds, e1, e2, e3, q⟩⟩)
end
theorem wc_len_tupM {Γ : Gam} {μ : Mem} {Q : D → Mem → Prop} {α : Type} {f : α → D} {xs : List α} (q : Q (.int xs.length) μ) : WC Γ (.builtin "len") [.tup (xs.map f)] μ Q := wc_len_tup (by rw [List.length_map]; exact q)
theorem wc_len_lstM {Γ : Gam} {μ : Mem} {Q : D → Mem → Prop} {α : Type} {f : α → D} {xs : List α} (q : Q (.int xs.length) μ) : WC Γ (.builtin "len") [.lst (xs.map f)] μ Q := wc_len_lst (by rw [List.length_map]; exact q)
theorem atI_mapI {α : Type} (f : α → D) {xs : List α} {i : Int} {x : α} (h0 : 0 ≤ i) (h : xs[i.toNat]? = some x) : atI (xs.map f) i = some (f x) := by
  obtain ⟨n, rfl⟩ := Int.eq_ofNat_of_zero_le h0
  rw [Int.toNat_natCast] at h
  rw [show ((n : Nat) : Int) = ((n : Nat) : Int) from rfl, atI_nat]
  rw [List.getElem?_map, h]; rfl
theorem atI_get0 {xs : List D} {i : Int} {x : D} (h0 : 0 ≤ i) (h : xs[i.toNat]? = some x) : atI xs i = some x := by
  obtain ⟨n, rfl⟩ := Int.eq_ofNat_of_zero_le h0
  exact atI_nat h
theorem atI_mapN {α : Type} (f : α → D) {xs : List α} {i : Nat} {x : α} (h : xs[i]? = some x) : atI (xs.map f) (i : Int) = some (f x) := atI_mapI f (by omega) (by simpa using h)
theorem atI_get {α : Type} (f : α → D) {xs : List α} {i : Int} (h0 : 0 ≤ i) (h : i < xs.length) : atI (xs.map f) i = some (f (xs[i.toNat]'(by omega))) := atI_mapI f h0 (List.getElem?_eq_getElem _)
section
variable {Γ : Gam} {μ : Mem} {Q : D → Mem → Prop} {i : Int} {ns : List Int}
theorem wo_inT (q : Q (.bl (decide (i ∈ ns))) μ) : WO Γ (compareOp .In) (.int i) (.tup (ns.map D.int)) μ Q := wo_inI false (.inl ⟨rfl, rfl⟩) (.inr (.inl rfl)) q
theorem wo_inL (q : Q (.bl (decide (i ∈ ns))) μ) : WO Γ (compareOp .In) (.int i) (.lst (ns.map D.int)) μ Q := wo_inI false (.inl ⟨rfl, rfl⟩) (.inl rfl) q
theorem wo_notinT (q : Q (.bl (!decide (i ∈ ns))) μ) : WO Γ (compareOp .NotIn) (.int i) (.tup (ns.map D.int)) μ Q := wo_inI true (.inr ⟨rfl, rfl⟩) (.inr (.inl rfl)) q
theorem wo_notinL (q : Q (.bl (!decide (i ∈ ns))) μ) : WO Γ (compareOp .NotIn) (.int i) (.lst (ns.map D.int)) μ Q := wo_inI true (.inr ⟨rfl, rfl⟩) (.inl rfl) q
end
section
variable {Γ : Gam} {ρ : Rho} {μ : Mem} {Q : D → Mem → Prop} {e o : Expr} {es : List Expr} {pos : Pos}
theorem we_lmA {m : Str} {id : String} {apos : Pos} (slot : Slot "list" m id) (hty : typeOf (.builtin id) = pure (.type "method_descriptor"))
    (hb : ∀ env, attributeBase o m env (eval o env) = eval o env := by intro _; rfl)
    (hfew : ∀ env, ((backTo pos (starEach (e :: es) env)).all (fun x => !x.1) && (backToKw pos (keywordEach [] env)).all (fun x => x.1.isSome)
      && decide ((e :: es).length + ([] : List Keyword).length + (if ([] : List Keyword).isEmpty then 0 else 1) < 30)) = true := by intro _; rfl)
    (hl : (apos.endLine == pos.line) = true := by rfl) (he : ∀ env, starEach (e :: es) env = (false, eval e env) :: starEach es env := by intro _; rfl) (hpl : ∀ env, (backTo pos (starEach es env)).any (·.1) = false := by intro _; rfl)
    (h : WE Γ o ρ μ fun d μ1 => ∃ a, d = .loc a ∧ ∃ ds0, μ1 a = some (.lst ds0) ∧ WA Γ (e :: es) ρ μ1 fun ds μ2 => WM Γ id d ds μ2 Q) : WE Γ (.Call (.Attribute o m apos) (e :: es) [] pos) ρ μ Q :=
  we_lm slot hty hb hfew hl he hpl (h.imp fun d μ1 ⟨a, e1, ds0, e2, q⟩ => ⟨a, ds0, e1, e2, q⟩)
end
section
variable {Γ : Gam} [hc : Calm Γ] {μ : Mem} {Q : D → Mem → Prop} {α : Type} {f : α → Bool} {xs : List α}
theorem wc_allM (q : Q (.bl (xs.all f)) μ) : WC Γ (.builtin "all") [.lst (xs.map fun x => D.bl (f x))] μ Q :=
  wc_all (bs := xs.map f) (by rw [List.map_map]; rfl) (by rw [List.all_map]; exact q)
theorem wc_allT (q : Q (.bl true) μ) : WC Γ (.builtin "all") [.lst (xs.map fun _ => D.bl true)] μ Q :=
  wc_allM (f := fun _ => true) (by rw [show (xs.all fun _ => true) = true by rw [List.all_eq_true]; intros; rfl]; exact q)
theorem wc_anyM (q : Q (.bl (xs.any f)) μ) : WC Γ (.builtin "any") [.lst (xs.map fun x => D.bl (f x))] μ Q :=
  wc_any (bs := xs.map f) (by rw [List.map_map]; rfl) (by rw [List.any_map]; exact q)
end
theorem cut_from {α : Type} (xs : List α) (k : Nat) : cutD xs (some (k : Int)) none = xs.drop k := by
  unfold cutD
  rw [HT.sIx_nat, HT.sIx_none]
  by_cases h : k ≤ xs.length
  · rw [Nat.min_eq_left h, List.take_of_length_le (by rw [List.length_drop]; omega)]
  · rw [Nat.min_eq_right (by omega), List.drop_length, List.drop_eq_nil_of_le (by omega)]; simp
theorem cut_upto {α : Type} (xs : List α) (k : Nat) : cutD xs none (some (k : Int)) = xs.take k := by
  unfold cutD
  rw [HT.sIx_none, HT.sIx_nat, List.drop_zero, Nat.sub_zero]
  by_cases h : k ≤ xs.length
  · rw [Nat.min_eq_left h]
  · rw [Nat.min_eq_right (by omega), List.take_length, List.take_of_length_le (by omega)]
theorem cut_from1 {α : Type} (xs : List α) : cutD xs (some 1) none = xs.drop 1 := cut_from xs 1
theorem cut_init {α : Type} (xs : List α) : cutD xs none (some (-1)) = xs.dropLast := by
  unfold cutD
  rw [HT.sIx_none, List.drop_zero, Nat.sub_zero, List.dropLast_eq_take]
  congr 1
  show (if (-1 : Int) < 0 then ((-1 : Int) + (xs.length : Int)).toNat else min (-1 : Int).toNat xs.length) = _
  rw [if_pos (by decide)]; omega
theorem atI_getI {ns : List Int} {i : Int} (h0 : 0 ≤ i) (h : i < ns.length) : atI (ns.map D.int) i = some (.int (ns.getD i.toNat 0)) := by
  refine atI_mapI D.int h0 ?_
  rw [List.getD_eq_getElem?_getD, List.getElem?_eq_getElem (by omega)]; rfl
theorem atI_lastM {α : Type} (f : α → D) {xs : List α} {x : α} (h : xs.getLast? = some x) : atI (xs.map f) (-1) = some (f x) := by
  rw [List.getLast?_eq_getElem?] at h
  have hl := (List.getElem?_eq_some_iff.mp h).1
  unfold atI ixN
  rw [if_neg (by decide), if_pos (by rw [List.length_map]; omega), List.length_map]
  show (xs.map f)[((-1 : Int) + (xs.length : Int)).toNat]? = _
  rw [show ((-1 : Int) + (xs.length : Int)).toNat = xs.length - 1 by omega, List.getElem?_map, h]; rfl
theorem atI_lastI {ns : List Int} (h : 0 < ns.length) : atI (ns.map D.int) (-1) = some (.int (ns.getD (ns.length - 1) 0)) := by
  refine atI_lastM D.int ?_
  rw [List.getLast?_eq_getElem?, List.getD_eq_getElem?_getD, List.getElem?_eq_getElem (by omega)]; rfl
theorem mapI_inj {a b : List Int} : a.map D.int = b.map D.int ↔ a = b := by
  constructor
  · intro h
    induction a generalizing b with
    | nil => cases b with | nil => rfl | cons y b => cases h
    | cons x a ih =>
      cases b with
      | nil => cases h
      | cons y b =>
        rw [List.map_cons, List.map_cons] at h
        injection h with h1 h2
        injection h1 with h1
        rw [h1, ih h2]
  · intro h; rw [h]
section
variable {Γ : Gam} {μ : Mem} {Q : D → Mem → Prop} {a b : List Int}
theorem wo_eqIL (q : Q (.bl (decide (a = b))) μ) : WO Γ (compareOp .Eq) (.lst (a.map D.int)) (.lst (b.map D.int)) μ Q :=
  wo_eqP 1 (by simpa [D.nb] using nbs_ints 0 a) (by simpa [D.nb] using nbs_ints 0 b) fun c hc => by
    rw [show c = decide (a = b) by rw [Bool.eq_iff_iff, hc, decide_eq_true_iff, D.lst.injEq, mapI_inj]]; exact q
theorem wo_neIL (q : Q (.bl (!decide (a = b))) μ) : WO Γ (compareOp .NotEq) (.lst (a.map D.int)) (.lst (b.map D.int)) μ Q :=
  wo_neP 1 (by simpa [D.nb] using nbs_ints 0 a) (by simpa [D.nb] using nbs_ints 0 b) fun c hc => by
    rw [show c = !decide (a = b) by rw [Bool.eq_iff_iff, hc, Bool.not_eq_true', decide_eq_false_iff_not, ne_eq, D.lst.injEq, mapI_inj]]; exact q
theorem wo_eqIT (q : Q (.bl (decide (a = b))) μ) : WO Γ (compareOp .Eq) (.tup (a.map D.int)) (.tup (b.map D.int)) μ Q :=
  wo_eqP 1 (by simpa [D.nb] using nbs_ints 0 a) (by simpa [D.nb] using nbs_ints 0 b) fun c hc => by
    rw [show c = decide (a = b) by rw [Bool.eq_iff_iff, hc, decide_eq_true_iff, D.tup.injEq, mapI_inj]]; exact q
theorem wo_neIT (q : Q (.bl (!decide (a = b))) μ) : WO Γ (compareOp .NotEq) (.tup (a.map D.int)) (.tup (b.map D.int)) μ Q :=
  wo_neP 1 (by simpa [D.nb] using nbs_ints 0 a) (by simpa [D.nb] using nbs_ints 0 b) fun c hc => by
    rw [show c = !decide (a = b) by rw [Bool.eq_iff_iff, hc, Bool.not_eq_true', decide_eq_false_iff_not, ne_eq, D.tup.injEq, mapI_inj]]; exact q
end
end DL
/-! DL: sets of ints: set(xs), sorted of it, any size -/
namespace L2
open PySem PySem.Spec PyProof.Rows
section
variable {P : Program} {w : World} {A : Around} {E : Value → Shared → Prop} {s : Shared}
def eS (w : World) : Obj := { cls := .type "set", dict := none, data := .set #[] 0 (.fresh 0 0 (!w.params.followText "set-order")) }
set_option maxHeartbeats 3200000 in
theorem set_of_list {l : Addr} {xs : Array Value} (ns : List Int) {Q : Value → Shared → Prop} (hh : A.handled = none) (hl : s.heap.IsList l xs) (hx : IntsAre xs.toList ns) (hb : ns.length + 1 < scanBound)
    (fin : ∀ (h2 : Heap) (tk c : Nat), SetR w h2 s.heap.objs.size (fun j => decide (j ∈ ns)) c → c ≤ ns.length → (∀ b o, s.heap.get? b = some o → h2.get? b = some o) → Q (.ref s.heap.objs.size) { s with heap := h2, toks := tk }) :
    wpAny (model P w) A (call (.type "set") [.ref l]) Q E s := by
  have size : xs.size = ns.length := by have q := IntsAre.length hx; rwa [Array.length_toList] at q
  obtain ⟨_, _, mro⟩ := F.called_set.mro
  have e1 := F.called_set.made
  have e2 := F.called_set.sub
  refine wpAny_call (codeAny_of_tree ?_)
  show wpAny _ _ (callAny (Value.type "set") _) _ _ _
  refine wpAny_pure ⟨Code.quiet_builtin _ (by decide +kernel), ?_⟩
  refine codeAny_builtin F.entry_type_call ?_
  rw [Around.under_plain (weight_type_call_type "set" _ _) rfl]
  have e3 := F.called_set.notType
  have e4 := F.called_set.canCreate
  have e5 := F.typeCall_set_1 (.ref l)
  repeat (any_goals (first | assumption | wp_step))
  refine codeAny_mono (code_set_led1 (.ref l) (E := E) (Q₁ := fun u t => u = .ref s.heap.objs.size ∧ t = { s with heap := s.heap.push (eS w) }) ⟨rfl, rfl⟩) fun r t hr => ?_
  match r, hr with
  | .error e, hr => exact hr
  | .ok .next, hr => exact hr.elim
  | .ok .brk, hr => exact hr.elim
  | .ok .cont, hr => exact hr.elim
  | .ok (.ret u), hr =>
    obtain ⟨rfl, rfl⟩ := hr
    have at0 : (s.heap.push (eS w)).get? s.heap.objs.size = some (eS w) := Heap.get?_push_size _ rfl
    have ty0 : Shared.TypeIs { s with heap := s.heap.push (eS w) } (.ref s.heap.objs.size) "set" := ⟨_, at0, rfl⟩
    have e6 := F.called_set.init.lookup
    have e7 := F.called_set.init.bind (.ref s.heap.objs.size)
    repeat (any_goals (first | assumption | wp_step))
    refine codeAny_mono (codeAny_call_builtin (R := wants (fun r t => r = .none ∧ ∃ h2 tk c, t = { s with heap := h2, toks := tk } ∧ SetR w h2 s.heap.objs.size (fun j => decide (j ∈ ns)) c ∧ c ≤ ns.length ∧ ∀ b o, s.heap.get? b = some o → h2.get? b = some o) E)
      F.called_set.init.plain F.entry_set_init (check_set_init_1 ty0 ?_)) fun r t hr => ?_
    · obtain ⟨ob, hob, hc, ep, hd⟩ := hl
      obtain ⟨k1, k2, k3, k4⟩ := ob
      simp only at hc hd
      subst hc hd
      have hob' := Heap.get?_push_of_some (o := eS w) hob
      have g1 := F.sub_list_set
      have g2 := F.sub_list_frozenset
      have g3 : (Value.type "list" == Value.type "dict") = false := by decide
      have hl1 : (s.heap.push (eS w)).IsList l xs := ⟨_, hob', rfl, ep, rfl⟩
      unfold Builtin.«set.__init__» noKeywords Builtin.Frozenset.updateFrom
      generalize hPI : pyIter = PI
      wp_walk
      subst hPI
      refine wpAny_pyIter_list hl1 (wpAny_bind (wpAny_runValue ?_))
      have lt : l < s.heap.objs.size := Heap.lt_size hob
      have calm : A.in1.in1.in1.handled = none := by simp [hh]
      have sz : (s.heap.push (eS w)).objs.size = s.heap.objs.size + 1 := Heap.size_push ..
      have ne1 : l ≠ (s.heap.push (eS w)).objs.size := by rw [sz]; exact Nat.ne_of_lt (Nat.lt_succ_of_lt lt)
      have ne2 : s.heap.objs.size ∉ [(s.heap.push (eS w)).objs.size, l] := by
        rw [sz]
        simp only [List.mem_cons, List.not_mem_nil, or_false, not_or]
        exact And.intro (Nat.ne_of_lt (Nat.lt_succ_self _)) (Nat.ne_of_gt lt)
      refine set_update_ints ((Walks.list calm _ l ne1 xs).toS) s.heap.objs.size ne2 ns size hb (fun i v hv => ?_) (xs.size - 0) 0 _ (by omega) (Nat.zero_le _) ⟨⟨_, Heap.get?_push_size _ rfl, rfl, rfl⟩, hl1.push _⟩ ⟨0, Nat.le_refl 0, ?_⟩ fun t c hm hc hS => ?_
      · have hi : i < ns.length := by rw [← size]; exact (Array.getElem?_eq_some_iff.mp hv).1
        obtain ⟨tk, e⟩ := PyProof.Rows.IntsAre.int_at hx i v (by rw [Array.getElem?_toList]; exact hv)
        exact ⟨ns[i], tk, List.getElem?_eq_getElem hi, by rw [e, List.getD_eq_getElem?_getD, List.getElem?_eq_getElem hi] <;> rfl⟩
      · exact setR_new_at (Heap.get?_push_of_some _ at0)
      · obtain ⟨h2, g2, d2, tk2, os2⟩ := t
        obtain rfl : g2 = s.gens := hm.gens
        obtain rfl : d2 = s.drawn := hm.drawn
        obtain rfl : os2 = s.os := hm.os
        show wpAny _ _ _ _ _ _
        refine wpAny_pure ?_
        show wpAny _ _ (ret Value.none) _ _ _
        rw [size] at hc
        refine wpAny_pure ⟨rfl, h2, tk2, c, rfl, hS, hc, fun b o e => hm.heap b o ?_ (Heap.get?_push_of_some _ (Heap.get?_push_of_some _ e))⟩
        have hb0 : b < s.heap.objs.size := Heap.lt_size e
        show b ∉ [s.heap.objs.size, (s.heap.push (eS w)).objs.size]
        rw [sz]
        simp only [List.mem_cons, List.not_mem_nil, or_false, not_or]
        exact And.intro (Nat.ne_of_lt hb0) (Nat.ne_of_lt (Nat.lt_succ_of_lt hb0))
    · match r, hr with
      | .error e, hr => exact hr
      | .ok .next, hr => exact hr.elim
      | .ok .brk, hr => exact hr.elim
      | .ok .cont, hr => exact hr.elim
      | .ok (.ret u), hr =>
        obtain ⟨rfl, h2, tk2, c, rfl, hS, hc, hk⟩ := hr
        repeat (any_goals (first | assumption | wp_step))
        exact fin _ _ _ hS hc hk
/-- sorted of a set of ints, any size -/
theorem sorted_setN {a : Addr} {S : Int → Bool} {n : Nat} {Q : Value → Shared → Prop} (R : SetR w s.heap a S n) (hh : A.handled = none) (hn0 : n ≤ sizeLine)
    (fin : ∀ t p (out : Array Value) (c : Nat) (ns : List Int), (∀ b o, s.heap.get? b = some o → t.heap.get? b = some o) → t.gens = s.gens → t.os = s.os → s.heap.objs.size ≤ p →
      t.heap.get? p = some (seqObj "list" out c) → IntsAre out.toList ns → ns.Pairwise (· < ·) → (∀ k, k ∈ ns ↔ S k = true) → ns.length = n → Q (.ref p) t) :
    wpAny (model P w) A (call (.builtin "sorted") [.ref a]) Q E s := by
  obtain ⟨o, es, ep, tb, ho, hex, hd, good, nd, mem, small, fits, hn, ris, led⟩ := R
  refine Calls.call_function_entry kind_sorted plain_sorted entry_sorted (args_sorted1 _) ?_
  unfold Builtin.«sorted»
  refine wpAny_bind (m := checkCount "sorted" 1 1 _) (wpAny_pure ?_)
  refine wpAny_bind (collect_set hh ⟨o, ho, hex.1, hd⟩ fits small ris led fun t vs keep size g1 o1 pm => ?_)
  have len : vs.length = n := by rw [pm.length_eq, List.length_map, Array.length_toList]; exact hn
  have hI : IntsAre vs (vs.map Builtin.Re.reRawOf) := ints_of vs fun v hv => by
    obtain ⟨e, he, q⟩ := List.mem_map.mp (pm.mem_iff.mp hv)
    obtain ⟨k, tk, h1, _⟩ := good e he
    exact ⟨k, tk, by rw [← q]; exact h1⟩
  have pk : (vs.map Builtin.Re.reRawOf).Perm (es.toList.map keyOf) := by
    have q := pm.map Builtin.Re.reRawOf
    rwa [List.map_map] at q
  refine wpAny_bind (wpAny_newList ?_ (by rw [len]; exact hn0))
  have atL : (t.heap.push (seqObj "list" vs.toArray 0)).get? t.heap.objs.size = some (seqObj "list" vs.toArray 0) := Heap.get?_push_size _ rfl
  refine wpAny_bind (wpAny_holding (wpAny_call_entry slot_list_sort ⟨_, atL, rfl⟩ entry_list_sort (SrtO.list_sort_ord SrtO.swo_int atL (by rw [len]; exact hn0) (fun h2 => SrtO.ints_sortable hI h2) fun out h1 h2 => ⟨_, rfl, ?_⟩) (args_list_sort _)))
  obtain ⟨c, hc⟩ := sortedHeap_at (vs := vs) (out := out.toArray) atL
  obtain ⟨a1, a2, a3⟩ := SrtO.ints_out hI h1 h2
  have pn := a2.trans pk
  refine wpAny_pure ⟨_, rfl, fin _ t.heap.objs.size out.toArray c _ (fun b u e => ?_) g1 o1 size hc a1 (lt_of_le_nodup _ a3 (pn.nodup_iff.mpr nd)) (fun k => by rw [pn.mem_iff, ← mem k]) (by rw [pn.length_eq, List.length_map, Array.length_toList]; exact hn)⟩
  have q := keep b u e
  have hlt := Heap.lt_size q
  show (sortedHeap (t.heap.push (seqObj "list" vs.toArray 0)) t.heap.objs.size vs out.toArray).get? b = some u
  rw [sortedHeap_old (Nat.ne_of_lt hlt) (by rw [size_push']; exact Nat.lt_succ_of_lt hlt)]
  exact Heap.get?_push_of_some _ q
end
/-- set(xs) of a list or a tuple of ints -/
def rSetI (K : PySem.W.Frag) (w : World) : List V → Hp → VK → Prop := fun xs H Q => ∃ (l : Addr) (ns : List Int), xs = [V.ref l] ∧ (SqL K H l (ns.map V.int) ∨ SqT K H l (ns.map V.int)) ∧ ns.length + 1 < scanBound ∧
  ∀ (p : Addr) (c : Nat), H p = none → c ≤ ns.length → Q (.ref p) (upd H p (SetO w p (fun j => decide (j ∈ ns)) c))
def rSortedSetN (w : World) : List V → Hp → VK → Prop := fun vs H Q => ∃ (a : Addr) (S : Int → Bool) (n : Nat), vs = [V.ref a] ∧ H a = some (SetO w a S n) ∧ n ≤ sizeLine ∧
  ∀ (ns : List Int) (p : Addr), ns.Pairwise (· < ·) → (∀ k : Int, k ∈ ns ↔ S k = true) → ns.length = n → H p = none → Q (.ref p) (upd H p (.lst (ns.map V.int)))
section
variable {X : Cx}
theorem cr_setI (hc : X.calm = true) : CallR X (.type "set") (rSetI X.K X.w) := by
  intro pins s σ H xs us Q I r h
  obtain ⟨l, ns, rfl, hs, hb, q⟩ := h
  rw [Vals.ref1 r]
  rcases hs with hs | hs
  · obtain ⟨its, rv, hl, hz⟩ := I.list hs
    refine set_of_list ns (I.ok.hd hc) hl.isList rv.ints hb fun h2 tk c new le keep => ?_
    exact ⟨.ref _, upd H s.heap.objs.size (SetO X.w s.heap.objs.size (fun j => decide (j ∈ ns)) c), I.laid keep (Nat.le_refl _) (setO_new new), rfl, q _ _ (I.hok.fresh (Nat.le_refl _)) le⟩
  · obtain ⟨its, rv, hl⟩ := I.tuple hs
    refine call_set_tupI ns (I.ok.hd hc) hl.1 rv.ints hb fun h2 tk c new le keep => ?_
    exact ⟨.ref _, upd H s.heap.objs.size (SetO X.w s.heap.objs.size (fun j => decide (j ∈ ns)) c), I.laid keep (Nat.le_refl _) (setO_new new), rfl, q _ _ (I.hok.fresh (Nat.le_refl _)) le⟩
theorem cr_sortedSetN (hc : X.calm = true) : CallR X (.builtin "sorted") (rSortedSetN X.w) := by
  intro pins s σ H vs us Q I r h
  obtain ⟨a, S, n, rfl, ha, hn0, q⟩ := h
  rw [Vals.ref1 r]
  refine sorted_setN (setO_get I ha) (I.ok.hd hc) hn0 fun t p out c ns k g o hp hg hi hs hm hl => ?_
  have fresh : H p = none := I.hok.fresh hp
  have J : Inv X pins σ (upd H p (.lst (ns.map V.int))) { s with heap := t.heap, gens := t.gens, drawn := t.drawn, toks := t.toks } :=
    I.call (ch := []) (Un.laid k hp fresh) (I.hok.laid k hp ⟨by rw [List.length_map, hl]; exact hn0, out.toList, c, vals_of_ints hi, hg⟩) (by rw [g]; exact I.bare) (fun _ z => nomatch z)
  have e : t = { s with heap := t.heap, gens := t.gens, drawn := t.drawn, toks := t.toks } := by
    cases t; cases s; cases o; rfl
  rw [e]
  exact ⟨.ref p, _, J, rfl, q ns p hs hm hl fresh⟩
end
end L2
/-! DL: zip of two sequences, each a list or a tuple -/
namespace ZG
open PySem PySem.Spec PyProof.Rows L2
open PySem.Sem (wp)
def Sq (t : Bool) (h : Heap) (l : Addr) (xs : Array Value) : Prop := if t = true then h.IsTuple l xs else h.IsList l xs
def Tn (t : Bool) (h : Heap) (it l : Addr) (k : Nat) : Prop := if t = true then h.IsTupleIter it l k else h.IsListIter it l k
theorem Sq.but {t : Bool} {h g : Heap} {l b : Addr} {xs : Array Value} (x : Sq t h l xs) (e : Heap.ExtBut b h g) (n : l ≠ b) : Sq t g l xs := by
  cases t
  · exact Heap.IsList.extBut x e n
  · exact Heap.IsTuple.extBut x e n
theorem Tn.but {t : Bool} {h g : Heap} {it b l : Addr} {k : Nat} (x : Tn t h it l k) (e : Heap.ExtBut b h g) (n : it ≠ b) : Tn t g it l k := by
  cases t
  · exact Heap.IsListIter.extBut x e n
  · exact Heap.IsTupleIter.extBut x e n
theorem Tn.ob {t : Bool} {h : Heap} {it l : Addr} {k : Nat} (x : Tn t h it l k) : ∃ o, h.get? it = some o ∧ ∀ v, o.data ≠ .cell v := by
  cases t
  · obtain ⟨o, e, _, d⟩ := x; exact ⟨o, e, fun v q => by rw [d] at q; cases q⟩
  · obtain ⟨o, e, _, d⟩ := x; exact ⟨o, e, fun v q => by rw [d] at q; cases q⟩
theorem Tn.keep {t : Bool} {h g : Heap} {it l : Addr} {k : Nat} (x : Tn t h it l k) (e : ∀ o, h.get? it = some o → g.get? it = some o) : Tn t g it l k := by
  cases t
  · exact Heap.IsListIter.at x e
  · exact Heap.IsTupleIter.at x e
theorem Tn.lt {t : Bool} {h : Heap} {it l : Addr} {k : Nat} (x : Tn t h it l k) : it < h.objs.size := by
  obtain ⟨o, e, _⟩ := x.ob; exact Heap.lt_size e
section
variable {prog : Program} {w : World} {A : Around} {E : Value → Shared → Prop} {s : Shared} {t u : Bool}
theorem next_one {it l : Addr} {k : Nat} {xs : Array Value} {x : Value} {Q : Value → Shared → Prop} (a : Tn t s.heap it l k) (b : Sq t s.heap l xs) (c : xs[k]? = some x)
    (q : ∀ g, Tn t g it l (k + 1) → Heap.SameBut it s.heap g → Q x { s with heap := g }) : wpAny (model prog w) A (Builtin.SmallTypes.nextOf (.ref it)) Q E s := by
  cases t
  · exact wpAny_nextOf_list_item a b c q
  · exact RZ.nextOf_tuple_item a b c q
theorem next_end {it l : Addr} {k : Nat} {xs : Array Value} {Q : Value → Shared → Prop} (hh : A.handled = none) (a : Tn t s.heap it l k) (b : Sq t s.heap l xs) (c : xs[k]? = none)
    (q : ∀ g e, Heap.ExtBut it s.heap g → (∃ o, g.get? e = some o ∧ o.cls = .type "StopIteration") → E (.ref e) { s with heap := g }) : wpAny (model prog w) A (Builtin.SmallTypes.nextOf (.ref it)) Q E s := by
  cases t
  · exact wpAny_nextOf_list_end hh a b c q
  · exact RZ.nextOf_tuple_end hh a b c q
variable {z TI TO i1 i2 l1 l2 : Addr} {k1 k2 : Nat} {xs ys : Array Value} {x y a b : Value}
/-- the pair is handed out -/
def Out (s : Shared) (t u : Bool) (z TI TO i1 i2 l1 l2 : Addr) (k1 k2 : Nat) (x y : Value) (g : Heap) : Prop :=
  IsZip g z TI TO (rawInt s.heap.objs.size) ∧ IsPair g TO x y ∧ Tn t g i1 l1 (k1 + 1) ∧ Tn u g i2 l2 (k2 + 1) ∧ IsPair g s.heap.objs.size x y ∧ g.objs.size = s.heap.objs.size + 1 ∧
  ∀ c o, c ≠ z → c ≠ TO → c ≠ i1 → c ≠ i2 → s.heap.get? c = some o → g.get? c = some o
set_option maxHeartbeats 2000000 in
theorem go_one {Q : Value → Shared → Prop} (D : ZipApart z TI TO i1 i2 l1 l2) (hz : IsZip s.heap z TI TO .none) (hI : IsPair s.heap TI (.ref i1) (.ref i2)) (hO : IsPair s.heap TO a b)
    (h1 : Tn t s.heap i1 l1 k1) (h2 : Tn u s.heap i2 l2 k2) (s1 : Sq t s.heap l1 xs) (s2 : Sq u s.heap l2 ys) (hx : xs[k1]? = some x) (hy : ys[k2]? = some y)
    (q : ∀ g, Out s t u z TI TO i1 i2 l1 l2 k1 k2 x y g → Q (.ref s.heap.objs.size) { s with heap := g }) :
    wpAny (model prog w) A (Builtin.«zip.__next__» ⟨[.ref z], []⟩) (fun fin s' => ∃ v, fin = .done (.ret v) ∧ Q v s') E s := by
  show wpAny _ _ (field (Value.ref z) 2 >>= _) _ _ _
  refine wpAny_bind (wpAny_field hz rfl (x := .bool false) rfl (show wpAny _ _ (field (Value.ref z) 3 >>= _) _ _ _ from wpAny_bind (wpAny_field hz rfl (x := .ref TI) rfl (wpAny_bind (wpAny_seqItems hI rfl ?_)))))
  refine (show wpAny _ _ (Builtin.SmallTypes.ownedTupleIsFree (Value.ref z) >>= _) _ _ _ from wpAny_bind ?_)
  unfold Builtin.SmallTypes.ownedTupleIsFree
  refine wpAny_bind (wpAny_field hz rfl (x := Value.none) rfl (wpAny_pure ?_))
  simp only [if_true]
  refine wpAny_bind (wpAny_rule (wpAny_bind (wpAny_field hz rfl (x := Value.ref TO) rfl (wpAny_bind (wpAny_setField_rec hz (by simp) fun g1 z1 e1 => ?_)))))
  have z1 : IsZip g1 z TI TO .ellipsis := z1
  refine wpAny_bind ?_
  simp only [List.zipIdx_cons, List.zipIdx_nil, List.forIn_cons, List.forIn_nil]
  refine wpAny_bind (wpAny_bind (wpAny_onRaise (show wpAny _ _ (Builtin.SmallTypes.nextOf (Value.ref i1) >>= _) _ _ _ from wpAny_bind (next_one (h1.but e1.extBut D.i1z) (s1.but e1.extBut D.l1z) hx fun g2 n2 e2 => wpAny_pure ?_))))
  have o2 : IsPair g2 TO a b := e2.extBut _ _ D.TOi1 (e1.extBut _ _ D.TOz hO)
  refine wpAny_bind (wpAny_seqItems o2 rfl (wpAny_bind (wpAny_updateSeq_pair o2 fun g3 o3 e3 => ?_)))
  have o3 : IsPair g3 TO x b := o3
  refine wpAny_bind (wpAny_letGo (wpAny_pure (wpAny_bind (wpAny_bind (wpAny_onRaise (show wpAny _ _ (Builtin.SmallTypes.nextOf (Value.ref i2) >>= _) _ _ _ from wpAny_bind ?_)))))  )
  refine next_one (((h2.but e1.extBut D.i2z).but e2.extBut D.i12.symm).but e3.extBut D.TOi2.symm) (((s2.but e1.extBut D.l2z).but e2.extBut D.l2i1).but e3.extBut D.l2TO) hy fun g4 n4 e4 => wpAny_pure ?_
  have o4 : IsPair g4 TO x b := e4.extBut _ _ D.TOi2 o3
  refine wpAny_bind (wpAny_seqItems o4 rfl (wpAny_bind (wpAny_updateSeq_pair o4 fun g5 o5 e5 => ?_)))
  have o5 : IsPair g5 TO x y := o5
  refine wpAny_bind (wpAny_letGo (wpAny_pure (wpAny_pure (wpAny_bind (wpAny_seqItems o5 rfl (wpAny_bind (wpAny_newTuple ?_)))))))
  have size : g5.objs.size = s.heap.objs.size := by rw [e5.1, e4.1, e3.1, e2.1, e1.1]
  have z5 : IsZip g5 z TI TO .ellipsis := e5.extBut _ _ D.TOz.symm (e4.extBut _ _ D.i2z.symm (e3.extBut _ _ D.TOz.symm (e2.extBut _ _ D.i1z.symm z1)))
  have keep : ∀ c o, c ≠ z → c ≠ TO → c ≠ i1 → c ≠ i2 → s.heap.get? c = some o → g5.get? c = some o := fun c o n1 n2 n3 n4 e => e5.extBut _ _ n2 (e4.extBut _ _ n4 (e3.extBut _ _ n2 (e2.extBut _ _ n3 (e1.extBut _ _ n1 e))))
  have m1 : Tn t g5 i1 l1 (k1 + 1) := ((n2.but e3.extBut D.TOi1.symm).but e4.extBut D.i12).but e5.extBut D.TOi1.symm
  have m2 : Tn u g5 i2 l2 (k2 + 1) := n4.but e5.extBut D.TOi2.symm
  have zlt : z < g5.objs.size := Heap.lt_size z5
  refine (show wpAny _ _ (Builtin.SmallTypes.ownedTupleHandOut (Value.ref z) (Value.ref g5.objs.size) >>= _) _ _ _ from wpAny_bind ?_)
  unfold Builtin.SmallTypes.ownedTupleHandOut
  have z6 : IsZip (g5.push { cls := .type "tuple", data := .seq #[x, y] }) z TI TO .ellipsis := Heap.get?_push_of_some _ z5
  refine wpAny_bind (wpAny_setField_rec z6 (by simp) fun g7 z7 e7 => ?_)
  have z7 : IsZip g7 z TI TO (rawInt g5.objs.size) := z7
  refine wpAny_setField_rec z7 (by simp) fun g8 z8 e8 => ?_
  have z8 : IsZip g8 z TI TO (rawInt g5.objs.size) := z8
  have on : ∀ c o, c ≠ z → g5.get? c = some o → g8.get? c = some o := fun c o n e => e8.extBut _ _ n (e7.extBut _ _ n (Heap.get?_push_of_some _ e))
  have p8 : IsPair g8 g5.objs.size x y := e8.extBut _ _ (Nat.ne_of_gt zlt) (e7.extBut _ _ (Nat.ne_of_gt zlt) (Heap.get?_push_size _ rfl))
  have w8 : g8.objs.size = g5.objs.size + 1 := by rw [e8.1, e7.1, Heap.size_push]
  rw [size] at z8 p8 w8
  refine wpAny_pure ⟨_, rfl, ?_⟩
  show Q (Value.ref g5.objs.size) _
  rw [size]
  exact q g8 ⟨z8, on _ _ D.TOz o5, m1.keep fun o e => on _ o D.i1z e, m2.keep fun o e => on _ o D.i2z e, p8, w8, fun c o n1 n2 n3 n4 e => on c o n1 (keep c o n1 n2 n3 n4 e)⟩
set_option maxHeartbeats 2000000 in
theorem go_end {Q : Fin → Shared → Prop} (hh : A.handled = none) (D : ZipApart z TI TO i1 i2 l1 l2) (hz : IsZip s.heap z TI TO .none) (hI : IsPair s.heap TI (.ref i1) (.ref i2)) (hO : IsPair s.heap TO a b)
    (h1 : Tn t s.heap i1 l1 k1) (h2 : Tn u s.heap i2 l2 k2) (s1 : Sq t s.heap l1 xs) (s2 : Sq u s.heap l2 ys) (he : xs[k1]? = none ∨ ys[k2]? = none)
    (q : ∀ g e, (∀ c o, c ≠ z → c ≠ TO → c ≠ i1 → c ≠ i2 → s.heap.get? c = some o → g.get? c = some o) → (∃ o, g.get? e = some o ∧ o.cls = .type "StopIteration") → E (.ref e) { s with heap := g }) :
    wpAny (model prog w) A (Builtin.«zip.__next__» ⟨[.ref z], []⟩) Q E s := by
  show wpAny _ _ (field (Value.ref z) 2 >>= _) _ _ _
  refine wpAny_bind (wpAny_field hz rfl (x := .bool false) rfl (show wpAny _ _ (field (Value.ref z) 3 >>= _) _ _ _ from wpAny_bind (wpAny_field hz rfl (x := .ref TI) rfl (wpAny_bind (wpAny_seqItems hI rfl ?_)))))
  refine (show wpAny _ _ (Builtin.SmallTypes.ownedTupleIsFree (Value.ref z) >>= _) _ _ _ from wpAny_bind ?_)
  unfold Builtin.SmallTypes.ownedTupleIsFree
  refine wpAny_bind (wpAny_field hz rfl (x := Value.none) rfl (wpAny_pure ?_))
  simp only [if_true]
  refine wpAny_bind (wpAny_rule (wpAny_bind (wpAny_field hz rfl (x := Value.ref TO) rfl (wpAny_bind (wpAny_setField_rec hz (by simp) fun g1 z1 e1 => ?_)))))
  have z1 : IsZip g1 z TI TO .ellipsis := z1
  refine wpAny_bind ?_
  simp only [List.zipIdx_cons, List.zipIdx_nil, List.forIn_cons, List.forIn_nil]
  refine wpAny_bind (wpAny_bind (wpAny_onRaise (show wpAny _ _ (Builtin.SmallTypes.nextOf (Value.ref i1) >>= _) _ _ _ from wpAny_bind ?_)))
  cases hx : xs[k1]? with
  | none =>
    refine next_end hh (h1.but e1.extBut D.i1z) (s1.but e1.extBut D.l1z) hx fun g2 e e2 ⟨oe, ge, ce⟩ => ?_
    have z2 : IsZip g2 z TI TO .ellipsis := e2 _ _ D.i1z.symm z1
    have ne : e ≠ z := fun x => by subst x; rw [z2] at ge; cases ge; simp at ce
    exact wpAny_setField_rec z2 (by simp) fun g3 _ e3 => q g3 e (fun c o n1 _ n3 _ x => e3.extBut _ _ n1 (e2 _ _ n3 (e1.extBut _ _ n1 x))) ⟨oe, e3.extBut _ _ ne ge, ce⟩
  | some x =>
    have hy : ys[k2]? = none := by
      rcases he with h | h
      · rw [hx] at h; cases h
      · exact h
    refine next_one (h1.but e1.extBut D.i1z) (s1.but e1.extBut D.l1z) hx fun g2 n2 e2 => wpAny_pure ?_
    have o2 : IsPair g2 TO a b := e2.extBut _ _ D.TOi1 (e1.extBut _ _ D.TOz hO)
    refine wpAny_bind (wpAny_seqItems o2 rfl (wpAny_bind (wpAny_updateSeq_pair o2 fun g3 o3 e3 => ?_)))
    refine wpAny_bind (wpAny_letGo (wpAny_pure (wpAny_bind (wpAny_bind (wpAny_onRaise (show wpAny _ _ (Builtin.SmallTypes.nextOf (Value.ref i2) >>= _) _ _ _ from wpAny_bind ?_))))))
    refine next_end hh (((h2.but e1.extBut D.i2z).but e2.extBut D.i12.symm).but e3.extBut D.TOi2.symm) (((s2.but e1.extBut D.l2z).but e2.extBut D.l2i1).but e3.extBut D.l2TO) hy fun g4 e e4 ⟨oe, ge, ce⟩ => ?_
    have z4 : IsZip g4 z TI TO .ellipsis := e4 _ _ D.i2z.symm (e3.extBut _ _ D.TOz.symm (e2.extBut _ _ D.i1z.symm z1))
    have ne : e ≠ z := fun x => by subst x; rw [z4] at ge; cases ge; simp at ce
    exact wpAny_setField_rec z4 (by simp) fun g5 _ e5 => q g5 e (fun c o n1 n2 n3 n4 x => e5.extBut _ _ n1 (e4 _ _ n4 (e3.extBut _ _ n2 (e2.extBut _ _ n3 (e1.extBut _ _ n1 x))))) ⟨oe, e5.extBut _ _ ne ge, ce⟩
theorem py_one {Q : Option Value → Shared → Prop} (D : ZipApart z TI TO i1 i2 l1 l2) (hz : IsZip s.heap z TI TO .none) (hI : IsPair s.heap TI (.ref i1) (.ref i2)) (hO : IsPair s.heap TO a b)
    (h1 : Tn t s.heap i1 l1 k1) (h2 : Tn u s.heap i2 l2 k2) (s1 : Sq t s.heap l1 xs) (s2 : Sq u s.heap l2 ys) (hx : xs[k1]? = some x) (hy : ys[k2]? = some y)
    (q : ∀ g, Out s t u z TI TO i1 i2 l1 l2 k1 k2 x y g → Q (some (.ref s.heap.objs.size)) { s with heap := g }) : wpAny (model prog w) A (pyNext (.ref z)) Q E s := by
  have T : s.TypeIs (.ref z) "zip" := ⟨_, hz, rfl⟩
  unfold pyNext
  refine wpAny_bind (wpAny_attempt (wpAny_callSpecial?_slot (name := Str.ofString "__next__") T F.slot_zip_next (wpAny_call_entry F.slot_zip_next T F.entry_zip_next ?_ (F.args_zip_next_1 _))))
  exact go_one D hz hI hO h1 h2 s1 s2 hx hy fun g o => wpAny_pure (q g o)
theorem py_end {Q : Option Value → Shared → Prop} (hh : A.handled = none) (D : ZipApart z TI TO i1 i2 l1 l2) (hz : IsZip s.heap z TI TO .none) (hI : IsPair s.heap TI (.ref i1) (.ref i2)) (hO : IsPair s.heap TO a b)
    (h1 : Tn t s.heap i1 l1 k1) (h2 : Tn u s.heap i2 l2 k2) (s1 : Sq t s.heap l1 xs) (s2 : Sq u s.heap l2 ys) (he : xs[k1]? = none ∨ ys[k2]? = none)
    (q : ∀ g, (∀ c o, c ≠ z → c ≠ TO → c ≠ i1 → c ≠ i2 → s.heap.get? c = some o → g.get? c = some o) → Q none { s with heap := g }) : wpAny (model prog w) A (pyNext (.ref z)) Q E s := by
  have T : s.TypeIs (.ref z) "zip" := ⟨_, hz, rfl⟩
  unfold pyNext
  refine wpAny_bind (wpAny_attempt (wpAny_callSpecial?_slot (name := Str.ofString "__next__") T F.slot_zip_next (wpAny_call_entry F.slot_zip_next T F.entry_zip_next ?_ (F.args_zip_next_1 _))))
  refine go_end hh D hz hI hO h1 h2 s1 s2 he fun g e keep ⟨o, ho, hc⟩ => ?_
  exact wpAny_bind (wpAny_isInstance (T := "StopIteration") (b := true) ⟨o, ho, hc⟩ isSubtype_stop (wpAny_pure (q _ keep)))
/-- the heap behind zip(l1, l2) -/
structure New (t u : Bool) (s : Shared) (l1 l2 : Addr) (g : Heap) : Prop where
  hz : IsZip g (s.heap.objs.size + 4) (s.heap.objs.size + 2) (s.heap.objs.size + 3) .none
  hI : IsPair g (s.heap.objs.size + 2) (.ref s.heap.objs.size) (.ref (s.heap.objs.size + 1))
  hO : IsPair g (s.heap.objs.size + 3) .none .none
  h1 : Tn t g s.heap.objs.size l1 0
  h2 : Tn u g (s.heap.objs.size + 1) l2 0
  keep : ∀ c o, s.heap.get? c = some o → g.get? c = some o
end
abbrev itN (t : Bool) : String := if t = true then "tuple_iterator" else "list_iterator"
abbrev H1 (t : Bool) (h : Heap) (l1 : Addr) : Heap := h.push { cls := .type (itN t), data := .fields #[.ref l1, .int 0 0] }
abbrev H2 (t u : Bool) (h : Heap) (l1 l2 : Addr) : Heap := (H1 t h l1).push { cls := .type (itN u), data := .fields #[.ref l2, .int 0 0] }
abbrev H3 (t u : Bool) (h : Heap) (l1 l2 : Addr) : Heap := (H2 t u h l1 l2).push { cls := .type "tuple", data := .seq #[.ref h.objs.size, .ref (H1 t h l1).objs.size] }
abbrev H4 (t u : Bool) (h : Heap) (l1 l2 : Addr) : Heap := (H3 t u h l1 l2).push { cls := .type "tuple", data := .seq #[.none, .none] }
abbrev H5 (t u : Bool) (h : Heap) (l1 l2 : Addr) : Heap := (H4 t u h l1 l2).push { cls := .type "zip", data := .fields #[.none, .bool false, .bool false, .ref (H2 t u h l1 l2).objs.size, .ref (H3 t u h l1 l2).objs.size] }
set_option maxHeartbeats 8000000 in
theorem made (t u : Bool) (l1 l2 : Addr) (xs ys : Array Value) :
    Meets (Builtin.«zip.__new__» ⟨[.type "zip", .ref l1, .ref l2], []⟩) (fun _ R s => Sq t s.heap l1 xs ∧ Sq u s.heap l2 ys ∧ R (.ok (.ret (.ref (H4 t u s.heap l1 l2).objs.size))) { s with heap := H5 t u s.heap l1 l2 }) :=
  .of_wp fun prog w A R s h => by
    obtain ⟨hp, g, d, tk, os⟩ := s
    obtain ⟨a1, a2, h⟩ := h
    have hsub := sub_zip
    cases t <;> cases u
    · have b1 : Heap.IsList (Shared.heap ⟨hp, g, d, tk, os⟩) l1 xs := a1
      have b2 : Heap.IsList (Shared.heap ⟨hp.push { cls := Value.type "list_iterator", data := .fields #[.ref l1, .int 0 0] }, g, d, tk, os⟩) l2 ys := Heap.IsList.push a2 _
      wp_walk using wpAny_pyIter_list b1, wpAny_pyIter_list b2
      exact ⟨_, rfl, h⟩
    · have b1 : Heap.IsList (Shared.heap ⟨hp, g, d, tk, os⟩) l1 xs := a1
      have b2 : Heap.IsTuple (Shared.heap ⟨hp.push { cls := Value.type "list_iterator", data := .fields #[.ref l1, .int 0 0] }, g, d, tk, os⟩) l2 ys := Heap.IsTuple.push a2 _
      wp_walk using wpAny_pyIter_list b1, wpAny_pyIter_tuple b2
      exact ⟨_, rfl, h⟩
    · have b1 : Heap.IsTuple (Shared.heap ⟨hp, g, d, tk, os⟩) l1 xs := a1
      have b2 : Heap.IsList (Shared.heap ⟨hp.push { cls := Value.type "tuple_iterator", data := .fields #[.ref l1, .int 0 0] }, g, d, tk, os⟩) l2 ys := Heap.IsList.push a2 _
      wp_walk using wpAny_pyIter_tuple b1, wpAny_pyIter_list b2
      exact ⟨_, rfl, h⟩
    · have b1 : Heap.IsTuple (Shared.heap ⟨hp, g, d, tk, os⟩) l1 xs := a1
      have b2 : Heap.IsTuple (Shared.heap ⟨hp.push { cls := Value.type "tuple_iterator", data := .fields #[.ref l1, .int 0 0] }, g, d, tk, os⟩) l2 ys := Heap.IsTuple.push a2 _
      wp_walk using wpAny_pyIter_tuple b1, wpAny_pyIter_tuple b2
      exact ⟨_, rfl, h⟩
section
variable {prog : Program} {w : World} {A : Around} {E : Value → Shared → Prop} {s : Shared} {t u : Bool}
theorem call_zipG {l1 l2 : Addr} {xs ys : Array Value} {Q : Value → Shared → Prop} (s1 : Sq t s.heap l1 xs) (s2 : Sq u s.heap l2 ys)
    (q : ∀ g, New t u s l1 l2 g → Q (.ref (s.heap.objs.size + 4)) { s with heap := g }) : wpAny (model prog w) A (call (.type "zip") [.ref l1, .ref l2]) Q E s := by
  refine callType_new F.called_zip (by decide) (F.typeCall_zip_2 _ _) (F.newCall_zip_2 _ _) (fun obj => F.args_object_init_3 obj _ _) F.entry_zip_new (made t u l1 l2 xs ys) ⟨s1, s2, ?_⟩
  have z1 : (H1 t s.heap l1).objs.size = s.heap.objs.size + 1 := Heap.size_push ..
  have z2 : (H2 t u s.heap l1 l2).objs.size = s.heap.objs.size + 2 := by rw [Heap.size_push, z1]
  have z3 : (H3 t u s.heap l1 l2).objs.size = s.heap.objs.size + 3 := by rw [Heap.size_push, z2]
  have z4 : (H4 t u s.heap l1 l2).objs.size = s.heap.objs.size + 4 := by rw [Heap.size_push, z3]
  have up {h : Heap} {c : Addr} {o p : Obj} (e : h.get? c = some o) : (h.push p).get? c = some o := Heap.get?_push_of_some _ e
  have g5 : (H5 t u s.heap l1 l2).get? (H4 t u s.heap l1 l2).objs.size = some _ := Heap.get?_push_size _ rfl
  have g4 : (H5 t u s.heap l1 l2).get? (H3 t u s.heap l1 l2).objs.size = some _ := up (Heap.get?_push_size _ rfl)
  have g3 : (H5 t u s.heap l1 l2).get? (H2 t u s.heap l1 l2).objs.size = some _ := up (up (Heap.get?_push_size _ rfl))
  have g2 : (H5 t u s.heap l1 l2).get? (H1 t s.heap l1).objs.size = some _ := up (up (up (Heap.get?_push_size _ rfl)))
  have g1 : (H5 t u s.heap l1 l2).get? s.heap.objs.size = some _ := up (up (up (up (Heap.get?_push_size _ rfl))))
  show _ ∧ _
  rw [z2, z3, z4] at g5
  rw [z1, z2] at g3
  rw [z3] at g4
  rw [z1] at g2
  rw [z4]
  refine ⟨⟨_, g5, rfl⟩, q _ ⟨g5, g3, g4, ?_, ?_, fun c o x => up (up (up (up (up x))))⟩⟩
  · cases t <;> exact ⟨_, g1, rfl, rfl⟩
  · cases u <;> exact ⟨_, g2, rfl, rfl⟩
end
/-! ### as a walk -/
def SqV (t : Bool) (K : PySem.W.Frag) (H : Hp) (a : Addr) (xs : List V) : Prop := if t = true then SqT K H a xs else SqL K H a xs
theorem SqV.at_ {X : Cx} {t : Bool} {pins : List (Addr × Obj)} {σ : L2.St} {H : Hp} {s : Shared} {a : Addr} {xs : List V} (I : Inv X pins σ H s) (h : SqV t X.K H a xs) : ∃ its : List Value, Vals xs its ∧ Sq t s.heap a its.toArray ∧ xs.length ≤ sizeLine := by
  cases t
  · obtain ⟨its, r, p, z⟩ := I.list h; exact ⟨its, r, p.isList, z⟩
  · obtain ⟨its, r, p, z⟩ := I.tuple h; exact ⟨its, r, p, z⟩
theorem SqV.inj {X : Cx} {t : Bool} {pins : List (Addr × Obj)} {σ : L2.St} {H : Hp} {s : Shared} {a : Addr} {xs ys : List V} (I : Inv X pins σ H s) (h : SqV t X.K H a xs) (k : SqV t X.K H a ys) : xs = ys := by
  cases t
  · exact I.list_inj h k
  · exact I.tuple_inj h k
def Itg (t u : Bool) (K : PySem.W.Frag) (a b : Addr) : It :=
  ⟨fun i H => ∃ (xs ys : List V) (x y : V), SqV t K H a xs ∧ SqV u K H b ys ∧ xs[i]? = some x ∧ ys[i]? = some y,
   fun i H v H' => ∃ T x y, v = .ref T ∧ H T = none ∧ H' = upd H T (.tup [x, y]) ∧ (∀ xs, SqV t K H a xs → xs[i]? = some x) ∧ ∀ ys, SqV u K H b ys → ys[i]? = some y,
   fun i H => ∃ xs ys : List V, SqV t K H a xs ∧ SqV u K H b ys ∧ (xs.length ≤ i ∨ ys.length ≤ i)⟩
theorem turn_zipG {P : Program} {w : World} {K : PySem.W.Frag} {t u : Bool} {elts : List Expr} {kk : Nat} {tpos : Pos} {a b z TI TO i1 i2 : Addr} (D : ZipApart z TI TO i1 i2 a b) :
    Turn P w K (.Tuple elts kk tpos) (Itg t u K a b) [z, TI, TO, i1, i2] z (fun i h => IsZip h z TI TO .none ∧ IsPair h TI (.ref i1) (.ref i2) ∧ (∃ x y, IsPair h TO x y) ∧ Tn t h i1 a i ∧ Tn u h i2 b i) where
  mem := by simp
  obj := fun i h st c hc => by
    obtain ⟨hz, hI, ⟨x, y, hO⟩, h1, h2⟩ := st
    simp only [List.mem_cons, List.not_mem_nil, or_false] at hc
    rcases hc with rfl | rfl | rfl | rfl | rfl
    · exact ⟨_, hz, fun v q => nomatch q⟩
    · exact ⟨_, hI, fun v q => nomatch q⟩
    · exact ⟨_, hO, fun v q => nomatch q⟩
    · exact h1.ob
    · exact h2.ob
  keep := fun i h g st k => by
    obtain ⟨hz, hI, ⟨x, y, hO⟩, h1, h2⟩ := st
    exact ⟨k z (by simp) _ hz, k TI (by simp) _ hI, ⟨x, y, k TO (by simp) _ hO⟩, h1.keep fun o q => k i1 (by simp) o q, h2.keep fun o q => k i2 (by simp) o q⟩
  item := by
    intro X hP hw hK hc i pins s σ H E I hf st hg
    subst hP hw hK
    obtain ⟨hz, hI, ⟨x0, y0, hO⟩, h1, h2⟩ := st
    obtain ⟨xs, ys, x, y, qx, qy, hx, hy⟩ := hg
    obtain ⟨v1, r1, p1, _⟩ := SqV.at_ I qx
    obtain ⟨v2, r2, p2, _⟩ := SqV.at_ I qy
    obtain ⟨e1, m1, n1⟩ := r1.get hx
    obtain ⟨e2, m2, n2⟩ := r2.get hy
    have zl : z < s.heap.objs.size := Heap.lt_size hz
    refine py_one D hz hI hO h1 h2 p1 p2 (x := e1) (y := e2) (by simpa using m1) (by simpa using m2) fun g ⟨z', TO', a1, a2, hT, hsz, keep⟩ => ?_
    refine ⟨_, rfl, wpAny_letOwnedTupleGo_zip (s := { s with heap := g }) z' fun g2 z2 sb => ?_⟩
    have new : ObjOk X.prog X.w (upd H s.heap.objs.size (.tup [x, y])) g2 s.heap.objs.size (.tup [x, y]) := by
      refine ⟨?_, [e1, e2], .cons n1 (.cons n2 .nil), ⟨_, (sb.2 _ (Nat.ne_of_gt zl)).trans hT, rfl, _, rfl⟩⟩
      show 2 ≤ sizeLine
      decide
    have five : ∀ c, c ∉ [z, TI, TO, i1, i2] → c ≠ z ∧ c ≠ TO ∧ c ≠ i1 ∧ c ≠ i2 := fun c hb => by
      simp only [List.mem_cons, List.not_mem_nil, or_false, not_or] at hb
      exact ⟨hb.1, hb.2.2.1, hb.2.2.2.1, hb.2.2.2.2⟩
    have J : Inv X pins σ (upd H s.heap.objs.size (.tup [x, y])) { s with heap := g2 } :=
      I.turnedNew (t' := s.toks) (ch := [z, TI, TO, i1, i2]) (fun c o hb q => (sb.2 c (five c hb).1).trans (keep c o (five c hb).1 (five c hb).2.1 (five c hb).2.2.1 (five c hb).2.2.2 q)) hf (Nat.le_refl _) new
    refine ⟨.ref s.heap.objs.size, _, J, rfl, ⟨_, x, y, rfl, I.hok.fresh (Nat.le_refl _), rfl, fun l hl => by rw [SqV.inj I hl qx]; exact hx, fun l hl => by rw [SqV.inj I hl qy]; exact hy⟩, ⟨z2, ?_, ⟨e1, e2, ?_⟩, ?_, ?_⟩, fun c hcm => ?_⟩
    · exact (sb.2 _ D.TIz).trans (keep _ _ D.TIz D.TITO D.TIi1 D.TIi2 hI)
    · exact (sb.2 _ D.TOz).trans TO'
    · exact a1.keep fun o q => (sb.2 _ D.i1z).trans q
    · exact a2.keep fun o q => (sb.2 _ D.i2z).trans q
    · have hlt : c < s.heap.objs.size := by
        have hcm' := hcm
        simp only [List.mem_cons, List.not_mem_nil, or_false] at hcm'
        rcases hcm' with rfl | rfl | rfl | rfl | rfl
        · exact zl
        · exact Heap.lt_size hI
        · exact Heap.lt_size hO
        · exact h1.lt
        · exact h2.lt
      rw [upd_ne (Nat.ne_of_lt hlt)]
      exact (hf c hcm).1
  done := by
    intro X hP hw hK hc i pins s σ H E I hf st hg
    subst hP hw hK
    obtain ⟨hz, hI, ⟨x0, y0, hO⟩, h1, h2⟩ := st
    obtain ⟨xs, ys, qx, qy, hend⟩ := hg
    obtain ⟨v1, r1, p1, _⟩ := SqV.at_ I qx
    obtain ⟨v2, r2, p2, _⟩ := SqV.at_ I qy
    have he : v1.toArray[i]? = none ∨ v2.toArray[i]? = none := by
      have l1 := r1.length
      have l2 := r2.length
      rcases hend with q | q
      · exact .inl (by simp; omega)
      · exact .inr (by simp; omega)
    refine py_end (I.ok.hd hc) D hz hI hO h1 h2 p1 p2 he fun g keep => ⟨rfl, I.turnedL (t' := s.toks) (ch := [z, TI, TO, i1, i2]) (fun c o hb q => ?_) hf⟩
    simp only [List.mem_cons, List.not_mem_nil, or_false, not_or] at hb
    exact keep c o hb.1 hb.2.2.1 hb.2.2.2.1 hb.2.2.2.2 q
  self := fun A i s Q E st h => wpAny_pyIter_zip st.1 h
def iZipG (K : PySem.W.Frag) (ta : TA) : TI := fun σ H R => ta σ H fun vs H1 => ∃ (t u : Bool) (a b : Addr) (xs ys : List V), vs = [.ref a, .ref b] ∧ SqV t K H1 a xs ∧ SqV u K H1 b ys ∧ R (Itg t u K a b) H1
theorem pi_zipG {X : Cx} {e e2 : Expr} {ta : TA} {p pos tpos : Pos} {elts : List Expr} {kk : Nat} (hg : Gl X "zip") (hm : X.mg "zip" = none) (ha : PA X [e, e2] ta)
    (hs : starEach [e, e2] X.env = (false, eval e X.env) :: starEach [e2] X.env := by rfl) (hpl : (backTo pos (starEach [e2] X.env)).any (·.1) = false := by rfl) :
    PI X (.Tuple elts kk tpos) (.Call (.Name "zip" p) [e, e2] [] pos) (iZipG X.K ta) := by
  refine ⟨fun pins s σ H R I h => Call_ (ld_blt I hg hm PyProof.Rows.boot_zip (PyProof.Rows.callWith_type1 (thn (ha.run pos pins s σ H _ I h) fun us s1 ⟨vs, H1, I1, r1, q1⟩ => ?_) hs hpl))⟩
  obtain ⟨t, u, a, b, xs, ys, rfl, qx, qy, q⟩ := q1
  cases r1 with
  | cons r rr =>
    cases rr with
    | cons r' rr =>
      cases rr; cases r; cases r'
      obtain ⟨v1, g1, p1, _⟩ := SqV.at_ I1 qx
      obtain ⟨v2, g2, p2, _⟩ := SqV.at_ I1 qy
      have lt {t : Bool} {l : Addr} {vs : Array Value} (p : Sq t s1.heap l vs) : l < s1.heap.objs.size := by
        cases t
        · obtain ⟨o, ho, _⟩ := p; exact Heap.lt_size ho
        · obtain ⟨o, ho, _⟩ := p; exact Heap.lt_size ho
      refine call_zipG p1 p2 fun g N => wpAny_pyIter_zip N.hz ?_
      have I2 : Inv X pins σ H1 { s1 with heap := g } := I1.kept (t' := s1.toks) N.keep
      refine ⟨s1.heap.objs.size + 4, [s1.heap.objs.size + 4, s1.heap.objs.size + 2, s1.heap.objs.size + 3, s1.heap.objs.size, s1.heap.objs.size + 1], _, _, H1, rfl, I2, turn_zipG (PySem.W.ktu_apart s1.heap.objs.size a b (lt p1) (lt p2)), ⟨N.hz, N.hI, ⟨_, _, N.hO⟩, N.h1, N.h2⟩, fun c hc => ?_, q⟩
      have le : s1.heap.objs.size ≤ c := by
        simp only [List.mem_cons, List.not_mem_nil, or_false] at hc
        rcases hc with rfl | rfl | rfl | rfl | rfl
        · exact Nat.le_add_right _ _
        · exact Nat.le_add_right _ _
        · exact Nat.le_add_right _ _
        · exact Nat.le_refl _
        · exact Nat.le_add_right _ _
      exact I1.fpOk le (I1.hok.fresh le)
end ZG
namespace DL
open PySem L2
def zipD (ds es : List D) : List D := (ds.zip es).map fun q => D.tup [q.1, q.2]
theorem zipD_length (ds es : List D) : (zipD ds es).length = min ds.length es.length := by unfold zipD; simp
theorem zipD_get {ds es : List D} {i : Nat} {d : D} (h : (zipD ds es)[i]? = some d) : ∃ x y, ds[i]? = some x ∧ es[i]? = some y ∧ d = .tup [x, y] := by
  unfold zipD at h
  rw [List.getElem?_map] at h
  cases q : (ds.zip es)[i]? with
  | none => rw [q] at h; cases h
  | some p =>
    rw [q] at h
    rw [List.getElem?_zip_eq_some] at q
    exact ⟨p.1, p.2, q.1, q.2, (Option.some.inj h).symm⟩
theorem iter_zip {K : PySem.W.Frag} {F1 : Hp} {t u : Bool} {a b : Addr} {xs ys : List V} {ds es : List D} (h1 : ZG.SqV t K F1 a xs) (h2 : ZG.SqV u K F1 b ys) (g1 : Reps K F1 xs ds) (g2 : Reps K F1 ys es) : IterOk K F1 (ZG.Itg t u K a b) (zipD ds es) where
  go := fun i F H μ s r d e => by
    have mv {t : Bool} {a : Addr} {xs : List V} (h : ZG.SqV t K F1 a xs) : ZG.SqV t K H a xs := by
      cases t
      · exact r.same.seq (s.seq h)
      · exact same_seqT r.same (same_seqT s h)
    obtain ⟨x, y, hx, hy, rfl⟩ := zipD_get e
    obtain ⟨v, k1, k2⟩ := g1.get hx
    obtain ⟨w, k3, k4⟩ := g2.get hy
    refine ⟨⟨xs, ys, v, w, mv h1, mv h2, k1, k3⟩, fun z H' ⟨T, x', y', e1, hT, e2, f1, f2⟩ => ?_⟩
    subst e1 e2
    have a1 := f1 xs (mv h1)
    have a2 := f2 ys (mv h2)
    rw [k1] at a1; cases a1
    rw [k3] at a2; cases a2
    obtain ⟨r2, x2⟩ := r.layF hT (.tup [v, w])
    exact ⟨_, r2, x2, .tup (.inl (.inl L2.upd_same)) (.cons ((k2.mono s).mono x2.fr) (.cons ((k4.mono s).mono x2.fr) .nil))⟩
  stop := fun i F H μ s r hl => by
    have mv {t : Bool} {a : Addr} {xs : List V} (h : ZG.SqV t K F1 a xs) : ZG.SqV t K H a xs := by
      cases t
      · exact r.same.seq (s.seq h)
      · exact same_seqT r.same (same_seqT s h)
    refine ⟨xs, ys, mv h1, mv h2, ?_⟩
    rw [g1.length, g2.length]
    rw [zipD_length] at hl
    omega
abbrev LT (d : D) (ds : List D) : Prop := d = .lst ds ∨ d = .tup ds
theorem lt_at {K : PySem.W.Frag} {F : Hp} {v : V} {d : D} {ds : List D} (h : LT d ds) (p : Rep K F v d) : ∃ t a xs, v = .ref a ∧ ZG.SqV t K F a xs ∧ Reps K F xs ds := by
  rcases h with rfl | rfl
  · cases p with | lst g1 g2 => exact ⟨false, _, _, rfl, SqL.of g1, g2⟩
  · cases p with | tup g1 g2 => exact ⟨true, _, _, rfl, g1, g2⟩
section
variable {Γ : Gam} {ρ : Rho} {μ : Mem} {a b : Expr} {p pos tpos : Pos} {R : List D → Mem → Prop} {elts : List Expr} {kk : Nat}
theorem wi_zip (hm : Γ.mg "zip" = none) (hg : GlD Γ "zip" := by rfl) (hs : ∀ env, starEach [a, b] env = (false, eval a env) :: starEach [b] env := by intro _; rfl) (hs2 : ∀ env, starEach [b] env = (false, eval b env) :: starEach [] env := by intro _; rfl) (hp : ∀ env, (backTo pos (starEach [b] env)).any (·.1) = false := by intro _; rfl)
    (h : WE Γ a ρ μ fun d μ1 => ∃ ds, LT d ds ∧ WE Γ b ρ μ1 fun e μ2 => ∃ es, LT e es ∧ R (zipD ds es) μ2) : WI Γ (.Tuple elts kk tpos) (.Call (.Name "zip" p) [a, b] [] pos) ρ μ R := fun σ F H s r => by
  have ha : WA Γ [a, b] ρ μ fun xs μ1 => ∃ d e ds es, xs = [d, e] ∧ LT d ds ∧ LT e es ∧ R (zipD ds es) μ1 :=
    wa_cons (hs := hs) (h := h.imp fun d μ1 ⟨ds, h1, h⟩ => wa_cons (hs := hs2) (h := h.imp fun e μ2 ⟨es, h2, q⟩ => wa_nil ⟨d, e, ds, es, rfl, h1, h2, q⟩))
  refine semI.mk (wi := ZG.iZipG Γ.K (semA Γ [a, b])) (fun X hX => ?_) (ha.go s r fun vs F1 H1 xs μ1 r1 e1 s1 p1 q1 => ?_)
  · have := ZG.pi_zipG (X := X) (p := p) (pos := pos) (tpos := tpos) (elts := elts) (kk := kk) (hX.gl hg) (by rw [hX.mg]; exact hm) (pa_sem hX [a, b]) (hs _) (hp _)
    rw [hX.K] at this; exact this
  · obtain ⟨d, e, ds, es, rfl, h1, h2, q⟩ := q1
    obtain ⟨v, w, rfl, g1, g2⟩ := reps2 p1
    obtain ⟨t, x, xs, rfl, k1, k2⟩ := lt_at h1 g1
    obtain ⟨u, y, ys, rfl, k3, k4⟩ := lt_at h2 g2
    have mv {t : Bool} {a : Addr} {xs : List V} (h : ZG.SqV t Γ.K F1 a xs) : ZG.SqV t Γ.K H1 a xs := by
      cases t
      · exact r1.same.seq h
      · exact same_seqT r1.same h
    exact ⟨t, u, x, y, xs, ys, rfl, mv k1, mv k3, F1, μ1, _, r1, e1, iter_zip k1 k3 k2 k4, q⟩
end
end DL
/-! DL: min of tuples of ints, a dict's values, walks over dicts, sorted of sets -/
namespace L2
open PySem PySem.Spec PyProof.Rows
/-! ### min of a list of tuples of ints -/
theorem argBest_le (bt : Nat → Nat → Bool) : ∀ k, argBest bt k ≤ k
  | 0 => Nat.le_refl _
  | k + 1 => by
    unfold argBest
    split
    · exact Nat.le_refl _
    · exact Nat.le_succ_of_le (argBest_le bt k)
theorem argBest_lex (f : Nat → List Int) : ∀ k j, j ≤ k → DL.lexL (f j) (f (argBest (fun i j => DL.lexL (f i) (f j)) k)) = false
  | 0, j, h => by
    obtain rfl : j = 0 := by omega
    show DL.lexL (f 0) (f 0) = false
    cases e : DL.lexL (f 0) (f 0) with
    | false => rfl
    | true => have := DL.lexL_asym _ _ e; rw [e] at this; cases this
  | k + 1, j, h => by
    unfold argBest
    by_cases b : DL.lexL (f (k + 1)) (f (argBest (fun i j => DL.lexL (f i) (f j)) k)) = true
    · rw [if_pos b]
      by_cases e : j = k + 1
      · subst e
        cases q : DL.lexL (f (k + 1)) (f (k + 1)) with
        | false => rfl
        | true => have := DL.lexL_asym _ _ q; rw [q] at this; cases this
      · exact DL.lexL_tr _ _ _ (DL.lexL_asym _ _ b) (argBest_lex f k j (by omega))
    · rw [if_neg b]
      by_cases e : j = k + 1
      · subst e; simpa using b
      · exact argBest_lex f k j (by omega)
theorem lexLt_eq : ∀ a b, HT.lexLt a b = DL.lexL a b
  | [], [] => rfl
  | [], _ :: _ => rfl
  | _ :: _, [] => rfl
  | x :: xs, y :: ys => by
    rw [HT.lexLt_cons, lexLt_eq xs ys]; rfl
def rMinT (K : PySem.W.Frag) : List V → Hp → VK → Prop := fun vs H Q => ∃ (a : Addr) (xs : List V), vs = [V.ref a] ∧ SqL K H a xs ∧ xs ≠ [] ∧ (∀ x ∈ xs, ∃ ns, TupI K H x ns) ∧
  ∀ x, x ∈ xs → (∀ y, y ∈ xs → ∀ n m, TupI K H x n → TupI K H y m → DL.lexL m n = false) → Q x H
theorem cr_minT {X : Cx} (hc : X.calm = true) (hu : X.A.units + 64 < cLine) : CallR X (.builtin "min") (rMinT X.K) := by
  intro pins s σ H vs us Q I r h
  obtain ⟨a, xs, rfl, hs, hne, hx, q⟩ := h
  obtain ⟨its, rv, hl, hz⟩ := I.list hs
  rw [Vals.ref1 r]
  obtain ⟨e1, e2⟩ := bkV_refs rv fun x m => by
    obtain ⟨ns, t, e, _⟩ := hx x m
    exact ⟨t, e⟩
  have raw : ∀ v ∈ its, ∃ t ns, v = Value.ref t ∧ SqT X.K H t (ns.map V.int) ∧ TS.TupInts s.heap v ns := fun v hv => by
    obtain ⟨t, rfl⟩ := e2 v hv
    obtain ⟨ns, t', e, ht⟩ := hx (V.ref t) (by rw [e1]; exact List.mem_map.mpr ⟨_, hv, rfl⟩)
    cases e
    exact ⟨t, ns, rfl, ht, tupI_raw I ht⟩
  have hlen : 0 < its.length := by rw [← rv.length]; exact List.length_pos_iff.mpr hne
  let f : Nat → List Int := fun i => (its[i]?.map (TS.intsOf s.heap)).getD []
  have hL := hl.isList
  have hlt : a < s.heap.objs.size := hl.lt
  refine call_min_walkH (wpAny_pyIter_list hL ?_)
  refine ⟨_, _, _, _, its.toArray.size, _, _, s.heap, fun i j => DL.lexL (f i) (f j), rfl, (Walks.list (prog := X.prog) (w := X.w) (A := X.A.in1) (by simp [I.ok.hd hc]) s.heap.objs.size a (Nat.ne_of_lt hlt) its.toArray).toS, ⟨⟨_, Heap.get?_push_size _ rfl, rfl, rfl⟩, hL.push _⟩, fun b hb => ?_, by simpa using hlen, fun b o e => ?_, fun b o e => Heap.get?_push_of_some _ e, ?_, fun v s' hP hm => ?_⟩
  · simp only [List.mem_cons, List.not_mem_nil, or_false] at hb
    show b < (s.heap.push _).objs.size
    rw [Heap.size_push]
    rcases hb with rfl | rfl
    · exact Nat.lt_succ_self _
    · exact Nat.lt_succ_of_lt hlt
  · have := Heap.lt_size e
    exact fun z => absurd this (by rw [List.mem_singleton.mp z]; exact Nat.lt_irrefl _)
  · intro i j vi vj t Q E keep hi hj hq
    rw [List.getElem?_toArray] at hi hj
    obtain ⟨ti, ni, rfl, hti, rawi⟩ := raw vi (List.mem_of_getElem? hi)
    obtain ⟨tj, nj, rfl, htj, rawj⟩ := raw vj (List.mem_of_getElem? hj)
    obtain ⟨vi2, ri, pi, _⟩ := I.tuple hti
    obtain ⟨vj2, rj, pj, _⟩ := I.tuple htj
    have fi : f i = ni := by show (its[i]?.map _).getD [] = _; rw [hi]; exact rawi.ints
    have fj : f j = nj := by show (its[j]?.map _).getD [] = _; rw [hj]; exact rawj.ints
    replace hq : Q (.bool (DL.lexL (f i) (f j))) t := hq
    rw [fi, fj] at hq
    exact HT.lt_tupInts (pi.keeps keep) (pj.keeps keep) (intsAre_of ri) (intsAre_of rj) (by show X.A.units + 1 < _; omega) (by rw [lexLt_eq]; exact hq)
  · have hP' := hP
    rw [List.getElem?_toArray] at hP'
    have hsz : its.toArray.size = its.length := by simp
    rw [hsz] at hP'
    obtain ⟨x, hx1⟩ : ∃ x, xs[argBest (fun i j => DL.lexL (f i) (f j)) (its.length - 1)]? = some x := by
      have h1 := argBest_le (fun i j => DL.lexL (f i) (f j)) (its.length - 1)
      exact ⟨_, List.getElem?_eq_getElem (by rw [rv.length]; omega)⟩
    obtain ⟨u0, hu0, hx2⟩ := rv.get hx1
    obtain rfl : u0 = v := Option.some.inj (hu0.symm.trans hP')
    have I2 : Inv X pins σ H s' := by
      have eh : s' = { s with heap := s'.heap, toks := s'.toks } := by
        have := Moved.eq_with hm
        exact this
      rw [eh]
      refine I.kept (t' := s'.toks) fun b o e => hm.heap b o (fun z => ?_) (Heap.get?_push_of_some _ e)
      exact absurd (Heap.lt_size e) (by rw [List.mem_singleton.mp z]; exact Nat.lt_irrefl _)
    refine ⟨x, H, I2, hx2, q x (List.mem_of_getElem? hx1) fun y hy n m hn hm2 => ?_⟩
    obtain ⟨j, hj⟩ := List.getElem?_of_mem hy
    obtain ⟨u, hu1, hu2⟩ := rv.get hj
    have hjl : j < its.length := by
      by_cases z : j < its.length
      · exact z
      · rw [List.getElem?_eq_none (by omega)] at hu1; cases hu1
    obtain ⟨t, rfl, ht⟩ := hn
    obtain ⟨t', rfl, ht'⟩ := hm2
    obtain rfl : u0 = Value.ref t := hx2
    obtain rfl : u = Value.ref t' := hu2
    have key := argBest_lex f (its.length - 1) j (by omega)
    have f1 : f j = m := by show (its[j]?.map _).getD [] = _; rw [hu1]; exact (tupI_raw I ht').ints
    have f2 : f (argBest (fun i j => DL.lexL (f i) (f j)) (its.length - 1)) = n := by show (its[_]?.map _).getD [] = _; rw [hP']; exact (tupI_raw I ht).ints
    rw [f1, f2] at key
    exact key
end L2
namespace L2
open PySem PySem.Spec PyProof.Rows
/-! ### list(d.values()) -/
def viewP (p d : Addr) : HO := .ext fun h => h.IsValuesView p d
theorem viewP_ok {P : Program} {w : World} {H : Hp} {h : Heap} {p d : Addr} (e : h.IsValuesView p d) : ObjOk P w H h p (viewP p d) := by
  obtain ⟨o, ho, r⟩ := e
  exact ⟨⟨o, ho, r⟩, ⟨o, ho⟩, fun h1 h2 ⟨u, hu, q⟩ k => ⟨u, k _ hu, q⟩⟩
section
variable {X : Cx} {o : Expr} {to : TE} {apos cpos : Pos}
def tVals (to : TE) : TE := fun σ H Q => to σ H fun x H1 => ∃ a kvs, x = V.ref a ∧ Rd H1 a (.dK kvs) ∧ ∀ p, H1 p = none → Q (.ref p) (upd H1 p (viewP p a))
theorem pe_vals (ho : PE X o to) (hbase : attributeBase o "values" X.env (eval o X.env) = eval o X.env := by rfl) (hline : (apos.endLine == cpos.line) = true := by rfl) : PE X (.Call (.Attribute o "values" apos) [] [] cpos) (tVals to) := by
  refine ⟨fun pins s σ H Q I h => wpAny_Call_method0_late hbase hline (thn (ho.run pins s σ H _ I h) fun v s1 ⟨x, H1, I1, r1, a, kvs, ex, hd, q⟩ => ?_)⟩
  subst ex
  obtain rfl : v = Value.ref a := r1
  obtain ⟨_, sys, vs, rel, dof⟩ := dk_rd I1.hok hd
  obtain ⟨ep, dat⟩ := dof.dictAt
  obtain ⟨ob, es, hob, ex, _⟩ := id dat
  refine ⟨"dict", "dict.values", F.plainAttrs_dict, F.slot_dict_values, F.type_dict_values, ⟨ob, hob, ex.1⟩, fun b e => ?_, Calls.callWith_builtin rfl (PySem.evalArgs_none ?_)⟩
  · cases e
    exact ⟨ob, hob, ex.2.1⟩
  refine call_meetsIn F.slot_dict_values ⟨ob, hob, ex.1⟩ F.entry_dict_values (F.args_dict_values_1 _) (meets_dict_values (mixKind X.prog X.w) a sys) ⟨⟨vs, dof⟩, ?_⟩
  refine ⟨.ref s1.heap.objs.size, _, I1.laid (t' := s1.toks) (fun b u e => Heap.get?_push_of_some _ e) (Nat.le_refl _) (viewP_ok ⟨_, Heap.get?_push_size _ rfl, rfl, rfl⟩), rfl, q _ (I1.hok.fresh (Nat.le_refl _))⟩
def rListVals : List V → Hp → VK → Prop := fun xs H Q => ∃ (p a : Addr) (kvs : List (Key × V)), xs = [.ref p] ∧ H p = some (viewP p a) ∧ Rd H a (.dK kvs) ∧ ∀ l, H l = none → Q (.ref l) (upd H l (.lst (kvs.map (·.2))))
theorem kv_vals : ∀ {kvs : List (Key × V)} {vs : List (Key × Value)} {us : List Value}, KV kvs vs → us.length = vs.length → (∀ (j : Nat) (v : Value), us[j]? = some v → ∃ k, vs[j]? = some (k, v)) → Vals (kvs.map (·.2)) us := by
  intro kvs vs us h
  induction h generalizing us with
  | nil =>
    intro hl _
    cases us with
    | nil => exact .nil
    | cons u us => cases hl
  | @cons x y l1 l2 h t ih =>
    intro hl hg
    cases us with
    | nil => cases hl
    | cons u us =>
      obtain ⟨k, e⟩ := hg 0 u rfl
      obtain rfl := Option.some.inj e
      exact .cons h.2 (ih (by simpa using hl) fun j v e => hg (j + 1) v e)
theorem cr_listVals (hcalm : X.calm = true) : CallR X (.type "list") rListVals := by
  intro pins s σ H xs us Q I r q
  obtain ⟨p, a, kvs, ex, hp, hd, q⟩ := q
  subst ex
  rw [Vals.ref1 r]
  have view : s.heap.IsValuesView p a := (I.hok p _ hp).1
  obtain ⟨z, lo, vs, rel, dd⟩ := dk_rd I.hok hd
  obtain ⟨ep, hat⟩ := dd.dictAt
  refine PySem.W.kdl_call (PySem.W.kdl_values (knd := mixKind X.prog X.w) (kvs := vs) (ep := ep)) (I.ok.hd hcalm) ⟨view, hat⟩ (by rw [← rel.length]; exact z) fun h' tk acc c' hk hD hacc => ?_
  have hv : Vals (kvs.map (·.2)) acc.toList := kv_vals rel (by rw [Array.length_toList]; exact hacc.1) fun j v e => hacc.2 j v (by rw [← Array.getElem?_toList]; exact e)
  refine ⟨.ref s.heap.objs.size, upd H s.heap.objs.size (.lst (kvs.map (·.2))), I.laid (t' := tk) hk (Nat.le_refl _) ?_, rfl, q _ (I.hok.fresh (Nat.le_refl _))⟩
  show ObjOk X.prog X.w _ _ _ (.lst _)
  exact ⟨by rw [List.length_map]; exact z, acc.toList, c', hv, by rw [Array.toArray_toList]; exact hD⟩
end
end L2
namespace DL
open PySem L2
section
variable {Γ : Gam} {ρ : Rho} {μ : Mem} {Q : D → Mem → Prop} {e o a : Expr} {pos p apos cpos : Pos} {tg iter : Expr}
/-- what stands in memory may be forgotten behind an expression -/
theorem we_drop (h : WE Γ e ρ μ fun d μ1 => ∃ μ2 : Mem, μ2.Sub μ1 ∧ Q d μ2) : WE Γ e ρ μ Q := fun σ F H s r => by
  obtain ⟨t, Q0, h1, h2, h3⟩ := h σ F H s r
  refine ⟨t, Q0, h1, h2, fun v H' q => ?_⟩
  obtain ⟨F', d, μ', r', x, p, μ2, z, q⟩ := h3 v H' q
  exact ⟨F', d, μ2, r'.drop z, x.drop z, p, q⟩
/-- a dict, walked over or not -/
def DctAt (μ : Mem) (a : Addr) (kds : List (Key × D)) : Prop := μ a = some (.dct kds) ∨ ∃ od vs, μ a = some (.fdct od vs kds)
theorem Rel.rdAt {K : PySem.W.Frag} {F H : Hp} (r : Rel K F H μ) {a : Addr} {kds : List (Key × D)} (m : DctAt μ a kds) : ∃ kvs, Rd H a (.dK kvs) ∧ KReps K F kvs kds := by
  rcases m with m | ⟨od, vs, m⟩
  · obtain ⟨xs, hH, g⟩ := r.dctAt m
    exact ⟨xs, .inl hH, g⟩
  · obtain ⟨_, ho, hH, hr⟩ := r.mem a _ m
    cases hr with | fdct _ h => exact ⟨_, .inr ⟨_, hH⟩, h⟩
theorem we_dgetF (hs : NoSl a := by exact fun _ _ => rfl) (h : WE Γ o ρ μ fun od μ1 => WE Γ a ρ μ1 fun kd μ2 => ∃ ad, od = .loc ad ∧ ∃ k, kd = keyD k ∧ ∃ kvs, DctAt μ2 ad kvs ∧ ∃ d, getA kvs k = some d ∧ Q d μ2) : WE Γ (.Subscript o a pos) ρ μ Q := fun σ F H s r =>
  semE.mk (fun X hX => pe_dget hX.u1 (pe_sem hX o) (pe_sem hX a) hs) (h.go s r fun ov F1 H1 od μ1 r1 e1 s1 p1 h1 => h1.go s1 r1 fun iv F2 H2 kd μ2 r2 e2 s2 p2 h2 => by
    obtain ⟨ad, rfl, k, rfl, kvs, m, d, g, q⟩ := h2
    cases p1
    obtain rfl := rep_key p2
    obtain ⟨ks, hH, kr⟩ := r2.rdAt m
    obtain ⟨v, hv, rv⟩ := kr.some g
    exact ⟨ad, v, rfl, hv ▸ .inl ⟨ks, k, hH, rfl, rfl⟩, .ext (e1.trans e2) (.now r2 rv q)⟩)
theorem KReps.vals {K : PySem.W.Frag} {F : Hp} : ∀ {a : List (Key × V)} {b : List (Key × D)}, KReps K F a b → Reps K F (a.map (·.2)) (b.map (·.2))
  | _, _, .nil => .nil
  | _, _, .cons r t => .cons r (KReps.vals t)
/-- list(d.values()) -/
theorem we_listVals [hc : Calm Γ] (hm : Γ.mg "list" = none) (hg : GlD Γ "list" := by rfl) (hb : ∀ env, attributeBase o "values" env (eval o env) = eval o env := by intro _; rfl) (hl : (apos.endLine == cpos.line) = true := by rfl)
    (he : ∀ env, starEach [Expr.Call (.Attribute o "values" apos) [] [] cpos] env = (false, eval (Expr.Call (.Attribute o "values" apos) [] [] cpos) env) :: starEach [] env := by intro _; rfl) (hpl : ∀ env, (backTo pos (starEach [] env)).any (·.1) = false := by intro _; rfl)
    (h : WE Γ o ρ μ fun od μ1 => ∃ ad, od = .loc ad ∧ ∃ kvs, DctAt μ1 ad kvs ∧ Q (.lst (kvs.map (·.2))) μ1) : WE Γ (.Call (.Name "list" p) [.Call (.Attribute o "values" apos) [] [] cpos] [] pos) ρ μ Q := fun σ F H s r =>
  semE.mk (fun X hX => pe_callTy (cr_listVals (hX.calm hc.h)) (hX.gl hg) (by rw [hX.mg]; exact hm) bt_list (pa_cons (pe_vals (pe_sem hX o) (hb _) hl) pa_nil (he _)) (by decide) (by decide) (he _) (hpl _)) (h.go s r fun ov F1 H1 od μ1 r1 e1 s1 p1 h1 => by
    obtain ⟨ad, rfl, kvs, m, q⟩ := h1
    cases p1
    obtain ⟨ks, hH, kr⟩ := r1.rdAt m
    refine ⟨ad, ks, rfl, hH, fun v hv => ?_⟩
    obtain ⟨r2, e2⟩ := r1.junk hv (viewP v ad)
    have hne : ad ≠ v := fun z => by
      subst z
      rcases hH with hH | ⟨_, hH⟩ <;> · rw [hH] at hv; cases hv
    refine ⟨v, ad, ks, rfl, L2.upd_same, ?_, fun l hl => ?_⟩
    · rcases hH with hH | ⟨od, hH⟩
      · exact .inl (by rw [L2.upd_ne hne]; exact hH)
      · exact .inr ⟨od, by rw [L2.upd_ne hne]; exact hH⟩
    · exact Post.ext (e1.trans e2) (post_lst r2 kr.vals q l hl))
/-- what is walked over may not change: within, the dict is locked -/
theorem we_lock (ad : Addr) {kds : List (Key × D)} (m : μ ad = some (.dct kds))
    (h : ∀ od vs, WE Γ e ρ (μ.upd ad (.fdct od vs kds)) fun d μ1 => μ1 ad = some (.fdct od vs kds) ∧ Q d (μ1.upd ad (.dct kds))) : WE Γ e ρ μ Q := fun σ F H s r => by
  obtain ⟨hF, ho, hH, hr⟩ := r.mem ad _ m
  cases hr with
  | @dct kvs _ kr =>
    refine semE.mk (t := tLockE (semE Γ e)) (fun X hX => pe_lock (pe_sem hX e)) ⟨ad, _, hH, trivial, fun od => ?_⟩
    obtain ⟨r1, e1⟩ := r.put m (.fdct od kr)
    refine (h od kvs).go s r1 fun v F2 H2 d μ2 r2 e2 s2 p2 ⟨m2, q⟩ => ?_
    obtain ⟨hF2, ho2, hH2, hr2⟩ := r2.mem ad _ m2
    cases hr2 with
    | fdct _ kr2 =>
      refine ⟨hH2, ?_⟩
      obtain ⟨r3, e3⟩ := r2.put m2 (.dct kr2)
      exact ⟨F2, d, _, r3, (e1.trans e2).trans e3, p2, q⟩
theorem kreps_get {K : PySem.W.Frag} {F : Hp} : ∀ {a : List (Key × V)} {b : List (Key × D)} {i : Nat} {k : Key} {d : D}, KReps K F a b → b[i]? = some (k, d) → ∃ v, a[i]? = some (k, v) ∧ Rep K F v d
  | _, _, _, _, _, .nil, e => by simp at e
  | _, _, 0, k, d, .cons r _, e => by simp at e; obtain ⟨rfl, rfl⟩ := e; exact ⟨_, rfl, r⟩
  | _, _, i + 1, k, d, .cons _ t, e => by
    obtain ⟨v, h1, h2⟩ := kreps_get (i := i) (k := k) (d := d) t (by simpa using e)
    exact ⟨v, by simpa using h1, h2⟩
/-- the keys of a locked dict -/
theorem wig_keys {R : List D → (Mem → Prop) → Mem → Prop} (h : WE Γ iter ρ μ fun d μ1 => ∃ ad, d = .loc ad ∧ ∃ od vs kds, μ1 ad = some (.fdct od vs kds) ∧ R (kds.map fun kv => keyD kv.1) (fun μ' => μ' ad = some (.fdct od vs kds)) μ1) : WIG Γ tg iter ρ μ R := fun σ F H s r => by
  refine semI.mk (wi := iKeys (semE Γ iter)) (fun X hX => pi_keys (pe_sem hX iter)) (h.go s r fun v F1 H1 d μ1 r1 e1 s1 p1 q1 => ?_)
  obtain ⟨ad, rfl, od, vs, kds, m, q⟩ := q1
  cases p1
  obtain ⟨_, ho, hH, hr⟩ := r1.mem ad _ m
  cases hr with
  | fdct _ kr =>
    refine ⟨ad, od, rfl, .inl ⟨vs, hH, F1, μ1, _, _, r1, e1, ⟨fun i F2 H2 μ2 s2 r2 g2 d hd => ?_, fun i F2 H2 μ2 s2 r2 g2 hl => ?_⟩, q⟩⟩
    · obtain ⟨_, ho2, hH2, hr2⟩ := r2.mem ad _ g2
      cases hr2 with
      | fdct _ kr2 =>
        rw [List.getElem?_map] at hd
        cases hk : kds[i]? with
        | none => rw [hk] at hd; cases hd
        | some kv =>
          rw [hk] at hd
          obtain rfl := Option.some.inj hd
          obtain ⟨v, hv, _⟩ := kreps_get (k := kv.1) (d := kv.2) kr2 hk
          refine ⟨⟨hH2, (List.getElem?_eq_some_iff.mp hv).1⟩, fun x H3 ⟨e3, k, v', hk2, ex⟩ => ?_⟩
          subst e3 ex
          rw [hv] at hk2
          cases hk2
          refine ⟨F2, r2, .refl _ _ _, ?_⟩
          obtain ⟨kk, dd⟩ := kv
          cases kk with
          | inl i => exact .int i
          | inr x => exact .str x
    · obtain ⟨_, ho2, hH2, hr2⟩ := r2.mem ad _ g2
      cases hr2 with
      | fdct _ kr2 =>
        refine ⟨hH2, ?_⟩
        rw [kr2.length]
        simpa using hl
/-- min of tuples of ints -/
theorem wc_minT [hc : Calm Γ] {d : D} {rows : List (List Int)} (s : LstD μ d (rows.map tI)) (h0 : rows ≠ []) (q : ∀ m, m ∈ rows → (∀ r ∈ rows, lexL r m = false) → Q (tI m) μ) : WC Γ (.builtin "min") [d] μ Q := fun vs F H p r => by
  obtain ⟨v, rfl, g⟩ := reps1 p
  obtain ⟨a, xs, rfl, hH, g2⟩ := lst_at s r g
  have tup : ∀ x ∈ xs, ∃ ns ∈ rows, Rep Γ.K F x (tI ns) ∧ TupI Γ.K H x ns := fun x hx => by
    obtain ⟨i, hi⟩ := List.getElem?_of_mem hx
    obtain ⟨e, he, re⟩ := g2.get' hi
    rw [List.getElem?_map] at he
    cases hr : rows[i]? with
    | none => rw [hr] at he; cases he
    | some ns =>
      rw [hr] at he
      obtain rfl := Option.some.inj he
      refine ⟨ns, List.mem_of_getElem? hr, re, ?_⟩
      cases re with
      | tup h1 h2 =>
        obtain rfl := Reps.ints ns h2
        exact ⟨_, rfl, same_seqT r.same h1⟩
  refine semC.mk (r := rMinT Γ.K) (fun X hX => hX.K ▸ cr_minT (hX.calm hc.h) hX.u64) ⟨a, xs, rfl, SqL.of hH, fun e => h0 ?_, fun x hx => ?_, fun x hx hle => ?_⟩
  · subst e
    cases rows with
    | nil => rfl
    | cons r rs => cases g2
  · obtain ⟨ns, _, _, t⟩ := tup x hx
    exact ⟨ns, t⟩
  · obtain ⟨ns, hns, rx, tx⟩ := tup x hx
    refine .now r rx (q ns hns fun m hm => ?_)
    obtain ⟨i, hi⟩ := List.getElem?_of_mem hm
    obtain ⟨y, hy, ry⟩ := g2.get (show (rows.map tI)[i]? = some (tI m) by rw [List.getElem?_map, hi]; rfl)
    refine hle y (List.mem_of_getElem? hy) ns m tx ?_
    cases ry with
    | tup h1 h2 =>
      obtain rfl := Reps.ints m h2
      exact ⟨_, rfl, same_seqT r.same h1⟩
/-! ### sets of ints -/
theorem wc_setI [hc : Calm Γ] {d : D} {ns : List Int} (s : SeqD μ d (ns.map D.int)) (hl : ns.length + 1 < scanBound) (q : ∀ p c, μ p = none → c ≤ ns.length → Q (.loc p) (μ.upd p (.raw (SetO Γ.w p (fun j => decide (j ∈ ns)) c)))) : WC Γ (.type "set") [d] μ Q := fun vs F H p r => by
  obtain ⟨v, rfl, g⟩ := reps1 p
  obtain ⟨a, xs, rfl, g1, g2⟩ := seqD_at s r g
  obtain rfl := Reps.ints ns g2
  refine semC.mk (r := rSetI Γ.K Γ.w) (fun X hX => hX.K ▸ hX.w ▸ cr_setI (hX.calm hc.h)) ⟨a, ns, rfl, g1, hl, fun p c hp hc => ?_⟩
  obtain ⟨r2, e2⟩ := r.layM hp (.raw (SetO Γ.w p (fun j => decide (j ∈ ns)) c))
  exact ⟨_, .loc p, _, r2, e2, .loc p, q p c (r.fresh hp).2 hc⟩
theorem wc_sortedSet [hc : Calm Γ] {a : Addr} {S : Int → Bool} {n : Nat} (m : μ a = some (.raw (SetO Γ.w a S n))) (hn : n ≤ sizeLine)
    (q : ∀ ns : List Int, ns.Pairwise (· < ·) → (∀ k : Int, k ∈ ns ↔ S k = true) → ns.length = n → Q (.lst (ns.map D.int)) μ) : WC Γ (.builtin "sorted") [.loc a] μ Q := fun vs F H p r => by
  obtain rfl := reps_loc1 p
  obtain ⟨_, ho, hH, hr⟩ := r.mem a _ m
  cases hr
  exact semC.mk (r := rSortedSetN Γ.w) (fun X hX => hX.w ▸ cr_sortedSetN (hX.calm hc.h)) ⟨a, S, n, rfl, hH, hn, fun ns p h1 h2 h3 hp => post_lst r (Reps.of_ints ns) (q ns h1 h2 h3) p hp⟩
end
/-- ascending, without doubles -/
def insD (x : Int) : List Int → List Int
  | [] => [x]
  | y :: ys => if x < y then x :: y :: ys else if x = y then y :: ys else y :: insD x ys
def sdd : List Int → List Int
  | [] => []
  | x :: xs => insD x (sdd xs)
theorem mem_insD {x k : Int} : ∀ {l : List Int}, k ∈ insD x l ↔ k = x ∨ k ∈ l
  | [] => by simp [insD]
  | y :: ys => by
    unfold insD
    by_cases h1 : x < y
    · rw [if_pos h1]; simp
    · rw [if_neg h1]
      by_cases h2 : x = y
      · rw [if_pos h2]; subst h2; simp
      · rw [if_neg h2, List.mem_cons, mem_insD, List.mem_cons]
        constructor
        · rintro (h | h | h)
          · exact .inr (.inl h)
          · exact .inl h
          · exact .inr (.inr h)
        · rintro (h | h | h)
          · exact .inr (.inl h)
          · exact .inl h
          · exact .inr (.inr h)
theorem insD_lt {x : Int} : ∀ {l : List Int}, l.Pairwise (· < ·) → (insD x l).Pairwise (· < ·)
  | [], _ => by simp [insD]
  | y :: ys, h => by
    unfold insD
    obtain ⟨h1, h2⟩ := List.pairwise_cons.mp h
    by_cases c1 : x < y
    · rw [if_pos c1]
      refine List.pairwise_cons.mpr ⟨fun z hz => ?_, h⟩
      rcases List.mem_cons.mp hz with rfl | hz
      · exact c1
      · have := h1 z hz; omega
    · rw [if_neg c1]
      by_cases c2 : x = y
      · rw [if_pos c2]; exact h
      · rw [if_neg c2]
        refine List.pairwise_cons.mpr ⟨fun z hz => ?_, insD_lt h2⟩
        rcases mem_insD.mp hz with rfl | hz
        · omega
        · exact h1 z hz
theorem mem_sdd {k : Int} : ∀ {l : List Int}, k ∈ sdd l ↔ k ∈ l
  | [] => Iff.rfl
  | x :: xs => by rw [show sdd (x :: xs) = insD x (sdd xs) from rfl, mem_insD, mem_sdd, List.mem_cons]
theorem sdd_lt : ∀ l : List Int, (sdd l).Pairwise (· < ·)
  | [] => List.Pairwise.nil
  | x :: xs => insD_lt (sdd_lt xs)
theorem lt_uniq : ∀ {l m : List Int}, l.Pairwise (· < ·) → m.Pairwise (· < ·) → (∀ k, k ∈ l ↔ k ∈ m) → l = m
  | [], [], _, _, _ => rfl
  | [], y :: _, _, _, h => by have := (h y).mpr (by simp); cases this
  | x :: _, [], _, _, h => by have := (h x).mp (by simp); cases this
  | x :: xs, y :: ys, h1, h2, h => by
    obtain ⟨a1, a2⟩ := List.pairwise_cons.mp h1
    obtain ⟨b1, b2⟩ := List.pairwise_cons.mp h2
    have e : x = y := by
      have p := (h x).mp (by simp)
      have q := (h y).mpr (by simp)
      rcases List.mem_cons.mp p with p | p
      · exact p
      · rcases List.mem_cons.mp q with q | q
        · exact q.symm
        · have := b1 x p; have := a1 y q; omega
    subst e
    congr 1
    refine lt_uniq a2 b2 fun k => ?_
    have := h k
    rw [List.mem_cons, List.mem_cons] at this
    constructor
    · intro hk
      rcases this.mp (.inr hk) with e | e
      · subst e; have := a1 k hk; omega
      · exact e
    · intro hk
      rcases this.mpr (.inr hk) with e | e
      · subst e; have := b1 k hk; omega
      · exact e
section
variable {Γ : Gam} {ρ : Rho} {μ : Mem} {Q : D → Mem → Prop} {a : Expr} {p pos p2 pos2 : Pos}
/-- sorted(set(xs)), ints -/
theorem we_sortedSet [hc : Calm Γ] (hm : Γ.mg "sorted" = none) (hm2 : Γ.mg "set" = none) (hg : GlD Γ "sorted" := by rfl) (hg2 : GlD Γ "set" := by rfl)
    (h1 : ∀ env, starEach [Expr.Call (.Name "set" p2) [a] [] pos2] env = (false, eval (Expr.Call (.Name "set" p2) [a] [] pos2) env) :: starEach [] env := by intro _; rfl) (h2 : ∀ env, (backTo pos (starEach [] env)).any (·.1) = false := by intro _; rfl)
    (h3 : ∀ env, starEach [a] env = (false, eval a env) :: starEach [] env := by intro _; rfl) (h4 : ∀ env, (backTo pos2 (starEach [] env)).any (·.1) = false := by intro _; rfl)
    (h : WE Γ a ρ μ fun d μ1 => ∃ ns : List Int, SeqD μ1 d (ns.map D.int) ∧ ns.length ≤ 4000 ∧ Q (.lst ((sdd ns).map D.int)) μ1) : WE Γ (.Call (.Name "sorted" p) [.Call (.Name "set" p2) [a] [] pos2] [] pos) ρ μ Q := by
  refine we_drop (we_callB bt_sorted hm hg (by decide) (by decide) h1 h2 (wa_cons (hs := h1) (h := we_callT bt_set hm2 hg2 (by decide) (by decide) h3 h4 (wa_cons (hs := h3) (h := h.imp fun d μ1 ⟨ns, sd, hl, q⟩ => wa_nil (wc_setI sd ?_ fun v c hv hc => wa_nil (wc_sortedSet Mem.upd_same ?_ fun ms k1 k2 k3 => ⟨μ1, Mem.Sub.new hv, ?_⟩)))))))
  · show ns.length + 1 < scanBound
    unfold scanBound; omega
  · rw [sizeLine_eq]; omega
  · have : ms = sdd ns := lt_uniq k1 (sdd_lt ns) fun k => by rw [k2, mem_sdd, decide_eq_true_eq]
    rw [this]; exact q
end
section
variable {Γ : Gam} {ρ : Rho} {μ : Mem} {Q : D → Mem → Prop} {o a b : Expr} {pos apos cpos : Pos} {x y : Bool}
theorem wo_isB (q : Q (.bl (decide (x = y))) μ) : WO Γ (compareOp .Is) (.bl x) (.bl y) μ Q := fun v u F H p1 p2 r => by
  cases p1; cases p2
  exact semO.mk (fun X _ => op_is_bl) ⟨x, y, rfl, rfl, .now r (.bl _) q⟩
theorem wo_isnotB (q : Q (.bl (!decide (x = y))) μ) : WO Γ (compareOp .IsNot) (.bl x) (.bl y) μ Q := fun v u F H p1 p2 r => by
  cases p1; cases p2
  exact semO.mk (fun X _ => op_isnot_bl) ⟨x, y, rfl, rfl, .now r (.bl _) q⟩
theorem we_dget2A (hb : ∀ env, attributeBase o "get" env (eval o env) = eval o env := by intro _; rfl)
    (hf : ∀ env, ((backTo cpos (starEach [a, b] env)).all (fun x => !x.1) && (backToKw cpos (keywordEach [] env)).all (fun x => x.1.isSome)
      && decide (([a, b] : List Expr).length + ([] : List Keyword).length + (if ([] : List Keyword).isEmpty then 0 else 1) < 30)) = true := by intro _; rfl)
    (hl : (apos.endLine == cpos.line) = true := by rfl) (ht : ∀ env, backTo cpos (starEach [a, b] env) = [(false, eval a env), (false, eval b env)] := by intro _; rfl)
    (h : WE Γ o ρ μ fun od μ1 => ∃ ad, od = .loc ad ∧ ∃ kvs0, μ1 ad = some (.dct kvs0) ∧ WE Γ a ρ μ1 fun kd μ2 => WE Γ b ρ μ2 fun x μ3 => ∃ k, kd = keyD k ∧ ∃ kvs, μ3 ad = some (.dct kvs) ∧ Q ((getA kvs k).getD x) μ3) : WE Γ (.Call (.Attribute o "get" apos) [a, b] [] cpos) ρ μ Q :=
  we_dget2 hb hf hl ht (h.imp fun od μ1 ⟨ad, e1, kvs0, e2, h⟩ => ⟨ad, kvs0, e1, e2, h.imp fun kd μ2 h => h.imp fun x μ3 ⟨k, e3, kvs, e4, q⟩ => ⟨kvs, k, e3, e4, q⟩⟩)
end
end DL
/-! DL: what the laws' first defs promise: begin, draw, pick, is_int, is_ints -/
namespace DL
open PySem L2
def IsDr (l : List D) : Prop := ∃ (cs : List Int) (pos pend seed : Int), 0 ≤ pos ∧ l = [.lst (cs.map .int), .int pos, .int pend, .int seed]
theorem cut63 {α : Type} (xs : List α) : cutD xs none (some 63) = xs.take 63 := by
  unfold cutD
  rw [HT.sIx_none, show HT.sIx xs.length xs.length (some 63) = min 63 xs.length from HT.sIx_nat xs.length _ 63, List.drop_zero, Nat.sub_zero]
  by_cases h : 63 ≤ xs.length
  · rw [Nat.min_eq_left h]
  · rw [Nat.min_eq_right (by omega), List.take_length, List.take_of_length_le (by omega)]
def sp_begin : DSp := fun ds μ Q => ∃ ns : List Int, ds = [.lsr (ns.map .int)] ∧ ∀ p l, IsDr l → μ p = none → Q (.loc p) (μ.upd p (.lst l))
def sp_draw : DSp := fun ds μ Q => ∃ (a : Addr) (m : Int), ds = [.loc a, .int m] ∧ ∃ l, μ a = some (.lst l) ∧ IsDr l ∧ 0 < m ∧ m < 1000000000 ∧ ∀ l' r, IsDr l' → 0 ≤ r → r < m → Q (.int r) (μ.upd a (.lst l'))
def sp_pick : DSp := fun ds μ Q => ∃ (a : Addr) (xs : List D), ds = [.loc a, .lst xs] ∧ ∃ l, μ a = some (.lst l) ∧ IsDr l ∧ 0 < xs.length ∧ xs.length < 1000000000 ∧ ∀ l' x, IsDr l' → x ∈ xs → Q x (μ.upd a (.lst l'))
def sp_is_int : DSp := fun ds μ Q => ∃ i : Int, ds = [.int i] ∧ Q (.bl true) μ
def sp_is_ints : DSp := fun ds μ Q => ∃ ns : List Int, ds = [.tup (ns.map .int)] ∧ ns.length ≤ 1000000 ∧ Q (.bl true) μ
theorem wss_mid {Γ : Gam} {ρ : Rho} {μ : Mem} {st : Stmt} {sts : List Stmt} {D' : DEnds} (M : Rho → Mem → Prop) (h1 : WS Γ st ρ μ { D' with nx := M }) (h2 : ∀ ρ1 μ1, M ρ1 μ1 → WSs Γ sts ρ1 μ1 D') : WSs Γ (st :: sts) ρ μ D' := fun σ F H s r =>
  (wss_cons (D' := D') (sts := sts) (fun σ F H s r => (h1 σ F H s r).le ⟨fun σ' H' ⟨F1, ρ1, μ1, s1, r1, e1, q1⟩ => ⟨F1, ρ1, μ1, s1, r1, e1, h2 _ _ q1⟩, fun _ _ x => x, fun _ _ x => x, fun _ _ x => x⟩)) σ F H s r
end DL
/-! DL: max, min of a tuple of ints; a, b = x, y; range with a step down; {k: v} -/
namespace L2
open PySem PySem.Spec PyProof.Rows
def rMaxU (K : PySem.W.Frag) : List V → Hp → VK → Prop := fun vs H Q => ∃ (a : Addr) (ns : List Int), vs = [V.ref a] ∧ SqT K H a (ns.map V.int) ∧ 0 < ns.length ∧ ∀ m, m ∈ ns → (∀ y, y ∈ ns → y ≤ m) → Q (.int m) H
def rMinU (K : PySem.W.Frag) : List V → Hp → VK → Prop := fun vs H Q => ∃ (a : Addr) (ns : List Int), vs = [V.ref a] ∧ SqT K H a (ns.map V.int) ∧ 0 < ns.length ∧ ∀ m, m ∈ ns → (∀ y, y ∈ ns → m ≤ y) → Q (.int m) H
section
variable {X : Cx}
theorem cr_maxU (hc : X.calm = true) : CallR X (.builtin "max") (rMaxU X.K) := by
  intro pins s σ H vs us Q I r h
  obtain ⟨a, ns, rfl, hs, h0, q⟩ := h
  obtain ⟨its, rv, p, _⟩ := I.tuple hs
  rw [Vals.ref1 r]
  have hi := rv.ints
  have hlen : its.length = ns.length := by rw [← rv.length, List.length_map]
  have hL : s.heap.IsTuple a its.toArray := p
  have hlt : a < s.heap.objs.size := by obtain ⟨o, ho, _⟩ := p; exact Heap.lt_size ho
  have hval : ∀ (i : Nat) (v : Value), its.toArray[i]? = some v → ∃ t, v = Value.int (ns.getD i 0) t := fun i v hv => PyProof.Rows.IntsAre.int_at hi i v (by simpa using hv)
  refine call_max_walk (wpAny_pyIter_tuple hL ?_)
  refine ⟨_, _, _, its.toArray.size, _, _, _, rfl, Walks.tuple (prog := X.prog) (w := X.w) (A := X.A.in1) (by simp [I.ok.hd hc]) s.heap.objs.size a (Nat.ne_of_lt hlt) its.toArray, ⟨⟨_, Heap.get?_push_size _ rfl, rfl, rfl⟩, hL.push _⟩, fun b hb => ?_, by simp; omega, CmpOf.ints_gt (fun i => ns.getD i 0) hval, fun v h' tk hP hk => ?_⟩
  · simp only [List.mem_cons, List.not_mem_nil, or_false] at hb
    show b < (s.heap.push _).objs.size
    rw [Heap.size_push]
    rcases hb with rfl | rfl
    · exact Nat.lt_succ_self _
    · exact Nat.lt_succ_of_lt hlt
  · obtain ⟨t, rfl⟩ := hval _ _ hP
    obtain ⟨b1, b2⟩ := argBest_gt (fun i => ns.getD i 0) (its.toArray.size - 1)
    have sz : its.toArray.size = ns.length := by simp [hlen]
    rw [sz] at b1 b2
    have I2 : Inv X pins σ H { s with heap := h', toks := tk } := I.kept (t' := tk) fun b o e => hk b o (fun z => absurd (Heap.lt_size e) (by rw [List.mem_singleton.mp z]; exact Nat.lt_irrefl _)) (Heap.get?_push_of_some _ e)
    refine ⟨.int _, H, I2, ⟨t, rfl⟩, ?_⟩
    rw [sz]
    refine q _ ?_ fun y hy => ?_
    · rw [List.getD_eq_getElem?_getD, List.getElem?_eq_getElem (by omega)]; exact List.getElem_mem _
    · obtain ⟨j, hj⟩ := List.getElem?_of_mem hy
      have hjl := (List.getElem?_eq_some_iff.mp hj).1
      have := b2 j (by omega)
      rw [show ns.getD j 0 = y by rw [List.getD_eq_getElem?_getD, hj]; rfl] at this
      exact this
theorem cr_minU (hc : X.calm = true) : CallR X (.builtin "min") (rMinU X.K) := by
  intro pins s σ H vs us Q I r h
  obtain ⟨a, ns, rfl, hs, h0, q⟩ := h
  obtain ⟨its, rv, p, _⟩ := I.tuple hs
  rw [Vals.ref1 r]
  have hi := rv.ints
  have hlen : its.length = ns.length := by rw [← rv.length, List.length_map]
  have hL : s.heap.IsTuple a its.toArray := p
  have hlt : a < s.heap.objs.size := by obtain ⟨o, ho, _⟩ := p; exact Heap.lt_size ho
  have hval : ∀ (i : Nat) (v : Value), its.toArray[i]? = some v → ∃ t, v = Value.int (ns.getD i 0) t := fun i v hv => PyProof.Rows.IntsAre.int_at hi i v (by simpa using hv)
  refine call_min_walk (wpAny_pyIter_tuple hL ?_)
  refine ⟨_, _, _, its.toArray.size, _, _, _, rfl, Walks.tuple (prog := X.prog) (w := X.w) (A := X.A.in1) (by simp [I.ok.hd hc]) s.heap.objs.size a (Nat.ne_of_lt hlt) its.toArray, ⟨⟨_, Heap.get?_push_size _ rfl, rfl, rfl⟩, hL.push _⟩, fun b hb => ?_, by simp; omega, CmpOf.ints_lt (fun i => ns.getD i 0) hval, fun v h' tk hP hk => ?_⟩
  · simp only [List.mem_cons, List.not_mem_nil, or_false] at hb
    show b < (s.heap.push _).objs.size
    rw [Heap.size_push]
    rcases hb with rfl | rfl
    · exact Nat.lt_succ_self _
    · exact Nat.lt_succ_of_lt hlt
  · obtain ⟨t, rfl⟩ := hval _ _ hP
    obtain ⟨b1, b2⟩ := argBest_lt (fun i => ns.getD i 0) (its.toArray.size - 1)
    have sz : its.toArray.size = ns.length := by simp [hlen]
    rw [sz] at b1 b2
    have I2 : Inv X pins σ H { s with heap := h', toks := tk } := I.kept (t' := tk) fun b o e => hk b o (fun z => absurd (Heap.lt_size e) (by rw [List.mem_singleton.mp z]; exact Nat.lt_irrefl _)) (Heap.get?_push_of_some _ e)
    refine ⟨.int _, H, I2, ⟨t, rfl⟩, ?_⟩
    rw [sz]
    refine q _ ?_ fun y hy => ?_
    · rw [List.getD_eq_getElem?_getD, List.getElem?_eq_getElem (by omega)]; exact List.getElem_mem _
    · obtain ⟨j, hj⟩ := List.getElem?_of_mem hy
      have hjl := (List.getElem?_eq_some_iff.mp hj).1
      have := b2 j (by omega)
      rw [show ns.getD j 0 = y by rw [List.getD_eq_getElem?_getD, hj]; rfl] at this
      exact this
end
end L2
namespace DL
open PySem L2
section
variable {Γ : Gam} {ρ : Rho} {μ : Mem} {Q : D → Mem → Prop} {a b c e : Expr} {pos p px py pt : Pos} {tg : Expr} {R : List D → Mem → Prop} {D' : DEnds} {x y : Str}
theorem wc_maxTup [hc : Calm Γ] {ns : List Int} (h0 : 0 < ns.length) (q : ∀ m, m ∈ ns → (∀ y, y ∈ ns → y ≤ m) → Q (.int m) μ) : WC Γ (.builtin "max") [.tup (ns.map D.int)] μ Q := fun vs F H p r => by
  obtain ⟨a, xs, rfl, g1, g2⟩ := reps_tup1 p
  obtain rfl := Reps.ints ns g2
  exact semC.mk (r := rMaxU Γ.K) (fun X hX => hX.K ▸ cr_maxU (hX.calm hc.h)) ⟨a, ns, rfl, same_seqT r.same g1, h0, fun m h1 h2 => .now r (.int m) (q m h1 h2)⟩
theorem wc_minTup [hc : Calm Γ] {ns : List Int} (h0 : 0 < ns.length) (q : ∀ m, m ∈ ns → (∀ y, y ∈ ns → m ≤ y) → Q (.int m) μ) : WC Γ (.builtin "min") [.tup (ns.map D.int)] μ Q := fun vs F H p r => by
  obtain ⟨a, xs, rfl, g1, g2⟩ := reps_tup1 p
  obtain rfl := Reps.ints ns g2
  exact semC.mk (r := rMinU Γ.K) (fun X hX => hX.K ▸ cr_minU (hX.calm hc.h)) ⟨a, ns, rfl, same_seqT r.same g1, h0, fun m h1 h2 => .now r (.int m) (q m h1 h2)⟩
/-- x, y = a, b: plain local names -/
theorem ws_par [hc : Calm Γ] (i j : Nat) {kt k2 : Nat} {pt2 : Pos} (hN : Γ.N[i]? = some x := by rfl) (hN2 : Γ.N[j]? = some y := by rfl) (hij : i ≠ j := by decide) (hx : Γ.sc.names.lookup x = some .local := by rfl) (hy : Γ.sc.names.lookup y = some .local := by rfl)
    (hw : ∀ env : Env, env.scope = Γ.sc → swappedStores [.Tuple [.Name x px, .Name y py] kt pt] (.Tuple [a, b] k2 pt2) env = pure (some [x, y]))
    (hs : ∀ env, swapsWithSole [.Tuple [.Name x px, .Name y py] kt pt] (.Tuple [a, b] k2 pt2) pos.line env = pure false := by intro _; rfl)
    (h : WA Γ [a, b] ρ μ fun ds μ1 => ∃ d e, ds = [d, e] ∧ D'.nx ((ρ.set i (some d)).set j (some e)) μ1) : WS Γ (.Assign [.Tuple [.Name x px, .Name y py] kt pt] (.Tuple [a, b] k2 pt2) pos) ρ μ D' := fun σ F H s r =>
  semS.mk (t := tPar i j (semA Γ [a, b])) (fun X hX => ps_par (hX.calm hc.h) hX.nd (hX.nm hN) (hX.nm hN2) hij (by rw [hX.sc]; exact hx) (by rw [hX.sc]; exact hy) (pa_sem hX _) (hw _ hX.sc) (hs _)) (h.go s r fun vs F1 H1 ds μ1 r1 e1 s1 p1 q1 => by
    obtain ⟨d, e, rfl, q⟩ := q1
    obtain ⟨v, w, rfl, g1, g2⟩ := reps2 p1
    exact ⟨v, w, rfl, F1, _, μ1, (s1.set i g1).set j g2, r1, e1, q⟩)
/-- i, i - 1, .. -/
def rangeN (lo : Int) (n : Nat) : List D := (List.range n).map fun i : Nat => D.int (lo - (i : Int))
theorem iter_rngN {K : PySem.W.Frag} {F1 : Hp} (lo : Int) (n : Nat) : IterOk K F1 (Itc lo (-1) n) (rangeN lo n) where
  go := fun i F H μ s r d e => by
    unfold rangeN at e
    rw [List.getElem?_map] at e
    obtain ⟨k, hk, rfl⟩ := Option.map_eq_some_iff.mp e
    obtain ⟨hi, hk⟩ := List.getElem?_eq_some_iff.mp hk
    rw [List.getElem_range] at hk
    subst hk
    refine ⟨by show i < n; simpa using hi, fun x H' ⟨e1, y⟩ => ?_⟩
    subst e1 y
    refine ⟨F, r, .refl _ _ _, ?_⟩
    rw [show lo + ((i : Nat) : Int) * (-1) = lo - (i : Int) by omega]
    exact .int _
  stop := fun i F H μ s r hl => by unfold rangeN at hl; show n ≤ i; simpa using hl
theorem wi_range3n (hm : Γ.mg "range" = none) (hg : GlD Γ "range" := by rfl) (hs : ∀ env, starEach [a, b, c] env = (false, eval a env) :: starEach [b, c] env := by intro _; rfl) (hp : ∀ env, (backTo pos (starEach [b, c] env)).any (·.1) = false := by intro _; rfl)
    (h : WA Γ [a, b, c] ρ μ fun ds μ1 => ∃ i j : Int, ds = [.int i, .int j, .int (-1)] ∧ (-(2 ^ 62) ≤ i ∧ i < 2 ^ 62 ∧ -(2 ^ 62) ≤ j ∧ j < 2 ^ 62) ∧ R (rangeN i (i - j).toNat) μ1) : WI Γ tg (.Call (.Name "range" p) [a, b, c] [] pos) ρ μ R := fun σ F H s r => by
  refine semI.mk (wi := iRng3 (semA Γ [a, b, c])) (fun X hX => pi_range3 (hX.gl hg) (by rw [hX.mg]; exact hm) (pa_sem hX _) (hs _) (hp _)) (h.go s r fun vs F1 H1 ds μ1 r1 e1 s1 p1 q1 => ?_)
  obtain ⟨i, j, rfl, ⟨h1, h2, h3, h4⟩, q1⟩ := q1
  exact ⟨i, j, -1, _, reps_three p1, RgC.neg h1 h2 h3 h4, F1, μ1, _, r1, e1, iter_rngN i _, q1⟩
/-- {k: v} -/
theorem we_disp1 (h : ∀ q, μ q = none → WE Γ a ρ (μ.upd q (.dct [])) fun kd μ1 => WE Γ b ρ μ1 fun d μ2 => ∃ k, kd = keyD k ∧ μ2 q = some (.dct []) ∧ Q (.loc q) (μ2.upd q (.dct [(k, d)]))) : WE Γ (.Dict [some a] [b] pos) ρ μ Q := fun σ F H s r =>
  semE.mk (fun X hX => pe_disp (pps_cons (pe_sem hX a) (pe_sem hX b) pps_nil) rfl rfl (by simp) (by simp)) fun q hq => by
    obtain ⟨r0, e0⟩ := r.layM hq (.dct (.nil (K := Γ.K) (F := F)))
    refine (h q (r.fresh hq).2).go (s.mono e0.fr) r0 fun v F1 H1 kd μ1 r1 e1 s1 p1 h1 => h1.go s1 r1 fun w F2 H2 d μ2 r2 e2 s2 p2 h2 => ?_
    obtain ⟨k, rfl, m, q⟩ := h2
    obtain ⟨ks, hH, kr⟩ := r2.dctAt m
    cases kr
    obtain rfl := rep_key (p1.mono e2.fr)
    obtain ⟨r3, e3⟩ := r2.put m (.dct (.cons (k := k) p2 .nil))
    exact ⟨hH, [(k, w)], rfl, by simp, F2, .loc _, _, r3, ((e0.trans e1).trans e2).trans e3, .loc _, q⟩
end
/-- what stands elsewhere is kept -/
def Kp (A : List Addr) (μ μ' : Mem) : Prop := ∀ b u, b ∉ A → μ b = some u → μ' b = some u
theorem Kp.refl {A : List Addr} {μ : Mem} : Kp A μ μ := fun _ _ _ h => h
theorem Kp.upd {A : List Addr} {μ μ' : Mem} {b : Addr} {o : MO} (h : Kp A μ μ') (hb : b ∈ A) : Kp A μ (μ'.upd b o) := fun x u hx hu => by
  rw [Mem.upd_ne (show x ≠ b from fun e => hx (e ▸ hb))]; exact h x u hx hu
theorem Kp.fresh {A : List Addr} {μ μ' : Mem} {b : Addr} {o : MO} (h : Kp A μ μ') (hb : μ b = none) : Kp A μ (μ'.upd b o) := fun x u hx hu => by
  rw [Mem.upd_ne (show x ≠ b from fun e => by subst e; rw [hb] at hu; cases hu)]; exact h x u hx hu
theorem Kp.nn {A : List Addr} {μ μ' : Mem} {b : Addr} (h : Kp A μ μ') (hb : μ' b = none) (hA : b ∉ A) : μ b = none := by
  cases e : μ b with
  | none => rfl
  | some u => rw [h b u hA e] at hb; cases hb
theorem Kp.new {A : List Addr} {μ μ' : Mem} {b : Addr} {o : MO} (h : Kp A μ μ') (hb : μ' b = none) : Kp A μ (μ'.upd b o) := fun x u hx hu => by
  rw [Mem.upd_ne (show x ≠ b from fun e => by subst e; rw [h _ _ hx hu] at hb; cases hb)]; exact h x u hx hu
theorem Kp.sub {a : Addr} {μ μ' : Mem} {o : MO} (h : Kp [a] μ μ') (ha : μ' a = some o) : (μ.upd a o).Sub μ' := fun x u hx => by
  by_cases e : x = a
  · subst e; rw [Mem.upd_same] at hx; cases hx; exact ha
  · rw [Mem.upd_ne e] at hx; exact h x u (by simpa using e) hx
theorem Kp.sub0 {μ μ' : Mem} (h : Kp [] μ μ') : μ.Sub μ' := fun x u hx => h x u (by simp) hx
theorem getE {α : Type} {xs : List α} {f : α → D} {i : Nat} {d : D} (h : (xs.map f)[i]? = some d) : ∃ x, xs[i]? = some x ∧ d = f x := by
  rw [List.getElem?_map] at h
  cases e : xs[i]? with
  | none => rw [e] at h; cases h
  | some x => rw [e] at h; exact ⟨x, rfl, (Option.some.inj h).symm⟩
theorem take_snoc {α : Type} {xs : List α} {i : Nat} {x : α} (h : xs[i]? = some x) : xs.take (i + 1) = xs.take i ++ [x] := by
  rw [List.take_add_one, h]; rfl
section
variable {α : Type}
theorem getA_map (ks : List Int) (g : Int → α) (k : Int) : getA (ks.map fun k' => ((Sum.inl k' : Key), g k')) (.inl k) = if k ∈ ks then some (g k) else none := by
  induction ks with
  | nil => rfl
  | cons x r ih =>
    unfold getA at ih ⊢
    rw [List.map_cons, List.find?_cons]
    by_cases e : x = k
    · subst e; simp
    · have : ¬ ((Sum.inl x : Key) = Sum.inl k) := fun q => e (Sum.inl.inj q)
      simp only [this, decide_false]
      rw [ih]
      simp [Ne.symm e]
theorem putA_fresh {ks : List Int} {g : Int → α} {k : Int} {x : α} (h : k ∉ ks) (e : x = g k) : putA (ks.map fun k' => ((Sum.inl k' : Key), g k')) (.inl k) x = (ks ++ [k]).map fun k' => ((Sum.inl k' : Key), g k') := by
  subst e
  have ha : ((ks.map fun k' => ((Sum.inl k' : Key), g k')).any fun kv => decide (kv.1 = Sum.inl k)) ≠ true := by
    rw [List.any_map]
    intro z
    obtain ⟨y, hy, e⟩ := List.any_eq_true.mp z
    simp only [Function.comp, decide_eq_true_eq] at e
    exact h (Sum.inl.inj e ▸ hy)
  unfold putA
  rw [if_neg ha]; simp
end
section
variable {Γ : Gam} {ρ : Rho} {μ : Mem} {Q : D → Mem → Prop} {elt tg iter : Expr} {ifs : List Expr} {pos : Pos} {scope : Scope}
theorem LcHypG.fm {α : Type} {vs : List Nat} {P : List D → Mem → Prop} (xs : List α) (enc : α → D) (t : α → Bool) (g : α → D) (ix : List Nat) (hix : ∀ j ∈ ix, j ∈ vs) (hsz : xs.length ≤ sizeLine) {G : Mem → Prop} (hG : G μ)
    (step : ∀ (x : α) (i : Nat), xs[i]? = some x → WGi (Γ.blk scope) ix tg (enc x) (wipeD ρ vs) μ fun ρ2 μ2 => WTs (Γ.blk scope) ifs ρ2 μ2 fun b μ3 => b = t x ∧ μ3 = μ ∧ (t x = true → WE (Γ.blk scope) elt ρ2 μ fun y μ4 => y = g x ∧ μ4 = μ))
    (done : P ((xs.filter t).map g) μ) : LcHypG Γ ρ tg elt ifs scope vs P (xs.map enc) G μ := by
  refine ⟨by rw [List.length_map]; exact hsz, ix, fun i acc μ' => μ' = μ ∧ acc = ((xs.take i).filter t).map g, fun i acc μ2 z => z.1 ▸ hG, hix, ⟨rfl, by simp⟩, ?_, ?_⟩
  · rintro i d acc μ' hd ⟨rfl, rfl⟩
    rw [List.getElem?_map] at hd
    cases hx : xs[i]? with
    | none => rw [hx] at hd; cases hd
    | some x =>
      rw [hx] at hd
      cases (Option.some.inj hd)
      intro v σ F H p s r
      refine (fun z => ?_) (step x i hx v σ F H p s r)
      obtain ⟨tt, Q0, h1, h2, h3⟩ := z
      refine ⟨tt, Q0, h1, h2, fun σ' H' q => ?_⟩
      obtain ⟨g1, F1, ρ1, μ1, s1, r1, e1, q1⟩ := h3 σ' H' q
      refine ⟨g1, F1, ρ1, μ1, s1, r1, e1, fun σ F H s r => ?_⟩
      obtain ⟨tt, Q0, h1, h2, h3⟩ := q1 σ F H s r
      refine ⟨tt, Q0, h1, h2, fun b H' q => ?_⟩
      obtain ⟨F2, μ2, r2, e2, rfl, rfl, q2⟩ := h3 b H' q
      refine ⟨F2, _, r2, e2, fun hb σ F H s r => ?_, fun hb => ⟨rfl, ?_⟩⟩
      · obtain ⟨tt, Q0, h1, h2, h3⟩ := q2 hb σ F H s r
        refine ⟨tt, Q0, h1, h2, fun v H' q => ?_⟩
        obtain ⟨F3, d, μ3, r3, e3, p3, rfl, rfl⟩ := h3 v H' q
        refine ⟨F3, _, _, r3, e3, p3, rfl, ?_⟩
        rw [List.take_add_one, hx]
        simp [hb]
      · rw [List.take_add_one, hx]
        simp [hb]
  · rintro acc μ' ⟨rfl, rfl⟩
    rw [List.length_map, List.take_length]
    exact done
/-- [.. for k in d if ..]: d a dict -/
theorem we_lcKeys [hc : Calm Γ] {α : Type} (own : List (Str × Nat)) (ad : Addr) (xs : List α) (enc : α → D) (t : α → Bool) (g : α → D) (ix : List Nat)
    (hix : ∀ j ∈ ix, j ∈ own.map (·.2)) (hsz : xs.length ≤ sizeLine) {kds : List (Key × D)} (m : μ ad = some (.dct kds)) (hk : kds.map (fun kv => keyD kv.1) = xs.map enc)
    (hi : ∀ od vs, WE Γ iter ρ (μ.upd ad (.fdct od vs kds)) fun d μ1 => d = .loc ad ∧ μ1 = μ.upd ad (.fdct od vs kds))
    (step : ∀ od vs (x : α) (i : Nat), xs[i]? = some x → WGi (Γ.blk scope) ix tg (enc x) (wipeD ρ (own.map (·.2))) (μ.upd ad (.fdct od vs kds)) fun ρ2 μ2 => WTs (Γ.blk scope) ifs ρ2 μ2 fun b μ3 => b = t x ∧ μ3 = μ.upd ad (.fdct od vs kds) ∧ (t x = true → WE (Γ.blk scope) elt ρ2 (μ.upd ad (.fdct od vs kds)) fun y μ4 => y = g x ∧ μ4 = μ.upd ad (.fdct od vs kds)))
    (q : Q (.lst ((xs.filter t).map g)) μ) (hb : blkC Γ.N Γ.sc scope own = true := by first | (dsimp only [gamF, Gam.blk]; decide +kernel) | decide +kernel) (hs : ∀ env x, foldedSetIterable iter env x = pure x := by intros; rfl) : WE Γ (.ListComp elt [⟨tg, iter, ifs, 0⟩] scope pos) ρ μ Q := by
  refine we_lock ad m fun od vs => we_lcG own hb hs (h := wig_keys ((hi od vs).imp fun d μ1 ⟨e1, e2⟩ => ⟨ad, e1, od, vs, kds, e2 ▸ Mem.upd_same, ?_⟩))
  subst e2
  rw [hk]
  refine LcHypG.fm xs enc t g ix hix hsz Mem.upd_same (step od vs) ⟨Mem.upd_same, ?_⟩
  rw [Mem.upd_upd]
  have e : μ.upd ad (.dct kds) = μ := by
    funext b
    by_cases z : b = ad
    · subst z; rw [Mem.upd_same, m]
    · rw [Mem.upd_ne z]
  rw [e]; exact q
end
end DL
/-! k80: the plain law: tellings, bars, greedy -/
namespace Tell
open DL
/-- the values that may be told at a moment -/
def win (vs : List Int) (s m : Nat) : List Int := (vs.take (m + 1)).drop (m - s)
theorem mem_win {vs : List Int} {s m : Nat} {v : Int} : v ∈ win vs s m ↔ ∃ j, m - s ≤ j ∧ j ≤ m ∧ vs[j]? = some v := by
  unfold win
  rw [List.mem_iff_getElem?]
  constructor
  · rintro ⟨i, h⟩
    rw [List.getElem?_drop] at h
    by_cases q : m - s + i < m + 1
    · rw [List.getElem?_take_of_lt q] at h
      exact ⟨m - s + i, by omega, by omega, h⟩
    · rw [List.getElem?_eq_none (by rw [List.length_take]; omega)] at h; cases h
  · rintro ⟨j, h1, h2, h3⟩
    refine ⟨j - (m - s), ?_⟩
    rw [List.getElem?_drop, show m - s + (j - (m - s)) = j by omega, List.getElem?_take_of_lt (by omega)]
    exact h3
theorem win_self {vs : List Int} {s m : Nat} (h : m < vs.length) : vs[m] ∈ win vs s m := mem_win.mpr ⟨m, by omega, Nat.le_refl _, List.getElem?_eq_getElem h⟩
theorem win_len {vs : List Int} {s m : Nat} : (win vs s m).length ≤ s + 1 ∧ (win vs s m).length ≤ vs.length := by
  unfold win
  rw [List.length_drop, List.length_take]
  omega
theorem win_mono {vs : List Int} {s s' m : Nat} (h : s ≤ s') {v : Int} (hv : v ∈ win vs s m) : v ∈ win vs s' m := by
  obtain ⟨j, h1, h2, h3⟩ := mem_win.mp hv
  exact mem_win.mpr ⟨j, by omega, h2, h3⟩
section
variable {vs : List Int} {s : Nat}
def reachN (vs : List Int) (s : Nat) (v : Int) : Nat → Nat → Nat
  | 0, m => m
  | k + 1, m => if m < vs.length ∧ v ∈ win vs s m then reachN vs s v k (m + 1) else m
/-- the first moment from m on at which v may not be told -/
def reach (vs : List Int) (s m : Nat) (v : Int) : Nat := reachN vs s v (vs.length - m) m
theorem reachN_ge {v : Int} : ∀ k m, m ≤ reachN vs s v k m
  | 0, m => Nat.le_refl _
  | k + 1, m => by
    unfold reachN
    split
    · have := reachN_ge (v := v) k (m + 1); omega
    · exact Nat.le_refl _
theorem reach_ge {m : Nat} {v : Int} : m ≤ reach vs s m v := reachN_ge _ _
theorem reachN_le {v : Int} : ∀ k m, reachN vs s v k m ≤ m + k
  | 0, m => Nat.le_refl _
  | k + 1, m => by
    unfold reachN
    split
    · have := reachN_le (v := v) k (m + 1); omega
    · omega
theorem reach_le {m : Nat} {v : Int} (h : m ≤ vs.length) : reach vs s m v ≤ vs.length := by
  have := reachN_le (vs := vs) (s := s) (v := v) (vs.length - m) m
  unfold reach; omega
theorem reachN_in {v : Int} : ∀ k m j, m ≤ j → j < reachN vs s v k m → v ∈ win vs s j
  | 0, m, j, h1, h2 => by unfold reachN at h2; omega
  | k + 1, m, j, h1, h2 => by
    unfold reachN at h2
    split at h2
    · rename_i q
      by_cases e : j = m
      · subst e; exact q.2
      · exact reachN_in k (m + 1) j (by omega) h2
    · omega
theorem reach_in {m j : Nat} {v : Int} (h1 : m ≤ j) (h2 : j < reach vs s m v) : v ∈ win vs s j := reachN_in _ _ _ h1 h2
theorem reachN_out {v : Int} : ∀ k m, k = vs.length - m → reachN vs s v k m < vs.length → v ∉ win vs s (reachN vs s v k m)
  | 0, m, h1, h2 => by unfold reachN at h2; omega
  | k + 1, m, h1, h2 => by
    unfold reachN at h2 ⊢
    by_cases q : m < vs.length ∧ v ∈ win vs s m
    · rw [if_pos q] at h2 ⊢; exact reachN_out k (m + 1) (by omega) h2
    · rw [if_neg q] at h2 ⊢; exact fun z => q ⟨h2, z⟩
theorem reach_out {m : Nat} {v : Int} (h : reach vs s m v < vs.length) : v ∉ win vs s (reach vs s m v) := reachN_out _ _ rfl h
theorem le_reach {m e : Nat} {v : Int} (h0 : e ≤ vs.length) (h : ∀ k, m ≤ k → k < e → v ∈ win vs s k) : m ≤ e → e ≤ reach vs s m v := fun hm => by
  by_cases q : e ≤ reach vs s m v
  · exact q
  · exfalso
    have h1 : reach vs s m v < vs.length := by omega
    exact reach_out h1 (h _ reach_ge (by omega))
theorem reach_mono {s' m : Nat} {v : Int} (h : s ≤ s') (hm : m ≤ vs.length) : reach vs s m v ≤ reach vs s' m v :=
  le_reach (reach_le hm) (fun k h1 h2 => win_mono h (reach_in h1 h2)) reach_ge
theorem reach_step {m : Nat} {v : Int} (h : m < vs.length) (hv : v ∈ win vs s m) : m + 1 ≤ reach vs s m v :=
  le_reach h (fun k h1 h2 => by rw [show k = m by omega]; exact hv) (by omega)
/-- the greatest of these -/
def best (vs : List Int) (s m : Nat) : Nat := ((win vs s m).map (reach vs s m)).foldl max m
theorem foldl_max_ge : ∀ (l : List Nat) (a : Nat), a ≤ l.foldl max a ∧ ∀ x ∈ l, x ≤ l.foldl max a
  | [], a => ⟨Nat.le_refl _, fun _ h => by cases h⟩
  | y :: l, a => by
    obtain ⟨h1, h2⟩ := foldl_max_ge l (max a y)
    rw [List.foldl_cons]
    refine ⟨by omega, fun x hx => ?_⟩
    rcases List.mem_cons.mp hx with rfl | hx
    · omega
    · exact h2 x hx
theorem foldl_max_mem : ∀ (l : List Nat) (a : Nat), l.foldl max a = a ∨ l.foldl max a ∈ l
  | [], a => .inl rfl
  | y :: l, a => by
    rw [List.foldl_cons]
    rcases foldl_max_mem l (max a y) with h | h
    · rw [h]
      by_cases q : a ≤ y
      · rw [Nat.max_eq_right q]; exact .inr (by simp)
      · rw [Nat.max_eq_left (by omega)]; exact .inl rfl
    · exact .inr (by simp [h])
theorem best_ge {m : Nat} {v : Int} (h : v ∈ win vs s m) : reach vs s m v ≤ best vs s m := (foldl_max_ge _ _).2 _ (List.mem_map.mpr ⟨v, h, rfl⟩)
theorem best_at {m : Nat} (h : m < vs.length) : ∃ v ∈ win vs s m, best vs s m = reach vs s m v := by
  rcases foldl_max_mem ((win vs s m).map (reach vs s m)) m with e | e
  · exfalso
    have := best_ge (win_self (s := s) h)
    have := reach_step h (win_self (s := s) h)
    unfold best at *
    omega
  · obtain ⟨v, h1, h2⟩ := List.mem_map.mp e
    exact ⟨v, h1, h2.symm⟩
theorem best_lt {m : Nat} (h : m < vs.length) : m + 1 ≤ best vs s m ∧ best vs s m ≤ vs.length := by
  obtain ⟨v, h1, h2⟩ := best_at (s := s) h
  rw [h2]
  exact ⟨reach_step h h1, reach_le (by omega)⟩
theorem best_mono {m m' : Nat} (h : m ≤ m') (hm : m' < vs.length) : best vs s m ≤ best vs s m' := by
  obtain ⟨v, h1, h2⟩ := best_at (s := s) (show m < vs.length by omega)
  by_cases q : m' < best vs s m
  · rw [h2] at q ⊢
    have hv : v ∈ win vs s m' := reach_in h q
    exact Nat.le_trans (le_reach (reach_le (by omega)) (fun k k1 k2 => reach_in (by omega) k2) (by omega)) (best_ge hv)
  · have := (best_lt (s := s) hm).1; omega
theorem best_slack {s' m : Nat} (h : s ≤ s') (hm : m < vs.length) : best vs s m ≤ best vs s' m := by
  obtain ⟨v, h1, h2⟩ := best_at (s := s) hm
  rw [h2]
  exact Nat.le_trans (reach_mono h (by omega)) (best_ge (win_mono h h1))
/-- g is the greedy moment number L -/
inductive GA (vs : List Int) (s : Nat) : Nat → Nat → Prop
  | zero : 0 < vs.length → GA vs s 0 1
  | step {g L : Nat} : GA vs s g L → best vs s g < vs.length → GA vs s (best vs s g) (L + 1)
theorem GA.lt {g L : Nat} (h : GA vs s g L) : g < vs.length := by
  cases h with
  | zero h => exact h
  | step _ h => exact h
theorem GA.pos {g L : Nat} (h : GA vs s g L) : 1 ≤ L ∧ L ≤ g + 1 := by
  induction h with
  | zero => omega
  | step h q ih => have := (best_lt (s := s) h.lt).1; omega
theorem GA.fn {g g' L : Nat} (h : GA vs s g L) : GA vs s g' L → g = g' := by
  induction h generalizing g' with
  | zero h => intro k; cases k with | zero => rfl | step k _ => have := k.pos; omega
  | step h q ih =>
    intro k
    cases k with
    | zero => have := h.pos; omega
    | step k _ => rw [ih k]
theorem GA.before {g L : Nat} (h : GA vs s g L) : ∀ L', 1 ≤ L' → L' ≤ L → ∃ g', GA vs s g' L' ∧ (L' < L → best vs s g' < vs.length) := by
  induction h with
  | zero h => intro L' h1 h2; exact ⟨0, by rw [show L' = 1 by omega]; exact .zero h, by omega⟩
  | @step g L h q ih =>
    intro L' h1 h2
    by_cases e : L' = L + 1
    · subst e; exact ⟨_, .step h q, by omega⟩
    · obtain ⟨g', k1, k2⟩ := ih L' h1 (by omega)
      refine ⟨g', k1, fun _ => ?_⟩
      by_cases e2 : L' = L
      · subst e2; rw [k1.fn h]; exact q
      · exact k2 (by omega)
/-- g is the last greedy moment, number L -/
def Last (vs : List Int) (s g L : Nat) : Prop := GA vs s g L ∧ best vs s g = vs.length
theorem Last.uniq {g g' L L' : Nat} (h : Last vs s g L) (k : Last vs s g' L') : L = L' := by
  have hp := h.1.pos; have kp := k.1.pos
  rcases Nat.lt_trichotomy L L' with q | q | q
  · obtain ⟨x, h1, h2⟩ := k.1.before L (by omega) (by omega)
    have := h2 q; rw [h1.fn h.1, h.2] at this; omega
  · exact q
  · obtain ⟨x, h1, h2⟩ := h.1.before L' (by omega) (by omega)
    have := h2 q; rw [h1.fn k.1, k.2] at this; omega
theorem GA.slack {s' g L : Nat} (hs : s ≤ s') (h : GA vs s g L) : ∀ {g'}, GA vs s' g' L → g ≤ g' := by
  induction h with
  | zero h => intro g' _; exact Nat.zero_le _
  | step h q ih =>
    intro g' k
    cases k with
    | zero => have := h.pos; omega
    | step k r =>
      have := ih k
      exact Nat.le_trans (best_slack hs h.lt) (best_mono this k.lt)
theorem Last.slack {s' g g' L L' : Nat} (hs : s ≤ s') (h : Last vs s g L) (k : Last vs s' g' L') : L' ≤ L := by
  by_cases q : L' ≤ L
  · exact q
  · exfalso
    have hp := h.1.pos
    obtain ⟨x, h1, h2⟩ := k.1.before L (by omega) (by omega)
    have a := h2 (by omega)
    have b := h.1.slack hs h1
    have c := best_slack hs h.1.lt
    have d := best_mono (s := s') b h1.lt
    rw [h.2] at c
    omega
end

/-! ### plans and bars -/
abbrev Tl := List (Int × Int)
/-- the end of telling i: the next one's moment, or n -/
def endI (n : Nat) (ts : Tl) (i : Nat) : Int := ((ts.map (·.1)).drop 1 ++ [(n : Int)]).getD i 0
def okI (vs : List Int) (s : Nat) (ts : Tl) (i : Nat) (m v : Int) : Prop := 0 ≤ m ∧ m < endI vs.length ts i ∧ endI vs.length ts i ≤ vs.length ∧ endI vs.length ts i ≤ reach vs s m.toNat v
instance {vs s ts i m v} : Decidable (okI vs s ts i m v) := by unfold okI; infer_instance
/-- what the program asks -/
def PlanP (vs : List Int) (s : Nat) (ts : Tl) : Prop := (∃ v, ts[0]? = some (0, v)) ∧ ∀ i m v, ts[i]? = some (m, v) → okI vs s ts i m v
/-- the told value at a moment -/
def told (ts : Tl) (k : Int) : Option Int := ((ts.filter fun q => decide (q.1 ≤ k)).map (·.2)).getLast?
/-- what the law asks -/
def PlanL (vs : List Int) (s : Nat) (ts : Tl) : Prop := (∃ v, ts[0]? = some (0, v)) ∧ (ts.map (·.1)).Pairwise (· < ·) ∧ (∀ m v, ts.getLast? = some (m, v) → m < vs.length) ∧ ∀ k : Nat, k < vs.length → ∀ v, told ts k = some v → v ∈ win vs s k
theorem endI_mid {n : Nat} {ts : Tl} {i : Nat} {m v : Int} (h : ts[i + 1]? = some (m, v)) : endI n ts i = m := by
  unfold endI
  rw [List.getD_eq_getElem?_getD]
  have hl : i + 1 < ts.length := (List.getElem?_eq_some_iff.mp h).1
  rw [List.getElem?_append_left (by simp; omega), List.getElem?_drop, Nat.add_comm, List.getElem?_map, h]
  rfl
theorem endI_last {n : Nat} {ts : Tl} {i : Nat} (h : i + 1 = ts.length) : endI n ts i = n := by
  unfold endI
  rw [List.getD_eq_getElem?_getD, List.getElem?_append_right (by simp; omega)]
  simp [show i - (ts.length - 1) = 0 by omega]
theorem asc_of_steps {ts : Tl} (h : ∀ (i : Nat) (m v m' v' : Int), ts[i]? = some (m, v) → ts[i + 1]? = some (m', v') → m < m') : (ts.map (·.1)).Pairwise (· < ·) := by
  rw [List.pairwise_iff_getElem]
  have step : ∀ d i (hi : i < ts.length) (hj : i + d + 1 < ts.length), (ts[i]).1 < (ts[i + d + 1]).1 := by
    intro d
    induction d with
    | zero => intro i hi hj; exact h i _ _ _ _ (List.getElem?_eq_getElem hi) (List.getElem?_eq_getElem hj)
    | succ d ih =>
      intro i hi hj
      have a := ih i hi (by omega)
      have b : (ts[i + d + 1]).1 < (ts[i + d + 1 + 1]).1 := h (i + d + 1) _ _ _ _ (List.getElem?_eq_getElem (by omega)) (List.getElem?_eq_getElem (show i + d + 1 + 1 < ts.length by omega))
      have e : i + (d + 1) + 1 = i + d + 1 + 1 := by omega
      simp only [e]; omega
  intro i j hi hj hij
  simp only [List.length_map] at hi hj
  simp only [List.getElem_map]
  obtain ⟨d, rfl⟩ : ∃ d, j = i + d + 1 := ⟨j - i - 1, by omega⟩
  exact step d i hi hj
theorem asc_get {ts : Tl} (h : (ts.map (·.1)).Pairwise (· < ·)) {i j : Nat} {p q : Int × Int} (hi : ts[i]? = some p) (hj : ts[j]? = some q) (hij : i < j) : p.1 < q.1 := by
  rw [List.pairwise_iff_getElem] at h
  obtain ⟨a, rfl⟩ := List.getElem?_eq_some_iff.mp hi
  obtain ⟨b, rfl⟩ := List.getElem?_eq_some_iff.mp hj
  have := h i j (by simpa using a) (by simpa using b) hij
  simpa using this
/-- the tellings not behind k are the first ones -/
theorem filter_asc : ∀ (ts : Tl) (i : Nat) (k : Int), (ts.map (·.1)).Pairwise (· < ·) → (∀ j p, ts[j]? = some p → j < i → p.1 ≤ k) → (∀ j p, ts[j]? = some p → i ≤ j → k < p.1) → (ts.filter fun q => decide (q.1 ≤ k)) = ts.take i
  | [], i, k, _, _, _ => by simp
  | t :: ts, 0, k, _, _, h2 => by
    rw [List.take_zero, List.filter_eq_nil_iff]
    intro a ha
    obtain ⟨j, hj⟩ := List.getElem?_of_mem ha
    have := h2 j a hj (Nat.zero_le _)
    simp; omega
  | t :: ts, i + 1, k, ha, h1, h2 => by
    rw [List.take_succ_cons, List.filter_cons_of_pos (by have := h1 0 t rfl (by omega); simpa using this)]
    congr 1
    rw [List.map_cons] at ha
    exact filter_asc ts i k (List.pairwise_cons.mp ha).2 (fun j p hj hl => h1 (j + 1) p hj (by omega)) (fun j p hj hl => h2 (j + 1) p hj (by omega))
theorem told_at {ts : Tl} {i : Nat} {m v : Int} {n : Nat} {k : Int} (ha : (ts.map (·.1)).Pairwise (· < ·)) (h : ts[i]? = some (m, v)) (h1 : m ≤ k) (h2 : k < endI n ts i) (hn : i + 1 = ts.length ∨ ∃ p, ts[i + 1]? = some p) : told ts k = some v := by
  have hf : (ts.filter fun q => decide (q.1 ≤ k)) = ts.take (i + 1) := by
    refine filter_asc ts (i + 1) k ha (fun j p hj hl => ?_) (fun j p hj hl => ?_)
    · by_cases e : j = i
      · subst e; rw [h] at hj; cases hj; exact h1
      · have := asc_get ha hj h (by omega); simp at this; omega
    · rcases hn with hn | ⟨⟨m', v'⟩, hn⟩
      · rw [List.getElem?_eq_none (by omega)] at hj; cases hj
      · rw [endI_mid hn] at h2
        by_cases e : j = i + 1
        · subst e; rw [hn] at hj; cases hj; exact h2
        · have := asc_get ha hn hj (by omega); simp at this; omega
  unfold told
  rw [hf, List.getLast?_map, List.getLast?_take]
  have hl : i < ts.length := (List.getElem?_eq_some_iff.mp h).1
  simp [h]
theorem next_or {ts : Tl} {i : Nat} {p : Int × Int} (h : ts[i]? = some p) : i + 1 = ts.length ∨ ∃ p, ts[i + 1]? = some p := by
  have hl : i < ts.length := (List.getElem?_eq_some_iff.mp h).1
  by_cases q : i + 1 = ts.length
  · exact .inl q
  · exact .inr ⟨_, List.getElem?_eq_getElem (by omega)⟩
/-- every moment belongs to a telling -/
theorem find_telling {ts : Tl} {n : Nat} {v0 : Int} (h0 : ts[0]? = some (0, v0)) (k : Nat) (hk : k < n) : ∃ (i : Nat) (m v : Int), ts[i]? = some (m, v) ∧ m ≤ k ∧ (k : Int) < endI n ts i := by
  have key : ∀ (d i : Nat) (m v : Int), ts.length - i = d → ts[i]? = some (m, v) → m ≤ k → ∃ (i : Nat) (m v : Int), ts[i]? = some (m, v) ∧ m ≤ k ∧ (k : Int) < endI n ts i := by
    intro d
    induction d with
    | zero => intro i m v hd h _; have := (List.getElem?_eq_some_iff.mp h).1; omega
    | succ d ih =>
      intro i m v hd h hm
      by_cases q : (k : Int) < endI n ts i
      · exact ⟨i, m, v, h, hm, q⟩
      · rcases next_or h with e | ⟨⟨m', v'⟩, e⟩
        · rw [endI_last e] at q; omega
        · rw [endI_mid e] at q
          exact ih (i + 1) m' v' (by omega) e (by omega)
  exact key _ 0 0 v0 rfl h0 (by omega)
theorem plan_iff {vs : List Int} {s : Nat} {ts : Tl} : PlanP vs s ts ↔ PlanL vs s ts := by
  constructor
  · rintro ⟨⟨v0, h0⟩, h⟩
    have ha : (ts.map (·.1)).Pairwise (· < ·) := asc_of_steps fun i m v m' v' h1 h2 => by
      have := (h i m v h1).2.1
      rwa [endI_mid h2] at this
    refine ⟨⟨v0, h0⟩, ha, fun m v hl => ?_, fun k hk v hv => ?_⟩
    · rw [List.getLast?_eq_getElem?] at hl
      have hl' := (List.getElem?_eq_some_iff.mp hl).1
      have := (h _ m v hl).2.1
      rwa [endI_last (by omega)] at this
    · obtain ⟨i, m, v', h1, h2, h3⟩ := find_telling h0 k hk
      obtain ⟨a, b, c, d⟩ := h i m v' h1
      rw [told_at ha h1 h2 h3 (next_or h1)] at hv
      cases hv
      exact reach_in (m := m.toNat) (by omega) (by omega)
  · rintro ⟨⟨v0, h0⟩, ha, hl, h⟩
    refine ⟨⟨v0, h0⟩, fun i m v hi => ?_⟩
    have hm : 0 ≤ m := by
      by_cases e : i = 0
      · subst e; rw [h0] at hi; cases hi; omega
      · have := asc_get ha h0 hi (by omega); simp at this; omega
    have he : m < endI vs.length ts i ∧ endI vs.length ts i ≤ vs.length := by
      rcases next_or hi with e | ⟨⟨m', v'⟩, e⟩
      · rw [endI_last e]
        have := hl m v (by rw [List.getLast?_eq_getElem?, show ts.length - 1 = i by omega]; exact hi)
        omega
      · rw [endI_mid e]
        have h1 := asc_get ha hi e (by omega)
        simp at h1
        refine ⟨h1, ?_⟩
        have hlen : 0 < ts.length := by have := (List.getElem?_eq_some_iff.mp hi).1; omega
        obtain ⟨q, hq⟩ : ∃ q, ts.getLast? = some q := by
          cases z : ts.getLast? with
          | none => rw [List.getLast?_eq_none_iff] at z; subst z; simp at hlen
          | some q => exact ⟨q, rfl⟩
        have h2 := hl q.1 q.2 hq
        rw [List.getLast?_eq_getElem?] at hq
        by_cases z : i + 1 = ts.length - 1
        · rw [← z, e] at hq; cases hq; simp at h2; omega
        · have hlt := (List.getElem?_eq_some_iff.mp e).1
          have := asc_get ha e hq (by omega); simp at this; omega
    refine ⟨hm, he.1, he.2, ?_⟩
    have : (endI vs.length ts i).toNat ≤ reach vs s m.toNat v := by
      refine le_reach (by omega) (fun k h1 h2 => ?_) (by omega)
      exact h k (by omega) v (told_at (n := vs.length) ha hi (by omega) (by omega) (next_or hi))
    omega
/-- bars -/
def BarsL (vs : List Int) (s : Nat) (bs : List Int) : Prop := bs[0]? = some 0 ∧ bs.Pairwise (· < ·) ∧ (∀ b, bs.getLast? = some b → b < vs.length) ∧ ∀ i b b', bs[i]? = some b → bs[i + 1]? = some b' → (best vs s b.toNat : Int) ≤ b'
/-- a pair is right -/
def PairL (vs : List Int) (s : Nat) (ts : Tl) (bs : List Int) : Prop := ts.length = bs.length ∧ PlanL vs s ts ∧ BarsL vs s bs
/-- the greedy plan -/
def Gs (vs : List Int) (s : Nat) (ts : Tl) : Prop := ∀ (i : Nat) (m v : Int), ts[i]? = some (m, v) → ∃ g : Nat, m = g ∧ GA vs s g (i + 1) ∧ v ∈ win vs s g ∧ reach vs s g v = best vs s g
theorem GA.next {vs : List Int} {s g g' L : Nat} (h : GA vs s g L) (k : GA vs s g' (L + 1)) : g' = best vs s g := by
  cases k with
  | zero => have := h.pos; omega
  | step k _ => rw [k.fn h]
theorem greedy_right {vs : List Int} {s : Nat} {ts : Tl} {g : Nat} (h : Gs vs s ts) (hl : Last vs s g ts.length) : PairL vs s ts (ts.map (·.1)) := by
  have hp := hl.1.pos
  have first : ∃ v, ts[0]? = some (0, v) := by
    have e : ts[0]? = some (ts[0]'(by omega)) := List.getElem?_eq_getElem _
    obtain ⟨g0, h1, h2, _⟩ := h 0 _ _ e
    cases h2 with
    | zero =>
      refine ⟨(ts[0]'(by omega)).2, e.trans ?_⟩
      congr 1
      exact Prod.ext h1 rfl
    | step k _ => have := k.pos; omega
  have step : ∀ (i : Nat) (m v m' v' : Int), ts[i]? = some (m, v) → ts[i + 1]? = some (m', v') → ∃ x : Nat, m = x ∧ m' = (best vs s x : Nat) ∧ x + 1 ≤ best vs s x := by
    intro i m v m' v' h1 h2
    obtain ⟨x, e1, a1, _⟩ := h i m v h1
    obtain ⟨y, e2, a2, _⟩ := h (i + 1) m' v' h2
    exact ⟨x, e1, by rw [e2, a1.next a2], (best_lt a1.lt).1⟩
  have lastg : ∀ m v, ts[ts.length - 1]? = some (m, v) → m = g := by
    intro m v e
    obtain ⟨x, e1, a1, _⟩ := h _ m v e
    rw [show ts.length - 1 + 1 = ts.length by omega] at a1
    rw [e1, a1.fn hl.1]
  have asc : (ts.map (·.1)).Pairwise (· < ·) := asc_of_steps fun i m v m' v' h1 h2 => by
    obtain ⟨x, e1, e2, e3⟩ := step i m v m' v' h1 h2
    omega
  refine ⟨by simp, plan_iff.mp ⟨first, fun i m v hi => ?_⟩, ?_, asc, fun b hb => ?_, fun i b b' h1 h2 => ?_⟩
  · obtain ⟨x, e1, a1, a2, a3⟩ := h i m v hi
    have xb := best_lt (s := s) a1.lt
    rcases next_or hi with e | ⟨⟨m', v'⟩, e⟩
    · have : x = g := by
        have := lastg m v (by rw [show ts.length - 1 = i by omega]; exact hi)
        omega
      subst this
      unfold okI
      rw [endI_last e]
      subst e1
      refine ⟨by omega, by have := a1.lt; omega, Int.le_refl _, ?_⟩
      rw [Int.toNat_natCast, a3, hl.2]; exact Int.le_refl _
    · obtain ⟨y, f1, f2, f3⟩ := step i m v m' v' hi e
      have : x = y := by omega
      subst this
      unfold okI
      rw [endI_mid e, f2]
      subst e1
      refine ⟨by omega, by omega, by omega, ?_⟩
      rw [Int.toNat_natCast, a3]; exact Int.le_refl _
  · obtain ⟨v, hv⟩ := first
    rw [List.getElem?_map, hv]; rfl
  · rw [List.getLast?_map, List.getLast?_eq_getElem?] at hb
    cases e : ts[ts.length - 1]? with
    | none => rw [e] at hb; cases hb
    | some p =>
      rw [e] at hb
      obtain rfl := Option.some.inj hb
      have := lastg p.1 p.2 e
      have := hl.1.lt
      show p.1 < _
      omega
  · rw [List.getElem?_map] at h1 h2
    cases e1 : ts[i]? with
    | none => rw [e1] at h1; cases h1
    | some p =>
      cases e2 : ts[i + 1]? with
      | none => rw [e2] at h2; cases h2
      | some q =>
        rw [e1] at h1; rw [e2] at h2
        obtain rfl := Option.some.inj h1
        obtain rfl := Option.some.inj h2
        obtain ⟨x, f1, f2, f3⟩ := step i p.1 p.2 q.1 q.2 e1 e2
        show (best vs s p.1.toNat : Int) ≤ q.1
        rw [f2, f1, Int.toNat_natCast]; exact Int.le_refl _
end Tell
/-! k80: the law's table of least numbers, its own plans -/
namespace Tell
open DL
theorem reach_nx {vs : List Int} {s b m : Nat} {v : Int} (hm : m < vs.length) (hb : b ≤ m) : (m < reach vs s b v) ↔ (m ≤ reach vs s b v ∧ v ∈ win vs s m) := by
  constructor
  · intro h; exact ⟨by omega, reach_in hb h⟩
  · rintro ⟨h1, h2⟩
    by_cases q : m < reach vs s b v
    · exact q
    · have e : reach vs s b v = m := by omega
      have := reach_out (vs := vs) (s := s) (m := b) (v := v) (by omega)
      rw [e] at this; exact absurd h2 this
/-- f is the row of moment m, L its least number -/
def Cs (vs : List Int) (s m L : Nat) (f : Int → Int) : Prop := ∃ g, GA vs s g L ∧ g ≤ m ∧ m < best vs s g ∧ ∀ v ∈ win vs s m, f v = if m < reach vs s g v then (L : Int) else L + 1
def nextF (vs : List Int) (s m L : Nat) (f : Int → Int) (v : Int) : Int := if v ∈ win vs s m then (if (L : Int) + 1 < f v then (L : Int) + 1 else f v) else L + 1
theorem Cs.start {vs : List Int} {s : Nat} (h : 0 < vs.length) : Cs vs s 0 1 fun _ => 1 :=
  ⟨0, .zero h, Nat.le_refl _, (best_lt h).1, fun v hv => by rw [if_pos (by have := reach_step h hv; omega)]; rfl⟩
theorem Cs.least {vs : List Int} {s m L : Nat} {f : Int → Int} (h : Cs vs s m L f) : (∃ v ∈ win vs s m, f v = L) ∧ (∀ v ∈ win vs s m, (L : Int) ≤ f v ∧ f v ≤ L + 1) ∧ 1 ≤ L := by
  obtain ⟨g, a, h1, h2, h3⟩ := h
  refine ⟨?_, fun v hv => by rw [h3 v hv]; split <;> omega, a.pos.1⟩
  obtain ⟨v, k1, k2⟩ := best_at (s := s) a.lt
  have hv : v ∈ win vs s m := reach_in h1 (by omega)
  exact ⟨v, hv, by rw [h3 v hv, if_pos (by omega)]⟩
theorem Cs.next {vs : List Int} {s m L : Nat} {f : Int → Int} (h : Cs vs s m L f) (hm : m + 1 < vs.length) : ∃ L', Cs vs s (m + 1) L' (nextF vs s m L f) := by
  obtain ⟨g, a, h1, h2, h3⟩ := h
  have key : ∀ v ∈ win vs s (m + 1), nextF vs s m L f v = if m + 1 < reach vs s g v then (L : Int) else L + 1 := fun v hv => by
    unfold nextF
    have e := reach_nx (vs := vs) (s := s) (b := g) (m := m + 1) (v := v) hm (by omega)
    by_cases q : m + 1 < reach vs s g v
    · have hv' : v ∈ win vs s m := reach_in h1 (by omega)
      rw [if_pos q, if_pos hv', h3 v hv', if_pos (show m < reach vs s g v by omega), if_neg (show ¬ (L : Int) + 1 < L by omega)]
    · have q2 : ¬ m < reach vs s g v := fun z => q (e.mpr ⟨z, hv⟩)
      rw [if_neg q]
      split
      · rename_i hv'
        rw [h3 v hv', if_neg q2, if_neg (show ¬ (L : Int) + 1 < L + 1 by omega)]
      · rfl
  by_cases q : m + 1 < best vs s g
  · exact ⟨L, g, a, by omega, q, key⟩
  · have eb : best vs s g = m + 1 := by omega
    refine ⟨L + 1, m + 1, eb ▸ GA.step a (by omega), Nat.le_refl _, (best_lt hm).1, fun v hv => ?_⟩
    rw [key v hv, if_neg, if_pos (by have := reach_step hm hv; omega)]
    · omega
    · intro z
      have hg : v ∈ win vs s g := reach_in (Nat.le_refl g) (by omega)
      have := best_ge hg
      omega
theorem Cs.last {vs : List Int} {s L m : Nat} {f : Int → Int} (h : Cs vs s m L f) (hm : m + 1 = vs.length) : ∃ g, Last vs s g L := by
  obtain ⟨g, a, h1, h2, h3⟩ := h
  have := (best_lt (s := s) a.lt).2
  exact ⟨g, a, by omega⟩
/-- the whole table: rows F m with least numbers N m -/
structure Tab (vs : List Int) (s n : Nat) (N : Nat → Nat) (F : Nat → Int → Int) : Prop where
  row : ∀ m, m < n → Cs vs s m (N m) (F m)
  zero : ∀ v ∈ win vs s 0, F 0 v = 1
  nx : ∀ m, m + 1 < n → F (m + 1) = nextF vs s m (N m) (F m)
theorem Tab.step {vs : List Int} {s m : Nat} {N : Nat → Nat} {F : Nat → Int → Int} (h : Tab vs s (m + 1) N F) (hm : m + 1 < vs.length) : ∃ L', Tab vs s (m + 2) (fun i => if i = m + 1 then L' else N i) (fun i => if i = m + 1 then nextF vs s m (N m) (F m) else F i) := by
  obtain ⟨L', hL⟩ := (h.row m (by omega)).next hm
  refine ⟨L', fun i hi => ?_, fun v hv => ?_, fun i hi => ?_⟩
  · by_cases e : i = m + 1
    · subst e; simp only [if_true]; exact hL
    · simp only [if_neg e]; exact h.row i (by omega)
  · simp only [if_neg (show ¬ 0 = m + 1 by omega)]; exact h.zero v hv
  · by_cases e : i = m
    · subst e; simp only [if_true, if_neg (show ¬ i = i + 1 by omega)]
    · simp only [if_neg (show ¬ i + 1 = m + 1 by omega), if_neg (show ¬ i = m + 1 by omega)]; exact h.nx i (by omega)
/-- from row to row: it stays, or all of the least ones ahead may end -/
theorem Tab.back {vs : List Int} {s n m : Nat} {N : Nat → Nat} {F : Nat → Int → Int} (h : Tab vs s n N F) (hm : m + 1 < n) {v : Int} : (v ∈ win vs s m ∧ F m v = F (m + 1) v) ∨ ∃ u ∈ win vs s m, F m u + 1 = F (m + 1) v := by
  have hc := h.row m (by omega)
  obtain ⟨⟨u, u1, u2⟩, u3, _⟩ := hc.least
  rw [h.nx m hm]
  unfold nextF
  by_cases q : v ∈ win vs s m
  · have := (u3 v q).2
    rw [if_pos q, if_neg (by omega)]
    exact .inl ⟨q, rfl⟩
  · rw [if_neg q]
    exact .inr ⟨u, u1, by omega⟩
/-- what the way back has found: T from moment m on, v is told at m -/
structure Back (vs : List Int) (s m n : Nat) (T : Tl) (v : Int) : Prop where
  mem : v ∈ win vs s m
  asc : (T.map (·.1)).Pairwise (· < ·)
  gt : ∀ p ∈ T, (m : Int) < p.1 ∧ p.1 < n
  ok : ∀ k : Nat, m ≤ k → k < n → ∀ u, (told T k).getD v = u → u ∈ win vs s k
theorem told_cons {t : Int × Int} {T : Tl} {k : Int} (h : t.1 ≤ k) : told (t :: T) k = some ((told T k).getD t.2) := by
  unfold told
  rw [List.filter_cons_of_pos (by simpa using h), List.map_cons, List.getLast?_cons]
theorem told_none {T : Tl} {k : Int} (h : ∀ p ∈ T, k < p.1) : told T k = none := by
  unfold told
  rw [List.filter_eq_nil_iff.mpr (fun p hp => by have := h p hp; simp; omega)]; rfl
theorem Back.start {vs : List Int} {s m : Nat} {v : Int} (h : v ∈ win vs s m) : Back vs s m (m + 1) [] v :=
  ⟨h, by simp, fun p hp => (nomatch hp), fun k k1 k2 u hu => by
    have : k = m := by omega
    subst this
    rw [told_none (T := []) (fun p hp => (nomatch hp))] at hu
    obtain rfl := hu; exact h⟩
theorem Back.stay {vs : List Int} {s m n : Nat} {T : Tl} {v : Int} (h : Back vs s (m + 1) n T v) (hv : v ∈ win vs s m) : Back vs s m n T v :=
  ⟨hv, h.asc, fun p hp => by have := h.gt p hp; omega, fun k k1 k2 u hu => by
    by_cases e : k = m
    · subst e
      rw [told_none (fun p hp => by have := h.gt p hp; omega)] at hu
      obtain rfl := hu; exact hv
    · exact h.ok k (by omega) k2 u hu⟩
theorem Back.turn {vs : List Int} {s m n : Nat} {T : Tl} {v u : Int} (h : Back vs s (m + 1) n T v) (hn : m + 1 < n) (hu : u ∈ win vs s m) : Back vs s m n (((m + 1 : Nat), v) :: T) u := by
  refine ⟨hu, ?_, fun p hp => ?_, fun k k1 k2 x hx => ?_⟩
  · rw [List.map_cons, List.pairwise_cons]
    refine ⟨fun x hx => ?_, h.asc⟩
    obtain ⟨p, hp, rfl⟩ := List.mem_map.mp hx
    exact (h.gt p hp).1
  · rcases List.mem_cons.mp hp with rfl | hp
    · simp only; omega
    · have := h.gt p hp; omega
  · by_cases e : k = m
    · subst e
      rw [told_none (fun p hp => by
        rcases List.mem_cons.mp hp with rfl | hp
        · simp only; omega
        · have := h.gt p hp; omega)] at hx
      obtain rfl := hx; exact hu
    · rw [told_cons (by simp only; omega)] at hx
      exact h.ok k (by omega) k2 x hx
theorem Back.plan {vs : List Int} {s : Nat} {T : Tl} {v : Int} (h : Back vs s 0 vs.length T v) (h0 : 0 < vs.length) : PlanL vs s ((0, v) :: T) := by
  refine ⟨⟨v, rfl⟩, ?_, fun m u hl => ?_, fun k hk u hu => ?_⟩
  · rw [List.map_cons, List.pairwise_cons]
    refine ⟨fun x hx => ?_, h.asc⟩
    obtain ⟨p, hp, rfl⟩ := List.mem_map.mp hx
    exact (h.gt p hp).1
  · have := List.mem_of_getLast? hl
    rcases List.mem_cons.mp this with e | hp
    · cases e; omega
    · exact (h.gt _ hp).2
  · rw [told_cons (by simp only; omega)] at hu
    exact h.ok k (by omega) hk u (Option.some.inj hu)
end Tell
namespace K80
open PySem L2 DL Tell
variable {P : Program} {w : World} {K : PySem.W.Frag} {mg : Str → Option Value} {base : Heap}
set_option hygiene false in
local macro_rules | `(tactic| walk_at "side") => `(tactic| first
  | (with_reducible assumption)
  | rfl
  | omega
  | decide
  | exact ⟨by omega, by omega⟩
  | exact ⟨by decide, by decide⟩
  | exact .inl ⟨by decide, by decide⟩
  | exact .inr ⟨by decide, by decide⟩
  | exact .inl ⟨by omega, by omega⟩
  | exact .inr ⟨by omega, by omega⟩
  | exact ⟨by decide, by decide, by decide⟩
  | exact szb rfl
  | fail "side")
set_option hygiene false in
local macro_rules | `(tactic| walk_at "ne") => `(tactic| first
  | assumption
  | exact Ne.symm (by assumption)
  | exact ne_fresh (by assumption) (by assumption)
  | exact Ne.symm (ne_fresh (by assumption) (by assumption)))
/- what stands at an address -/
set_option hygiene false in
local macro_rules | `(tactic| walk_at "mem") => `(tactic| first
  | assumption
  | exact Mem.upd_same
  | exact (Mem.upd_ne (by walk_at "ne")).trans (by walk_at "mem"))
/- an item of a list -/
set_option hygiene false in
local macro_rules | `(tactic| walk_at "at") => `(tactic| first
  | rfl
  | exact atI_getI (by omega) (by omega)
  | exact atI_lastI (by first | omega | (simp only [List.length_map] at *; omega))
  | exact atI_lastM _ (by assumption)
  | exact atI_mapI _ (by omega) (by assumption)
  | exact atI_mapN _ (by assumption)
  | exact atI_get _ (by first | omega | (simp only [List.length_map, List.length_set] at *; omega)) (by first | omega | (simp only [List.length_map, List.length_set] at *; omega)))
/- tests that are decided or split -/
set_option hygiene false in
local macro_rules | `(tactic| walk_at "if") => `(tactic| first
  | refine if_tt ?_
  | refine if_ff ?_
  | refine if_f_tt ?_
  | refine if_f_ff ?_
  | (refine if_dec (fun hk => ?_) (fun hk => ?_))
  | (refine if_ndec (fun hk => ?_) (fun hk => ?_))
  | (refine if_f_dec (fun hk => ?_) (fun hk => ?_))
  | (refine if_f_ndec (fun hk => ?_) (fun hk => ?_))
  | (refine if_nb (fun hk => ?_) (fun hk => ?_))
  | (refine if_f_nb (fun hk => ?_) (fun hk => ?_))
  | (refine And.intro (fun hk => ?_) (fun hk => ?_)))
set_option hygiene false in
local macro_rules | `(tactic| walk_at "call") => `(tactic| first
  | ((with_reducible show DL.WE _ (.Call (.Name "len" _) _ [] _) _ _ _); refine we_callB bt_len T.b_len (h := ?_))
  | ((with_reducible show DL.WE _ (.Call (.Name "abs" _) _ [] _) _ _ _); refine we_callB bt_abs T.b_abs (h := ?_))
  | ((with_reducible show DL.WE _ (.Call (.Name "min" _) _ [] _) _ _ _); refine we_callB bt_min T.b_min (h := ?_))
  | ((with_reducible show DL.WE _ (.Call (.Name "max" _) _ [] _) _ _ _); refine we_callB bt_max T.b_max (h := ?_))
  | ((with_reducible show DL.WE _ (.Call (.Name "sum" _) _ [] _) _ _ _); refine we_callB bt_sum T.b_sum (h := ?_))
  | ((with_reducible show DL.WE _ (.Call (.Name "all" _) _ [] _) _ _ _); refine we_callB bt_all T.b_all (h := ?_))
  | ((with_reducible show DL.WE _ (.Call (.Name "any" _) _ [] _) _ _ _); refine we_callB bt_any T.b_any (h := ?_))
  | ((with_reducible show DL.WE _ (.Call (.Name "sorted" _) _ [] _) _ _ _); refine we_callB bt_sorted T.b_sorted (h := ?_))
  | ((with_reducible show DL.WE _ (.Call (.Name "isinstance" _) _ [] _) _ _ _); refine we_callB bt_isinstance T.b_isinstance (h := ?_))
  | ((with_reducible show DL.WE _ (.Call (.Name "int" _) _ [] _) _ _ _); refine we_callT bt_int T.b_int (h := ?_))
  | ((with_reducible show DL.WE _ (.Call (.Name "list" _) _ [] _) _ _ _); refine we_callT bt_list T.b_list (h := ?_))
  | ((with_reducible show DL.WE _ (.Call (.Name "tuple" _) _ [] _) _ _ _); refine we_callT bt_tuple T.b_tuple (h := ?_))
  | ((with_reducible show DL.WE _ (.Call (.Name "bool" _) _ [] _) _ _ _); refine we_callT bt_bool T.b_bool (h := ?_))
  | ((with_reducible show DL.WE _ (.Call (.Name "set" _) _ [] _) _ _ _); refine we_callT bt_set T.b_set (h := ?_)))
set_option hygiene false in
local macro_rules | `(tactic| walk_at "ty") => `(tactic| first
  | ((with_reducible show DL.WE _ (.Name "int" _) _ _ _); refine we_type rfl T.b_int bt_int (by decide) (by decide) ?_)
  | ((with_reducible show DL.WE _ (.Name "bool" _) _ _ _); refine we_type rfl T.b_bool bt_bool (by decide) (by decide) ?_)
  | ((with_reducible show DL.WE _ (.Name "tuple" _) _ _ _); refine we_type rfl T.b_tuple bt_tuple (by decide) (by decide) ?_)
  | ((with_reducible show DL.WE _ (.Name "list" _) _ _ _); refine we_type rfl T.b_list bt_list (by decide) (by decide) ?_))
set_option hygiene false in
local macro_rules | `(tactic| walk_at "E") => `(tactic| first
  | ((with_reducible show DL.WE _ (.Name _ _) _ _ _); first | walk_at "nm" | walk_at "ty")
  | ((with_reducible show DL.WE _ (.Constant _ _ _) _ _ _); first | refine we_int ?_ | refine we_str ?_ | refine we_bl ?_ | refine we_non ?_)
  | ((with_reducible show DL.WE _ (.Call (.Name "sorted" _) [.Call (.Name "set" _) [_] [] _] [] _) _ _ _); refine we_sortedSet T.b_sorted T.b_set (h := ?_))
  | ((with_reducible show DL.WE _ (.Call (.Name "list" _) [.Call (.Attribute _ "values" _) [] [] _] [] _) _ _ _); refine we_listVals T.b_list (h := ?_))
  | ((with_reducible show DL.WE _ (.Call (.Name _ _) _ [] _) _ _ _); walk_at "call")
  | ((with_reducible show DL.WE _ (.Call (.Attribute _ "get" _) [_, _] [] _) _ _ _); refine we_dget2A (h := ?_))
  | ((with_reducible show DL.WE _ (.Call (.Attribute _ "append" _) _ [] _) _ _ _); refine we_lmA PySem.F.slot_list_append PySem.F.type_list_append (h := ?_))
  | ((with_reducible show DL.WE _ (.Call (.Attribute _ "extend" _) _ [] _) _ _ _); refine we_lmA PySem.F.slot_list_extend PySem.F.type_list_extend (h := ?_))
  | ((with_reducible show DL.WE _ (.Call (.Attribute _ "pop" _) (_ :: _) [] _) _ _ _); refine we_lmA PySem.F.slot_list_pop PySem.F.type_list_pop (h := ?_))
  | ((with_reducible show DL.WE _ (.BinOp _ _ _ _) _ _ _); refine we_bin ?_)
  | ((with_reducible show DL.WE _ (.Compare _ [_] _ _) _ _ _); refine we_cmp (h := ?_))
  | ((with_reducible show DL.WE _ (.Compare _ [_, _] _ _) _ _ _); refine we_chain (h := ?_))
  | ((with_reducible show DL.WE _ (.Subscript _ (.Slice _ _ none _) _) _ _ _); refine we_slice ?_)
  | ((with_reducible show DL.WE _ (.Subscript _ (.Slice none none _ _) _) _ _ _); first | refine we_revL ?_ | refine we_slice ?_)
  | ((with_reducible show DL.WE _ (.Subscript _ _ _) _ _ _); refine we_sub (h := ?_))
  | ((with_reducible show DL.WE _ (.Tuple _ _ _) _ _ _); refine we_tup ?_)
  | ((with_reducible show DL.WE _ (.UnaryOp .Not _ _) _ _ _); refine we_not ?_)
  | ((with_reducible show DL.WE _ (.UnaryOp _ _ _) _ _ _); refine we_un ?_)
  | ((with_reducible show DL.WE _ (.BoolOp _ [_] _) _ _ _); refine we_one ?_)
  | ((with_reducible show DL.WE _ (.BoolOp .And _ _) _ _ _); refine we_and ?_)
  | ((with_reducible show DL.WE _ (.BoolOp .Or _ _) _ _ _); refine we_or ?_)
  | ((with_reducible show DL.WE _ (.IfExp _ _ _ _) _ _ _); refine we_ifExp ?_)
  | ((with_reducible show DL.WE _ (.List [] _) _ _ _); refine we_lstM (wa_nil ⟨szb rfl, fun p hp => ?_⟩))
  | ((with_reducible show DL.WE _ (.List _ _) _ _ _); refine we_lst ?_)
  | ((with_reducible show DL.WE _ (.Dict [] [] _) _ _ _); refine we_dctM (fun p hp => ?_)))
set_option hygiene false in
local macro_rules | `(tactic| walk_at "S") => `(tactic| first
  | ((with_reducible show DL.WS _ (.Assign [.Name _ _] _ _) _ _ _); walk_at "set")
  | ((with_reducible show DL.WS _ (.Return (some _) _) _ _ _); refine ws_ret' ?_)
  | ((with_reducible show DL.WS _ (.Return _ _) _ _ _); refine ws_retN ?_)
  | ((with_reducible show DL.WS _ (.If _ _ _ _) _ _ _); refine ws_if ?_)
  | ((with_reducible show DL.WS _ (.Expr _ _) _ _ _); refine ws_expr (h := ?_))
  | ((with_reducible show DL.WS _ (.Assign [.Tuple _ _ _] _ _) _ _ _); refine ws_asg (h := ?_))
  | ((with_reducible show DL.WS _ (.Assign [.Subscript _ _ _] _ _) _ _ _); refine ws_putA (h := ?_))
  | ((with_reducible show DL.WS _ (.AugAssign (.Name _ _) _ _ _) _ _ _); walk_at "aug")
  | ((with_reducible show DL.WS _ (.AugAssign (.Subscript _ _ _) .Add _ _) _ _ _); refine ws_augLA (fun _ => ip_add) (h := ?_))
  | ((with_reducible show DL.WS _ (.For _ _ _ [] _) _ _ _); refine ws_for (h := ?_))
  | ((with_reducible show DL.WS _ (.Pass _) _ _ _); refine ws_pass ?_)
  | ((with_reducible show DL.WS _ (.Break _) _ _ _); refine ws_break ?_)
  | ((with_reducible show DL.WS _ (.Continue _) _ _ _); refine ws_cont ?_))
set_option hygiene false in
local macro_rules | `(tactic| walk_at "T") => `(tactic| first
  | ((with_reducible show DL.WT _ (.Compare _ [_] _ _) _ _ _); refine wt_cmp (h := ?_))
  | ((with_reducible show DL.WT _ (.Compare _ [_, _] _ _) _ _ _); refine wt_chain (h := ?_))
  | ((with_reducible show DL.WT _ (.UnaryOp .Not _ _) _ _ _); refine wt_not ?_)
  | ((with_reducible show DL.WT _ (.BoolOp _ _ _) _ _ _); refine wt_ww ?_)
  | refine wt_val (h := ?_))
set_option hygiene false in
local macro_rules | `(tactic| walk_at "O") => `(tactic| first
  | ((with_reducible show DL.WO _ (binaryOp .Add) _ _ _ _); first | refine wo_add ?_ | refine wo_cat (.inl rfl) (.inl rfl) (by walk_at "sz") ?_ | refine wo_cat (.inr ⟨_, rfl, by walk_at "mem"⟩) (.inl rfl) (by walk_at "sz") ?_ | refine wo_catT (by walk_at "sz") ?_)
  | ((with_reducible show DL.WO _ (binaryOp .Sub) _ _ _ _); refine wo_sub ?_)
  | ((with_reducible show DL.WO _ (binaryOp .Mult) _ _ _ _); refine wo_mul (by walk_at "side") ?_)
  | ((with_reducible show DL.WO _ (binaryOp .FloorDiv) _ _ _ _); refine wo_fdiv (by walk_at "side") ?_)
  | ((with_reducible show DL.WO _ (binaryOp .Mod) _ _ _ _); refine wo_mod (by walk_at "side") ?_)
  | ((with_reducible show DL.WO _ (compareOp .Lt) _ _ _ _); refine wo_lt ?_)
  | ((with_reducible show DL.WO _ (compareOp .LtE) _ _ _ _); refine wo_le ?_)
  | ((with_reducible show DL.WO _ (compareOp .Gt) _ _ _ _); refine wo_gt ?_)
  | ((with_reducible show DL.WO _ (compareOp .GtE) _ _ _ _); refine wo_ge ?_)
  | ((with_reducible show DL.WO _ (compareOp .Eq) _ _ _ _); first | refine wo_eqI ?_ | refine wo_eqS ?_ | refine wo_eqB ?_ | refine wo_eqIL ?_ | refine wo_eqIT ?_)
  | ((with_reducible show DL.WO _ (compareOp .NotEq) _ _ _ _); first | refine wo_neI ?_ | refine wo_neS ?_ | refine wo_neB ?_ | refine wo_neIL ?_ | refine wo_neIT ?_)
  | ((with_reducible show DL.WO _ (compareOp .Is) _ _ _ _); first | refine wo_isB ?_ | refine wo_isN true (.inl ⟨rfl, rfl⟩) ?_ | refine wo_isN false (.inr ⟨rfl, fun z => by cases z⟩) ?_)
  | ((with_reducible show DL.WO _ (compareOp .IsNot) _ _ _ _); first | refine wo_isnotB ?_ | refine wo_notN false (.inl ⟨rfl, rfl⟩) ?_ | refine wo_notN true (.inr ⟨rfl, fun z => by cases z⟩) ?_)
  | ((with_reducible show DL.WO _ (compareOp .In) _ _ _ _); first | refine wo_inT ?_ | refine wo_inL ?_)
  | ((with_reducible show DL.WO _ (compareOp .NotIn) _ _ _ _); first | refine wo_notinT ?_ | refine wo_notinL ?_)
  | ((with_reducible show DL.WO _ (binaryOp .Pow) _ _ _ _); refine wo_pow (by walk_at "side") ?_)
  | ((with_reducible show DL.WO _ (binaryOp .LShift) _ _ _ _); refine wo_shl (by walk_at "side") ?_))
set_option hygiene false in
local macro_rules | `(tactic| walk_at "C") => `(tactic| first
  | ((with_reducible show DL.WC _ (.builtin "len") [.tup (List.map _ _)] _ _); refine wc_len_tupM ?_)
  | ((with_reducible show DL.WC _ (.builtin "len") [.lst (List.map _ _)] _ _); refine wc_len_lstM ?_)
  | ((with_reducible show DL.WC _ (.builtin "len") [.loc _] _ _); refine wc_len_loc (by walk_at "mem") ?_)
  | ((with_reducible show DL.WC _ (.builtin "len") _ _ _); first | refine wc_len_tup ?_ | refine wc_len_lst ?_)
  | ((with_reducible show DL.WC _ (.builtin "all") _ _ _); first | refine wc_allT ?_ | refine wc_allM ?_)
  | ((with_reducible show DL.WC _ (.builtin "any") _ _ _); refine wc_anyM ?_)
  | ((with_reducible show DL.WC _ (.type "int") _ _ _); first | refine wc_int ?_ | refine wc_intB ?_)
  | ((with_reducible show DL.WC _ (.builtin "abs") _ _ _); refine wc_abs ?_)
  | ((with_reducible show DL.WC _ (.builtin "max") _ _ _); refine wc_max2 ?_)
  | ((with_reducible show DL.WC _ (.builtin "min") _ _ _); refine wc_min2 ?_)
  | ((with_reducible show DL.WC _ (.type "tuple") _ _ _); first | refine wc_tuple (.inl rfl) ?_ | refine wc_tuple (.inr (.inl rfl)) ?_ | refine wc_tuple (.inr (.inr ⟨_, rfl, by walk_at "mem"⟩)) ?_)
  | ((with_reducible show DL.WC _ (.type "list") _ _ _); first | refine wc_list (.inl rfl) ?_ | refine wc_list (.inr (.inl rfl)) ?_ | refine wc_list (.inr (.inr ⟨_, rfl, by walk_at "mem"⟩)) ?_)
  | ((with_reducible show DL.WC _ (.builtin "isinstance") _ _ _); first | refine wc_isi (k := true) rfl (by decide +kernel) ?_ | refine wc_isi (k := false) rfl (by decide +kernel) ?_))
set_option hygiene false in
local macro_rules | `(tactic| walk_at "Ix") => `(tactic| first
  | ((with_reducible show DL.WIx _ (.loc _) _ _ _); refine wix_loc (by walk_at "mem") (by walk_at "at") ?_)
  | ((with_reducible show DL.WIx _ (.lst _) _ _ _); refine wix_lst (by walk_at "at") ?_)
  | ((with_reducible show DL.WIx _ (.tup _) _ _ _); refine wix_tup (by walk_at "at") ?_)
  | refine wix_tup rfl ?_
  | refine wix_lst rfl ?_)
set_option hygiene false in
local macro_rules | `(tactic| walk_at "M") => `(tactic| first
  | ((with_reducible show DL.WM _ "list.append" _ _ _ _); refine wm_append (by walk_at "mem") (by walk_at "sz") ?_))
set_option hygiene false in
local macro_rules | `(tactic| walk_at "sz") => `(tactic| first
  | exact szb rfl
  | exact szl (by first | omega | (simp only [List.length_map, List.length_append, List.length_cons, List.length_nil, rangeD_length] at *; omega))
  | exact szle (by first | omega | (simp only [List.length_map, List.length_append, List.length_cons, List.length_nil, rangeD_length] at *; omega)))
set_option hygiene false in
local macro_rules | `(tactic| walk_at "pre") => `(tactic| first
  | (with_reducible assumption)
  | ((with_reducible show _ = _); first | rfl | walk_at "mem" | (simp; done))
  | ((with_reducible show _ ∧ _); first | exact ⟨rfl, rfl⟩ | exact ⟨by omega, by omega⟩)
  | ((with_reducible show (_ : Nat) ≤ _); first | omega | (simp only [List.length_map, List.length_append, List.length_cons, List.length_nil, rangeD_length]; omega))
  | ((with_reducible show (_ : Nat) < _); first | omega | (simp only [List.length_map, List.length_append, List.length_cons, List.length_nil, rangeD_length]; omega))
  | ((with_reducible show (_ : Int) ≤ _); first | omega | (simp only [List.length_map, List.length_append, List.length_cons, List.length_nil, rangeD_length]; omega))
  | ((with_reducible show (_ : Int) < _); first | omega | (simp only [List.length_map, List.length_append, List.length_cons, List.length_nil, rangeD_length]; omega) | (simp; done))
  | assumption
  | (simp; done))
set_option hygiene false in
local macro_rules | `(tactic| walk_at "I") => `(tactic| first
  | ((with_reducible show DL.WI _ _ (.Call (.Name "range" _) [_] [] _) _ _ _); refine wi_range1 T.b_range (h := ?_))
  | ((with_reducible show DL.WI _ _ (.Call (.Name "range" _) [_, _] [] _) _ _ _); refine wi_range2 T.b_range (h := ?_))
  | ((with_reducible show DL.WI _ _ (.Call (.Name "range" _) [_, _, _] [] _) _ _ _); refine wi_range3n T.b_range (h := ?_))
  | ((with_reducible show DL.WI _ _ (.Call (.Name "enumerate" _) [_] [] _) _ _ _); refine wi_enum T.b_enumerate (h := ?_))
  | ((with_reducible show DL.WI _ _ (.Call (.Name "zip" _) [_, _] [] _) _ _ _); refine wi_zip T.b_zip (h := ?_))
  | ((with_reducible show DL.WI _ _ (.Call _ _ _ _) _ _ _); refine wi_lst ?_))
/- one step -/
set_option hygiene false in
local macro_rules | `(tactic| walk_at "dl") => `(tactic| first
  | ((with_reducible show DL.WE _ _ _ _ _); walk_at "E")
  | ((with_reducible show DL.WSs _ _ _ _ _); first | refine wss_cons ?_ | refine wss_nil ?_)
  | ((with_reducible show DL.WS _ _ _ _ _); walk_at "S")
  | ((with_reducible show DL.WA _ _ _ _ _); first | refine wa_cons (h := ?_) | refine wa_nil ?_)
  | ((with_reducible show DL.WO _ _ _ _ _ _); walk_at "O")
  | ((with_reducible show DL.WT _ _ _ _ _); walk_at "T")
  | ((with_reducible show DL.WW _ _ _ _ _); first | refine ww_and ?_ | refine ww_or ?_ | refine ww_and1 ?_ | refine ww_or1 ?_)
  | ((with_reducible show DL.WC _ _ _ _ _); walk_at "C")
  | ((with_reducible show DL.WIx _ _ _ _ _); walk_at "Ix")
  | ((with_reducible show DL.WM _ _ _ _ _ _); walk_at "M")
  | ((with_reducible show DL.WU _ _ _ _ _); refine wu_neg ?_)
  | ((with_reducible show DL.WGi _ _ (.Name _ _) _ _ _ _); walk_at "gnm")
  | ((with_reducible show DL.WGi _ _ _ _ _ _ _); refine wg_tup _ (h := ?_))
  | ((with_reducible show DL.WGs _ _ _ _ _ _ _); first | refine wgs_cons (h := ?_) | refine wgs_nil ?_)
  | ((with_reducible show DL.WI _ _ _ _ _ _); walk_at "I")
  | ((with_reducible show DL.WTs _ _ _ _ _); first | refine wts_one ?_ | refine wts_nil ?_)
  | ((with_reducible show DL.WP _ _ _ _ _); first | refine wp_none ?_ | refine wp_some ?_)
  | ((with_reducible show DL.WSl _ _ _ _ _ _); first | refine wsl_tup ?_ | refine wsl_lst ?_ | refine wsl_loc (by walk_at "mem") ?_)
  | ((with_reducible show _ = true → DL.WE _ _ _ _ _); intro hk)
  | ((with_reducible show (_ = _ → _) ∧ (_ = _ → _)); walk_at "if")
  | ((with_reducible refine ⟨_, ixN_nat ?_ ?_, ?_⟩); (focus omega); (focus first | omega | (simp only [List.length_map, List.length_set, List.length_append] at *; omega)))
  | refine ⟨_, rfl, ?_⟩
  | refine ⟨szb rfl, ?_⟩
  | refine ⟨.inl _, rfl, ?_⟩
  | refine ⟨.inr _, rfl, ?_⟩
  | refine ⟨_, .inl (by walk_at "mem"), ?_⟩
  | refine ⟨_, .inr ⟨_, _, by walk_at "mem"⟩, ?_⟩
  | refine ⟨_, .inr ⟨_, rfl, by walk_at "mem"⟩, ?_⟩
  | refine ⟨_, .inl rfl, ?_⟩
  | refine ⟨_, .inr (.inl rfl), ?_⟩
  | refine ⟨_, .inr rfl, ?_⟩
  | ((with_reducible show _ ∧ _); refine ⟨by walk_at "pre", ?_⟩)
  | refine ⟨_, by walk_at "mem", ?_⟩
  | refine ⟨_, _, rfl, ?_⟩
  | refine ⟨_, _, _, rfl, ?_⟩
  | refine ⟨_, _, _, _, rfl, ?_⟩
  | refine ⟨_, _, _, _, _, rfl, ?_⟩
  | refine ⟨_, _, _, _, _, _, rfl, ?_⟩
  | refine ⟨_, _, _, _, _, _, _, rfl, ?_⟩
  | ((with_reducible show (_ : Mem) = _); rfl)
  | fail "stuck")
/- one step, within a statement -/
set_option hygiene false in
local macro_rules | `(tactic| walk_at "dlE") => `(tactic| first
  | ((with_reducible show DL.WE _ _ _ _ _); walk_at "E")
  | ((with_reducible show DL.WS _ _ _ _ _); walk_at "S")
  | ((with_reducible show DL.WA _ _ _ _ _); first | refine wa_cons (h := ?_) | refine wa_nil ?_)
  | ((with_reducible show DL.WO _ _ _ _ _ _); walk_at "O")
  | ((with_reducible show DL.WT _ _ _ _ _); walk_at "T")
  | ((with_reducible show DL.WW _ _ _ _ _); first | refine ww_and ?_ | refine ww_or ?_ | refine ww_and1 ?_ | refine ww_or1 ?_)
  | ((with_reducible show DL.WC _ _ _ _ _); walk_at "C")
  | ((with_reducible show DL.WIx _ _ _ _ _); walk_at "Ix")
  | ((with_reducible show DL.WM _ _ _ _ _ _); walk_at "M")
  | ((with_reducible show DL.WU _ _ _ _ _); refine wu_neg ?_)
  | ((with_reducible show DL.WGi _ _ (.Name _ _) _ _ _ _); walk_at "gnm")
  | ((with_reducible show DL.WGi _ _ _ _ _ _ _); refine wg_tup _ (h := ?_))
  | ((with_reducible show DL.WGs _ _ _ _ _ _ _); first | refine wgs_cons (h := ?_) | refine wgs_nil ?_)
  | ((with_reducible show DL.WI _ _ _ _ _ _); walk_at "I")
  | ((with_reducible show DL.WTs _ _ _ _ _); first | refine wts_one ?_ | refine wts_nil ?_)
  | ((with_reducible show DL.WP _ _ _ _ _); first | refine wp_none ?_ | refine wp_some ?_)
  | ((with_reducible show DL.WSl _ _ _ _ _ _); first | refine wsl_tup ?_ | refine wsl_lst ?_ | refine wsl_loc (by walk_at "mem") ?_)
  | ((with_reducible show _ = true → DL.WE _ _ _ _ _); intro hk)
  | ((with_reducible show (_ = _ → _) ∧ (_ = _ → _)); walk_at "if")
  | ((with_reducible refine ⟨_, ixN_nat ?_ ?_, ?_⟩); (focus omega); (focus first | omega | (simp only [List.length_map, List.length_set, List.length_append] at *; omega)))
  | refine ⟨_, rfl, ?_⟩
  | refine ⟨szb rfl, ?_⟩
  | refine ⟨.inl _, rfl, ?_⟩
  | refine ⟨.inr _, rfl, ?_⟩
  | refine ⟨_, .inl (by walk_at "mem"), ?_⟩
  | refine ⟨_, .inr ⟨_, _, by walk_at "mem"⟩, ?_⟩
  | refine ⟨_, .inr ⟨_, rfl, by walk_at "mem"⟩, ?_⟩
  | refine ⟨_, .inl rfl, ?_⟩
  | refine ⟨_, .inr (.inl rfl), ?_⟩
  | refine ⟨_, .inr rfl, ?_⟩
  | ((with_reducible show _ ∧ _); refine ⟨by walk_at "pre", ?_⟩)
  | refine ⟨_, by walk_at "mem", ?_⟩
  | refine ⟨_, _, rfl, ?_⟩
  | refine ⟨_, _, _, rfl, ?_⟩
  | refine ⟨_, _, _, _, rfl, ?_⟩
  | refine ⟨_, _, _, _, _, rfl, ?_⟩
  | refine ⟨_, _, _, _, _, _, rfl, ?_⟩
  | refine ⟨_, _, _, _, _, _, _, rfl, ?_⟩
  | ((with_reducible show (_ : Mem) = _); rfl)
  | fail "stuck")
set_option hygiene false in
local macro_rules | `(tactic| walk_at "goE") => `(tactic| repeat' walk_at "dlE")
set_option hygiene false in
local macro_rules | `(tactic| walk_at "go") => `(tactic| repeat' walk_at "dl")
set_option hygiene false in
local macro_rules | `(tactic| walk_at "nx") => `(tactic| ((try rw [Mem.upd_upd]); walk_at "go"))
def top (i : Nat) : Stmt := PySem.Challenge.pw_standingasks_k80_whole_fewest_tellings.main.body.getD i (.Pass ⟨0, 0, 0, 0⟩)
abbrev s_is_whole : Stmt := top 1
abbrev s_allowed_at : Stmt := top 3
abbrev s_reach_of : Stmt := top 4
abbrev s_fewest_tellings : Stmt := top 5
abbrev s_is_right_plan : Stmt := top 6
abbrev s_are_right_bars : Stmt := top 7
abbrev s_judge_tellings : Stmt := top 8
abbrev s_begin : Stmt := top 10
abbrev s_draw : Stmt := top 11
abbrev s_pick : Stmt := top 12
abbrev s_is_int : Stmt := top 13
abbrev s_is_ints : Stmt := top 14
abbrev s_values : Stmt := top 15
abbrev s_slack : Stmt := top 16
abbrev s_given : Stmt := top 17
abbrev s_costs : Stmt := top 18
abbrev s_plan_is_right : Stmt := top 19
abbrev s_end : Stmt := top 20
abbrev s_bars_are_right : Stmt := top 21
abbrev s_pair_is_right : Stmt := top 22
abbrev s_is_pair : Stmt := top 23
abbrev s_some_plan : Stmt := top 24
abbrev s_some_bars : Stmt := top 25
abbrev s_told_at : Stmt := top 26
abbrev s_spoilt : Stmt := top 27
abbrev s_judged : Stmt := top 28
abbrev s_fewest : Stmt := top 29
abbrev s_law : Stmt := top 30
structure Txt (K : PySem.W.Frag) (mg : Str → Option Value) : Prop where
  b_abs : mg "abs" = none
  b_all : mg "all" = none
  b_bool : mg "bool" = none
  b_int : mg "int" = none
  b_isinstance : mg "isinstance" = none
  b_len : mg "len" = none
  b_list : mg "list" = none
  b_max : mg "max" = none
  b_min : mg "min" = none
  b_range : mg "range" = none
  b_set : mg "set" = none
  b_sorted : mg "sorted" = none
  b_tuple : mg "tuple" = none
  b_zip : mg "zip" = none
  f_is_whole : TF K mg "is_whole" s_is_whole ["thing"]
  f_allowed_at : TF K mg "allowed_at" s_allowed_at ["given", "slack", "moment"]
  f_reach_of : TF K mg "reach_of" s_reach_of ["given", "slack", "moment", "value"]
  f_fewest_tellings : TF K mg "fewest_tellings" s_fewest_tellings ["values", "slack"]
  f_is_right_plan : TF K mg "is_right_plan" s_is_right_plan ["given", "slack", "tellings"]
  f_are_right_bars : TF K mg "are_right_bars" s_are_right_bars ["given", "slack", "bars"]
  f_judge_tellings : TF K mg "judge_tellings" s_judge_tellings ["values", "slack", "found"]
  f_begin : TF K mg "_law_begin" s_begin ["script"]
  f_draw : TF K mg "_law_draw" s_draw ["d", "many"]
  f_pick : TF K mg "_law_pick" s_pick ["d", "row"]
  f_is_int : TF K mg "_law_is_int" s_is_int ["thing"]
  f_is_ints : TF K mg "_law_is_ints" s_is_ints ["thing"]
  f_values : TF K mg "_law_values" s_values ["d"]
  f_slack : TF K mg "_law_slack" s_slack ["d", "many"]
  f_given : TF K mg "_law_given" s_given ["values", "slack", "moment"]
  f_costs : TF K mg "_law_costs" s_costs ["values", "slack"]
  f_plan_is_right : TF K mg "_law_plan_is_right" s_plan_is_right ["values", "slack", "tellings"]
  f_end : TF K mg "_law_end" s_end ["values", "slack", "bar"]
  f_bars_are_right : TF K mg "_law_bars_are_right" s_bars_are_right ["values", "slack", "bars"]
  f_pair_is_right : TF K mg "_law_pair_is_right" s_pair_is_right ["values", "slack", "found"]
  f_is_pair : TF K mg "_law_is_pair" s_is_pair ["found"]
  f_some_plan : TF K mg "_law_some_plan" s_some_plan ["d", "costs"]
  f_some_bars : TF K mg "_law_some_bars" s_some_bars ["d", "values", "slack", "many"]
  f_told_at : TF K mg "_law_told_at" s_told_at ["tellings", "moment"]
  f_spoilt : TF K mg "_law_spoilt" s_spoilt ["d", "values", "found", "way"]
  f_judged : TF K mg "_law_judged" s_judged ["values", "slack", "pair"]
  f_fewest : TF K mg "_law_fewest" s_fewest ["values", "slack"]
  f_law : TF K mg "law" s_law ["script"]
theorem sc_begin : FnScope ["script", "cell"] ["script"] (defScope s_begin) := ⟨rfl, rfl, rfl, by decide +kernel, rfl, by decide +kernel, by decide +kernel⟩
section
set_option hygiene false in
local macro_rules | `(tactic| walk_at "nm") => `(tactic| first | ((with_reducible show DL.WE _ (.Name "script" _) _ _ _); refine we_name 0 (q := ?_)) | ((with_reducible show DL.WE _ (.Name "cell" _) _ _ _); refine we_name 1 (q := ?_)))
set_option hygiene false in
local macro_rules | `(tactic| walk_at "set") => `(tactic| first | ((with_reducible show DL.WS _ (.Assign [.Name "script" _] _ _) _ _ _); refine ws_set 0 (h := ?_)) | ((with_reducible show DL.WS _ (.Assign [.Name "cell" _] _ _) _ _ _); refine ws_set 1 (h := ?_)))
set_option hygiene false in
local macro_rules | `(tactic| walk_at "gnm") => `(tactic| first | ((with_reducible show DL.WGi _ _ (.Name "script" _) _ _ _ _); refine wg_name 0 (q := ?_)) | ((with_reducible show DL.WGi _ _ (.Name "cell" _) _ _ _ _); refine wg_name 1 (q := ?_)))
set_option hygiene false in
local macro_rules | `(tactic| walk_at "E") => `(tactic| first | ((with_reducible show DL.WE _ (.ListComp _ _ _ ⟨53, 12, 53, 47⟩) _ _ _); refine we_lc [("cell", 1)] (h := ?_)))
set_option maxHeartbeats 1000000 in
theorem ok_begin (T : Txt K mg) : FnD P w K mg base 1 "_law_begin" sp_begin := by
  refine TF.ok 0 T.f_begin sc_begin (fun ds μ Q ⟨_, h, _⟩ => by rw [h]; rfl) fun ds μ Q h => ?_
  obtain ⟨ns, rfl, q⟩ := h
  refine wss_cons (ws_ret' (we_lstM (wa_cons (h := we_lc [("cell", 1)] (h := wi_lst (we_slice (we_name 0 (q := wp_none (wp_some (we_int ⟨_, rfl, wsl_lsr ⟨_, rfl, ?_⟩⟩))))))))))
  rw [cutD_map, cut63]
  refine LcHyp.mp _ D.int D.int [1] (by simp) (sz1000 (by simp; omega)) (fun n i hn => ?_) ?_
  · walk_at "go"
  · walk_at "go"
    exact (fun p hp => q p _ ⟨ns.take 63, 0, 0, 7, by omega, rfl⟩ hp)
end
set_option hygiene false in
local macro_rules | `(tactic| walk_at "call") => `(tactic| ((with_reducible show DL.WE _ (.Call (.Name "_law_begin" _) _ [] _) _ _ _); refine we_call (ok_begin T) (h := ?_)))
theorem sc_draw : FnScope ["d", "many", "found", "cell", "size"] ["d", "many"] (defScope s_draw) := ⟨rfl, rfl, rfl, by decide +kernel, rfl, by decide +kernel, by decide +kernel⟩
section
set_option hygiene false in
local macro_rules | `(tactic| walk_at "nm") => `(tactic| first | ((with_reducible show DL.WE _ (.Name "d" _) _ _ _); refine we_name 0 (q := ?_)) | ((with_reducible show DL.WE _ (.Name "many" _) _ _ _); refine we_name 1 (q := ?_)) | ((with_reducible show DL.WE _ (.Name "found" _) _ _ _); refine we_name 2 (q := ?_)) | ((with_reducible show DL.WE _ (.Name "cell" _) _ _ _); refine we_name 3 (q := ?_)) | ((with_reducible show DL.WE _ (.Name "size" _) _ _ _); refine we_name 4 (q := ?_)))
set_option hygiene false in
local macro_rules | `(tactic| walk_at "set") => `(tactic| first | ((with_reducible show DL.WS _ (.Assign [.Name "d" _] _ _) _ _ _); refine ws_set 0 (h := ?_)) | ((with_reducible show DL.WS _ (.Assign [.Name "many" _] _ _) _ _ _); refine ws_set 1 (h := ?_)) | ((with_reducible show DL.WS _ (.Assign [.Name "found" _] _ _) _ _ _); refine ws_set 2 (h := ?_)) | ((with_reducible show DL.WS _ (.Assign [.Name "cell" _] _ _) _ _ _); refine ws_set 3 (h := ?_)) | ((with_reducible show DL.WS _ (.Assign [.Name "size" _] _ _) _ _ _); refine ws_set 4 (h := ?_)))
set_option hygiene false in
local macro_rules | `(tactic| walk_at "gnm") => `(tactic| first | ((with_reducible show DL.WGi _ _ (.Name "d" _) _ _ _ _); refine wg_name 0 (q := ?_)) | ((with_reducible show DL.WGi _ _ (.Name "many" _) _ _ _ _); refine wg_name 1 (q := ?_)) | ((with_reducible show DL.WGi _ _ (.Name "found" _) _ _ _ _); refine wg_name 2 (q := ?_)) | ((with_reducible show DL.WGi _ _ (.Name "cell" _) _ _ _ _); refine wg_name 3 (q := ?_)) | ((with_reducible show DL.WGi _ _ (.Name "size" _) _ _ _ _); refine wg_name 4 (q := ?_)))
set_option maxHeartbeats 1000000 in
theorem ok_draw (T : Txt K mg) : FnD P w K mg base 1 "_law_draw" sp_draw := by
  refine TF.ok 0 T.f_draw sc_draw (fun ds μ Q ⟨_, _, h, _⟩ => by rw [h]; rfl) fun ds μ Q h => ?_
  obtain ⟨a, m, rfl, l, hm, hl, h0, h1, q⟩ := h
  obtain ⟨cs, pos, pend, seed, hpos, rfl⟩ := hl
  walk_at "go"
  all_goals try rw [Mem.upd_upd]
  all_goals exact q _ _ ⟨cs, _, _, _, by omega, rfl⟩ (Int.emod_nonneg _ (by omega)) (Int.emod_lt_of_pos _ h0)
end
set_option hygiene false in
local macro_rules | `(tactic| walk_at "call") => `(tactic| ((with_reducible show DL.WE _ (.Call (.Name "_law_draw" _) _ [] _) _ _ _); refine we_call (ok_draw T) (h := ?_)))
def sp_pick : DSp := fun ds μ Q => ∃ (a : Addr) (xd : D), ds = [.loc a, xd] ∧ ∃ xs : List D, (xd = .lst xs ∨ xd = .tup xs) ∧ ∃ l, μ a = some (.lst l) ∧ IsDr l ∧ 0 < xs.length ∧ xs.length < 1000000000 ∧ ∀ l' x, IsDr l' → x ∈ xs → Q x (μ.upd a (.lst l'))
theorem sc_pick : FnScope ["d", "row"] ["d", "row"] (defScope s_pick) := ⟨rfl, rfl, rfl, by decide +kernel, rfl, by decide +kernel, by decide +kernel⟩
section
set_option hygiene false in
local macro_rules | `(tactic| walk_at "nm") => `(tactic| first | ((with_reducible show DL.WE _ (.Name "d" _) _ _ _); refine we_name 0 (q := ?_)) | ((with_reducible show DL.WE _ (.Name "row" _) _ _ _); refine we_name 1 (q := ?_)))
set_option hygiene false in
local macro_rules | `(tactic| walk_at "set") => `(tactic| first | ((with_reducible show DL.WS _ (.Assign [.Name "d" _] _ _) _ _ _); refine ws_set 0 (h := ?_)) | ((with_reducible show DL.WS _ (.Assign [.Name "row" _] _ _) _ _ _); refine ws_set 1 (h := ?_)))
set_option hygiene false in
local macro_rules | `(tactic| walk_at "gnm") => `(tactic| first | ((with_reducible show DL.WGi _ _ (.Name "d" _) _ _ _ _); refine wg_name 0 (q := ?_)) | ((with_reducible show DL.WGi _ _ (.Name "row" _) _ _ _ _); refine wg_name 1 (q := ?_)))
set_option maxHeartbeats 1000000 in
theorem ok_pick (T : Txt K mg) : FnD P w K mg base 2 "_law_pick" sp_pick := by
  refine TF.ok 1 T.f_pick sc_pick (fun ds μ Q ⟨_, _, h, _⟩ => by rw [h]; rfl) fun ds μ Q h => ?_
  obtain ⟨a, xd, rfl, xs, hx, l, hm, hl, h0, h1, q⟩ := h
  rcases hx with rfl | rfl
  · walk_at "go"
    intro l' r hl' r0 r1
    have hlt : r.toNat < xs.length := by omega
    exact wix_lst (atI_get0 r0 (List.getElem?_eq_getElem hlt)) (q l' _ hl' (List.getElem_mem hlt))
  · walk_at "go"
    intro l' r hl' r0 r1
    have hlt : r.toNat < xs.length := by omega
    exact wix_tup (atI_get0 r0 (List.getElem?_eq_getElem hlt)) (q l' _ hl' (List.getElem_mem hlt))
end
set_option hygiene false in
local macro_rules | `(tactic| walk_at "call") => `(tactic| ((with_reducible show DL.WE _ (.Call (.Name "_law_pick" _) _ [] _) _ _ _); refine we_call (ok_pick T) (h := ?_)))
theorem sc_is_int : FnScope ["thing"] ["thing"] (defScope s_is_int) := ⟨rfl, rfl, rfl, by decide +kernel, rfl, by decide +kernel, by decide +kernel⟩
section
set_option hygiene false in
local macro_rules | `(tactic| walk_at "nm") => `(tactic| first | ((with_reducible show DL.WE _ (.Name "thing" _) _ _ _); refine we_name 0 (q := ?_)))
set_option hygiene false in
local macro_rules | `(tactic| walk_at "set") => `(tactic| first | ((with_reducible show DL.WS _ (.Assign [.Name "thing" _] _ _) _ _ _); refine ws_set 0 (h := ?_)))
set_option hygiene false in
local macro_rules | `(tactic| walk_at "gnm") => `(tactic| first | ((with_reducible show DL.WGi _ _ (.Name "thing" _) _ _ _ _); refine wg_name 0 (q := ?_)))
set_option maxHeartbeats 1000000 in
theorem ok_is_int (T : Txt K mg) : FnD P w K mg base 1 "_law_is_int" sp_is_int := by
  refine TF.ok 0 T.f_is_int sc_is_int (fun ds μ Q ⟨_, h, _⟩ => by rw [h]; rfl) fun ds μ Q h => ?_
  obtain ⟨i, rfl, q⟩ := h
  walk_at "go"
  exact q
end
set_option hygiene false in
local macro_rules | `(tactic| walk_at "call") => `(tactic| ((with_reducible show DL.WE _ (.Call (.Name "_law_is_int" _) _ [] _) _ _ _); refine we_call (ok_is_int T) (h := ?_)))
theorem sc_is_ints : FnScope ["thing", "part"] ["thing"] (defScope s_is_ints) := ⟨rfl, rfl, rfl, by decide +kernel, rfl, by decide +kernel, by decide +kernel⟩
section
set_option hygiene false in
local macro_rules | `(tactic| walk_at "nm") => `(tactic| first | ((with_reducible show DL.WE _ (.Name "thing" _) _ _ _); refine we_name 0 (q := ?_)) | ((with_reducible show DL.WE _ (.Name "part" _) _ _ _); refine we_name 1 (q := ?_)))
set_option hygiene false in
local macro_rules | `(tactic| walk_at "set") => `(tactic| first | ((with_reducible show DL.WS _ (.Assign [.Name "thing" _] _ _) _ _ _); refine ws_set 0 (h := ?_)) | ((with_reducible show DL.WS _ (.Assign [.Name "part" _] _ _) _ _ _); refine ws_set 1 (h := ?_)))
set_option hygiene false in
local macro_rules | `(tactic| walk_at "gnm") => `(tactic| first | ((with_reducible show DL.WGi _ _ (.Name "thing" _) _ _ _ _); refine wg_name 0 (q := ?_)) | ((with_reducible show DL.WGi _ _ (.Name "part" _) _ _ _ _); refine wg_name 1 (q := ?_)))
set_option hygiene false in
local macro_rules | `(tactic| walk_at "E") => `(tactic| first | ((with_reducible show DL.WE _ (.ListComp _ _ _ ⟨73, 44, 73, 81⟩) _ _ _); refine we_lc [("part", 1)] (h := ?_)))
set_option hygiene false in
local macro_rules | `(tactic| walk_at "I") => `(tactic| first | ((with_reducible show DL.WI _ _ (.Name "thing" _) _ _ _); first | refine wi_name 0 (s := .inl rfl) (h := ?_) | refine wi_name 0 (s := .inr rfl) (h := ?_)))
set_option maxHeartbeats 1000000 in
theorem ok_is_ints (T : Txt K mg) : FnD P w K mg base 2 "_law_is_ints" sp_is_ints := by
  refine TF.ok 1 T.f_is_ints sc_is_ints (fun ds μ Q ⟨_, h, _⟩ => by rw [h]; rfl) fun ds μ Q h => ?_
  obtain ⟨ns, rfl, hl, q⟩ := h
  walk_at "go"
  refine LcHyp.mp _ D.int (fun _ => .bl true) [1] (by simp) (szM (by omega)) (fun n i hn => ?_) ?_
  · walk_at "go"
  · refine wa_nil (wc_all (bs := ns.map fun _ => true) (by rw [List.map_map]; rfl) ?_)
    have : (ns.map fun _ => true).all id = true := by rw [List.all_eq_true]; intro b hb; obtain ⟨_, _, rfl⟩ := List.mem_map.mp hb; rfl
    rw [this]; exact q
end
set_option hygiene false in
local macro_rules | `(tactic| walk_at "call") => `(tactic| ((with_reducible show DL.WE _ (.Call (.Name "_law_is_ints" _) _ [] _) _ _ _); refine we_call (ok_is_ints T) (h := ?_)))
end K80
namespace K80
open PySem L2 DL Tell
variable {P : Program} {w : World} {K : PySem.W.Frag} {mg : Str → Option Value} {base : Heap}
set_option hygiene false in
local macro_rules | `(tactic| walk_at "side") => `(tactic| first
  | (with_reducible assumption)
  | rfl
  | omega
  | decide
  | exact ⟨by omega, by omega⟩
  | exact ⟨by decide, by decide⟩
  | exact .inl ⟨by decide, by decide⟩
  | exact .inr ⟨by decide, by decide⟩
  | exact .inl ⟨by omega, by omega⟩
  | exact .inr ⟨by omega, by omega⟩
  | exact ⟨by decide, by decide, by decide⟩
  | exact szb rfl
  | fail "side")
set_option hygiene false in
local macro_rules | `(tactic| walk_at "ne") => `(tactic| first
  | assumption
  | exact Ne.symm (by assumption)
  | exact ne_fresh (by assumption) (by assumption)
  | exact Ne.symm (ne_fresh (by assumption) (by assumption)))
/- what stands at an address -/
set_option hygiene false in
local macro_rules | `(tactic| walk_at "mem") => `(tactic| first
  | assumption
  | exact Mem.upd_same
  | exact (Mem.upd_ne (by walk_at "ne")).trans (by walk_at "mem"))
/- an item of a list -/
set_option hygiene false in
local macro_rules | `(tactic| walk_at "at") => `(tactic| first
  | rfl
  | exact atI_getI (by omega) (by omega)
  | exact atI_lastI (by first | omega | (simp only [List.length_map] at *; omega))
  | exact atI_lastM _ (by assumption)
  | exact atI_mapI _ (by omega) (by assumption)
  | exact atI_mapN _ (by assumption)
  | exact atI_get _ (by first | omega | (simp only [List.length_map, List.length_set] at *; omega)) (by first | omega | (simp only [List.length_map, List.length_set] at *; omega)))
/- tests that are decided or split -/
set_option hygiene false in
local macro_rules | `(tactic| walk_at "if") => `(tactic| first
  | refine if_tt ?_
  | refine if_ff ?_
  | refine if_f_tt ?_
  | refine if_f_ff ?_
  | (refine if_dec (fun hk => ?_) (fun hk => ?_))
  | (refine if_ndec (fun hk => ?_) (fun hk => ?_))
  | (refine if_f_dec (fun hk => ?_) (fun hk => ?_))
  | (refine if_f_ndec (fun hk => ?_) (fun hk => ?_))
  | (refine if_nb (fun hk => ?_) (fun hk => ?_))
  | (refine if_f_nb (fun hk => ?_) (fun hk => ?_))
  | (refine And.intro (fun hk => ?_) (fun hk => ?_)))
set_option hygiene false in
local macro_rules | `(tactic| walk_at "call") => `(tactic| first
  | ((with_reducible show DL.WE _ (.Call (.Name "len" _) _ [] _) _ _ _); refine we_callB bt_len T.b_len (h := ?_))
  | ((with_reducible show DL.WE _ (.Call (.Name "abs" _) _ [] _) _ _ _); refine we_callB bt_abs T.b_abs (h := ?_))
  | ((with_reducible show DL.WE _ (.Call (.Name "min" _) _ [] _) _ _ _); refine we_callB bt_min T.b_min (h := ?_))
  | ((with_reducible show DL.WE _ (.Call (.Name "max" _) _ [] _) _ _ _); refine we_callB bt_max T.b_max (h := ?_))
  | ((with_reducible show DL.WE _ (.Call (.Name "sum" _) _ [] _) _ _ _); refine we_callB bt_sum T.b_sum (h := ?_))
  | ((with_reducible show DL.WE _ (.Call (.Name "all" _) _ [] _) _ _ _); refine we_callB bt_all T.b_all (h := ?_))
  | ((with_reducible show DL.WE _ (.Call (.Name "any" _) _ [] _) _ _ _); refine we_callB bt_any T.b_any (h := ?_))
  | ((with_reducible show DL.WE _ (.Call (.Name "sorted" _) _ [] _) _ _ _); refine we_callB bt_sorted T.b_sorted (h := ?_))
  | ((with_reducible show DL.WE _ (.Call (.Name "isinstance" _) _ [] _) _ _ _); refine we_callB bt_isinstance T.b_isinstance (h := ?_))
  | ((with_reducible show DL.WE _ (.Call (.Name "int" _) _ [] _) _ _ _); refine we_callT bt_int T.b_int (h := ?_))
  | ((with_reducible show DL.WE _ (.Call (.Name "list" _) _ [] _) _ _ _); refine we_callT bt_list T.b_list (h := ?_))
  | ((with_reducible show DL.WE _ (.Call (.Name "tuple" _) _ [] _) _ _ _); refine we_callT bt_tuple T.b_tuple (h := ?_))
  | ((with_reducible show DL.WE _ (.Call (.Name "bool" _) _ [] _) _ _ _); refine we_callT bt_bool T.b_bool (h := ?_))
  | ((with_reducible show DL.WE _ (.Call (.Name "set" _) _ [] _) _ _ _); refine we_callT bt_set T.b_set (h := ?_)))
set_option hygiene false in
local macro_rules | `(tactic| walk_at "ty") => `(tactic| first
  | ((with_reducible show DL.WE _ (.Name "int" _) _ _ _); refine we_type rfl T.b_int bt_int (by decide) (by decide) ?_)
  | ((with_reducible show DL.WE _ (.Name "bool" _) _ _ _); refine we_type rfl T.b_bool bt_bool (by decide) (by decide) ?_)
  | ((with_reducible show DL.WE _ (.Name "tuple" _) _ _ _); refine we_type rfl T.b_tuple bt_tuple (by decide) (by decide) ?_)
  | ((with_reducible show DL.WE _ (.Name "list" _) _ _ _); refine we_type rfl T.b_list bt_list (by decide) (by decide) ?_))
set_option hygiene false in
local macro_rules | `(tactic| walk_at "E") => `(tactic| first
  | ((with_reducible show DL.WE _ (.Name _ _) _ _ _); first | walk_at "nm" | walk_at "ty")
  | ((with_reducible show DL.WE _ (.Constant _ _ _) _ _ _); first | refine we_int ?_ | refine we_str ?_ | refine we_bl ?_ | refine we_non ?_)
  | ((with_reducible show DL.WE _ (.Call (.Name "sorted" _) [.Call (.Name "set" _) [_] [] _] [] _) _ _ _); refine we_sortedSet T.b_sorted T.b_set (h := ?_))
  | ((with_reducible show DL.WE _ (.Call (.Name "list" _) [.Call (.Attribute _ "values" _) [] [] _] [] _) _ _ _); refine we_listVals T.b_list (h := ?_))
  | ((with_reducible show DL.WE _ (.Call (.Name _ _) _ [] _) _ _ _); walk_at "call")
  | ((with_reducible show DL.WE _ (.Call (.Attribute _ "get" _) [_, _] [] _) _ _ _); refine we_dget2A (h := ?_))
  | ((with_reducible show DL.WE _ (.Call (.Attribute _ "append" _) _ [] _) _ _ _); refine we_lmA PySem.F.slot_list_append PySem.F.type_list_append (h := ?_))
  | ((with_reducible show DL.WE _ (.Call (.Attribute _ "extend" _) _ [] _) _ _ _); refine we_lmA PySem.F.slot_list_extend PySem.F.type_list_extend (h := ?_))
  | ((with_reducible show DL.WE _ (.Call (.Attribute _ "pop" _) (_ :: _) [] _) _ _ _); refine we_lmA PySem.F.slot_list_pop PySem.F.type_list_pop (h := ?_))
  | ((with_reducible show DL.WE _ (.BinOp _ _ _ _) _ _ _); refine we_bin ?_)
  | ((with_reducible show DL.WE _ (.Compare _ [_] _ _) _ _ _); refine we_cmp (h := ?_))
  | ((with_reducible show DL.WE _ (.Compare _ [_, _] _ _) _ _ _); refine we_chain (h := ?_))
  | ((with_reducible show DL.WE _ (.Subscript _ (.Slice _ _ none _) _) _ _ _); refine we_slice ?_)
  | ((with_reducible show DL.WE _ (.Subscript _ (.Slice none none _ _) _) _ _ _); first | refine we_revL ?_ | refine we_slice ?_)
  | ((with_reducible show DL.WE _ (.Subscript _ _ _) _ _ _); refine we_sub (h := ?_))
  | ((with_reducible show DL.WE _ (.Tuple _ _ _) _ _ _); refine we_tup ?_)
  | ((with_reducible show DL.WE _ (.UnaryOp .Not _ _) _ _ _); refine we_not ?_)
  | ((with_reducible show DL.WE _ (.UnaryOp _ _ _) _ _ _); refine we_un ?_)
  | ((with_reducible show DL.WE _ (.BoolOp _ [_] _) _ _ _); refine we_one ?_)
  | ((with_reducible show DL.WE _ (.BoolOp .And _ _) _ _ _); refine we_and ?_)
  | ((with_reducible show DL.WE _ (.BoolOp .Or _ _) _ _ _); refine we_or ?_)
  | ((with_reducible show DL.WE _ (.IfExp _ _ _ _) _ _ _); refine we_ifExp ?_)
  | ((with_reducible show DL.WE _ (.List [] _) _ _ _); refine we_lstM (wa_nil ⟨szb rfl, fun p hp => ?_⟩))
  | ((with_reducible show DL.WE _ (.List _ _) _ _ _); refine we_lst ?_)
  | ((with_reducible show DL.WE _ (.Dict [] [] _) _ _ _); refine we_dctM (fun p hp => ?_)))
set_option hygiene false in
local macro_rules | `(tactic| walk_at "S") => `(tactic| first
  | ((with_reducible show DL.WS _ (.Assign [.Name _ _] _ _) _ _ _); walk_at "set")
  | ((with_reducible show DL.WS _ (.Return (some _) _) _ _ _); refine ws_ret' ?_)
  | ((with_reducible show DL.WS _ (.Return _ _) _ _ _); refine ws_retN ?_)
  | ((with_reducible show DL.WS _ (.If _ _ _ _) _ _ _); refine ws_if ?_)
  | ((with_reducible show DL.WS _ (.Expr _ _) _ _ _); refine ws_expr (h := ?_))
  | ((with_reducible show DL.WS _ (.Assign [.Tuple _ _ _] _ _) _ _ _); refine ws_asg (h := ?_))
  | ((with_reducible show DL.WS _ (.Assign [.Subscript _ _ _] _ _) _ _ _); refine ws_putA (h := ?_))
  | ((with_reducible show DL.WS _ (.AugAssign (.Name _ _) _ _ _) _ _ _); walk_at "aug")
  | ((with_reducible show DL.WS _ (.AugAssign (.Subscript _ _ _) .Add _ _) _ _ _); refine ws_augLA (fun _ => ip_add) (h := ?_))
  | ((with_reducible show DL.WS _ (.For _ _ _ [] _) _ _ _); refine ws_for (h := ?_))
  | ((with_reducible show DL.WS _ (.Pass _) _ _ _); refine ws_pass ?_)
  | ((with_reducible show DL.WS _ (.Break _) _ _ _); refine ws_break ?_)
  | ((with_reducible show DL.WS _ (.Continue _) _ _ _); refine ws_cont ?_))
set_option hygiene false in
local macro_rules | `(tactic| walk_at "T") => `(tactic| first
  | ((with_reducible show DL.WT _ (.Compare _ [_] _ _) _ _ _); refine wt_cmp (h := ?_))
  | ((with_reducible show DL.WT _ (.Compare _ [_, _] _ _) _ _ _); refine wt_chain (h := ?_))
  | ((with_reducible show DL.WT _ (.UnaryOp .Not _ _) _ _ _); refine wt_not ?_)
  | ((with_reducible show DL.WT _ (.BoolOp _ _ _) _ _ _); refine wt_ww ?_)
  | refine wt_val (h := ?_))
set_option hygiene false in
local macro_rules | `(tactic| walk_at "O") => `(tactic| first
  | ((with_reducible show DL.WO _ (binaryOp .Add) _ _ _ _); first | refine wo_add ?_ | refine wo_cat (.inl rfl) (.inl rfl) (by walk_at "sz") ?_ | refine wo_cat (.inr ⟨_, rfl, by walk_at "mem"⟩) (.inl rfl) (by walk_at "sz") ?_ | refine wo_catT (by walk_at "sz") ?_)
  | ((with_reducible show DL.WO _ (binaryOp .Sub) _ _ _ _); refine wo_sub ?_)
  | ((with_reducible show DL.WO _ (binaryOp .Mult) _ _ _ _); refine wo_mul (by walk_at "side") ?_)
  | ((with_reducible show DL.WO _ (binaryOp .FloorDiv) _ _ _ _); refine wo_fdiv (by walk_at "side") ?_)
  | ((with_reducible show DL.WO _ (binaryOp .Mod) _ _ _ _); refine wo_mod (by walk_at "side") ?_)
  | ((with_reducible show DL.WO _ (compareOp .Lt) _ _ _ _); refine wo_lt ?_)
  | ((with_reducible show DL.WO _ (compareOp .LtE) _ _ _ _); refine wo_le ?_)
  | ((with_reducible show DL.WO _ (compareOp .Gt) _ _ _ _); refine wo_gt ?_)
  | ((with_reducible show DL.WO _ (compareOp .GtE) _ _ _ _); refine wo_ge ?_)
  | ((with_reducible show DL.WO _ (compareOp .Eq) _ _ _ _); first | refine wo_eqI ?_ | refine wo_eqS ?_ | refine wo_eqB ?_ | refine wo_eqIL ?_ | refine wo_eqIT ?_)
  | ((with_reducible show DL.WO _ (compareOp .NotEq) _ _ _ _); first | refine wo_neI ?_ | refine wo_neS ?_ | refine wo_neB ?_ | refine wo_neIL ?_ | refine wo_neIT ?_)
  | ((with_reducible show DL.WO _ (compareOp .Is) _ _ _ _); first | refine wo_isB ?_ | refine wo_isN true (.inl ⟨rfl, rfl⟩) ?_ | refine wo_isN false (.inr ⟨rfl, fun z => by cases z⟩) ?_)
  | ((with_reducible show DL.WO _ (compareOp .IsNot) _ _ _ _); first | refine wo_isnotB ?_ | refine wo_notN false (.inl ⟨rfl, rfl⟩) ?_ | refine wo_notN true (.inr ⟨rfl, fun z => by cases z⟩) ?_)
  | ((with_reducible show DL.WO _ (compareOp .In) _ _ _ _); first | refine wo_inT ?_ | refine wo_inL ?_)
  | ((with_reducible show DL.WO _ (compareOp .NotIn) _ _ _ _); first | refine wo_notinT ?_ | refine wo_notinL ?_)
  | ((with_reducible show DL.WO _ (binaryOp .Pow) _ _ _ _); refine wo_pow (by walk_at "side") ?_)
  | ((with_reducible show DL.WO _ (binaryOp .LShift) _ _ _ _); refine wo_shl (by walk_at "side") ?_))
set_option hygiene false in
local macro_rules | `(tactic| walk_at "C") => `(tactic| first
  | ((with_reducible show DL.WC _ (.builtin "len") [.tup (List.map _ _)] _ _); refine wc_len_tupM ?_)
  | ((with_reducible show DL.WC _ (.builtin "len") [.lst (List.map _ _)] _ _); refine wc_len_lstM ?_)
  | ((with_reducible show DL.WC _ (.builtin "len") [.loc _] _ _); refine wc_len_loc (by walk_at "mem") ?_)
  | ((with_reducible show DL.WC _ (.builtin "len") _ _ _); first | refine wc_len_tup ?_ | refine wc_len_lst ?_)
  | ((with_reducible show DL.WC _ (.builtin "all") _ _ _); first | refine wc_allT ?_ | refine wc_allM ?_)
  | ((with_reducible show DL.WC _ (.builtin "any") _ _ _); refine wc_anyM ?_)
  | ((with_reducible show DL.WC _ (.type "int") _ _ _); first | refine wc_int ?_ | refine wc_intB ?_)
  | ((with_reducible show DL.WC _ (.builtin "abs") _ _ _); refine wc_abs ?_)
  | ((with_reducible show DL.WC _ (.builtin "max") _ _ _); refine wc_max2 ?_)
  | ((with_reducible show DL.WC _ (.builtin "min") _ _ _); refine wc_min2 ?_)
  | ((with_reducible show DL.WC _ (.type "tuple") _ _ _); first | refine wc_tuple (.inl rfl) ?_ | refine wc_tuple (.inr (.inl rfl)) ?_ | refine wc_tuple (.inr (.inr ⟨_, rfl, by walk_at "mem"⟩)) ?_)
  | ((with_reducible show DL.WC _ (.type "list") _ _ _); first | refine wc_list (.inl rfl) ?_ | refine wc_list (.inr (.inl rfl)) ?_ | refine wc_list (.inr (.inr ⟨_, rfl, by walk_at "mem"⟩)) ?_)
  | ((with_reducible show DL.WC _ (.builtin "isinstance") _ _ _); first | refine wc_isi (k := true) rfl (by decide +kernel) ?_ | refine wc_isi (k := false) rfl (by decide +kernel) ?_))
set_option hygiene false in
local macro_rules | `(tactic| walk_at "Ix") => `(tactic| first
  | ((with_reducible show DL.WIx _ (.loc _) _ _ _); refine wix_loc (by walk_at "mem") (by walk_at "at") ?_)
  | ((with_reducible show DL.WIx _ (.lst _) _ _ _); refine wix_lst (by walk_at "at") ?_)
  | ((with_reducible show DL.WIx _ (.tup _) _ _ _); refine wix_tup (by walk_at "at") ?_)
  | refine wix_tup rfl ?_
  | refine wix_lst rfl ?_)
set_option hygiene false in
local macro_rules | `(tactic| walk_at "M") => `(tactic| first
  | ((with_reducible show DL.WM _ "list.append" _ _ _ _); refine wm_append (by walk_at "mem") (by walk_at "sz") ?_))
set_option hygiene false in
local macro_rules | `(tactic| walk_at "sz") => `(tactic| first
  | exact szb rfl
  | exact szl (by first | omega | (simp only [List.length_map, List.length_append, List.length_cons, List.length_nil, rangeD_length] at *; omega))
  | exact szle (by first | omega | (simp only [List.length_map, List.length_append, List.length_cons, List.length_nil, rangeD_length] at *; omega)))
set_option hygiene false in
local macro_rules | `(tactic| walk_at "pre") => `(tactic| first
  | (with_reducible assumption)
  | ((with_reducible show _ = _); first | rfl | walk_at "mem" | (simp; done))
  | ((with_reducible show _ ∧ _); first | exact ⟨rfl, rfl⟩ | exact ⟨by omega, by omega⟩)
  | ((with_reducible show (_ : Nat) ≤ _); first | omega | (simp only [List.length_map, List.length_append, List.length_cons, List.length_nil, rangeD_length]; omega))
  | ((with_reducible show (_ : Nat) < _); first | omega | (simp only [List.length_map, List.length_append, List.length_cons, List.length_nil, rangeD_length]; omega))
  | ((with_reducible show (_ : Int) ≤ _); first | omega | (simp only [List.length_map, List.length_append, List.length_cons, List.length_nil, rangeD_length]; omega))
  | ((with_reducible show (_ : Int) < _); first | omega | (simp only [List.length_map, List.length_append, List.length_cons, List.length_nil, rangeD_length]; omega) | (simp; done))
  | assumption
  | (simp; done))
set_option hygiene false in
local macro_rules | `(tactic| walk_at "I") => `(tactic| first
  | ((with_reducible show DL.WI _ _ (.Call (.Name "range" _) [_] [] _) _ _ _); refine wi_range1 T.b_range (h := ?_))
  | ((with_reducible show DL.WI _ _ (.Call (.Name "range" _) [_, _] [] _) _ _ _); refine wi_range2 T.b_range (h := ?_))
  | ((with_reducible show DL.WI _ _ (.Call (.Name "range" _) [_, _, _] [] _) _ _ _); refine wi_range3n T.b_range (h := ?_))
  | ((with_reducible show DL.WI _ _ (.Call (.Name "enumerate" _) [_] [] _) _ _ _); refine wi_enum T.b_enumerate (h := ?_))
  | ((with_reducible show DL.WI _ _ (.Call (.Name "zip" _) [_, _] [] _) _ _ _); refine wi_zip T.b_zip (h := ?_))
  | ((with_reducible show DL.WI _ _ (.Call _ _ _ _) _ _ _); refine wi_lst ?_))
/- one step -/
set_option hygiene false in
local macro_rules | `(tactic| walk_at "dl") => `(tactic| first
  | ((with_reducible show DL.WE _ _ _ _ _); walk_at "E")
  | ((with_reducible show DL.WSs _ _ _ _ _); first | refine wss_cons ?_ | refine wss_nil ?_)
  | ((with_reducible show DL.WS _ _ _ _ _); walk_at "S")
  | ((with_reducible show DL.WA _ _ _ _ _); first | refine wa_cons (h := ?_) | refine wa_nil ?_)
  | ((with_reducible show DL.WO _ _ _ _ _ _); walk_at "O")
  | ((with_reducible show DL.WT _ _ _ _ _); walk_at "T")
  | ((with_reducible show DL.WW _ _ _ _ _); first | refine ww_and ?_ | refine ww_or ?_ | refine ww_and1 ?_ | refine ww_or1 ?_)
  | ((with_reducible show DL.WC _ _ _ _ _); walk_at "C")
  | ((with_reducible show DL.WIx _ _ _ _ _); walk_at "Ix")
  | ((with_reducible show DL.WM _ _ _ _ _ _); walk_at "M")
  | ((with_reducible show DL.WU _ _ _ _ _); refine wu_neg ?_)
  | ((with_reducible show DL.WGi _ _ (.Name _ _) _ _ _ _); walk_at "gnm")
  | ((with_reducible show DL.WGi _ _ _ _ _ _ _); refine wg_tup _ (h := ?_))
  | ((with_reducible show DL.WGs _ _ _ _ _ _ _); first | refine wgs_cons (h := ?_) | refine wgs_nil ?_)
  | ((with_reducible show DL.WI _ _ _ _ _ _); walk_at "I")
  | ((with_reducible show DL.WTs _ _ _ _ _); first | refine wts_one ?_ | refine wts_nil ?_)
  | ((with_reducible show DL.WP _ _ _ _ _); first | refine wp_none ?_ | refine wp_some ?_)
  | ((with_reducible show DL.WSl _ _ _ _ _ _); first | refine wsl_tup ?_ | refine wsl_lst ?_ | refine wsl_loc (by walk_at "mem") ?_)
  | ((with_reducible show _ = true → DL.WE _ _ _ _ _); intro hk)
  | ((with_reducible show (_ = _ → _) ∧ (_ = _ → _)); walk_at "if")
  | ((with_reducible refine ⟨_, ixN_nat ?_ ?_, ?_⟩); (focus omega); (focus first | omega | (simp only [List.length_map, List.length_set, List.length_append] at *; omega)))
  | refine ⟨_, rfl, ?_⟩
  | refine ⟨szb rfl, ?_⟩
  | refine ⟨.inl _, rfl, ?_⟩
  | refine ⟨.inr _, rfl, ?_⟩
  | refine ⟨_, .inl (by walk_at "mem"), ?_⟩
  | refine ⟨_, .inr ⟨_, _, by walk_at "mem"⟩, ?_⟩
  | refine ⟨_, .inr ⟨_, rfl, by walk_at "mem"⟩, ?_⟩
  | refine ⟨_, .inl rfl, ?_⟩
  | refine ⟨_, .inr (.inl rfl), ?_⟩
  | refine ⟨_, .inr rfl, ?_⟩
  | ((with_reducible show _ ∧ _); refine ⟨by walk_at "pre", ?_⟩)
  | refine ⟨_, by walk_at "mem", ?_⟩
  | refine ⟨_, _, rfl, ?_⟩
  | refine ⟨_, _, _, rfl, ?_⟩
  | refine ⟨_, _, _, _, rfl, ?_⟩
  | refine ⟨_, _, _, _, _, rfl, ?_⟩
  | refine ⟨_, _, _, _, _, _, rfl, ?_⟩
  | refine ⟨_, _, _, _, _, _, _, rfl, ?_⟩
  | ((with_reducible show (_ : Mem) = _); rfl)
  | fail "stuck")
/- one step, within a statement -/
set_option hygiene false in
local macro_rules | `(tactic| walk_at "dlE") => `(tactic| first
  | ((with_reducible show DL.WE _ _ _ _ _); walk_at "E")
  | ((with_reducible show DL.WS _ _ _ _ _); walk_at "S")
  | ((with_reducible show DL.WA _ _ _ _ _); first | refine wa_cons (h := ?_) | refine wa_nil ?_)
  | ((with_reducible show DL.WO _ _ _ _ _ _); walk_at "O")
  | ((with_reducible show DL.WT _ _ _ _ _); walk_at "T")
  | ((with_reducible show DL.WW _ _ _ _ _); first | refine ww_and ?_ | refine ww_or ?_ | refine ww_and1 ?_ | refine ww_or1 ?_)
  | ((with_reducible show DL.WC _ _ _ _ _); walk_at "C")
  | ((with_reducible show DL.WIx _ _ _ _ _); walk_at "Ix")
  | ((with_reducible show DL.WM _ _ _ _ _ _); walk_at "M")
  | ((with_reducible show DL.WU _ _ _ _ _); refine wu_neg ?_)
  | ((with_reducible show DL.WGi _ _ (.Name _ _) _ _ _ _); walk_at "gnm")
  | ((with_reducible show DL.WGi _ _ _ _ _ _ _); refine wg_tup _ (h := ?_))
  | ((with_reducible show DL.WGs _ _ _ _ _ _ _); first | refine wgs_cons (h := ?_) | refine wgs_nil ?_)
  | ((with_reducible show DL.WI _ _ _ _ _ _); walk_at "I")
  | ((with_reducible show DL.WTs _ _ _ _ _); first | refine wts_one ?_ | refine wts_nil ?_)
  | ((with_reducible show DL.WP _ _ _ _ _); first | refine wp_none ?_ | refine wp_some ?_)
  | ((with_reducible show DL.WSl _ _ _ _ _ _); first | refine wsl_tup ?_ | refine wsl_lst ?_ | refine wsl_loc (by walk_at "mem") ?_)
  | ((with_reducible show _ = true → DL.WE _ _ _ _ _); intro hk)
  | ((with_reducible show (_ = _ → _) ∧ (_ = _ → _)); walk_at "if")
  | ((with_reducible refine ⟨_, ixN_nat ?_ ?_, ?_⟩); (focus omega); (focus first | omega | (simp only [List.length_map, List.length_set, List.length_append] at *; omega)))
  | refine ⟨_, rfl, ?_⟩
  | refine ⟨szb rfl, ?_⟩
  | refine ⟨.inl _, rfl, ?_⟩
  | refine ⟨.inr _, rfl, ?_⟩
  | refine ⟨_, .inl (by walk_at "mem"), ?_⟩
  | refine ⟨_, .inr ⟨_, _, by walk_at "mem"⟩, ?_⟩
  | refine ⟨_, .inr ⟨_, rfl, by walk_at "mem"⟩, ?_⟩
  | refine ⟨_, .inl rfl, ?_⟩
  | refine ⟨_, .inr (.inl rfl), ?_⟩
  | refine ⟨_, .inr rfl, ?_⟩
  | ((with_reducible show _ ∧ _); refine ⟨by walk_at "pre", ?_⟩)
  | refine ⟨_, by walk_at "mem", ?_⟩
  | refine ⟨_, _, rfl, ?_⟩
  | refine ⟨_, _, _, rfl, ?_⟩
  | refine ⟨_, _, _, _, rfl, ?_⟩
  | refine ⟨_, _, _, _, _, rfl, ?_⟩
  | refine ⟨_, _, _, _, _, _, rfl, ?_⟩
  | refine ⟨_, _, _, _, _, _, _, rfl, ?_⟩
  | ((with_reducible show (_ : Mem) = _); rfl)
  | fail "stuck")
set_option hygiene false in
local macro_rules | `(tactic| walk_at "goE") => `(tactic| repeat' walk_at "dlE")
set_option hygiene false in
local macro_rules | `(tactic| walk_at "go") => `(tactic| repeat' walk_at "dl")
set_option hygiene false in
local macro_rules | `(tactic| walk_at "nx") => `(tactic| ((try rw [Mem.upd_upd]); walk_at "go"))
set_option hygiene false in
local macro_rules | `(tactic| walk_at "call") => `(tactic| ((with_reducible show DL.WE _ (.Call (.Name "_law_begin" _) _ [] _) _ _ _); refine we_call (ok_begin T) (h := ?_)))
set_option hygiene false in
local macro_rules | `(tactic| walk_at "call") => `(tactic| ((with_reducible show DL.WE _ (.Call (.Name "_law_draw" _) _ [] _) _ _ _); refine we_call (ok_draw T) (h := ?_)))
set_option hygiene false in
local macro_rules | `(tactic| walk_at "call") => `(tactic| ((with_reducible show DL.WE _ (.Call (.Name "_law_pick" _) _ [] _) _ _ _); refine we_call (ok_pick T) (h := ?_)))
set_option hygiene false in
local macro_rules | `(tactic| walk_at "call") => `(tactic| ((with_reducible show DL.WE _ (.Call (.Name "_law_is_int" _) _ [] _) _ _ _); refine we_call (ok_is_int T) (h := ?_)))
set_option hygiene false in
local macro_rules | `(tactic| walk_at "call") => `(tactic| ((with_reducible show DL.WE _ (.Call (.Name "_law_is_ints" _) _ [] _) _ _ _); refine we_call (ok_is_ints T) (h := ?_)))
/-! ### the program's defs -/
theorem cut_lohi {α : Type} (xs : List α) {lo hi : Nat} : cutD xs (some (lo : Int)) (some (hi : Int)) = (xs.take hi).drop lo := by
  unfold cutD
  rw [HT.sIx_nat, HT.sIx_nat]
  by_cases h1 : lo ≤ xs.length
  · rw [Nat.min_eq_left h1, List.drop_take]
    apply List.ext_getElem?
    intro i
    rw [List.getElem?_take, List.getElem?_take, List.getElem?_drop]
    by_cases h2 : i < min hi xs.length - lo
    · rw [if_pos h2, if_pos (by omega)]
    · rw [if_neg h2]
      by_cases h3 : i < hi - lo
      · rw [if_pos h3, List.getElem?_eq_none (by omega)]
      · rw [if_neg h3]
  · rw [Nat.min_eq_right (show xs.length ≤ lo by omega), List.drop_length, List.take_nil, List.drop_eq_nil_of_le (by rw [List.length_take]; omega)]
theorem cut_win (vs : List Int) (s m : Nat) : cutD (vs.map D.int) (some (if (m : Int) - s > 0 then (m : Int) - s else 0)) (some ((m : Int) + 1)) = (win vs s m).map D.int := by
  have e : (if (m : Int) - s > 0 then (m : Int) - s else 0) = ((m - s : Nat) : Int) := by split <;> omega
  rw [e, show (m : Int) + 1 = ((m + 1 : Nat) : Int) by omega, cutD_map, cut_lohi]
  rfl
def sp_is_whole : DSp := fun ds μ Q => ∃ i : Int, ds = [.int i] ∧ Q (.bl true) μ
theorem sc_is_whole : FnScope ["thing"] ["thing"] (defScope s_is_whole) := ⟨rfl, rfl, rfl, by decide +kernel, rfl, by decide +kernel, by decide +kernel⟩
section
set_option hygiene false in
local macro_rules | `(tactic| walk_at "nm") => `(tactic| first | ((with_reducible show DL.WE _ (.Name "thing" _) _ _ _); refine we_name 0 (q := ?_)))
set_option hygiene false in
local macro_rules | `(tactic| walk_at "set") => `(tactic| first | ((with_reducible show DL.WS _ (.Assign [.Name "thing" _] _ _) _ _ _); refine ws_set 0 (h := ?_)))
set_option hygiene false in
local macro_rules | `(tactic| walk_at "gnm") => `(tactic| first | ((with_reducible show DL.WGi _ _ (.Name "thing" _) _ _ _ _); refine wg_name 0 (q := ?_)))
set_option maxHeartbeats 1000000 in
theorem ok_is_whole (T : Txt K mg) : FnD P w K mg base 1 "is_whole" sp_is_whole := by
  refine TF.ok 0 T.f_is_whole sc_is_whole (fun ds μ Q ⟨_, h, _⟩ => by rw [h]; rfl) fun ds μ Q h => ?_
  obtain ⟨i, rfl, q⟩ := h
  walk_at "go"
  exact q
end
set_option hygiene false in
local macro_rules | `(tactic| walk_at "call") => `(tactic| ((with_reducible show DL.WE _ (.Call (.Name "is_whole" _) _ [] _) _ _ _); refine we_call (ok_is_whole T) (h := ?_)))
theorem insD_len (x : Int) : ∀ l : List Int, (insD x l).length ≤ l.length + 1
  | [] => Nat.le_refl _
  | y :: ys => by
    unfold insD
    split
    · simp
    · split
      · simp
      · have := insD_len x ys; simp; omega
theorem sdd_len : ∀ l : List Int, (sdd l).length ≤ l.length
  | [] => Nat.le_refl _
  | x :: xs => by
    have := sdd_len xs
    have := insD_len x (sdd xs)
    show (insD x (sdd xs)).length ≤ xs.length + 1
    omega
abbrev iD (l : List Int) : List D := l.map D.int
def sp_allowed_at : DSp := fun ds μ Q => ∃ (vs : List Int) (s : Nat) (m : Int), ds = [.tup (iD vs), .int s, .int m] ∧ vs.length ≤ 300 ∧ 0 ≤ m ∧ Q (.lst (iD (sdd (win vs s m.toNat)))) μ
theorem sc_allowed_at : FnScope ["given", "slack", "moment"] ["given", "slack", "moment"] (defScope s_allowed_at) := ⟨rfl, rfl, rfl, by decide +kernel, rfl, by decide +kernel, by decide +kernel⟩
section
set_option hygiene false in
local macro_rules | `(tactic| walk_at "nm") => `(tactic| first | ((with_reducible show DL.WE _ (.Name "given" _) _ _ _); refine we_name 0 (q := ?_)) | ((with_reducible show DL.WE _ (.Name "slack" _) _ _ _); refine we_name 1 (q := ?_)) | ((with_reducible show DL.WE _ (.Name "moment" _) _ _ _); refine we_name 2 (q := ?_)))
set_option hygiene false in
local macro_rules | `(tactic| walk_at "set") => `(tactic| first | ((with_reducible show DL.WS _ (.Assign [.Name "given" _] _ _) _ _ _); refine ws_set 0 (h := ?_)) | ((with_reducible show DL.WS _ (.Assign [.Name "slack" _] _ _) _ _ _); refine ws_set 1 (h := ?_)) | ((with_reducible show DL.WS _ (.Assign [.Name "moment" _] _ _) _ _ _); refine ws_set 2 (h := ?_)))
set_option hygiene false in
local macro_rules | `(tactic| walk_at "gnm") => `(tactic| first | ((with_reducible show DL.WGi _ _ (.Name "given" _) _ _ _ _); refine wg_name 0 (q := ?_)) | ((with_reducible show DL.WGi _ _ (.Name "slack" _) _ _ _ _); refine wg_name 1 (q := ?_)) | ((with_reducible show DL.WGi _ _ (.Name "moment" _) _ _ _ _); refine wg_name 2 (q := ?_)))
set_option maxHeartbeats 1000000 in
theorem ok_allowed_at (T : Txt K mg) : FnD P w K mg base 1 "allowed_at" sp_allowed_at := by
  refine TF.ok 0 T.f_allowed_at sc_allowed_at (fun ds μ Q ⟨_, _, _, h, _⟩ => by rw [h]; rfl) fun ds μ Q h => ?_
  obtain ⟨vs, s, m', rfl, hl, h0, q⟩ := h
  obtain ⟨m, rfl⟩ := Int.eq_ofNat_of_zero_le h0
  walk_at "go"
  rw [cut_win]
  have := (win_len (vs := vs) (s := s) (m := m)).2
  exact ⟨_, .inr (.inl rfl), by omega, q⟩
end
set_option hygiene false in
local macro_rules | `(tactic| walk_at "call") => `(tactic| ((with_reducible show DL.WE _ (.Call (.Name "allowed_at" _) _ [] _) _ _ _); refine we_call (ok_allowed_at T) (h := ?_)))
def sp_reach_of : DSp := fun ds μ Q => ∃ (vs : List Int) (s : Nat) (m v : Int), ds = [.tup (iD vs), .int s, .int m, .int v] ∧ vs.length ≤ 300 ∧ 0 ≤ m ∧ Q (.int (reach vs s m.toNat v)) μ
theorem sc_reach_of : FnScope ["given", "slack", "moment", "value", "end"] ["given", "slack", "moment", "value"] (defScope s_reach_of) := ⟨rfl, rfl, rfl, by decide +kernel, rfl, by decide +kernel, by decide +kernel⟩
section
set_option hygiene false in
local macro_rules | `(tactic| walk_at "nm") => `(tactic| first | ((with_reducible show DL.WE _ (.Name "given" _) _ _ _); refine we_name 0 (q := ?_)) | ((with_reducible show DL.WE _ (.Name "slack" _) _ _ _); refine we_name 1 (q := ?_)) | ((with_reducible show DL.WE _ (.Name "moment" _) _ _ _); refine we_name 2 (q := ?_)) | ((with_reducible show DL.WE _ (.Name "value" _) _ _ _); refine we_name 3 (q := ?_)) | ((with_reducible show DL.WE _ (.Name "end" _) _ _ _); refine we_name 4 (q := ?_)))
set_option hygiene false in
local macro_rules | `(tactic| walk_at "set") => `(tactic| first | ((with_reducible show DL.WS _ (.Assign [.Name "given" _] _ _) _ _ _); refine ws_set 0 (h := ?_)) | ((with_reducible show DL.WS _ (.Assign [.Name "slack" _] _ _) _ _ _); refine ws_set 1 (h := ?_)) | ((with_reducible show DL.WS _ (.Assign [.Name "moment" _] _ _) _ _ _); refine ws_set 2 (h := ?_)) | ((with_reducible show DL.WS _ (.Assign [.Name "value" _] _ _) _ _ _); refine ws_set 3 (h := ?_)) | ((with_reducible show DL.WS _ (.Assign [.Name "end" _] _ _) _ _ _); refine ws_set 4 (h := ?_)))
set_option hygiene false in
local macro_rules | `(tactic| walk_at "gnm") => `(tactic| first | ((with_reducible show DL.WGi _ _ (.Name "given" _) _ _ _ _); refine wg_name 0 (q := ?_)) | ((with_reducible show DL.WGi _ _ (.Name "slack" _) _ _ _ _); refine wg_name 1 (q := ?_)) | ((with_reducible show DL.WGi _ _ (.Name "moment" _) _ _ _ _); refine wg_name 2 (q := ?_)) | ((with_reducible show DL.WGi _ _ (.Name "value" _) _ _ _ _); refine wg_name 3 (q := ?_)) | ((with_reducible show DL.WGi _ _ (.Name "end" _) _ _ _ _); refine wg_name 4 (q := ?_)))
set_option hygiene false in
local macro_rules | `(tactic| walk_at "aug") => `(tactic| first | ((with_reducible show DL.WS _ (.AugAssign (.Name "end" _) .Add _ _) _ _ _); refine ws_augI 4 (fun _ => ip_add) (h := ?_)))
set_option maxHeartbeats 1000000 in
theorem ok_reach_of (T : Txt K mg) : FnD P w K mg base 1 "reach_of" sp_reach_of := by
  refine TF.ok 0 T.f_reach_of sc_reach_of (fun ds μ Q ⟨_, _, _, _, h, _⟩ => by rw [h]; rfl) fun ds μ Q h => ?_
  obtain ⟨vs, s, m', v, rfl, hl, h0, q⟩ := h
  obtain ⟨m, rfl⟩ := Int.eq_ofNat_of_zero_le h0
  walk_at "go"
  refine ws_while ⟨fun k ρ' μ' => ∃ e : Nat, μ = μ' ∧ ρ' = [some (.tup (iD vs)), some (.int s), some (.int m), some (.int v), some (.int e)] ∧ k = vs.length - e ∧ reachN vs s v (vs.length - e) e = reach vs s m v, ⟨_, m, rfl, rfl, rfl, rfl⟩, ?_⟩
  rintro k ρ' μ' ⟨e, rfl, rfl, rfl, hI⟩
  walk_at "go"
  · rw [cut_win]
    walk_at "go"
    · refine ⟨_, ?_, e + 1, rfl, rfl, rfl, ?_⟩
      · have : (e : Int) < vs.length := by assumption
        omega
      · rw [← hI, show vs.length - e = (vs.length - (e + 1)) + 1 by omega]
        show _ = if e < vs.length ∧ v ∈ win vs s e then _ else _
        rw [if_pos ⟨by omega, hk⟩]
    · have e1 : e = reach vs s m v := by
        rw [← hI]
        cases z : vs.length - e with
        | zero => rfl
        | succ k => show _ = if e < vs.length ∧ v ∈ win vs s e then _ else _; rw [if_neg fun h => hk h.2]
      rw [e1]; exact q
  · have e1 : e = reach vs s m v := by
      rw [← hI, show vs.length - e = 0 by omega]; rfl
    rw [e1]; exact q
end
set_option hygiene false in
local macro_rules | `(tactic| walk_at "call") => `(tactic| ((with_reducible show DL.WE _ (.Call (.Name "reach_of" _) _ [] _) _ _ _); refine we_call (ok_reach_of T) (h := ?_)))
/-- the least value that lasts longest -/
def bestv (vs : List Int) (s m : Nat) : Int := ((sdd (win vs s m)).find? fun v => decide (reach vs s m v = best vs s m)).getD 0
def gr (vs : List Int) (s : Nat) : Nat → Nat → Tl
  | 0, _ => []
  | k + 1, x => if x < vs.length then ((x : Int), bestv vs s x) :: gr vs s k (best vs s x) else []
def greedy (vs : List Int) (s : Nat) : Tl := gr vs s vs.length 0
theorem bestv_spec {vs : List Int} {s m : Nat} (h : m < vs.length) : bestv vs s m ∈ win vs s m ∧ reach vs s m (bestv vs s m) = best vs s m ∧ ∀ v ∈ win vs s m, reach vs s m v = best vs s m → bestv vs s m ≤ v := by
  obtain ⟨v, h1, h2⟩ := best_at (s := s) h
  have hs := sdd_lt (win vs s m)
  cases e : (sdd (win vs s m)).find? fun v => decide (reach vs s m v = best vs s m) with
  | none =>
    have := List.find?_eq_none.mp e v (mem_sdd.mpr h1)
    simp [h2] at this
  | some u =>
    have eb : bestv vs s m = u := by unfold bestv; rw [e]; rfl
    rw [eb]
    refine ⟨mem_sdd.mp (List.mem_of_find?_eq_some e), by have := List.find?_some e; simpa using this, fun v hv hr => ?_⟩
    obtain ⟨_, as, bs, he, hb⟩ := List.find?_eq_some_iff_append.mp e
    rw [he] at hs
    have hm := mem_sdd.mpr hv
    rw [he] at hm
    rcases List.mem_append.mp hm with hm | hm
    · have := hb v hm; simp [hr] at this
    · rcases List.mem_cons.mp hm with rfl | hm
      · exact Int.le_refl _
      · have := (List.pairwise_cons.mp (List.pairwise_append.mp hs).2.1).1 v hm; omega
theorem gr_gs {vs : List Int} {s : Nat} : ∀ (k x : Nat) (L : Nat), GA vs s x L → vs.length ≤ x + k → (∀ (i : Nat) (m v : Int), (gr vs s k x)[i]? = some (m, v) → ∃ g : Nat, m = g ∧ GA vs s g (i + L) ∧ v ∈ win vs s g ∧ reach vs s g v = best vs s g) ∧ ∃ g, Last vs s g ((gr vs s k x).length + L - 1) ∧ 0 < (gr vs s k x).length
  | 0, x, L, h, hk => by have := h.lt; omega
  | k + 1, x, L, h, hk => by
    unfold gr
    rw [if_pos h.lt]
    obtain ⟨b1, b2, b3⟩ := bestv_spec (s := s) h.lt
    have lt := best_lt (s := s) h.lt
    have hp := h.pos
    by_cases q : best vs s x < vs.length
    · obtain ⟨h1, g, h2, h3⟩ := gr_gs k (best vs s x) (L + 1) (.step h q) (by omega)
      refine ⟨fun i m v hi => ?_, g, ?_, by simp⟩
      · cases i with
        | zero => simp at hi; obtain ⟨rfl, rfl⟩ := hi; exact ⟨x, rfl, by rw [Nat.zero_add]; exact h, b1, b2⟩
        | succ i =>
          obtain ⟨g, k1, k2, k3⟩ := h1 i m v (by simpa using hi)
          exact ⟨g, k1, by rw [show i + 1 + L = i + (L + 1) by omega]; exact k2, k3⟩
      · rw [List.length_cons, show (gr vs s k (best vs s x)).length + 1 + L - 1 = (gr vs s k (best vs s x)).length + (L + 1) - 1 by omega]; exact h2
    · have e : gr vs s k (best vs s x) = [] := by
        cases k with
        | zero => rfl
        | succ k => unfold gr; rw [if_neg q]
      rw [e]
      refine ⟨fun i m v hi => ?_, x, ?_, by simp⟩
      · cases i with
        | zero => simp at hi; obtain ⟨rfl, rfl⟩ := hi; exact ⟨x, rfl, by rw [Nat.zero_add]; exact h, b1, b2⟩
        | succ i => simp at hi
      · exact ⟨by simpa using h, by omega⟩
theorem greedy_gs {vs : List Int} {s : Nat} (h : 0 < vs.length) : Gs vs s (greedy vs s) ∧ ∃ g, Last vs s g (greedy vs s).length := by
  obtain ⟨h1, g, h2, h3⟩ := gr_gs (s := s) vs.length 0 1 (.zero h) (by omega)
  exact ⟨h1, g, by simpa [greedy] using h2⟩
theorem gr_len {vs : List Int} {s : Nat} : ∀ k x, (gr vs s k x).length ≤ k
  | 0, x => Nat.le_refl _
  | k + 1, x => by
    unfold gr
    split
    · rw [List.length_cons]; have := gr_len (vs := vs) (s := s) k (best vs s x); omega
    · simp
def pr (q : Int × Int) : D := .tup [.int q.1, .int q.2]
def encF (ts : Tl) (bs : List Int) : D := .tup [.tup (ts.map pr), .tup (iD bs)]
def greedyD (vs : List Int) (s : Nat) : D := encF (greedy vs s) ((greedy vs s).map (·.1))
def sp_fewest_tellings : DSp := fun ds μ Q => ∃ (vs : List Int) (s : Nat), ds = [.tup (iD vs), .int s] ∧ vs.length ≤ 300 ∧ Q (greedyD vs s) μ
theorem lex2 {a b c d : Int} : lexL [a, b] [c, d] = false ↔ c < a ∨ (c = a ∧ d ≤ b) := by
  unfold lexL lexL lexL
  by_cases h : a = c
  · rw [if_pos h]
    by_cases h2 : b = d
    · rw [if_pos h2]; simp; omega
    · rw [if_neg h2, decide_eq_false_iff_not]; omega
  · rw [if_neg h, decide_eq_false_iff_not]; omega
theorem sc_fewest_tellings : FnScope ["values", "slack", "given", "tellings", "moment", "choices", "value", "reached", "pair"] ["values", "slack"] (defScope s_fewest_tellings) := ⟨rfl, rfl, rfl, by decide +kernel, rfl, by decide +kernel, by decide +kernel⟩
section
set_option hygiene false in
local macro_rules | `(tactic| walk_at "nm") => `(tactic| first | ((with_reducible show DL.WE _ (.Name "values" _) _ _ _); refine we_name 0 (q := ?_)) | ((with_reducible show DL.WE _ (.Name "slack" _) _ _ _); refine we_name 1 (q := ?_)) | ((with_reducible show DL.WE _ (.Name "given" _) _ _ _); refine we_name 2 (q := ?_)) | ((with_reducible show DL.WE _ (.Name "tellings" _) _ _ _); refine we_name 3 (q := ?_)) | ((with_reducible show DL.WE _ (.Name "moment" _) _ _ _); refine we_name 4 (q := ?_)) | ((with_reducible show DL.WE _ (.Name "choices" _) _ _ _); refine we_name 5 (q := ?_)) | ((with_reducible show DL.WE _ (.Name "value" _) _ _ _); refine we_name 6 (q := ?_)) | ((with_reducible show DL.WE _ (.Name "reached" _) _ _ _); refine we_name 7 (q := ?_)) | ((with_reducible show DL.WE _ (.Name "pair" _) _ _ _); refine we_name 8 (q := ?_)))
set_option hygiene false in
local macro_rules | `(tactic| walk_at "set") => `(tactic| first | ((with_reducible show DL.WS _ (.Assign [.Name "values" _] _ _) _ _ _); refine ws_set 0 (h := ?_)) | ((with_reducible show DL.WS _ (.Assign [.Name "slack" _] _ _) _ _ _); refine ws_set 1 (h := ?_)) | ((with_reducible show DL.WS _ (.Assign [.Name "given" _] _ _) _ _ _); refine ws_set 2 (h := ?_)) | ((with_reducible show DL.WS _ (.Assign [.Name "tellings" _] _ _) _ _ _); refine ws_set 3 (h := ?_)) | ((with_reducible show DL.WS _ (.Assign [.Name "moment" _] _ _) _ _ _); refine ws_set 4 (h := ?_)) | ((with_reducible show DL.WS _ (.Assign [.Name "choices" _] _ _) _ _ _); refine ws_set 5 (h := ?_)) | ((with_reducible show DL.WS _ (.Assign [.Name "value" _] _ _) _ _ _); refine ws_set 6 (h := ?_)) | ((with_reducible show DL.WS _ (.Assign [.Name "reached" _] _ _) _ _ _); refine ws_set 7 (h := ?_)) | ((with_reducible show DL.WS _ (.Assign [.Name "pair" _] _ _) _ _ _); refine ws_set 8 (h := ?_)))
set_option hygiene false in
local macro_rules | `(tactic| walk_at "gnm") => `(tactic| first | ((with_reducible show DL.WGi _ _ (.Name "values" _) _ _ _ _); refine wg_name 0 (q := ?_)) | ((with_reducible show DL.WGi _ _ (.Name "slack" _) _ _ _ _); refine wg_name 1 (q := ?_)) | ((with_reducible show DL.WGi _ _ (.Name "given" _) _ _ _ _); refine wg_name 2 (q := ?_)) | ((with_reducible show DL.WGi _ _ (.Name "tellings" _) _ _ _ _); refine wg_name 3 (q := ?_)) | ((with_reducible show DL.WGi _ _ (.Name "moment" _) _ _ _ _); refine wg_name 4 (q := ?_)) | ((with_reducible show DL.WGi _ _ (.Name "choices" _) _ _ _ _); refine wg_name 5 (q := ?_)) | ((with_reducible show DL.WGi _ _ (.Name "value" _) _ _ _ _); refine wg_name 6 (q := ?_)) | ((with_reducible show DL.WGi _ _ (.Name "reached" _) _ _ _ _); refine wg_name 7 (q := ?_)) | ((with_reducible show DL.WGi _ _ (.Name "pair" _) _ _ _ _); refine wg_name 8 (q := ?_)))
set_option hygiene false in
local macro_rules | `(tactic| walk_at "E") => `(tactic| first | ((with_reducible show DL.WE _ (.ListComp _ _ _ ⟨17, 18, 17, 113⟩) _ _ _); refine we_lc [("value", 6)] (h := ?_)) | ((with_reducible show DL.WE _ (.ListComp _ _ _ ⟨21, 35, 21, 65⟩) _ _ _); refine we_lc [("pair", 8)] (h := ?_)))
set_option hygiene false in
local macro_rules | `(tactic| walk_at "S") => `(tactic| first | ((with_reducible show DL.WS _ (.Assign [.Name "choices" _] (.ListComp _ _ _ ⟨17, 18, 17, 113⟩) _) _ _ _); refine ws_setLc 5 [("value", 6)] (h := ?_)))
set_option hygiene false in
local macro_rules | `(tactic| walk_at "I") => `(tactic| first | ((with_reducible show DL.WI _ _ (.Name "tellings" _) _ _ _); first | refine wi_name 3 (s := .inl rfl) (h := ?_) | refine wi_name 3 (s := .inr rfl) (h := ?_)))
set_option hygiene false in
local macro_rules | `(tactic| walk_at "S") => `(tactic| first | ((with_reducible show DL.WS _ (.Assign [.Tuple _ _ _] _ ⟨18, 8, _, _⟩) _ _ _); refine ws_asg (ix := ([7] ++ ([6] ++ []))) (h := ?_)))
set_option maxHeartbeats 1000000 in
theorem ok_fewest_tellings (T : Txt K mg) : FnD P w K mg base 2 "fewest_tellings" sp_fewest_tellings := by
  refine TF.ok 1 T.f_fewest_tellings sc_fewest_tellings (fun ds μ Q ⟨_, _, h, _⟩ => by rw [h]; rfl) fun ds μ Q h => ?_
  obtain ⟨vs, s, rfl, hl, q⟩ := h
  walk_at "go"
  refine ws_while ⟨fun k ρ' μ' => ∃ (x : Nat) (ts : Tl) (fu : Nat) (o1 o2 o3 o4 : Option D), μ' = μ.upd p (.lst (ts.map pr)) ∧ ρ' = [some (.tup (iD vs)), some (.int s), some (.tup (iD vs)), some (.loc p), some (.int x), o1, o2, o3, o4] ∧ k = vs.length - x ∧ x ≤ vs.length ∧ vs.length ≤ x + fu ∧ ts.length ≤ x ∧ greedy vs s = ts ++ gr vs s fu x, ⟨_, 0, [], vs.length, none, none, none, none, rfl, rfl, rfl, Nat.zero_le _, by omega, Nat.zero_le _, rfl⟩, ?_⟩
  rintro k ρ' μ' ⟨x, ts, fu, o1, o2, o3, o4, rfl, rfl, rfl, hx, hfu, htl, hI⟩
  walk_at "goE"
  · walk_at "go"
    have hx' : x < vs.length := by omega
    have wl := win_len (vs := vs) (s := s) (m := x)
    have sl : (sdd (win vs s x)).length ≤ 1000 := by
      have := sdd_len (win vs s x); omega
    refine LcHyp.mp (sdd (win vs s x)) D.int (fun v => tI [-(reach vs s x v : Int), v]) [6] (by simp) (sz1000 sl) (fun v i hv => ?_) ?_
    · walk_at "go"
    walk_at "go"
    refine wc_minT (rows := (sdd (win vs s x)).map fun v => [-(reach vs s x v : Int), v]) (.inl (by rw [List.map_map] <;> rfl)) (fun e => ?_) (fun m hm hle => ?_)
    · have := mem_sdd.mpr (win_self (s := s) hx')
      rw [List.map_eq_nil_iff] at e
      rw [e] at this; cases this
    obtain ⟨v, hv, rfl⟩ := List.mem_map.mp hm
    obtain ⟨b1, b2, b3⟩ := bestv_spec (s := s) hx'
    have hv' := mem_sdd.mp hv
    have e : v = bestv vs s x := by
      have := lex2.mp (hle _ (List.mem_map.mpr ⟨_, mem_sdd.mpr b1, rfl⟩))
      have h1 := best_ge hv'
      rw [b2] at this
      rcases this with h | ⟨h2, h3⟩
      · omega
      · have := b3 v hv' (by omega); omega
    have bl := best_lt (s := s) hx'
    walk_at "go"
    rw [Mem.upd_upd]
    subst e
    rw [b2, Int.neg_neg]
    refine ⟨_, ?_, best vs s x, ts ++ [((x : Int), bestv vs s x)], fu - 1, _, _, _, _, by rw [List.map_append]; rfl, rfl, rfl, bl.2, by omega, by simp; omega, ?_⟩
    · omega
    · rw [hI, List.append_assoc]
      congr 1
      obtain ⟨f, rfl⟩ : ∃ f, fu = f + 1 := ⟨fu - 1, by omega⟩
      show (if x < vs.length then _ else _) = _
      rw [if_pos hx']; rfl
  · have e : ts = greedy vs s := by
      rw [hI]
      cases fu with
      | zero => show ts = ts ++ []; simp
      | succ f => show ts = ts ++ if x < vs.length then _ else []; rw [if_neg (by omega)]; simp
    refine wss_freeze 3 rfl Mem.upd_same ?_
    rw [Mem.del_upd hp]
    walk_at "go"
    refine LcHyp.mp ts pr (fun q => D.int q.1) [8] (by simp) (sz1000 (by omega)) (fun v i hv => ?_) ?_
    · walk_at "go"
    walk_at "go"
    have : (ts.map fun q => D.int q.1) = iD (ts.map (·.1)) := by simp
    rw [this, e]; exact q
end
set_option hygiene false in
local macro_rules | `(tactic| walk_at "call") => `(tactic| ((with_reducible show DL.WE _ (.Call (.Name "fewest_tellings" _) _ [] _) _ _ _); refine we_call (ok_fewest_tellings T) (h := ?_)))
end K80
namespace K80
open PySem L2 DL Tell
variable {P : Program} {w : World} {K : PySem.W.Frag} {mg : Str → Option Value} {base : Heap}
set_option hygiene false in
local macro_rules | `(tactic| walk_at "side") => `(tactic| first
  | (with_reducible assumption)
  | rfl
  | omega
  | decide
  | exact ⟨by omega, by omega⟩
  | exact ⟨by decide, by decide⟩
  | exact .inl ⟨by decide, by decide⟩
  | exact .inr ⟨by decide, by decide⟩
  | exact .inl ⟨by omega, by omega⟩
  | exact .inr ⟨by omega, by omega⟩
  | exact ⟨by decide, by decide, by decide⟩
  | exact szb rfl
  | fail "side")
set_option hygiene false in
local macro_rules | `(tactic| walk_at "ne") => `(tactic| first
  | assumption
  | exact Ne.symm (by assumption)
  | exact ne_fresh (by assumption) (by assumption)
  | exact Ne.symm (ne_fresh (by assumption) (by assumption)))
/- what stands at an address -/
set_option hygiene false in
local macro_rules | `(tactic| walk_at "mem") => `(tactic| first
  | assumption
  | exact Mem.upd_same
  | exact (Mem.upd_ne (by walk_at "ne")).trans (by walk_at "mem"))
/- an item of a list -/
set_option hygiene false in
local macro_rules | `(tactic| walk_at "at") => `(tactic| first
  | rfl
  | exact atI_getI (by omega) (by omega)
  | exact atI_lastI (by first | omega | (simp only [List.length_map] at *; omega))
  | exact atI_lastM _ (by assumption)
  | exact atI_mapI _ (by omega) (by assumption)
  | exact atI_mapN _ (by assumption)
  | exact atI_get _ (by first | omega | (simp only [List.length_map, List.length_set] at *; omega)) (by first | omega | (simp only [List.length_map, List.length_set] at *; omega)))
/- tests that are decided or split -/
set_option hygiene false in
local macro_rules | `(tactic| walk_at "if") => `(tactic| first
  | refine if_tt ?_
  | refine if_ff ?_
  | refine if_f_tt ?_
  | refine if_f_ff ?_
  | (refine if_dec (fun hk => ?_) (fun hk => ?_))
  | (refine if_ndec (fun hk => ?_) (fun hk => ?_))
  | (refine if_f_dec (fun hk => ?_) (fun hk => ?_))
  | (refine if_f_ndec (fun hk => ?_) (fun hk => ?_))
  | (refine if_nb (fun hk => ?_) (fun hk => ?_))
  | (refine if_f_nb (fun hk => ?_) (fun hk => ?_))
  | (refine And.intro (fun hk => ?_) (fun hk => ?_)))
set_option hygiene false in
local macro_rules | `(tactic| walk_at "call") => `(tactic| first
  | ((with_reducible show DL.WE _ (.Call (.Name "len" _) _ [] _) _ _ _); refine we_callB bt_len T.b_len (h := ?_))
  | ((with_reducible show DL.WE _ (.Call (.Name "abs" _) _ [] _) _ _ _); refine we_callB bt_abs T.b_abs (h := ?_))
  | ((with_reducible show DL.WE _ (.Call (.Name "min" _) _ [] _) _ _ _); refine we_callB bt_min T.b_min (h := ?_))
  | ((with_reducible show DL.WE _ (.Call (.Name "max" _) _ [] _) _ _ _); refine we_callB bt_max T.b_max (h := ?_))
  | ((with_reducible show DL.WE _ (.Call (.Name "sum" _) _ [] _) _ _ _); refine we_callB bt_sum T.b_sum (h := ?_))
  | ((with_reducible show DL.WE _ (.Call (.Name "all" _) _ [] _) _ _ _); refine we_callB bt_all T.b_all (h := ?_))
  | ((with_reducible show DL.WE _ (.Call (.Name "any" _) _ [] _) _ _ _); refine we_callB bt_any T.b_any (h := ?_))
  | ((with_reducible show DL.WE _ (.Call (.Name "sorted" _) _ [] _) _ _ _); refine we_callB bt_sorted T.b_sorted (h := ?_))
  | ((with_reducible show DL.WE _ (.Call (.Name "isinstance" _) _ [] _) _ _ _); refine we_callB bt_isinstance T.b_isinstance (h := ?_))
  | ((with_reducible show DL.WE _ (.Call (.Name "int" _) _ [] _) _ _ _); refine we_callT bt_int T.b_int (h := ?_))
  | ((with_reducible show DL.WE _ (.Call (.Name "list" _) _ [] _) _ _ _); refine we_callT bt_list T.b_list (h := ?_))
  | ((with_reducible show DL.WE _ (.Call (.Name "tuple" _) _ [] _) _ _ _); refine we_callT bt_tuple T.b_tuple (h := ?_))
  | ((with_reducible show DL.WE _ (.Call (.Name "bool" _) _ [] _) _ _ _); refine we_callT bt_bool T.b_bool (h := ?_))
  | ((with_reducible show DL.WE _ (.Call (.Name "set" _) _ [] _) _ _ _); refine we_callT bt_set T.b_set (h := ?_)))
set_option hygiene false in
local macro_rules | `(tactic| walk_at "ty") => `(tactic| first
  | ((with_reducible show DL.WE _ (.Name "int" _) _ _ _); refine we_type rfl T.b_int bt_int (by decide) (by decide) ?_)
  | ((with_reducible show DL.WE _ (.Name "bool" _) _ _ _); refine we_type rfl T.b_bool bt_bool (by decide) (by decide) ?_)
  | ((with_reducible show DL.WE _ (.Name "tuple" _) _ _ _); refine we_type rfl T.b_tuple bt_tuple (by decide) (by decide) ?_)
  | ((with_reducible show DL.WE _ (.Name "list" _) _ _ _); refine we_type rfl T.b_list bt_list (by decide) (by decide) ?_))
set_option hygiene false in
local macro_rules | `(tactic| walk_at "E") => `(tactic| first
  | ((with_reducible show DL.WE _ (.Name _ _) _ _ _); first | walk_at "nm" | walk_at "ty")
  | ((with_reducible show DL.WE _ (.Constant _ _ _) _ _ _); first | refine we_int ?_ | refine we_str ?_ | refine we_bl ?_ | refine we_non ?_)
  | ((with_reducible show DL.WE _ (.Call (.Name "sorted" _) [.Call (.Name "set" _) [_] [] _] [] _) _ _ _); refine we_sortedSet T.b_sorted T.b_set (h := ?_))
  | ((with_reducible show DL.WE _ (.Call (.Name "list" _) [.Call (.Attribute _ "values" _) [] [] _] [] _) _ _ _); refine we_listVals T.b_list (h := ?_))
  | ((with_reducible show DL.WE _ (.Call (.Name _ _) _ [] _) _ _ _); walk_at "call")
  | ((with_reducible show DL.WE _ (.Call (.Attribute _ "get" _) [_, _] [] _) _ _ _); refine we_dget2A (h := ?_))
  | ((with_reducible show DL.WE _ (.Call (.Attribute _ "append" _) _ [] _) _ _ _); refine we_lmA PySem.F.slot_list_append PySem.F.type_list_append (h := ?_))
  | ((with_reducible show DL.WE _ (.Call (.Attribute _ "extend" _) _ [] _) _ _ _); refine we_lmA PySem.F.slot_list_extend PySem.F.type_list_extend (h := ?_))
  | ((with_reducible show DL.WE _ (.Call (.Attribute _ "pop" _) (_ :: _) [] _) _ _ _); refine we_lmA PySem.F.slot_list_pop PySem.F.type_list_pop (h := ?_))
  | ((with_reducible show DL.WE _ (.BinOp _ _ _ _) _ _ _); refine we_bin ?_)
  | ((with_reducible show DL.WE _ (.Compare _ [_] _ _) _ _ _); refine we_cmp (h := ?_))
  | ((with_reducible show DL.WE _ (.Compare _ [_, _] _ _) _ _ _); refine we_chain (h := ?_))
  | ((with_reducible show DL.WE _ (.Subscript _ (.Slice _ _ none _) _) _ _ _); refine we_slice ?_)
  | ((with_reducible show DL.WE _ (.Subscript _ (.Slice none none _ _) _) _ _ _); first | refine we_revL ?_ | refine we_slice ?_)
  | ((with_reducible show DL.WE _ (.Subscript _ _ _) _ _ _); refine we_sub (h := ?_))
  | ((with_reducible show DL.WE _ (.Tuple _ _ _) _ _ _); refine we_tup ?_)
  | ((with_reducible show DL.WE _ (.UnaryOp .Not _ _) _ _ _); refine we_not ?_)
  | ((with_reducible show DL.WE _ (.UnaryOp _ _ _) _ _ _); refine we_un ?_)
  | ((with_reducible show DL.WE _ (.BoolOp _ [_] _) _ _ _); refine we_one ?_)
  | ((with_reducible show DL.WE _ (.BoolOp .And _ _) _ _ _); refine we_and ?_)
  | ((with_reducible show DL.WE _ (.BoolOp .Or _ _) _ _ _); refine we_or ?_)
  | ((with_reducible show DL.WE _ (.IfExp _ _ _ _) _ _ _); refine we_ifExp ?_)
  | ((with_reducible show DL.WE _ (.List [] _) _ _ _); refine we_lstM (wa_nil ⟨szb rfl, fun p hp => ?_⟩))
  | ((with_reducible show DL.WE _ (.List _ _) _ _ _); refine we_lst ?_)
  | ((with_reducible show DL.WE _ (.Dict [] [] _) _ _ _); refine we_dctM (fun p hp => ?_)))
set_option hygiene false in
local macro_rules | `(tactic| walk_at "S") => `(tactic| first
  | ((with_reducible show DL.WS _ (.Assign [.Name _ _] _ _) _ _ _); walk_at "set")
  | ((with_reducible show DL.WS _ (.Return (some _) _) _ _ _); refine ws_ret' ?_)
  | ((with_reducible show DL.WS _ (.Return _ _) _ _ _); refine ws_retN ?_)
  | ((with_reducible show DL.WS _ (.If _ _ _ _) _ _ _); refine ws_if ?_)
  | ((with_reducible show DL.WS _ (.Expr _ _) _ _ _); refine ws_expr (h := ?_))
  | ((with_reducible show DL.WS _ (.Assign [.Tuple _ _ _] _ _) _ _ _); refine ws_asg (h := ?_))
  | ((with_reducible show DL.WS _ (.Assign [.Subscript _ _ _] _ _) _ _ _); refine ws_putA (h := ?_))
  | ((with_reducible show DL.WS _ (.AugAssign (.Name _ _) _ _ _) _ _ _); walk_at "aug")
  | ((with_reducible show DL.WS _ (.AugAssign (.Subscript _ _ _) .Add _ _) _ _ _); refine ws_augLA (fun _ => ip_add) (h := ?_))
  | ((with_reducible show DL.WS _ (.For _ _ _ [] _) _ _ _); refine ws_for (h := ?_))
  | ((with_reducible show DL.WS _ (.Pass _) _ _ _); refine ws_pass ?_)
  | ((with_reducible show DL.WS _ (.Break _) _ _ _); refine ws_break ?_)
  | ((with_reducible show DL.WS _ (.Continue _) _ _ _); refine ws_cont ?_))
set_option hygiene false in
local macro_rules | `(tactic| walk_at "T") => `(tactic| first
  | ((with_reducible show DL.WT _ (.Compare _ [_] _ _) _ _ _); refine wt_cmp (h := ?_))
  | ((with_reducible show DL.WT _ (.Compare _ [_, _] _ _) _ _ _); refine wt_chain (h := ?_))
  | ((with_reducible show DL.WT _ (.UnaryOp .Not _ _) _ _ _); refine wt_not ?_)
  | ((with_reducible show DL.WT _ (.BoolOp _ _ _) _ _ _); refine wt_ww ?_)
  | refine wt_val (h := ?_))
set_option hygiene false in
local macro_rules | `(tactic| walk_at "O") => `(tactic| first
  | ((with_reducible show DL.WO _ (binaryOp .Add) _ _ _ _); first | refine wo_add ?_ | refine wo_cat (.inl rfl) (.inl rfl) (by walk_at "sz") ?_ | refine wo_cat (.inr ⟨_, rfl, by walk_at "mem"⟩) (.inl rfl) (by walk_at "sz") ?_ | refine wo_catT (by walk_at "sz") ?_)
  | ((with_reducible show DL.WO _ (binaryOp .Sub) _ _ _ _); refine wo_sub ?_)
  | ((with_reducible show DL.WO _ (binaryOp .Mult) _ _ _ _); refine wo_mul (by walk_at "side") ?_)
  | ((with_reducible show DL.WO _ (binaryOp .FloorDiv) _ _ _ _); refine wo_fdiv (by walk_at "side") ?_)
  | ((with_reducible show DL.WO _ (binaryOp .Mod) _ _ _ _); refine wo_mod (by walk_at "side") ?_)
  | ((with_reducible show DL.WO _ (compareOp .Lt) _ _ _ _); refine wo_lt ?_)
  | ((with_reducible show DL.WO _ (compareOp .LtE) _ _ _ _); refine wo_le ?_)
  | ((with_reducible show DL.WO _ (compareOp .Gt) _ _ _ _); refine wo_gt ?_)
  | ((with_reducible show DL.WO _ (compareOp .GtE) _ _ _ _); refine wo_ge ?_)
  | ((with_reducible show DL.WO _ (compareOp .Eq) _ _ _ _); first | refine wo_eqI ?_ | refine wo_eqS ?_ | refine wo_eqB ?_ | refine wo_eqIL ?_ | refine wo_eqIT ?_)
  | ((with_reducible show DL.WO _ (compareOp .NotEq) _ _ _ _); first | refine wo_neI ?_ | refine wo_neS ?_ | refine wo_neB ?_ | refine wo_neIL ?_ | refine wo_neIT ?_)
  | ((with_reducible show DL.WO _ (compareOp .Is) _ _ _ _); first | refine wo_isB ?_ | refine wo_isN true (.inl ⟨rfl, rfl⟩) ?_ | refine wo_isN false (.inr ⟨rfl, fun z => by cases z⟩) ?_)
  | ((with_reducible show DL.WO _ (compareOp .IsNot) _ _ _ _); first | refine wo_isnotB ?_ | refine wo_notN false (.inl ⟨rfl, rfl⟩) ?_ | refine wo_notN true (.inr ⟨rfl, fun z => by cases z⟩) ?_)
  | ((with_reducible show DL.WO _ (compareOp .In) _ _ _ _); first | refine wo_inT ?_ | refine wo_inL ?_)
  | ((with_reducible show DL.WO _ (compareOp .NotIn) _ _ _ _); first | refine wo_notinT ?_ | refine wo_notinL ?_)
  | ((with_reducible show DL.WO _ (binaryOp .Pow) _ _ _ _); refine wo_pow (by walk_at "side") ?_)
  | ((with_reducible show DL.WO _ (binaryOp .LShift) _ _ _ _); refine wo_shl (by walk_at "side") ?_))
set_option hygiene false in
local macro_rules | `(tactic| walk_at "C") => `(tactic| first
  | ((with_reducible show DL.WC _ (.builtin "len") [.tup (List.map _ _)] _ _); refine wc_len_tupM ?_)
  | ((with_reducible show DL.WC _ (.builtin "len") [.lst (List.map _ _)] _ _); refine wc_len_lstM ?_)
  | ((with_reducible show DL.WC _ (.builtin "len") [.loc _] _ _); refine wc_len_loc (by walk_at "mem") ?_)
  | ((with_reducible show DL.WC _ (.builtin "len") _ _ _); first | refine wc_len_tup ?_ | refine wc_len_lst ?_)
  | ((with_reducible show DL.WC _ (.builtin "all") _ _ _); first | refine wc_allT ?_ | refine wc_allM ?_)
  | ((with_reducible show DL.WC _ (.builtin "any") _ _ _); refine wc_anyM ?_)
  | ((with_reducible show DL.WC _ (.type "int") _ _ _); first | refine wc_int ?_ | refine wc_intB ?_)
  | ((with_reducible show DL.WC _ (.builtin "abs") _ _ _); refine wc_abs ?_)
  | ((with_reducible show DL.WC _ (.builtin "max") _ _ _); refine wc_max2 ?_)
  | ((with_reducible show DL.WC _ (.builtin "min") _ _ _); refine wc_min2 ?_)
  | ((with_reducible show DL.WC _ (.type "tuple") _ _ _); first | refine wc_tuple (.inl rfl) ?_ | refine wc_tuple (.inr (.inl rfl)) ?_ | refine wc_tuple (.inr (.inr ⟨_, rfl, by walk_at "mem"⟩)) ?_)
  | ((with_reducible show DL.WC _ (.type "list") _ _ _); first | refine wc_list (.inl rfl) ?_ | refine wc_list (.inr (.inl rfl)) ?_ | refine wc_list (.inr (.inr ⟨_, rfl, by walk_at "mem"⟩)) ?_)
  | ((with_reducible show DL.WC _ (.builtin "isinstance") _ _ _); first | refine wc_isi (k := true) rfl (by decide +kernel) ?_ | refine wc_isi (k := false) rfl (by decide +kernel) ?_))
set_option hygiene false in
local macro_rules | `(tactic| walk_at "Ix") => `(tactic| first
  | ((with_reducible show DL.WIx _ (.loc _) _ _ _); refine wix_loc (by walk_at "mem") (by walk_at "at") ?_)
  | ((with_reducible show DL.WIx _ (.lst _) _ _ _); refine wix_lst (by walk_at "at") ?_)
  | ((with_reducible show DL.WIx _ (.tup _) _ _ _); refine wix_tup (by walk_at "at") ?_)
  | refine wix_tup rfl ?_
  | refine wix_lst rfl ?_)
set_option hygiene false in
local macro_rules | `(tactic| walk_at "M") => `(tactic| first
  | ((with_reducible show DL.WM _ "list.append" _ _ _ _); refine wm_append (by walk_at "mem") (by walk_at "sz") ?_))
set_option hygiene false in
local macro_rules | `(tactic| walk_at "sz") => `(tactic| first
  | exact szb rfl
  | exact szl (by first | omega | (simp only [List.length_map, List.length_append, List.length_cons, List.length_nil, rangeD_length] at *; omega))
  | exact szle (by first | omega | (simp only [List.length_map, List.length_append, List.length_cons, List.length_nil, rangeD_length] at *; omega)))
set_option hygiene false in
local macro_rules | `(tactic| walk_at "pre") => `(tactic| first
  | (with_reducible assumption)
  | ((with_reducible show _ = _); first | rfl | walk_at "mem" | (simp; done))
  | ((with_reducible show _ ∧ _); first | exact ⟨rfl, rfl⟩ | exact ⟨by omega, by omega⟩)
  | ((with_reducible show (_ : Nat) ≤ _); first | omega | (simp only [List.length_map, List.length_append, List.length_cons, List.length_nil, rangeD_length]; omega))
  | ((with_reducible show (_ : Nat) < _); first | omega | (simp only [List.length_map, List.length_append, List.length_cons, List.length_nil, rangeD_length]; omega))
  | ((with_reducible show (_ : Int) ≤ _); first | omega | (simp only [List.length_map, List.length_append, List.length_cons, List.length_nil, rangeD_length]; omega))
  | ((with_reducible show (_ : Int) < _); first | omega | (simp only [List.length_map, List.length_append, List.length_cons, List.length_nil, rangeD_length]; omega) | (simp; done))
  | assumption
  | (simp; done))
set_option hygiene false in
local macro_rules | `(tactic| walk_at "I") => `(tactic| first
  | ((with_reducible show DL.WI _ _ (.Call (.Name "range" _) [_] [] _) _ _ _); refine wi_range1 T.b_range (h := ?_))
  | ((with_reducible show DL.WI _ _ (.Call (.Name "range" _) [_, _] [] _) _ _ _); refine wi_range2 T.b_range (h := ?_))
  | ((with_reducible show DL.WI _ _ (.Call (.Name "range" _) [_, _, _] [] _) _ _ _); refine wi_range3n T.b_range (h := ?_))
  | ((with_reducible show DL.WI _ _ (.Call (.Name "enumerate" _) [_] [] _) _ _ _); refine wi_enum T.b_enumerate (h := ?_))
  | ((with_reducible show DL.WI _ _ (.Call (.Name "zip" _) [_, _] [] _) _ _ _); refine wi_zip T.b_zip (h := ?_))
  | ((with_reducible show DL.WI _ _ (.Call _ _ _ _) _ _ _); refine wi_lst ?_))
/- one step -/
set_option hygiene false in
local macro_rules | `(tactic| walk_at "dl") => `(tactic| first
  | ((with_reducible show DL.WE _ _ _ _ _); walk_at "E")
  | ((with_reducible show DL.WSs _ _ _ _ _); first | refine wss_cons ?_ | refine wss_nil ?_)
  | ((with_reducible show DL.WS _ _ _ _ _); walk_at "S")
  | ((with_reducible show DL.WA _ _ _ _ _); first | refine wa_cons (h := ?_) | refine wa_nil ?_)
  | ((with_reducible show DL.WO _ _ _ _ _ _); walk_at "O")
  | ((with_reducible show DL.WT _ _ _ _ _); walk_at "T")
  | ((with_reducible show DL.WW _ _ _ _ _); first | refine ww_and ?_ | refine ww_or ?_ | refine ww_and1 ?_ | refine ww_or1 ?_)
  | ((with_reducible show DL.WC _ _ _ _ _); walk_at "C")
  | ((with_reducible show DL.WIx _ _ _ _ _); walk_at "Ix")
  | ((with_reducible show DL.WM _ _ _ _ _ _); walk_at "M")
  | ((with_reducible show DL.WU _ _ _ _ _); refine wu_neg ?_)
  | ((with_reducible show DL.WGi _ _ (.Name _ _) _ _ _ _); walk_at "gnm")
  | ((with_reducible show DL.WGi _ _ _ _ _ _ _); refine wg_tup _ (h := ?_))
  | ((with_reducible show DL.WGs _ _ _ _ _ _ _); first | refine wgs_cons (h := ?_) | refine wgs_nil ?_)
  | ((with_reducible show DL.WI _ _ _ _ _ _); walk_at "I")
  | ((with_reducible show DL.WTs _ _ _ _ _); first | refine wts_one ?_ | refine wts_nil ?_)
  | ((with_reducible show DL.WP _ _ _ _ _); first | refine wp_none ?_ | refine wp_some ?_)
  | ((with_reducible show DL.WSl _ _ _ _ _ _); first | refine wsl_tup ?_ | refine wsl_lst ?_ | refine wsl_loc (by walk_at "mem") ?_)
  | ((with_reducible show _ = true → DL.WE _ _ _ _ _); intro hk)
  | ((with_reducible show (_ = _ → _) ∧ (_ = _ → _)); walk_at "if")
  | ((with_reducible refine ⟨_, ixN_nat ?_ ?_, ?_⟩); (focus omega); (focus first | omega | (simp only [List.length_map, List.length_set, List.length_append] at *; omega)))
  | refine ⟨_, rfl, ?_⟩
  | refine ⟨szb rfl, ?_⟩
  | refine ⟨.inl _, rfl, ?_⟩
  | refine ⟨.inr _, rfl, ?_⟩
  | refine ⟨_, .inl (by walk_at "mem"), ?_⟩
  | refine ⟨_, .inr ⟨_, _, by walk_at "mem"⟩, ?_⟩
  | refine ⟨_, .inr ⟨_, rfl, by walk_at "mem"⟩, ?_⟩
  | refine ⟨_, .inl rfl, ?_⟩
  | refine ⟨_, .inr (.inl rfl), ?_⟩
  | refine ⟨_, .inr rfl, ?_⟩
  | ((with_reducible show _ ∧ _); refine ⟨by walk_at "pre", ?_⟩)
  | refine ⟨_, by walk_at "mem", ?_⟩
  | refine ⟨_, _, rfl, ?_⟩
  | refine ⟨_, _, _, rfl, ?_⟩
  | refine ⟨_, _, _, _, rfl, ?_⟩
  | refine ⟨_, _, _, _, _, rfl, ?_⟩
  | refine ⟨_, _, _, _, _, _, rfl, ?_⟩
  | refine ⟨_, _, _, _, _, _, _, rfl, ?_⟩
  | ((with_reducible show (_ : Mem) = _); rfl)
  | fail "stuck")
/- one step, within a statement -/
set_option hygiene false in
local macro_rules | `(tactic| walk_at "dlE") => `(tactic| first
  | ((with_reducible show DL.WE _ _ _ _ _); walk_at "E")
  | ((with_reducible show DL.WS _ _ _ _ _); walk_at "S")
  | ((with_reducible show DL.WA _ _ _ _ _); first | refine wa_cons (h := ?_) | refine wa_nil ?_)
  | ((with_reducible show DL.WO _ _ _ _ _ _); walk_at "O")
  | ((with_reducible show DL.WT _ _ _ _ _); walk_at "T")
  | ((with_reducible show DL.WW _ _ _ _ _); first | refine ww_and ?_ | refine ww_or ?_ | refine ww_and1 ?_ | refine ww_or1 ?_)
  | ((with_reducible show DL.WC _ _ _ _ _); walk_at "C")
  | ((with_reducible show DL.WIx _ _ _ _ _); walk_at "Ix")
  | ((with_reducible show DL.WM _ _ _ _ _ _); walk_at "M")
  | ((with_reducible show DL.WU _ _ _ _ _); refine wu_neg ?_)
  | ((with_reducible show DL.WGi _ _ (.Name _ _) _ _ _ _); walk_at "gnm")
  | ((with_reducible show DL.WGi _ _ _ _ _ _ _); refine wg_tup _ (h := ?_))
  | ((with_reducible show DL.WGs _ _ _ _ _ _ _); first | refine wgs_cons (h := ?_) | refine wgs_nil ?_)
  | ((with_reducible show DL.WI _ _ _ _ _ _); walk_at "I")
  | ((with_reducible show DL.WTs _ _ _ _ _); first | refine wts_one ?_ | refine wts_nil ?_)
  | ((with_reducible show DL.WP _ _ _ _ _); first | refine wp_none ?_ | refine wp_some ?_)
  | ((with_reducible show DL.WSl _ _ _ _ _ _); first | refine wsl_tup ?_ | refine wsl_lst ?_ | refine wsl_loc (by walk_at "mem") ?_)
  | ((with_reducible show _ = true → DL.WE _ _ _ _ _); intro hk)
  | ((with_reducible show (_ = _ → _) ∧ (_ = _ → _)); walk_at "if")
  | ((with_reducible refine ⟨_, ixN_nat ?_ ?_, ?_⟩); (focus omega); (focus first | omega | (simp only [List.length_map, List.length_set, List.length_append] at *; omega)))
  | refine ⟨_, rfl, ?_⟩
  | refine ⟨szb rfl, ?_⟩
  | refine ⟨.inl _, rfl, ?_⟩
  | refine ⟨.inr _, rfl, ?_⟩
  | refine ⟨_, .inl (by walk_at "mem"), ?_⟩
  | refine ⟨_, .inr ⟨_, _, by walk_at "mem"⟩, ?_⟩
  | refine ⟨_, .inr ⟨_, rfl, by walk_at "mem"⟩, ?_⟩
  | refine ⟨_, .inl rfl, ?_⟩
  | refine ⟨_, .inr (.inl rfl), ?_⟩
  | refine ⟨_, .inr rfl, ?_⟩
  | ((with_reducible show _ ∧ _); refine ⟨by walk_at "pre", ?_⟩)
  | refine ⟨_, by walk_at "mem", ?_⟩
  | refine ⟨_, _, rfl, ?_⟩
  | refine ⟨_, _, _, rfl, ?_⟩
  | refine ⟨_, _, _, _, rfl, ?_⟩
  | refine ⟨_, _, _, _, _, rfl, ?_⟩
  | refine ⟨_, _, _, _, _, _, rfl, ?_⟩
  | refine ⟨_, _, _, _, _, _, _, rfl, ?_⟩
  | ((with_reducible show (_ : Mem) = _); rfl)
  | fail "stuck")
set_option hygiene false in
local macro_rules | `(tactic| walk_at "goE") => `(tactic| repeat' walk_at "dlE")
set_option hygiene false in
local macro_rules | `(tactic| walk_at "go") => `(tactic| repeat' walk_at "dl")
set_option hygiene false in
local macro_rules | `(tactic| walk_at "nx") => `(tactic| ((try rw [Mem.upd_upd]); walk_at "go"))
set_option hygiene false in
local macro_rules | `(tactic| walk_at "call") => `(tactic| ((with_reducible show DL.WE _ (.Call (.Name "_law_begin" _) _ [] _) _ _ _); refine we_call (ok_begin T) (h := ?_)))
set_option hygiene false in
local macro_rules | `(tactic| walk_at "call") => `(tactic| ((with_reducible show DL.WE _ (.Call (.Name "_law_draw" _) _ [] _) _ _ _); refine we_call (ok_draw T) (h := ?_)))
set_option hygiene false in
local macro_rules | `(tactic| walk_at "call") => `(tactic| ((with_reducible show DL.WE _ (.Call (.Name "_law_pick" _) _ [] _) _ _ _); refine we_call (ok_pick T) (h := ?_)))
set_option hygiene false in
local macro_rules | `(tactic| walk_at "call") => `(tactic| ((with_reducible show DL.WE _ (.Call (.Name "_law_is_int" _) _ [] _) _ _ _); refine we_call (ok_is_int T) (h := ?_)))
set_option hygiene false in
local macro_rules | `(tactic| walk_at "call") => `(tactic| ((with_reducible show DL.WE _ (.Call (.Name "_law_is_ints" _) _ [] _) _ _ _); refine we_call (ok_is_ints T) (h := ?_)))
set_option hygiene false in
local macro_rules | `(tactic| walk_at "call") => `(tactic| ((with_reducible show DL.WE _ (.Call (.Name "is_whole" _) _ [] _) _ _ _); refine we_call (ok_is_whole T) (h := ?_)))
set_option hygiene false in
local macro_rules | `(tactic| walk_at "call") => `(tactic| ((with_reducible show DL.WE _ (.Call (.Name "allowed_at" _) _ [] _) _ _ _); refine we_call (ok_allowed_at T) (h := ?_)))
set_option hygiene false in
local macro_rules | `(tactic| walk_at "call") => `(tactic| ((with_reducible show DL.WE _ (.Call (.Name "reach_of" _) _ [] _) _ _ _); refine we_call (ok_reach_of T) (h := ?_)))
set_option hygiene false in
local macro_rules | `(tactic| walk_at "call") => `(tactic| ((with_reducible show DL.WE _ (.Call (.Name "fewest_tellings" _) _ [] _) _ _ _); refine we_call (ok_fewest_tellings T) (h := ?_)))
def sp_is_right_plan : DSp := fun ds μ Q => ∃ (vs : List Int) (s : Nat) (ts : Tl), ds = [.tup (iD vs), .int s, .tup (ts.map pr)] ∧ vs.length ≤ 300 ∧ ts.length ≤ 1000 ∧ ∀ b : Bool, (b = true ↔ PlanP vs s ts) → Q (.bl b) μ
theorem sc_is_right_plan : FnScope ["given", "slack", "tellings", "pair", "ends", "end"] ["given", "slack", "tellings"] (defScope s_is_right_plan) := ⟨rfl, rfl, rfl, by decide +kernel, rfl, by decide +kernel, by decide +kernel⟩
section
set_option hygiene false in
local macro_rules | `(tactic| walk_at "nm") => `(tactic| first | ((with_reducible show DL.WE _ (.Name "given" _) _ _ _); refine we_name 0 (q := ?_)) | ((with_reducible show DL.WE _ (.Name "slack" _) _ _ _); refine we_name 1 (q := ?_)) | ((with_reducible show DL.WE _ (.Name "tellings" _) _ _ _); refine we_name 2 (q := ?_)) | ((with_reducible show DL.WE _ (.Name "pair" _) _ _ _); refine we_name 3 (q := ?_)) | ((with_reducible show DL.WE _ (.Name "ends" _) _ _ _); refine we_name 4 (q := ?_)) | ((with_reducible show DL.WE _ (.Name "end" _) _ _ _); refine we_name 5 (q := ?_)))
set_option hygiene false in
local macro_rules | `(tactic| walk_at "set") => `(tactic| first | ((with_reducible show DL.WS _ (.Assign [.Name "given" _] _ _) _ _ _); refine ws_set 0 (h := ?_)) | ((with_reducible show DL.WS _ (.Assign [.Name "slack" _] _ _) _ _ _); refine ws_set 1 (h := ?_)) | ((with_reducible show DL.WS _ (.Assign [.Name "tellings" _] _ _) _ _ _); refine ws_set 2 (h := ?_)) | ((with_reducible show DL.WS _ (.Assign [.Name "pair" _] _ _) _ _ _); refine ws_set 3 (h := ?_)) | ((with_reducible show DL.WS _ (.Assign [.Name "ends" _] _ _) _ _ _); refine ws_set 4 (h := ?_)) | ((with_reducible show DL.WS _ (.Assign [.Name "end" _] _ _) _ _ _); refine ws_set 5 (h := ?_)))
set_option hygiene false in
local macro_rules | `(tactic| walk_at "gnm") => `(tactic| first | ((with_reducible show DL.WGi _ _ (.Name "given" _) _ _ _ _); refine wg_name 0 (q := ?_)) | ((with_reducible show DL.WGi _ _ (.Name "slack" _) _ _ _ _); refine wg_name 1 (q := ?_)) | ((with_reducible show DL.WGi _ _ (.Name "tellings" _) _ _ _ _); refine wg_name 2 (q := ?_)) | ((with_reducible show DL.WGi _ _ (.Name "pair" _) _ _ _ _); refine wg_name 3 (q := ?_)) | ((with_reducible show DL.WGi _ _ (.Name "ends" _) _ _ _ _); refine wg_name 4 (q := ?_)) | ((with_reducible show DL.WGi _ _ (.Name "end" _) _ _ _ _); refine wg_name 5 (q := ?_)))
set_option hygiene false in
local macro_rules | `(tactic| walk_at "E") => `(tactic| first | ((with_reducible show DL.WE _ (.ListComp _ _ _ ⟨27, 11, 27, 45⟩) _ _ _); refine we_lc [("pair", 3)] (h := ?_)) | ((with_reducible show DL.WE _ (.ListComp _ _ _ ⟨23, 37, 23, 102⟩) _ _ _); refine we_lc [("pair", 3)] (h := ?_)) | ((with_reducible show DL.WE _ (.ListComp _ _ _ ⟨25, 15, 25, 55⟩) _ _ _); refine we_lc [("pair", 3)] (h := ?_)))
set_option hygiene false in
local macro_rules | `(tactic| walk_at "I") => `(tactic| first | ((with_reducible show DL.WI _ _ (.Name "tellings" _) _ _ _); first | refine wi_name 2 (s := .inl rfl) (h := ?_) | refine wi_name 2 (s := .inr rfl) (h := ?_)))
set_option maxHeartbeats 1000000 in
theorem ok_is_right_plan (T : Txt K mg) : FnD P w K mg base 2 "is_right_plan" sp_is_right_plan := by
  refine TF.ok 1 T.f_is_right_plan sc_is_right_plan (fun ds μ Q ⟨_, _, _, h, _⟩ => by rw [h]; rfl) fun ds μ Q h => ?_
  obtain ⟨vs, s, ts, rfl, hv, ht, q⟩ := h
  have no : ∀ P : Prop, ¬ P → (false = true ↔ P) := fun P h => ⟨fun z => (nomatch z), fun z => absurd z h⟩
  walk_at "go"
  · refine LcHyp.mp ts pr (fun _ => .bl true) [3] (by simp) (sz1000 ht) (fun v i hv => ?_) ?_
    · walk_at "go"
    · walk_at "go"
      refine LcHyp.mp ts pr (fun _ => .bl true) [3] (by simp) (sz1000 ht) (fun v i hv => ?_) ?_
      · walk_at "go"
      · walk_at "go"
        · refine q _ (no _ fun h => ?_)
          obtain ⟨⟨v, h⟩, -⟩ := h
          obtain ⟨h1, h2⟩ := List.getElem?_eq_some_iff.mp h
          exact hk (by show (ts[0]).1 = 0; rw [h2])
        have h0 : ∃ v, ts[0]? = some (0, v) := ⟨(ts[0]'(by omega)).2, by rw [List.getElem?_eq_getElem (by omega)]; congr 1; exact Prod.ext hk rfl⟩
        clear hk
        refine wi_tup ?_
        walk_at "go"
        rw [cutD_map, cut_from1]
        have hd := List.length_drop (i := 1) (l := ts)
        refine LcHyp.mp (ts.drop 1) pr (fun q => .int q.1) [3] (by simp) (sz1000 (by omega)) (fun v i hv => ?_) ?_
        · walk_at "go"
        · walk_at "go"
          have ee : ((ts.drop 1).map fun q => D.int q.1) ++ [D.int vs.length] = iD ((ts.map (·.1)).drop 1 ++ [(vs.length : Int)]) := by
            rw [← List.map_drop]; simp [Function.comp_def]
          rw [ee]
          have hz : (zipD (ts.map pr) (iD ((ts.map (·.1)).drop 1 ++ [(vs.length : Int)]))).length = ts.length := by
            rw [zipD_length]; simp; omega
          refine ⟨[3] ++ ([5] ++ []), fun i ρ' μ' => ∃ o1 o2 : Option D, μ = μ' ∧ ρ' = [some (.tup (iD vs)), some (.int s), some (.tup (ts.map pr)), o1, some (.lst (iD ((ts.map (·.1)).drop 1 ++ [(vs.length : Int)]))), o2] ∧ ∀ j m v, j < i → ts[j]? = some (m, v) → okI vs s ts j m v, ⟨none, none, rfl, rfl, fun j m v h => by omega⟩, ?_, ?_⟩
          · rintro i d ρ' μ' hd ⟨o1, o2, rfl, rfl, hI⟩
            obtain ⟨x, y, hx, hy, rfl⟩ := zipD_get hd
            rw [List.getElem?_map] at hx hy
            obtain ⟨⟨m, v⟩, hx1, rfl⟩ := Option.map_eq_some_iff.mp hx
            obtain ⟨e, hy1, rfl⟩ := Option.map_eq_some_iff.mp hy
            have he : endI vs.length ts i = e := by unfold endI; rw [List.getD_eq_getElem?_getD, hy1]; rfl
            have bad : ¬ okI vs s ts i m v → Q (.bl false) μ := fun h => q _ (no _ fun ⟨_, h2⟩ => h (h2 i m v hx1))
            walk_at "go"
            · exact bad fun h => by have := h.2.2.1; omega
            · dsimp only at hk; exact bad fun h => by have := h.2.2.2; omega
            · dsimp only at hk
              refine ⟨_, _, rfl, rfl, fun j m' v' hj hj' => ?_⟩
              by_cases z : j = i
              · subst z
                rw [hx1] at hj'; cases hj'
                exact ⟨by assumption, by omega, by omega, by omega⟩
              · exact hI j m' v' (by omega) hj'
            · exact bad fun h => by have := h.2.1; simp at hk; omega
            · exact bad fun h => by have := h.1; simp at hk; omega
          · rintro ρ' μ' ⟨o1, o2, rfl, rfl, hI⟩
            rw [hz] at hI
            walk_at "go"
            refine q _ ⟨fun _ => ⟨h0, fun i m v h => hI i m v (List.getElem?_eq_some_iff.mp h).1 h⟩, fun _ => rfl⟩
  · refine q _ (no _ fun h => ?_)
    obtain ⟨⟨v, h⟩, -⟩ := h
    have := (List.getElem?_eq_some_iff.mp h).1
    omega
end
set_option hygiene false in
local macro_rules | `(tactic| walk_at "call") => `(tactic| ((with_reducible show DL.WE _ (.Call (.Name "is_right_plan" _) _ [] _) _ _ _); refine we_call (ok_is_right_plan T) (h := ?_)))
theorem getI {bs : List Int} {i : Nat} {b : Int} (h : bs[i]? = some b) : bs.getD i 0 = b := by rw [List.getD_eq_getElem?_getD, h]; rfl
theorem getI' {bs : List Int} {i : Nat} (h : i < bs.length) : bs[i]? = some (bs.getD i 0) := by rw [List.getD_eq_getElem?_getD, List.getElem?_eq_getElem h]; rfl
theorem asc_ints {bs : List Int} (h : ∀ i, i + 1 < bs.length → bs.getD i 0 < bs.getD (i + 1) 0) : bs.Pairwise (· < ·) := by
  have := asc_of_steps (ts := bs.map fun b => (b, (0 : Int))) fun i m v m' v' h1 h2 => by
    rw [List.getElem?_map] at h1 h2
    obtain ⟨x, hx, e⟩ := Option.map_eq_some_iff.mp h1
    obtain ⟨y, hy, e'⟩ := Option.map_eq_some_iff.mp h2
    cases e; cases e'
    have := h i (List.getElem?_eq_some_iff.mp hy).1
    rwa [getI hx, getI hy] at this
  rwa [List.map_map, show ((fun x : Int × Int => x.1) ∘ fun b : Int => (b, (0 : Int))) = id from rfl, List.map_id] at this
def sp_are_right_bars : DSp := fun ds μ Q => ∃ (vs : List Int) (s : Nat) (bs : List Int), ds = [.tup (iD vs), .int s, .tup (iD bs)] ∧ vs.length ≤ 300 ∧ bs.length ≤ 1000 ∧ ∀ b : Bool, (b = true ↔ BarsL vs s bs) → Q (.bl b) μ
theorem sc_are_right_bars : FnScope ["given", "slack", "bars", "bar", "at", "low", "high", "value"] ["given", "slack", "bars"] (defScope s_are_right_bars) := ⟨rfl, rfl, rfl, by decide +kernel, rfl, by decide +kernel, by decide +kernel⟩
section
set_option hygiene false in
local macro_rules | `(tactic| walk_at "nm") => `(tactic| first | ((with_reducible show DL.WE _ (.Name "given" _) _ _ _); refine we_name 0 (q := ?_)) | ((with_reducible show DL.WE _ (.Name "slack" _) _ _ _); refine we_name 1 (q := ?_)) | ((with_reducible show DL.WE _ (.Name "bars" _) _ _ _); refine we_name 2 (q := ?_)) | ((with_reducible show DL.WE _ (.Name "bar" _) _ _ _); refine we_name 3 (q := ?_)) | ((with_reducible show DL.WE _ (.Name "at" _) _ _ _); refine we_name 4 (q := ?_)) | ((with_reducible show DL.WE _ (.Name "low" _) _ _ _); refine we_name 5 (q := ?_)) | ((with_reducible show DL.WE _ (.Name "high" _) _ _ _); refine we_name 6 (q := ?_)) | ((with_reducible show DL.WE _ (.Name "value" _) _ _ _); refine we_name 7 (q := ?_)))
set_option hygiene false in
local macro_rules | `(tactic| walk_at "set") => `(tactic| first | ((with_reducible show DL.WS _ (.Assign [.Name "given" _] _ _) _ _ _); refine ws_set 0 (h := ?_)) | ((with_reducible show DL.WS _ (.Assign [.Name "slack" _] _ _) _ _ _); refine ws_set 1 (h := ?_)) | ((with_reducible show DL.WS _ (.Assign [.Name "bars" _] _ _) _ _ _); refine ws_set 2 (h := ?_)) | ((with_reducible show DL.WS _ (.Assign [.Name "bar" _] _ _) _ _ _); refine ws_set 3 (h := ?_)) | ((with_reducible show DL.WS _ (.Assign [.Name "at" _] _ _) _ _ _); refine ws_set 4 (h := ?_)) | ((with_reducible show DL.WS _ (.Assign [.Name "low" _] _ _) _ _ _); refine ws_set 5 (h := ?_)) | ((with_reducible show DL.WS _ (.Assign [.Name "high" _] _ _) _ _ _); refine ws_set 6 (h := ?_)) | ((with_reducible show DL.WS _ (.Assign [.Name "value" _] _ _) _ _ _); refine ws_set 7 (h := ?_)))
set_option hygiene false in
local macro_rules | `(tactic| walk_at "gnm") => `(tactic| first | ((with_reducible show DL.WGi _ _ (.Name "given" _) _ _ _ _); refine wg_name 0 (q := ?_)) | ((with_reducible show DL.WGi _ _ (.Name "slack" _) _ _ _ _); refine wg_name 1 (q := ?_)) | ((with_reducible show DL.WGi _ _ (.Name "bars" _) _ _ _ _); refine wg_name 2 (q := ?_)) | ((with_reducible show DL.WGi _ _ (.Name "bar" _) _ _ _ _); refine wg_name 3 (q := ?_)) | ((with_reducible show DL.WGi _ _ (.Name "at" _) _ _ _ _); refine wg_name 4 (q := ?_)) | ((with_reducible show DL.WGi _ _ (.Name "low" _) _ _ _ _); refine wg_name 5 (q := ?_)) | ((with_reducible show DL.WGi _ _ (.Name "high" _) _ _ _ _); refine wg_name 6 (q := ?_)) | ((with_reducible show DL.WGi _ _ (.Name "value" _) _ _ _ _); refine wg_name 7 (q := ?_)))
set_option hygiene false in
local macro_rules | `(tactic| walk_at "E") => `(tactic| first | ((with_reducible show DL.WE _ (.ListComp _ _ _ ⟨35, 33, 35, 64⟩) _ _ _); refine we_lc [("bar", 3)] (h := ?_)) | ((with_reducible show DL.WE _ (.ListComp _ _ _ ⟨37, 15, 37, 71⟩) _ _ _); refine we_lc [("at", 4)] (h := ?_)) | ((with_reducible show DL.WE _ (.ListComp _ _ _ ⟨40, 19, 40, 106⟩) _ _ _); refine we_lc [("value", 7)] (h := ?_)))
set_option hygiene false in
local macro_rules | `(tactic| walk_at "I") => `(tactic| first | ((with_reducible show DL.WI _ _ (.Name "bars" _) _ _ _); first | refine wi_name 2 (s := .inl rfl) (h := ?_) | refine wi_name 2 (s := .inr rfl) (h := ?_)))
set_option maxHeartbeats 1000000 in
theorem ok_are_right_bars (T : Txt K mg) : FnD P w K mg base 2 "are_right_bars" sp_are_right_bars := by
  refine TF.ok 1 T.f_are_right_bars sc_are_right_bars (fun ds μ Q ⟨_, _, _, h, _⟩ => by rw [h]; rfl) fun ds μ Q h => ?_
  obtain ⟨vs, s, bs, rfl, hv, hb, q⟩ := h
  have bad : ¬ BarsL vs s bs → Q (.bl false) μ := fun h => q _ ⟨fun z => (nomatch z), fun z => absurd z h⟩
  walk_at "go"
  · refine LcHyp.mp bs D.int (fun _ => .bl true) [3] (by simp) (sz1000 hb) (fun v i hv => ?_) ?_
    · walk_at "go"
    walk_at "go"
    · exact bad fun h => hk (getI h.1)
    have h0 : bs[0]? = some 0 := by rw [getI' (by omega)]; exact congrArg some hk
    clear hk
    rw [show ((bs.length : Int) - 1).toNat = bs.length - 1 by omega]
    refine LcHyp.mp (List.range (bs.length - 1)) (fun i : Nat => .int (0 + (i : Int))) (fun i => .bl (decide (bs.getD i 0 < bs.getD (i + 1) 0))) [4] (by simp) (sz1000 (by simp; omega)) (fun v i hv => ?_) ?_
    · have hl : v < bs.length - 1 := List.mem_range.mp (List.mem_of_getElem? hv)
      walk_at "go"
    walk_at "go"
    · refine bad fun h => ?_
      have := h.2.2.1 _ (by rw [List.getLast?_eq_getElem?]; exact getI' (by omega))
      omega
    · have asc : ∀ i, i + 1 < bs.length → bs.getD i 0 < bs.getD (i + 1) 0 := fun i hi => by
        have hall : ((List.range (bs.length - 1)).all fun i => decide (bs.getD i 0 < bs.getD (i + 1) 0)) = true := by assumption
        exact of_decide_eq_true (List.all_eq_true.mp hall i (List.mem_range.mpr (by omega)))
      rw [cutD_map, cutD_map, cut_init, cut_from1]
      have hlast : bs.getLast? = some (bs.getD (bs.length - 1) 0) := by rw [List.getLast?_eq_getElem?]; exact getI' (by omega)
      have hz : (zipD (bs.dropLast.map D.int) ((bs.drop 1).map D.int)).length = bs.length - 1 := by rw [zipD_length]; simp
      refine ⟨[5] ++ ([6] ++ []), fun i ρ' μ' => ∃ o1 o2 o3 o4 o5 : Option D, μ = μ' ∧ ρ' = [some (.tup (iD vs)), some (.int s), some (.tup (iD bs)), o1, o2, o3, o4, o5] ∧ ∀ j, j < i → j + 1 < bs.length → (best vs s (bs.getD j 0).toNat : Int) ≤ bs.getD (j + 1) 0, ⟨none, none, none, none, none, rfl, rfl, fun j h => by omega⟩, ?_, ?_⟩
      · rintro i d ρ' μ' hd ⟨o1, o2, o3, o4, o5, rfl, rfl, hI⟩
        have hi : i < bs.length - 1 := by
          have := (List.getElem?_eq_some_iff.mp hd).1
          rwa [hz] at this
        obtain ⟨x, y, hx, hy, rfl⟩ := zipD_get hd
        rw [List.getElem?_map, List.getElem?_dropLast, if_pos (by omega), getI' (by omega)] at hx
        rw [List.getElem?_map, List.getElem?_drop, getI' (by omega), Nat.add_comm] at hy
        obtain rfl := Option.some.inj hx
        obtain rfl := Option.some.inj hy
        have h0i : 0 ≤ bs.getD i 0 := by
          have : ∀ k, k < bs.length → 0 ≤ bs.getD k 0 := by
            intro k
            induction k with
            | zero => intro _; rw [getI h0]; exact Int.le_refl _
            | succ k ih => intro h; have := ih (by omega); have := asc k h; omega
          exact this i (by omega)
        have hlt : (bs.getD i 0).toNat < vs.length := by
          have : ∀ k, k < bs.length → bs.getD k 0 < vs.length := by
            intro k hk'
            have : ∀ d, k + d + 1 = bs.length → bs.getD k 0 ≤ bs.getD (bs.length - 1) 0 := by
              intro d
              induction d generalizing k with
              | zero => intro h; rw [show k = bs.length - 1 by omega]; exact Int.le_refl _
              | succ d ih => intro h; have := ih (k + 1) (by omega) (by omega); have := asc k (by omega); omega
            have := this (bs.length - 1 - k) (by omega)
            omega
          have := this i (by omega); omega
        walk_at "go"
        refine LcHyp.mp (sdd (win vs s (bs.getD i 0).toNat)) D.int (fun v => .bl (decide ((reach vs s (bs.getD i 0).toNat v : Int) ≤ bs.getD (i + 1) 0))) [7] (by simp) (sz1000 (by have := sdd_len (win vs s (bs.getD i 0).toNat); have := (win_len (vs := vs) (s := s) (m := (bs.getD i 0).toNat)).2; omega)) (fun v j hv => ?_) ?_
        · walk_at "go"
        walk_at "go"
        · refine bad fun h => ?_
          rw [List.all_eq_false] at hk
          obtain ⟨v, hv, hn⟩ := hk
          refine hn (decide_eq_true ?_)
          have := h.2.2.2 i _ _ (getI' (by omega)) (getI' (by omega))
          have := best_ge (mem_sdd.mp hv)
          omega
        · refine ⟨_, _, _, _, _, rfl, rfl, fun j hj hj2 => ?_⟩
          by_cases z : j = i
          · subst z
            obtain ⟨v, hv, e⟩ := best_at (s := s) hlt
            rw [e]
            exact of_decide_eq_true (List.all_eq_true.mp hk v (mem_sdd.mpr hv))
          · exact hI j (by omega) hj2
      · rintro ρ' μ' ⟨o1, o2, o3, o4, o5, rfl, rfl, hI⟩
        rw [hz] at hI
        walk_at "go"
        refine q _ ⟨fun _ => ⟨h0, asc_ints asc, fun b hb => ?_, fun i b b' h1 h2 => ?_⟩, fun _ => rfl⟩
        · rw [hlast] at hb; cases hb; omega
        · have hl := (List.getElem?_eq_some_iff.mp h2).1
          have := hI i (by omega) hl
          rwa [getI h1, getI h2] at this
    · refine bad fun h => ?_
      rw [List.all_eq_false] at hk
      obtain ⟨i, hi, hn⟩ := hk
      have hl := List.mem_range.mp hi
      refine hn (decide_eq_true ?_)
      have := List.pairwise_iff_getElem.mp h.2.1 i (i + 1) (by omega) (by omega) (by omega)
      rwa [← getI (List.getElem?_eq_getElem _), ← getI (List.getElem?_eq_getElem _)] at this
  · exact bad fun h => by
      have := (List.getElem?_eq_some_iff.mp h.1).1
      omega
end
set_option hygiene false in
local macro_rules | `(tactic| walk_at "call") => `(tactic| ((with_reducible show DL.WE _ (.Call (.Name "are_right_bars" _) _ [] _) _ _ _); refine we_call (ok_are_right_bars T) (h := ?_)))
end K80
namespace K80
open PySem L2 DL Tell
variable {P : Program} {w : World} {K : PySem.W.Frag} {mg : Str → Option Value} {base : Heap}
set_option hygiene false in
local macro_rules | `(tactic| walk_at "side") => `(tactic| first
  | (with_reducible assumption)
  | rfl
  | omega
  | decide
  | exact ⟨by omega, by omega⟩
  | exact ⟨by decide, by decide⟩
  | exact .inl ⟨by decide, by decide⟩
  | exact .inr ⟨by decide, by decide⟩
  | exact .inl ⟨by omega, by omega⟩
  | exact .inr ⟨by omega, by omega⟩
  | exact ⟨by decide, by decide, by decide⟩
  | exact szb rfl
  | fail "side")
set_option hygiene false in
local macro_rules | `(tactic| walk_at "ne") => `(tactic| first
  | assumption
  | exact Ne.symm (by assumption)
  | exact ne_fresh (by assumption) (by assumption)
  | exact Ne.symm (ne_fresh (by assumption) (by assumption)))
/- what stands at an address -/
set_option hygiene false in
local macro_rules | `(tactic| walk_at "mem") => `(tactic| first
  | assumption
  | exact Mem.upd_same
  | exact (Mem.upd_ne (by walk_at "ne")).trans (by walk_at "mem"))
/- an item of a list -/
set_option hygiene false in
local macro_rules | `(tactic| walk_at "at") => `(tactic| first
  | rfl
  | exact atI_getI (by omega) (by omega)
  | exact atI_lastI (by first | omega | (simp only [List.length_map] at *; omega))
  | exact atI_lastM _ (by assumption)
  | exact atI_mapI _ (by omega) (by assumption)
  | exact atI_mapN _ (by assumption)
  | exact atI_get _ (by first | omega | (simp only [List.length_map, List.length_set] at *; omega)) (by first | omega | (simp only [List.length_map, List.length_set] at *; omega)))
/- tests that are decided or split -/
set_option hygiene false in
local macro_rules | `(tactic| walk_at "if") => `(tactic| first
  | refine if_tt ?_
  | refine if_ff ?_
  | refine if_f_tt ?_
  | refine if_f_ff ?_
  | (refine if_dec (fun hk => ?_) (fun hk => ?_))
  | (refine if_ndec (fun hk => ?_) (fun hk => ?_))
  | (refine if_f_dec (fun hk => ?_) (fun hk => ?_))
  | (refine if_f_ndec (fun hk => ?_) (fun hk => ?_))
  | (refine if_nb (fun hk => ?_) (fun hk => ?_))
  | (refine if_f_nb (fun hk => ?_) (fun hk => ?_))
  | (refine And.intro (fun hk => ?_) (fun hk => ?_)))
set_option hygiene false in
local macro_rules | `(tactic| walk_at "call") => `(tactic| first
  | ((with_reducible show DL.WE _ (.Call (.Name "len" _) _ [] _) _ _ _); refine we_callB bt_len T.b_len (h := ?_))
  | ((with_reducible show DL.WE _ (.Call (.Name "abs" _) _ [] _) _ _ _); refine we_callB bt_abs T.b_abs (h := ?_))
  | ((with_reducible show DL.WE _ (.Call (.Name "min" _) _ [] _) _ _ _); refine we_callB bt_min T.b_min (h := ?_))
  | ((with_reducible show DL.WE _ (.Call (.Name "max" _) _ [] _) _ _ _); refine we_callB bt_max T.b_max (h := ?_))
  | ((with_reducible show DL.WE _ (.Call (.Name "sum" _) _ [] _) _ _ _); refine we_callB bt_sum T.b_sum (h := ?_))
  | ((with_reducible show DL.WE _ (.Call (.Name "all" _) _ [] _) _ _ _); refine we_callB bt_all T.b_all (h := ?_))
  | ((with_reducible show DL.WE _ (.Call (.Name "any" _) _ [] _) _ _ _); refine we_callB bt_any T.b_any (h := ?_))
  | ((with_reducible show DL.WE _ (.Call (.Name "sorted" _) _ [] _) _ _ _); refine we_callB bt_sorted T.b_sorted (h := ?_))
  | ((with_reducible show DL.WE _ (.Call (.Name "isinstance" _) _ [] _) _ _ _); refine we_callB bt_isinstance T.b_isinstance (h := ?_))
  | ((with_reducible show DL.WE _ (.Call (.Name "int" _) _ [] _) _ _ _); refine we_callT bt_int T.b_int (h := ?_))
  | ((with_reducible show DL.WE _ (.Call (.Name "list" _) _ [] _) _ _ _); refine we_callT bt_list T.b_list (h := ?_))
  | ((with_reducible show DL.WE _ (.Call (.Name "tuple" _) _ [] _) _ _ _); refine we_callT bt_tuple T.b_tuple (h := ?_))
  | ((with_reducible show DL.WE _ (.Call (.Name "bool" _) _ [] _) _ _ _); refine we_callT bt_bool T.b_bool (h := ?_))
  | ((with_reducible show DL.WE _ (.Call (.Name "set" _) _ [] _) _ _ _); refine we_callT bt_set T.b_set (h := ?_)))
set_option hygiene false in
local macro_rules | `(tactic| walk_at "ty") => `(tactic| first
  | ((with_reducible show DL.WE _ (.Name "int" _) _ _ _); refine we_type rfl T.b_int bt_int (by decide) (by decide) ?_)
  | ((with_reducible show DL.WE _ (.Name "bool" _) _ _ _); refine we_type rfl T.b_bool bt_bool (by decide) (by decide) ?_)
  | ((with_reducible show DL.WE _ (.Name "tuple" _) _ _ _); refine we_type rfl T.b_tuple bt_tuple (by decide) (by decide) ?_)
  | ((with_reducible show DL.WE _ (.Name "list" _) _ _ _); refine we_type rfl T.b_list bt_list (by decide) (by decide) ?_))
set_option hygiene false in
local macro_rules | `(tactic| walk_at "E") => `(tactic| first
  | ((with_reducible show DL.WE _ (.Name _ _) _ _ _); first | walk_at "nm" | walk_at "ty")
  | ((with_reducible show DL.WE _ (.Constant _ _ _) _ _ _); first | refine we_int ?_ | refine we_str ?_ | refine we_bl ?_ | refine we_non ?_)
  | ((with_reducible show DL.WE _ (.Call (.Name "sorted" _) [.Call (.Name "set" _) [_] [] _] [] _) _ _ _); refine we_sortedSet T.b_sorted T.b_set (h := ?_))
  | ((with_reducible show DL.WE _ (.Call (.Name "list" _) [.Call (.Attribute _ "values" _) [] [] _] [] _) _ _ _); refine we_listVals T.b_list (h := ?_))
  | ((with_reducible show DL.WE _ (.Call (.Name _ _) _ [] _) _ _ _); walk_at "call")
  | ((with_reducible show DL.WE _ (.Call (.Attribute _ "get" _) [_, _] [] _) _ _ _); refine we_dget2A (h := ?_))
  | ((with_reducible show DL.WE _ (.Call (.Attribute _ "append" _) _ [] _) _ _ _); refine we_lmA PySem.F.slot_list_append PySem.F.type_list_append (h := ?_))
  | ((with_reducible show DL.WE _ (.Call (.Attribute _ "extend" _) _ [] _) _ _ _); refine we_lmA PySem.F.slot_list_extend PySem.F.type_list_extend (h := ?_))
  | ((with_reducible show DL.WE _ (.Call (.Attribute _ "pop" _) (_ :: _) [] _) _ _ _); refine we_lmA PySem.F.slot_list_pop PySem.F.type_list_pop (h := ?_))
  | ((with_reducible show DL.WE _ (.BinOp _ _ _ _) _ _ _); refine we_bin ?_)
  | ((with_reducible show DL.WE _ (.Compare _ [_] _ _) _ _ _); refine we_cmp (h := ?_))
  | ((with_reducible show DL.WE _ (.Compare _ [_, _] _ _) _ _ _); refine we_chain (h := ?_))
  | ((with_reducible show DL.WE _ (.Subscript _ (.Slice _ _ none _) _) _ _ _); refine we_slice ?_)
  | ((with_reducible show DL.WE _ (.Subscript _ (.Slice none none _ _) _) _ _ _); first | refine we_revL ?_ | refine we_slice ?_)
  | ((with_reducible show DL.WE _ (.Subscript _ _ _) _ _ _); refine we_sub (h := ?_))
  | ((with_reducible show DL.WE _ (.Tuple _ _ _) _ _ _); refine we_tup ?_)
  | ((with_reducible show DL.WE _ (.UnaryOp .Not _ _) _ _ _); refine we_not ?_)
  | ((with_reducible show DL.WE _ (.UnaryOp _ _ _) _ _ _); refine we_un ?_)
  | ((with_reducible show DL.WE _ (.BoolOp _ [_] _) _ _ _); refine we_one ?_)
  | ((with_reducible show DL.WE _ (.BoolOp .And _ _) _ _ _); refine we_and ?_)
  | ((with_reducible show DL.WE _ (.BoolOp .Or _ _) _ _ _); refine we_or ?_)
  | ((with_reducible show DL.WE _ (.IfExp _ _ _ _) _ _ _); refine we_ifExp ?_)
  | ((with_reducible show DL.WE _ (.List [] _) _ _ _); refine we_lstM (wa_nil ⟨szb rfl, fun p hp => ?_⟩))
  | ((with_reducible show DL.WE _ (.List _ _) _ _ _); refine we_lst ?_)
  | ((with_reducible show DL.WE _ (.Dict [] [] _) _ _ _); refine we_dctM (fun p hp => ?_)))
set_option hygiene false in
local macro_rules | `(tactic| walk_at "S") => `(tactic| first
  | ((with_reducible show DL.WS _ (.Assign [.Name _ _] _ _) _ _ _); walk_at "set")
  | ((with_reducible show DL.WS _ (.Return (some _) _) _ _ _); refine ws_ret' ?_)
  | ((with_reducible show DL.WS _ (.Return _ _) _ _ _); refine ws_retN ?_)
  | ((with_reducible show DL.WS _ (.If _ _ _ _) _ _ _); refine ws_if ?_)
  | ((with_reducible show DL.WS _ (.Expr _ _) _ _ _); refine ws_expr (h := ?_))
  | ((with_reducible show DL.WS _ (.Assign [.Tuple _ _ _] _ _) _ _ _); refine ws_asg (h := ?_))
  | ((with_reducible show DL.WS _ (.Assign [.Subscript _ _ _] _ _) _ _ _); refine ws_putA (h := ?_))
  | ((with_reducible show DL.WS _ (.AugAssign (.Name _ _) _ _ _) _ _ _); walk_at "aug")
  | ((with_reducible show DL.WS _ (.AugAssign (.Subscript _ _ _) .Add _ _) _ _ _); refine ws_augLA (fun _ => ip_add) (h := ?_))
  | ((with_reducible show DL.WS _ (.For _ _ _ [] _) _ _ _); refine ws_for (h := ?_))
  | ((with_reducible show DL.WS _ (.Pass _) _ _ _); refine ws_pass ?_)
  | ((with_reducible show DL.WS _ (.Break _) _ _ _); refine ws_break ?_)
  | ((with_reducible show DL.WS _ (.Continue _) _ _ _); refine ws_cont ?_))
set_option hygiene false in
local macro_rules | `(tactic| walk_at "T") => `(tactic| first
  | ((with_reducible show DL.WT _ (.Compare _ [_] _ _) _ _ _); refine wt_cmp (h := ?_))
  | ((with_reducible show DL.WT _ (.Compare _ [_, _] _ _) _ _ _); refine wt_chain (h := ?_))
  | ((with_reducible show DL.WT _ (.UnaryOp .Not _ _) _ _ _); refine wt_not ?_)
  | ((with_reducible show DL.WT _ (.BoolOp _ _ _) _ _ _); refine wt_ww ?_)
  | refine wt_val (h := ?_))
set_option hygiene false in
local macro_rules | `(tactic| walk_at "O") => `(tactic| first
  | ((with_reducible show DL.WO _ (binaryOp .Add) _ _ _ _); first | refine wo_add ?_ | refine wo_cat (.inl rfl) (.inl rfl) (by walk_at "sz") ?_ | refine wo_cat (.inr ⟨_, rfl, by walk_at "mem"⟩) (.inl rfl) (by walk_at "sz") ?_ | refine wo_catT (by walk_at "sz") ?_)
  | ((with_reducible show DL.WO _ (binaryOp .Sub) _ _ _ _); refine wo_sub ?_)
  | ((with_reducible show DL.WO _ (binaryOp .Mult) _ _ _ _); refine wo_mul (by walk_at "side") ?_)
  | ((with_reducible show DL.WO _ (binaryOp .FloorDiv) _ _ _ _); refine wo_fdiv (by walk_at "side") ?_)
  | ((with_reducible show DL.WO _ (binaryOp .Mod) _ _ _ _); refine wo_mod (by walk_at "side") ?_)
  | ((with_reducible show DL.WO _ (compareOp .Lt) _ _ _ _); refine wo_lt ?_)
  | ((with_reducible show DL.WO _ (compareOp .LtE) _ _ _ _); refine wo_le ?_)
  | ((with_reducible show DL.WO _ (compareOp .Gt) _ _ _ _); refine wo_gt ?_)
  | ((with_reducible show DL.WO _ (compareOp .GtE) _ _ _ _); refine wo_ge ?_)
  | ((with_reducible show DL.WO _ (compareOp .Eq) _ _ _ _); first | refine wo_eqI ?_ | refine wo_eqS ?_ | refine wo_eqB ?_ | refine wo_eqIL ?_ | refine wo_eqIT ?_)
  | ((with_reducible show DL.WO _ (compareOp .NotEq) _ _ _ _); first | refine wo_neI ?_ | refine wo_neS ?_ | refine wo_neB ?_ | refine wo_neIL ?_ | refine wo_neIT ?_)
  | ((with_reducible show DL.WO _ (compareOp .Is) _ _ _ _); first | refine wo_isB ?_ | refine wo_isN true (.inl ⟨rfl, rfl⟩) ?_ | refine wo_isN false (.inr ⟨rfl, fun z => by cases z⟩) ?_)
  | ((with_reducible show DL.WO _ (compareOp .IsNot) _ _ _ _); first | refine wo_isnotB ?_ | refine wo_notN false (.inl ⟨rfl, rfl⟩) ?_ | refine wo_notN true (.inr ⟨rfl, fun z => by cases z⟩) ?_)
  | ((with_reducible show DL.WO _ (compareOp .In) _ _ _ _); first | refine wo_inT ?_ | refine wo_inL ?_)
  | ((with_reducible show DL.WO _ (compareOp .NotIn) _ _ _ _); first | refine wo_notinT ?_ | refine wo_notinL ?_)
  | ((with_reducible show DL.WO _ (binaryOp .Pow) _ _ _ _); refine wo_pow (by walk_at "side") ?_)
  | ((with_reducible show DL.WO _ (binaryOp .LShift) _ _ _ _); refine wo_shl (by walk_at "side") ?_))
set_option hygiene false in
local macro_rules | `(tactic| walk_at "C") => `(tactic| first
  | ((with_reducible show DL.WC _ (.builtin "len") [.tup (List.map _ _)] _ _); refine wc_len_tupM ?_)
  | ((with_reducible show DL.WC _ (.builtin "len") [.lst (List.map _ _)] _ _); refine wc_len_lstM ?_)
  | ((with_reducible show DL.WC _ (.builtin "len") [.loc _] _ _); refine wc_len_loc (by walk_at "mem") ?_)
  | ((with_reducible show DL.WC _ (.builtin "len") _ _ _); first | refine wc_len_tup ?_ | refine wc_len_lst ?_)
  | ((with_reducible show DL.WC _ (.builtin "all") _ _ _); first | refine wc_allT ?_ | refine wc_allM ?_)
  | ((with_reducible show DL.WC _ (.builtin "any") _ _ _); refine wc_anyM ?_)
  | ((with_reducible show DL.WC _ (.type "int") _ _ _); first | refine wc_int ?_ | refine wc_intB ?_)
  | ((with_reducible show DL.WC _ (.builtin "abs") _ _ _); refine wc_abs ?_)
  | ((with_reducible show DL.WC _ (.builtin "max") _ _ _); refine wc_max2 ?_)
  | ((with_reducible show DL.WC _ (.builtin "min") _ _ _); refine wc_min2 ?_)
  | ((with_reducible show DL.WC _ (.type "tuple") _ _ _); first | refine wc_tuple (.inl rfl) ?_ | refine wc_tuple (.inr (.inl rfl)) ?_ | refine wc_tuple (.inr (.inr ⟨_, rfl, by walk_at "mem"⟩)) ?_)
  | ((with_reducible show DL.WC _ (.type "list") _ _ _); first | refine wc_list (.inl rfl) ?_ | refine wc_list (.inr (.inl rfl)) ?_ | refine wc_list (.inr (.inr ⟨_, rfl, by walk_at "mem"⟩)) ?_)
  | ((with_reducible show DL.WC _ (.builtin "isinstance") _ _ _); first | refine wc_isi (k := true) rfl (by decide +kernel) ?_ | refine wc_isi (k := false) rfl (by decide +kernel) ?_))
set_option hygiene false in
local macro_rules | `(tactic| walk_at "Ix") => `(tactic| first
  | ((with_reducible show DL.WIx _ (.loc _) _ _ _); refine wix_loc (by walk_at "mem") (by walk_at "at") ?_)
  | ((with_reducible show DL.WIx _ (.lst _) _ _ _); refine wix_lst (by walk_at "at") ?_)
  | ((with_reducible show DL.WIx _ (.tup _) _ _ _); refine wix_tup (by walk_at "at") ?_)
  | refine wix_tup rfl ?_
  | refine wix_lst rfl ?_)
set_option hygiene false in
local macro_rules | `(tactic| walk_at "M") => `(tactic| first
  | ((with_reducible show DL.WM _ "list.append" _ _ _ _); refine wm_append (by walk_at "mem") (by walk_at "sz") ?_))
set_option hygiene false in
local macro_rules | `(tactic| walk_at "sz") => `(tactic| first
  | exact szb rfl
  | exact szl (by first | omega | (simp only [List.length_map, List.length_append, List.length_cons, List.length_nil, rangeD_length] at *; omega))
  | exact szle (by first | omega | (simp only [List.length_map, List.length_append, List.length_cons, List.length_nil, rangeD_length] at *; omega)))
set_option hygiene false in
local macro_rules | `(tactic| walk_at "pre") => `(tactic| first
  | (with_reducible assumption)
  | ((with_reducible show _ = _); first | rfl | walk_at "mem" | (simp; done))
  | ((with_reducible show _ ∧ _); first | exact ⟨rfl, rfl⟩ | exact ⟨by omega, by omega⟩)
  | ((with_reducible show (_ : Nat) ≤ _); first | omega | (simp only [List.length_map, List.length_append, List.length_cons, List.length_nil, rangeD_length]; omega))
  | ((with_reducible show (_ : Nat) < _); first | omega | (simp only [List.length_map, List.length_append, List.length_cons, List.length_nil, rangeD_length]; omega))
  | ((with_reducible show (_ : Int) ≤ _); first | omega | (simp only [List.length_map, List.length_append, List.length_cons, List.length_nil, rangeD_length]; omega))
  | ((with_reducible show (_ : Int) < _); first | omega | (simp only [List.length_map, List.length_append, List.length_cons, List.length_nil, rangeD_length]; omega) | (simp; done))
  | assumption
  | (simp; done))
set_option hygiene false in
local macro_rules | `(tactic| walk_at "I") => `(tactic| first
  | ((with_reducible show DL.WI _ _ (.Call (.Name "range" _) [_] [] _) _ _ _); refine wi_range1 T.b_range (h := ?_))
  | ((with_reducible show DL.WI _ _ (.Call (.Name "range" _) [_, _] [] _) _ _ _); refine wi_range2 T.b_range (h := ?_))
  | ((with_reducible show DL.WI _ _ (.Call (.Name "range" _) [_, _, _] [] _) _ _ _); refine wi_range3n T.b_range (h := ?_))
  | ((with_reducible show DL.WI _ _ (.Call (.Name "enumerate" _) [_] [] _) _ _ _); refine wi_enum T.b_enumerate (h := ?_))
  | ((with_reducible show DL.WI _ _ (.Call (.Name "zip" _) [_, _] [] _) _ _ _); refine wi_zip T.b_zip (h := ?_))
  | ((with_reducible show DL.WI _ _ (.Call _ _ _ _) _ _ _); refine wi_lst ?_))
/- one step -/
set_option hygiene false in
local macro_rules | `(tactic| walk_at "dl") => `(tactic| first
  | ((with_reducible show DL.WE _ _ _ _ _); walk_at "E")
  | ((with_reducible show DL.WSs _ _ _ _ _); first | refine wss_cons ?_ | refine wss_nil ?_)
  | ((with_reducible show DL.WS _ _ _ _ _); walk_at "S")
  | ((with_reducible show DL.WA _ _ _ _ _); first | refine wa_cons (h := ?_) | refine wa_nil ?_)
  | ((with_reducible show DL.WO _ _ _ _ _ _); walk_at "O")
  | ((with_reducible show DL.WT _ _ _ _ _); walk_at "T")
  | ((with_reducible show DL.WW _ _ _ _ _); first | refine ww_and ?_ | refine ww_or ?_ | refine ww_and1 ?_ | refine ww_or1 ?_)
  | ((with_reducible show DL.WC _ _ _ _ _); walk_at "C")
  | ((with_reducible show DL.WIx _ _ _ _ _); walk_at "Ix")
  | ((with_reducible show DL.WM _ _ _ _ _ _); walk_at "M")
  | ((with_reducible show DL.WU _ _ _ _ _); refine wu_neg ?_)
  | ((with_reducible show DL.WGi _ _ (.Name _ _) _ _ _ _); walk_at "gnm")
  | ((with_reducible show DL.WGi _ _ _ _ _ _ _); refine wg_tup _ (h := ?_))
  | ((with_reducible show DL.WGs _ _ _ _ _ _ _); first | refine wgs_cons (h := ?_) | refine wgs_nil ?_)
  | ((with_reducible show DL.WI _ _ _ _ _ _); walk_at "I")
  | ((with_reducible show DL.WTs _ _ _ _ _); first | refine wts_one ?_ | refine wts_nil ?_)
  | ((with_reducible show DL.WP _ _ _ _ _); first | refine wp_none ?_ | refine wp_some ?_)
  | ((with_reducible show DL.WSl _ _ _ _ _ _); first | refine wsl_tup ?_ | refine wsl_lst ?_ | refine wsl_loc (by walk_at "mem") ?_)
  | ((with_reducible show _ = true → DL.WE _ _ _ _ _); intro hk)
  | ((with_reducible show (_ = _ → _) ∧ (_ = _ → _)); walk_at "if")
  | ((with_reducible refine ⟨_, ixN_nat ?_ ?_, ?_⟩); (focus omega); (focus first | omega | (simp only [List.length_map, List.length_set, List.length_append] at *; omega)))
  | refine ⟨_, rfl, ?_⟩
  | refine ⟨szb rfl, ?_⟩
  | refine ⟨.inl _, rfl, ?_⟩
  | refine ⟨.inr _, rfl, ?_⟩
  | refine ⟨_, .inl (by walk_at "mem"), ?_⟩
  | refine ⟨_, .inr ⟨_, _, by walk_at "mem"⟩, ?_⟩
  | refine ⟨_, .inr ⟨_, rfl, by walk_at "mem"⟩, ?_⟩
  | refine ⟨_, .inl rfl, ?_⟩
  | refine ⟨_, .inr (.inl rfl), ?_⟩
  | refine ⟨_, .inr rfl, ?_⟩
  | ((with_reducible show _ ∧ _); refine ⟨by walk_at "pre", ?_⟩)
  | refine ⟨_, by walk_at "mem", ?_⟩
  | refine ⟨_, _, rfl, ?_⟩
  | refine ⟨_, _, _, rfl, ?_⟩
  | refine ⟨_, _, _, _, rfl, ?_⟩
  | refine ⟨_, _, _, _, _, rfl, ?_⟩
  | refine ⟨_, _, _, _, _, _, rfl, ?_⟩
  | refine ⟨_, _, _, _, _, _, _, rfl, ?_⟩
  | ((with_reducible show (_ : Mem) = _); rfl)
  | fail "stuck")
/- one step, within a statement -/
set_option hygiene false in
local macro_rules | `(tactic| walk_at "dlE") => `(tactic| first
  | ((with_reducible show DL.WE _ _ _ _ _); walk_at "E")
  | ((with_reducible show DL.WS _ _ _ _ _); walk_at "S")
  | ((with_reducible show DL.WA _ _ _ _ _); first | refine wa_cons (h := ?_) | refine wa_nil ?_)
  | ((with_reducible show DL.WO _ _ _ _ _ _); walk_at "O")
  | ((with_reducible show DL.WT _ _ _ _ _); walk_at "T")
  | ((with_reducible show DL.WW _ _ _ _ _); first | refine ww_and ?_ | refine ww_or ?_ | refine ww_and1 ?_ | refine ww_or1 ?_)
  | ((with_reducible show DL.WC _ _ _ _ _); walk_at "C")
  | ((with_reducible show DL.WIx _ _ _ _ _); walk_at "Ix")
  | ((with_reducible show DL.WM _ _ _ _ _ _); walk_at "M")
  | ((with_reducible show DL.WU _ _ _ _ _); refine wu_neg ?_)
  | ((with_reducible show DL.WGi _ _ (.Name _ _) _ _ _ _); walk_at "gnm")
  | ((with_reducible show DL.WGi _ _ _ _ _ _ _); refine wg_tup _ (h := ?_))
  | ((with_reducible show DL.WGs _ _ _ _ _ _ _); first | refine wgs_cons (h := ?_) | refine wgs_nil ?_)
  | ((with_reducible show DL.WI _ _ _ _ _ _); walk_at "I")
  | ((with_reducible show DL.WTs _ _ _ _ _); first | refine wts_one ?_ | refine wts_nil ?_)
  | ((with_reducible show DL.WP _ _ _ _ _); first | refine wp_none ?_ | refine wp_some ?_)
  | ((with_reducible show DL.WSl _ _ _ _ _ _); first | refine wsl_tup ?_ | refine wsl_lst ?_ | refine wsl_loc (by walk_at "mem") ?_)
  | ((with_reducible show _ = true → DL.WE _ _ _ _ _); intro hk)
  | ((with_reducible show (_ = _ → _) ∧ (_ = _ → _)); walk_at "if")
  | ((with_reducible refine ⟨_, ixN_nat ?_ ?_, ?_⟩); (focus omega); (focus first | omega | (simp only [List.length_map, List.length_set, List.length_append] at *; omega)))
  | refine ⟨_, rfl, ?_⟩
  | refine ⟨szb rfl, ?_⟩
  | refine ⟨.inl _, rfl, ?_⟩
  | refine ⟨.inr _, rfl, ?_⟩
  | refine ⟨_, .inl (by walk_at "mem"), ?_⟩
  | refine ⟨_, .inr ⟨_, _, by walk_at "mem"⟩, ?_⟩
  | refine ⟨_, .inr ⟨_, rfl, by walk_at "mem"⟩, ?_⟩
  | refine ⟨_, .inl rfl, ?_⟩
  | refine ⟨_, .inr (.inl rfl), ?_⟩
  | refine ⟨_, .inr rfl, ?_⟩
  | ((with_reducible show _ ∧ _); refine ⟨by walk_at "pre", ?_⟩)
  | refine ⟨_, by walk_at "mem", ?_⟩
  | refine ⟨_, _, rfl, ?_⟩
  | refine ⟨_, _, _, rfl, ?_⟩
  | refine ⟨_, _, _, _, rfl, ?_⟩
  | refine ⟨_, _, _, _, _, rfl, ?_⟩
  | refine ⟨_, _, _, _, _, _, rfl, ?_⟩
  | refine ⟨_, _, _, _, _, _, _, rfl, ?_⟩
  | ((with_reducible show (_ : Mem) = _); rfl)
  | fail "stuck")
set_option hygiene false in
local macro_rules | `(tactic| walk_at "goE") => `(tactic| repeat' walk_at "dlE")
set_option hygiene false in
local macro_rules | `(tactic| walk_at "go") => `(tactic| repeat' walk_at "dl")
set_option hygiene false in
local macro_rules | `(tactic| walk_at "nx") => `(tactic| ((try rw [Mem.upd_upd]); walk_at "go"))
set_option hygiene false in
local macro_rules | `(tactic| walk_at "call") => `(tactic| ((with_reducible show DL.WE _ (.Call (.Name "_law_begin" _) _ [] _) _ _ _); refine we_call (ok_begin T) (h := ?_)))
set_option hygiene false in
local macro_rules | `(tactic| walk_at "call") => `(tactic| ((with_reducible show DL.WE _ (.Call (.Name "_law_draw" _) _ [] _) _ _ _); refine we_call (ok_draw T) (h := ?_)))
set_option hygiene false in
local macro_rules | `(tactic| walk_at "call") => `(tactic| ((with_reducible show DL.WE _ (.Call (.Name "_law_pick" _) _ [] _) _ _ _); refine we_call (ok_pick T) (h := ?_)))
set_option hygiene false in
local macro_rules | `(tactic| walk_at "call") => `(tactic| ((with_reducible show DL.WE _ (.Call (.Name "_law_is_int" _) _ [] _) _ _ _); refine we_call (ok_is_int T) (h := ?_)))
set_option hygiene false in
local macro_rules | `(tactic| walk_at "call") => `(tactic| ((with_reducible show DL.WE _ (.Call (.Name "_law_is_ints" _) _ [] _) _ _ _); refine we_call (ok_is_ints T) (h := ?_)))
set_option hygiene false in
local macro_rules | `(tactic| walk_at "call") => `(tactic| ((with_reducible show DL.WE _ (.Call (.Name "is_whole" _) _ [] _) _ _ _); refine we_call (ok_is_whole T) (h := ?_)))
set_option hygiene false in
local macro_rules | `(tactic| walk_at "call") => `(tactic| ((with_reducible show DL.WE _ (.Call (.Name "allowed_at" _) _ [] _) _ _ _); refine we_call (ok_allowed_at T) (h := ?_)))
set_option hygiene false in
local macro_rules | `(tactic| walk_at "call") => `(tactic| ((with_reducible show DL.WE _ (.Call (.Name "reach_of" _) _ [] _) _ _ _); refine we_call (ok_reach_of T) (h := ?_)))
set_option hygiene false in
local macro_rules | `(tactic| walk_at "call") => `(tactic| ((with_reducible show DL.WE _ (.Call (.Name "fewest_tellings" _) _ [] _) _ _ _); refine we_call (ok_fewest_tellings T) (h := ?_)))
set_option hygiene false in
local macro_rules | `(tactic| walk_at "call") => `(tactic| ((with_reducible show DL.WE _ (.Call (.Name "is_right_plan" _) _ [] _) _ _ _); refine we_call (ok_is_right_plan T) (h := ?_)))
set_option hygiene false in
local macro_rules | `(tactic| walk_at "call") => `(tactic| ((with_reducible show DL.WE _ (.Call (.Name "are_right_bars" _) _ [] _) _ _ _); refine we_call (ok_are_right_bars T) (h := ?_)))
def sp_judge_tellings : DSp := fun ds μ Q => ∃ (vs : List Int) (s : Nat) (ts : Tl) (bs : List Int), ds = [.tup (iD vs), .int s, encF ts bs] ∧ vs.length ≤ 300 ∧ ts.length ≤ 1000 ∧ bs.length ≤ 1000 ∧ ∀ b : Bool, (b = true ↔ PairL vs s ts bs) → Q (.bl b) μ
theorem sc_judge_tellings : FnScope ["values", "slack", "found", "given", "tellings", "bars"] ["values", "slack", "found"] (defScope s_judge_tellings) := ⟨rfl, rfl, rfl, by decide +kernel, rfl, by decide +kernel, by decide +kernel⟩
section
set_option hygiene false in
local macro_rules | `(tactic| walk_at "nm") => `(tactic| first | ((with_reducible show DL.WE _ (.Name "values" _) _ _ _); refine we_name 0 (q := ?_)) | ((with_reducible show DL.WE _ (.Name "slack" _) _ _ _); refine we_name 1 (q := ?_)) | ((with_reducible show DL.WE _ (.Name "found" _) _ _ _); refine we_name 2 (q := ?_)) | ((with_reducible show DL.WE _ (.Name "given" _) _ _ _); refine we_name 3 (q := ?_)) | ((with_reducible show DL.WE _ (.Name "tellings" _) _ _ _); refine we_name 4 (q := ?_)) | ((with_reducible show DL.WE _ (.Name "bars" _) _ _ _); refine we_name 5 (q := ?_)))
set_option hygiene false in
local macro_rules | `(tactic| walk_at "set") => `(tactic| first | ((with_reducible show DL.WS _ (.Assign [.Name "values" _] _ _) _ _ _); refine ws_set 0 (h := ?_)) | ((with_reducible show DL.WS _ (.Assign [.Name "slack" _] _ _) _ _ _); refine ws_set 1 (h := ?_)) | ((with_reducible show DL.WS _ (.Assign [.Name "found" _] _ _) _ _ _); refine ws_set 2 (h := ?_)) | ((with_reducible show DL.WS _ (.Assign [.Name "given" _] _ _) _ _ _); refine ws_set 3 (h := ?_)) | ((with_reducible show DL.WS _ (.Assign [.Name "tellings" _] _ _) _ _ _); refine ws_set 4 (h := ?_)) | ((with_reducible show DL.WS _ (.Assign [.Name "bars" _] _ _) _ _ _); refine ws_set 5 (h := ?_)))
set_option hygiene false in
local macro_rules | `(tactic| walk_at "gnm") => `(tactic| first | ((with_reducible show DL.WGi _ _ (.Name "values" _) _ _ _ _); refine wg_name 0 (q := ?_)) | ((with_reducible show DL.WGi _ _ (.Name "slack" _) _ _ _ _); refine wg_name 1 (q := ?_)) | ((with_reducible show DL.WGi _ _ (.Name "found" _) _ _ _ _); refine wg_name 2 (q := ?_)) | ((with_reducible show DL.WGi _ _ (.Name "given" _) _ _ _ _); refine wg_name 3 (q := ?_)) | ((with_reducible show DL.WGi _ _ (.Name "tellings" _) _ _ _ _); refine wg_name 4 (q := ?_)) | ((with_reducible show DL.WGi _ _ (.Name "bars" _) _ _ _ _); refine wg_name 5 (q := ?_)))
set_option hygiene false in
local macro_rules | `(tactic| walk_at "S") => `(tactic| first | ((with_reducible show DL.WS _ (.Assign [.Tuple _ _ _] _ ⟨47, 4, _, _⟩) _ _ _); refine ws_asg (ix := ([4] ++ ([5] ++ []))) (h := ?_)))
set_option maxHeartbeats 1000000 in
theorem ok_judge_tellings (T : Txt K mg) : FnD P w K mg base 3 "judge_tellings" sp_judge_tellings := by
  refine TF.ok 2 T.f_judge_tellings sc_judge_tellings (fun ds μ Q ⟨_, _, _, _, h, _⟩ => by rw [h]; rfl) fun ds μ Q h => ?_
  obtain ⟨vs, s, ts, bs, rfl, hv, ht, hb, q⟩ := h
  have bad : ¬ PairL vs s ts bs → Q (.bl false) μ := fun h => q _ ⟨fun z => (nomatch z), fun z => absurd z h⟩
  unfold encF
  walk_at "go"
  · exact bad fun h => hk (by rw [h.1])
  · intro b1 hb1
    walk_at "go"
    · intro b2 hb2
      walk_at "go"
      exact q _ ⟨fun z => ⟨by omega, plan_iff.mp (hb1.mp hk), hb2.mp z⟩, fun z => hb2.mpr z.2.2⟩
    · exact bad fun h => by have := hb1.mpr (plan_iff.mpr h.2.1); rw [hk] at this; cases this
end
set_option hygiene false in
local macro_rules | `(tactic| walk_at "call") => `(tactic| ((with_reducible show DL.WE _ (.Call (.Name "judge_tellings" _) _ [] _) _ _ _); refine we_call (ok_judge_tellings T) (h := ?_)))
def sp_given : DSp := fun ds μ Q => ∃ (vs : List Int) (s : Nat) (m : Int), ds = [.tup (iD vs), .int s, .int m] ∧ 0 ≤ m ∧ Q (.tup (iD (win vs s m.toNat))) μ
theorem sc_given : FnScope ["values", "slack", "moment"] ["values", "slack", "moment"] (defScope s_given) := ⟨rfl, rfl, rfl, by decide +kernel, rfl, by decide +kernel, by decide +kernel⟩
section
set_option hygiene false in
local macro_rules | `(tactic| walk_at "nm") => `(tactic| first | ((with_reducible show DL.WE _ (.Name "values" _) _ _ _); refine we_name 0 (q := ?_)) | ((with_reducible show DL.WE _ (.Name "slack" _) _ _ _); refine we_name 1 (q := ?_)) | ((with_reducible show DL.WE _ (.Name "moment" _) _ _ _); refine we_name 2 (q := ?_)))
set_option hygiene false in
local macro_rules | `(tactic| walk_at "set") => `(tactic| first | ((with_reducible show DL.WS _ (.Assign [.Name "values" _] _ _) _ _ _); refine ws_set 0 (h := ?_)) | ((with_reducible show DL.WS _ (.Assign [.Name "slack" _] _ _) _ _ _); refine ws_set 1 (h := ?_)) | ((with_reducible show DL.WS _ (.Assign [.Name "moment" _] _ _) _ _ _); refine ws_set 2 (h := ?_)))
set_option hygiene false in
local macro_rules | `(tactic| walk_at "gnm") => `(tactic| first | ((with_reducible show DL.WGi _ _ (.Name "values" _) _ _ _ _); refine wg_name 0 (q := ?_)) | ((with_reducible show DL.WGi _ _ (.Name "slack" _) _ _ _ _); refine wg_name 1 (q := ?_)) | ((with_reducible show DL.WGi _ _ (.Name "moment" _) _ _ _ _); refine wg_name 2 (q := ?_)))
set_option maxHeartbeats 1000000 in
theorem ok_given (T : Txt K mg) : FnD P w K mg base 1 "_law_given" sp_given := by
  refine TF.ok 0 T.f_given sc_given (fun ds μ Q ⟨_, _, _, h, _⟩ => by rw [h]; rfl) fun ds μ Q h => ?_
  obtain ⟨vs, s, m', rfl, h0, q⟩ := h
  obtain ⟨m, rfl⟩ := Int.eq_ofNat_of_zero_le h0
  walk_at "go"
  rw [cut_win]
  exact q
end
set_option hygiene false in
local macro_rules | `(tactic| walk_at "call") => `(tactic| ((with_reducible show DL.WE _ (.Call (.Name "_law_given" _) _ [] _) _ _ _); refine we_call (ok_given T) (h := ?_)))
def sp_plan_is_right : DSp := fun ds μ Q => ∃ (vs : List Int) (s : Nat) (ts : Tl), ds = [.tup (iD vs), .int s, .tup (ts.map pr)] ∧ vs.length ≤ 300 ∧ ts.length ≤ 1000 ∧ ∀ b : Bool, (b = true ↔ PlanL vs s ts) → Q (.bl b) μ
theorem sc_plan_is_right : FnScope ["values", "slack", "tellings", "moments", "pair", "now", "at", "moment"] ["values", "slack", "tellings"] (defScope s_plan_is_right) := ⟨rfl, rfl, rfl, by decide +kernel, rfl, by decide +kernel, by decide +kernel⟩
section
set_option hygiene false in
local macro_rules | `(tactic| walk_at "nm") => `(tactic| first | ((with_reducible show DL.WE _ (.Name "values" _) _ _ _); refine we_name 0 (q := ?_)) | ((with_reducible show DL.WE _ (.Name "slack" _) _ _ _); refine we_name 1 (q := ?_)) | ((with_reducible show DL.WE _ (.Name "tellings" _) _ _ _); refine we_name 2 (q := ?_)) | ((with_reducible show DL.WE _ (.Name "moments" _) _ _ _); refine we_name 3 (q := ?_)) | ((with_reducible show DL.WE _ (.Name "pair" _) _ _ _); refine we_name 4 (q := ?_)) | ((with_reducible show DL.WE _ (.Name "now" _) _ _ _); refine we_name 5 (q := ?_)) | ((with_reducible show DL.WE _ (.Name "at" _) _ _ _); refine we_name 6 (q := ?_)) | ((with_reducible show DL.WE _ (.Name "moment" _) _ _ _); refine we_name 7 (q := ?_)))
set_option hygiene false in
local macro_rules | `(tactic| walk_at "set") => `(tactic| first | ((with_reducible show DL.WS _ (.Assign [.Name "values" _] _ _) _ _ _); refine ws_set 0 (h := ?_)) | ((with_reducible show DL.WS _ (.Assign [.Name "slack" _] _ _) _ _ _); refine ws_set 1 (h := ?_)) | ((with_reducible show DL.WS _ (.Assign [.Name "tellings" _] _ _) _ _ _); refine ws_set 2 (h := ?_)) | ((with_reducible show DL.WS _ (.Assign [.Name "moments" _] _ _) _ _ _); refine ws_set 3 (h := ?_)) | ((with_reducible show DL.WS _ (.Assign [.Name "pair" _] _ _) _ _ _); refine ws_set 4 (h := ?_)) | ((with_reducible show DL.WS _ (.Assign [.Name "now" _] _ _) _ _ _); refine ws_set 5 (h := ?_)) | ((with_reducible show DL.WS _ (.Assign [.Name "at" _] _ _) _ _ _); refine ws_set 6 (h := ?_)) | ((with_reducible show DL.WS _ (.Assign [.Name "moment" _] _ _) _ _ _); refine ws_set 7 (h := ?_)))
set_option hygiene false in
local macro_rules | `(tactic| walk_at "gnm") => `(tactic| first | ((with_reducible show DL.WGi _ _ (.Name "values" _) _ _ _ _); refine wg_name 0 (q := ?_)) | ((with_reducible show DL.WGi _ _ (.Name "slack" _) _ _ _ _); refine wg_name 1 (q := ?_)) | ((with_reducible show DL.WGi _ _ (.Name "tellings" _) _ _ _ _); refine wg_name 2 (q := ?_)) | ((with_reducible show DL.WGi _ _ (.Name "moments" _) _ _ _ _); refine wg_name 3 (q := ?_)) | ((with_reducible show DL.WGi _ _ (.Name "pair" _) _ _ _ _); refine wg_name 4 (q := ?_)) | ((with_reducible show DL.WGi _ _ (.Name "now" _) _ _ _ _); refine wg_name 5 (q := ?_)) | ((with_reducible show DL.WGi _ _ (.Name "at" _) _ _ _ _); refine wg_name 6 (q := ?_)) | ((with_reducible show DL.WGi _ _ (.Name "moment" _) _ _ _ _); refine wg_name 7 (q := ?_)))
set_option hygiene false in
local macro_rules | `(tactic| walk_at "aug") => `(tactic| first | ((with_reducible show DL.WS _ (.AugAssign (.Name "at" _) .Add _ _) _ _ _); refine ws_augI 6 (fun _ => ip_add) (h := ?_)))
set_option hygiene false in
local macro_rules | `(tactic| walk_at "E") => `(tactic| first | ((with_reducible show DL.WE _ (.ListComp _ _ _ ⟨110, 14, 110, 44⟩) _ _ _); refine we_lc [("pair", 4)] (h := ?_)))
set_option hygiene false in
local macro_rules | `(tactic| walk_at "S") => `(tactic| first | ((with_reducible show DL.WS _ (.Assign [.Name "moments" _] (.ListComp _ _ _ ⟨110, 14, 110, 44⟩) _) _ _ _); refine ws_setLc 3 [("pair", 4)] (h := ?_)))
set_option hygiene false in
local macro_rules | `(tactic| walk_at "I") => `(tactic| first | ((with_reducible show DL.WI _ _ (.Name "tellings" _) _ _ _); first | refine wi_name 2 (s := .inl rfl) (h := ?_) | refine wi_name 2 (s := .inr rfl) (h := ?_)))
set_option maxHeartbeats 1000000 in
theorem ok_plan_is_right (T : Txt K mg) : FnD P w K mg base 2 "_law_plan_is_right" sp_plan_is_right := by
  refine TF.ok 1 T.f_plan_is_right sc_plan_is_right (fun ds μ Q ⟨_, _, _, h, _⟩ => by rw [h]; rfl) fun ds μ Q h => ?_
  obtain ⟨vs, s, ts, rfl, hv, ht, q⟩ := h
  have bad : ¬ PlanL vs s ts → Q (.bl false) μ := fun h => q _ ⟨fun z => (nomatch z), fun z => absurd z h⟩
  walk_at "go"
  refine LcHyp.mp ts pr (fun q => .int q.1) [4] (fun _ h => h) (sz1000 ht) (fun v i hv => ?_) ?_
  · walk_at "go"
  rw [show (ts.map fun q => D.int q.1) = iD (ts.map (·.1)) by simp [Function.comp_def]]
  walk_at "go"
  · refine bad fun h => ?_
    rename_i k0 k1 k2
    rw [List.length_map] at k0 hk
    have := h.2.2.1 (ts[ts.length - 1]'(by omega)).1 (ts[ts.length - 1]'(by omega)).2 (by rw [List.getLast?_eq_getElem?]; exact List.getElem?_eq_getElem _)
    rw [getI (b := (ts[ts.length - 1]'(by omega)).1) (by rw [List.getElem?_map, List.getElem?_eq_getElem (by omega)]; rfl)] at hk
    omega
  · rename_i k0 k1 k2
    have hlt : 0 < ts.length := by rw [List.length_map] at k0; omega
    have asc : (ts.map (·.1)).Pairwise (· < ·) := by rw [k2]; exact sdd_lt _
    have hlast : ts.getLast? = some (ts[ts.length - 1]'(by omega)) := by rw [List.getLast?_eq_getElem?]; exact List.getElem?_eq_getElem _
    have hm0 : ∃ v, ts[0]? = some (0, v) := by
      refine ⟨(ts[0]'(by omega)).2, ?_⟩
      rw [List.getElem?_eq_getElem (by omega)]
      congr 1
      refine Prod.ext ?_ rfl
      have := k1
      rwa [show (0 : Int).toNat = 0 from rfl, getI (b := (ts[0]'(by omega)).1) (by rw [List.getElem?_map, List.getElem?_eq_getElem (by omega)]; rfl)] at this
    have hend : ∀ m v, ts.getLast? = some (m, v) → m < vs.length := fun m v h => by
      rw [hlast] at h
      have e := congrArg Prod.fst (Option.some.inj h)
      rw [List.length_map, getI (b := (ts[ts.length - 1]'(by omega)).1) (by rw [List.getElem?_map, List.getElem?_eq_getElem (by omega)]; rfl)] at hk
      simp only at e
      omega
    clear hk k0 k1 k2
    rw [Int.toNat_natCast]
    obtain ⟨v0, h0⟩ := hm0
    refine ⟨[7], fun i ρ' μ' => ∃ (c : Nat) (d : D) (o1 o2 : Option D), μ = μ' ∧ ρ' = [some (.tup (iD vs)), some (.int s), some (.tup (ts.map pr)), some (.lst (iD (ts.map (·.1)))), o1, some d, some (.int c), o2] ∧ (∀ j p, ts[j]? = some p → j < c → p.1 < (i : Int)) ∧ (∀ j p, ts[j]? = some p → c ≤ j → (i : Int) ≤ p.1) ∧ (0 < c → ∃ p, ts[c - 1]? = some p ∧ d = .int p.2) ∧ c ≤ ts.length ∧ ∀ k : Nat, k < i → ∀ v, told ts k = some v → v ∈ win vs s k, ⟨0, .non, _, _, rfl, rfl, fun _ _ _ h => absurd h (Nat.not_lt_zero _), fun j p hj _ => ?_, fun h => absurd h (Nat.not_lt_zero _), Nat.zero_le _, fun k h => absurd h (Nat.not_lt_zero _)⟩, ?_, ?_⟩
    · by_cases z : j = 0
      · subst z; rw [h0] at hj; cases hj; exact Int.le_refl _
      · have := asc_get asc h0 hj (by omega); simp at this; omega
    · rintro i d ρ' μ' hd ⟨c, dd, o1, o2, rfl, rfl, g1, g2, g3, g4, g5⟩
      obtain ⟨hi, rfl⟩ := rangeD_get hd
      walk_at "dl"
      refine wss_mid (fun ρ1 μ1 => ∃ (c' : Nat) (v : Int), μ = μ1 ∧ ρ1 = [some (.tup (iD vs)), some (.int s), some (.tup (ts.map pr)), some (.lst (iD (ts.map (·.1)))), o1, some (.int v), some (.int c'), some (.int (0 + (i : Int)))] ∧ (∀ j p, ts[j]? = some p → j < c' → p.1 < (i : Int) + 1) ∧ (∀ j p, ts[j]? = some p → c' ≤ j → (i : Int) + 1 ≤ p.1) ∧ 0 < c' ∧ (∃ p, ts[c' - 1]? = some p ∧ p.2 = v) ∧ c' ≤ ts.length) ?_ ?_
      · walk_at "go"
        · rename_i hc
          have hc' : c < ts.length := by omega
          have hm : (ts[c]'hc').1 = i := by
            have : (ts.map (·.1))[((c : Nat) : Int).toNat]'(by simp; omega) = 0 + (i : Int) := hk
            simp at this; exact this
          refine ⟨c + 1, (ts[c]'hc').2, rfl, rfl, fun j p hj hl => ?_, fun j p hj hl => ?_, by omega, ⟨_, List.getElem?_eq_getElem hc', rfl⟩, by omega⟩
          · by_cases z : j = c
            · subst z; rw [List.getElem?_eq_getElem hc'] at hj; cases hj; omega
            · have := g1 j p hj (by omega); omega
          · have := asc_get asc (List.getElem?_eq_getElem hc') hj (by omega); omega
        · rename_i hc
          have hc' : c < ts.length := by omega
          have hm : (ts[c]'hc').1 ≠ i := fun e => hk (by
            show (ts.map (·.1))[((c : Nat) : Int).toNat]'(by simp; omega) = 0 + (i : Int)
            simp; exact e)
          have c0 : 0 < c := by
            by_cases z : c = 0
            · subst z
              have h1 := g2 0 _ h0 (Nat.le_refl _)
              obtain ⟨_, h2⟩ := List.getElem?_eq_some_iff.mp h0
              rw [h2] at hm
              simp at h1 hm; omega
            · omega
          obtain ⟨p, h1, rfl⟩ := g3 c0
          refine ⟨c, p.2, rfl, rfl, fun j p hj hl => ?_, fun j p hj hl => ?_, c0, ⟨p, h1, rfl⟩, g4⟩
          · have := g1 j p hj hl; omega
          · by_cases z : j = c
            · subst z
              have := g2 j p hj hl
              rw [List.getElem?_eq_getElem hc'] at hj; cases hj; omega
            · have := asc_get asc (List.getElem?_eq_getElem hc') hj (by omega)
              have := g2 c _ (List.getElem?_eq_getElem hc') (Nat.le_refl _); omega
        · have c0 : 0 < c := by omega
          obtain ⟨p, h1, rfl⟩ := g3 c0
          refine ⟨c, p.2, rfl, rfl, fun j p hj hl => ?_, fun j p hj hl => ?_, c0, ⟨p, h1, rfl⟩, g4⟩
          · have := g1 j p hj hl; omega
          · have := (List.getElem?_eq_some_iff.mp hj).1; omega
      · rintro ρ1 μ1 ⟨c', v, rfl, rfl, f1, f2, f3, ⟨p, f4, f5⟩, f6⟩
        have ht : told ts i = some v := by
          unfold told
          rw [filter_asc ts c' i asc (fun j p hj hl => by have := f1 j p hj hl; omega) (fun j p hj hl => by have := f2 j p hj hl; omega), List.getLast?_map, List.getLast?_take, if_neg (by omega), f4]
          simp [f5]
        have ei : (0 + (i : Int)).toNat = i := by omega
        walk_at "go"
        · rw [ei] at hk
          exact bad fun h => hk (h.2.2.2 i (by omega) v ht)
        · rw [ei] at hk
          refine ⟨c', .int v, o1, _, rfl, rfl, fun j p hj hl => by have := f1 j p hj hl; omega, fun j p hj hl => by have := f2 j p hj hl; omega, fun _ => ⟨p, f4, by rw [f5]⟩, f6, fun k hk' v' hv' => ?_⟩
          by_cases z : k = i
          · subst z; rw [ht] at hv'; cases hv'; exact hk
          · exact g5 k (by omega) v' hv'
    · rintro ρ' μ' ⟨c, dd, o1, o2, rfl, rfl, g1, g2, g3, g4, g5⟩
      walk_at "go"
      rw [rangeD_length] at g5
      exact q _ ⟨fun _ => ⟨⟨v0, h0⟩, asc, hend, g5⟩, fun _ => rfl⟩
  · exact bad fun h => hk (lt_uniq h.2.1 (sdd_lt _) fun k => mem_sdd.symm)
  · refine bad fun ⟨⟨v, h⟩, _⟩ => hk ?_
    exact getI (i := 0) (by rw [List.getElem?_map, h]; rfl)
  · refine bad fun ⟨⟨v, h⟩, _⟩ => ?_
    have := (List.getElem?_eq_some_iff.mp h).1
    rw [List.length_map] at hk
    omega
end
set_option hygiene false in
local macro_rules | `(tactic| walk_at "call") => `(tactic| ((with_reducible show DL.WE _ (.Call (.Name "_law_plan_is_right" _) _ [] _) _ _ _); refine we_call (ok_plan_is_right T) (h := ?_)))
theorem reach_next {vs : List Int} {s b m : Nat} {v : Int} (hm : m < vs.length) (hb : b ≤ m) : (m < reach vs s b v) ↔ (m ≤ reach vs s b v ∧ v ∈ win vs s m) := by
  constructor
  · intro h; exact ⟨by omega, reach_in hb h⟩
  · rintro ⟨h1, h2⟩
    by_cases q : m < reach vs s b v
    · exact q
    · have e : reach vs s b v = m := by omega
      have := reach_out (vs := vs) (s := s) (m := b) (v := v) (by omega)
      rw [e] at this; exact absurd h2 this
def live (vs : List Int) (s b m : Nat) : List Int := (sdd (win vs s b)).filter fun v => decide (m < reach vs s b v)
theorem live_start {vs : List Int} {s b : Nat} (hb : b < vs.length) : live vs s b b = sdd (win vs s b) := by
  unfold live
  rw [List.filter_eq_self]
  intro v hv
  have := reach_step hb (mem_sdd.mp hv)
  exact decide_eq_true (by omega)
theorem live_next {vs : List Int} {s b m : Nat} (hm : m + 1 < vs.length) (hb : b ≤ m) : (live vs s b m).filter (fun v => decide (v ∈ win vs s (m + 1))) = live vs s b (m + 1) := by
  unfold live
  rw [List.filter_filter]
  apply List.filter_congr
  intro v _
  rw [Bool.eq_iff_iff]
  simp only [Bool.and_eq_true, decide_eq_true_eq]
  rw [reach_next hm (by omega)]
  constructor
  · rintro ⟨h1, h2⟩; exact ⟨by omega, h1⟩
  · rintro ⟨h1, h2⟩; exact ⟨h2, by omega⟩
theorem live_some {vs : List Int} {s b m : Nat} (hb : b < vs.length) : live vs s b m ≠ [] ↔ m < best vs s b := by
  constructor
  · intro h
    obtain ⟨v, hv⟩ := List.exists_mem_of_ne_nil _ h
    obtain ⟨h1, h2⟩ := List.mem_filter.mp hv
    have := best_ge (mem_sdd.mp h1)
    have := of_decide_eq_true h2
    omega
  · intro h e
    obtain ⟨v, h1, h2⟩ := best_at (s := s) hb
    have : v ∈ live vs s b m := List.mem_filter.mpr ⟨mem_sdd.mpr h1, decide_eq_true (by omega)⟩
    rw [e] at this; cases this
def sp_end : DSp := fun ds μ Q => ∃ (vs : List Int) (s : Nat) (b : Int), ds = [.tup (iD vs), .int s, .int b] ∧ vs.length ≤ 300 ∧ 0 ≤ b ∧ b < vs.length ∧ Q (.int (best vs s b.toNat)) μ
theorem sc_end : FnScope ["values", "slack", "bar", "live", "moment", "given", "value"] ["values", "slack", "bar"] (defScope s_end) := ⟨rfl, rfl, rfl, by decide +kernel, rfl, by decide +kernel, by decide +kernel⟩
section
set_option hygiene false in
local macro_rules | `(tactic| walk_at "nm") => `(tactic| first | ((with_reducible show DL.WE _ (.Name "values" _) _ _ _); refine we_name 0 (q := ?_)) | ((with_reducible show DL.WE _ (.Name "slack" _) _ _ _); refine we_name 1 (q := ?_)) | ((with_reducible show DL.WE _ (.Name "bar" _) _ _ _); refine we_name 2 (q := ?_)) | ((with_reducible show DL.WE _ (.Name "live" _) _ _ _); refine we_name 3 (q := ?_)) | ((with_reducible show DL.WE _ (.Name "moment" _) _ _ _); refine we_name 4 (q := ?_)) | ((with_reducible show DL.WE _ (.Name "given" _) _ _ _); refine we_name 5 (q := ?_)) | ((with_reducible show DL.WE _ (.Name "value" _) _ _ _); refine we_name 6 (q := ?_)))
set_option hygiene false in
local macro_rules | `(tactic| walk_at "set") => `(tactic| first | ((with_reducible show DL.WS _ (.Assign [.Name "values" _] _ _) _ _ _); refine ws_set 0 (h := ?_)) | ((with_reducible show DL.WS _ (.Assign [.Name "slack" _] _ _) _ _ _); refine ws_set 1 (h := ?_)) | ((with_reducible show DL.WS _ (.Assign [.Name "bar" _] _ _) _ _ _); refine ws_set 2 (h := ?_)) | ((with_reducible show DL.WS _ (.Assign [.Name "live" _] _ _) _ _ _); refine ws_set 3 (h := ?_)) | ((with_reducible show DL.WS _ (.Assign [.Name "moment" _] _ _) _ _ _); refine ws_set 4 (h := ?_)) | ((with_reducible show DL.WS _ (.Assign [.Name "given" _] _ _) _ _ _); refine ws_set 5 (h := ?_)) | ((with_reducible show DL.WS _ (.Assign [.Name "value" _] _ _) _ _ _); refine ws_set 6 (h := ?_)))
set_option hygiene false in
local macro_rules | `(tactic| walk_at "gnm") => `(tactic| first | ((with_reducible show DL.WGi _ _ (.Name "values" _) _ _ _ _); refine wg_name 0 (q := ?_)) | ((with_reducible show DL.WGi _ _ (.Name "slack" _) _ _ _ _); refine wg_name 1 (q := ?_)) | ((with_reducible show DL.WGi _ _ (.Name "bar" _) _ _ _ _); refine wg_name 2 (q := ?_)) | ((with_reducible show DL.WGi _ _ (.Name "live" _) _ _ _ _); refine wg_name 3 (q := ?_)) | ((with_reducible show DL.WGi _ _ (.Name "moment" _) _ _ _ _); refine wg_name 4 (q := ?_)) | ((with_reducible show DL.WGi _ _ (.Name "given" _) _ _ _ _); refine wg_name 5 (q := ?_)) | ((with_reducible show DL.WGi _ _ (.Name "value" _) _ _ _ _); refine wg_name 6 (q := ?_)))
set_option hygiene false in
local macro_rules | `(tactic| walk_at "E") => `(tactic| first | ((with_reducible show DL.WE _ (.ListComp _ _ _ ⟨126, 15, 126, 58⟩) _ _ _); refine we_lc [("value", 6)] (h := ?_)))
set_option hygiene false in
local macro_rules | `(tactic| walk_at "S") => `(tactic| first | ((with_reducible show DL.WS _ (.Assign [.Name "live" _] (.ListComp _ _ _ ⟨126, 15, 126, 58⟩) _) _ _ _); refine ws_setLc 3 [("value", 6)] (h := ?_)))
set_option hygiene false in
local macro_rules | `(tactic| walk_at "I") => `(tactic| first | ((with_reducible show DL.WI _ _ (.Name "live" _) _ _ _); first | refine wi_name 3 (s := .inl rfl) (h := ?_) | refine wi_name 3 (s := .inr rfl) (h := ?_)))
set_option maxHeartbeats 1000000 in
theorem ok_end (T : Txt K mg) : FnD P w K mg base 2 "_law_end" sp_end := by
  refine TF.ok 1 T.f_end sc_end (fun ds μ Q ⟨_, _, _, h, _⟩ => by rw [h]; rfl) fun ds μ Q h => ?_
  obtain ⟨vs, s, b', rfl, hv, h0, hb, q⟩ := h
  obtain ⟨b, rfl⟩ := Int.eq_ofNat_of_zero_le h0
  have hb' : b < vs.length := by omega
  rw [Int.toNat_natCast] at q
  have wl := win_len (vs := vs) (s := s) (m := b)
  have bl := best_lt (s := s) hb'
  have ll : ∀ m, (live vs s b m).length ≤ 300 := fun m => by
    have h1 := List.length_filter_le (fun v => decide (m < reach vs s b v)) (sdd (win vs s b))
    have h2 := sdd_len (win vs s b)
    unfold live; omega
  walk_at "go"
  rw [Int.toNat_natCast]
  walk_at "go"
  rw [← live_start hb']
  have rl : (rangeD ((b : Int) + 1) ((vs.length : Int) - ((b : Int) + 1)).toNat).length = vs.length - (b + 1) := by rw [rangeD_length]; omega
  refine ⟨[4], fun i ρ' μ' => ∃ o1 o2 o3 : Option D, μ = μ' ∧ ρ' = [some (.tup (iD vs)), some (.int s), some (.int b), some (.lst (iD (live vs s b (b + i)))), o1, o2, o3] ∧ live vs s b (b + i) ≠ [], ⟨_, _, _, rfl, rfl, (live_some hb').mpr (by omega)⟩, ?_, ?_⟩
  · rintro i d ρ' μ' hd ⟨o1, o2, o3, rfl, rfl, hI⟩
    obtain ⟨hi, rfl⟩ := rangeD_get hd
    have hi' : b + i + 1 < vs.length := by omega
    have em : ((b : Int) + 1 + (i : Int)).toNat = b + i + 1 := by omega
    walk_at "go"
    rw [em]
    refine LcHyp.fm (live vs s b (b + i)) D.int (fun v => decide (v ∈ win vs s (b + i + 1))) D.int [6] (fun _ h => h) (sz1000 (by have := ll (b + i); omega)) (fun v j hv => ?_) ?_
    · walk_at "go"
    · rw [live_next hi' (by omega)]
      walk_at "go"
      · have h1 : ¬ (b + i + 1 < best vs s b) := fun h => (live_some hb').mpr h (List.eq_nil_of_length_eq_zero (by omega))
        have h2 := (live_some hb').mp hI
        rw [show (b : Int) + 1 + (i : Int) = (best vs s b : Int) by omega]
        exact q
      · exact ⟨_, _, _, rfl, rfl, fun e => hk (by rw [show b + (i + 1) = b + i + 1 by omega] at e; rw [e]; rfl)⟩
  · rintro ρ' μ' ⟨o1, o2, o3, rfl, rfl, hI⟩
    rw [rl] at hI
    have := (live_some hb').mp hI
    walk_at "go"
    rw [show best vs s b = vs.length by omega] at q
    exact q
end
set_option hygiene false in
local macro_rules | `(tactic| walk_at "call") => `(tactic| ((with_reducible show DL.WE _ (.Call (.Name "_law_end" _) _ [] _) _ _ _); refine we_call (ok_end T) (h := ?_)))
def sp_bars_are_right : DSp := fun ds μ Q => ∃ (vs : List Int) (s : Nat) (bs : List Int), ds = [.tup (iD vs), .int s, .tup (iD bs)] ∧ vs.length ≤ 300 ∧ bs.length ≤ 1000 ∧ ∀ b : Bool, (b = true ↔ BarsL vs s bs) → Q (.bl b) μ
theorem asc_getI {bs : List Int} (h : bs.Pairwise (· < ·)) {i j : Nat} (hij : i < j) (hj : j < bs.length) : bs.getD i 0 < bs.getD j 0 := by
  have := List.pairwise_iff_getElem.mp h i j (by omega) hj hij
  rwa [← getI (List.getElem?_eq_getElem _), ← getI (List.getElem?_eq_getElem _)] at this
theorem sc_bars_are_right : FnScope ["values", "slack", "bars", "at"] ["values", "slack", "bars"] (defScope s_bars_are_right) := ⟨rfl, rfl, rfl, by decide +kernel, rfl, by decide +kernel, by decide +kernel⟩
section
set_option hygiene false in
local macro_rules | `(tactic| walk_at "nm") => `(tactic| first | ((with_reducible show DL.WE _ (.Name "values" _) _ _ _); refine we_name 0 (q := ?_)) | ((with_reducible show DL.WE _ (.Name "slack" _) _ _ _); refine we_name 1 (q := ?_)) | ((with_reducible show DL.WE _ (.Name "bars" _) _ _ _); refine we_name 2 (q := ?_)) | ((with_reducible show DL.WE _ (.Name "at" _) _ _ _); refine we_name 3 (q := ?_)))
set_option hygiene false in
local macro_rules | `(tactic| walk_at "set") => `(tactic| first | ((with_reducible show DL.WS _ (.Assign [.Name "values" _] _ _) _ _ _); refine ws_set 0 (h := ?_)) | ((with_reducible show DL.WS _ (.Assign [.Name "slack" _] _ _) _ _ _); refine ws_set 1 (h := ?_)) | ((with_reducible show DL.WS _ (.Assign [.Name "bars" _] _ _) _ _ _); refine ws_set 2 (h := ?_)) | ((with_reducible show DL.WS _ (.Assign [.Name "at" _] _ _) _ _ _); refine ws_set 3 (h := ?_)))
set_option hygiene false in
local macro_rules | `(tactic| walk_at "gnm") => `(tactic| first | ((with_reducible show DL.WGi _ _ (.Name "values" _) _ _ _ _); refine wg_name 0 (q := ?_)) | ((with_reducible show DL.WGi _ _ (.Name "slack" _) _ _ _ _); refine wg_name 1 (q := ?_)) | ((with_reducible show DL.WGi _ _ (.Name "bars" _) _ _ _ _); refine wg_name 2 (q := ?_)) | ((with_reducible show DL.WGi _ _ (.Name "at" _) _ _ _ _); refine wg_name 3 (q := ?_)))
set_option hygiene false in
local macro_rules | `(tactic| walk_at "E") => `(tactic| first | ((with_reducible show DL.WE _ (.ListComp _ _ _ ⟨133, 15, 133, 97⟩) _ _ _); refine we_lc [("at", 3)] (h := ?_)))
set_option maxHeartbeats 1000000 in
theorem ok_bars_are_right (T : Txt K mg) : FnD P w K mg base 3 "_law_bars_are_right" sp_bars_are_right := by
  refine TF.ok 2 T.f_bars_are_right sc_bars_are_right (fun ds μ Q ⟨_, _, _, h, _⟩ => by rw [h]; rfl) fun ds μ Q h => ?_
  obtain ⟨vs, s, bs, rfl, hv, hb, q⟩ := h
  have bad : ¬ BarsL vs s bs → Q (.bl false) μ := fun h => q _ ⟨fun z => (nomatch z), fun z => absurd z h⟩
  walk_at "go"
  · refine bad fun h => ?_
    have := h.2.2.1 _ (by rw [List.getLast?_eq_getElem?]; exact getI' (by omega))
    omega
  · rename_i k0 k1 k2
    have asc : bs.Pairwise (· < ·) := by rw [k2]; exact sdd_lt _
    have h0 : bs[0]? = some 0 := by rw [getI' (by omega)]; exact congrArg some k1
    have hlast : bs.getLast? = some (bs.getD (bs.length - 1) 0) := by rw [List.getLast?_eq_getElem?]; exact getI' (by omega)
    have hin : ∀ i, i < bs.length → 0 ≤ bs.getD i 0 ∧ bs.getD i 0 < vs.length := fun i hi => by
      constructor
      · by_cases z : i = 0
        · subst z; rw [getI h0]; exact Int.le_refl _
        · have := asc_getI asc (show 0 < i by omega) hi; rw [getI h0] at this; omega
      · by_cases z : i = bs.length - 1
        · subst z; omega
        · have := asc_getI asc (show i < bs.length - 1 by omega) (by omega); omega
    clear hk
    rw [show ((bs.length : Int) - 1).toNat = bs.length - 1 by omega]
    refine LcHyp.mp (List.range (bs.length - 1)) (fun i : Nat => .int (0 + (i : Int))) (fun i => .bl (decide ((best vs s (bs.getD i 0).toNat : Int) ≤ bs.getD (i + 1) 0))) [3] (fun _ h => h) (sz1000 (by simp; omega)) (fun i j hi => ?_) ?_
    · have hl : i < bs.length - 1 := List.mem_range.mp (List.mem_of_getElem? hi)
      obtain ⟨b0, b1⟩ := hin i (by omega)
      have e1 : (0 + (i : Int)).toNat = i := by omega
      have e2 : (0 + (i : Int) + 1).toNat = i + 1 := by omega
      walk_at "go"
      rw [e1]
      refine ⟨b0, b1, ?_⟩
      walk_at "go"
    walk_at "go"
    refine q _ ⟨fun h => ⟨h0, asc, fun b hb => ?_, fun i b b' h1 h2 => ?_⟩, fun h => List.all_eq_true.mpr fun i hi => decide_eq_true ?_⟩
    · rw [hlast] at hb; cases hb; exact (hin _ (by omega)).2
    · have hl := (List.getElem?_eq_some_iff.mp h2).1
      have := of_decide_eq_true (List.all_eq_true.mp h i (List.mem_range.mpr (by omega)))
      rwa [getI h1, getI h2] at this
    · have hl := List.mem_range.mp hi
      exact h.2.2.2 i _ _ (getI' (by omega)) (getI' (by omega))
  · exact bad fun h => hk (lt_uniq h.2.1 (sdd_lt _) fun k => mem_sdd.symm)
  · exact bad fun h => hk (getI h.1)
  · exact bad fun h => by
      have := (List.getElem?_eq_some_iff.mp h.1).1
      omega
end
set_option hygiene false in
local macro_rules | `(tactic| walk_at "call") => `(tactic| ((with_reducible show DL.WE _ (.Call (.Name "_law_bars_are_right" _) _ [] _) _ _ _); refine we_call (ok_bars_are_right T) (h := ?_)))
def sp_pair_is_right : DSp := fun ds μ Q => ∃ (vs : List Int) (s : Nat) (ts : Tl) (bs : List Int), ds = [.tup (iD vs), .int s, encF ts bs] ∧ vs.length ≤ 300 ∧ ts.length ≤ 1000 ∧ bs.length ≤ 1000 ∧ ∀ b : Bool, (b = true ↔ PairL vs s ts bs) → Q (.bl b) μ
theorem sc_pair_is_right : FnScope ["values", "slack", "found"] ["values", "slack", "found"] (defScope s_pair_is_right) := ⟨rfl, rfl, rfl, by decide +kernel, rfl, by decide +kernel, by decide +kernel⟩
section
set_option hygiene false in
local macro_rules | `(tactic| walk_at "nm") => `(tactic| first | ((with_reducible show DL.WE _ (.Name "values" _) _ _ _); refine we_name 0 (q := ?_)) | ((with_reducible show DL.WE _ (.Name "slack" _) _ _ _); refine we_name 1 (q := ?_)) | ((with_reducible show DL.WE _ (.Name "found" _) _ _ _); refine we_name 2 (q := ?_)))
set_option hygiene false in
local macro_rules | `(tactic| walk_at "set") => `(tactic| first | ((with_reducible show DL.WS _ (.Assign [.Name "values" _] _ _) _ _ _); refine ws_set 0 (h := ?_)) | ((with_reducible show DL.WS _ (.Assign [.Name "slack" _] _ _) _ _ _); refine ws_set 1 (h := ?_)) | ((with_reducible show DL.WS _ (.Assign [.Name "found" _] _ _) _ _ _); refine ws_set 2 (h := ?_)))
set_option hygiene false in
local macro_rules | `(tactic| walk_at "gnm") => `(tactic| first | ((with_reducible show DL.WGi _ _ (.Name "values" _) _ _ _ _); refine wg_name 0 (q := ?_)) | ((with_reducible show DL.WGi _ _ (.Name "slack" _) _ _ _ _); refine wg_name 1 (q := ?_)) | ((with_reducible show DL.WGi _ _ (.Name "found" _) _ _ _ _); refine wg_name 2 (q := ?_)))
set_option maxHeartbeats 1000000 in
theorem ok_pair_is_right (T : Txt K mg) : FnD P w K mg base 4 "_law_pair_is_right" sp_pair_is_right := by
  refine TF.ok 3 T.f_pair_is_right sc_pair_is_right (fun ds μ Q ⟨_, _, _, _, h, _⟩ => by rw [h]; rfl) fun ds μ Q h => ?_
  obtain ⟨vs, s, ts, bs, rfl, hv, ht, hb, q⟩ := h
  have bad : ¬ PairL vs s ts bs → Q (.bl false) μ := fun h => q _ ⟨fun z => (nomatch z), fun z => absurd z h⟩
  unfold encF
  walk_at "go"
  · intro b1 hb1
    walk_at "go"
    · exact bad fun h => by have := hb1.mpr h.2.1; rw [hk] at this; cases this
    · intro b2 hb2
      rename_i k0
      walk_at "go"
      exact q _ ⟨fun z => ⟨by omega, hb1.mp hk, hb2.mp z⟩, fun z => hb2.mpr z.2.2⟩
  · exact bad fun h => hk (by rw [h.1])
end
set_option hygiene false in
local macro_rules | `(tactic| walk_at "call") => `(tactic| ((with_reducible show DL.WE _ (.Call (.Name "_law_pair_is_right" _) _ [] _) _ _ _); refine we_call (ok_pair_is_right T) (h := ?_)))
def sp_is_pair : DSp := fun ds μ Q => ∃ (ts : Tl) (bs : List Int), ds = [encF ts bs] ∧ ts.length ≤ 1000 ∧ bs.length ≤ 1000 ∧ Q (.bl true) μ
theorem sc_is_pair : FnScope ["found", "pair"] ["found"] (defScope s_is_pair) := ⟨rfl, rfl, rfl, by decide +kernel, rfl, by decide +kernel, by decide +kernel⟩
section
set_option hygiene false in
local macro_rules | `(tactic| walk_at "nm") => `(tactic| first | ((with_reducible show DL.WE _ (.Name "found" _) _ _ _); refine we_name 0 (q := ?_)) | ((with_reducible show DL.WE _ (.Name "pair" _) _ _ _); refine we_name 1 (q := ?_)))
set_option hygiene false in
local macro_rules | `(tactic| walk_at "set") => `(tactic| first | ((with_reducible show DL.WS _ (.Assign [.Name "found" _] _ _) _ _ _); refine ws_set 0 (h := ?_)) | ((with_reducible show DL.WS _ (.Assign [.Name "pair" _] _ _) _ _ _); refine ws_set 1 (h := ?_)))
set_option hygiene false in
local macro_rules | `(tactic| walk_at "gnm") => `(tactic| first | ((with_reducible show DL.WGi _ _ (.Name "found" _) _ _ _ _); refine wg_name 0 (q := ?_)) | ((with_reducible show DL.WGi _ _ (.Name "pair" _) _ _ _ _); refine wg_name 1 (q := ?_)))
set_option hygiene false in
local macro_rules | `(tactic| walk_at "E") => `(tactic| first | ((with_reducible show DL.WE _ (.ListComp _ _ _ ⟨141, 42, 141, 102⟩) _ _ _); refine we_lc [("pair", 1)] (h := ?_)))
set_option maxHeartbeats 1000000 in
theorem ok_is_pair (T : Txt K mg) : FnD P w K mg base 3 "_law_is_pair" sp_is_pair := by
  refine TF.ok 2 T.f_is_pair sc_is_pair (fun ds μ Q ⟨_, _, h, _⟩ => by rw [h]; rfl) fun ds μ Q h => ?_
  obtain ⟨ts, bs, rfl, ht, hb, q⟩ := h
  unfold encF
  walk_at "go"
  refine wi_tup ?_
  walk_at "go"
  refine LcHyp.mp ts pr (fun _ => .bl true) [1] (fun _ h => h) (sz1000 ht) (fun v i hv => ?_) ?_
  · walk_at "go"
    refine ⟨[v.1, v.2], rfl, by simp, ?_⟩
    walk_at "go"
  walk_at "go"
  exact q
end
set_option hygiene false in
local macro_rules | `(tactic| walk_at "call") => `(tactic| ((with_reducible show DL.WE _ (.Call (.Name "_law_is_pair" _) _ [] _) _ _ _); refine we_call (ok_is_pair T) (h := ?_)))
end K80
namespace K80
open PySem L2 DL Tell
variable {P : Program} {w : World} {K : PySem.W.Frag} {mg : Str → Option Value} {base : Heap}
set_option hygiene false in
local macro_rules | `(tactic| walk_at "side") => `(tactic| first
  | (with_reducible assumption)
  | rfl
  | omega
  | decide
  | exact ⟨by omega, by omega⟩
  | exact ⟨by decide, by decide⟩
  | exact .inl ⟨by decide, by decide⟩
  | exact .inr ⟨by decide, by decide⟩
  | exact .inl ⟨by omega, by omega⟩
  | exact .inr ⟨by omega, by omega⟩
  | exact ⟨by decide, by decide, by decide⟩
  | exact szb rfl
  | fail "side")
set_option hygiene false in
local macro_rules | `(tactic| walk_at "ne") => `(tactic| first
  | assumption
  | exact Ne.symm (by assumption)
  | exact ne_fresh (by assumption) (by assumption)
  | exact Ne.symm (ne_fresh (by assumption) (by assumption)))
/- what stands at an address -/
set_option hygiene false in
local macro_rules | `(tactic| walk_at "mem") => `(tactic| first
  | assumption
  | exact Mem.upd_same
  | exact (Mem.upd_ne (by walk_at "ne")).trans (by walk_at "mem"))
/- an item of a list -/
set_option hygiene false in
local macro_rules | `(tactic| walk_at "at") => `(tactic| first
  | rfl
  | exact atI_getI (by omega) (by omega)
  | exact atI_lastI (by first | omega | (simp only [List.length_map] at *; omega))
  | exact atI_lastM _ (by assumption)
  | exact atI_mapI _ (by omega) (by assumption)
  | exact atI_mapN _ (by assumption)
  | exact atI_get _ (by first | omega | (simp only [List.length_map, List.length_set] at *; omega)) (by first | omega | (simp only [List.length_map, List.length_set] at *; omega)))
/- tests that are decided or split -/
set_option hygiene false in
local macro_rules | `(tactic| walk_at "if") => `(tactic| first
  | refine if_tt ?_
  | refine if_ff ?_
  | refine if_f_tt ?_
  | refine if_f_ff ?_
  | (refine if_dec (fun hk => ?_) (fun hk => ?_))
  | (refine if_ndec (fun hk => ?_) (fun hk => ?_))
  | (refine if_f_dec (fun hk => ?_) (fun hk => ?_))
  | (refine if_f_ndec (fun hk => ?_) (fun hk => ?_))
  | (refine if_nb (fun hk => ?_) (fun hk => ?_))
  | (refine if_f_nb (fun hk => ?_) (fun hk => ?_))
  | (refine And.intro (fun hk => ?_) (fun hk => ?_)))
set_option hygiene false in
local macro_rules | `(tactic| walk_at "call") => `(tactic| first
  | ((with_reducible show DL.WE _ (.Call (.Name "len" _) _ [] _) _ _ _); refine we_callB bt_len T.b_len (h := ?_))
  | ((with_reducible show DL.WE _ (.Call (.Name "abs" _) _ [] _) _ _ _); refine we_callB bt_abs T.b_abs (h := ?_))
  | ((with_reducible show DL.WE _ (.Call (.Name "min" _) _ [] _) _ _ _); refine we_callB bt_min T.b_min (h := ?_))
  | ((with_reducible show DL.WE _ (.Call (.Name "max" _) _ [] _) _ _ _); refine we_callB bt_max T.b_max (h := ?_))
  | ((with_reducible show DL.WE _ (.Call (.Name "sum" _) _ [] _) _ _ _); refine we_callB bt_sum T.b_sum (h := ?_))
  | ((with_reducible show DL.WE _ (.Call (.Name "all" _) _ [] _) _ _ _); refine we_callB bt_all T.b_all (h := ?_))
  | ((with_reducible show DL.WE _ (.Call (.Name "any" _) _ [] _) _ _ _); refine we_callB bt_any T.b_any (h := ?_))
  | ((with_reducible show DL.WE _ (.Call (.Name "sorted" _) _ [] _) _ _ _); refine we_callB bt_sorted T.b_sorted (h := ?_))
  | ((with_reducible show DL.WE _ (.Call (.Name "isinstance" _) _ [] _) _ _ _); refine we_callB bt_isinstance T.b_isinstance (h := ?_))
  | ((with_reducible show DL.WE _ (.Call (.Name "int" _) _ [] _) _ _ _); refine we_callT bt_int T.b_int (h := ?_))
  | ((with_reducible show DL.WE _ (.Call (.Name "list" _) _ [] _) _ _ _); refine we_callT bt_list T.b_list (h := ?_))
  | ((with_reducible show DL.WE _ (.Call (.Name "tuple" _) _ [] _) _ _ _); refine we_callT bt_tuple T.b_tuple (h := ?_))
  | ((with_reducible show DL.WE _ (.Call (.Name "bool" _) _ [] _) _ _ _); refine we_callT bt_bool T.b_bool (h := ?_))
  | ((with_reducible show DL.WE _ (.Call (.Name "set" _) _ [] _) _ _ _); refine we_callT bt_set T.b_set (h := ?_)))
set_option hygiene false in
local macro_rules | `(tactic| walk_at "ty") => `(tactic| first
  | ((with_reducible show DL.WE _ (.Name "int" _) _ _ _); refine we_type rfl T.b_int bt_int (by decide) (by decide) ?_)
  | ((with_reducible show DL.WE _ (.Name "bool" _) _ _ _); refine we_type rfl T.b_bool bt_bool (by decide) (by decide) ?_)
  | ((with_reducible show DL.WE _ (.Name "tuple" _) _ _ _); refine we_type rfl T.b_tuple bt_tuple (by decide) (by decide) ?_)
  | ((with_reducible show DL.WE _ (.Name "list" _) _ _ _); refine we_type rfl T.b_list bt_list (by decide) (by decide) ?_))
set_option hygiene false in
local macro_rules | `(tactic| walk_at "E") => `(tactic| first
  | ((with_reducible show DL.WE _ (.Name _ _) _ _ _); first | walk_at "nm" | walk_at "ty")
  | ((with_reducible show DL.WE _ (.Constant _ _ _) _ _ _); first | refine we_int ?_ | refine we_str ?_ | refine we_bl ?_ | refine we_non ?_)
  | ((with_reducible show DL.WE _ (.Call (.Name "sorted" _) [.Call (.Name "set" _) [_] [] _] [] _) _ _ _); refine we_sortedSet T.b_sorted T.b_set (h := ?_))
  | ((with_reducible show DL.WE _ (.Call (.Name "list" _) [.Call (.Attribute _ "values" _) [] [] _] [] _) _ _ _); refine we_listVals T.b_list (h := ?_))
  | ((with_reducible show DL.WE _ (.Call (.Name _ _) _ [] _) _ _ _); walk_at "call")
  | ((with_reducible show DL.WE _ (.Call (.Attribute _ "get" _) [_, _] [] _) _ _ _); refine we_dget2A (h := ?_))
  | ((with_reducible show DL.WE _ (.Call (.Attribute _ "append" _) _ [] _) _ _ _); refine we_lmA PySem.F.slot_list_append PySem.F.type_list_append (h := ?_))
  | ((with_reducible show DL.WE _ (.Call (.Attribute _ "extend" _) _ [] _) _ _ _); refine we_lmA PySem.F.slot_list_extend PySem.F.type_list_extend (h := ?_))
  | ((with_reducible show DL.WE _ (.Call (.Attribute _ "pop" _) (_ :: _) [] _) _ _ _); refine we_lmA PySem.F.slot_list_pop PySem.F.type_list_pop (h := ?_))
  | ((with_reducible show DL.WE _ (.BinOp _ _ _ _) _ _ _); refine we_bin ?_)
  | ((with_reducible show DL.WE _ (.Compare _ [_] _ _) _ _ _); refine we_cmp (h := ?_))
  | ((with_reducible show DL.WE _ (.Compare _ [_, _] _ _) _ _ _); refine we_chain (h := ?_))
  | ((with_reducible show DL.WE _ (.Subscript _ (.Slice _ _ none _) _) _ _ _); refine we_slice ?_)
  | ((with_reducible show DL.WE _ (.Subscript _ (.Slice none none _ _) _) _ _ _); first | refine we_revL ?_ | refine we_slice ?_)
  | ((with_reducible show DL.WE _ (.Subscript _ _ _) _ _ _); refine we_sub (h := ?_))
  | ((with_reducible show DL.WE _ (.Tuple _ _ _) _ _ _); refine we_tup ?_)
  | ((with_reducible show DL.WE _ (.UnaryOp .Not _ _) _ _ _); refine we_not ?_)
  | ((with_reducible show DL.WE _ (.UnaryOp _ _ _) _ _ _); refine we_un ?_)
  | ((with_reducible show DL.WE _ (.BoolOp _ [_] _) _ _ _); refine we_one ?_)
  | ((with_reducible show DL.WE _ (.BoolOp .And _ _) _ _ _); refine we_and ?_)
  | ((with_reducible show DL.WE _ (.BoolOp .Or _ _) _ _ _); refine we_or ?_)
  | ((with_reducible show DL.WE _ (.IfExp _ _ _ _) _ _ _); refine we_ifExp ?_)
  | ((with_reducible show DL.WE _ (.List [] _) _ _ _); refine we_lstM (wa_nil ⟨szb rfl, fun p hp => ?_⟩))
  | ((with_reducible show DL.WE _ (.List _ _) _ _ _); refine we_lst ?_)
  | ((with_reducible show DL.WE _ (.Dict [] [] _) _ _ _); refine we_dctM (fun p hp => ?_)))
set_option hygiene false in
local macro_rules | `(tactic| walk_at "S") => `(tactic| first
  | ((with_reducible show DL.WS _ (.Assign [.Name _ _] _ _) _ _ _); walk_at "set")
  | ((with_reducible show DL.WS _ (.Return (some _) _) _ _ _); refine ws_ret' ?_)
  | ((with_reducible show DL.WS _ (.Return _ _) _ _ _); refine ws_retN ?_)
  | ((with_reducible show DL.WS _ (.If _ _ _ _) _ _ _); refine ws_if ?_)
  | ((with_reducible show DL.WS _ (.Expr _ _) _ _ _); refine ws_expr (h := ?_))
  | ((with_reducible show DL.WS _ (.Assign [.Tuple _ _ _] _ _) _ _ _); refine ws_asg (h := ?_))
  | ((with_reducible show DL.WS _ (.Assign [.Subscript _ _ _] _ _) _ _ _); refine ws_putA (h := ?_))
  | ((with_reducible show DL.WS _ (.AugAssign (.Name _ _) _ _ _) _ _ _); walk_at "aug")
  | ((with_reducible show DL.WS _ (.AugAssign (.Subscript _ _ _) .Add _ _) _ _ _); refine ws_augLA (fun _ => ip_add) (h := ?_))
  | ((with_reducible show DL.WS _ (.For _ _ _ [] _) _ _ _); refine ws_for (h := ?_))
  | ((with_reducible show DL.WS _ (.Pass _) _ _ _); refine ws_pass ?_)
  | ((with_reducible show DL.WS _ (.Break _) _ _ _); refine ws_break ?_)
  | ((with_reducible show DL.WS _ (.Continue _) _ _ _); refine ws_cont ?_))
set_option hygiene false in
local macro_rules | `(tactic| walk_at "T") => `(tactic| first
  | ((with_reducible show DL.WT _ (.Compare _ [_] _ _) _ _ _); refine wt_cmp (h := ?_))
  | ((with_reducible show DL.WT _ (.Compare _ [_, _] _ _) _ _ _); refine wt_chain (h := ?_))
  | ((with_reducible show DL.WT _ (.UnaryOp .Not _ _) _ _ _); refine wt_not ?_)
  | ((with_reducible show DL.WT _ (.BoolOp _ _ _) _ _ _); refine wt_ww ?_)
  | refine wt_val (h := ?_))
set_option hygiene false in
local macro_rules | `(tactic| walk_at "O") => `(tactic| first
  | ((with_reducible show DL.WO _ (binaryOp .Add) _ _ _ _); first | refine wo_add ?_ | refine wo_cat (.inl rfl) (.inl rfl) (by walk_at "sz") ?_ | refine wo_cat (.inr ⟨_, rfl, by walk_at "mem"⟩) (.inl rfl) (by walk_at "sz") ?_ | refine wo_catT (by walk_at "sz") ?_)
  | ((with_reducible show DL.WO _ (binaryOp .Sub) _ _ _ _); refine wo_sub ?_)
  | ((with_reducible show DL.WO _ (binaryOp .Mult) _ _ _ _); refine wo_mul (by walk_at "side") ?_)
  | ((with_reducible show DL.WO _ (binaryOp .FloorDiv) _ _ _ _); refine wo_fdiv (by walk_at "side") ?_)
  | ((with_reducible show DL.WO _ (binaryOp .Mod) _ _ _ _); refine wo_mod (by walk_at "side") ?_)
  | ((with_reducible show DL.WO _ (compareOp .Lt) _ _ _ _); refine wo_lt ?_)
  | ((with_reducible show DL.WO _ (compareOp .LtE) _ _ _ _); refine wo_le ?_)
  | ((with_reducible show DL.WO _ (compareOp .Gt) _ _ _ _); refine wo_gt ?_)
  | ((with_reducible show DL.WO _ (compareOp .GtE) _ _ _ _); refine wo_ge ?_)
  | ((with_reducible show DL.WO _ (compareOp .Eq) _ _ _ _); first | refine wo_eqI ?_ | refine wo_eqS ?_ | refine wo_eqB ?_ | refine wo_eqIL ?_ | refine wo_eqIT ?_)
  | ((with_reducible show DL.WO _ (compareOp .NotEq) _ _ _ _); first | refine wo_neI ?_ | refine wo_neS ?_ | refine wo_neB ?_ | refine wo_neIL ?_ | refine wo_neIT ?_)
  | ((with_reducible show DL.WO _ (compareOp .Is) _ _ _ _); first | refine wo_isB ?_ | refine wo_isN true (.inl ⟨rfl, rfl⟩) ?_ | refine wo_isN false (.inr ⟨rfl, fun z => by cases z⟩) ?_)
  | ((with_reducible show DL.WO _ (compareOp .IsNot) _ _ _ _); first | refine wo_isnotB ?_ | refine wo_notN false (.inl ⟨rfl, rfl⟩) ?_ | refine wo_notN true (.inr ⟨rfl, fun z => by cases z⟩) ?_)
  | ((with_reducible show DL.WO _ (compareOp .In) _ _ _ _); first | refine wo_inT ?_ | refine wo_inL ?_)
  | ((with_reducible show DL.WO _ (compareOp .NotIn) _ _ _ _); first | refine wo_notinT ?_ | refine wo_notinL ?_)
  | ((with_reducible show DL.WO _ (binaryOp .Pow) _ _ _ _); refine wo_pow (by walk_at "side") ?_)
  | ((with_reducible show DL.WO _ (binaryOp .LShift) _ _ _ _); refine wo_shl (by walk_at "side") ?_))
set_option hygiene false in
local macro_rules | `(tactic| walk_at "C") => `(tactic| first
  | ((with_reducible show DL.WC _ (.builtin "len") [.tup (List.map _ _)] _ _); refine wc_len_tupM ?_)
  | ((with_reducible show DL.WC _ (.builtin "len") [.lst (List.map _ _)] _ _); refine wc_len_lstM ?_)
  | ((with_reducible show DL.WC _ (.builtin "len") [.loc _] _ _); refine wc_len_loc (by walk_at "mem") ?_)
  | ((with_reducible show DL.WC _ (.builtin "len") _ _ _); first | refine wc_len_tup ?_ | refine wc_len_lst ?_)
  | ((with_reducible show DL.WC _ (.builtin "all") _ _ _); first | refine wc_allT ?_ | refine wc_allM ?_)
  | ((with_reducible show DL.WC _ (.builtin "any") _ _ _); refine wc_anyM ?_)
  | ((with_reducible show DL.WC _ (.type "int") _ _ _); first | refine wc_int ?_ | refine wc_intB ?_)
  | ((with_reducible show DL.WC _ (.builtin "abs") _ _ _); refine wc_abs ?_)
  | ((with_reducible show DL.WC _ (.builtin "max") _ _ _); refine wc_max2 ?_)
  | ((with_reducible show DL.WC _ (.builtin "min") _ _ _); refine wc_min2 ?_)
  | ((with_reducible show DL.WC _ (.type "tuple") _ _ _); first | refine wc_tuple (.inl rfl) ?_ | refine wc_tuple (.inr (.inl rfl)) ?_ | refine wc_tuple (.inr (.inr ⟨_, rfl, by walk_at "mem"⟩)) ?_)
  | ((with_reducible show DL.WC _ (.type "list") _ _ _); first | refine wc_list (.inl rfl) ?_ | refine wc_list (.inr (.inl rfl)) ?_ | refine wc_list (.inr (.inr ⟨_, rfl, by walk_at "mem"⟩)) ?_)
  | ((with_reducible show DL.WC _ (.builtin "isinstance") _ _ _); first | refine wc_isi (k := true) rfl (by decide +kernel) ?_ | refine wc_isi (k := false) rfl (by decide +kernel) ?_))
set_option hygiene false in
local macro_rules | `(tactic| walk_at "Ix") => `(tactic| first
  | ((with_reducible show DL.WIx _ (.loc _) _ _ _); refine wix_loc (by walk_at "mem") (by walk_at "at") ?_)
  | ((with_reducible show DL.WIx _ (.lst _) _ _ _); refine wix_lst (by walk_at "at") ?_)
  | ((with_reducible show DL.WIx _ (.tup _) _ _ _); refine wix_tup (by walk_at "at") ?_)
  | refine wix_tup rfl ?_
  | refine wix_lst rfl ?_)
set_option hygiene false in
local macro_rules | `(tactic| walk_at "M") => `(tactic| first
  | ((with_reducible show DL.WM _ "list.append" _ _ _ _); refine wm_append (by walk_at "mem") (by walk_at "sz") ?_))
set_option hygiene false in
local macro_rules | `(tactic| walk_at "sz") => `(tactic| first
  | exact szb rfl
  | exact szl (by first | omega | (simp only [List.length_map, List.length_append, List.length_cons, List.length_nil, rangeD_length] at *; omega))
  | exact szle (by first | omega | (simp only [List.length_map, List.length_append, List.length_cons, List.length_nil, rangeD_length] at *; omega)))
set_option hygiene false in
local macro_rules | `(tactic| walk_at "pre") => `(tactic| first
  | (with_reducible assumption)
  | ((with_reducible show _ = _); first | rfl | walk_at "mem" | (simp; done))
  | ((with_reducible show _ ∧ _); first | exact ⟨rfl, rfl⟩ | exact ⟨by omega, by omega⟩)
  | ((with_reducible show (_ : Nat) ≤ _); first | omega | (simp only [List.length_map, List.length_append, List.length_cons, List.length_nil, rangeD_length]; omega))
  | ((with_reducible show (_ : Nat) < _); first | omega | (simp only [List.length_map, List.length_append, List.length_cons, List.length_nil, rangeD_length]; omega))
  | ((with_reducible show (_ : Int) ≤ _); first | omega | (simp only [List.length_map, List.length_append, List.length_cons, List.length_nil, rangeD_length]; omega))
  | ((with_reducible show (_ : Int) < _); first | omega | (simp only [List.length_map, List.length_append, List.length_cons, List.length_nil, rangeD_length]; omega) | (simp; done))
  | assumption
  | (simp; done))
set_option hygiene false in
local macro_rules | `(tactic| walk_at "I") => `(tactic| first
  | ((with_reducible show DL.WI _ _ (.Call (.Name "range" _) [_] [] _) _ _ _); refine wi_range1 T.b_range (h := ?_))
  | ((with_reducible show DL.WI _ _ (.Call (.Name "range" _) [_, _] [] _) _ _ _); refine wi_range2 T.b_range (h := ?_))
  | ((with_reducible show DL.WI _ _ (.Call (.Name "range" _) [_, _, _] [] _) _ _ _); refine wi_range3n T.b_range (h := ?_))
  | ((with_reducible show DL.WI _ _ (.Call (.Name "enumerate" _) [_] [] _) _ _ _); refine wi_enum T.b_enumerate (h := ?_))
  | ((with_reducible show DL.WI _ _ (.Call (.Name "zip" _) [_, _] [] _) _ _ _); refine wi_zip T.b_zip (h := ?_))
  | ((with_reducible show DL.WI _ _ (.Call _ _ _ _) _ _ _); refine wi_lst ?_))
/- one step -/
set_option hygiene false in
local macro_rules | `(tactic| walk_at "dl") => `(tactic| first
  | ((with_reducible show DL.WE _ _ _ _ _); walk_at "E")
  | ((with_reducible show DL.WSs _ _ _ _ _); first | refine wss_cons ?_ | refine wss_nil ?_)
  | ((with_reducible show DL.WS _ _ _ _ _); walk_at "S")
  | ((with_reducible show DL.WA _ _ _ _ _); first | refine wa_cons (h := ?_) | refine wa_nil ?_)
  | ((with_reducible show DL.WO _ _ _ _ _ _); walk_at "O")
  | ((with_reducible show DL.WT _ _ _ _ _); walk_at "T")
  | ((with_reducible show DL.WW _ _ _ _ _); first | refine ww_and ?_ | refine ww_or ?_ | refine ww_and1 ?_ | refine ww_or1 ?_)
  | ((with_reducible show DL.WC _ _ _ _ _); walk_at "C")
  | ((with_reducible show DL.WIx _ _ _ _ _); walk_at "Ix")
  | ((with_reducible show DL.WM _ _ _ _ _ _); walk_at "M")
  | ((with_reducible show DL.WU _ _ _ _ _); refine wu_neg ?_)
  | ((with_reducible show DL.WGi _ _ (.Name _ _) _ _ _ _); walk_at "gnm")
  | ((with_reducible show DL.WGi _ _ _ _ _ _ _); refine wg_tup _ (h := ?_))
  | ((with_reducible show DL.WGs _ _ _ _ _ _ _); first | refine wgs_cons (h := ?_) | refine wgs_nil ?_)
  | ((with_reducible show DL.WI _ _ _ _ _ _); walk_at "I")
  | ((with_reducible show DL.WTs _ _ _ _ _); first | refine wts_one ?_ | refine wts_nil ?_)
  | ((with_reducible show DL.WP _ _ _ _ _); first | refine wp_none ?_ | refine wp_some ?_)
  | ((with_reducible show DL.WSl _ _ _ _ _ _); first | refine wsl_tup ?_ | refine wsl_lst ?_ | refine wsl_loc (by walk_at "mem") ?_)
  | ((with_reducible show _ = true → DL.WE _ _ _ _ _); intro hk)
  | ((with_reducible show (_ = _ → _) ∧ (_ = _ → _)); walk_at "if")
  | ((with_reducible refine ⟨_, ixN_nat ?_ ?_, ?_⟩); (focus omega); (focus first | omega | (simp only [List.length_map, List.length_set, List.length_append] at *; omega)))
  | refine ⟨_, rfl, ?_⟩
  | refine ⟨szb rfl, ?_⟩
  | refine ⟨.inl _, rfl, ?_⟩
  | refine ⟨.inr _, rfl, ?_⟩
  | refine ⟨_, .inl (by walk_at "mem"), ?_⟩
  | refine ⟨_, .inr ⟨_, _, by walk_at "mem"⟩, ?_⟩
  | refine ⟨_, .inr ⟨_, rfl, by walk_at "mem"⟩, ?_⟩
  | refine ⟨_, .inl rfl, ?_⟩
  | refine ⟨_, .inr (.inl rfl), ?_⟩
  | refine ⟨_, .inr rfl, ?_⟩
  | ((with_reducible show _ ∧ _); refine ⟨by walk_at "pre", ?_⟩)
  | refine ⟨_, by walk_at "mem", ?_⟩
  | refine ⟨_, _, rfl, ?_⟩
  | refine ⟨_, _, _, rfl, ?_⟩
  | refine ⟨_, _, _, _, rfl, ?_⟩
  | refine ⟨_, _, _, _, _, rfl, ?_⟩
  | refine ⟨_, _, _, _, _, _, rfl, ?_⟩
  | refine ⟨_, _, _, _, _, _, _, rfl, ?_⟩
  | ((with_reducible show (_ : Mem) = _); rfl)
  | fail "stuck")
/- one step, within a statement -/
set_option hygiene false in
local macro_rules | `(tactic| walk_at "dlE") => `(tactic| first
  | ((with_reducible show DL.WE _ _ _ _ _); walk_at "E")
  | ((with_reducible show DL.WS _ _ _ _ _); walk_at "S")
  | ((with_reducible show DL.WA _ _ _ _ _); first | refine wa_cons (h := ?_) | refine wa_nil ?_)
  | ((with_reducible show DL.WO _ _ _ _ _ _); walk_at "O")
  | ((with_reducible show DL.WT _ _ _ _ _); walk_at "T")
  | ((with_reducible show DL.WW _ _ _ _ _); first | refine ww_and ?_ | refine ww_or ?_ | refine ww_and1 ?_ | refine ww_or1 ?_)
  | ((with_reducible show DL.WC _ _ _ _ _); walk_at "C")
  | ((with_reducible show DL.WIx _ _ _ _ _); walk_at "Ix")
  | ((with_reducible show DL.WM _ _ _ _ _ _); walk_at "M")
  | ((with_reducible show DL.WU _ _ _ _ _); refine wu_neg ?_)
  | ((with_reducible show DL.WGi _ _ (.Name _ _) _ _ _ _); walk_at "gnm")
  | ((with_reducible show DL.WGi _ _ _ _ _ _ _); refine wg_tup _ (h := ?_))
  | ((with_reducible show DL.WGs _ _ _ _ _ _ _); first | refine wgs_cons (h := ?_) | refine wgs_nil ?_)
  | ((with_reducible show DL.WI _ _ _ _ _ _); walk_at "I")
  | ((with_reducible show DL.WTs _ _ _ _ _); first | refine wts_one ?_ | refine wts_nil ?_)
  | ((with_reducible show DL.WP _ _ _ _ _); first | refine wp_none ?_ | refine wp_some ?_)
  | ((with_reducible show DL.WSl _ _ _ _ _ _); first | refine wsl_tup ?_ | refine wsl_lst ?_ | refine wsl_loc (by walk_at "mem") ?_)
  | ((with_reducible show _ = true → DL.WE _ _ _ _ _); intro hk)
  | ((with_reducible show (_ = _ → _) ∧ (_ = _ → _)); walk_at "if")
  | ((with_reducible refine ⟨_, ixN_nat ?_ ?_, ?_⟩); (focus omega); (focus first | omega | (simp only [List.length_map, List.length_set, List.length_append] at *; omega)))
  | refine ⟨_, rfl, ?_⟩
  | refine ⟨szb rfl, ?_⟩
  | refine ⟨.inl _, rfl, ?_⟩
  | refine ⟨.inr _, rfl, ?_⟩
  | refine ⟨_, .inl (by walk_at "mem"), ?_⟩
  | refine ⟨_, .inr ⟨_, _, by walk_at "mem"⟩, ?_⟩
  | refine ⟨_, .inr ⟨_, rfl, by walk_at "mem"⟩, ?_⟩
  | refine ⟨_, .inl rfl, ?_⟩
  | refine ⟨_, .inr (.inl rfl), ?_⟩
  | refine ⟨_, .inr rfl, ?_⟩
  | ((with_reducible show _ ∧ _); refine ⟨by walk_at "pre", ?_⟩)
  | refine ⟨_, by walk_at "mem", ?_⟩
  | refine ⟨_, _, rfl, ?_⟩
  | refine ⟨_, _, _, rfl, ?_⟩
  | refine ⟨_, _, _, _, rfl, ?_⟩
  | refine ⟨_, _, _, _, _, rfl, ?_⟩
  | refine ⟨_, _, _, _, _, _, rfl, ?_⟩
  | refine ⟨_, _, _, _, _, _, _, rfl, ?_⟩
  | ((with_reducible show (_ : Mem) = _); rfl)
  | fail "stuck")
set_option hygiene false in
local macro_rules | `(tactic| walk_at "goE") => `(tactic| repeat' walk_at "dlE")
set_option hygiene false in
local macro_rules | `(tactic| walk_at "go") => `(tactic| repeat' walk_at "dl")
set_option hygiene false in
local macro_rules | `(tactic| walk_at "nx") => `(tactic| ((try rw [Mem.upd_upd]); walk_at "go"))
set_option hygiene false in
local macro_rules | `(tactic| walk_at "call") => `(tactic| ((with_reducible show DL.WE _ (.Call (.Name "_law_begin" _) _ [] _) _ _ _); refine we_call (ok_begin T) (h := ?_)))
set_option hygiene false in
local macro_rules | `(tactic| walk_at "call") => `(tactic| ((with_reducible show DL.WE _ (.Call (.Name "_law_draw" _) _ [] _) _ _ _); refine we_call (ok_draw T) (h := ?_)))
set_option hygiene false in
local macro_rules | `(tactic| walk_at "call") => `(tactic| ((with_reducible show DL.WE _ (.Call (.Name "_law_pick" _) _ [] _) _ _ _); refine we_call (ok_pick T) (h := ?_)))
set_option hygiene false in
local macro_rules | `(tactic| walk_at "call") => `(tactic| ((with_reducible show DL.WE _ (.Call (.Name "_law_is_int" _) _ [] _) _ _ _); refine we_call (ok_is_int T) (h := ?_)))
set_option hygiene false in
local macro_rules | `(tactic| walk_at "call") => `(tactic| ((with_reducible show DL.WE _ (.Call (.Name "_law_is_ints" _) _ [] _) _ _ _); refine we_call (ok_is_ints T) (h := ?_)))
set_option hygiene false in
local macro_rules | `(tactic| walk_at "call") => `(tactic| ((with_reducible show DL.WE _ (.Call (.Name "is_whole" _) _ [] _) _ _ _); refine we_call (ok_is_whole T) (h := ?_)))
set_option hygiene false in
local macro_rules | `(tactic| walk_at "call") => `(tactic| ((with_reducible show DL.WE _ (.Call (.Name "allowed_at" _) _ [] _) _ _ _); refine we_call (ok_allowed_at T) (h := ?_)))
set_option hygiene false in
local macro_rules | `(tactic| walk_at "call") => `(tactic| ((with_reducible show DL.WE _ (.Call (.Name "reach_of" _) _ [] _) _ _ _); refine we_call (ok_reach_of T) (h := ?_)))
set_option hygiene false in
local macro_rules | `(tactic| walk_at "call") => `(tactic| ((with_reducible show DL.WE _ (.Call (.Name "fewest_tellings" _) _ [] _) _ _ _); refine we_call (ok_fewest_tellings T) (h := ?_)))
set_option hygiene false in
local macro_rules | `(tactic| walk_at "call") => `(tactic| ((with_reducible show DL.WE _ (.Call (.Name "is_right_plan" _) _ [] _) _ _ _); refine we_call (ok_is_right_plan T) (h := ?_)))
set_option hygiene false in
local macro_rules | `(tactic| walk_at "call") => `(tactic| ((with_reducible show DL.WE _ (.Call (.Name "are_right_bars" _) _ [] _) _ _ _); refine we_call (ok_are_right_bars T) (h := ?_)))
set_option hygiene false in
local macro_rules | `(tactic| walk_at "call") => `(tactic| ((with_reducible show DL.WE _ (.Call (.Name "judge_tellings" _) _ [] _) _ _ _); refine we_call (ok_judge_tellings T) (h := ?_)))
set_option hygiene false in
local macro_rules | `(tactic| walk_at "call") => `(tactic| ((with_reducible show DL.WE _ (.Call (.Name "_law_given" _) _ [] _) _ _ _); refine we_call (ok_given T) (h := ?_)))
set_option hygiene false in
local macro_rules | `(tactic| walk_at "call") => `(tactic| ((with_reducible show DL.WE _ (.Call (.Name "_law_plan_is_right" _) _ [] _) _ _ _); refine we_call (ok_plan_is_right T) (h := ?_)))
set_option hygiene false in
local macro_rules | `(tactic| walk_at "call") => `(tactic| ((with_reducible show DL.WE _ (.Call (.Name "_law_end" _) _ [] _) _ _ _); refine we_call (ok_end T) (h := ?_)))
set_option hygiene false in
local macro_rules | `(tactic| walk_at "call") => `(tactic| ((with_reducible show DL.WE _ (.Call (.Name "_law_bars_are_right" _) _ [] _) _ _ _); refine we_call (ok_bars_are_right T) (h := ?_)))
set_option hygiene false in
local macro_rules | `(tactic| walk_at "call") => `(tactic| ((with_reducible show DL.WE _ (.Call (.Name "_law_pair_is_right" _) _ [] _) _ _ _); refine we_call (ok_pair_is_right T) (h := ?_)))
set_option hygiene false in
local macro_rules | `(tactic| walk_at "call") => `(tactic| ((with_reducible show DL.WE _ (.Call (.Name "_law_is_pair" _) _ [] _) _ _ _); refine we_call (ok_is_pair T) (h := ?_)))
def sp_values : DSp := fun ds μ Q => ∃ a : Addr, ds = [.loc a] ∧ ∃ l, μ a = some (.lst l) ∧ IsDr l ∧ ∀ (l' : List D) (vs : List Int), IsDr l' → 0 < vs.length → vs.length ≤ 300 → Q (.tup (iD vs)) (μ.upd a (.lst l'))
theorem sc_values : FnScope ["d", "many", "span", "scale", "found", "k"] ["d"] (defScope s_values) := ⟨rfl, rfl, rfl, by decide +kernel, rfl, by decide +kernel, by decide +kernel⟩
section
set_option hygiene false in
local macro_rules | `(tactic| walk_at "nm") => `(tactic| first | ((with_reducible show DL.WE _ (.Name "d" _) _ _ _); refine we_name 0 (q := ?_)) | ((with_reducible show DL.WE _ (.Name "many" _) _ _ _); refine we_name 1 (q := ?_)) | ((with_reducible show DL.WE _ (.Name "span" _) _ _ _); refine we_name 2 (q := ?_)) | ((with_reducible show DL.WE _ (.Name "scale" _) _ _ _); refine we_name 3 (q := ?_)) | ((with_reducible show DL.WE _ (.Name "found" _) _ _ _); refine we_name 4 (q := ?_)) | ((with_reducible show DL.WE _ (.Name "k" _) _ _ _); refine we_name 5 (q := ?_)))
set_option hygiene false in
local macro_rules | `(tactic| walk_at "set") => `(tactic| first | ((with_reducible show DL.WS _ (.Assign [.Name "d" _] _ _) _ _ _); refine ws_set 0 (h := ?_)) | ((with_reducible show DL.WS _ (.Assign [.Name "many" _] _ _) _ _ _); refine ws_set 1 (h := ?_)) | ((with_reducible show DL.WS _ (.Assign [.Name "span" _] _ _) _ _ _); refine ws_set 2 (h := ?_)) | ((with_reducible show DL.WS _ (.Assign [.Name "scale" _] _ _) _ _ _); refine ws_set 3 (h := ?_)) | ((with_reducible show DL.WS _ (.Assign [.Name "found" _] _ _) _ _ _); refine ws_set 4 (h := ?_)) | ((with_reducible show DL.WS _ (.Assign [.Name "k" _] _ _) _ _ _); refine ws_set 5 (h := ?_)))
set_option hygiene false in
local macro_rules | `(tactic| walk_at "gnm") => `(tactic| first | ((with_reducible show DL.WGi _ _ (.Name "d" _) _ _ _ _); refine wg_name 0 (q := ?_)) | ((with_reducible show DL.WGi _ _ (.Name "many" _) _ _ _ _); refine wg_name 1 (q := ?_)) | ((with_reducible show DL.WGi _ _ (.Name "span" _) _ _ _ _); refine wg_name 2 (q := ?_)) | ((with_reducible show DL.WGi _ _ (.Name "scale" _) _ _ _ _); refine wg_name 3 (q := ?_)) | ((with_reducible show DL.WGi _ _ (.Name "found" _) _ _ _ _); refine wg_name 4 (q := ?_)) | ((with_reducible show DL.WGi _ _ (.Name "k" _) _ _ _ _); refine wg_name 5 (q := ?_)))
set_option maxHeartbeats 1000000 in
theorem ok_values (T : Txt K mg) : FnD P w K mg base 3 "_law_values" sp_values := by
  refine TF.ok 2 T.f_values sc_values (fun ds μ Q ⟨_, h, _⟩ => by rw [h]; rfl) fun ds μ Q h => ?_
  obtain ⟨a, rfl, l, hm, hl, q⟩ := h
  walk_at "go"
  intro l1 r1 hl1 r1a r1b
  walk_at "go"
  intro l2 r2 hl2 r2a r2b
  walk_at "dl"
  refine wss_mid (fun ρ1 μ1 => ∃ (l' : List D) (many span : Int), IsDr l' ∧ μ1 = μ.upd a (.lst l') ∧ ρ1 = [some (.loc a), some (.int many), some (.int span), none, none, none] ∧ 1 ≤ many ∧ many ≤ 300 ∧ 1 ≤ span ∧ span ≤ 400) ?_ ?_
  · walk_at "go"
    intro l3 r3 hl3 r3a r3b
    walk_at "go"
    · intro l4 r4 hl4 r4a r4b
      walk_at "nx"
      intro l5 x hl5 hx
      walk_at "nx"
      simp only [List.mem_cons, List.not_mem_nil, or_false] at hx
      rcases hx with rfl | rfl | rfl
      all_goals exact ⟨l5, _, _, hl5, by simp only [Mem.upd_upd], rfl, by omega, by omega, by omega, by omega⟩
    · rw [Mem.upd_upd, Mem.upd_upd]
      exact ⟨l3, _, _, hl3, rfl, rfl, by omega, by omega, by omega, by omega⟩
  · rintro ρ1 μ1 ⟨l3, many, span, hl3, rfl, rfl, m1, m2, s1, s2⟩
    walk_at "go"
    intro l4 x hl4 hx
    have hsc : ∃ sc : Int, x = .int sc := by
      simp only [List.mem_cons, List.not_mem_nil, or_false] at hx
      rcases hx with rfl | rfl | rfl | rfl <;> exact ⟨_, rfl⟩
    obtain ⟨sc, rfl⟩ := hsc
    clear hx
    rw [Mem.upd_upd]
    walk_at "go"
    have hap : a ≠ p := ne_fresh Mem.upd_same hp
    have hp0 : μ p = none := by rwa [Mem.upd_ne (Ne.symm hap)] at hp
    walk_at "go"
    refine ⟨[5], fun i ρ' μ' => ∃ (l' : List D) (xs : List Int) (o1 : Option D), IsDr l' ∧ xs.length = i ∧ μ' a = some (.lst l') ∧ μ' p = some (.lst (iD xs)) ∧ Kp [a] μ μ' ∧ ρ' = [some (.loc a), some (.int many), some (.int span), some (.int sc), some (.loc p), o1], ⟨l4, [], none, hl4, rfl, (Mem.upd_ne hap).trans Mem.upd_same, Mem.upd_same, (Kp.refl.upd (by simp)).fresh hp0, rfl⟩, ?_, ?_⟩
    · rintro i d ρ' μ' hd ⟨l', xs, o1, hl', hxs, ma, mp, kp, rfl⟩
      obtain ⟨hi, rfl⟩ := rangeD_get hd
      walk_at "go"
      · intro l5 r5 hl5 r5a r5b
        walk_at "go"
        · refine ⟨l5, xs ++ [xs.getD (xs.length - 1) 0], _, hl5, by simp [hxs], (Mem.upd_ne hap).trans Mem.upd_same, ?_, (kp.upd (by simp)).fresh hp0, rfl⟩
          rw [Mem.upd_same]; simp
        · intro l6 r6 hl6 r6a r6b
          walk_at "nx"
          refine ⟨l6, xs ++ [(r6 - 1) * sc], _, hl6, by simp [hxs], (Mem.upd_ne hap).trans Mem.upd_same, ?_, (kp.upd (by simp)).fresh hp0, rfl⟩
          rw [Mem.upd_same]; simp
      · intro l6 r6 hl6 r6a r6b
        walk_at "nx"
        refine ⟨l6, xs ++ [(r6 - 1) * sc], _, hl6, by simp [hxs], (Mem.upd_ne hap).trans Mem.upd_same, ?_, (kp.upd (by simp)).fresh hp0, rfl⟩
        rw [Mem.upd_same]; simp
    · rintro ρ' μ' ⟨l', xs, o1, hl', hxs, ma, mp, kp, rfl⟩
      rw [rangeD_length] at hxs
      refine wss_cons (ws_ret ?_)
      walk_at "go"
      exact ⟨_, kp.sub ma, q l' xs hl' (by omega) (by omega)⟩
end
set_option hygiene false in
local macro_rules | `(tactic| walk_at "call") => `(tactic| ((with_reducible show DL.WE _ (.Call (.Name "_law_values" _) _ [] _) _ _ _); refine we_call (ok_values T) (h := ?_)))
def sp_slack : DSp := fun ds μ Q => ∃ (a : Addr) (n : Int), ds = [.loc a, .int n] ∧ 0 ≤ n ∧ n ≤ 300 ∧ ∃ l, μ a = some (.lst l) ∧ IsDr l ∧ ∀ (l' : List D) (s : Nat), IsDr l' → s ≤ 300 → Q (.int s) (μ.upd a (.lst l'))
theorem sc_slack : FnScope ["d", "many", "way"] ["d", "many"] (defScope s_slack) := ⟨rfl, rfl, rfl, by decide +kernel, rfl, by decide +kernel, by decide +kernel⟩
section
set_option hygiene false in
local macro_rules | `(tactic| walk_at "nm") => `(tactic| first | ((with_reducible show DL.WE _ (.Name "d" _) _ _ _); refine we_name 0 (q := ?_)) | ((with_reducible show DL.WE _ (.Name "many" _) _ _ _); refine we_name 1 (q := ?_)) | ((with_reducible show DL.WE _ (.Name "way" _) _ _ _); refine we_name 2 (q := ?_)))
set_option hygiene false in
local macro_rules | `(tactic| walk_at "set") => `(tactic| first | ((with_reducible show DL.WS _ (.Assign [.Name "d" _] _ _) _ _ _); refine ws_set 0 (h := ?_)) | ((with_reducible show DL.WS _ (.Assign [.Name "many" _] _ _) _ _ _); refine ws_set 1 (h := ?_)) | ((with_reducible show DL.WS _ (.Assign [.Name "way" _] _ _) _ _ _); refine ws_set 2 (h := ?_)))
set_option hygiene false in
local macro_rules | `(tactic| walk_at "gnm") => `(tactic| first | ((with_reducible show DL.WGi _ _ (.Name "d" _) _ _ _ _); refine wg_name 0 (q := ?_)) | ((with_reducible show DL.WGi _ _ (.Name "many" _) _ _ _ _); refine wg_name 1 (q := ?_)) | ((with_reducible show DL.WGi _ _ (.Name "way" _) _ _ _ _); refine wg_name 2 (q := ?_)))
set_option maxHeartbeats 1000000 in
theorem ok_slack (T : Txt K mg) : FnD P w K mg base 2 "_law_slack" sp_slack := by
  refine TF.ok 1 T.f_slack sc_slack (fun ds μ Q ⟨_, _, h, _⟩ => by rw [h]; rfl) fun ds μ Q h => ?_
  obtain ⟨a, n, rfl, n0, n1, l, hm, hl, q⟩ := h
  have q' : ∀ (l' : List D) (x : Int), IsDr l' → 0 ≤ x → x ≤ 300 → Q (.int x) (μ.upd a (.lst l')) := fun l' x hl' h0 h1 => by
    obtain ⟨s, rfl⟩ := Int.eq_ofNat_of_zero_le h0
    exact q l' s hl' (by omega)
  walk_at "go"
  intro l1 r1 hl1 r1a r1b
  walk_at "go"
  · exact q' l1 0 hl1 (by omega) (by omega)
  · intro l2 r2 hl2 r2a r2b
    walk_at "nx"
    exact q' l2 _ hl2 (by omega) (by omega)
  · intro l2 r2 hl2 r2a r2b
    walk_at "nx"
    exact q' l2 _ hl2 (by split <;> omega) (by split <;> omega)
  · intro l2 r2 hl2 r2a r2b
    walk_at "nx"
    exact q' l2 _ hl2 (by omega) (by omega)
end
set_option hygiene false in
local macro_rules | `(tactic| walk_at "call") => `(tactic| ((with_reducible show DL.WE _ (.Call (.Name "_law_slack" _) _ [] _) _ _ _); refine we_call (ok_slack T) (h := ?_)))
def sp_told_at : DSp := fun ds μ Q => ∃ (ts : Tl) (m : Int), ds = [.lst (ts.map pr), .int m] ∧ ts.length ≤ 1000 ∧ 0 ≤ m ∧ (∃ v, ts[0]? = some (0, v)) ∧ ∀ v : Int, Q (.int v) μ
theorem sc_told_at : FnScope ["tellings", "moment", "pair"] ["tellings", "moment"] (defScope s_told_at) := ⟨rfl, rfl, rfl, by decide +kernel, rfl, by decide +kernel, by decide +kernel⟩
section
set_option hygiene false in
local macro_rules | `(tactic| walk_at "nm") => `(tactic| first | ((with_reducible show DL.WE _ (.Name "tellings" _) _ _ _); refine we_name 0 (q := ?_)) | ((with_reducible show DL.WE _ (.Name "moment" _) _ _ _); refine we_name 1 (q := ?_)) | ((with_reducible show DL.WE _ (.Name "pair" _) _ _ _); refine we_name 2 (q := ?_)))
set_option hygiene false in
local macro_rules | `(tactic| walk_at "set") => `(tactic| first | ((with_reducible show DL.WS _ (.Assign [.Name "tellings" _] _ _) _ _ _); refine ws_set 0 (h := ?_)) | ((with_reducible show DL.WS _ (.Assign [.Name "moment" _] _ _) _ _ _); refine ws_set 1 (h := ?_)) | ((with_reducible show DL.WS _ (.Assign [.Name "pair" _] _ _) _ _ _); refine ws_set 2 (h := ?_)))
set_option hygiene false in
local macro_rules | `(tactic| walk_at "gnm") => `(tactic| first | ((with_reducible show DL.WGi _ _ (.Name "tellings" _) _ _ _ _); refine wg_name 0 (q := ?_)) | ((with_reducible show DL.WGi _ _ (.Name "moment" _) _ _ _ _); refine wg_name 1 (q := ?_)) | ((with_reducible show DL.WGi _ _ (.Name "pair" _) _ _ _ _); refine wg_name 2 (q := ?_)))
set_option hygiene false in
local macro_rules | `(tactic| walk_at "E") => `(tactic| first | ((with_reducible show DL.WE _ (.ListComp _ _ _ ⟨166, 11, 166, 62⟩) _ _ _); refine we_lc [("pair", 2)] (h := ?_)))
set_option hygiene false in
local macro_rules | `(tactic| walk_at "I") => `(tactic| first | ((with_reducible show DL.WI _ _ (.Name "tellings" _) _ _ _); first | refine wi_name 0 (s := .inl rfl) (h := ?_) | refine wi_name 0 (s := .inr rfl) (h := ?_)))
set_option maxHeartbeats 1000000 in
theorem ok_told_at (T : Txt K mg) : FnD P w K mg base 1 "_law_told_at" sp_told_at := by
  refine TF.ok 0 T.f_told_at sc_told_at (fun ds μ Q ⟨_, _, h, _⟩ => by rw [h]; rfl) fun ds μ Q h => ?_
  obtain ⟨ts, m, rfl, ht, hm, h0, q⟩ := h
  walk_at "go"
  refine LcHyp.fm ts pr (fun q => decide (q.1 ≤ m)) (fun q => .int q.2) [2] (fun _ h => h) (sz1000 ht) (fun v i hv => ?_) ?_
  · walk_at "go"
  · obtain ⟨v, h0⟩ := h0
    have hin : (0, v) ∈ ts.filter (fun q => decide (q.1 ≤ m)) := List.mem_filter.mpr ⟨List.mem_of_getElem? h0, by simpa using hm⟩
    cases e : (ts.filter (fun q => decide (q.1 ≤ m))).getLast? with
    | none => rw [List.getLast?_eq_none_iff.mp e] at hin; cases hin
    | some u =>
      walk_at "go"
      exact q u.2
end
set_option hygiene false in
local macro_rules | `(tactic| walk_at "call") => `(tactic| ((with_reducible show DL.WE _ (.Call (.Name "_law_told_at" _) _ [] _) _ _ _); refine we_call (ok_told_at T) (h := ?_)))
end K80
namespace K80
open PySem L2 DL Tell
variable {P : Program} {w : World} {K : PySem.W.Frag} {mg : Str → Option Value} {base : Heap}
set_option hygiene false in
local macro_rules | `(tactic| walk_at "side") => `(tactic| first
  | (with_reducible assumption)
  | rfl
  | omega
  | decide
  | exact ⟨by omega, by omega⟩
  | exact ⟨by decide, by decide⟩
  | exact .inl ⟨by decide, by decide⟩
  | exact .inr ⟨by decide, by decide⟩
  | exact .inl ⟨by omega, by omega⟩
  | exact .inr ⟨by omega, by omega⟩
  | exact ⟨by decide, by decide, by decide⟩
  | exact szb rfl
  | fail "side")
set_option hygiene false in
local macro_rules | `(tactic| walk_at "ne") => `(tactic| first
  | assumption
  | exact Ne.symm (by assumption)
  | exact ne_fresh (by assumption) (by assumption)
  | exact Ne.symm (ne_fresh (by assumption) (by assumption)))
/- what stands at an address -/
set_option hygiene false in
local macro_rules | `(tactic| walk_at "mem") => `(tactic| first
  | assumption
  | exact Mem.upd_same
  | exact (Mem.upd_ne (by walk_at "ne")).trans (by walk_at "mem"))
/- an item of a list -/
set_option hygiene false in
local macro_rules | `(tactic| walk_at "at") => `(tactic| first
  | rfl
  | exact atI_getI (by omega) (by omega)
  | exact atI_lastI (by first | omega | (simp only [List.length_map] at *; omega))
  | exact atI_lastM _ (by assumption)
  | exact atI_mapI _ (by omega) (by assumption)
  | exact atI_mapN _ (by assumption)
  | exact atI_get _ (by first | omega | (simp only [List.length_map, List.length_set] at *; omega)) (by first | omega | (simp only [List.length_map, List.length_set] at *; omega)))
/- tests that are decided or split -/
set_option hygiene false in
local macro_rules | `(tactic| walk_at "if") => `(tactic| first
  | refine if_tt ?_
  | refine if_ff ?_
  | refine if_f_tt ?_
  | refine if_f_ff ?_
  | (refine if_dec (fun hk => ?_) (fun hk => ?_))
  | (refine if_ndec (fun hk => ?_) (fun hk => ?_))
  | (refine if_f_dec (fun hk => ?_) (fun hk => ?_))
  | (refine if_f_ndec (fun hk => ?_) (fun hk => ?_))
  | (refine if_nb (fun hk => ?_) (fun hk => ?_))
  | (refine if_f_nb (fun hk => ?_) (fun hk => ?_))
  | (refine And.intro (fun hk => ?_) (fun hk => ?_)))
set_option hygiene false in
local macro_rules | `(tactic| walk_at "call") => `(tactic| first
  | ((with_reducible show DL.WE _ (.Call (.Name "len" _) _ [] _) _ _ _); refine we_callB bt_len T.b_len (h := ?_))
  | ((with_reducible show DL.WE _ (.Call (.Name "abs" _) _ [] _) _ _ _); refine we_callB bt_abs T.b_abs (h := ?_))
  | ((with_reducible show DL.WE _ (.Call (.Name "min" _) _ [] _) _ _ _); refine we_callB bt_min T.b_min (h := ?_))
  | ((with_reducible show DL.WE _ (.Call (.Name "max" _) _ [] _) _ _ _); refine we_callB bt_max T.b_max (h := ?_))
  | ((with_reducible show DL.WE _ (.Call (.Name "sum" _) _ [] _) _ _ _); refine we_callB bt_sum T.b_sum (h := ?_))
  | ((with_reducible show DL.WE _ (.Call (.Name "all" _) _ [] _) _ _ _); refine we_callB bt_all T.b_all (h := ?_))
  | ((with_reducible show DL.WE _ (.Call (.Name "any" _) _ [] _) _ _ _); refine we_callB bt_any T.b_any (h := ?_))
  | ((with_reducible show DL.WE _ (.Call (.Name "sorted" _) _ [] _) _ _ _); refine we_callB bt_sorted T.b_sorted (h := ?_))
  | ((with_reducible show DL.WE _ (.Call (.Name "isinstance" _) _ [] _) _ _ _); refine we_callB bt_isinstance T.b_isinstance (h := ?_))
  | ((with_reducible show DL.WE _ (.Call (.Name "int" _) _ [] _) _ _ _); refine we_callT bt_int T.b_int (h := ?_))
  | ((with_reducible show DL.WE _ (.Call (.Name "list" _) _ [] _) _ _ _); refine we_callT bt_list T.b_list (h := ?_))
  | ((with_reducible show DL.WE _ (.Call (.Name "tuple" _) _ [] _) _ _ _); refine we_callT bt_tuple T.b_tuple (h := ?_))
  | ((with_reducible show DL.WE _ (.Call (.Name "bool" _) _ [] _) _ _ _); refine we_callT bt_bool T.b_bool (h := ?_))
  | ((with_reducible show DL.WE _ (.Call (.Name "set" _) _ [] _) _ _ _); refine we_callT bt_set T.b_set (h := ?_)))
set_option hygiene false in
local macro_rules | `(tactic| walk_at "ty") => `(tactic| first
  | ((with_reducible show DL.WE _ (.Name "int" _) _ _ _); refine we_type rfl T.b_int bt_int (by decide) (by decide) ?_)
  | ((with_reducible show DL.WE _ (.Name "bool" _) _ _ _); refine we_type rfl T.b_bool bt_bool (by decide) (by decide) ?_)
  | ((with_reducible show DL.WE _ (.Name "tuple" _) _ _ _); refine we_type rfl T.b_tuple bt_tuple (by decide) (by decide) ?_)
  | ((with_reducible show DL.WE _ (.Name "list" _) _ _ _); refine we_type rfl T.b_list bt_list (by decide) (by decide) ?_))
set_option hygiene false in
local macro_rules | `(tactic| walk_at "E") => `(tactic| first
  | ((with_reducible show DL.WE _ (.Name _ _) _ _ _); first | walk_at "nm" | walk_at "ty")
  | ((with_reducible show DL.WE _ (.Constant _ _ _) _ _ _); first | refine we_int ?_ | refine we_str ?_ | refine we_bl ?_ | refine we_non ?_)
  | ((with_reducible show DL.WE _ (.Call (.Name "sorted" _) [.Call (.Name "set" _) [_] [] _] [] _) _ _ _); refine we_sortedSet T.b_sorted T.b_set (h := ?_))
  | ((with_reducible show DL.WE _ (.Call (.Name "list" _) [.Call (.Attribute _ "values" _) [] [] _] [] _) _ _ _); refine we_listVals T.b_list (h := ?_))
  | ((with_reducible show DL.WE _ (.Call (.Name _ _) _ [] _) _ _ _); walk_at "call")
  | ((with_reducible show DL.WE _ (.Call (.Attribute _ "get" _) [_, _] [] _) _ _ _); refine we_dget2A (h := ?_))
  | ((with_reducible show DL.WE _ (.Call (.Attribute _ "append" _) _ [] _) _ _ _); refine we_lmA PySem.F.slot_list_append PySem.F.type_list_append (h := ?_))
  | ((with_reducible show DL.WE _ (.Call (.Attribute _ "extend" _) _ [] _) _ _ _); refine we_lmA PySem.F.slot_list_extend PySem.F.type_list_extend (h := ?_))
  | ((with_reducible show DL.WE _ (.Call (.Attribute _ "pop" _) (_ :: _) [] _) _ _ _); refine we_lmA PySem.F.slot_list_pop PySem.F.type_list_pop (h := ?_))
  | ((with_reducible show DL.WE _ (.BinOp _ _ _ _) _ _ _); refine we_bin ?_)
  | ((with_reducible show DL.WE _ (.Compare _ [_] _ _) _ _ _); refine we_cmp (h := ?_))
  | ((with_reducible show DL.WE _ (.Compare _ [_, _] _ _) _ _ _); refine we_chain (h := ?_))
  | ((with_reducible show DL.WE _ (.Subscript _ (.Slice _ _ none _) _) _ _ _); refine we_slice ?_)
  | ((with_reducible show DL.WE _ (.Subscript _ (.Slice none none _ _) _) _ _ _); first | refine we_revL ?_ | refine we_slice ?_)
  | ((with_reducible show DL.WE _ (.Subscript _ _ _) _ _ _); refine we_sub (h := ?_))
  | ((with_reducible show DL.WE _ (.Tuple _ _ _) _ _ _); refine we_tup ?_)
  | ((with_reducible show DL.WE _ (.UnaryOp .Not _ _) _ _ _); refine we_not ?_)
  | ((with_reducible show DL.WE _ (.UnaryOp _ _ _) _ _ _); refine we_un ?_)
  | ((with_reducible show DL.WE _ (.BoolOp _ [_] _) _ _ _); refine we_one ?_)
  | ((with_reducible show DL.WE _ (.BoolOp .And _ _) _ _ _); refine we_and ?_)
  | ((with_reducible show DL.WE _ (.BoolOp .Or _ _) _ _ _); refine we_or ?_)
  | ((with_reducible show DL.WE _ (.IfExp _ _ _ _) _ _ _); refine we_ifExp ?_)
  | ((with_reducible show DL.WE _ (.List [] _) _ _ _); refine we_lstM (wa_nil ⟨szb rfl, fun p hp => ?_⟩))
  | ((with_reducible show DL.WE _ (.List _ _) _ _ _); refine we_lst ?_)
  | ((with_reducible show DL.WE _ (.Dict [] [] _) _ _ _); refine we_dctM (fun p hp => ?_)))
set_option hygiene false in
local macro_rules | `(tactic| walk_at "S") => `(tactic| first
  | ((with_reducible show DL.WS _ (.Assign [.Name _ _] _ _) _ _ _); walk_at "set")
  | ((with_reducible show DL.WS _ (.Return (some _) _) _ _ _); refine ws_ret' ?_)
  | ((with_reducible show DL.WS _ (.Return _ _) _ _ _); refine ws_retN ?_)
  | ((with_reducible show DL.WS _ (.If _ _ _ _) _ _ _); refine ws_if ?_)
  | ((with_reducible show DL.WS _ (.Expr _ _) _ _ _); refine ws_expr (h := ?_))
  | ((with_reducible show DL.WS _ (.Assign [.Tuple _ _ _] _ _) _ _ _); refine ws_asg (h := ?_))
  | ((with_reducible show DL.WS _ (.Assign [.Subscript _ _ _] _ _) _ _ _); refine ws_putA (h := ?_))
  | ((with_reducible show DL.WS _ (.AugAssign (.Name _ _) _ _ _) _ _ _); walk_at "aug")
  | ((with_reducible show DL.WS _ (.AugAssign (.Subscript _ _ _) .Add _ _) _ _ _); refine ws_augLA (fun _ => ip_add) (h := ?_))
  | ((with_reducible show DL.WS _ (.For _ _ _ [] _) _ _ _); refine ws_for (h := ?_))
  | ((with_reducible show DL.WS _ (.Pass _) _ _ _); refine ws_pass ?_)
  | ((with_reducible show DL.WS _ (.Break _) _ _ _); refine ws_break ?_)
  | ((with_reducible show DL.WS _ (.Continue _) _ _ _); refine ws_cont ?_))
set_option hygiene false in
local macro_rules | `(tactic| walk_at "T") => `(tactic| first
  | ((with_reducible show DL.WT _ (.Compare _ [_] _ _) _ _ _); refine wt_cmp (h := ?_))
  | ((with_reducible show DL.WT _ (.Compare _ [_, _] _ _) _ _ _); refine wt_chain (h := ?_))
  | ((with_reducible show DL.WT _ (.UnaryOp .Not _ _) _ _ _); refine wt_not ?_)
  | ((with_reducible show DL.WT _ (.BoolOp _ _ _) _ _ _); refine wt_ww ?_)
  | refine wt_val (h := ?_))
set_option hygiene false in
local macro_rules | `(tactic| walk_at "O") => `(tactic| first
  | ((with_reducible show DL.WO _ (binaryOp .Add) _ _ _ _); first | refine wo_add ?_ | refine wo_cat (.inl rfl) (.inl rfl) (by walk_at "sz") ?_ | refine wo_cat (.inr ⟨_, rfl, by walk_at "mem"⟩) (.inl rfl) (by walk_at "sz") ?_ | refine wo_catT (by walk_at "sz") ?_)
  | ((with_reducible show DL.WO _ (binaryOp .Sub) _ _ _ _); refine wo_sub ?_)
  | ((with_reducible show DL.WO _ (binaryOp .Mult) _ _ _ _); refine wo_mul (by walk_at "side") ?_)
  | ((with_reducible show DL.WO _ (binaryOp .FloorDiv) _ _ _ _); refine wo_fdiv (by walk_at "side") ?_)
  | ((with_reducible show DL.WO _ (binaryOp .Mod) _ _ _ _); refine wo_mod (by walk_at "side") ?_)
  | ((with_reducible show DL.WO _ (compareOp .Lt) _ _ _ _); refine wo_lt ?_)
  | ((with_reducible show DL.WO _ (compareOp .LtE) _ _ _ _); refine wo_le ?_)
  | ((with_reducible show DL.WO _ (compareOp .Gt) _ _ _ _); refine wo_gt ?_)
  | ((with_reducible show DL.WO _ (compareOp .GtE) _ _ _ _); refine wo_ge ?_)
  | ((with_reducible show DL.WO _ (compareOp .Eq) _ _ _ _); first | refine wo_eqI ?_ | refine wo_eqS ?_ | refine wo_eqB ?_ | refine wo_eqIL ?_ | refine wo_eqIT ?_)
  | ((with_reducible show DL.WO _ (compareOp .NotEq) _ _ _ _); first | refine wo_neI ?_ | refine wo_neS ?_ | refine wo_neB ?_ | refine wo_neIL ?_ | refine wo_neIT ?_)
  | ((with_reducible show DL.WO _ (compareOp .Is) _ _ _ _); first | refine wo_isB ?_ | refine wo_isN true (.inl ⟨rfl, rfl⟩) ?_ | refine wo_isN false (.inr ⟨rfl, fun z => by cases z⟩) ?_)
  | ((with_reducible show DL.WO _ (compareOp .IsNot) _ _ _ _); first | refine wo_isnotB ?_ | refine wo_notN false (.inl ⟨rfl, rfl⟩) ?_ | refine wo_notN true (.inr ⟨rfl, fun z => by cases z⟩) ?_)
  | ((with_reducible show DL.WO _ (compareOp .In) _ _ _ _); first | refine wo_inT ?_ | refine wo_inL ?_)
  | ((with_reducible show DL.WO _ (compareOp .NotIn) _ _ _ _); first | refine wo_notinT ?_ | refine wo_notinL ?_)
  | ((with_reducible show DL.WO _ (binaryOp .Pow) _ _ _ _); refine wo_pow (by walk_at "side") ?_)
  | ((with_reducible show DL.WO _ (binaryOp .LShift) _ _ _ _); refine wo_shl (by walk_at "side") ?_))
set_option hygiene false in
local macro_rules | `(tactic| walk_at "C") => `(tactic| first
  | ((with_reducible show DL.WC _ (.builtin "len") [.tup (List.map _ _)] _ _); refine wc_len_tupM ?_)
  | ((with_reducible show DL.WC _ (.builtin "len") [.lst (List.map _ _)] _ _); refine wc_len_lstM ?_)
  | ((with_reducible show DL.WC _ (.builtin "len") [.loc _] _ _); refine wc_len_loc (by walk_at "mem") ?_)
  | ((with_reducible show DL.WC _ (.builtin "len") _ _ _); first | refine wc_len_tup ?_ | refine wc_len_lst ?_)
  | ((with_reducible show DL.WC _ (.builtin "all") _ _ _); first | refine wc_allT ?_ | refine wc_allM ?_)
  | ((with_reducible show DL.WC _ (.builtin "any") _ _ _); refine wc_anyM ?_)
  | ((with_reducible show DL.WC _ (.type "int") _ _ _); first | refine wc_int ?_ | refine wc_intB ?_)
  | ((with_reducible show DL.WC _ (.builtin "abs") _ _ _); refine wc_abs ?_)
  | ((with_reducible show DL.WC _ (.builtin "max") _ _ _); refine wc_max2 ?_)
  | ((with_reducible show DL.WC _ (.builtin "min") _ _ _); refine wc_min2 ?_)
  | ((with_reducible show DL.WC _ (.type "tuple") _ _ _); first | refine wc_tuple (.inl rfl) ?_ | refine wc_tuple (.inr (.inl rfl)) ?_ | refine wc_tuple (.inr (.inr ⟨_, rfl, by walk_at "mem"⟩)) ?_)
  | ((with_reducible show DL.WC _ (.type "list") _ _ _); first | refine wc_list (.inl rfl) ?_ | refine wc_list (.inr (.inl rfl)) ?_ | refine wc_list (.inr (.inr ⟨_, rfl, by walk_at "mem"⟩)) ?_)
  | ((with_reducible show DL.WC _ (.builtin "isinstance") _ _ _); first | refine wc_isi (k := true) rfl (by decide +kernel) ?_ | refine wc_isi (k := false) rfl (by decide +kernel) ?_))
set_option hygiene false in
local macro_rules | `(tactic| walk_at "Ix") => `(tactic| first
  | ((with_reducible show DL.WIx _ (.loc _) _ _ _); refine wix_loc (by walk_at "mem") (by walk_at "at") ?_)
  | ((with_reducible show DL.WIx _ (.lst _) _ _ _); refine wix_lst (by walk_at "at") ?_)
  | ((with_reducible show DL.WIx _ (.tup _) _ _ _); refine wix_tup (by walk_at "at") ?_)
  | refine wix_tup rfl ?_
  | refine wix_lst rfl ?_)
set_option hygiene false in
local macro_rules | `(tactic| walk_at "M") => `(tactic| first
  | ((with_reducible show DL.WM _ "list.append" _ _ _ _); refine wm_append (by walk_at "mem") (by walk_at "sz") ?_))
set_option hygiene false in
local macro_rules | `(tactic| walk_at "sz") => `(tactic| first
  | exact szb rfl
  | exact szl (by first | omega | (simp only [List.length_map, List.length_append, List.length_cons, List.length_nil, rangeD_length] at *; omega))
  | exact szle (by first | omega | (simp only [List.length_map, List.length_append, List.length_cons, List.length_nil, rangeD_length] at *; omega)))
set_option hygiene false in
local macro_rules | `(tactic| walk_at "pre") => `(tactic| first
  | (with_reducible assumption)
  | ((with_reducible show _ = _); first | rfl | walk_at "mem" | (simp; done))
  | ((with_reducible show _ ∧ _); first | exact ⟨rfl, rfl⟩ | exact ⟨by omega, by omega⟩)
  | ((with_reducible show (_ : Nat) ≤ _); first | omega | (simp only [List.length_map, List.length_append, List.length_cons, List.length_nil, rangeD_length]; omega))
  | ((with_reducible show (_ : Nat) < _); first | omega | (simp only [List.length_map, List.length_append, List.length_cons, List.length_nil, rangeD_length]; omega))
  | ((with_reducible show (_ : Int) ≤ _); first | omega | (simp only [List.length_map, List.length_append, List.length_cons, List.length_nil, rangeD_length]; omega))
  | ((with_reducible show (_ : Int) < _); first | omega | (simp only [List.length_map, List.length_append, List.length_cons, List.length_nil, rangeD_length]; omega) | (simp; done))
  | assumption
  | (simp; done))
set_option hygiene false in
local macro_rules | `(tactic| walk_at "I") => `(tactic| first
  | ((with_reducible show DL.WI _ _ (.Call (.Name "range" _) [_] [] _) _ _ _); refine wi_range1 T.b_range (h := ?_))
  | ((with_reducible show DL.WI _ _ (.Call (.Name "range" _) [_, _] [] _) _ _ _); refine wi_range2 T.b_range (h := ?_))
  | ((with_reducible show DL.WI _ _ (.Call (.Name "range" _) [_, _, _] [] _) _ _ _); refine wi_range3n T.b_range (h := ?_))
  | ((with_reducible show DL.WI _ _ (.Call (.Name "enumerate" _) [_] [] _) _ _ _); refine wi_enum T.b_enumerate (h := ?_))
  | ((with_reducible show DL.WI _ _ (.Call (.Name "zip" _) [_, _] [] _) _ _ _); refine wi_zip T.b_zip (h := ?_))
  | ((with_reducible show DL.WI _ _ (.Call _ _ _ _) _ _ _); refine wi_lst ?_))
/- one step -/
set_option hygiene false in
local macro_rules | `(tactic| walk_at "dl") => `(tactic| first
  | ((with_reducible show DL.WE _ _ _ _ _); walk_at "E")
  | ((with_reducible show DL.WSs _ _ _ _ _); first | refine wss_cons ?_ | refine wss_nil ?_)
  | ((with_reducible show DL.WS _ _ _ _ _); walk_at "S")
  | ((with_reducible show DL.WA _ _ _ _ _); first | refine wa_cons (h := ?_) | refine wa_nil ?_)
  | ((with_reducible show DL.WO _ _ _ _ _ _); walk_at "O")
  | ((with_reducible show DL.WT _ _ _ _ _); walk_at "T")
  | ((with_reducible show DL.WW _ _ _ _ _); first | refine ww_and ?_ | refine ww_or ?_ | refine ww_and1 ?_ | refine ww_or1 ?_)
  | ((with_reducible show DL.WC _ _ _ _ _); walk_at "C")
  | ((with_reducible show DL.WIx _ _ _ _ _); walk_at "Ix")
  | ((with_reducible show DL.WM _ _ _ _ _ _); walk_at "M")
  | ((with_reducible show DL.WU _ _ _ _ _); refine wu_neg ?_)
  | ((with_reducible show DL.WGi _ _ (.Name _ _) _ _ _ _); walk_at "gnm")
  | ((with_reducible show DL.WGi _ _ _ _ _ _ _); refine wg_tup _ (h := ?_))
  | ((with_reducible show DL.WGs _ _ _ _ _ _ _); first | refine wgs_cons (h := ?_) | refine wgs_nil ?_)
  | ((with_reducible show DL.WI _ _ _ _ _ _); walk_at "I")
  | ((with_reducible show DL.WTs _ _ _ _ _); first | refine wts_one ?_ | refine wts_nil ?_)
  | ((with_reducible show DL.WP _ _ _ _ _); first | refine wp_none ?_ | refine wp_some ?_)
  | ((with_reducible show DL.WSl _ _ _ _ _ _); first | refine wsl_tup ?_ | refine wsl_lst ?_ | refine wsl_loc (by walk_at "mem") ?_)
  | ((with_reducible show _ = true → DL.WE _ _ _ _ _); intro hk)
  | ((with_reducible show (_ = _ → _) ∧ (_ = _ → _)); walk_at "if")
  | ((with_reducible refine ⟨_, ixN_nat ?_ ?_, ?_⟩); (focus omega); (focus first | omega | (simp only [List.length_map, List.length_set, List.length_append] at *; omega)))
  | refine ⟨_, rfl, ?_⟩
  | refine ⟨szb rfl, ?_⟩
  | refine ⟨.inl _, rfl, ?_⟩
  | refine ⟨.inr _, rfl, ?_⟩
  | refine ⟨_, .inl (by walk_at "mem"), ?_⟩
  | refine ⟨_, .inr ⟨_, _, by walk_at "mem"⟩, ?_⟩
  | refine ⟨_, .inr ⟨_, rfl, by walk_at "mem"⟩, ?_⟩
  | refine ⟨_, .inl rfl, ?_⟩
  | refine ⟨_, .inr (.inl rfl), ?_⟩
  | refine ⟨_, .inr rfl, ?_⟩
  | ((with_reducible show _ ∧ _); refine ⟨by walk_at "pre", ?_⟩)
  | refine ⟨_, by walk_at "mem", ?_⟩
  | refine ⟨_, _, rfl, ?_⟩
  | refine ⟨_, _, _, rfl, ?_⟩
  | refine ⟨_, _, _, _, rfl, ?_⟩
  | refine ⟨_, _, _, _, _, rfl, ?_⟩
  | refine ⟨_, _, _, _, _, _, rfl, ?_⟩
  | refine ⟨_, _, _, _, _, _, _, rfl, ?_⟩
  | ((with_reducible show (_ : Mem) = _); rfl)
  | fail "stuck")
/- one step, within a statement -/
set_option hygiene false in
local macro_rules | `(tactic| walk_at "dlE") => `(tactic| first
  | ((with_reducible show DL.WE _ _ _ _ _); walk_at "E")
  | ((with_reducible show DL.WS _ _ _ _ _); walk_at "S")
  | ((with_reducible show DL.WA _ _ _ _ _); first | refine wa_cons (h := ?_) | refine wa_nil ?_)
  | ((with_reducible show DL.WO _ _ _ _ _ _); walk_at "O")
  | ((with_reducible show DL.WT _ _ _ _ _); walk_at "T")
  | ((with_reducible show DL.WW _ _ _ _ _); first | refine ww_and ?_ | refine ww_or ?_ | refine ww_and1 ?_ | refine ww_or1 ?_)
  | ((with_reducible show DL.WC _ _ _ _ _); walk_at "C")
  | ((with_reducible show DL.WIx _ _ _ _ _); walk_at "Ix")
  | ((with_reducible show DL.WM _ _ _ _ _ _); walk_at "M")
  | ((with_reducible show DL.WU _ _ _ _ _); refine wu_neg ?_)
  | ((with_reducible show DL.WGi _ _ (.Name _ _) _ _ _ _); walk_at "gnm")
  | ((with_reducible show DL.WGi _ _ _ _ _ _ _); refine wg_tup _ (h := ?_))
  | ((with_reducible show DL.WGs _ _ _ _ _ _ _); first | refine wgs_cons (h := ?_) | refine wgs_nil ?_)
  | ((with_reducible show DL.WI _ _ _ _ _ _); walk_at "I")
  | ((with_reducible show DL.WTs _ _ _ _ _); first | refine wts_one ?_ | refine wts_nil ?_)
  | ((with_reducible show DL.WP _ _ _ _ _); first | refine wp_none ?_ | refine wp_some ?_)
  | ((with_reducible show DL.WSl _ _ _ _ _ _); first | refine wsl_tup ?_ | refine wsl_lst ?_ | refine wsl_loc (by walk_at "mem") ?_)
  | ((with_reducible show _ = true → DL.WE _ _ _ _ _); intro hk)
  | ((with_reducible show (_ = _ → _) ∧ (_ = _ → _)); walk_at "if")
  | ((with_reducible refine ⟨_, ixN_nat ?_ ?_, ?_⟩); (focus omega); (focus first | omega | (simp only [List.length_map, List.length_set, List.length_append] at *; omega)))
  | refine ⟨_, rfl, ?_⟩
  | refine ⟨szb rfl, ?_⟩
  | refine ⟨.inl _, rfl, ?_⟩
  | refine ⟨.inr _, rfl, ?_⟩
  | refine ⟨_, .inl (by walk_at "mem"), ?_⟩
  | refine ⟨_, .inr ⟨_, _, by walk_at "mem"⟩, ?_⟩
  | refine ⟨_, .inr ⟨_, rfl, by walk_at "mem"⟩, ?_⟩
  | refine ⟨_, .inl rfl, ?_⟩
  | refine ⟨_, .inr (.inl rfl), ?_⟩
  | refine ⟨_, .inr rfl, ?_⟩
  | ((with_reducible show _ ∧ _); refine ⟨by walk_at "pre", ?_⟩)
  | refine ⟨_, by walk_at "mem", ?_⟩
  | refine ⟨_, _, rfl, ?_⟩
  | refine ⟨_, _, _, rfl, ?_⟩
  | refine ⟨_, _, _, _, rfl, ?_⟩
  | refine ⟨_, _, _, _, _, rfl, ?_⟩
  | refine ⟨_, _, _, _, _, _, rfl, ?_⟩
  | refine ⟨_, _, _, _, _, _, _, rfl, ?_⟩
  | ((with_reducible show (_ : Mem) = _); rfl)
  | fail "stuck")
set_option hygiene false in
local macro_rules | `(tactic| walk_at "goE") => `(tactic| repeat' walk_at "dlE")
set_option hygiene false in
local macro_rules | `(tactic| walk_at "go") => `(tactic| repeat' walk_at "dl")
set_option hygiene false in
local macro_rules | `(tactic| walk_at "nx") => `(tactic| ((try rw [Mem.upd_upd]); walk_at "go"))
set_option hygiene false in
local macro_rules | `(tactic| walk_at "call") => `(tactic| ((with_reducible show DL.WE _ (.Call (.Name "_law_begin" _) _ [] _) _ _ _); refine we_call (ok_begin T) (h := ?_)))
set_option hygiene false in
local macro_rules | `(tactic| walk_at "call") => `(tactic| ((with_reducible show DL.WE _ (.Call (.Name "_law_draw" _) _ [] _) _ _ _); refine we_call (ok_draw T) (h := ?_)))
set_option hygiene false in
local macro_rules | `(tactic| walk_at "call") => `(tactic| ((with_reducible show DL.WE _ (.Call (.Name "_law_pick" _) _ [] _) _ _ _); refine we_call (ok_pick T) (h := ?_)))
set_option hygiene false in
local macro_rules | `(tactic| walk_at "call") => `(tactic| ((with_reducible show DL.WE _ (.Call (.Name "_law_is_int" _) _ [] _) _ _ _); refine we_call (ok_is_int T) (h := ?_)))
set_option hygiene false in
local macro_rules | `(tactic| walk_at "call") => `(tactic| ((with_reducible show DL.WE _ (.Call (.Name "_law_is_ints" _) _ [] _) _ _ _); refine we_call (ok_is_ints T) (h := ?_)))
set_option hygiene false in
local macro_rules | `(tactic| walk_at "call") => `(tactic| ((with_reducible show DL.WE _ (.Call (.Name "is_whole" _) _ [] _) _ _ _); refine we_call (ok_is_whole T) (h := ?_)))
set_option hygiene false in
local macro_rules | `(tactic| walk_at "call") => `(tactic| ((with_reducible show DL.WE _ (.Call (.Name "allowed_at" _) _ [] _) _ _ _); refine we_call (ok_allowed_at T) (h := ?_)))
set_option hygiene false in
local macro_rules | `(tactic| walk_at "call") => `(tactic| ((with_reducible show DL.WE _ (.Call (.Name "reach_of" _) _ [] _) _ _ _); refine we_call (ok_reach_of T) (h := ?_)))
set_option hygiene false in
local macro_rules | `(tactic| walk_at "call") => `(tactic| ((with_reducible show DL.WE _ (.Call (.Name "fewest_tellings" _) _ [] _) _ _ _); refine we_call (ok_fewest_tellings T) (h := ?_)))
set_option hygiene false in
local macro_rules | `(tactic| walk_at "call") => `(tactic| ((with_reducible show DL.WE _ (.Call (.Name "is_right_plan" _) _ [] _) _ _ _); refine we_call (ok_is_right_plan T) (h := ?_)))
set_option hygiene false in
local macro_rules | `(tactic| walk_at "call") => `(tactic| ((with_reducible show DL.WE _ (.Call (.Name "are_right_bars" _) _ [] _) _ _ _); refine we_call (ok_are_right_bars T) (h := ?_)))
set_option hygiene false in
local macro_rules | `(tactic| walk_at "call") => `(tactic| ((with_reducible show DL.WE _ (.Call (.Name "judge_tellings" _) _ [] _) _ _ _); refine we_call (ok_judge_tellings T) (h := ?_)))
set_option hygiene false in
local macro_rules | `(tactic| walk_at "call") => `(tactic| ((with_reducible show DL.WE _ (.Call (.Name "_law_given" _) _ [] _) _ _ _); refine we_call (ok_given T) (h := ?_)))
set_option hygiene false in
local macro_rules | `(tactic| walk_at "call") => `(tactic| ((with_reducible show DL.WE _ (.Call (.Name "_law_plan_is_right" _) _ [] _) _ _ _); refine we_call (ok_plan_is_right T) (h := ?_)))
set_option hygiene false in
local macro_rules | `(tactic| walk_at "call") => `(tactic| ((with_reducible show DL.WE _ (.Call (.Name "_law_end" _) _ [] _) _ _ _); refine we_call (ok_end T) (h := ?_)))
set_option hygiene false in
local macro_rules | `(tactic| walk_at "call") => `(tactic| ((with_reducible show DL.WE _ (.Call (.Name "_law_bars_are_right" _) _ [] _) _ _ _); refine we_call (ok_bars_are_right T) (h := ?_)))
set_option hygiene false in
local macro_rules | `(tactic| walk_at "call") => `(tactic| ((with_reducible show DL.WE _ (.Call (.Name "_law_pair_is_right" _) _ [] _) _ _ _); refine we_call (ok_pair_is_right T) (h := ?_)))
set_option hygiene false in
local macro_rules | `(tactic| walk_at "call") => `(tactic| ((with_reducible show DL.WE _ (.Call (.Name "_law_is_pair" _) _ [] _) _ _ _); refine we_call (ok_is_pair T) (h := ?_)))
set_option hygiene false in
local macro_rules | `(tactic| walk_at "call") => `(tactic| ((with_reducible show DL.WE _ (.Call (.Name "_law_values" _) _ [] _) _ _ _); refine we_call (ok_values T) (h := ?_)))
set_option hygiene false in
local macro_rules | `(tactic| walk_at "call") => `(tactic| ((with_reducible show DL.WE _ (.Call (.Name "_law_slack" _) _ [] _) _ _ _); refine we_call (ok_slack T) (h := ?_)))
set_option hygiene false in
local macro_rules | `(tactic| walk_at "call") => `(tactic| ((with_reducible show DL.WE _ (.Call (.Name "_law_told_at" _) _ [] _) _ _ _); refine we_call (ok_told_at T) (h := ?_)))
def rowD (vs : List Int) (s m : Nat) (f : Int → Int) : List (Key × D) := (sdd (win vs s m)).map fun v => ((Sum.inl v : Key), D.int (f v))
structure TabM (vs : List Int) (s n : Nat) (N : Nat → Nat) (F : Nat → Int → Int) (ad : List Addr) (μ : Mem) : Prop where
  len : ad.length = n
  tab : Tab vs s n N F
  row : ∀ (m : Nat) (a : Addr), ad[m]? = some a → μ a = some (.dct (rowD vs s m (F m)))
theorem TabM.last {vs : List Int} {s n : Nat} {N : Nat → Nat} {F : Nat → Int → Int} {ad : List Addr} {μ : Mem} (h : TabM vs s (n + 1) N F ad μ) : ∃ a, ad.getLast? = some a ∧ ad[n]? = some a ∧ μ a = some (.dct (rowD vs s n (F n))) := by
  have hl := h.len
  have e : ad[n]? = some (ad[n]'(by omega)) := List.getElem?_eq_getElem _
  have e2 : ad.length - 1 = n := by omega
  exact ⟨_, by rw [List.getLast?_eq_getElem?, e2]; exact e, e, h.row _ _ e⟩
theorem row_vals (vs : List Int) (s m : Nat) (f : Int → Int) : (rowD vs s m f).map (·.2) = iD ((sdd (win vs s m)).map f) := by
  unfold rowD; simp [Function.comp_def]
theorem row_least {vs : List Int} {s m L : Nat} {f : Int → Int} (h : Cs vs s m L f) {x : Int} (hx : x ∈ (sdd (win vs s m)).map f) (hl : ∀ y ∈ (sdd (win vs s m)).map f, x ≤ y) : x = L := by
  obtain ⟨⟨v, h1, h2⟩, h3, _⟩ := h.least
  obtain ⟨u, hu, rfl⟩ := List.mem_map.mp hx
  have a := hl (f v) (List.mem_map.mpr ⟨v, mem_sdd.mpr h1, rfl⟩)
  have b := (h3 u (mem_sdd.mp hu)).1
  omega
theorem row_pos {vs : List Int} {s m L : Nat} {f : Int → Int} (h : Cs vs s m L f) : 0 < ((sdd (win vs s m)).map f).length := by
  obtain ⟨⟨v, h1, h2⟩, _⟩ := h.least
  exact List.length_pos_of_mem (List.mem_map.mpr ⟨v, mem_sdd.mpr h1, rfl⟩)
theorem row_get {vs : List Int} {s m : Nat} {f : Int → Int} {k : Int} : getA (rowD vs s m f) (.inl k) = if k ∈ win vs s m then some (.int (f k)) else none := by
  unfold rowD
  rw [getA_map (sdd (win vs s m)) (fun v => D.int (f v)) k]
  by_cases h : k ∈ win vs s m
  · rw [if_pos h, if_pos (mem_sdd.mpr h)]
  · rw [if_neg h, if_neg (fun z => h (mem_sdd.mp z))]
def sp_costs : DSp := fun ds μ Q => ∃ (vs : List Int) (s : Nat), ds = [.tup (iD vs), .int s] ∧ 0 < vs.length ∧ vs.length ≤ 300 ∧ ∀ N F ad μ', TabM vs s vs.length N F ad μ' → μ.Sub μ' → Q (.lst (ad.map D.loc)) μ'
theorem sc_costs : FnScope ["values", "slack", "costs", "moment", "before", "least", "row", "value"] ["values", "slack"] (defScope s_costs) := ⟨rfl, rfl, rfl, by decide +kernel, rfl, by decide +kernel, by decide +kernel⟩
section
set_option hygiene false in
local macro_rules | `(tactic| walk_at "nm") => `(tactic| first | ((with_reducible show DL.WE _ (.Name "values" _) _ _ _); refine we_name 0 (q := ?_)) | ((with_reducible show DL.WE _ (.Name "slack" _) _ _ _); refine we_name 1 (q := ?_)) | ((with_reducible show DL.WE _ (.Name "costs" _) _ _ _); refine we_name 2 (q := ?_)) | ((with_reducible show DL.WE _ (.Name "moment" _) _ _ _); refine we_name 3 (q := ?_)) | ((with_reducible show DL.WE _ (.Name "before" _) _ _ _); refine we_name 4 (q := ?_)) | ((with_reducible show DL.WE _ (.Name "least" _) _ _ _); refine we_name 5 (q := ?_)) | ((with_reducible show DL.WE _ (.Name "row" _) _ _ _); refine we_name 6 (q := ?_)) | ((with_reducible show DL.WE _ (.Name "value" _) _ _ _); refine we_name 7 (q := ?_)))
set_option hygiene false in
local macro_rules | `(tactic| walk_at "set") => `(tactic| first | ((with_reducible show DL.WS _ (.Assign [.Name "values" _] _ _) _ _ _); refine ws_set 0 (h := ?_)) | ((with_reducible show DL.WS _ (.Assign [.Name "slack" _] _ _) _ _ _); refine ws_set 1 (h := ?_)) | ((with_reducible show DL.WS _ (.Assign [.Name "costs" _] _ _) _ _ _); refine ws_set 2 (h := ?_)) | ((with_reducible show DL.WS _ (.Assign [.Name "moment" _] _ _) _ _ _); refine ws_set 3 (h := ?_)) | ((with_reducible show DL.WS _ (.Assign [.Name "before" _] _ _) _ _ _); refine ws_set 4 (h := ?_)) | ((with_reducible show DL.WS _ (.Assign [.Name "least" _] _ _) _ _ _); refine ws_set 5 (h := ?_)) | ((with_reducible show DL.WS _ (.Assign [.Name "row" _] _ _) _ _ _); refine ws_set 6 (h := ?_)) | ((with_reducible show DL.WS _ (.Assign [.Name "value" _] _ _) _ _ _); refine ws_set 7 (h := ?_)))
set_option hygiene false in
local macro_rules | `(tactic| walk_at "gnm") => `(tactic| first | ((with_reducible show DL.WGi _ _ (.Name "values" _) _ _ _ _); refine wg_name 0 (q := ?_)) | ((with_reducible show DL.WGi _ _ (.Name "slack" _) _ _ _ _); refine wg_name 1 (q := ?_)) | ((with_reducible show DL.WGi _ _ (.Name "costs" _) _ _ _ _); refine wg_name 2 (q := ?_)) | ((with_reducible show DL.WGi _ _ (.Name "moment" _) _ _ _ _); refine wg_name 3 (q := ?_)) | ((with_reducible show DL.WGi _ _ (.Name "before" _) _ _ _ _); refine wg_name 4 (q := ?_)) | ((with_reducible show DL.WGi _ _ (.Name "least" _) _ _ _ _); refine wg_name 5 (q := ?_)) | ((with_reducible show DL.WGi _ _ (.Name "row" _) _ _ _ _); refine wg_name 6 (q := ?_)) | ((with_reducible show DL.WGi _ _ (.Name "value" _) _ _ _ _); refine wg_name 7 (q := ?_)))
set_option hygiene false in
local macro_rules | `(tactic| walk_at "S") => `(tactic| first | ((with_reducible show DL.WS _ (.Assign [.Subscript (.Name "row" _) _ _] _ _) _ _ _); refine ws_dputA (h := ?_)) | ((with_reducible show DL.WS _ (.Delete [.Subscript (.Name "row" _) _ _] _) _ _ _); refine ws_ddelA (h := ?_)))
set_option hygiene false in
local macro_rules | `(tactic| walk_at "E") => `(tactic| first | ((with_reducible show DL.WE _ (.Subscript (.Name "row" _) _ _) _ _ _); refine we_dgetA (h := ?_))  | ((with_reducible show DL.WE _ (.Compare _ [.In] [(.Name "row" _)] _) _ _ _); refine we_dinA (h := ?_)))
set_option hygiene false in
local macro_rules | `(tactic| walk_at "T") => `(tactic| first | ((with_reducible show DL.WT _ (.Compare _ [.In] [(.Name "row" _)] _) _ _ _); refine wt_dinA (h := ?_)) | ((with_reducible show DL.WT _ (.Compare _ [.NotIn] [(.Name "row" _)] _) _ _ _); refine wt_dnotinA (h := ?_)))
set_option maxHeartbeats 1000000 in
theorem ok_costs (T : Txt K mg) : FnD P w K mg base 2 "_law_costs" sp_costs := by
  refine TF.ok 1 T.f_costs sc_costs (fun ds μ Q ⟨_, _, h, _⟩ => by rw [h]; rfl) fun ds μ Q h => ?_
  obtain ⟨vs, s, rfl, h0, hl, q⟩ := h
  have hwl : ∀ m, (sdd (win vs s m)).length ≤ 300 := fun m => by
    have h1 := sdd_len (win vs s m)
    have h2 := (win_len (vs := vs) (s := s) (m := m)).2
    omega
  refine wss_cons (ws_set 2 (h := we_lstM (wa_cons (h := we_disp1 (fun q1 hq1 => ?_)))))
  walk_at "go"
  intro c hc
  rw [Mem.upd_upd] at hc ⊢
  have hqp : q1 ≠ c := ne_fresh Mem.upd_same hc
  have hc0 : μ c = none := by rwa [Mem.upd_ne (Ne.symm hqp)] at hc
  have e0 : [((Sum.inl (vs.getD (0 : Int).toNat 0) : Key), D.int 1)] = rowD vs s 0 (fun _ => 1) := by
    unfold rowD
    cases vs with
    | nil => simp at h0
    | cons x xs => simp [win, sdd, insD]
  rw [e0]
  walk_at "go"
  refine ⟨[3], fun i ρ' μ' => ∃ (N : Nat → Nat) (F : Nat → Int → Int) (ad : List Addr) (o1 o2 o3 o4 o5 : Option D), TabM vs s (i + 1) N F ad μ' ∧ μ' c = some (.lst (ad.map D.loc)) ∧ Kp [] μ μ' ∧ ρ' = [some (.tup (iD vs)), some (.int s), some (.loc c), o1, o2, o3, o4, o5],
    ⟨fun _ => 1, fun _ _ => 1, [q1], none, none, none, none, none, ⟨rfl, ⟨fun m hm => ?_, fun v hv => rfl, fun m hm => by omega⟩, fun m a ha => ?_⟩, Mem.upd_same, (Kp.refl.new hq1).fresh hc0, rfl⟩, ?_, ?_⟩
  · rw [show m = 0 by omega]; exact Cs.start h0
  · cases m with
    | zero => simp at ha; subst ha; exact (Mem.upd_ne hqp).trans Mem.upd_same
    | succ m => simp at ha
  · rintro i d ρ' μ' hd ⟨N, F, ad, o1, o2, o3, o4, o5, hT, mc, kp, rfl⟩
    obtain ⟨hi, rfl⟩ := rangeD_get hd
    have hi' : i + 1 < vs.length := by omega
    obtain ⟨al, hal, hal2, mal⟩ := hT.last
    have hC := hT.tab.row i (by omega)
    walk_at "go"
    rw [row_vals]
    refine wc_minL rfl (row_pos hC) fun x hx hlx => ?_
    obtain rfl := row_least hC hx hlx
    walk_at "go"
    rw [show (1 + (i : Int)).toNat = i + 1 by omega]
    have hp0 : μ p = none := by
      cases e : μ p with
      | none => rfl
      | some u => rw [kp p u (by simp) e] at hp; cases hp
    have hcp : c ≠ p := ne_fresh mc hp
    have hnp : ∀ (m : Nat) (a : Addr), ad[m]? = some a → a ≠ p ∧ a ≠ c := fun m a ha => ⟨ne_fresh (hT.row m a ha) hp, fun e => by
      have := hT.row m a ha
      rw [e, mc] at this; cases this⟩
    refine ⟨by have := (win_len (vs := vs) (s := s) (m := i + 1)).2; omega, _, rfl, ?_⟩
    refine ⟨[7], fun j ρ2 μ2 => ∃ o : Option D, μ2 = μ'.upd p (.dct (((sdd (win vs s (i + 1))).take j).map fun v => ((Sum.inl v : Key), D.int (nextF vs s i (N i) (F i) v)))) ∧ ρ2 = [some (.tup (iD vs)), some (.int s), some (.loc c), some (.int (1 + (i : Int))), some (.loc al), some (.int (N i)), some (.loc p), o], ⟨_, rfl, rfl⟩, ?_, ?_⟩
    · rintro j d ρ2 μ2 hd2 ⟨o, rfl, rfl⟩
      obtain ⟨v, hv, rfl⟩ := getE hd2
      have hvw : v ∈ win vs s (i + 1) := mem_sdd.mp (List.mem_of_getElem? hv)
      have hvn : v ∉ (sdd (win vs s (i + 1))).take j := fun z => by
        obtain ⟨k, hk⟩ := List.getElem?_of_mem z
        rw [List.getElem?_take] at hk
        split at hk
        · obtain ⟨a1, a2⟩ := List.getElem?_eq_some_iff.mp hk
          obtain ⟨b1, b2⟩ := List.getElem?_eq_some_iff.mp hv
          have := List.pairwise_iff_getElem.mp (sdd_lt (win vs s (i + 1))) k j a1 b1 (by omega)
          omega
        · cases hk
      have mal' : ∀ o, (μ'.upd p o) al = some (.dct (rowD vs s i (F i))) := fun o => (Mem.upd_ne (hnp _ _ hal2).1).trans mal
      walk_at "go"
      rw [row_get]
      have fin : ∀ x : Int, x = nextF vs s i (N i) (F i) v → (fun ρ' μ'_1 => ∃ o : Option D, μ'_1 = μ'.upd p (.dct (((sdd (win vs s (i + 1))).take (j + 1)).map fun v => ((Sum.inl v : Key), D.int (nextF vs s i (N i) (F i) v)))) ∧ ρ' = [some (.tup (iD vs)), some (.int s), some (.loc c), some (.int (1 + (i : Int))), some (.loc al), some (.int (N i)), some (.loc p), o]) [some (.tup (iD vs)), some (.int s), some (.loc c), some (.int (1 + (i : Int))), some (.loc al), some (.int (N i)), some (.loc p), some (.int v)] ((μ'.upd p (.dct (((sdd (win vs s (i + 1))).take j).map fun v => ((Sum.inl v : Key), D.int (nextF vs s i (N i) (F i) v))))).upd p (.dct (putA (((sdd (win vs s (i + 1))).take j).map fun v => ((Sum.inl v : Key), D.int (nextF vs s i (N i) (F i) v))) (.inl v) (.int x)))) := fun x hx => by
        rw [Mem.upd_upd, putA_fresh hvn (by rw [hx]), ← take_snoc hv]
        exact ⟨_, rfl, rfl⟩
      have hsz : (((sdd (win vs s (i + 1))).take j).map fun v => ((Sum.inl v : Key), D.int (nextF vs s i (N i) (F i) v))).length < sizeLine := by
        rw [List.length_map, List.length_take]
        have := hwl (i + 1)
        exact szl (by omega)
      by_cases hvi : v ∈ win vs s i
      · rw [if_pos hvi]
        show WC _ _ [.int (F i v), _] _ _
        walk_at "go"
        refine fin _ ?_
        unfold nextF
        rw [if_pos hvi]
      · rw [if_neg hvi]
        show WC _ _ [.int _, _] _ _
        walk_at "go"
        refine fin _ ?_
        unfold nextF
        rw [if_neg hvi, if_neg (by omega)]
    · rintro ρ2 μ2 ⟨o, rfl, rfl⟩
      rw [List.length_map, List.take_length]
      have hlen := hT.len
      walk_at "go"
      obtain ⟨L', hT'⟩ := hT.tab.step hi'
      refine ⟨_, _, ad ++ [p], _, _, _, _, _, ⟨by simp [hlen], hT', fun m a ha => ?_⟩, by rw [Mem.upd_same]; simp, (kp.fresh hp0).fresh hc0, rfl⟩
      by_cases e : m = i + 1
      · subst e
        rw [List.getElem?_append_right (by omega), hlen] at ha
        simp at ha
        subst ha
        simp only [if_true]
        exact (Mem.upd_ne hcp.symm).trans Mem.upd_same
      · have hm : m < i + 1 := by
          have := (List.getElem?_eq_some_iff.mp ha).1
          simp at this; omega
        rw [List.getElem?_append_left (by omega)] at ha
        simp only [if_neg e]
        exact (Mem.upd_ne (hnp _ _ ha).2).trans ((Mem.upd_ne (hnp _ _ ha).1).trans (hT.row m a ha))
  · rintro ρ' μ' ⟨N, F, ad, o1, o2, o3, o4, o5, hT, mc, kp, rfl⟩
    rw [rangeD_length, show ((vs.length : Int) - 1).toNat + 1 = vs.length by omega] at hT
    refine wss_freeze 2 rfl mc ?_
    walk_at "go"
    refine q N F ad _ ⟨hT.len, hT.tab, fun m a ha => ?_⟩ fun b u hb => ?_
    · rw [Mem.del_ne (fun e => ?_)]
      · exact hT.row m a ha
      · have := hT.row m a ha
        rw [e, mc] at this; cases this
    · rw [Mem.del_ne (ne_fresh hb hc0)]
      exact kp b u (by simp) hb
end
set_option hygiene false in
local macro_rules | `(tactic| walk_at "call") => `(tactic| ((with_reducible show DL.WE _ (.Call (.Name "_law_costs" _) _ [] _) _ _ _); refine we_call (ok_costs T) (h := ?_)))
end K80
namespace K80
open PySem L2 DL Tell
variable {P : Program} {w : World} {K : PySem.W.Frag} {mg : Str → Option Value} {base : Heap}
set_option hygiene false in
local macro_rules | `(tactic| walk_at "side") => `(tactic| first
  | (with_reducible assumption)
  | rfl
  | omega
  | decide
  | exact ⟨by omega, by omega⟩
  | exact ⟨by decide, by decide⟩
  | exact .inl ⟨by decide, by decide⟩
  | exact .inr ⟨by decide, by decide⟩
  | exact .inl ⟨by omega, by omega⟩
  | exact .inr ⟨by omega, by omega⟩
  | exact ⟨by decide, by decide, by decide⟩
  | exact szb rfl
  | fail "side")
set_option hygiene false in
local macro_rules | `(tactic| walk_at "ne") => `(tactic| first
  | assumption
  | exact Ne.symm (by assumption)
  | exact ne_fresh (by assumption) (by assumption)
  | exact Ne.symm (ne_fresh (by assumption) (by assumption)))
/- what stands at an address -/
set_option hygiene false in
local macro_rules | `(tactic| walk_at "mem") => `(tactic| first
  | assumption
  | exact Mem.upd_same
  | exact (Mem.upd_ne (by walk_at "ne")).trans (by walk_at "mem"))
/- an item of a list -/
set_option hygiene false in
local macro_rules | `(tactic| walk_at "at") => `(tactic| first
  | rfl
  | exact atI_getI (by omega) (by omega)
  | exact atI_lastI (by first | omega | (simp only [List.length_map] at *; omega))
  | exact atI_lastM _ (by assumption)
  | exact atI_mapI _ (by omega) (by assumption)
  | exact atI_mapN _ (by assumption)
  | exact atI_get _ (by first | omega | (simp only [List.length_map, List.length_set] at *; omega)) (by first | omega | (simp only [List.length_map, List.length_set] at *; omega)))
/- tests that are decided or split -/
set_option hygiene false in
local macro_rules | `(tactic| walk_at "if") => `(tactic| first
  | refine if_tt ?_
  | refine if_ff ?_
  | refine if_f_tt ?_
  | refine if_f_ff ?_
  | (refine if_dec (fun hk => ?_) (fun hk => ?_))
  | (refine if_ndec (fun hk => ?_) (fun hk => ?_))
  | (refine if_f_dec (fun hk => ?_) (fun hk => ?_))
  | (refine if_f_ndec (fun hk => ?_) (fun hk => ?_))
  | (refine if_nb (fun hk => ?_) (fun hk => ?_))
  | (refine if_f_nb (fun hk => ?_) (fun hk => ?_))
  | (refine And.intro (fun hk => ?_) (fun hk => ?_)))
set_option hygiene false in
local macro_rules | `(tactic| walk_at "call") => `(tactic| first
  | ((with_reducible show DL.WE _ (.Call (.Name "len" _) _ [] _) _ _ _); refine we_callB bt_len T.b_len (h := ?_))
  | ((with_reducible show DL.WE _ (.Call (.Name "abs" _) _ [] _) _ _ _); refine we_callB bt_abs T.b_abs (h := ?_))
  | ((with_reducible show DL.WE _ (.Call (.Name "min" _) _ [] _) _ _ _); refine we_callB bt_min T.b_min (h := ?_))
  | ((with_reducible show DL.WE _ (.Call (.Name "max" _) _ [] _) _ _ _); refine we_callB bt_max T.b_max (h := ?_))
  | ((with_reducible show DL.WE _ (.Call (.Name "sum" _) _ [] _) _ _ _); refine we_callB bt_sum T.b_sum (h := ?_))
  | ((with_reducible show DL.WE _ (.Call (.Name "all" _) _ [] _) _ _ _); refine we_callB bt_all T.b_all (h := ?_))
  | ((with_reducible show DL.WE _ (.Call (.Name "any" _) _ [] _) _ _ _); refine we_callB bt_any T.b_any (h := ?_))
  | ((with_reducible show DL.WE _ (.Call (.Name "sorted" _) _ [] _) _ _ _); refine we_callB bt_sorted T.b_sorted (h := ?_))
  | ((with_reducible show DL.WE _ (.Call (.Name "isinstance" _) _ [] _) _ _ _); refine we_callB bt_isinstance T.b_isinstance (h := ?_))
  | ((with_reducible show DL.WE _ (.Call (.Name "int" _) _ [] _) _ _ _); refine we_callT bt_int T.b_int (h := ?_))
  | ((with_reducible show DL.WE _ (.Call (.Name "list" _) _ [] _) _ _ _); refine we_callT bt_list T.b_list (h := ?_))
  | ((with_reducible show DL.WE _ (.Call (.Name "tuple" _) _ [] _) _ _ _); refine we_callT bt_tuple T.b_tuple (h := ?_))
  | ((with_reducible show DL.WE _ (.Call (.Name "bool" _) _ [] _) _ _ _); refine we_callT bt_bool T.b_bool (h := ?_))
  | ((with_reducible show DL.WE _ (.Call (.Name "set" _) _ [] _) _ _ _); refine we_callT bt_set T.b_set (h := ?_)))
set_option hygiene false in
local macro_rules | `(tactic| walk_at "ty") => `(tactic| first
  | ((with_reducible show DL.WE _ (.Name "int" _) _ _ _); refine we_type rfl T.b_int bt_int (by decide) (by decide) ?_)
  | ((with_reducible show DL.WE _ (.Name "bool" _) _ _ _); refine we_type rfl T.b_bool bt_bool (by decide) (by decide) ?_)
  | ((with_reducible show DL.WE _ (.Name "tuple" _) _ _ _); refine we_type rfl T.b_tuple bt_tuple (by decide) (by decide) ?_)
  | ((with_reducible show DL.WE _ (.Name "list" _) _ _ _); refine we_type rfl T.b_list bt_list (by decide) (by decide) ?_))
set_option hygiene false in
local macro_rules | `(tactic| walk_at "E") => `(tactic| first
  | ((with_reducible show DL.WE _ (.Name _ _) _ _ _); first | walk_at "nm" | walk_at "ty")
  | ((with_reducible show DL.WE _ (.Constant _ _ _) _ _ _); first | refine we_int ?_ | refine we_str ?_ | refine we_bl ?_ | refine we_non ?_)
  | ((with_reducible show DL.WE _ (.Call (.Name "sorted" _) [.Call (.Name "set" _) [_] [] _] [] _) _ _ _); refine we_sortedSet T.b_sorted T.b_set (h := ?_))
  | ((with_reducible show DL.WE _ (.Call (.Name "list" _) [.Call (.Attribute _ "values" _) [] [] _] [] _) _ _ _); refine we_listVals T.b_list (h := ?_))
  | ((with_reducible show DL.WE _ (.Call (.Name _ _) _ [] _) _ _ _); walk_at "call")
  | ((with_reducible show DL.WE _ (.Call (.Attribute _ "get" _) [_, _] [] _) _ _ _); refine we_dget2A (h := ?_))
  | ((with_reducible show DL.WE _ (.Call (.Attribute _ "append" _) _ [] _) _ _ _); refine we_lmA PySem.F.slot_list_append PySem.F.type_list_append (h := ?_))
  | ((with_reducible show DL.WE _ (.Call (.Attribute _ "extend" _) _ [] _) _ _ _); refine we_lmA PySem.F.slot_list_extend PySem.F.type_list_extend (h := ?_))
  | ((with_reducible show DL.WE _ (.Call (.Attribute _ "pop" _) (_ :: _) [] _) _ _ _); refine we_lmA PySem.F.slot_list_pop PySem.F.type_list_pop (h := ?_))
  | ((with_reducible show DL.WE _ (.BinOp _ _ _ _) _ _ _); refine we_bin ?_)
  | ((with_reducible show DL.WE _ (.Compare _ [_] _ _) _ _ _); refine we_cmp (h := ?_))
  | ((with_reducible show DL.WE _ (.Compare _ [_, _] _ _) _ _ _); refine we_chain (h := ?_))
  | ((with_reducible show DL.WE _ (.Subscript _ (.Slice _ _ none _) _) _ _ _); refine we_slice ?_)
  | ((with_reducible show DL.WE _ (.Subscript _ (.Slice none none _ _) _) _ _ _); first | refine we_revL ?_ | refine we_slice ?_)
  | ((with_reducible show DL.WE _ (.Subscript _ _ _) _ _ _); refine we_sub (h := ?_))
  | ((with_reducible show DL.WE _ (.Tuple _ _ _) _ _ _); refine we_tup ?_)
  | ((with_reducible show DL.WE _ (.UnaryOp .Not _ _) _ _ _); refine we_not ?_)
  | ((with_reducible show DL.WE _ (.UnaryOp _ _ _) _ _ _); refine we_un ?_)
  | ((with_reducible show DL.WE _ (.BoolOp _ [_] _) _ _ _); refine we_one ?_)
  | ((with_reducible show DL.WE _ (.BoolOp .And _ _) _ _ _); refine we_and ?_)
  | ((with_reducible show DL.WE _ (.BoolOp .Or _ _) _ _ _); refine we_or ?_)
  | ((with_reducible show DL.WE _ (.IfExp _ _ _ _) _ _ _); refine we_ifExp ?_)
  | ((with_reducible show DL.WE _ (.List [] _) _ _ _); refine we_lstM (wa_nil ⟨szb rfl, fun p hp => ?_⟩))
  | ((with_reducible show DL.WE _ (.List _ _) _ _ _); refine we_lst ?_)
  | ((with_reducible show DL.WE _ (.Dict [] [] _) _ _ _); refine we_dctM (fun p hp => ?_)))
set_option hygiene false in
local macro_rules | `(tactic| walk_at "S") => `(tactic| first
  | ((with_reducible show DL.WS _ (.Assign [.Name _ _] _ _) _ _ _); walk_at "set")
  | ((with_reducible show DL.WS _ (.Return (some _) _) _ _ _); refine ws_ret' ?_)
  | ((with_reducible show DL.WS _ (.Return _ _) _ _ _); refine ws_retN ?_)
  | ((with_reducible show DL.WS _ (.If _ _ _ _) _ _ _); refine ws_if ?_)
  | ((with_reducible show DL.WS _ (.Expr _ _) _ _ _); refine ws_expr (h := ?_))
  | ((with_reducible show DL.WS _ (.Assign [.Tuple _ _ _] _ _) _ _ _); refine ws_asg (h := ?_))
  | ((with_reducible show DL.WS _ (.Assign [.Subscript _ _ _] _ _) _ _ _); refine ws_putA (h := ?_))
  | ((with_reducible show DL.WS _ (.AugAssign (.Name _ _) _ _ _) _ _ _); walk_at "aug")
  | ((with_reducible show DL.WS _ (.AugAssign (.Subscript _ _ _) .Add _ _) _ _ _); refine ws_augLA (fun _ => ip_add) (h := ?_))
  | ((with_reducible show DL.WS _ (.For _ _ _ [] _) _ _ _); refine ws_for (h := ?_))
  | ((with_reducible show DL.WS _ (.Pass _) _ _ _); refine ws_pass ?_)
  | ((with_reducible show DL.WS _ (.Break _) _ _ _); refine ws_break ?_)
  | ((with_reducible show DL.WS _ (.Continue _) _ _ _); refine ws_cont ?_))
set_option hygiene false in
local macro_rules | `(tactic| walk_at "T") => `(tactic| first
  | ((with_reducible show DL.WT _ (.Compare _ [_] _ _) _ _ _); refine wt_cmp (h := ?_))
  | ((with_reducible show DL.WT _ (.Compare _ [_, _] _ _) _ _ _); refine wt_chain (h := ?_))
  | ((with_reducible show DL.WT _ (.UnaryOp .Not _ _) _ _ _); refine wt_not ?_)
  | ((with_reducible show DL.WT _ (.BoolOp _ _ _) _ _ _); refine wt_ww ?_)
  | refine wt_val (h := ?_))
set_option hygiene false in
local macro_rules | `(tactic| walk_at "O") => `(tactic| first
  | ((with_reducible show DL.WO _ (binaryOp .Add) _ _ _ _); first | refine wo_add ?_ | refine wo_cat (.inl rfl) (.inl rfl) (by walk_at "sz") ?_ | refine wo_cat (.inr ⟨_, rfl, by walk_at "mem"⟩) (.inl rfl) (by walk_at "sz") ?_ | refine wo_catT (by walk_at "sz") ?_)
  | ((with_reducible show DL.WO _ (binaryOp .Sub) _ _ _ _); refine wo_sub ?_)
  | ((with_reducible show DL.WO _ (binaryOp .Mult) _ _ _ _); refine wo_mul (by walk_at "side") ?_)
  | ((with_reducible show DL.WO _ (binaryOp .FloorDiv) _ _ _ _); refine wo_fdiv (by walk_at "side") ?_)
  | ((with_reducible show DL.WO _ (binaryOp .Mod) _ _ _ _); refine wo_mod (by walk_at "side") ?_)
  | ((with_reducible show DL.WO _ (compareOp .Lt) _ _ _ _); refine wo_lt ?_)
  | ((with_reducible show DL.WO _ (compareOp .LtE) _ _ _ _); refine wo_le ?_)
  | ((with_reducible show DL.WO _ (compareOp .Gt) _ _ _ _); refine wo_gt ?_)
  | ((with_reducible show DL.WO _ (compareOp .GtE) _ _ _ _); refine wo_ge ?_)
  | ((with_reducible show DL.WO _ (compareOp .Eq) _ _ _ _); first | refine wo_eqI ?_ | refine wo_eqS ?_ | refine wo_eqB ?_ | refine wo_eqIL ?_ | refine wo_eqIT ?_)
  | ((with_reducible show DL.WO _ (compareOp .NotEq) _ _ _ _); first | refine wo_neI ?_ | refine wo_neS ?_ | refine wo_neB ?_ | refine wo_neIL ?_ | refine wo_neIT ?_)
  | ((with_reducible show DL.WO _ (compareOp .Is) _ _ _ _); first | refine wo_isB ?_ | refine wo_isN true (.inl ⟨rfl, rfl⟩) ?_ | refine wo_isN false (.inr ⟨rfl, fun z => by cases z⟩) ?_)
  | ((with_reducible show DL.WO _ (compareOp .IsNot) _ _ _ _); first | refine wo_isnotB ?_ | refine wo_notN false (.inl ⟨rfl, rfl⟩) ?_ | refine wo_notN true (.inr ⟨rfl, fun z => by cases z⟩) ?_)
  | ((with_reducible show DL.WO _ (compareOp .In) _ _ _ _); first | refine wo_inT ?_ | refine wo_inL ?_)
  | ((with_reducible show DL.WO _ (compareOp .NotIn) _ _ _ _); first | refine wo_notinT ?_ | refine wo_notinL ?_)
  | ((with_reducible show DL.WO _ (binaryOp .Pow) _ _ _ _); refine wo_pow (by walk_at "side") ?_)
  | ((with_reducible show DL.WO _ (binaryOp .LShift) _ _ _ _); refine wo_shl (by walk_at "side") ?_))
set_option hygiene false in
local macro_rules | `(tactic| walk_at "C") => `(tactic| first
  | ((with_reducible show DL.WC _ (.builtin "len") [.tup (List.map _ _)] _ _); refine wc_len_tupM ?_)
  | ((with_reducible show DL.WC _ (.builtin "len") [.lst (List.map _ _)] _ _); refine wc_len_lstM ?_)
  | ((with_reducible show DL.WC _ (.builtin "len") [.loc _] _ _); refine wc_len_loc (by walk_at "mem") ?_)
  | ((with_reducible show DL.WC _ (.builtin "len") _ _ _); first | refine wc_len_tup ?_ | refine wc_len_lst ?_)
  | ((with_reducible show DL.WC _ (.builtin "all") _ _ _); first | refine wc_allT ?_ | refine wc_allM ?_)
  | ((with_reducible show DL.WC _ (.builtin "any") _ _ _); refine wc_anyM ?_)
  | ((with_reducible show DL.WC _ (.type "int") _ _ _); first | refine wc_int ?_ | refine wc_intB ?_)
  | ((with_reducible show DL.WC _ (.builtin "abs") _ _ _); refine wc_abs ?_)
  | ((with_reducible show DL.WC _ (.builtin "max") _ _ _); refine wc_max2 ?_)
  | ((with_reducible show DL.WC _ (.builtin "min") _ _ _); refine wc_min2 ?_)
  | ((with_reducible show DL.WC _ (.type "tuple") _ _ _); first | refine wc_tuple (.inl rfl) ?_ | refine wc_tuple (.inr (.inl rfl)) ?_ | refine wc_tuple (.inr (.inr ⟨_, rfl, by walk_at "mem"⟩)) ?_)
  | ((with_reducible show DL.WC _ (.type "list") _ _ _); first | refine wc_list (.inl rfl) ?_ | refine wc_list (.inr (.inl rfl)) ?_ | refine wc_list (.inr (.inr ⟨_, rfl, by walk_at "mem"⟩)) ?_)
  | ((with_reducible show DL.WC _ (.builtin "isinstance") _ _ _); first | refine wc_isi (k := true) rfl (by decide +kernel) ?_ | refine wc_isi (k := false) rfl (by decide +kernel) ?_))
set_option hygiene false in
local macro_rules | `(tactic| walk_at "Ix") => `(tactic| first
  | ((with_reducible show DL.WIx _ (.loc _) _ _ _); refine wix_loc (by walk_at "mem") (by walk_at "at") ?_)
  | ((with_reducible show DL.WIx _ (.lst _) _ _ _); refine wix_lst (by walk_at "at") ?_)
  | ((with_reducible show DL.WIx _ (.tup _) _ _ _); refine wix_tup (by walk_at "at") ?_)
  | refine wix_tup rfl ?_
  | refine wix_lst rfl ?_)
set_option hygiene false in
local macro_rules | `(tactic| walk_at "M") => `(tactic| first
  | ((with_reducible show DL.WM _ "list.append" _ _ _ _); refine wm_append (by walk_at "mem") (by walk_at "sz") ?_))
set_option hygiene false in
local macro_rules | `(tactic| walk_at "sz") => `(tactic| first
  | exact szb rfl
  | exact szl (by first | omega | (simp only [List.length_map, List.length_append, List.length_cons, List.length_nil, rangeD_length] at *; omega))
  | exact szle (by first | omega | (simp only [List.length_map, List.length_append, List.length_cons, List.length_nil, rangeD_length] at *; omega)))
set_option hygiene false in
local macro_rules | `(tactic| walk_at "pre") => `(tactic| first
  | (with_reducible assumption)
  | ((with_reducible show _ = _); first | rfl | walk_at "mem" | (simp; done))
  | ((with_reducible show _ ∧ _); first | exact ⟨rfl, rfl⟩ | exact ⟨by omega, by omega⟩)
  | ((with_reducible show (_ : Nat) ≤ _); first | omega | (simp only [List.length_map, List.length_append, List.length_cons, List.length_nil, rangeD_length]; omega))
  | ((with_reducible show (_ : Nat) < _); first | omega | (simp only [List.length_map, List.length_append, List.length_cons, List.length_nil, rangeD_length]; omega))
  | ((with_reducible show (_ : Int) ≤ _); first | omega | (simp only [List.length_map, List.length_append, List.length_cons, List.length_nil, rangeD_length]; omega))
  | ((with_reducible show (_ : Int) < _); first | omega | (simp only [List.length_map, List.length_append, List.length_cons, List.length_nil, rangeD_length]; omega) | (simp; done))
  | assumption
  | (simp; done))
set_option hygiene false in
local macro_rules | `(tactic| walk_at "I") => `(tactic| first
  | ((with_reducible show DL.WI _ _ (.Call (.Name "range" _) [_] [] _) _ _ _); refine wi_range1 T.b_range (h := ?_))
  | ((with_reducible show DL.WI _ _ (.Call (.Name "range" _) [_, _] [] _) _ _ _); refine wi_range2 T.b_range (h := ?_))
  | ((with_reducible show DL.WI _ _ (.Call (.Name "range" _) [_, _, _] [] _) _ _ _); refine wi_range3n T.b_range (h := ?_))
  | ((with_reducible show DL.WI _ _ (.Call (.Name "enumerate" _) [_] [] _) _ _ _); refine wi_enum T.b_enumerate (h := ?_))
  | ((with_reducible show DL.WI _ _ (.Call (.Name "zip" _) [_, _] [] _) _ _ _); refine wi_zip T.b_zip (h := ?_))
  | ((with_reducible show DL.WI _ _ (.Call _ _ _ _) _ _ _); refine wi_lst ?_))
/- one step -/
set_option hygiene false in
local macro_rules | `(tactic| walk_at "dl") => `(tactic| first
  | ((with_reducible show DL.WE _ _ _ _ _); walk_at "E")
  | ((with_reducible show DL.WSs _ _ _ _ _); first | refine wss_cons ?_ | refine wss_nil ?_)
  | ((with_reducible show DL.WS _ _ _ _ _); walk_at "S")
  | ((with_reducible show DL.WA _ _ _ _ _); first | refine wa_cons (h := ?_) | refine wa_nil ?_)
  | ((with_reducible show DL.WO _ _ _ _ _ _); walk_at "O")
  | ((with_reducible show DL.WT _ _ _ _ _); walk_at "T")
  | ((with_reducible show DL.WW _ _ _ _ _); first | refine ww_and ?_ | refine ww_or ?_ | refine ww_and1 ?_ | refine ww_or1 ?_)
  | ((with_reducible show DL.WC _ _ _ _ _); walk_at "C")
  | ((with_reducible show DL.WIx _ _ _ _ _); walk_at "Ix")
  | ((with_reducible show DL.WM _ _ _ _ _ _); walk_at "M")
  | ((with_reducible show DL.WU _ _ _ _ _); refine wu_neg ?_)
  | ((with_reducible show DL.WGi _ _ (.Name _ _) _ _ _ _); walk_at "gnm")
  | ((with_reducible show DL.WGi _ _ _ _ _ _ _); refine wg_tup _ (h := ?_))
  | ((with_reducible show DL.WGs _ _ _ _ _ _ _); first | refine wgs_cons (h := ?_) | refine wgs_nil ?_)
  | ((with_reducible show DL.WI _ _ _ _ _ _); walk_at "I")
  | ((with_reducible show DL.WTs _ _ _ _ _); first | refine wts_one ?_ | refine wts_nil ?_)
  | ((with_reducible show DL.WP _ _ _ _ _); first | refine wp_none ?_ | refine wp_some ?_)
  | ((with_reducible show DL.WSl _ _ _ _ _ _); first | refine wsl_tup ?_ | refine wsl_lst ?_ | refine wsl_loc (by walk_at "mem") ?_)
  | ((with_reducible show _ = true → DL.WE _ _ _ _ _); intro hk)
  | ((with_reducible show (_ = _ → _) ∧ (_ = _ → _)); walk_at "if")
  | ((with_reducible refine ⟨_, ixN_nat ?_ ?_, ?_⟩); (focus omega); (focus first | omega | (simp only [List.length_map, List.length_set, List.length_append] at *; omega)))
  | refine ⟨_, rfl, ?_⟩
  | refine ⟨szb rfl, ?_⟩
  | refine ⟨.inl _, rfl, ?_⟩
  | refine ⟨.inr _, rfl, ?_⟩
  | refine ⟨_, .inl (by walk_at "mem"), ?_⟩
  | refine ⟨_, .inr ⟨_, _, by walk_at "mem"⟩, ?_⟩
  | refine ⟨_, .inr ⟨_, rfl, by walk_at "mem"⟩, ?_⟩
  | refine ⟨_, .inl rfl, ?_⟩
  | refine ⟨_, .inr (.inl rfl), ?_⟩
  | refine ⟨_, .inr rfl, ?_⟩
  | ((with_reducible show _ ∧ _); refine ⟨by walk_at "pre", ?_⟩)
  | refine ⟨_, by walk_at "mem", ?_⟩
  | refine ⟨_, _, rfl, ?_⟩
  | refine ⟨_, _, _, rfl, ?_⟩
  | refine ⟨_, _, _, _, rfl, ?_⟩
  | refine ⟨_, _, _, _, _, rfl, ?_⟩
  | refine ⟨_, _, _, _, _, _, rfl, ?_⟩
  | refine ⟨_, _, _, _, _, _, _, rfl, ?_⟩
  | ((with_reducible show (_ : Mem) = _); rfl)
  | fail "stuck")
/- one step, within a statement -/
set_option hygiene false in
local macro_rules | `(tactic| walk_at "dlE") => `(tactic| first
  | ((with_reducible show DL.WE _ _ _ _ _); walk_at "E")
  | ((with_reducible show DL.WS _ _ _ _ _); walk_at "S")
  | ((with_reducible show DL.WA _ _ _ _ _); first | refine wa_cons (h := ?_) | refine wa_nil ?_)
  | ((with_reducible show DL.WO _ _ _ _ _ _); walk_at "O")
  | ((with_reducible show DL.WT _ _ _ _ _); walk_at "T")
  | ((with_reducible show DL.WW _ _ _ _ _); first | refine ww_and ?_ | refine ww_or ?_ | refine ww_and1 ?_ | refine ww_or1 ?_)
  | ((with_reducible show DL.WC _ _ _ _ _); walk_at "C")
  | ((with_reducible show DL.WIx _ _ _ _ _); walk_at "Ix")
  | ((with_reducible show DL.WM _ _ _ _ _ _); walk_at "M")
  | ((with_reducible show DL.WU _ _ _ _ _); refine wu_neg ?_)
  | ((with_reducible show DL.WGi _ _ (.Name _ _) _ _ _ _); walk_at "gnm")
  | ((with_reducible show DL.WGi _ _ _ _ _ _ _); refine wg_tup _ (h := ?_))
  | ((with_reducible show DL.WGs _ _ _ _ _ _ _); first | refine wgs_cons (h := ?_) | refine wgs_nil ?_)
  | ((with_reducible show DL.WI _ _ _ _ _ _); walk_at "I")
  | ((with_reducible show DL.WTs _ _ _ _ _); first | refine wts_one ?_ | refine wts_nil ?_)
  | ((with_reducible show DL.WP _ _ _ _ _); first | refine wp_none ?_ | refine wp_some ?_)
  | ((with_reducible show DL.WSl _ _ _ _ _ _); first | refine wsl_tup ?_ | refine wsl_lst ?_ | refine wsl_loc (by walk_at "mem") ?_)
  | ((with_reducible show _ = true → DL.WE _ _ _ _ _); intro hk)
  | ((with_reducible show (_ = _ → _) ∧ (_ = _ → _)); walk_at "if")
  | ((with_reducible refine ⟨_, ixN_nat ?_ ?_, ?_⟩); (focus omega); (focus first | omega | (simp only [List.length_map, List.length_set, List.length_append] at *; omega)))
  | refine ⟨_, rfl, ?_⟩
  | refine ⟨szb rfl, ?_⟩
  | refine ⟨.inl _, rfl, ?_⟩
  | refine ⟨.inr _, rfl, ?_⟩
  | refine ⟨_, .inl (by walk_at "mem"), ?_⟩
  | refine ⟨_, .inr ⟨_, _, by walk_at "mem"⟩, ?_⟩
  | refine ⟨_, .inr ⟨_, rfl, by walk_at "mem"⟩, ?_⟩
  | refine ⟨_, .inl rfl, ?_⟩
  | refine ⟨_, .inr (.inl rfl), ?_⟩
  | refine ⟨_, .inr rfl, ?_⟩
  | ((with_reducible show _ ∧ _); refine ⟨by walk_at "pre", ?_⟩)
  | refine ⟨_, by walk_at "mem", ?_⟩
  | refine ⟨_, _, rfl, ?_⟩
  | refine ⟨_, _, _, rfl, ?_⟩
  | refine ⟨_, _, _, _, rfl, ?_⟩
  | refine ⟨_, _, _, _, _, rfl, ?_⟩
  | refine ⟨_, _, _, _, _, _, rfl, ?_⟩
  | refine ⟨_, _, _, _, _, _, _, rfl, ?_⟩
  | ((with_reducible show (_ : Mem) = _); rfl)
  | fail "stuck")
set_option hygiene false in
local macro_rules | `(tactic| walk_at "goE") => `(tactic| repeat' walk_at "dlE")
set_option hygiene false in
local macro_rules | `(tactic| walk_at "go") => `(tactic| repeat' walk_at "dl")
set_option hygiene false in
local macro_rules | `(tactic| walk_at "nx") => `(tactic| ((try rw [Mem.upd_upd]); walk_at "go"))
set_option hygiene false in
local macro_rules | `(tactic| walk_at "call") => `(tactic| ((with_reducible show DL.WE _ (.Call (.Name "_law_begin" _) _ [] _) _ _ _); refine we_call (ok_begin T) (h := ?_)))
set_option hygiene false in
local macro_rules | `(tactic| walk_at "call") => `(tactic| ((with_reducible show DL.WE _ (.Call (.Name "_law_draw" _) _ [] _) _ _ _); refine we_call (ok_draw T) (h := ?_)))
set_option hygiene false in
local macro_rules | `(tactic| walk_at "call") => `(tactic| ((with_reducible show DL.WE _ (.Call (.Name "_law_pick" _) _ [] _) _ _ _); refine we_call (ok_pick T) (h := ?_)))
set_option hygiene false in
local macro_rules | `(tactic| walk_at "call") => `(tactic| ((with_reducible show DL.WE _ (.Call (.Name "_law_is_int" _) _ [] _) _ _ _); refine we_call (ok_is_int T) (h := ?_)))
set_option hygiene false in
local macro_rules | `(tactic| walk_at "call") => `(tactic| ((with_reducible show DL.WE _ (.Call (.Name "_law_is_ints" _) _ [] _) _ _ _); refine we_call (ok_is_ints T) (h := ?_)))
set_option hygiene false in
local macro_rules | `(tactic| walk_at "call") => `(tactic| ((with_reducible show DL.WE _ (.Call (.Name "is_whole" _) _ [] _) _ _ _); refine we_call (ok_is_whole T) (h := ?_)))
set_option hygiene false in
local macro_rules | `(tactic| walk_at "call") => `(tactic| ((with_reducible show DL.WE _ (.Call (.Name "allowed_at" _) _ [] _) _ _ _); refine we_call (ok_allowed_at T) (h := ?_)))
set_option hygiene false in
local macro_rules | `(tactic| walk_at "call") => `(tactic| ((with_reducible show DL.WE _ (.Call (.Name "reach_of" _) _ [] _) _ _ _); refine we_call (ok_reach_of T) (h := ?_)))
set_option hygiene false in
local macro_rules | `(tactic| walk_at "call") => `(tactic| ((with_reducible show DL.WE _ (.Call (.Name "fewest_tellings" _) _ [] _) _ _ _); refine we_call (ok_fewest_tellings T) (h := ?_)))
set_option hygiene false in
local macro_rules | `(tactic| walk_at "call") => `(tactic| ((with_reducible show DL.WE _ (.Call (.Name "is_right_plan" _) _ [] _) _ _ _); refine we_call (ok_is_right_plan T) (h := ?_)))
set_option hygiene false in
local macro_rules | `(tactic| walk_at "call") => `(tactic| ((with_reducible show DL.WE _ (.Call (.Name "are_right_bars" _) _ [] _) _ _ _); refine we_call (ok_are_right_bars T) (h := ?_)))
set_option hygiene false in
local macro_rules | `(tactic| walk_at "call") => `(tactic| ((with_reducible show DL.WE _ (.Call (.Name "judge_tellings" _) _ [] _) _ _ _); refine we_call (ok_judge_tellings T) (h := ?_)))
set_option hygiene false in
local macro_rules | `(tactic| walk_at "call") => `(tactic| ((with_reducible show DL.WE _ (.Call (.Name "_law_given" _) _ [] _) _ _ _); refine we_call (ok_given T) (h := ?_)))
set_option hygiene false in
local macro_rules | `(tactic| walk_at "call") => `(tactic| ((with_reducible show DL.WE _ (.Call (.Name "_law_plan_is_right" _) _ [] _) _ _ _); refine we_call (ok_plan_is_right T) (h := ?_)))
set_option hygiene false in
local macro_rules | `(tactic| walk_at "call") => `(tactic| ((with_reducible show DL.WE _ (.Call (.Name "_law_end" _) _ [] _) _ _ _); refine we_call (ok_end T) (h := ?_)))
set_option hygiene false in
local macro_rules | `(tactic| walk_at "call") => `(tactic| ((with_reducible show DL.WE _ (.Call (.Name "_law_bars_are_right" _) _ [] _) _ _ _); refine we_call (ok_bars_are_right T) (h := ?_)))
set_option hygiene false in
local macro_rules | `(tactic| walk_at "call") => `(tactic| ((with_reducible show DL.WE _ (.Call (.Name "_law_pair_is_right" _) _ [] _) _ _ _); refine we_call (ok_pair_is_right T) (h := ?_)))
set_option hygiene false in
local macro_rules | `(tactic| walk_at "call") => `(tactic| ((with_reducible show DL.WE _ (.Call (.Name "_law_is_pair" _) _ [] _) _ _ _); refine we_call (ok_is_pair T) (h := ?_)))
set_option hygiene false in
local macro_rules | `(tactic| walk_at "call") => `(tactic| ((with_reducible show DL.WE _ (.Call (.Name "_law_values" _) _ [] _) _ _ _); refine we_call (ok_values T) (h := ?_)))
set_option hygiene false in
local macro_rules | `(tactic| walk_at "call") => `(tactic| ((with_reducible show DL.WE _ (.Call (.Name "_law_slack" _) _ [] _) _ _ _); refine we_call (ok_slack T) (h := ?_)))
set_option hygiene false in
local macro_rules | `(tactic| walk_at "call") => `(tactic| ((with_reducible show DL.WE _ (.Call (.Name "_law_told_at" _) _ [] _) _ _ _); refine we_call (ok_told_at T) (h := ?_)))
set_option hygiene false in
local macro_rules | `(tactic| walk_at "call") => `(tactic| ((with_reducible show DL.WE _ (.Call (.Name "_law_costs" _) _ [] _) _ _ _); refine we_call (ok_costs T) (h := ?_)))
theorem greedy_pair {vs : List Int} {s : Nat} (h : 0 < vs.length) : PairL vs s (greedy vs s) ((greedy vs s).map (·.1)) := by
  obtain ⟨h1, g, h2⟩ := greedy_gs (s := s) h
  exact greedy_right h1 h2
theorem greedy_len {vs : List Int} {s : Nat} : (greedy vs s).length ≤ vs.length := gr_len _ _
theorem tab_least {vs : List Int} {s : Nat} {N : Nat → Nat} {F : Nat → Int → Int} (h0 : 0 < vs.length) (h : Tab vs s vs.length N F) : N (vs.length - 1) = (greedy vs s).length := by
  obtain ⟨g, hg⟩ := (h.row (vs.length - 1) (by omega)).last (by omega)
  obtain ⟨_, g', hg'⟩ := greedy_gs (s := s) h0
  exact hg.uniq hg'
def sp_fewest : DSp := fun ds μ Q => ∃ (vs : List Int) (s : Nat), ds = [.tup (iD vs), .int s] ∧ 0 < vs.length ∧ vs.length ≤ 300 ∧ Q (greedyD vs s) μ
theorem sc_fewest : FnScope ["values", "slack", "found", "least"] ["values", "slack"] (defScope s_fewest) := ⟨rfl, rfl, rfl, by decide +kernel, rfl, by decide +kernel, by decide +kernel⟩
section
set_option hygiene false in
local macro_rules | `(tactic| walk_at "nm") => `(tactic| first | ((with_reducible show DL.WE _ (.Name "values" _) _ _ _); refine we_name 0 (q := ?_)) | ((with_reducible show DL.WE _ (.Name "slack" _) _ _ _); refine we_name 1 (q := ?_)) | ((with_reducible show DL.WE _ (.Name "found" _) _ _ _); refine we_name 2 (q := ?_)) | ((with_reducible show DL.WE _ (.Name "least" _) _ _ _); refine we_name 3 (q := ?_)))
set_option hygiene false in
local macro_rules | `(tactic| walk_at "set") => `(tactic| first | ((with_reducible show DL.WS _ (.Assign [.Name "values" _] _ _) _ _ _); refine ws_set 0 (h := ?_)) | ((with_reducible show DL.WS _ (.Assign [.Name "slack" _] _ _) _ _ _); refine ws_set 1 (h := ?_)) | ((with_reducible show DL.WS _ (.Assign [.Name "found" _] _ _) _ _ _); refine ws_set 2 (h := ?_)) | ((with_reducible show DL.WS _ (.Assign [.Name "least" _] _ _) _ _ _); refine ws_set 3 (h := ?_)))
set_option hygiene false in
local macro_rules | `(tactic| walk_at "gnm") => `(tactic| first | ((with_reducible show DL.WGi _ _ (.Name "values" _) _ _ _ _); refine wg_name 0 (q := ?_)) | ((with_reducible show DL.WGi _ _ (.Name "slack" _) _ _ _ _); refine wg_name 1 (q := ?_)) | ((with_reducible show DL.WGi _ _ (.Name "found" _) _ _ _ _); refine wg_name 2 (q := ?_)) | ((with_reducible show DL.WGi _ _ (.Name "least" _) _ _ _ _); refine wg_name 3 (q := ?_)))
set_option maxHeartbeats 1000000 in
theorem ok_fewest (T : Txt K mg) : FnD P w K mg base 5 "_law_fewest" sp_fewest := by
  refine TF.ok 4 T.f_fewest sc_fewest (fun ds μ Q ⟨_, _, h, _⟩ => by rw [h]; rfl) fun ds μ Q h => ?_
  obtain ⟨vs, s, rfl, h0, hl, q⟩ := h
  have gl := greedy_len (vs := vs) (s := s)
  have gp := greedy_pair (s := s) h0
  walk_at "go"
  intro b hb
  obtain rfl := hb.mpr gp
  walk_at "go"
  · intro N F ad μ' hT hsub
    obtain ⟨n, hn⟩ : ∃ n, vs.length = n + 1 := ⟨vs.length - 1, by omega⟩
    have hL := tab_least h0 hT.tab
    have hC := hT.tab.row (vs.length - 1) (by omega)
    rw [hn] at hT
    obtain ⟨al, hal, hal2, mal⟩ := hT.last
    rw [hn, Nat.add_sub_cancel] at hL hC
    walk_at "go"
    rw [row_vals]
    refine wc_minL rfl (row_pos hC) fun x hx hlx => ?_
    obtain rfl := row_least hC hx hlx
    rw [hL]
    refine wss_cons (ws_ret ?_)
    unfold greedyD encF
    walk_at "go"
    intro b hb
    obtain rfl := hb.mpr gp
    walk_at "go"
    · exact q
    · exact absurd rfl hk
end
set_option hygiene false in
local macro_rules | `(tactic| walk_at "call") => `(tactic| ((with_reducible show DL.WE _ (.Call (.Name "_law_fewest" _) _ [] _) _ _ _); refine we_call (ok_fewest T) (h := ?_)))
end K80
namespace K80
open PySem L2 DL Tell
variable {P : Program} {w : World} {K : PySem.W.Frag} {mg : Str → Option Value} {base : Heap}
set_option hygiene false in
local macro_rules | `(tactic| walk_at "side") => `(tactic| first
  | (with_reducible assumption)
  | rfl
  | omega
  | decide
  | exact ⟨by omega, by omega⟩
  | exact ⟨by decide, by decide⟩
  | exact .inl ⟨by decide, by decide⟩
  | exact .inr ⟨by decide, by decide⟩
  | exact .inl ⟨by omega, by omega⟩
  | exact .inr ⟨by omega, by omega⟩
  | exact ⟨by decide, by decide, by decide⟩
  | exact szb rfl
  | fail "side")
set_option hygiene false in
local macro_rules | `(tactic| walk_at "ne") => `(tactic| first
  | assumption
  | exact Ne.symm (by assumption)
  | exact ne_fresh (by assumption) (by assumption)
  | exact Ne.symm (ne_fresh (by assumption) (by assumption)))
/- what stands at an address -/
set_option hygiene false in
local macro_rules | `(tactic| walk_at "mem") => `(tactic| first
  | assumption
  | exact Mem.upd_same
  | exact (Mem.upd_ne (by walk_at "ne")).trans (by walk_at "mem"))
/- an item of a list -/
set_option hygiene false in
local macro_rules | `(tactic| walk_at "at") => `(tactic| first
  | rfl
  | exact atI_getI (by omega) (by omega)
  | exact atI_lastI (by first | omega | (simp only [List.length_map] at *; omega))
  | exact atI_lastM _ (by assumption)
  | exact atI_mapI _ (by omega) (by assumption)
  | exact atI_mapN _ (by assumption)
  | exact atI_get _ (by first | omega | (simp only [List.length_map, List.length_set] at *; omega)) (by first | omega | (simp only [List.length_map, List.length_set] at *; omega)))
/- tests that are decided or split -/
set_option hygiene false in
local macro_rules | `(tactic| walk_at "if") => `(tactic| first
  | refine if_tt ?_
  | refine if_ff ?_
  | refine if_f_tt ?_
  | refine if_f_ff ?_
  | (refine if_dec (fun hk => ?_) (fun hk => ?_))
  | (refine if_ndec (fun hk => ?_) (fun hk => ?_))
  | (refine if_f_dec (fun hk => ?_) (fun hk => ?_))
  | (refine if_f_ndec (fun hk => ?_) (fun hk => ?_))
  | (refine if_nb (fun hk => ?_) (fun hk => ?_))
  | (refine if_f_nb (fun hk => ?_) (fun hk => ?_))
  | (refine And.intro (fun hk => ?_) (fun hk => ?_)))
set_option hygiene false in
local macro_rules | `(tactic| walk_at "call") => `(tactic| first
  | ((with_reducible show DL.WE _ (.Call (.Name "len" _) _ [] _) _ _ _); refine we_callB bt_len T.b_len (h := ?_))
  | ((with_reducible show DL.WE _ (.Call (.Name "abs" _) _ [] _) _ _ _); refine we_callB bt_abs T.b_abs (h := ?_))
  | ((with_reducible show DL.WE _ (.Call (.Name "min" _) _ [] _) _ _ _); refine we_callB bt_min T.b_min (h := ?_))
  | ((with_reducible show DL.WE _ (.Call (.Name "max" _) _ [] _) _ _ _); refine we_callB bt_max T.b_max (h := ?_))
  | ((with_reducible show DL.WE _ (.Call (.Name "sum" _) _ [] _) _ _ _); refine we_callB bt_sum T.b_sum (h := ?_))
  | ((with_reducible show DL.WE _ (.Call (.Name "all" _) _ [] _) _ _ _); refine we_callB bt_all T.b_all (h := ?_))
  | ((with_reducible show DL.WE _ (.Call (.Name "any" _) _ [] _) _ _ _); refine we_callB bt_any T.b_any (h := ?_))
  | ((with_reducible show DL.WE _ (.Call (.Name "sorted" _) _ [] _) _ _ _); refine we_callB bt_sorted T.b_sorted (h := ?_))
  | ((with_reducible show DL.WE _ (.Call (.Name "isinstance" _) _ [] _) _ _ _); refine we_callB bt_isinstance T.b_isinstance (h := ?_))
  | ((with_reducible show DL.WE _ (.Call (.Name "int" _) _ [] _) _ _ _); refine we_callT bt_int T.b_int (h := ?_))
  | ((with_reducible show DL.WE _ (.Call (.Name "list" _) _ [] _) _ _ _); refine we_callT bt_list T.b_list (h := ?_))
  | ((with_reducible show DL.WE _ (.Call (.Name "tuple" _) _ [] _) _ _ _); refine we_callT bt_tuple T.b_tuple (h := ?_))
  | ((with_reducible show DL.WE _ (.Call (.Name "bool" _) _ [] _) _ _ _); refine we_callT bt_bool T.b_bool (h := ?_))
  | ((with_reducible show DL.WE _ (.Call (.Name "set" _) _ [] _) _ _ _); refine we_callT bt_set T.b_set (h := ?_)))
set_option hygiene false in
local macro_rules | `(tactic| walk_at "ty") => `(tactic| first
  | ((with_reducible show DL.WE _ (.Name "int" _) _ _ _); refine we_type rfl T.b_int bt_int (by decide) (by decide) ?_)
  | ((with_reducible show DL.WE _ (.Name "bool" _) _ _ _); refine we_type rfl T.b_bool bt_bool (by decide) (by decide) ?_)
  | ((with_reducible show DL.WE _ (.Name "tuple" _) _ _ _); refine we_type rfl T.b_tuple bt_tuple (by decide) (by decide) ?_)
  | ((with_reducible show DL.WE _ (.Name "list" _) _ _ _); refine we_type rfl T.b_list bt_list (by decide) (by decide) ?_))
set_option hygiene false in
local macro_rules | `(tactic| walk_at "E") => `(tactic| first
  | ((with_reducible show DL.WE _ (.Name _ _) _ _ _); first | walk_at "nm" | walk_at "ty")
  | ((with_reducible show DL.WE _ (.Constant _ _ _) _ _ _); first | refine we_int ?_ | refine we_str ?_ | refine we_bl ?_ | refine we_non ?_)
  | ((with_reducible show DL.WE _ (.Call (.Name "sorted" _) [.Call (.Name "set" _) [_] [] _] [] _) _ _ _); refine we_sortedSet T.b_sorted T.b_set (h := ?_))
  | ((with_reducible show DL.WE _ (.Call (.Name "list" _) [.Call (.Attribute _ "values" _) [] [] _] [] _) _ _ _); refine we_listVals T.b_list (h := ?_))
  | ((with_reducible show DL.WE _ (.Call (.Name _ _) _ [] _) _ _ _); walk_at "call")
  | ((with_reducible show DL.WE _ (.Call (.Attribute _ "get" _) [_, _] [] _) _ _ _); refine we_dget2A (h := ?_))
  | ((with_reducible show DL.WE _ (.Call (.Attribute _ "append" _) _ [] _) _ _ _); refine we_lmA PySem.F.slot_list_append PySem.F.type_list_append (h := ?_))
  | ((with_reducible show DL.WE _ (.Call (.Attribute _ "extend" _) _ [] _) _ _ _); refine we_lmA PySem.F.slot_list_extend PySem.F.type_list_extend (h := ?_))
  | ((with_reducible show DL.WE _ (.Call (.Attribute _ "pop" _) (_ :: _) [] _) _ _ _); refine we_lmA PySem.F.slot_list_pop PySem.F.type_list_pop (h := ?_))
  | ((with_reducible show DL.WE _ (.BinOp _ _ _ _) _ _ _); refine we_bin ?_)
  | ((with_reducible show DL.WE _ (.Compare _ [_] _ _) _ _ _); refine we_cmp (h := ?_))
  | ((with_reducible show DL.WE _ (.Compare _ [_, _] _ _) _ _ _); refine we_chain (h := ?_))
  | ((with_reducible show DL.WE _ (.Subscript _ (.Slice _ _ none _) _) _ _ _); refine we_slice ?_)
  | ((with_reducible show DL.WE _ (.Subscript _ (.Slice none none _ _) _) _ _ _); first | refine we_revL ?_ | refine we_slice ?_)
  | ((with_reducible show DL.WE _ (.Subscript _ _ _) _ _ _); refine we_sub (h := ?_))
  | ((with_reducible show DL.WE _ (.Tuple _ _ _) _ _ _); refine we_tup ?_)
  | ((with_reducible show DL.WE _ (.UnaryOp .Not _ _) _ _ _); refine we_not ?_)
  | ((with_reducible show DL.WE _ (.UnaryOp _ _ _) _ _ _); refine we_un ?_)
  | ((with_reducible show DL.WE _ (.BoolOp _ [_] _) _ _ _); refine we_one ?_)
  | ((with_reducible show DL.WE _ (.BoolOp .And _ _) _ _ _); refine we_and ?_)
  | ((with_reducible show DL.WE _ (.BoolOp .Or _ _) _ _ _); refine we_or ?_)
  | ((with_reducible show DL.WE _ (.IfExp _ _ _ _) _ _ _); refine we_ifExp ?_)
  | ((with_reducible show DL.WE _ (.List [] _) _ _ _); refine we_lstM (wa_nil ⟨szb rfl, fun p hp => ?_⟩))
  | ((with_reducible show DL.WE _ (.List _ _) _ _ _); refine we_lst ?_)
  | ((with_reducible show DL.WE _ (.Dict [] [] _) _ _ _); refine we_dctM (fun p hp => ?_)))
set_option hygiene false in
local macro_rules | `(tactic| walk_at "S") => `(tactic| first
  | ((with_reducible show DL.WS _ (.Assign [.Name _ _] _ _) _ _ _); walk_at "set")
  | ((with_reducible show DL.WS _ (.Return (some _) _) _ _ _); refine ws_ret' ?_)
  | ((with_reducible show DL.WS _ (.Return _ _) _ _ _); refine ws_retN ?_)
  | ((with_reducible show DL.WS _ (.If _ _ _ _) _ _ _); refine ws_if ?_)
  | ((with_reducible show DL.WS _ (.Expr _ _) _ _ _); refine ws_expr (h := ?_))
  | ((with_reducible show DL.WS _ (.Assign [.Tuple _ _ _] _ _) _ _ _); refine ws_asg (h := ?_))
  | ((with_reducible show DL.WS _ (.Assign [.Subscript _ _ _] _ _) _ _ _); refine ws_putA (h := ?_))
  | ((with_reducible show DL.WS _ (.AugAssign (.Name _ _) _ _ _) _ _ _); walk_at "aug")
  | ((with_reducible show DL.WS _ (.AugAssign (.Subscript _ _ _) .Add _ _) _ _ _); refine ws_augLA (fun _ => ip_add) (h := ?_))
  | ((with_reducible show DL.WS _ (.For _ _ _ [] _) _ _ _); refine ws_for (h := ?_))
  | ((with_reducible show DL.WS _ (.Pass _) _ _ _); refine ws_pass ?_)
  | ((with_reducible show DL.WS _ (.Break _) _ _ _); refine ws_break ?_)
  | ((with_reducible show DL.WS _ (.Continue _) _ _ _); refine ws_cont ?_))
set_option hygiene false in
local macro_rules | `(tactic| walk_at "T") => `(tactic| first
  | ((with_reducible show DL.WT _ (.Compare _ [_] _ _) _ _ _); refine wt_cmp (h := ?_))
  | ((with_reducible show DL.WT _ (.Compare _ [_, _] _ _) _ _ _); refine wt_chain (h := ?_))
  | ((with_reducible show DL.WT _ (.UnaryOp .Not _ _) _ _ _); refine wt_not ?_)
  | ((with_reducible show DL.WT _ (.BoolOp _ _ _) _ _ _); refine wt_ww ?_)
  | refine wt_val (h := ?_))
set_option hygiene false in
local macro_rules | `(tactic| walk_at "O") => `(tactic| first
  | ((with_reducible show DL.WO _ (binaryOp .Add) _ _ _ _); first | refine wo_add ?_ | refine wo_cat (.inl rfl) (.inl rfl) (by walk_at "sz") ?_ | refine wo_cat (.inr ⟨_, rfl, by walk_at "mem"⟩) (.inl rfl) (by walk_at "sz") ?_ | refine wo_catT (by walk_at "sz") ?_)
  | ((with_reducible show DL.WO _ (binaryOp .Sub) _ _ _ _); refine wo_sub ?_)
  | ((with_reducible show DL.WO _ (binaryOp .Mult) _ _ _ _); refine wo_mul (by walk_at "side") ?_)
  | ((with_reducible show DL.WO _ (binaryOp .FloorDiv) _ _ _ _); refine wo_fdiv (by walk_at "side") ?_)
  | ((with_reducible show DL.WO _ (binaryOp .Mod) _ _ _ _); refine wo_mod (by walk_at "side") ?_)
  | ((with_reducible show DL.WO _ (compareOp .Lt) _ _ _ _); refine wo_lt ?_)
  | ((with_reducible show DL.WO _ (compareOp .LtE) _ _ _ _); refine wo_le ?_)
  | ((with_reducible show DL.WO _ (compareOp .Gt) _ _ _ _); refine wo_gt ?_)
  | ((with_reducible show DL.WO _ (compareOp .GtE) _ _ _ _); refine wo_ge ?_)
  | ((with_reducible show DL.WO _ (compareOp .Eq) _ _ _ _); first | refine wo_eqI ?_ | refine wo_eqS ?_ | refine wo_eqB ?_ | refine wo_eqIL ?_ | refine wo_eqIT ?_)
  | ((with_reducible show DL.WO _ (compareOp .NotEq) _ _ _ _); first | refine wo_neI ?_ | refine wo_neS ?_ | refine wo_neB ?_ | refine wo_neIL ?_ | refine wo_neIT ?_)
  | ((with_reducible show DL.WO _ (compareOp .Is) _ _ _ _); first | refine wo_isB ?_ | refine wo_isN true (.inl ⟨rfl, rfl⟩) ?_ | refine wo_isN false (.inr ⟨rfl, fun z => by cases z⟩) ?_)
  | ((with_reducible show DL.WO _ (compareOp .IsNot) _ _ _ _); first | refine wo_isnotB ?_ | refine wo_notN false (.inl ⟨rfl, rfl⟩) ?_ | refine wo_notN true (.inr ⟨rfl, fun z => by cases z⟩) ?_)
  | ((with_reducible show DL.WO _ (compareOp .In) _ _ _ _); first | refine wo_inT ?_ | refine wo_inL ?_)
  | ((with_reducible show DL.WO _ (compareOp .NotIn) _ _ _ _); first | refine wo_notinT ?_ | refine wo_notinL ?_)
  | ((with_reducible show DL.WO _ (binaryOp .Pow) _ _ _ _); refine wo_pow (by walk_at "side") ?_)
  | ((with_reducible show DL.WO _ (binaryOp .LShift) _ _ _ _); refine wo_shl (by walk_at "side") ?_))
set_option hygiene false in
local macro_rules | `(tactic| walk_at "C") => `(tactic| first
  | ((with_reducible show DL.WC _ (.builtin "len") [.tup (List.map _ _)] _ _); refine wc_len_tupM ?_)
  | ((with_reducible show DL.WC _ (.builtin "len") [.lst (List.map _ _)] _ _); refine wc_len_lstM ?_)
  | ((with_reducible show DL.WC _ (.builtin "len") [.loc _] _ _); refine wc_len_loc (by walk_at "mem") ?_)
  | ((with_reducible show DL.WC _ (.builtin "len") _ _ _); first | refine wc_len_tup ?_ | refine wc_len_lst ?_)
  | ((with_reducible show DL.WC _ (.builtin "all") _ _ _); first | refine wc_allT ?_ | refine wc_allM ?_)
  | ((with_reducible show DL.WC _ (.builtin "any") _ _ _); refine wc_anyM ?_)
  | ((with_reducible show DL.WC _ (.type "int") _ _ _); first | refine wc_int ?_ | refine wc_intB ?_)
  | ((with_reducible show DL.WC _ (.builtin "abs") _ _ _); refine wc_abs ?_)
  | ((with_reducible show DL.WC _ (.builtin "max") _ _ _); refine wc_max2 ?_)
  | ((with_reducible show DL.WC _ (.builtin "min") _ _ _); refine wc_min2 ?_)
  | ((with_reducible show DL.WC _ (.type "tuple") _ _ _); first | refine wc_tuple (.inl rfl) ?_ | refine wc_tuple (.inr (.inl rfl)) ?_ | refine wc_tuple (.inr (.inr ⟨_, rfl, by walk_at "mem"⟩)) ?_)
  | ((with_reducible show DL.WC _ (.type "list") _ _ _); first | refine wc_list (.inl rfl) ?_ | refine wc_list (.inr (.inl rfl)) ?_ | refine wc_list (.inr (.inr ⟨_, rfl, by walk_at "mem"⟩)) ?_)
  | ((with_reducible show DL.WC _ (.builtin "isinstance") _ _ _); first | refine wc_isi (k := true) rfl (by decide +kernel) ?_ | refine wc_isi (k := false) rfl (by decide +kernel) ?_))
set_option hygiene false in
local macro_rules | `(tactic| walk_at "Ix") => `(tactic| first
  | ((with_reducible show DL.WIx _ (.loc _) _ _ _); refine wix_loc (by walk_at "mem") (by walk_at "at") ?_)
  | ((with_reducible show DL.WIx _ (.lst _) _ _ _); refine wix_lst (by walk_at "at") ?_)
  | ((with_reducible show DL.WIx _ (.tup _) _ _ _); refine wix_tup (by walk_at "at") ?_)
  | refine wix_tup rfl ?_
  | refine wix_lst rfl ?_)
set_option hygiene false in
local macro_rules | `(tactic| walk_at "M") => `(tactic| first
  | ((with_reducible show DL.WM _ "list.append" _ _ _ _); refine wm_append (by walk_at "mem") (by walk_at "sz") ?_))
set_option hygiene false in
local macro_rules | `(tactic| walk_at "sz") => `(tactic| first
  | exact szb rfl
  | exact szl (by first | omega | (simp only [List.length_map, List.length_append, List.length_cons, List.length_nil, rangeD_length] at *; omega))
  | exact szle (by first | omega | (simp only [List.length_map, List.length_append, List.length_cons, List.length_nil, rangeD_length] at *; omega)))
set_option hygiene false in
local macro_rules | `(tactic| walk_at "pre") => `(tactic| first
  | (with_reducible assumption)
  | ((with_reducible show _ = _); first | rfl | walk_at "mem" | (simp; done))
  | ((with_reducible show _ ∧ _); first | exact ⟨rfl, rfl⟩ | exact ⟨by omega, by omega⟩)
  | ((with_reducible show (_ : Nat) ≤ _); first | omega | (simp only [List.length_map, List.length_append, List.length_cons, List.length_nil, rangeD_length]; omega))
  | ((with_reducible show (_ : Nat) < _); first | omega | (simp only [List.length_map, List.length_append, List.length_cons, List.length_nil, rangeD_length]; omega))
  | ((with_reducible show (_ : Int) ≤ _); first | omega | (simp only [List.length_map, List.length_append, List.length_cons, List.length_nil, rangeD_length]; omega))
  | ((with_reducible show (_ : Int) < _); first | omega | (simp only [List.length_map, List.length_append, List.length_cons, List.length_nil, rangeD_length]; omega) | (simp; done))
  | assumption
  | (simp; done))
set_option hygiene false in
local macro_rules | `(tactic| walk_at "I") => `(tactic| first
  | ((with_reducible show DL.WI _ _ (.Call (.Name "range" _) [_] [] _) _ _ _); refine wi_range1 T.b_range (h := ?_))
  | ((with_reducible show DL.WI _ _ (.Call (.Name "range" _) [_, _] [] _) _ _ _); refine wi_range2 T.b_range (h := ?_))
  | ((with_reducible show DL.WI _ _ (.Call (.Name "range" _) [_, _, _] [] _) _ _ _); refine wi_range3n T.b_range (h := ?_))
  | ((with_reducible show DL.WI _ _ (.Call (.Name "enumerate" _) [_] [] _) _ _ _); refine wi_enum T.b_enumerate (h := ?_))
  | ((with_reducible show DL.WI _ _ (.Call (.Name "zip" _) [_, _] [] _) _ _ _); refine wi_zip T.b_zip (h := ?_))
  | ((with_reducible show DL.WI _ _ (.Call _ _ _ _) _ _ _); refine wi_lst ?_))
/- one step -/
set_option hygiene false in
local macro_rules | `(tactic| walk_at "dl") => `(tactic| first
  | ((with_reducible show DL.WE _ _ _ _ _); walk_at "E")
  | ((with_reducible show DL.WSs _ _ _ _ _); first | refine wss_cons ?_ | refine wss_nil ?_)
  | ((with_reducible show DL.WS _ _ _ _ _); walk_at "S")
  | ((with_reducible show DL.WA _ _ _ _ _); first | refine wa_cons (h := ?_) | refine wa_nil ?_)
  | ((with_reducible show DL.WO _ _ _ _ _ _); walk_at "O")
  | ((with_reducible show DL.WT _ _ _ _ _); walk_at "T")
  | ((with_reducible show DL.WW _ _ _ _ _); first | refine ww_and ?_ | refine ww_or ?_ | refine ww_and1 ?_ | refine ww_or1 ?_)
  | ((with_reducible show DL.WC _ _ _ _ _); walk_at "C")
  | ((with_reducible show DL.WIx _ _ _ _ _); walk_at "Ix")
  | ((with_reducible show DL.WM _ _ _ _ _ _); walk_at "M")
  | ((with_reducible show DL.WU _ _ _ _ _); refine wu_neg ?_)
  | ((with_reducible show DL.WGi _ _ (.Name _ _) _ _ _ _); walk_at "gnm")
  | ((with_reducible show DL.WGi _ _ _ _ _ _ _); refine wg_tup _ (h := ?_))
  | ((with_reducible show DL.WGs _ _ _ _ _ _ _); first | refine wgs_cons (h := ?_) | refine wgs_nil ?_)
  | ((with_reducible show DL.WI _ _ _ _ _ _); walk_at "I")
  | ((with_reducible show DL.WTs _ _ _ _ _); first | refine wts_one ?_ | refine wts_nil ?_)
  | ((with_reducible show DL.WP _ _ _ _ _); first | refine wp_none ?_ | refine wp_some ?_)
  | ((with_reducible show DL.WSl _ _ _ _ _ _); first | refine wsl_tup ?_ | refine wsl_lst ?_ | refine wsl_loc (by walk_at "mem") ?_)
  | ((with_reducible show _ = true → DL.WE _ _ _ _ _); intro hk)
  | ((with_reducible show (_ = _ → _) ∧ (_ = _ → _)); walk_at "if")
  | ((with_reducible refine ⟨_, ixN_nat ?_ ?_, ?_⟩); (focus omega); (focus first | omega | (simp only [List.length_map, List.length_set, List.length_append] at *; omega)))
  | refine ⟨_, rfl, ?_⟩
  | refine ⟨szb rfl, ?_⟩
  | refine ⟨.inl _, rfl, ?_⟩
  | refine ⟨.inr _, rfl, ?_⟩
  | refine ⟨_, .inl (by walk_at "mem"), ?_⟩
  | refine ⟨_, .inr ⟨_, _, by walk_at "mem"⟩, ?_⟩
  | refine ⟨_, .inr ⟨_, rfl, by walk_at "mem"⟩, ?_⟩
  | refine ⟨_, .inl rfl, ?_⟩
  | refine ⟨_, .inr (.inl rfl), ?_⟩
  | refine ⟨_, .inr rfl, ?_⟩
  | ((with_reducible show _ ∧ _); refine ⟨by walk_at "pre", ?_⟩)
  | refine ⟨_, by walk_at "mem", ?_⟩
  | refine ⟨_, _, rfl, ?_⟩
  | refine ⟨_, _, _, rfl, ?_⟩
  | refine ⟨_, _, _, _, rfl, ?_⟩
  | refine ⟨_, _, _, _, _, rfl, ?_⟩
  | refine ⟨_, _, _, _, _, _, rfl, ?_⟩
  | refine ⟨_, _, _, _, _, _, _, rfl, ?_⟩
  | ((with_reducible show (_ : Mem) = _); rfl)
  | fail "stuck")
/- one step, within a statement -/
set_option hygiene false in
local macro_rules | `(tactic| walk_at "dlE") => `(tactic| first
  | ((with_reducible show DL.WE _ _ _ _ _); walk_at "E")
  | ((with_reducible show DL.WS _ _ _ _ _); walk_at "S")
  | ((with_reducible show DL.WA _ _ _ _ _); first | refine wa_cons (h := ?_) | refine wa_nil ?_)
  | ((with_reducible show DL.WO _ _ _ _ _ _); walk_at "O")
  | ((with_reducible show DL.WT _ _ _ _ _); walk_at "T")
  | ((with_reducible show DL.WW _ _ _ _ _); first | refine ww_and ?_ | refine ww_or ?_ | refine ww_and1 ?_ | refine ww_or1 ?_)
  | ((with_reducible show DL.WC _ _ _ _ _); walk_at "C")
  | ((with_reducible show DL.WIx _ _ _ _ _); walk_at "Ix")
  | ((with_reducible show DL.WM _ _ _ _ _ _); walk_at "M")
  | ((with_reducible show DL.WU _ _ _ _ _); refine wu_neg ?_)
  | ((with_reducible show DL.WGi _ _ (.Name _ _) _ _ _ _); walk_at "gnm")
  | ((with_reducible show DL.WGi _ _ _ _ _ _ _); refine wg_tup _ (h := ?_))
  | ((with_reducible show DL.WGs _ _ _ _ _ _ _); first | refine wgs_cons (h := ?_) | refine wgs_nil ?_)
  | ((with_reducible show DL.WI _ _ _ _ _ _); walk_at "I")
  | ((with_reducible show DL.WTs _ _ _ _ _); first | refine wts_one ?_ | refine wts_nil ?_)
  | ((with_reducible show DL.WP _ _ _ _ _); first | refine wp_none ?_ | refine wp_some ?_)
  | ((with_reducible show DL.WSl _ _ _ _ _ _); first | refine wsl_tup ?_ | refine wsl_lst ?_ | refine wsl_loc (by walk_at "mem") ?_)
  | ((with_reducible show _ = true → DL.WE _ _ _ _ _); intro hk)
  | ((with_reducible show (_ = _ → _) ∧ (_ = _ → _)); walk_at "if")
  | ((with_reducible refine ⟨_, ixN_nat ?_ ?_, ?_⟩); (focus omega); (focus first | omega | (simp only [List.length_map, List.length_set, List.length_append] at *; omega)))
  | refine ⟨_, rfl, ?_⟩
  | refine ⟨szb rfl, ?_⟩
  | refine ⟨.inl _, rfl, ?_⟩
  | refine ⟨.inr _, rfl, ?_⟩
  | refine ⟨_, .inl (by walk_at "mem"), ?_⟩
  | refine ⟨_, .inr ⟨_, _, by walk_at "mem"⟩, ?_⟩
  | refine ⟨_, .inr ⟨_, rfl, by walk_at "mem"⟩, ?_⟩
  | refine ⟨_, .inl rfl, ?_⟩
  | refine ⟨_, .inr (.inl rfl), ?_⟩
  | refine ⟨_, .inr rfl, ?_⟩
  | ((with_reducible show _ ∧ _); refine ⟨by walk_at "pre", ?_⟩)
  | refine ⟨_, by walk_at "mem", ?_⟩
  | refine ⟨_, _, rfl, ?_⟩
  | refine ⟨_, _, _, rfl, ?_⟩
  | refine ⟨_, _, _, _, rfl, ?_⟩
  | refine ⟨_, _, _, _, _, rfl, ?_⟩
  | refine ⟨_, _, _, _, _, _, rfl, ?_⟩
  | refine ⟨_, _, _, _, _, _, _, rfl, ?_⟩
  | ((with_reducible show (_ : Mem) = _); rfl)
  | fail "stuck")
set_option hygiene false in
local macro_rules | `(tactic| walk_at "goE") => `(tactic| repeat' walk_at "dlE")
set_option hygiene false in
local macro_rules | `(tactic| walk_at "go") => `(tactic| repeat' walk_at "dl")
set_option hygiene false in
local macro_rules | `(tactic| walk_at "nx") => `(tactic| ((try rw [Mem.upd_upd]); walk_at "go"))
set_option hygiene false in
local macro_rules | `(tactic| walk_at "call") => `(tactic| ((with_reducible show DL.WE _ (.Call (.Name "_law_begin" _) _ [] _) _ _ _); refine we_call (ok_begin T) (h := ?_)))
set_option hygiene false in
local macro_rules | `(tactic| walk_at "call") => `(tactic| ((with_reducible show DL.WE _ (.Call (.Name "_law_draw" _) _ [] _) _ _ _); refine we_call (ok_draw T) (h := ?_)))
set_option hygiene false in
local macro_rules | `(tactic| walk_at "call") => `(tactic| ((with_reducible show DL.WE _ (.Call (.Name "_law_pick" _) _ [] _) _ _ _); refine we_call (ok_pick T) (h := ?_)))
set_option hygiene false in
local macro_rules | `(tactic| walk_at "call") => `(tactic| ((with_reducible show DL.WE _ (.Call (.Name "_law_is_int" _) _ [] _) _ _ _); refine we_call (ok_is_int T) (h := ?_)))
set_option hygiene false in
local macro_rules | `(tactic| walk_at "call") => `(tactic| ((with_reducible show DL.WE _ (.Call (.Name "_law_is_ints" _) _ [] _) _ _ _); refine we_call (ok_is_ints T) (h := ?_)))
set_option hygiene false in
local macro_rules | `(tactic| walk_at "call") => `(tactic| ((with_reducible show DL.WE _ (.Call (.Name "is_whole" _) _ [] _) _ _ _); refine we_call (ok_is_whole T) (h := ?_)))
set_option hygiene false in
local macro_rules | `(tactic| walk_at "call") => `(tactic| ((with_reducible show DL.WE _ (.Call (.Name "allowed_at" _) _ [] _) _ _ _); refine we_call (ok_allowed_at T) (h := ?_)))
set_option hygiene false in
local macro_rules | `(tactic| walk_at "call") => `(tactic| ((with_reducible show DL.WE _ (.Call (.Name "reach_of" _) _ [] _) _ _ _); refine we_call (ok_reach_of T) (h := ?_)))
set_option hygiene false in
local macro_rules | `(tactic| walk_at "call") => `(tactic| ((with_reducible show DL.WE _ (.Call (.Name "fewest_tellings" _) _ [] _) _ _ _); refine we_call (ok_fewest_tellings T) (h := ?_)))
set_option hygiene false in
local macro_rules | `(tactic| walk_at "call") => `(tactic| ((with_reducible show DL.WE _ (.Call (.Name "is_right_plan" _) _ [] _) _ _ _); refine we_call (ok_is_right_plan T) (h := ?_)))
set_option hygiene false in
local macro_rules | `(tactic| walk_at "call") => `(tactic| ((with_reducible show DL.WE _ (.Call (.Name "are_right_bars" _) _ [] _) _ _ _); refine we_call (ok_are_right_bars T) (h := ?_)))
set_option hygiene false in
local macro_rules | `(tactic| walk_at "call") => `(tactic| ((with_reducible show DL.WE _ (.Call (.Name "judge_tellings" _) _ [] _) _ _ _); refine we_call (ok_judge_tellings T) (h := ?_)))
set_option hygiene false in
local macro_rules | `(tactic| walk_at "call") => `(tactic| ((with_reducible show DL.WE _ (.Call (.Name "_law_given" _) _ [] _) _ _ _); refine we_call (ok_given T) (h := ?_)))
set_option hygiene false in
local macro_rules | `(tactic| walk_at "call") => `(tactic| ((with_reducible show DL.WE _ (.Call (.Name "_law_plan_is_right" _) _ [] _) _ _ _); refine we_call (ok_plan_is_right T) (h := ?_)))
set_option hygiene false in
local macro_rules | `(tactic| walk_at "call") => `(tactic| ((with_reducible show DL.WE _ (.Call (.Name "_law_end" _) _ [] _) _ _ _); refine we_call (ok_end T) (h := ?_)))
set_option hygiene false in
local macro_rules | `(tactic| walk_at "call") => `(tactic| ((with_reducible show DL.WE _ (.Call (.Name "_law_bars_are_right" _) _ [] _) _ _ _); refine we_call (ok_bars_are_right T) (h := ?_)))
set_option hygiene false in
local macro_rules | `(tactic| walk_at "call") => `(tactic| ((with_reducible show DL.WE _ (.Call (.Name "_law_pair_is_right" _) _ [] _) _ _ _); refine we_call (ok_pair_is_right T) (h := ?_)))
set_option hygiene false in
local macro_rules | `(tactic| walk_at "call") => `(tactic| ((with_reducible show DL.WE _ (.Call (.Name "_law_is_pair" _) _ [] _) _ _ _); refine we_call (ok_is_pair T) (h := ?_)))
set_option hygiene false in
local macro_rules | `(tactic| walk_at "call") => `(tactic| ((with_reducible show DL.WE _ (.Call (.Name "_law_values" _) _ [] _) _ _ _); refine we_call (ok_values T) (h := ?_)))
set_option hygiene false in
local macro_rules | `(tactic| walk_at "call") => `(tactic| ((with_reducible show DL.WE _ (.Call (.Name "_law_slack" _) _ [] _) _ _ _); refine we_call (ok_slack T) (h := ?_)))
set_option hygiene false in
local macro_rules | `(tactic| walk_at "call") => `(tactic| ((with_reducible show DL.WE _ (.Call (.Name "_law_told_at" _) _ [] _) _ _ _); refine we_call (ok_told_at T) (h := ?_)))
set_option hygiene false in
local macro_rules | `(tactic| walk_at "call") => `(tactic| ((with_reducible show DL.WE _ (.Call (.Name "_law_costs" _) _ [] _) _ _ _); refine we_call (ok_costs T) (h := ?_)))
set_option hygiene false in
local macro_rules | `(tactic| walk_at "call") => `(tactic| ((with_reducible show DL.WE _ (.Call (.Name "_law_fewest" _) _ [] _) _ _ _); refine we_call (ok_fewest T) (h := ?_)))
theorem row_keys (vs : List Int) (s m : Nat) (f : Int → Int) : (rowD vs s m f).map (fun kv => keyD kv.1) = iD (sdd (win vs s m)) := by
  unfold rowD; simp [Function.comp_def, keyD]
theorem row_get' {vs : List Int} {s m : Nat} {f : Int → Int} {k : Int} (h : k ∈ win vs s m) : getA (rowD vs s m f) (.inl k) = some (.int (f k)) := by rw [row_get, if_pos h]
def sp_some_plan : DSp := fun ds μ Q => ∃ (a : Addr) (ad : List Addr), ds = [.loc a, .lst (ad.map D.loc)] ∧ ∃ l, μ a = some (.lst l) ∧ IsDr l ∧ ∃ vs s N F, TabM vs s vs.length N F ad μ ∧ 0 < vs.length ∧ vs.length ≤ 300 ∧ ∀ (l' : List D) (ts : Tl), IsDr l' → PlanL vs s ts → ts.length = N (vs.length - 1) → Q (.tup (ts.map pr)) (μ.upd a (.lst l'))
theorem sc_some_plan : FnScope ["d", "costs", "last", "value", "one", "found", "moment", "before", "ends", "stays"] ["d", "costs"] (defScope s_some_plan) := ⟨rfl, rfl, rfl, by decide +kernel, rfl, by decide +kernel, by decide +kernel⟩
section
set_option hygiene false in
local macro_rules | `(tactic| walk_at "nm") => `(tactic| first | ((with_reducible show DL.WE _ (.Name "d" _) _ _ _); refine we_name 0 (q := ?_)) | ((with_reducible show DL.WE _ (.Name "costs" _) _ _ _); refine we_name 1 (q := ?_)) | ((with_reducible show DL.WE _ (.Name "last" _) _ _ _); refine we_name 2 (q := ?_)) | ((with_reducible show DL.WE _ (.Name "value" _) _ _ _); refine we_name 3 (q := ?_)) | ((with_reducible show DL.WE _ (.Name "one" _) _ _ _); refine we_name 4 (q := ?_)) | ((with_reducible show DL.WE _ (.Name "found" _) _ _ _); refine we_name 5 (q := ?_)) | ((with_reducible show DL.WE _ (.Name "moment" _) _ _ _); refine we_name 6 (q := ?_)) | ((with_reducible show DL.WE _ (.Name "before" _) _ _ _); refine we_name 7 (q := ?_)) | ((with_reducible show DL.WE _ (.Name "ends" _) _ _ _); refine we_name 8 (q := ?_)) | ((with_reducible show DL.WE _ (.Name "stays" _) _ _ _); refine we_name 9 (q := ?_)))
set_option hygiene false in
local macro_rules | `(tactic| walk_at "set") => `(tactic| first | ((with_reducible show DL.WS _ (.Assign [.Name "d" _] _ _) _ _ _); refine ws_set 0 (h := ?_)) | ((with_reducible show DL.WS _ (.Assign [.Name "costs" _] _ _) _ _ _); refine ws_set 1 (h := ?_)) | ((with_reducible show DL.WS _ (.Assign [.Name "last" _] _ _) _ _ _); refine ws_set 2 (h := ?_)) | ((with_reducible show DL.WS _ (.Assign [.Name "value" _] _ _) _ _ _); refine ws_set 3 (h := ?_)) | ((with_reducible show DL.WS _ (.Assign [.Name "one" _] _ _) _ _ _); refine ws_set 4 (h := ?_)) | ((with_reducible show DL.WS _ (.Assign [.Name "found" _] _ _) _ _ _); refine ws_set 5 (h := ?_)) | ((with_reducible show DL.WS _ (.Assign [.Name "moment" _] _ _) _ _ _); refine ws_set 6 (h := ?_)) | ((with_reducible show DL.WS _ (.Assign [.Name "before" _] _ _) _ _ _); refine ws_set 7 (h := ?_)) | ((with_reducible show DL.WS _ (.Assign [.Name "ends" _] _ _) _ _ _); refine ws_set 8 (h := ?_)) | ((with_reducible show DL.WS _ (.Assign [.Name "stays" _] _ _) _ _ _); refine ws_set 9 (h := ?_)))
set_option hygiene false in
local macro_rules | `(tactic| walk_at "gnm") => `(tactic| first | ((with_reducible show DL.WGi _ _ (.Name "d" _) _ _ _ _); refine wg_name 0 (q := ?_)) | ((with_reducible show DL.WGi _ _ (.Name "costs" _) _ _ _ _); refine wg_name 1 (q := ?_)) | ((with_reducible show DL.WGi _ _ (.Name "last" _) _ _ _ _); refine wg_name 2 (q := ?_)) | ((with_reducible show DL.WGi _ _ (.Name "value" _) _ _ _ _); refine wg_name 3 (q := ?_)) | ((with_reducible show DL.WGi _ _ (.Name "one" _) _ _ _ _); refine wg_name 4 (q := ?_)) | ((with_reducible show DL.WGi _ _ (.Name "found" _) _ _ _ _); refine wg_name 5 (q := ?_)) | ((with_reducible show DL.WGi _ _ (.Name "moment" _) _ _ _ _); refine wg_name 6 (q := ?_)) | ((with_reducible show DL.WGi _ _ (.Name "before" _) _ _ _ _); refine wg_name 7 (q := ?_)) | ((with_reducible show DL.WGi _ _ (.Name "ends" _) _ _ _ _); refine wg_name 8 (q := ?_)) | ((with_reducible show DL.WGi _ _ (.Name "stays" _) _ _ _ _); refine wg_name 9 (q := ?_)))
set_option hygiene false in
local macro_rules | `(tactic| walk_at "I") => `(tactic| first | ((with_reducible show DL.WI _ _ (.Name "before" _) _ _ _); first | refine wi_name 7 (s := .inl rfl) (h := ?_) | refine wi_name 7 (s := .inr rfl) (h := ?_)) | ((with_reducible show DL.WI _ _ (.Name "last" _) _ _ _); first | refine wi_name 2 (s := .inl rfl) (h := ?_) | refine wi_name 2 (s := .inr rfl) (h := ?_)))
set_option hygiene false in
local macro_rules | `(tactic| walk_at "E") => `(tactic| first  | ((with_reducible show DL.WE _ (.Subscript (.Name "before" _) _ _) _ _ _); refine we_dgetF (h := ?_)) | ((with_reducible show DL.WE _ (.Subscript (.Subscript (.Name "costs" _) _ _) _ _) _ _ _); refine we_dgetF (h := ?_)) | ((with_reducible show DL.WE _ (.Subscript (.Name "last" _) _ _) _ _ _); refine we_dgetF (h := ?_)) )
set_option maxHeartbeats 1000000 in
theorem ok_some_plan (T : Txt K mg) : FnD P w K mg base 3 "_law_some_plan" sp_some_plan := by
  refine TF.ok 2 T.f_some_plan sc_some_plan (fun ds μ Q ⟨_, _, h, _⟩ => by rw [h]; rfl) fun ds μ Q h => ?_
  obtain ⟨a, ad, rfl, l, hm, hl, vs, s, N, F, hT, h0, h1, q⟩ := h
  have hwl : ∀ m, (sdd (win vs s m)).length ≤ 300 := fun m => by
    have h1 := sdd_len (win vs s m)
    have h2 := (win_len (vs := vs) (s := s) (m := m)).2
    omega
  have hTab := hT.tab
  have hrow := hT.row
  have hlen := hT.len
  obtain ⟨n, hn⟩ : ∃ n, vs.length = n + 1 := ⟨vs.length - 1, by omega⟩
  have hC := hTab.row n (by omega)
  obtain ⟨al, hal, hal2, mal⟩ : ∃ al, ad.getLast? = some al ∧ ad[n]? = some al ∧ μ al = some (.dct (rowD vs s n (F n))) := by
    rw [hn] at hT; exact hT.last
  walk_at "go"
  refine we_lcKeys [("one", 4)] al (sdd (win vs s n)) D.int (fun v => decide (F n v = N n)) D.int [4] (hix := fun _ h => h) (hsz := sz1000 (by have := hwl n; omega)) (m := mal) (hk := row_keys _ _ _ _) (hi := fun od vs' => ?_) (step := fun od vs' x i hx => ?_) ?_
  · walk_at "go"
  · have hxw : x ∈ win vs s n := mem_sdd.mp (List.mem_of_getElem? hx)
    have hg := row_get' (f := F n) hxw
    walk_at "go"
    rw [row_vals]
    refine wc_minL rfl (row_pos hC) fun y hy hly => ?_
    obtain rfl := row_least hC hy hly
    walk_at "go"
  walk_at "go"
  refine wc_sortedI (.inl rfl) fun ms hms hsrt => ?_
  have hmm : ∀ v, v ∈ ms ↔ v ∈ win vs s n ∧ F n v = N n := fun v => by
    rw [hms.mem_iff, List.mem_filter, mem_sdd]; simp
  have hms0 : 0 < ms.length := by
    obtain ⟨⟨v, v1, v2⟩, _⟩ := hC.least
    exact List.length_pos_of_mem ((hmm v).mpr ⟨v1, v2⟩)
  have hms1 : ms.length ≤ 300 := by
    have := hms.length_eq
    have h1 := List.length_filter_le (fun v => decide (F n v = N n)) (sdd (win vs s n))
    have := hwl n
    omega
  walk_at "go"
  intro l1 x hl1 hx
  obtain ⟨v0, hv0, rfl⟩ := List.mem_map.mp hx
  obtain ⟨v0w, v0f⟩ := (hmm v0).mp hv0
  walk_at "go"
  have hpa : a ≠ p := ne_fresh Mem.upd_same hp
  have hp0 : μ p = none := by rwa [Mem.upd_ne (Ne.symm hpa)] at hp
  have hrow' : ∀ μ', Kp [a] μ μ' → ∀ (m : Nat) (b : Addr), ad[m]? = some b → μ' b = some (.dct (rowD vs s m (F m))) := fun μ' kp m b hb => by
    refine kp b _ ?_ (hrow m b hb)
    intro z
    obtain rfl := List.mem_singleton.mp z
    have := hrow m _ hb
    rw [hm] at this; cases this
  have rl : (rangeN ((ad.length : Int) - 1) ((ad.length : Int) - 1 - 0).toNat).length = n := by unfold rangeN; simp; omega
  refine ⟨[6], fun i ρ' μ' => ∃ (l' : List D) (U : Tl) (v : Int) (o1 o2 o3 o4 : Option D), μ' a = some (.lst l') ∧ IsDr l' ∧ μ' p = some (.lst (U.reverse.map pr)) ∧ Kp [a] μ μ' ∧ Back vs s (n - i) (n + 1) U v ∧ F (n - i) v + U.length = N n ∧ U.length ≤ i ∧ ρ' = [some (.loc a), some (.lst (ad.map D.loc)), some (.loc al), some (.int v), none, some (.loc p), o1, o2, o3, o4],
    ⟨l1, [], v0, none, none, none, none, (Mem.upd_ne hpa).trans Mem.upd_same, hl1, Mem.upd_same, (Kp.refl.upd (by simp)).fresh hp0, Back.start v0w, by rw [Nat.sub_zero, v0f]; simp, Nat.le_refl _, rfl⟩, ?_, ?_⟩
  · rintro i d ρ' μ' hd ⟨l', U, v, o1, o2, o3, o4, ma, hl', mp, kp, hB, hF, hTl, rfl⟩
    have hi := (List.getElem?_eq_some_iff.mp hd).1
    rw [rl] at hi
    obtain rfl : d = .int ((n : Int) - i) := by
      unfold rangeN at hd
      rw [List.getElem?_map] at hd
      obtain ⟨j, hj, rfl⟩ := Option.map_eq_some_iff.mp hd
      obtain ⟨_, hj⟩ := List.getElem?_eq_some_iff.mp hj
      rw [List.getElem_range] at hj
      subst hj
      congr 1; omega
    obtain ⟨m, hmn⟩ : ∃ m, n - i = m + 1 := ⟨n - i - 1, by omega⟩
    rw [hmn] at hB hF
    obtain ⟨b, hb⟩ : ∃ b, ad[m]? = some b := ⟨_, List.getElem?_eq_getElem (by omega)⟩
    obtain ⟨c, hc⟩ : ∃ c, ad[m + 1]? = some c := ⟨_, List.getElem?_eq_getElem (by omega)⟩
    have mb := hrow' _ kp _ _ hb
    have mc := hrow' _ kp _ _ hc
    have e1 : ((n : Int) - i - 1).toNat = m := by omega
    have e2 : ((n : Int) - i).toNat = m + 1 := by omega
    have hb' : ad[((n : Int) - i - 1).toNat]? = some b := by rw [e1]; exact hb
    have hc' : ad[((n : Int) - i).toNat]? = some c := by rw [e2]; exact hc
    have hgc := row_get' (f := F (m + 1)) hB.mem
    have hdc : ∀ od vs', DctAt (μ'.upd b (.fdct od vs' (rowD vs s m (F m)))) c (rowD vs s (m + 1) (F (m + 1))) := fun od vs' => by
      by_cases e : c = b
      · subst e
        rw [mb] at mc
        have e2 : rowD vs s m (F m) = rowD vs s (m + 1) (F (m + 1)) := by injection mc with mc; injection mc
        exact .inr ⟨od, vs', by rw [Mem.upd_same, e2]⟩
      · exact .inl ((Mem.upd_ne e).trans mc)
    walk_at "go"
    refine we_lcKeys [("one", 4)] b (sdd (win vs s m)) D.int (fun u => decide (F m u + 1 = F (m + 1) v)) D.int [4] (hix := fun _ h => h) (hsz := sz1000 (by have := hwl m; omega)) (m := mb) (hk := row_keys _ _ _ _) (hi := fun od vs' => ?_) (step := fun od vs' x i hx => ?_) ?_
    · walk_at "go"
    · have hxw : x ∈ win vs s m := mem_sdd.mp (List.mem_of_getElem? hx)
      have hg := row_get' (f := F m) hxw
      walk_at "go"
      refine ⟨_, hdc od vs', _, hgc, ?_⟩
      walk_at "go"
    walk_at "go"
    refine wc_sortedI (.inl rfl) fun es hes hsrt2 => ?_
    have hem : ∀ u, u ∈ es ↔ u ∈ win vs s m ∧ F m u + 1 = F (m + 1) v := fun u => by
      rw [hes.mem_iff, List.mem_filter, mem_sdd]; simp
    have hes1 : es.length ≤ 300 := by
      have := hes.length_eq
      have h1 := List.length_filter_le (fun u => decide (F m u + 1 = F (m + 1) v)) (sdd (win vs s m))
      have := hwl m
      omega
    walk_at "go"
    have hf1 : 1 ≤ F (m + 1) v := by
      have h3 := (hTab.row (m + 1) (by omega)).least
      have := (h3.2.1 v hB.mem).1
      omega
    obtain ⟨x, hx, hxs⟩ : ∃ x : Int, (getA (rowD vs s m (F m)) (.inl v)).getD (.int 0) = .int x ∧ (x = F (m + 1) v → v ∈ win vs s m ∧ F m v = F (m + 1) v) ∧ (v ∈ win vs s m → F m v = F (m + 1) v → x = F (m + 1) v) := by
      rw [row_get]
      by_cases z : v ∈ win vs s m
      · rw [if_pos z]; exact ⟨_, rfl, fun e => ⟨z, e⟩, fun _ e => e⟩
      · rw [if_neg z]; exact ⟨0, rfl, fun e => by omega, fun e => absurd e z⟩
    rw [hx]
    have hUl : (U.reverse).length ≤ 300 := by rw [List.length_reverse]; omega
    have emi : n - (i + 1) = m := by omega
    have stay : ∀ (l2 : List D) (μ2 : Mem) (o1 o2 o3 o4 : Option D), x = F (m + 1) v → μ2 a = some (.lst l2) → IsDr l2 → μ2 p = some (.lst (U.reverse.map pr)) → Kp [a] μ μ2 → (fun ρ' μ' => ∃ (l' : List D) (U : Tl) (v : Int) (o1 o2 o3 o4 : Option D), μ' a = some (.lst l') ∧ IsDr l' ∧ μ' p = some (.lst (U.reverse.map pr)) ∧ Kp [a] μ μ' ∧ Back vs s (n - (i + 1)) (n + 1) U v ∧ F (n - (i + 1)) v + U.length = N n ∧ U.length ≤ i + 1 ∧ ρ' = [some (.loc a), some (.lst (ad.map D.loc)), some (.loc al), some (.int v), none, some (.loc p), o1, o2, o3, o4]) [some (.loc a), some (.lst (ad.map D.loc)), some (.loc al), some (.int v), none, some (.loc p), o1, o2, o3, o4] μ2 := fun l2 μ2 o1 o2 o3 o4 e m1 m2 m3 m4 => by
      obtain ⟨y1, y2⟩ := hxs.1 e
      refine ⟨l2, U, v, o1, o2, o3, o4, m1, m2, m3, m4, ?_, ?_, by omega, rfl⟩
      · rw [emi]; exact hB.stay y1
      · rw [emi, y2]; exact hF
    have turn : ∀ (l2 : List D) (μ2 : Mem) (u : Int) (o1 o2 o3 o4 : Option D), u ∈ es → μ2 a = some (.lst l2) → IsDr l2 → μ2 p = some (.lst (U.reverse.map pr ++ [.tup [.int ((n : Int) - i), .int v]])) → Kp [a] μ μ2 → (fun ρ' μ' => ∃ (l' : List D) (U : Tl) (v : Int) (o1 o2 o3 o4 : Option D), μ' a = some (.lst l') ∧ IsDr l' ∧ μ' p = some (.lst (U.reverse.map pr)) ∧ Kp [a] μ μ' ∧ Back vs s (n - (i + 1)) (n + 1) U v ∧ F (n - (i + 1)) v + U.length = N n ∧ U.length ≤ i + 1 ∧ ρ' = [some (.loc a), some (.lst (ad.map D.loc)), some (.loc al), some (.int v), none, some (.loc p), o1, o2, o3, o4]) [some (.loc a), some (.lst (ad.map D.loc)), some (.loc al), some (.int u), none, some (.loc p), o1, o2, o3, o4] μ2 := fun l2 μ2 u o1 o2 o3 o4 hu m1 m2 m3 m4 => by
      obtain ⟨y1, y2⟩ := (hem u).mp hu
      refine ⟨l2, ((m + 1 : Nat), v) :: U, u, o1, o2, o3, o4, m1, m2, ?_, m4, ?_, ?_, ?_, rfl⟩
      · rw [m3]
        have : ((n : Int) - i) = ((m + 1 : Nat) : Int) := by omega
        rw [this]; simp [pr]
      · rw [emi]; exact hB.turn (by omega) y1
      · rw [emi, List.length_cons]; omega
      · rw [List.length_cons]; omega
    walk_at "go"
    · intro l2 r hl2 r0 r1
      walk_at "go"
      · intro l3 d3 hl3 hd3
        obtain ⟨u, hu, rfl⟩ := List.mem_map.mp hd3
        walk_at "nx"
        exact turn l3 _ u _ _ _ _ hu Mem.upd_same hl3 ((Mem.upd_ne hpa.symm).trans Mem.upd_same) (((kp.upd (by simp)).fresh hp0).upd (by simp))
      · exact stay l2 _ _ _ _ _ (by assumption) Mem.upd_same hl2 ((Mem.upd_ne hpa.symm).trans mp) (kp.upd (by simp))
    · intro l3 d3 hl3 hd3
      obtain ⟨u, hu, rfl⟩ := List.mem_map.mp hd3
      walk_at "nx"
      exact turn l3 _ u _ _ _ _ hu Mem.upd_same hl3 ((Mem.upd_ne hpa.symm).trans Mem.upd_same) ((kp.fresh hp0).upd (by simp))
    · refine stay l' _ _ _ _ _ ?_ ma hl' mp kp
      rcases hTab.back (m := m) (v := v) (by omega) with z | ⟨u, z1, z2⟩
      · exact hxs.2 z.1 z.2
      · exfalso
        have := List.length_pos_of_mem ((hem u).mpr ⟨z1, z2⟩)
        omega
  · rintro ρ' μ' ⟨l', U, v, o1, o2, o3, o4, ma, hl', mp, kp, hB, hF, hTl, rfl⟩
    rw [rl] at hB hF hTl
    have hUl : (U.reverse).length ≤ 300 := by rw [List.length_reverse]; omega
    have hfin : (List.map pr U.reverse ++ [D.tup [D.int 0, D.int v]]).reverse = ((0, v) :: U).map pr := by simp [pr]
    refine wss_cons ?_
    walk_at "goE"
    refine wss_cons (ws_ret ?_)
    walk_at "go"
    rw [hfin]
    rw [Nat.sub_self] at hB hF
    refine ⟨_, ?_, q l' ((0, v) :: U) hl' (by rw [← hn] at hB; exact hB.plan h0) ?_⟩
    · exact (kp.fresh hp0).sub ((Mem.upd_ne hpa).trans ma)
    · have := hTab.zero v hB.mem
      rw [hn, Nat.add_sub_cancel, List.length_cons]; omega
end
set_option hygiene false in
local macro_rules | `(tactic| walk_at "call") => `(tactic| ((with_reducible show DL.WE _ (.Call (.Name "_law_some_plan" _) _ [] _) _ _ _); refine we_call (ok_some_plan T) (h := ?_)))
end K80
namespace K80
open PySem L2 DL Tell
variable {P : Program} {w : World} {K : PySem.W.Frag} {mg : Str → Option Value} {base : Heap}
set_option hygiene false in
local macro_rules | `(tactic| walk_at "side") => `(tactic| first
  | (with_reducible assumption)
  | rfl
  | omega
  | decide
  | exact ⟨by omega, by omega⟩
  | exact ⟨by decide, by decide⟩
  | exact .inl ⟨by decide, by decide⟩
  | exact .inr ⟨by decide, by decide⟩
  | exact .inl ⟨by omega, by omega⟩
  | exact .inr ⟨by omega, by omega⟩
  | exact ⟨by decide, by decide, by decide⟩
  | exact szb rfl
  | fail "side")
set_option hygiene false in
local macro_rules | `(tactic| walk_at "ne") => `(tactic| first
  | assumption
  | exact Ne.symm (by assumption)
  | exact ne_fresh (by assumption) (by assumption)
  | exact Ne.symm (ne_fresh (by assumption) (by assumption)))
/- what stands at an address -/
set_option hygiene false in
local macro_rules | `(tactic| walk_at "mem") => `(tactic| first
  | assumption
  | exact Mem.upd_same
  | exact (Mem.upd_ne (by walk_at "ne")).trans (by walk_at "mem"))
/- an item of a list -/
set_option hygiene false in
local macro_rules | `(tactic| walk_at "at") => `(tactic| first
  | rfl
  | exact atI_getI (by omega) (by omega)
  | exact atI_lastI (by first | omega | (simp only [List.length_map] at *; omega))
  | exact atI_lastM _ (by assumption)
  | exact atI_mapI _ (by omega) (by assumption)
  | exact atI_mapN _ (by assumption)
  | exact atI_get _ (by first | omega | (simp only [List.length_map, List.length_set] at *; omega)) (by first | omega | (simp only [List.length_map, List.length_set] at *; omega)))
/- tests that are decided or split -/
set_option hygiene false in
local macro_rules | `(tactic| walk_at "if") => `(tactic| first
  | refine if_tt ?_
  | refine if_ff ?_
  | refine if_f_tt ?_
  | refine if_f_ff ?_
  | (refine if_dec (fun hk => ?_) (fun hk => ?_))
  | (refine if_ndec (fun hk => ?_) (fun hk => ?_))
  | (refine if_f_dec (fun hk => ?_) (fun hk => ?_))
  | (refine if_f_ndec (fun hk => ?_) (fun hk => ?_))
  | (refine if_nb (fun hk => ?_) (fun hk => ?_))
  | (refine if_f_nb (fun hk => ?_) (fun hk => ?_))
  | (refine And.intro (fun hk => ?_) (fun hk => ?_)))
set_option hygiene false in
local macro_rules | `(tactic| walk_at "call") => `(tactic| first
  | ((with_reducible show DL.WE _ (.Call (.Name "len" _) _ [] _) _ _ _); refine we_callB bt_len T.b_len (h := ?_))
  | ((with_reducible show DL.WE _ (.Call (.Name "abs" _) _ [] _) _ _ _); refine we_callB bt_abs T.b_abs (h := ?_))
  | ((with_reducible show DL.WE _ (.Call (.Name "min" _) _ [] _) _ _ _); refine we_callB bt_min T.b_min (h := ?_))
  | ((with_reducible show DL.WE _ (.Call (.Name "max" _) _ [] _) _ _ _); refine we_callB bt_max T.b_max (h := ?_))
  | ((with_reducible show DL.WE _ (.Call (.Name "sum" _) _ [] _) _ _ _); refine we_callB bt_sum T.b_sum (h := ?_))
  | ((with_reducible show DL.WE _ (.Call (.Name "all" _) _ [] _) _ _ _); refine we_callB bt_all T.b_all (h := ?_))
  | ((with_reducible show DL.WE _ (.Call (.Name "any" _) _ [] _) _ _ _); refine we_callB bt_any T.b_any (h := ?_))
  | ((with_reducible show DL.WE _ (.Call (.Name "sorted" _) _ [] _) _ _ _); refine we_callB bt_sorted T.b_sorted (h := ?_))
  | ((with_reducible show DL.WE _ (.Call (.Name "isinstance" _) _ [] _) _ _ _); refine we_callB bt_isinstance T.b_isinstance (h := ?_))
  | ((with_reducible show DL.WE _ (.Call (.Name "int" _) _ [] _) _ _ _); refine we_callT bt_int T.b_int (h := ?_))
  | ((with_reducible show DL.WE _ (.Call (.Name "list" _) _ [] _) _ _ _); refine we_callT bt_list T.b_list (h := ?_))
  | ((with_reducible show DL.WE _ (.Call (.Name "tuple" _) _ [] _) _ _ _); refine we_callT bt_tuple T.b_tuple (h := ?_))
  | ((with_reducible show DL.WE _ (.Call (.Name "bool" _) _ [] _) _ _ _); refine we_callT bt_bool T.b_bool (h := ?_))
  | ((with_reducible show DL.WE _ (.Call (.Name "set" _) _ [] _) _ _ _); refine we_callT bt_set T.b_set (h := ?_)))
set_option hygiene false in
local macro_rules | `(tactic| walk_at "ty") => `(tactic| first
  | ((with_reducible show DL.WE _ (.Name "int" _) _ _ _); refine we_type rfl T.b_int bt_int (by decide) (by decide) ?_)
  | ((with_reducible show DL.WE _ (.Name "bool" _) _ _ _); refine we_type rfl T.b_bool bt_bool (by decide) (by decide) ?_)
  | ((with_reducible show DL.WE _ (.Name "tuple" _) _ _ _); refine we_type rfl T.b_tuple bt_tuple (by decide) (by decide) ?_)
  | ((with_reducible show DL.WE _ (.Name "list" _) _ _ _); refine we_type rfl T.b_list bt_list (by decide) (by decide) ?_))
set_option hygiene false in
local macro_rules | `(tactic| walk_at "E") => `(tactic| first
  | ((with_reducible show DL.WE _ (.Name _ _) _ _ _); first | walk_at "nm" | walk_at "ty")
  | ((with_reducible show DL.WE _ (.Constant _ _ _) _ _ _); first | refine we_int ?_ | refine we_str ?_ | refine we_bl ?_ | refine we_non ?_)
  | ((with_reducible show DL.WE _ (.Call (.Name "sorted" _) [.Call (.Name "set" _) [_] [] _] [] _) _ _ _); refine we_sortedSet T.b_sorted T.b_set (h := ?_))
  | ((with_reducible show DL.WE _ (.Call (.Name "list" _) [.Call (.Attribute _ "values" _) [] [] _] [] _) _ _ _); refine we_listVals T.b_list (h := ?_))
  | ((with_reducible show DL.WE _ (.Call (.Name _ _) _ [] _) _ _ _); walk_at "call")
  | ((with_reducible show DL.WE _ (.Call (.Attribute _ "get" _) [_, _] [] _) _ _ _); refine we_dget2A (h := ?_))
  | ((with_reducible show DL.WE _ (.Call (.Attribute _ "append" _) _ [] _) _ _ _); refine we_lmA PySem.F.slot_list_append PySem.F.type_list_append (h := ?_))
  | ((with_reducible show DL.WE _ (.Call (.Attribute _ "extend" _) _ [] _) _ _ _); refine we_lmA PySem.F.slot_list_extend PySem.F.type_list_extend (h := ?_))
  | ((with_reducible show DL.WE _ (.Call (.Attribute _ "pop" _) (_ :: _) [] _) _ _ _); refine we_lmA PySem.F.slot_list_pop PySem.F.type_list_pop (h := ?_))
  | ((with_reducible show DL.WE _ (.BinOp _ _ _ _) _ _ _); refine we_bin ?_)
  | ((with_reducible show DL.WE _ (.Compare _ [_] _ _) _ _ _); refine we_cmp (h := ?_))
  | ((with_reducible show DL.WE _ (.Compare _ [_, _] _ _) _ _ _); refine we_chain (h := ?_))
  | ((with_reducible show DL.WE _ (.Subscript _ (.Slice _ _ none _) _) _ _ _); refine we_slice ?_)
  | ((with_reducible show DL.WE _ (.Subscript _ (.Slice none none _ _) _) _ _ _); first | refine we_revL ?_ | refine we_slice ?_)
  | ((with_reducible show DL.WE _ (.Subscript _ _ _) _ _ _); refine we_sub (h := ?_))
  | ((with_reducible show DL.WE _ (.Tuple _ _ _) _ _ _); refine we_tup ?_)
  | ((with_reducible show DL.WE _ (.UnaryOp .Not _ _) _ _ _); refine we_not ?_)
  | ((with_reducible show DL.WE _ (.UnaryOp _ _ _) _ _ _); refine we_un ?_)
  | ((with_reducible show DL.WE _ (.BoolOp _ [_] _) _ _ _); refine we_one ?_)
  | ((with_reducible show DL.WE _ (.BoolOp .And _ _) _ _ _); refine we_and ?_)
  | ((with_reducible show DL.WE _ (.BoolOp .Or _ _) _ _ _); refine we_or ?_)
  | ((with_reducible show DL.WE _ (.IfExp _ _ _ _) _ _ _); refine we_ifExp ?_)
  | ((with_reducible show DL.WE _ (.List [] _) _ _ _); refine we_lstM (wa_nil ⟨szb rfl, fun p hp => ?_⟩))
  | ((with_reducible show DL.WE _ (.List _ _) _ _ _); refine we_lst ?_)
  | ((with_reducible show DL.WE _ (.Dict [] [] _) _ _ _); refine we_dctM (fun p hp => ?_)))
set_option hygiene false in
local macro_rules | `(tactic| walk_at "S") => `(tactic| first
  | ((with_reducible show DL.WS _ (.Assign [.Name _ _] _ _) _ _ _); walk_at "set")
  | ((with_reducible show DL.WS _ (.Return (some _) _) _ _ _); refine ws_ret' ?_)
  | ((with_reducible show DL.WS _ (.Return _ _) _ _ _); refine ws_retN ?_)
  | ((with_reducible show DL.WS _ (.If _ _ _ _) _ _ _); refine ws_if ?_)
  | ((with_reducible show DL.WS _ (.Expr _ _) _ _ _); refine ws_expr (h := ?_))
  | ((with_reducible show DL.WS _ (.Assign [.Tuple _ _ _] _ _) _ _ _); refine ws_asg (h := ?_))
  | ((with_reducible show DL.WS _ (.Assign [.Subscript _ _ _] _ _) _ _ _); refine ws_putA (h := ?_))
  | ((with_reducible show DL.WS _ (.AugAssign (.Name _ _) _ _ _) _ _ _); walk_at "aug")
  | ((with_reducible show DL.WS _ (.AugAssign (.Subscript _ _ _) .Add _ _) _ _ _); refine ws_augLA (fun _ => ip_add) (h := ?_))
  | ((with_reducible show DL.WS _ (.For _ _ _ [] _) _ _ _); refine ws_for (h := ?_))
  | ((with_reducible show DL.WS _ (.Pass _) _ _ _); refine ws_pass ?_)
  | ((with_reducible show DL.WS _ (.Break _) _ _ _); refine ws_break ?_)
  | ((with_reducible show DL.WS _ (.Continue _) _ _ _); refine ws_cont ?_))
set_option hygiene false in
local macro_rules | `(tactic| walk_at "T") => `(tactic| first
  | ((with_reducible show DL.WT _ (.Compare _ [_] _ _) _ _ _); refine wt_cmp (h := ?_))
  | ((with_reducible show DL.WT _ (.Compare _ [_, _] _ _) _ _ _); refine wt_chain (h := ?_))
  | ((with_reducible show DL.WT _ (.UnaryOp .Not _ _) _ _ _); refine wt_not ?_)
  | ((with_reducible show DL.WT _ (.BoolOp _ _ _) _ _ _); refine wt_ww ?_)
  | refine wt_val (h := ?_))
set_option hygiene false in
local macro_rules | `(tactic| walk_at "O") => `(tactic| first
  | ((with_reducible show DL.WO _ (binaryOp .Add) _ _ _ _); first | refine wo_add ?_ | refine wo_cat (.inl rfl) (.inl rfl) (by walk_at "sz") ?_ | refine wo_cat (.inr ⟨_, rfl, by walk_at "mem"⟩) (.inl rfl) (by walk_at "sz") ?_ | refine wo_catT (by walk_at "sz") ?_)
  | ((with_reducible show DL.WO _ (binaryOp .Sub) _ _ _ _); refine wo_sub ?_)
  | ((with_reducible show DL.WO _ (binaryOp .Mult) _ _ _ _); refine wo_mul (by walk_at "side") ?_)
  | ((with_reducible show DL.WO _ (binaryOp .FloorDiv) _ _ _ _); refine wo_fdiv (by walk_at "side") ?_)
  | ((with_reducible show DL.WO _ (binaryOp .Mod) _ _ _ _); refine wo_mod (by walk_at "side") ?_)
  | ((with_reducible show DL.WO _ (compareOp .Lt) _ _ _ _); refine wo_lt ?_)
  | ((with_reducible show DL.WO _ (compareOp .LtE) _ _ _ _); refine wo_le ?_)
  | ((with_reducible show DL.WO _ (compareOp .Gt) _ _ _ _); refine wo_gt ?_)
  | ((with_reducible show DL.WO _ (compareOp .GtE) _ _ _ _); refine wo_ge ?_)
  | ((with_reducible show DL.WO _ (compareOp .Eq) _ _ _ _); first | refine wo_eqI ?_ | refine wo_eqS ?_ | refine wo_eqB ?_ | refine wo_eqIL ?_ | refine wo_eqIT ?_)
  | ((with_reducible show DL.WO _ (compareOp .NotEq) _ _ _ _); first | refine wo_neI ?_ | refine wo_neS ?_ | refine wo_neB ?_ | refine wo_neIL ?_ | refine wo_neIT ?_)
  | ((with_reducible show DL.WO _ (compareOp .Is) _ _ _ _); first | refine wo_isB ?_ | refine wo_isN true (.inl ⟨rfl, rfl⟩) ?_ | refine wo_isN false (.inr ⟨rfl, fun z => by cases z⟩) ?_)
  | ((with_reducible show DL.WO _ (compareOp .IsNot) _ _ _ _); first | refine wo_isnotB ?_ | refine wo_notN false (.inl ⟨rfl, rfl⟩) ?_ | refine wo_notN true (.inr ⟨rfl, fun z => by cases z⟩) ?_)
  | ((with_reducible show DL.WO _ (compareOp .In) _ _ _ _); first | refine wo_inT ?_ | refine wo_inL ?_)
  | ((with_reducible show DL.WO _ (compareOp .NotIn) _ _ _ _); first | refine wo_notinT ?_ | refine wo_notinL ?_)
  | ((with_reducible show DL.WO _ (binaryOp .Pow) _ _ _ _); refine wo_pow (by walk_at "side") ?_)
  | ((with_reducible show DL.WO _ (binaryOp .LShift) _ _ _ _); refine wo_shl (by walk_at "side") ?_))
set_option hygiene false in
local macro_rules | `(tactic| walk_at "C") => `(tactic| first
  | ((with_reducible show DL.WC _ (.builtin "len") [.tup (List.map _ _)] _ _); refine wc_len_tupM ?_)
  | ((with_reducible show DL.WC _ (.builtin "len") [.lst (List.map _ _)] _ _); refine wc_len_lstM ?_)
  | ((with_reducible show DL.WC _ (.builtin "len") [.loc _] _ _); refine wc_len_loc (by walk_at "mem") ?_)
  | ((with_reducible show DL.WC _ (.builtin "len") _ _ _); first | refine wc_len_tup ?_ | refine wc_len_lst ?_)
  | ((with_reducible show DL.WC _ (.builtin "all") _ _ _); first | refine wc_allT ?_ | refine wc_allM ?_)
  | ((with_reducible show DL.WC _ (.builtin "any") _ _ _); refine wc_anyM ?_)
  | ((with_reducible show DL.WC _ (.type "int") _ _ _); first | refine wc_int ?_ | refine wc_intB ?_)
  | ((with_reducible show DL.WC _ (.builtin "abs") _ _ _); refine wc_abs ?_)
  | ((with_reducible show DL.WC _ (.builtin "max") _ _ _); refine wc_max2 ?_)
  | ((with_reducible show DL.WC _ (.builtin "min") _ _ _); refine wc_min2 ?_)
  | ((with_reducible show DL.WC _ (.type "tuple") _ _ _); first | refine wc_tuple (.inl rfl) ?_ | refine wc_tuple (.inr (.inl rfl)) ?_ | refine wc_tuple (.inr (.inr ⟨_, rfl, by walk_at "mem"⟩)) ?_)
  | ((with_reducible show DL.WC _ (.type "list") _ _ _); first | refine wc_list (.inl rfl) ?_ | refine wc_list (.inr (.inl rfl)) ?_ | refine wc_list (.inr (.inr ⟨_, rfl, by walk_at "mem"⟩)) ?_)
  | ((with_reducible show DL.WC _ (.builtin "isinstance") _ _ _); first | refine wc_isi (k := true) rfl (by decide +kernel) ?_ | refine wc_isi (k := false) rfl (by decide +kernel) ?_))
set_option hygiene false in
local macro_rules | `(tactic| walk_at "Ix") => `(tactic| first
  | ((with_reducible show DL.WIx _ (.loc _) _ _ _); refine wix_loc (by walk_at "mem") (by walk_at "at") ?_)
  | ((with_reducible show DL.WIx _ (.lst _) _ _ _); refine wix_lst (by walk_at "at") ?_)
  | ((with_reducible show DL.WIx _ (.tup _) _ _ _); refine wix_tup (by walk_at "at") ?_)
  | refine wix_tup rfl ?_
  | refine wix_lst rfl ?_)
set_option hygiene false in
local macro_rules | `(tactic| walk_at "M") => `(tactic| first
  | ((with_reducible show DL.WM _ "list.append" _ _ _ _); refine wm_append (by walk_at "mem") (by walk_at "sz") ?_))
set_option hygiene false in
local macro_rules | `(tactic| walk_at "sz") => `(tactic| first
  | exact szb rfl
  | exact szl (by first | omega | (simp only [List.length_map, List.length_append, List.length_cons, List.length_nil, rangeD_length] at *; omega))
  | exact szle (by first | omega | (simp only [List.length_map, List.length_append, List.length_cons, List.length_nil, rangeD_length] at *; omega)))
set_option hygiene false in
local macro_rules | `(tactic| walk_at "pre") => `(tactic| first
  | (with_reducible assumption)
  | ((with_reducible show _ = _); first | rfl | walk_at "mem" | (simp; done))
  | ((with_reducible show _ ∧ _); first | exact ⟨rfl, rfl⟩ | exact ⟨by omega, by omega⟩)
  | ((with_reducible show (_ : Nat) ≤ _); first | omega | (simp only [List.length_map, List.length_append, List.length_cons, List.length_nil, rangeD_length]; omega))
  | ((with_reducible show (_ : Nat) < _); first | omega | (simp only [List.length_map, List.length_append, List.length_cons, List.length_nil, rangeD_length]; omega))
  | ((with_reducible show (_ : Int) ≤ _); first | omega | (simp only [List.length_map, List.length_append, List.length_cons, List.length_nil, rangeD_length]; omega))
  | ((with_reducible show (_ : Int) < _); first | omega | (simp only [List.length_map, List.length_append, List.length_cons, List.length_nil, rangeD_length]; omega) | (simp; done))
  | assumption
  | (simp; done))
set_option hygiene false in
local macro_rules | `(tactic| walk_at "I") => `(tactic| first
  | ((with_reducible show DL.WI _ _ (.Call (.Name "range" _) [_] [] _) _ _ _); refine wi_range1 T.b_range (h := ?_))
  | ((with_reducible show DL.WI _ _ (.Call (.Name "range" _) [_, _] [] _) _ _ _); refine wi_range2 T.b_range (h := ?_))
  | ((with_reducible show DL.WI _ _ (.Call (.Name "range" _) [_, _, _] [] _) _ _ _); refine wi_range3n T.b_range (h := ?_))
  | ((with_reducible show DL.WI _ _ (.Call (.Name "enumerate" _) [_] [] _) _ _ _); refine wi_enum T.b_enumerate (h := ?_))
  | ((with_reducible show DL.WI _ _ (.Call (.Name "zip" _) [_, _] [] _) _ _ _); refine wi_zip T.b_zip (h := ?_))
  | ((with_reducible show DL.WI _ _ (.Call _ _ _ _) _ _ _); refine wi_lst ?_))
/- one step -/
set_option hygiene false in
local macro_rules | `(tactic| walk_at "dl") => `(tactic| first
  | ((with_reducible show DL.WE _ _ _ _ _); walk_at "E")
  | ((with_reducible show DL.WSs _ _ _ _ _); first | refine wss_cons ?_ | refine wss_nil ?_)
  | ((with_reducible show DL.WS _ _ _ _ _); walk_at "S")
  | ((with_reducible show DL.WA _ _ _ _ _); first | refine wa_cons (h := ?_) | refine wa_nil ?_)
  | ((with_reducible show DL.WO _ _ _ _ _ _); walk_at "O")
  | ((with_reducible show DL.WT _ _ _ _ _); walk_at "T")
  | ((with_reducible show DL.WW _ _ _ _ _); first | refine ww_and ?_ | refine ww_or ?_ | refine ww_and1 ?_ | refine ww_or1 ?_)
  | ((with_reducible show DL.WC _ _ _ _ _); walk_at "C")
  | ((with_reducible show DL.WIx _ _ _ _ _); walk_at "Ix")
  | ((with_reducible show DL.WM _ _ _ _ _ _); walk_at "M")
  | ((with_reducible show DL.WU _ _ _ _ _); refine wu_neg ?_)
  | ((with_reducible show DL.WGi _ _ (.Name _ _) _ _ _ _); walk_at "gnm")
  | ((with_reducible show DL.WGi _ _ _ _ _ _ _); refine wg_tup _ (h := ?_))
  | ((with_reducible show DL.WGs _ _ _ _ _ _ _); first | refine wgs_cons (h := ?_) | refine wgs_nil ?_)
  | ((with_reducible show DL.WI _ _ _ _ _ _); walk_at "I")
  | ((with_reducible show DL.WTs _ _ _ _ _); first | refine wts_one ?_ | refine wts_nil ?_)
  | ((with_reducible show DL.WP _ _ _ _ _); first | refine wp_none ?_ | refine wp_some ?_)
  | ((with_reducible show DL.WSl _ _ _ _ _ _); first | refine wsl_tup ?_ | refine wsl_lst ?_ | refine wsl_loc (by walk_at "mem") ?_)
  | ((with_reducible show _ = true → DL.WE _ _ _ _ _); intro hk)
  | ((with_reducible show (_ = _ → _) ∧ (_ = _ → _)); walk_at "if")
  | ((with_reducible refine ⟨_, ixN_nat ?_ ?_, ?_⟩); (focus omega); (focus first | omega | (simp only [List.length_map, List.length_set, List.length_append] at *; omega)))
  | refine ⟨_, rfl, ?_⟩
  | refine ⟨szb rfl, ?_⟩
  | refine ⟨.inl _, rfl, ?_⟩
  | refine ⟨.inr _, rfl, ?_⟩
  | refine ⟨_, .inl (by walk_at "mem"), ?_⟩
  | refine ⟨_, .inr ⟨_, _, by walk_at "mem"⟩, ?_⟩
  | refine ⟨_, .inr ⟨_, rfl, by walk_at "mem"⟩, ?_⟩
  | refine ⟨_, .inl rfl, ?_⟩
  | refine ⟨_, .inr (.inl rfl), ?_⟩
  | refine ⟨_, .inr rfl, ?_⟩
  | ((with_reducible show _ ∧ _); refine ⟨by walk_at "pre", ?_⟩)
  | refine ⟨_, by walk_at "mem", ?_⟩
  | refine ⟨_, _, rfl, ?_⟩
  | refine ⟨_, _, _, rfl, ?_⟩
  | refine ⟨_, _, _, _, rfl, ?_⟩
  | refine ⟨_, _, _, _, _, rfl, ?_⟩
  | refine ⟨_, _, _, _, _, _, rfl, ?_⟩
  | refine ⟨_, _, _, _, _, _, _, rfl, ?_⟩
  | ((with_reducible show (_ : Mem) = _); rfl)
  | fail "stuck")
/- one step, within a statement -/
set_option hygiene false in
local macro_rules | `(tactic| walk_at "dlE") => `(tactic| first
  | ((with_reducible show DL.WE _ _ _ _ _); walk_at "E")
  | ((with_reducible show DL.WS _ _ _ _ _); walk_at "S")
  | ((with_reducible show DL.WA _ _ _ _ _); first | refine wa_cons (h := ?_) | refine wa_nil ?_)
  | ((with_reducible show DL.WO _ _ _ _ _ _); walk_at "O")
  | ((with_reducible show DL.WT _ _ _ _ _); walk_at "T")
  | ((with_reducible show DL.WW _ _ _ _ _); first | refine ww_and ?_ | refine ww_or ?_ | refine ww_and1 ?_ | refine ww_or1 ?_)
  | ((with_reducible show DL.WC _ _ _ _ _); walk_at "C")
  | ((with_reducible show DL.WIx _ _ _ _ _); walk_at "Ix")
  | ((with_reducible show DL.WM _ _ _ _ _ _); walk_at "M")
  | ((with_reducible show DL.WU _ _ _ _ _); refine wu_neg ?_)
  | ((with_reducible show DL.WGi _ _ (.Name _ _) _ _ _ _); walk_at "gnm")
  | ((with_reducible show DL.WGi _ _ _ _ _ _ _); refine wg_tup _ (h := ?_))
  | ((with_reducible show DL.WGs _ _ _ _ _ _ _); first | refine wgs_cons (h := ?_) | refine wgs_nil ?_)
  | ((with_reducible show DL.WI _ _ _ _ _ _); walk_at "I")
  | ((with_reducible show DL.WTs _ _ _ _ _); first | refine wts_one ?_ | refine wts_nil ?_)
  | ((with_reducible show DL.WP _ _ _ _ _); first | refine wp_none ?_ | refine wp_some ?_)
  | ((with_reducible show DL.WSl _ _ _ _ _ _); first | refine wsl_tup ?_ | refine wsl_lst ?_ | refine wsl_loc (by walk_at "mem") ?_)
  | ((with_reducible show _ = true → DL.WE _ _ _ _ _); intro hk)
  | ((with_reducible show (_ = _ → _) ∧ (_ = _ → _)); walk_at "if")
  | ((with_reducible refine ⟨_, ixN_nat ?_ ?_, ?_⟩); (focus omega); (focus first | omega | (simp only [List.length_map, List.length_set, List.length_append] at *; omega)))
  | refine ⟨_, rfl, ?_⟩
  | refine ⟨szb rfl, ?_⟩
  | refine ⟨.inl _, rfl, ?_⟩
  | refine ⟨.inr _, rfl, ?_⟩
  | refine ⟨_, .inl (by walk_at "mem"), ?_⟩
  | refine ⟨_, .inr ⟨_, _, by walk_at "mem"⟩, ?_⟩
  | refine ⟨_, .inr ⟨_, rfl, by walk_at "mem"⟩, ?_⟩
  | refine ⟨_, .inl rfl, ?_⟩
  | refine ⟨_, .inr (.inl rfl), ?_⟩
  | refine ⟨_, .inr rfl, ?_⟩
  | ((with_reducible show _ ∧ _); refine ⟨by walk_at "pre", ?_⟩)
  | refine ⟨_, by walk_at "mem", ?_⟩
  | refine ⟨_, _, rfl, ?_⟩
  | refine ⟨_, _, _, rfl, ?_⟩
  | refine ⟨_, _, _, _, rfl, ?_⟩
  | refine ⟨_, _, _, _, _, rfl, ?_⟩
  | refine ⟨_, _, _, _, _, _, rfl, ?_⟩
  | refine ⟨_, _, _, _, _, _, _, rfl, ?_⟩
  | ((with_reducible show (_ : Mem) = _); rfl)
  | fail "stuck")
set_option hygiene false in
local macro_rules | `(tactic| walk_at "goE") => `(tactic| repeat' walk_at "dlE")
set_option hygiene false in
local macro_rules | `(tactic| walk_at "go") => `(tactic| repeat' walk_at "dl")
set_option hygiene false in
local macro_rules | `(tactic| walk_at "nx") => `(tactic| ((try rw [Mem.upd_upd]); walk_at "go"))
set_option hygiene false in
local macro_rules | `(tactic| walk_at "call") => `(tactic| ((with_reducible show DL.WE _ (.Call (.Name "_law_begin" _) _ [] _) _ _ _); refine we_call (ok_begin T) (h := ?_)))
set_option hygiene false in
local macro_rules | `(tactic| walk_at "call") => `(tactic| ((with_reducible show DL.WE _ (.Call (.Name "_law_draw" _) _ [] _) _ _ _); refine we_call (ok_draw T) (h := ?_)))
set_option hygiene false in
local macro_rules | `(tactic| walk_at "call") => `(tactic| ((with_reducible show DL.WE _ (.Call (.Name "_law_pick" _) _ [] _) _ _ _); refine we_call (ok_pick T) (h := ?_)))
set_option hygiene false in
local macro_rules | `(tactic| walk_at "call") => `(tactic| ((with_reducible show DL.WE _ (.Call (.Name "_law_is_int" _) _ [] _) _ _ _); refine we_call (ok_is_int T) (h := ?_)))
set_option hygiene false in
local macro_rules | `(tactic| walk_at "call") => `(tactic| ((with_reducible show DL.WE _ (.Call (.Name "_law_is_ints" _) _ [] _) _ _ _); refine we_call (ok_is_ints T) (h := ?_)))
set_option hygiene false in
local macro_rules | `(tactic| walk_at "call") => `(tactic| ((with_reducible show DL.WE _ (.Call (.Name "is_whole" _) _ [] _) _ _ _); refine we_call (ok_is_whole T) (h := ?_)))
set_option hygiene false in
local macro_rules | `(tactic| walk_at "call") => `(tactic| ((with_reducible show DL.WE _ (.Call (.Name "allowed_at" _) _ [] _) _ _ _); refine we_call (ok_allowed_at T) (h := ?_)))
set_option hygiene false in
local macro_rules | `(tactic| walk_at "call") => `(tactic| ((with_reducible show DL.WE _ (.Call (.Name "reach_of" _) _ [] _) _ _ _); refine we_call (ok_reach_of T) (h := ?_)))
set_option hygiene false in
local macro_rules | `(tactic| walk_at "call") => `(tactic| ((with_reducible show DL.WE _ (.Call (.Name "fewest_tellings" _) _ [] _) _ _ _); refine we_call (ok_fewest_tellings T) (h := ?_)))
set_option hygiene false in
local macro_rules | `(tactic| walk_at "call") => `(tactic| ((with_reducible show DL.WE _ (.Call (.Name "is_right_plan" _) _ [] _) _ _ _); refine we_call (ok_is_right_plan T) (h := ?_)))
set_option hygiene false in
local macro_rules | `(tactic| walk_at "call") => `(tactic| ((with_reducible show DL.WE _ (.Call (.Name "are_right_bars" _) _ [] _) _ _ _); refine we_call (ok_are_right_bars T) (h := ?_)))
set_option hygiene false in
local macro_rules | `(tactic| walk_at "call") => `(tactic| ((with_reducible show DL.WE _ (.Call (.Name "judge_tellings" _) _ [] _) _ _ _); refine we_call (ok_judge_tellings T) (h := ?_)))
set_option hygiene false in
local macro_rules | `(tactic| walk_at "call") => `(tactic| ((with_reducible show DL.WE _ (.Call (.Name "_law_given" _) _ [] _) _ _ _); refine we_call (ok_given T) (h := ?_)))
set_option hygiene false in
local macro_rules | `(tactic| walk_at "call") => `(tactic| ((with_reducible show DL.WE _ (.Call (.Name "_law_plan_is_right" _) _ [] _) _ _ _); refine we_call (ok_plan_is_right T) (h := ?_)))
set_option hygiene false in
local macro_rules | `(tactic| walk_at "call") => `(tactic| ((with_reducible show DL.WE _ (.Call (.Name "_law_end" _) _ [] _) _ _ _); refine we_call (ok_end T) (h := ?_)))
set_option hygiene false in
local macro_rules | `(tactic| walk_at "call") => `(tactic| ((with_reducible show DL.WE _ (.Call (.Name "_law_bars_are_right" _) _ [] _) _ _ _); refine we_call (ok_bars_are_right T) (h := ?_)))
set_option hygiene false in
local macro_rules | `(tactic| walk_at "call") => `(tactic| ((with_reducible show DL.WE _ (.Call (.Name "_law_pair_is_right" _) _ [] _) _ _ _); refine we_call (ok_pair_is_right T) (h := ?_)))
set_option hygiene false in
local macro_rules | `(tactic| walk_at "call") => `(tactic| ((with_reducible show DL.WE _ (.Call (.Name "_law_is_pair" _) _ [] _) _ _ _); refine we_call (ok_is_pair T) (h := ?_)))
set_option hygiene false in
local macro_rules | `(tactic| walk_at "call") => `(tactic| ((with_reducible show DL.WE _ (.Call (.Name "_law_values" _) _ [] _) _ _ _); refine we_call (ok_values T) (h := ?_)))
set_option hygiene false in
local macro_rules | `(tactic| walk_at "call") => `(tactic| ((with_reducible show DL.WE _ (.Call (.Name "_law_slack" _) _ [] _) _ _ _); refine we_call (ok_slack T) (h := ?_)))
set_option hygiene false in
local macro_rules | `(tactic| walk_at "call") => `(tactic| ((with_reducible show DL.WE _ (.Call (.Name "_law_told_at" _) _ [] _) _ _ _); refine we_call (ok_told_at T) (h := ?_)))
set_option hygiene false in
local macro_rules | `(tactic| walk_at "call") => `(tactic| ((with_reducible show DL.WE _ (.Call (.Name "_law_costs" _) _ [] _) _ _ _); refine we_call (ok_costs T) (h := ?_)))
set_option hygiene false in
local macro_rules | `(tactic| walk_at "call") => `(tactic| ((with_reducible show DL.WE _ (.Call (.Name "_law_fewest" _) _ [] _) _ _ _); refine we_call (ok_fewest T) (h := ?_)))
set_option hygiene false in
local macro_rules | `(tactic| walk_at "call") => `(tactic| ((with_reducible show DL.WE _ (.Call (.Name "_law_some_plan" _) _ [] _) _ _ _); refine we_call (ok_some_plan T) (h := ?_)))
def endsL (vs : List Int) (s : Nat) : List Int := (List.range vs.length).map fun i : Nat => (best vs s i : Int)
theorem endsL_len {vs : List Int} {s : Nat} : (endsL vs s).length = vs.length := by unfold endsL; simp
theorem endsL_get {vs : List Int} {s i : Nat} (h : i < vs.length) : (endsL vs s).getD i 0 = best vs s i := by
  unfold endsL
  rw [List.getD_eq_getElem?_getD, List.getElem?_map, List.getElem?_range h]; rfl
/-- bars from behind: each reaches at most the next one -/
structure Lat (vs : List Int) (s L i : Nat) (lt : List Int) : Prop where
  len : lt.length = i + 1
  rng : ∀ j, j < lt.length → 0 ≤ lt.getD j 0 ∧ lt.getD j 0 < vs.length
  nx : ∀ j, j + 1 < lt.length → (best vs s (lt.getD j 0).toNat : Int) ≤ lt.getD (j + 1) 0
  ga : ∃ g, GA vs s g (L - i) ∧ (g : Int) ≤ lt.getD 0 0
theorem Lat.start {vs : List Int} {s g L : Nat} (h : Last vs s g L) : Lat vs s L 0 [(vs.length : Int) - 1] := by
  have := h.1.lt
  refine ⟨rfl, fun j hj => ?_, fun j hj => ?_, g, h.1, ?_⟩
  · have : j = 0 := by simpa using hj
    subst this; simp; omega
  · simp at hj
  · simp; omega
theorem Lat.some {vs : List Int} {s L i : Nat} {lt : List Int} (h : Lat vs s L i lt) (hi : i + 1 < L) : ∃ g, GA vs s g (L - (i + 1)) ∧ g < vs.length ∧ (best vs s g : Int) ≤ lt.getD 0 0 := by
  obtain ⟨g, a, hg⟩ := h.ga
  obtain ⟨g', a', _⟩ := a.before (L - (i + 1)) (by omega) (by omega)
  refine ⟨g', a', a'.lt, ?_⟩
  have e : L - i = L - (i + 1) + 1 := by omega
  rw [e] at a
  rw [← a'.next a]; exact hg
theorem Lat.cons {vs : List Int} {s L i : Nat} {lt : List Int} {x : Int} (h : Lat vs s L i lt) (hi : i + 1 < L) (h0 : 0 ≤ x) (h1 : x < vs.length) (h2 : (best vs s x.toNat : Int) ≤ lt.getD 0 0) (h3 : ∀ g : Nat, g < vs.length → (best vs s g : Int) ≤ lt.getD 0 0 → (g : Int) ≤ x) : Lat vs s L (i + 1) (x :: lt) := by
  obtain ⟨g, a, b, c⟩ := h.some hi
  refine ⟨by rw [List.length_cons, h.len], fun j hj => ?_, fun j hj => ?_, g, a, ?_⟩
  · cases j with
    | zero => exact ⟨h0, h1⟩
    | succ j => exact h.rng j (by simpa using hj)
  · cases j with
    | zero => exact h2
    | succ j => exact h.nx j (by simpa using hj)
  · exact h3 g b c
/-- bars from the front, not behind the latest ones -/
structure Fro (vs : List Int) (s i : Nat) (lt fs : List Int) : Prop where
  len : fs.length = i + 1
  zero : fs[0]? = some 0
  le : ∀ j, j < fs.length → 0 ≤ fs.getD j 0 ∧ fs.getD j 0 ≤ lt.getD j 0
  nx : ∀ j, j + 1 < fs.length → (best vs s (fs.getD j 0).toNat : Int) ≤ fs.getD (j + 1) 0
theorem Fro.start {vs : List Int} {s : Nat} {lt : List Int} (h : 0 ≤ lt.getD 0 0) : Fro vs s 0 lt [0] :=
  ⟨rfl, rfl, fun j hj => by
    have : j = 0 := by simpa using hj
    subst this; exact ⟨Int.le_refl _, h⟩, fun j hj => by simp at hj⟩
theorem getD_snoc {fs : List Int} {x : Int} {j : Nat} (h : j < fs.length) : (fs ++ [x]).getD j 0 = fs.getD j 0 := by
  rw [List.getD_eq_getElem?_getD, List.getElem?_append_left h, ← List.getD_eq_getElem?_getD]
theorem getD_snoc' {fs : List Int} {x : Int} {j : Nat} (h : j = fs.length) : (fs ++ [x]).getD j 0 = x := by
  subst h; rw [List.getD_eq_getElem?_getD, List.getElem?_append_right (Nat.le_refl _)]; simp
theorem Fro.snoc {vs : List Int} {s i : Nat} {lt fs : List Int} {x : Int} (h : Fro vs s i lt fs) (h1 : (best vs s (fs.getD i 0).toNat : Int) ≤ x) (h2 : x ≤ lt.getD (i + 1) 0) : Fro vs s (i + 1) lt (fs ++ [x]) := by
  have hl := h.len
  refine ⟨by rw [List.length_append, hl]; rfl, ?_, fun j hj => ?_, fun j hj => ?_⟩
  · rw [List.getElem?_append_left (by omega)]; exact h.zero
  · rw [List.length_append] at hj
    by_cases e : j < fs.length
    · rw [getD_snoc e]; exact h.le j e
    · have e2 : j = fs.length := by simp at hj; omega
      rw [getD_snoc' e2, e2, hl]; exact ⟨by omega, h2⟩
  · rw [List.length_append] at hj
    by_cases e : j + 1 < fs.length
    · rw [getD_snoc e, getD_snoc (by omega)]; exact h.nx j e
    · have e2 : j + 1 = fs.length := by simp at hj; omega
      rw [getD_snoc' e2, getD_snoc (by omega), show j = i by omega]; exact h1
theorem Fro.low {vs : List Int} {s L i n : Nat} {lt fs : List Int} (h : Fro vs s i lt fs) (hl : Lat vs s L n lt) (hi : i < n) : 0 ≤ fs.getD i 0 ∧ fs.getD i 0 < vs.length ∧ (best vs s (fs.getD i 0).toNat : Int) ≤ lt.getD (i + 1) 0 ∧ lt.getD (i + 1) 0 < vs.length := by
  have a := h.le i (by rw [h.len]; omega)
  have b := hl.rng i (by rw [hl.len]; omega)
  have c := hl.nx i (by rw [hl.len]; omega)
  have d := hl.rng (i + 1) (by rw [hl.len]; omega)
  refine ⟨a.1, by omega, ?_, d.2⟩
  have := best_mono (vs := vs) (s := s) (show (fs.getD i 0).toNat ≤ (lt.getD i 0).toNat by omega) (by omega)
  omega
theorem Fro.bars {vs : List Int} {s L n : Nat} {lt fs : List Int} (h : Fro vs s n lt fs) (hl : Lat vs s L n lt) : BarsL vs s fs := by
  have len := h.len
  have hin : ∀ j, j < fs.length → 0 ≤ fs.getD j 0 ∧ fs.getD j 0 < vs.length := fun j hj => by
    have := h.le j hj
    have := hl.rng j (by rw [hl.len]; omega)
    omega
  refine ⟨h.zero, asc_ints fun i hi => ?_, fun b hb => ?_, fun i b b' h1 h2 => ?_⟩
  · have := h.nx i hi
    have a := hin i (by omega)
    have := (best_lt (vs := vs) (s := s) (m := (fs.getD i 0).toNat) (by omega)).1
    omega
  · rw [List.getLast?_eq_getElem?, getI' (by omega)] at hb
    cases hb
    exact (hin _ (by omega)).2
  · rw [← getI h1, ← getI h2]
    exact h.nx i (List.getElem?_eq_some_iff.mp h2).1
def sp_some_bars : DSp := fun ds μ Q => ∃ (a : Addr) (vs : List Int) (s : Nat) (m : Int), ds = [.loc a, .tup (iD vs), .int s, .int m] ∧ ∃ l, μ a = some (.lst l) ∧ IsDr l ∧ 0 < vs.length ∧ vs.length ≤ 300 ∧ ∃ g L, m = (L : Nat) ∧ Last vs s g L ∧ ∀ (l' : List D) (bs : List Int), IsDr l' → BarsL vs s bs → bs.length = L → Q (.tup (iD bs)) (μ.upd a (.lst l'))
theorem sc_some_bars : FnScope ["d", "values", "slack", "many", "ends", "bar", "latest", "k", "found", "low"] ["d", "values", "slack", "many"] (defScope s_some_bars) := ⟨rfl, rfl, rfl, by decide +kernel, rfl, by decide +kernel, by decide +kernel⟩
section
set_option hygiene false in
local macro_rules | `(tactic| walk_at "nm") => `(tactic| first | ((with_reducible show DL.WE _ (.Name "d" _) _ _ _); refine we_name 0 (q := ?_)) | ((with_reducible show DL.WE _ (.Name "values" _) _ _ _); refine we_name 1 (q := ?_)) | ((with_reducible show DL.WE _ (.Name "slack" _) _ _ _); refine we_name 2 (q := ?_)) | ((with_reducible show DL.WE _ (.Name "many" _) _ _ _); refine we_name 3 (q := ?_)) | ((with_reducible show DL.WE _ (.Name "ends" _) _ _ _); refine we_name 4 (q := ?_)) | ((with_reducible show DL.WE _ (.Name "bar" _) _ _ _); refine we_name 5 (q := ?_)) | ((with_reducible show DL.WE _ (.Name "latest" _) _ _ _); refine we_name 6 (q := ?_)) | ((with_reducible show DL.WE _ (.Name "k" _) _ _ _); refine we_name 7 (q := ?_)) | ((with_reducible show DL.WE _ (.Name "found" _) _ _ _); refine we_name 8 (q := ?_)) | ((with_reducible show DL.WE _ (.Name "low" _) _ _ _); refine we_name 9 (q := ?_)))
set_option hygiene false in
local macro_rules | `(tactic| walk_at "set") => `(tactic| first | ((with_reducible show DL.WS _ (.Assign [.Name "d" _] _ _) _ _ _); refine ws_set 0 (h := ?_)) | ((with_reducible show DL.WS _ (.Assign [.Name "values" _] _ _) _ _ _); refine ws_set 1 (h := ?_)) | ((with_reducible show DL.WS _ (.Assign [.Name "slack" _] _ _) _ _ _); refine ws_set 2 (h := ?_)) | ((with_reducible show DL.WS _ (.Assign [.Name "many" _] _ _) _ _ _); refine ws_set 3 (h := ?_)) | ((with_reducible show DL.WS _ (.Assign [.Name "ends" _] _ _) _ _ _); refine ws_set 4 (h := ?_)) | ((with_reducible show DL.WS _ (.Assign [.Name "bar" _] _ _) _ _ _); refine ws_set 5 (h := ?_)) | ((with_reducible show DL.WS _ (.Assign [.Name "latest" _] _ _) _ _ _); refine ws_set 6 (h := ?_)) | ((with_reducible show DL.WS _ (.Assign [.Name "k" _] _ _) _ _ _); refine ws_set 7 (h := ?_)) | ((with_reducible show DL.WS _ (.Assign [.Name "found" _] _ _) _ _ _); refine ws_set 8 (h := ?_)) | ((with_reducible show DL.WS _ (.Assign [.Name "low" _] _ _) _ _ _); refine ws_set 9 (h := ?_)))
set_option hygiene false in
local macro_rules | `(tactic| walk_at "gnm") => `(tactic| first | ((with_reducible show DL.WGi _ _ (.Name "d" _) _ _ _ _); refine wg_name 0 (q := ?_)) | ((with_reducible show DL.WGi _ _ (.Name "values" _) _ _ _ _); refine wg_name 1 (q := ?_)) | ((with_reducible show DL.WGi _ _ (.Name "slack" _) _ _ _ _); refine wg_name 2 (q := ?_)) | ((with_reducible show DL.WGi _ _ (.Name "many" _) _ _ _ _); refine wg_name 3 (q := ?_)) | ((with_reducible show DL.WGi _ _ (.Name "ends" _) _ _ _ _); refine wg_name 4 (q := ?_)) | ((with_reducible show DL.WGi _ _ (.Name "bar" _) _ _ _ _); refine wg_name 5 (q := ?_)) | ((with_reducible show DL.WGi _ _ (.Name "latest" _) _ _ _ _); refine wg_name 6 (q := ?_)) | ((with_reducible show DL.WGi _ _ (.Name "k" _) _ _ _ _); refine wg_name 7 (q := ?_)) | ((with_reducible show DL.WGi _ _ (.Name "found" _) _ _ _ _); refine wg_name 8 (q := ?_)) | ((with_reducible show DL.WGi _ _ (.Name "low" _) _ _ _ _); refine wg_name 9 (q := ?_)))
set_option hygiene false in
local macro_rules | `(tactic| walk_at "E") => `(tactic| first | ((with_reducible show DL.WE _ (.ListComp _ _ _ ⟨156, 11, 156, 71⟩) _ _ _); refine we_lc [("bar", 5)] (h := ?_)) | ((with_reducible show DL.WE _ (.ListComp _ _ _ ⟨159, 22, 159, 83⟩) _ _ _); refine we_lc [("bar", 5)] (h := ?_)))
set_option hygiene false in
local macro_rules | `(tactic| walk_at "S") => `(tactic| first | ((with_reducible show DL.WS _ (.Assign [.Name "ends" _] (.ListComp _ _ _ ⟨156, 11, 156, 71⟩) _) _ _ _); refine ws_setC 4 (h := ?_)))
set_option maxHeartbeats 1000000 in
theorem ok_some_bars (T : Txt K mg) : FnD P w K mg base 3 "_law_some_bars" sp_some_bars := by
  refine TF.ok 2 T.f_some_bars sc_some_bars (fun ds μ Q ⟨_, _, _, _, h, _⟩ => by rw [h]; rfl) fun ds μ Q h => ?_
  obtain ⟨a, vs, s, m, rfl, l, hm, hl, h0, h1, g, L, hL, hg, q⟩ := h
  subst hL
  have Lp := hg.1.pos
  have Ll := hg.1.lt
  refine wss_cons ?_
  walk_at "goE"
  rw [Int.toNat_natCast]
  refine LcHyp.mp (List.range vs.length) (fun i : Nat => .int (0 + (i : Int))) (fun i => .int (best vs s i)) [5] (fun _ h => h) (sz1000 (by simp; omega)) (fun i j hi => ?_) ?_
  · have hl : i < vs.length := List.mem_range.mp (List.mem_of_getElem? hi)
    walk_at "go"
  rw [show ((List.range vs.length).map fun i : Nat => D.int (best vs s i)) = iD (endsL vs s) by simp [endsL, Function.comp_def]]
  have el := endsL_len (vs := vs) (s := s)
  walk_at "go"
  have rl : (rangeD 0 ((L : Int) - 1).toNat).length = L - 1 := by rw [rangeD_length]; omega
  refine ⟨[7], fun i ρ' μ' => ∃ (lt : List Int) (o1 : Option D), μ = μ' ∧ Lat vs s L i lt ∧ ρ' = [some (.loc a), some (.tup (iD vs)), some (.int s), some (.int L), some (.lst (iD (endsL vs s))), none, some (.lst (iD lt)), o1, none, none], ⟨_, _, rfl, Lat.start hg, rfl⟩, ?_, ?_⟩
  · rintro i d ρ' μ' hd ⟨lt, o1, rfl, hI, rfl⟩
    obtain ⟨hi, rfl⟩ := rangeD_get hd
    have ltl := hI.len
    walk_at "go"
    rw [Int.toNat_natCast]
    refine LcHyp.fm (List.range vs.length) (fun i : Nat => .int (0 + (i : Int))) (fun i => decide ((best vs s i : Int) ≤ lt.getD 0 0)) (fun i : Nat => .int (0 + (i : Int))) [5] (fun _ h => h) (sz1000 (by simp; omega)) (fun i j hi => ?_) ?_
    · have hl : i < vs.length := List.mem_range.mp (List.mem_of_getElem? hi)
      have e1 : (endsL vs s).getD (0 + (i : Int)).toNat 0 = best vs s i := by rw [show (0 + (i : Int)).toNat = i by omega]; exact endsL_get hl
      walk_at "go"
      rw [e1]
      walk_at "go"
    walk_at "go"
    have hmm : ∀ y, y ∈ ((List.range vs.length).filter fun i => decide ((best vs s i : Int) ≤ lt.getD 0 0)).map (fun i : Nat => 0 + (i : Int)) ↔ ∃ g : Nat, g < vs.length ∧ (best vs s g : Int) ≤ lt.getD 0 0 ∧ y = g := fun y => by
      simp only [List.mem_map, List.mem_filter, List.mem_range, decide_eq_true_eq]
      constructor
      · rintro ⟨g, ⟨h1, h2⟩, rfl⟩; exact ⟨g, h1, h2, by omega⟩
      · rintro ⟨g, h1, h2, rfl⟩; exact ⟨g, ⟨h1, h2⟩, by omega⟩
    obtain ⟨g', ga', gl', gb'⟩ := hI.some (by omega)
    refine wc_maxL (ns := ((List.range vs.length).filter fun i => decide ((best vs s i : Int) ≤ lt.getD 0 0)).map (fun i : Nat => 0 + (i : Int))) (by rw [List.map_map]; rfl) (List.length_pos_of_mem ((hmm g').mpr ⟨g', gl', gb', rfl⟩)) fun x hx hxl => ?_
    obtain ⟨x', x1, x2, rfl⟩ := (hmm x).mp hx
    walk_at "go"
    exact ⟨x' :: lt, _, rfl, hI.cons (by omega) (by omega) (by omega) (by rw [Int.toNat_natCast]; exact x2) (fun g h1 h2 => hxl _ ((hmm _).mpr ⟨g, h1, h2, rfl⟩)), rfl⟩
  · rintro ρ' μ' ⟨lt, o1, rfl, hI, rfl⟩
    rw [rl] at hI
    have ltl := hI.len
    refine wss_cons (ws_set 8 (h := we_lstM ?_))
    walk_at "go"
    intro p hp
    have hpa : a ≠ p := ne_fresh hm hp
    walk_at "go"
    have rl2 : (rangeD 1 ((L : Int) - 1).toNat).length = L - 1 := by rw [rangeD_length]; omega
    refine ⟨[7], fun i ρ' μ' => ∃ (l' : List D) (fs : List Int) (o1 o2 o3 : Option D), μ' a = some (.lst l') ∧ IsDr l' ∧ μ' p = some (.lst (iD fs)) ∧ Kp [a] μ μ' ∧ Fro vs s i lt fs ∧ ρ' = [some (.loc a), some (.tup (iD vs)), some (.int s), some (.int L), some (.lst (iD (endsL vs s))), o3, some (.lst (iD lt)), o1, some (.loc p), o2], ⟨l, [0], _, _, _, (Mem.upd_ne hpa).trans hm, hl, Mem.upd_same, Kp.refl.fresh hp, Fro.start (hI.rng 0 (by omega)).1, rfl⟩, ?_, ?_⟩
    · rintro i d ρ' μ' hd ⟨l', fs, o1, o2, o3, ma, hl', mp, kp, hF, rfl⟩
      obtain ⟨hi, rfl⟩ := rangeD_get hd
      have fsl := hF.len
      obtain ⟨f1, f2, f3, f4⟩ := hF.low hI (by omega)
      have e1 : fs.getD (fs.length - 1) 0 = fs.getD i 0 := by rw [show fs.length - 1 = i by omega]
      have e2 : (endsL vs s).getD (fs.getD i 0).toNat 0 = best vs s (fs.getD i 0).toNat := endsL_get (by omega)
      have e3 : (1 + (i : Int)).toNat = i + 1 := by omega
      walk_at "go"
      rw [e3, e1, e2]
      refine ⟨by omega, by omega, ?_⟩
      intro l2 r hl2 r0 r1
      have f5 : (iD fs).length < sizeLine := szl (by rw [List.length_map]; omega)
      walk_at "nx"
      refine ⟨l2, fs ++ [(best vs s (fs.getD i 0).toNat : Int) + r], _, _, _, (Mem.upd_ne hpa).trans Mem.upd_same, hl2, ?_, (kp.upd (by simp)).fresh hp, hF.snoc (by omega) (by omega), rfl⟩
      rw [Mem.upd_same]; simp
    · rintro ρ' μ' ⟨l', fs, o1, o2, o3, ma, hl', mp, kp, hF, rfl⟩
      rw [rl2] at hF
      have fsl := hF.len
      refine wss_cons (ws_ret ?_)
      walk_at "go"
      exact ⟨_, kp.sub ma, q l' fs hl' (hF.bars hI) (by omega)⟩
end
set_option hygiene false in
local macro_rules | `(tactic| walk_at "call") => `(tactic| ((with_reducible show DL.WE _ (.Call (.Name "_law_some_bars" _) _ [] _) _ _ _); refine we_call (ok_some_bars T) (h := ?_)))
end K80
namespace K80
open PySem L2 DL Tell
variable {P : Program} {w : World} {K : PySem.W.Frag} {mg : Str → Option Value} {base : Heap}
set_option hygiene false in
local macro_rules | `(tactic| walk_at "side") => `(tactic| first
  | (with_reducible assumption)
  | rfl
  | omega
  | decide
  | exact ⟨by omega, by omega⟩
  | exact ⟨by decide, by decide⟩
  | exact .inl ⟨by decide, by decide⟩
  | exact .inr ⟨by decide, by decide⟩
  | exact .inl ⟨by omega, by omega⟩
  | exact .inr ⟨by omega, by omega⟩
  | exact ⟨by decide, by decide, by decide⟩
  | exact szb rfl
  | fail "side")
set_option hygiene false in
local macro_rules | `(tactic| walk_at "ne") => `(tactic| first
  | assumption
  | exact Ne.symm (by assumption)
  | exact ne_fresh (by assumption) (by assumption)
  | exact Ne.symm (ne_fresh (by assumption) (by assumption)))
/- what stands at an address -/
set_option hygiene false in
local macro_rules | `(tactic| walk_at "mem") => `(tactic| first
  | assumption
  | exact Mem.upd_same
  | exact (Mem.upd_ne (by walk_at "ne")).trans (by walk_at "mem"))
/- an item of a list -/
set_option hygiene false in
local macro_rules | `(tactic| walk_at "at") => `(tactic| first
  | rfl
  | exact atI_getI (by omega) (by omega)
  | exact atI_lastI (by first | omega | (simp only [List.length_map] at *; omega))
  | exact atI_lastM _ (by assumption)
  | exact atI_mapI _ (by omega) (by assumption)
  | exact atI_mapN _ (by assumption)
  | exact atI_get _ (by first | omega | (simp only [List.length_map, List.length_set] at *; omega)) (by first | omega | (simp only [List.length_map, List.length_set] at *; omega)))
/- tests that are decided or split -/
set_option hygiene false in
local macro_rules | `(tactic| walk_at "if") => `(tactic| first
  | refine if_tt ?_
  | refine if_ff ?_
  | refine if_f_tt ?_
  | refine if_f_ff ?_
  | (refine if_dec (fun hk => ?_) (fun hk => ?_))
  | (refine if_ndec (fun hk => ?_) (fun hk => ?_))
  | (refine if_f_dec (fun hk => ?_) (fun hk => ?_))
  | (refine if_f_ndec (fun hk => ?_) (fun hk => ?_))
  | (refine if_nb (fun hk => ?_) (fun hk => ?_))
  | (refine if_f_nb (fun hk => ?_) (fun hk => ?_))
  | (refine And.intro (fun hk => ?_) (fun hk => ?_)))
set_option hygiene false in
local macro_rules | `(tactic| walk_at "call") => `(tactic| first
  | ((with_reducible show DL.WE _ (.Call (.Name "len" _) _ [] _) _ _ _); refine we_callB bt_len T.b_len (h := ?_))
  | ((with_reducible show DL.WE _ (.Call (.Name "abs" _) _ [] _) _ _ _); refine we_callB bt_abs T.b_abs (h := ?_))
  | ((with_reducible show DL.WE _ (.Call (.Name "min" _) _ [] _) _ _ _); refine we_callB bt_min T.b_min (h := ?_))
  | ((with_reducible show DL.WE _ (.Call (.Name "max" _) _ [] _) _ _ _); refine we_callB bt_max T.b_max (h := ?_))
  | ((with_reducible show DL.WE _ (.Call (.Name "sum" _) _ [] _) _ _ _); refine we_callB bt_sum T.b_sum (h := ?_))
  | ((with_reducible show DL.WE _ (.Call (.Name "all" _) _ [] _) _ _ _); refine we_callB bt_all T.b_all (h := ?_))
  | ((with_reducible show DL.WE _ (.Call (.Name "any" _) _ [] _) _ _ _); refine we_callB bt_any T.b_any (h := ?_))
  | ((with_reducible show DL.WE _ (.Call (.Name "sorted" _) _ [] _) _ _ _); refine we_callB bt_sorted T.b_sorted (h := ?_))
  | ((with_reducible show DL.WE _ (.Call (.Name "isinstance" _) _ [] _) _ _ _); refine we_callB bt_isinstance T.b_isinstance (h := ?_))
  | ((with_reducible show DL.WE _ (.Call (.Name "int" _) _ [] _) _ _ _); refine we_callT bt_int T.b_int (h := ?_))
  | ((with_reducible show DL.WE _ (.Call (.Name "list" _) _ [] _) _ _ _); refine we_callT bt_list T.b_list (h := ?_))
  | ((with_reducible show DL.WE _ (.Call (.Name "tuple" _) _ [] _) _ _ _); refine we_callT bt_tuple T.b_tuple (h := ?_))
  | ((with_reducible show DL.WE _ (.Call (.Name "bool" _) _ [] _) _ _ _); refine we_callT bt_bool T.b_bool (h := ?_))
  | ((with_reducible show DL.WE _ (.Call (.Name "set" _) _ [] _) _ _ _); refine we_callT bt_set T.b_set (h := ?_)))
set_option hygiene false in
local macro_rules | `(tactic| walk_at "ty") => `(tactic| first
  | ((with_reducible show DL.WE _ (.Name "int" _) _ _ _); refine we_type rfl T.b_int bt_int (by decide) (by decide) ?_)
  | ((with_reducible show DL.WE _ (.Name "bool" _) _ _ _); refine we_type rfl T.b_bool bt_bool (by decide) (by decide) ?_)
  | ((with_reducible show DL.WE _ (.Name "tuple" _) _ _ _); refine we_type rfl T.b_tuple bt_tuple (by decide) (by decide) ?_)
  | ((with_reducible show DL.WE _ (.Name "list" _) _ _ _); refine we_type rfl T.b_list bt_list (by decide) (by decide) ?_))
set_option hygiene false in
local macro_rules | `(tactic| walk_at "E") => `(tactic| first
  | ((with_reducible show DL.WE _ (.Name _ _) _ _ _); first | walk_at "nm" | walk_at "ty")
  | ((with_reducible show DL.WE _ (.Constant _ _ _) _ _ _); first | refine we_int ?_ | refine we_str ?_ | refine we_bl ?_ | refine we_non ?_)
  | ((with_reducible show DL.WE _ (.Call (.Name "sorted" _) [.Call (.Name "set" _) [_] [] _] [] _) _ _ _); refine we_sortedSet T.b_sorted T.b_set (h := ?_))
  | ((with_reducible show DL.WE _ (.Call (.Name "list" _) [.Call (.Attribute _ "values" _) [] [] _] [] _) _ _ _); refine we_listVals T.b_list (h := ?_))
  | ((with_reducible show DL.WE _ (.Call (.Name _ _) _ [] _) _ _ _); walk_at "call")
  | ((with_reducible show DL.WE _ (.Call (.Attribute _ "get" _) [_, _] [] _) _ _ _); refine we_dget2A (h := ?_))
  | ((with_reducible show DL.WE _ (.Call (.Attribute _ "append" _) _ [] _) _ _ _); refine we_lmA PySem.F.slot_list_append PySem.F.type_list_append (h := ?_))
  | ((with_reducible show DL.WE _ (.Call (.Attribute _ "extend" _) _ [] _) _ _ _); refine we_lmA PySem.F.slot_list_extend PySem.F.type_list_extend (h := ?_))
  | ((with_reducible show DL.WE _ (.Call (.Attribute _ "pop" _) (_ :: _) [] _) _ _ _); refine we_lmA PySem.F.slot_list_pop PySem.F.type_list_pop (h := ?_))
  | ((with_reducible show DL.WE _ (.BinOp _ _ _ _) _ _ _); refine we_bin ?_)
  | ((with_reducible show DL.WE _ (.Compare _ [_] _ _) _ _ _); refine we_cmp (h := ?_))
  | ((with_reducible show DL.WE _ (.Compare _ [_, _] _ _) _ _ _); refine we_chain (h := ?_))
  | ((with_reducible show DL.WE _ (.Subscript _ (.Slice _ _ none _) _) _ _ _); refine we_slice ?_)
  | ((with_reducible show DL.WE _ (.Subscript _ (.Slice none none _ _) _) _ _ _); first | refine we_revL ?_ | refine we_slice ?_)
  | ((with_reducible show DL.WE _ (.Subscript _ _ _) _ _ _); refine we_sub (h := ?_))
  | ((with_reducible show DL.WE _ (.Tuple _ _ _) _ _ _); refine we_tup ?_)
  | ((with_reducible show DL.WE _ (.UnaryOp .Not _ _) _ _ _); refine we_not ?_)
  | ((with_reducible show DL.WE _ (.UnaryOp _ _ _) _ _ _); refine we_un ?_)
  | ((with_reducible show DL.WE _ (.BoolOp _ [_] _) _ _ _); refine we_one ?_)
  | ((with_reducible show DL.WE _ (.BoolOp .And _ _) _ _ _); refine we_and ?_)
  | ((with_reducible show DL.WE _ (.BoolOp .Or _ _) _ _ _); refine we_or ?_)
  | ((with_reducible show DL.WE _ (.IfExp _ _ _ _) _ _ _); refine we_ifExp ?_)
  | ((with_reducible show DL.WE _ (.List [] _) _ _ _); refine we_lstM (wa_nil ⟨szb rfl, fun p hp => ?_⟩))
  | ((with_reducible show DL.WE _ (.List _ _) _ _ _); refine we_lst ?_)
  | ((with_reducible show DL.WE _ (.Dict [] [] _) _ _ _); refine we_dctM (fun p hp => ?_)))
set_option hygiene false in
local macro_rules | `(tactic| walk_at "S") => `(tactic| first
  | ((with_reducible show DL.WS _ (.Assign [.Name _ _] _ _) _ _ _); walk_at "set")
  | ((with_reducible show DL.WS _ (.Return (some _) _) _ _ _); refine ws_ret' ?_)
  | ((with_reducible show DL.WS _ (.Return _ _) _ _ _); refine ws_retN ?_)
  | ((with_reducible show DL.WS _ (.If _ _ _ _) _ _ _); refine ws_if ?_)
  | ((with_reducible show DL.WS _ (.Expr _ _) _ _ _); refine ws_expr (h := ?_))
  | ((with_reducible show DL.WS _ (.Assign [.Tuple _ _ _] _ _) _ _ _); refine ws_asg (h := ?_))
  | ((with_reducible show DL.WS _ (.Assign [.Subscript _ _ _] _ _) _ _ _); refine ws_putA (h := ?_))
  | ((with_reducible show DL.WS _ (.AugAssign (.Name _ _) _ _ _) _ _ _); walk_at "aug")
  | ((with_reducible show DL.WS _ (.AugAssign (.Subscript _ _ _) .Add _ _) _ _ _); refine ws_augLA (fun _ => ip_add) (h := ?_))
  | ((with_reducible show DL.WS _ (.For _ _ _ [] _) _ _ _); refine ws_for (h := ?_))
  | ((with_reducible show DL.WS _ (.Pass _) _ _ _); refine ws_pass ?_)
  | ((with_reducible show DL.WS _ (.Break _) _ _ _); refine ws_break ?_)
  | ((with_reducible show DL.WS _ (.Continue _) _ _ _); refine ws_cont ?_))
set_option hygiene false in
local macro_rules | `(tactic| walk_at "T") => `(tactic| first
  | ((with_reducible show DL.WT _ (.Compare _ [_] _ _) _ _ _); refine wt_cmp (h := ?_))
  | ((with_reducible show DL.WT _ (.Compare _ [_, _] _ _) _ _ _); refine wt_chain (h := ?_))
  | ((with_reducible show DL.WT _ (.UnaryOp .Not _ _) _ _ _); refine wt_not ?_)
  | ((with_reducible show DL.WT _ (.BoolOp _ _ _) _ _ _); refine wt_ww ?_)
  | refine wt_val (h := ?_))
set_option hygiene false in
local macro_rules | `(tactic| walk_at "O") => `(tactic| first
  | ((with_reducible show DL.WO _ (binaryOp .Add) _ _ _ _); first | refine wo_add ?_ | refine wo_cat (.inl rfl) (.inl rfl) (by walk_at "sz") ?_ | refine wo_cat (.inr ⟨_, rfl, by walk_at "mem"⟩) (.inl rfl) (by walk_at "sz") ?_ | refine wo_catT (by walk_at "sz") ?_)
  | ((with_reducible show DL.WO _ (binaryOp .Sub) _ _ _ _); refine wo_sub ?_)
  | ((with_reducible show DL.WO _ (binaryOp .Mult) _ _ _ _); refine wo_mul (by walk_at "side") ?_)
  | ((with_reducible show DL.WO _ (binaryOp .FloorDiv) _ _ _ _); refine wo_fdiv (by walk_at "side") ?_)
  | ((with_reducible show DL.WO _ (binaryOp .Mod) _ _ _ _); refine wo_mod (by walk_at "side") ?_)
  | ((with_reducible show DL.WO _ (compareOp .Lt) _ _ _ _); refine wo_lt ?_)
  | ((with_reducible show DL.WO _ (compareOp .LtE) _ _ _ _); refine wo_le ?_)
  | ((with_reducible show DL.WO _ (compareOp .Gt) _ _ _ _); refine wo_gt ?_)
  | ((with_reducible show DL.WO _ (compareOp .GtE) _ _ _ _); refine wo_ge ?_)
  | ((with_reducible show DL.WO _ (compareOp .Eq) _ _ _ _); first | refine wo_eqI ?_ | refine wo_eqS ?_ | refine wo_eqB ?_ | refine wo_eqIL ?_ | refine wo_eqIT ?_)
  | ((with_reducible show DL.WO _ (compareOp .NotEq) _ _ _ _); first | refine wo_neI ?_ | refine wo_neS ?_ | refine wo_neB ?_ | refine wo_neIL ?_ | refine wo_neIT ?_)
  | ((with_reducible show DL.WO _ (compareOp .Is) _ _ _ _); first | refine wo_isB ?_ | refine wo_isN true (.inl ⟨rfl, rfl⟩) ?_ | refine wo_isN false (.inr ⟨rfl, fun z => by cases z⟩) ?_)
  | ((with_reducible show DL.WO _ (compareOp .IsNot) _ _ _ _); first | refine wo_isnotB ?_ | refine wo_notN false (.inl ⟨rfl, rfl⟩) ?_ | refine wo_notN true (.inr ⟨rfl, fun z => by cases z⟩) ?_)
  | ((with_reducible show DL.WO _ (compareOp .In) _ _ _ _); first | refine wo_inT ?_ | refine wo_inL ?_)
  | ((with_reducible show DL.WO _ (compareOp .NotIn) _ _ _ _); first | refine wo_notinT ?_ | refine wo_notinL ?_)
  | ((with_reducible show DL.WO _ (binaryOp .Pow) _ _ _ _); refine wo_pow (by walk_at "side") ?_)
  | ((with_reducible show DL.WO _ (binaryOp .LShift) _ _ _ _); refine wo_shl (by walk_at "side") ?_))
set_option hygiene false in
local macro_rules | `(tactic| walk_at "C") => `(tactic| first
  | ((with_reducible show DL.WC _ (.builtin "len") [.tup (List.map _ _)] _ _); refine wc_len_tupM ?_)
  | ((with_reducible show DL.WC _ (.builtin "len") [.lst (List.map _ _)] _ _); refine wc_len_lstM ?_)
  | ((with_reducible show DL.WC _ (.builtin "len") [.loc _] _ _); refine wc_len_loc (by walk_at "mem") ?_)
  | ((with_reducible show DL.WC _ (.builtin "len") _ _ _); first | refine wc_len_tup ?_ | refine wc_len_lst ?_)
  | ((with_reducible show DL.WC _ (.builtin "all") _ _ _); first | refine wc_allT ?_ | refine wc_allM ?_)
  | ((with_reducible show DL.WC _ (.builtin "any") _ _ _); refine wc_anyM ?_)
  | ((with_reducible show DL.WC _ (.type "int") _ _ _); first | refine wc_int ?_ | refine wc_intB ?_)
  | ((with_reducible show DL.WC _ (.builtin "abs") _ _ _); refine wc_abs ?_)
  | ((with_reducible show DL.WC _ (.builtin "max") _ _ _); refine wc_max2 ?_)
  | ((with_reducible show DL.WC _ (.builtin "min") _ _ _); refine wc_min2 ?_)
  | ((with_reducible show DL.WC _ (.type "tuple") _ _ _); first | refine wc_tuple (.inl rfl) ?_ | refine wc_tuple (.inr (.inl rfl)) ?_ | refine wc_tuple (.inr (.inr ⟨_, rfl, by walk_at "mem"⟩)) ?_)
  | ((with_reducible show DL.WC _ (.type "list") _ _ _); first | refine wc_list (.inl rfl) ?_ | refine wc_list (.inr (.inl rfl)) ?_ | refine wc_list (.inr (.inr ⟨_, rfl, by walk_at "mem"⟩)) ?_)
  | ((with_reducible show DL.WC _ (.builtin "isinstance") _ _ _); first | refine wc_isi (k := true) rfl (by decide +kernel) ?_ | refine wc_isi (k := false) rfl (by decide +kernel) ?_))
set_option hygiene false in
local macro_rules | `(tactic| walk_at "Ix") => `(tactic| first
  | ((with_reducible show DL.WIx _ (.loc _) _ _ _); refine wix_loc (by walk_at "mem") (by walk_at "at") ?_)
  | ((with_reducible show DL.WIx _ (.lst _) _ _ _); refine wix_lst (by walk_at "at") ?_)
  | ((with_reducible show DL.WIx _ (.tup _) _ _ _); refine wix_tup (by walk_at "at") ?_)
  | refine wix_tup rfl ?_
  | refine wix_lst rfl ?_)
set_option hygiene false in
local macro_rules | `(tactic| walk_at "M") => `(tactic| first
  | ((with_reducible show DL.WM _ "list.append" _ _ _ _); refine wm_append (by walk_at "mem") (by walk_at "sz") ?_))
set_option hygiene false in
local macro_rules | `(tactic| walk_at "sz") => `(tactic| first
  | exact szb rfl
  | exact szl (by first | omega | (simp only [List.length_map, List.length_append, List.length_cons, List.length_nil, rangeD_length] at *; omega))
  | exact szle (by first | omega | (simp only [List.length_map, List.length_append, List.length_cons, List.length_nil, rangeD_length] at *; omega)))
set_option hygiene false in
local macro_rules | `(tactic| walk_at "pre") => `(tactic| first
  | (with_reducible assumption)
  | ((with_reducible show _ = _); first | rfl | walk_at "mem" | (simp; done))
  | ((with_reducible show _ ∧ _); first | exact ⟨rfl, rfl⟩ | exact ⟨by omega, by omega⟩)
  | ((with_reducible show (_ : Nat) ≤ _); first | omega | (simp only [List.length_map, List.length_append, List.length_cons, List.length_nil, rangeD_length]; omega))
  | ((with_reducible show (_ : Nat) < _); first | omega | (simp only [List.length_map, List.length_append, List.length_cons, List.length_nil, rangeD_length]; omega))
  | ((with_reducible show (_ : Int) ≤ _); first | omega | (simp only [List.length_map, List.length_append, List.length_cons, List.length_nil, rangeD_length]; omega))
  | ((with_reducible show (_ : Int) < _); first | omega | (simp only [List.length_map, List.length_append, List.length_cons, List.length_nil, rangeD_length]; omega) | (simp; done))
  | assumption
  | (simp; done))
set_option hygiene false in
local macro_rules | `(tactic| walk_at "I") => `(tactic| first
  | ((with_reducible show DL.WI _ _ (.Call (.Name "range" _) [_] [] _) _ _ _); refine wi_range1 T.b_range (h := ?_))
  | ((with_reducible show DL.WI _ _ (.Call (.Name "range" _) [_, _] [] _) _ _ _); refine wi_range2 T.b_range (h := ?_))
  | ((with_reducible show DL.WI _ _ (.Call (.Name "range" _) [_, _, _] [] _) _ _ _); refine wi_range3n T.b_range (h := ?_))
  | ((with_reducible show DL.WI _ _ (.Call (.Name "enumerate" _) [_] [] _) _ _ _); refine wi_enum T.b_enumerate (h := ?_))
  | ((with_reducible show DL.WI _ _ (.Call (.Name "zip" _) [_, _] [] _) _ _ _); refine wi_zip T.b_zip (h := ?_))
  | ((with_reducible show DL.WI _ _ (.Call _ _ _ _) _ _ _); refine wi_lst ?_))
/- one step -/
set_option hygiene false in
local macro_rules | `(tactic| walk_at "dl") => `(tactic| first
  | ((with_reducible show DL.WE _ _ _ _ _); walk_at "E")
  | ((with_reducible show DL.WSs _ _ _ _ _); first | refine wss_cons ?_ | refine wss_nil ?_)
  | ((with_reducible show DL.WS _ _ _ _ _); walk_at "S")
  | ((with_reducible show DL.WA _ _ _ _ _); first | refine wa_cons (h := ?_) | refine wa_nil ?_)
  | ((with_reducible show DL.WO _ _ _ _ _ _); walk_at "O")
  | ((with_reducible show DL.WT _ _ _ _ _); walk_at "T")
  | ((with_reducible show DL.WW _ _ _ _ _); first | refine ww_and ?_ | refine ww_or ?_ | refine ww_and1 ?_ | refine ww_or1 ?_)
  | ((with_reducible show DL.WC _ _ _ _ _); walk_at "C")
  | ((with_reducible show DL.WIx _ _ _ _ _); walk_at "Ix")
  | ((with_reducible show DL.WM _ _ _ _ _ _); walk_at "M")
  | ((with_reducible show DL.WU _ _ _ _ _); refine wu_neg ?_)
  | ((with_reducible show DL.WGi _ _ (.Name _ _) _ _ _ _); walk_at "gnm")
  | ((with_reducible show DL.WGi _ _ _ _ _ _ _); refine wg_tup _ (h := ?_))
  | ((with_reducible show DL.WGs _ _ _ _ _ _ _); first | refine wgs_cons (h := ?_) | refine wgs_nil ?_)
  | ((with_reducible show DL.WI _ _ _ _ _ _); walk_at "I")
  | ((with_reducible show DL.WTs _ _ _ _ _); first | refine wts_one ?_ | refine wts_nil ?_)
  | ((with_reducible show DL.WP _ _ _ _ _); first | refine wp_none ?_ | refine wp_some ?_)
  | ((with_reducible show DL.WSl _ _ _ _ _ _); first | refine wsl_tup ?_ | refine wsl_lst ?_ | refine wsl_loc (by walk_at "mem") ?_)
  | ((with_reducible show _ = true → DL.WE _ _ _ _ _); intro hk)
  | ((with_reducible show (_ = _ → _) ∧ (_ = _ → _)); walk_at "if")
  | ((with_reducible refine ⟨_, ixN_nat ?_ ?_, ?_⟩); (focus omega); (focus first | omega | (simp only [List.length_map, List.length_set, List.length_append] at *; omega)))
  | refine ⟨_, rfl, ?_⟩
  | refine ⟨szb rfl, ?_⟩
  | refine ⟨.inl _, rfl, ?_⟩
  | refine ⟨.inr _, rfl, ?_⟩
  | refine ⟨_, .inl (by walk_at "mem"), ?_⟩
  | refine ⟨_, .inr ⟨_, _, by walk_at "mem"⟩, ?_⟩
  | refine ⟨_, .inr ⟨_, rfl, by walk_at "mem"⟩, ?_⟩
  | refine ⟨_, .inl rfl, ?_⟩
  | refine ⟨_, .inr (.inl rfl), ?_⟩
  | refine ⟨_, .inr rfl, ?_⟩
  | ((with_reducible show _ ∧ _); refine ⟨by walk_at "pre", ?_⟩)
  | refine ⟨_, by walk_at "mem", ?_⟩
  | refine ⟨_, _, rfl, ?_⟩
  | refine ⟨_, _, _, rfl, ?_⟩
  | refine ⟨_, _, _, _, rfl, ?_⟩
  | refine ⟨_, _, _, _, _, rfl, ?_⟩
  | refine ⟨_, _, _, _, _, _, rfl, ?_⟩
  | refine ⟨_, _, _, _, _, _, _, rfl, ?_⟩
  | ((with_reducible show (_ : Mem) = _); rfl)
  | fail "stuck")
/- one step, within a statement -/
set_option hygiene false in
local macro_rules | `(tactic| walk_at "dlE") => `(tactic| first
  | ((with_reducible show DL.WE _ _ _ _ _); walk_at "E")
  | ((with_reducible show DL.WS _ _ _ _ _); walk_at "S")
  | ((with_reducible show DL.WA _ _ _ _ _); first | refine wa_cons (h := ?_) | refine wa_nil ?_)
  | ((with_reducible show DL.WO _ _ _ _ _ _); walk_at "O")
  | ((with_reducible show DL.WT _ _ _ _ _); walk_at "T")
  | ((with_reducible show DL.WW _ _ _ _ _); first | refine ww_and ?_ | refine ww_or ?_ | refine ww_and1 ?_ | refine ww_or1 ?_)
  | ((with_reducible show DL.WC _ _ _ _ _); walk_at "C")
  | ((with_reducible show DL.WIx _ _ _ _ _); walk_at "Ix")
  | ((with_reducible show DL.WM _ _ _ _ _ _); walk_at "M")
  | ((with_reducible show DL.WU _ _ _ _ _); refine wu_neg ?_)
  | ((with_reducible show DL.WGi _ _ (.Name _ _) _ _ _ _); walk_at "gnm")
  | ((with_reducible show DL.WGi _ _ _ _ _ _ _); refine wg_tup _ (h := ?_))
  | ((with_reducible show DL.WGs _ _ _ _ _ _ _); first | refine wgs_cons (h := ?_) | refine wgs_nil ?_)
  | ((with_reducible show DL.WI _ _ _ _ _ _); walk_at "I")
  | ((with_reducible show DL.WTs _ _ _ _ _); first | refine wts_one ?_ | refine wts_nil ?_)
  | ((with_reducible show DL.WP _ _ _ _ _); first | refine wp_none ?_ | refine wp_some ?_)
  | ((with_reducible show DL.WSl _ _ _ _ _ _); first | refine wsl_tup ?_ | refine wsl_lst ?_ | refine wsl_loc (by walk_at "mem") ?_)
  | ((with_reducible show _ = true → DL.WE _ _ _ _ _); intro hk)
  | ((with_reducible show (_ = _ → _) ∧ (_ = _ → _)); walk_at "if")
  | ((with_reducible refine ⟨_, ixN_nat ?_ ?_, ?_⟩); (focus omega); (focus first | omega | (simp only [List.length_map, List.length_set, List.length_append] at *; omega)))
  | refine ⟨_, rfl, ?_⟩
  | refine ⟨szb rfl, ?_⟩
  | refine ⟨.inl _, rfl, ?_⟩
  | refine ⟨.inr _, rfl, ?_⟩
  | refine ⟨_, .inl (by walk_at "mem"), ?_⟩
  | refine ⟨_, .inr ⟨_, _, by walk_at "mem"⟩, ?_⟩
  | refine ⟨_, .inr ⟨_, rfl, by walk_at "mem"⟩, ?_⟩
  | refine ⟨_, .inl rfl, ?_⟩
  | refine ⟨_, .inr (.inl rfl), ?_⟩
  | refine ⟨_, .inr rfl, ?_⟩
  | ((with_reducible show _ ∧ _); refine ⟨by walk_at "pre", ?_⟩)
  | refine ⟨_, by walk_at "mem", ?_⟩
  | refine ⟨_, _, rfl, ?_⟩
  | refine ⟨_, _, _, rfl, ?_⟩
  | refine ⟨_, _, _, _, rfl, ?_⟩
  | refine ⟨_, _, _, _, _, rfl, ?_⟩
  | refine ⟨_, _, _, _, _, _, rfl, ?_⟩
  | refine ⟨_, _, _, _, _, _, _, rfl, ?_⟩
  | ((with_reducible show (_ : Mem) = _); rfl)
  | fail "stuck")
set_option hygiene false in
local macro_rules | `(tactic| walk_at "goE") => `(tactic| repeat' walk_at "dlE")
set_option hygiene false in
local macro_rules | `(tactic| walk_at "go") => `(tactic| repeat' walk_at "dl")
set_option hygiene false in
local macro_rules | `(tactic| walk_at "nx") => `(tactic| ((try rw [Mem.upd_upd]); walk_at "go"))
set_option hygiene false in
local macro_rules | `(tactic| walk_at "call") => `(tactic| ((with_reducible show DL.WE _ (.Call (.Name "_law_begin" _) _ [] _) _ _ _); refine we_call (ok_begin T) (h := ?_)))
set_option hygiene false in
local macro_rules | `(tactic| walk_at "call") => `(tactic| ((with_reducible show DL.WE _ (.Call (.Name "_law_draw" _) _ [] _) _ _ _); refine we_call (ok_draw T) (h := ?_)))
set_option hygiene false in
local macro_rules | `(tactic| walk_at "call") => `(tactic| ((with_reducible show DL.WE _ (.Call (.Name "_law_pick" _) _ [] _) _ _ _); refine we_call (ok_pick T) (h := ?_)))
set_option hygiene false in
local macro_rules | `(tactic| walk_at "call") => `(tactic| ((with_reducible show DL.WE _ (.Call (.Name "_law_is_int" _) _ [] _) _ _ _); refine we_call (ok_is_int T) (h := ?_)))
set_option hygiene false in
local macro_rules | `(tactic| walk_at "call") => `(tactic| ((with_reducible show DL.WE _ (.Call (.Name "_law_is_ints" _) _ [] _) _ _ _); refine we_call (ok_is_ints T) (h := ?_)))
set_option hygiene false in
local macro_rules | `(tactic| walk_at "call") => `(tactic| ((with_reducible show DL.WE _ (.Call (.Name "is_whole" _) _ [] _) _ _ _); refine we_call (ok_is_whole T) (h := ?_)))
set_option hygiene false in
local macro_rules | `(tactic| walk_at "call") => `(tactic| ((with_reducible show DL.WE _ (.Call (.Name "allowed_at" _) _ [] _) _ _ _); refine we_call (ok_allowed_at T) (h := ?_)))
set_option hygiene false in
local macro_rules | `(tactic| walk_at "call") => `(tactic| ((with_reducible show DL.WE _ (.Call (.Name "reach_of" _) _ [] _) _ _ _); refine we_call (ok_reach_of T) (h := ?_)))
set_option hygiene false in
local macro_rules | `(tactic| walk_at "call") => `(tactic| ((with_reducible show DL.WE _ (.Call (.Name "fewest_tellings" _) _ [] _) _ _ _); refine we_call (ok_fewest_tellings T) (h := ?_)))
set_option hygiene false in
local macro_rules | `(tactic| walk_at "call") => `(tactic| ((with_reducible show DL.WE _ (.Call (.Name "is_right_plan" _) _ [] _) _ _ _); refine we_call (ok_is_right_plan T) (h := ?_)))
set_option hygiene false in
local macro_rules | `(tactic| walk_at "call") => `(tactic| ((with_reducible show DL.WE _ (.Call (.Name "are_right_bars" _) _ [] _) _ _ _); refine we_call (ok_are_right_bars T) (h := ?_)))
set_option hygiene false in
local macro_rules | `(tactic| walk_at "call") => `(tactic| ((with_reducible show DL.WE _ (.Call (.Name "judge_tellings" _) _ [] _) _ _ _); refine we_call (ok_judge_tellings T) (h := ?_)))
set_option hygiene false in
local macro_rules | `(tactic| walk_at "call") => `(tactic| ((with_reducible show DL.WE _ (.Call (.Name "_law_given" _) _ [] _) _ _ _); refine we_call (ok_given T) (h := ?_)))
set_option hygiene false in
local macro_rules | `(tactic| walk_at "call") => `(tactic| ((with_reducible show DL.WE _ (.Call (.Name "_law_plan_is_right" _) _ [] _) _ _ _); refine we_call (ok_plan_is_right T) (h := ?_)))
set_option hygiene false in
local macro_rules | `(tactic| walk_at "call") => `(tactic| ((with_reducible show DL.WE _ (.Call (.Name "_law_end" _) _ [] _) _ _ _); refine we_call (ok_end T) (h := ?_)))
set_option hygiene false in
local macro_rules | `(tactic| walk_at "call") => `(tactic| ((with_reducible show DL.WE _ (.Call (.Name "_law_bars_are_right" _) _ [] _) _ _ _); refine we_call (ok_bars_are_right T) (h := ?_)))
set_option hygiene false in
local macro_rules | `(tactic| walk_at "call") => `(tactic| ((with_reducible show DL.WE _ (.Call (.Name "_law_pair_is_right" _) _ [] _) _ _ _); refine we_call (ok_pair_is_right T) (h := ?_)))
set_option hygiene false in
local macro_rules | `(tactic| walk_at "call") => `(tactic| ((with_reducible show DL.WE _ (.Call (.Name "_law_is_pair" _) _ [] _) _ _ _); refine we_call (ok_is_pair T) (h := ?_)))
set_option hygiene false in
local macro_rules | `(tactic| walk_at "call") => `(tactic| ((with_reducible show DL.WE _ (.Call (.Name "_law_values" _) _ [] _) _ _ _); refine we_call (ok_values T) (h := ?_)))
set_option hygiene false in
local macro_rules | `(tactic| walk_at "call") => `(tactic| ((with_reducible show DL.WE _ (.Call (.Name "_law_slack" _) _ [] _) _ _ _); refine we_call (ok_slack T) (h := ?_)))
set_option hygiene false in
local macro_rules | `(tactic| walk_at "call") => `(tactic| ((with_reducible show DL.WE _ (.Call (.Name "_law_told_at" _) _ [] _) _ _ _); refine we_call (ok_told_at T) (h := ?_)))
set_option hygiene false in
local macro_rules | `(tactic| walk_at "call") => `(tactic| ((with_reducible show DL.WE _ (.Call (.Name "_law_costs" _) _ [] _) _ _ _); refine we_call (ok_costs T) (h := ?_)))
set_option hygiene false in
local macro_rules | `(tactic| walk_at "call") => `(tactic| ((with_reducible show DL.WE _ (.Call (.Name "_law_fewest" _) _ [] _) _ _ _); refine we_call (ok_fewest T) (h := ?_)))
set_option hygiene false in
local macro_rules | `(tactic| walk_at "call") => `(tactic| ((with_reducible show DL.WE _ (.Call (.Name "_law_some_plan" _) _ [] _) _ _ _); refine we_call (ok_some_plan T) (h := ?_)))
set_option hygiene false in
local macro_rules | `(tactic| walk_at "call") => `(tactic| ((with_reducible show DL.WE _ (.Call (.Name "_law_some_bars" _) _ [] _) _ _ _); refine we_call (ok_some_bars T) (h := ?_)))
theorem ixN_nat {n : Nat} {k : Int} (h0 : 0 ≤ k) (h1 : k < n) : ixN n k = some k.toNat := by
  unfold ixN
  rw [if_pos h0, if_pos (by omega)]
theorem cutB {α : Type} {xs : List α} {lo hi : Option Int} {n : Nat} (h : xs.length ≤ n) : (cutD xs lo hi).length ≤ n := by
  unfold cutD
  simp only [List.length_take, List.length_drop]; omega
theorem szle3 {m n : Nat} (h : m ≤ 300) (k : n ≤ 300) : m + n ≤ 1000 := by omega
theorem szle2 {m n : Nat} (h : m ≤ 1000) (k : n ≤ 1000) : m + n ≤ sizeLine := szle (by omega)
theorem set_pr {ts : Tl} {i : Nat} {x y : Int} : (ts.map pr).set i (.tup [.int x, .int y]) = (ts.set i (x, y)).map pr := by rw [List.map_set]; rfl
theorem set_iD {bs : List Int} {i : Nat} {x : Int} : (iD bs).set i (.int x) = iD (bs.set i x) := by unfold iD; rw [List.map_set]
theorem wc_sortedPr {Γ : Gam} {μ : Mem} {Q : D → Mem → Prop} {ts : Tl} {d : D} (s : d = .lst (ts.map pr) ∨ ∃ a, d = .loc a ∧ μ a = some (.lst (ts.map pr))) (q : ∀ us : Tl, us.Perm ts → Q (.lst (us.map pr)) μ) : WC Γ (.builtin "sorted") [d] μ Q := by
  refine wc_sortedT (rows := ts.map fun q => [q.1, q.2]) (by rw [List.map_map]; exact s) (fun r hr => ?_) fun ms hp _ => ?_
  · obtain ⟨q, _, rfl⟩ := List.mem_map.mp hr; simp
  · have e : ms.map tI = (ms.map fun r => (r.getD 0 0, r.getD 1 0)).map pr := by
      rw [List.map_map]
      refine List.map_congr_left fun r hr => ?_
      obtain ⟨q, _, rfl⟩ := List.mem_map.mp (hp.mem_iff.mp hr)
      rfl
    rw [e]
    refine q _ ?_
    have := hp.map fun r : List Int => (r.getD 0 0, r.getD 1 0)
    rw [List.map_map] at this
    have e2 : (ts.map ((fun r : List Int => (r.getD 0 0, r.getD 1 0)) ∘ fun q : Int × Int => [q.1, q.2])) = ts := by
      rw [show ((fun r : List Int => (r.getD 0 0, r.getD 1 0)) ∘ fun q : Int × Int => [q.1, q.2]) = id from rfl, List.map_id]
    rwa [e2] at this
local macro_rules | `(tactic| walk_at "sz") => `(tactic| exact szle2 (cutB (by simp only [List.length_map]; omega)) (cutB (by simp only [List.length_map]; omega)))
def sp_spoilt : DSp := fun ds μ Q => ∃ (a : Addr) (vs : List Int) (ts : Tl) (bs : List Int) (way : Int), ds = [.loc a, .tup (iD vs), encF ts bs, .int way] ∧ ∃ l, μ a = some (.lst l) ∧ IsDr l ∧ 0 < vs.length ∧ vs.length ≤ 300 ∧ ts.length = bs.length ∧ 0 < ts.length ∧ ts.length ≤ 300 ∧ (∃ v, ts[0]? = some (0, v)) ∧ ∀ (l' : List D) (ts' : Tl) (bs' : List Int), IsDr l' → ts'.length ≤ 1000 → bs'.length ≤ 1000 → Q (encF ts' bs') (μ.upd a (.lst l'))
set_option hygiene false in
local macro_rules | `(tactic| walk_at "C") => `(tactic| ((with_reducible show DL.WC _ (.type "list") _ _ _); refine wc_listM (.inr (.inl rfl)) (fun p hp => ?_)))
set_option hygiene false in
local macro_rules | `(tactic| walk_at "C") => `(tactic| ((with_reducible show DL.WC _ (.type "tuple") _ _ _); refine wc_tuple (by assumption) ?_))
theorem sc_spoilt : FnScope ["d", "values", "found", "way", "tellings", "bars", "at", "step", "moment", "other", "first"] ["d", "values", "found", "way"] (defScope s_spoilt) := ⟨rfl, rfl, rfl, by decide +kernel, rfl, by decide +kernel, by decide +kernel⟩
section
set_option hygiene false in
local macro_rules | `(tactic| walk_at "nm") => `(tactic| first | ((with_reducible show DL.WE _ (.Name "d" _) _ _ _); refine we_name 0 (q := ?_)) | ((with_reducible show DL.WE _ (.Name "values" _) _ _ _); refine we_name 1 (q := ?_)) | ((with_reducible show DL.WE _ (.Name "found" _) _ _ _); refine we_name 2 (q := ?_)) | ((with_reducible show DL.WE _ (.Name "way" _) _ _ _); refine we_name 3 (q := ?_)) | ((with_reducible show DL.WE _ (.Name "tellings" _) _ _ _); refine we_name 4 (q := ?_)) | ((with_reducible show DL.WE _ (.Name "bars" _) _ _ _); refine we_name 5 (q := ?_)) | ((with_reducible show DL.WE _ (.Name "at" _) _ _ _); refine we_name 6 (q := ?_)) | ((with_reducible show DL.WE _ (.Name "step" _) _ _ _); refine we_name 7 (q := ?_)) | ((with_reducible show DL.WE _ (.Name "moment" _) _ _ _); refine we_name 8 (q := ?_)) | ((with_reducible show DL.WE _ (.Name "other" _) _ _ _); refine we_name 9 (q := ?_)) | ((with_reducible show DL.WE _ (.Name "first" _) _ _ _); refine we_name 10 (q := ?_)))
set_option hygiene false in
local macro_rules | `(tactic| walk_at "set") => `(tactic| first | ((with_reducible show DL.WS _ (.Assign [.Name "d" _] _ _) _ _ _); refine ws_set 0 (h := ?_)) | ((with_reducible show DL.WS _ (.Assign [.Name "values" _] _ _) _ _ _); refine ws_set 1 (h := ?_)) | ((with_reducible show DL.WS _ (.Assign [.Name "found" _] _ _) _ _ _); refine ws_set 2 (h := ?_)) | ((with_reducible show DL.WS _ (.Assign [.Name "way" _] _ _) _ _ _); refine ws_set 3 (h := ?_)) | ((with_reducible show DL.WS _ (.Assign [.Name "tellings" _] _ _) _ _ _); refine ws_set 4 (h := ?_)) | ((with_reducible show DL.WS _ (.Assign [.Name "bars" _] _ _) _ _ _); refine ws_set 5 (h := ?_)) | ((with_reducible show DL.WS _ (.Assign [.Name "at" _] _ _) _ _ _); refine ws_set 6 (h := ?_)) | ((with_reducible show DL.WS _ (.Assign [.Name "step" _] _ _) _ _ _); refine ws_set 7 (h := ?_)) | ((with_reducible show DL.WS _ (.Assign [.Name "moment" _] _ _) _ _ _); refine ws_set 8 (h := ?_)) | ((with_reducible show DL.WS _ (.Assign [.Name "other" _] _ _) _ _ _); refine ws_set 9 (h := ?_)) | ((with_reducible show DL.WS _ (.Assign [.Name "first" _] _ _) _ _ _); refine ws_set 10 (h := ?_)))
set_option hygiene false in
local macro_rules | `(tactic| walk_at "gnm") => `(tactic| first | ((with_reducible show DL.WGi _ _ (.Name "d" _) _ _ _ _); refine wg_name 0 (q := ?_)) | ((with_reducible show DL.WGi _ _ (.Name "values" _) _ _ _ _); refine wg_name 1 (q := ?_)) | ((with_reducible show DL.WGi _ _ (.Name "found" _) _ _ _ _); refine wg_name 2 (q := ?_)) | ((with_reducible show DL.WGi _ _ (.Name "way" _) _ _ _ _); refine wg_name 3 (q := ?_)) | ((with_reducible show DL.WGi _ _ (.Name "tellings" _) _ _ _ _); refine wg_name 4 (q := ?_)) | ((with_reducible show DL.WGi _ _ (.Name "bars" _) _ _ _ _); refine wg_name 5 (q := ?_)) | ((with_reducible show DL.WGi _ _ (.Name "at" _) _ _ _ _); refine wg_name 6 (q := ?_)) | ((with_reducible show DL.WGi _ _ (.Name "step" _) _ _ _ _); refine wg_name 7 (q := ?_)) | ((with_reducible show DL.WGi _ _ (.Name "moment" _) _ _ _ _); refine wg_name 8 (q := ?_)) | ((with_reducible show DL.WGi _ _ (.Name "other" _) _ _ _ _); refine wg_name 9 (q := ?_)) | ((with_reducible show DL.WGi _ _ (.Name "first" _) _ _ _ _); refine wg_name 10 (q := ?_)))
set_option hygiene false in
local macro_rules | `(tactic| walk_at "S") => `(tactic| first | ((with_reducible show DL.WS _ (.Assign [.Tuple _ _ _] _ ⟨168, 4, _, _⟩) _ _ _); refine ws_par 4 5 (hw := by intro env he; cases env; subst he; rfl) (h := ?_)) | ((with_reducible show DL.WS _ (.Assign [.Tuple _ _ _] _ ⟨196, 8, _, _⟩) _ _ _); refine ws_par 4 5 (hw := by intro env he; cases env; subst he; rfl) (h := ?_)))
set_option maxHeartbeats 1000000 in
theorem ok_spoilt (T : Txt K mg) : FnD P w K mg base 3 "_law_spoilt" sp_spoilt := by
  refine TF.ok 2 T.f_spoilt sc_spoilt (fun ds μ Q ⟨_, _, _, _, _, h, _⟩ => by rw [h]; rfl) fun ds μ Q h => ?_
  obtain ⟨a, vs, ts, bs, way, rfl, l, hm, hl, h0, h1, hlen, t0, t1, ht, q⟩ := h
  obtain ⟨v0, ht⟩ := ht
  unfold encF
  refine wss_cons ?_
  walk_at "goE"
  rename_i p1 hp1
  have n12 : p1 ≠ p := ne_fresh Mem.upd_same hp
  have hp2 : μ p = none := by rwa [Mem.upd_ne (Ne.symm n12)] at hp
  have na1 : a ≠ p1 := ne_fresh hm hp1
  have na2 : a ≠ p := ne_fresh hm hp2
  obtain ⟨μ0, hμ0⟩ : ∃ μ0, μ0 = ((μ.upd p1 (MO.lst (ts.map pr))).upd p (MO.lst (iD bs))) := ⟨_, rfl⟩
  have k0 : Kp [a] μ μ0 := hμ0 ▸ (Kp.refl.fresh hp1).fresh hp2
  have m1 : μ0 p1 = some (.lst (ts.map pr)) := hμ0 ▸ (Mem.upd_ne n12).trans Mem.upd_same
  have m2 : μ0 p = some (.lst (iD bs)) := hμ0 ▸ Mem.upd_same
  have ma : μ0 a = some (.lst l) := hμ0 ▸ (Mem.upd_ne na2).trans ((Mem.upd_ne na1).trans hm)
  rw [← hμ0]
  have t2 : 0 < bs.length := by omega
  have t3 : bs.length ≤ 300 := by omega
  clear hμ0 hp hm
  walk_at "go"
  intro l1 r hl1 r0 r1
  walk_at "go"
  intro l2 st hl2 st0 st1
  rw [Mem.upd_upd]
  obtain ⟨μb, hμb⟩ : ∃ μb, μb = μ0.upd a (.lst l2) := ⟨_, rfl⟩
  have kb : Kp [a] μ μb := hμb ▸ k0.upd (by simp)
  have b1 : μb p1 = some (.lst (ts.map pr)) := hμb ▸ (Mem.upd_ne na1.symm).trans m1
  have b2 : μb p = some (.lst (iD bs)) := hμb ▸ (Mem.upd_ne na2.symm).trans m2
  have ba : μb a = some (.lst l2) := hμb ▸ Mem.upd_same
  rw [← hμb]
  clear hμb m1 m2 ma k0
  walk_at "goE"
  refine wss_mid (fun ρ1 μ1 => ∃ (l' : List D) (td bd : D) (ts' : Tl) (bs' : List Int) (o1 o2 o3 o4 o5 : Option D), μ1 a = some (.lst l') ∧ IsDr l' ∧ Kp [a] μ μ1 ∧ SeqD μ1 td (ts'.map pr) ∧ SeqD μ1 bd (iD bs') ∧ ts'.length ≤ 1000 ∧ bs'.length ≤ 1000 ∧ ρ1 = [some (.loc a), some (.tup (iD vs)), some (.tup [.tup (ts.map pr), .tup (iD bs)]), some (.int way), some td, some bd, o1, o2, o3, o4, o5]) ?_ ?_
  rotate_left
  · rintro ρ1 μ1 ⟨l', td, bd, ts', bs', o1, o2, o3, o4, o5, ha, hl', kp, s1, s2, len1, len2, rfl⟩
    refine wss_cons (ws_ret ?_)
    walk_at "go"
    exact ⟨_, kp.sub ha, q l' ts' bs' hl' len1 len2⟩
  have rN : r.toNat < ts.length := by simp only [List.length_map] at r1; omega
  · walk_at "goE"
    · walk_at "go"
      exact ⟨l2, .loc p1, .loc p, _, bs, _, _, _, _, _, (Mem.upd_ne na1).trans ba, hl2, kb.fresh hp1, .inr (.inr ⟨_, rfl, by rw [Mem.upd_same]; exact congrArg (fun x => some (MO.lst x)) set_pr⟩), .inr (.inr ⟨_, rfl, (Mem.upd_ne n12.symm).trans b2⟩), by rw [List.length_set]; omega, by omega, rfl⟩
    walk_at "dl"
    walk_at "goE"
    · walk_at "go"
      intro l3 x hl3 hx
      obtain ⟨x, _, rfl⟩ := List.mem_map.mp hx
      walk_at "go"
      refine wc_maxTup h0 fun y hy hyl => ?_
      walk_at "go"
      refine wc_minTup h0 fun z hz hzl => ?_
      walk_at "go"
      intro l4 d4 hl4 hd4
      obtain ⟨x4, rfl⟩ : ∃ x4 : Int, d4 = .int x4 := by
        simp only [List.mem_cons, List.not_mem_nil, or_false] at hd4
        rcases hd4 with rfl | rfl | rfl <;> exact ⟨_, rfl⟩
      walk_at "nx"
      exact ⟨l4, .loc p1, .loc p, _, bs, _, _, _, _, _, (Mem.upd_ne na1).trans Mem.upd_same, hl4, (kb.upd (by simp)).fresh hp1, .inr (.inr ⟨_, rfl, by rw [Mem.upd_same]; exact congrArg (fun x => some (MO.lst x)) set_pr⟩), .inr (.inr ⟨_, rfl, (Mem.upd_ne n12.symm).trans ((Mem.upd_ne na2.symm).trans b2)⟩), by rw [List.length_set]; omega, by omega, rfl⟩
    walk_at "dl"
    walk_at "goE"
    · walk_at "go"
      exact ⟨l2, .loc p1, .loc p, ts, _, _, _, _, _, _, (Mem.upd_ne na2).trans ba, hl2, kb.fresh hp2, .inr (.inr ⟨_, rfl, (Mem.upd_ne n12).trans b1⟩), .inr (.inr ⟨_, rfl, by rw [Mem.upd_same]; exact congrArg (fun x => some (MO.lst x)) set_iD⟩), by omega, by rw [List.length_set]; omega, rfl⟩
    walk_at "dl"
    walk_at "goE"
    · walk_at "go"
      intro l3 x3 hl3 x30 x31
      walk_at "go"
      simp only [cutD_map, ← List.map_append]
      refine ⟨l3, _, _, _, _, _, _, _, _, _, Mem.upd_same, hl3, kb.upd (by simp), .inl rfl, .inl rfl, ?_, ?_, rfl⟩
      · rw [List.length_append]; exact szle3 (cutB (by omega)) (cutB (by omega))
      · rw [List.length_append]; exact szle3 (cutB (by omega)) (cutB (by omega))
    walk_at "dl"
    walk_at "goE"
    · walk_at "go"
      simp only [cutD_map, ← List.map_append]
      refine ⟨l2, .loc p1, _, ts, _, _, _, _, _, _, ba, hl2, kb, .inr (.inr ⟨_, rfl, b1⟩), .inl rfl, by omega, ?_, rfl⟩
      rw [List.length_append]; exact szle3 (cutB (by omega)) (cutB (by omega))
    walk_at "dl"
    walk_at "goE"
    · refine wss_freeze 4 rfl b1 ?_
      obtain ⟨μc, hμc⟩ : ∃ μc, μc = μb.del p1 := ⟨_, rfl⟩
      have kc : Kp [a] μ μc := hμc ▸ fun b u hb hu => by
        rw [Mem.del_ne (show b ≠ p1 from fun e => by subst e; rw [hp1] at hu; cases hu)]; exact kb b u hb hu
      have c2 : μc p = some (.lst (iD bs)) := hμc ▸ (Mem.del_ne n12.symm).trans b2
      have ca : μc a = some (.lst l2) := hμc ▸ (Mem.del_ne na1).trans ba
      rw [← hμc]
      clear hμc b1 b2 ba kb
      walk_at "go"
      intro l3 x3 hl3 x30 x31
      walk_at "go"
      refine ⟨⟨v0, ht⟩, fun v3 => ?_⟩
      walk_at "go"
      rw [show ts.map pr ++ [D.tup [.int x3, .int v3]] = (ts ++ [(x3, v3)]).map pr by simp [pr]]
      refine wc_sortedPr (.inl rfl) fun us hus => ?_
      have husl : us.length ≤ 1000 := by rw [hus.length_eq, List.length_append]; simp; omega
      walk_at "go"
      · intro l4 x4 hl4 x40 x41
        walk_at "go"
        intro l5 d5 hl5 hd5
        obtain ⟨x5, rfl⟩ : ∃ x5 : Int, d5 = .int x5 := by
          simp only [List.mem_cons, List.not_mem_nil, or_false] at hd5
          rcases hd5 with rfl | rfl <;> exact ⟨_, rfl⟩
        simp only [Mem.upd_upd]
        walk_at "go"
        rw [show iD bs ++ [D.int x5] = iD (bs ++ [x5]) by simp]
        refine wc_sortedI (.inl rfl) fun ms hms _ => ?_
        have hmsl : ms.length ≤ 1000 := by rw [hms.length_eq, List.length_append]; simp; omega
        walk_at "go"
        exact ⟨l5, _, _, us, ms, _, _, _, _, _, Mem.upd_same, hl5, kc.upd (by simp), .inl rfl, .inl rfl, husl, hmsl, rfl⟩
      · exact ⟨l3, _, .loc p, us, bs, _, _, _, _, _, Mem.upd_same, hl3, kc.upd (by simp), .inl rfl, .inr (.inr ⟨_, rfl, (Mem.upd_ne na2.symm).trans c2⟩), husl, by omega, rfl⟩
    walk_at "dl"
    walk_at "goE"
    · walk_at "go"
      intro l3 x3 hl3 x30 x31
      walk_at "go"
      rw [set_pr]
      rw [List.length_map] at x31
      generalize hts2 : List.set ts r.toNat _ = ts2
      have ts2l : ts2.length = ts.length := by rw [← hts2, List.length_set]
      have x32 : x3 < ts2.length := by omega
      walk_at "go"
      simp only [Mem.upd_upd]
      exact ⟨l3, .loc p1, .loc p, _, bs, _, _, _, _, _, (Mem.upd_ne na1).trans Mem.upd_same, hl3, (kb.upd (by simp)).fresh hp1, .inr (.inr ⟨_, rfl, by rw [Mem.upd_same]; exact congrArg (fun x => some (MO.lst x)) set_pr⟩), .inr (.inr ⟨_, rfl, (Mem.upd_ne n12.symm).trans ((Mem.upd_ne na2.symm).trans b2)⟩), by rw [List.length_set]; omega, by omega, rfl⟩
    walk_at "dl"
    walk_at "goE"
    · walk_at "go"
      intro l3 x3 hl3 x30 x31
      have eb : iD bs.reverse = (iD bs).reverse := by unfold iD; rw [List.map_reverse]
      have et : (ts.map pr).reverse = ts.reverse.map pr := by rw [List.map_reverse]
      walk_at "go"
      · exact ⟨l3, _, _, ts.reverse, bs.reverse, _, _, _, _, _, Mem.upd_same, hl3, kb.upd (by simp), .inl (congrArg D.lst et), .inl (congrArg D.lst eb.symm), by simp; omega, by simp; omega, rfl⟩
      · exact ⟨l3, _, .loc p, ts.reverse, bs, _, _, _, _, _, Mem.upd_same, hl3, kb.upd (by simp), .inl (congrArg D.lst et), .inr (.inr ⟨_, rfl, (Mem.upd_ne na2.symm).trans b2⟩), by simp; omega, by omega, rfl⟩
    · walk_at "go"
      rename_i p3 hp3
      have n34 : p3 ≠ p := ne_fresh Mem.upd_same hp
      exact ⟨l2, .loc p3, .loc p, [], [], _, _, _, _, _, (Mem.upd_ne (ne_fresh ((Mem.upd_ne (ne_fresh ba hp3)).trans ba) hp)).trans ((Mem.upd_ne (ne_fresh ba hp3)).trans ba), hl2, (kb.new hp3).new hp, .inr (.inr ⟨_, rfl, (Mem.upd_ne n34).trans Mem.upd_same⟩), .inr (.inr ⟨_, rfl, Mem.upd_same⟩), by simp, by simp, rfl⟩
end
set_option hygiene false in
local macro_rules | `(tactic| walk_at "call") => `(tactic| ((with_reducible show DL.WE _ (.Call (.Name "_law_spoilt" _) _ [] _) _ _ _); refine we_call (ok_spoilt T) (h := ?_)))
end K80
namespace K80
open PySem L2 DL Tell
variable {P : Program} {w : World} {K : PySem.W.Frag} {mg : Str → Option Value} {base : Heap}
set_option hygiene false in
local macro_rules | `(tactic| walk_at "side") => `(tactic| first
  | (with_reducible assumption)
  | rfl
  | omega
  | decide
  | exact ⟨by omega, by omega⟩
  | exact ⟨by decide, by decide⟩
  | exact .inl ⟨by decide, by decide⟩
  | exact .inr ⟨by decide, by decide⟩
  | exact .inl ⟨by omega, by omega⟩
  | exact .inr ⟨by omega, by omega⟩
  | exact ⟨by decide, by decide, by decide⟩
  | exact szb rfl
  | fail "side")
set_option hygiene false in
local macro_rules | `(tactic| walk_at "ne") => `(tactic| first
  | assumption
  | exact Ne.symm (by assumption)
  | exact ne_fresh (by assumption) (by assumption)
  | exact Ne.symm (ne_fresh (by assumption) (by assumption)))
/- what stands at an address -/
set_option hygiene false in
local macro_rules | `(tactic| walk_at "mem") => `(tactic| first
  | assumption
  | exact Mem.upd_same
  | exact (Mem.upd_ne (by walk_at "ne")).trans (by walk_at "mem"))
/- an item of a list -/
set_option hygiene false in
local macro_rules | `(tactic| walk_at "at") => `(tactic| first
  | rfl
  | exact atI_getI (by omega) (by omega)
  | exact atI_lastI (by first | omega | (simp only [List.length_map] at *; omega))
  | exact atI_lastM _ (by assumption)
  | exact atI_mapI _ (by omega) (by assumption)
  | exact atI_mapN _ (by assumption)
  | exact atI_get _ (by first | omega | (simp only [List.length_map, List.length_set] at *; omega)) (by first | omega | (simp only [List.length_map, List.length_set] at *; omega)))
/- tests that are decided or split -/
set_option hygiene false in
local macro_rules | `(tactic| walk_at "if") => `(tactic| first
  | refine if_tt ?_
  | refine if_ff ?_
  | refine if_f_tt ?_
  | refine if_f_ff ?_
  | (refine if_dec (fun hk => ?_) (fun hk => ?_))
  | (refine if_ndec (fun hk => ?_) (fun hk => ?_))
  | (refine if_f_dec (fun hk => ?_) (fun hk => ?_))
  | (refine if_f_ndec (fun hk => ?_) (fun hk => ?_))
  | (refine if_nb (fun hk => ?_) (fun hk => ?_))
  | (refine if_f_nb (fun hk => ?_) (fun hk => ?_))
  | (refine And.intro (fun hk => ?_) (fun hk => ?_)))
set_option hygiene false in
local macro_rules | `(tactic| walk_at "call") => `(tactic| first
  | ((with_reducible show DL.WE _ (.Call (.Name "len" _) _ [] _) _ _ _); refine we_callB bt_len T.b_len (h := ?_))
  | ((with_reducible show DL.WE _ (.Call (.Name "abs" _) _ [] _) _ _ _); refine we_callB bt_abs T.b_abs (h := ?_))
  | ((with_reducible show DL.WE _ (.Call (.Name "min" _) _ [] _) _ _ _); refine we_callB bt_min T.b_min (h := ?_))
  | ((with_reducible show DL.WE _ (.Call (.Name "max" _) _ [] _) _ _ _); refine we_callB bt_max T.b_max (h := ?_))
  | ((with_reducible show DL.WE _ (.Call (.Name "sum" _) _ [] _) _ _ _); refine we_callB bt_sum T.b_sum (h := ?_))
  | ((with_reducible show DL.WE _ (.Call (.Name "all" _) _ [] _) _ _ _); refine we_callB bt_all T.b_all (h := ?_))
  | ((with_reducible show DL.WE _ (.Call (.Name "any" _) _ [] _) _ _ _); refine we_callB bt_any T.b_any (h := ?_))
  | ((with_reducible show DL.WE _ (.Call (.Name "sorted" _) _ [] _) _ _ _); refine we_callB bt_sorted T.b_sorted (h := ?_))
  | ((with_reducible show DL.WE _ (.Call (.Name "isinstance" _) _ [] _) _ _ _); refine we_callB bt_isinstance T.b_isinstance (h := ?_))
  | ((with_reducible show DL.WE _ (.Call (.Name "int" _) _ [] _) _ _ _); refine we_callT bt_int T.b_int (h := ?_))
  | ((with_reducible show DL.WE _ (.Call (.Name "list" _) _ [] _) _ _ _); refine we_callT bt_list T.b_list (h := ?_))
  | ((with_reducible show DL.WE _ (.Call (.Name "tuple" _) _ [] _) _ _ _); refine we_callT bt_tuple T.b_tuple (h := ?_))
  | ((with_reducible show DL.WE _ (.Call (.Name "bool" _) _ [] _) _ _ _); refine we_callT bt_bool T.b_bool (h := ?_))
  | ((with_reducible show DL.WE _ (.Call (.Name "set" _) _ [] _) _ _ _); refine we_callT bt_set T.b_set (h := ?_)))
set_option hygiene false in
local macro_rules | `(tactic| walk_at "ty") => `(tactic| first
  | ((with_reducible show DL.WE _ (.Name "int" _) _ _ _); refine we_type rfl T.b_int bt_int (by decide) (by decide) ?_)
  | ((with_reducible show DL.WE _ (.Name "bool" _) _ _ _); refine we_type rfl T.b_bool bt_bool (by decide) (by decide) ?_)
  | ((with_reducible show DL.WE _ (.Name "tuple" _) _ _ _); refine we_type rfl T.b_tuple bt_tuple (by decide) (by decide) ?_)
  | ((with_reducible show DL.WE _ (.Name "list" _) _ _ _); refine we_type rfl T.b_list bt_list (by decide) (by decide) ?_))
set_option hygiene false in
local macro_rules | `(tactic| walk_at "E") => `(tactic| first
  | ((with_reducible show DL.WE _ (.Name _ _) _ _ _); first | walk_at "nm" | walk_at "ty")
  | ((with_reducible show DL.WE _ (.Constant _ _ _) _ _ _); first | refine we_int ?_ | refine we_str ?_ | refine we_bl ?_ | refine we_non ?_)
  | ((with_reducible show DL.WE _ (.Call (.Name "sorted" _) [.Call (.Name "set" _) [_] [] _] [] _) _ _ _); refine we_sortedSet T.b_sorted T.b_set (h := ?_))
  | ((with_reducible show DL.WE _ (.Call (.Name "list" _) [.Call (.Attribute _ "values" _) [] [] _] [] _) _ _ _); refine we_listVals T.b_list (h := ?_))
  | ((with_reducible show DL.WE _ (.Call (.Name _ _) _ [] _) _ _ _); walk_at "call")
  | ((with_reducible show DL.WE _ (.Call (.Attribute _ "get" _) [_, _] [] _) _ _ _); refine we_dget2A (h := ?_))
  | ((with_reducible show DL.WE _ (.Call (.Attribute _ "append" _) _ [] _) _ _ _); refine we_lmA PySem.F.slot_list_append PySem.F.type_list_append (h := ?_))
  | ((with_reducible show DL.WE _ (.Call (.Attribute _ "extend" _) _ [] _) _ _ _); refine we_lmA PySem.F.slot_list_extend PySem.F.type_list_extend (h := ?_))
  | ((with_reducible show DL.WE _ (.Call (.Attribute _ "pop" _) (_ :: _) [] _) _ _ _); refine we_lmA PySem.F.slot_list_pop PySem.F.type_list_pop (h := ?_))
  | ((with_reducible show DL.WE _ (.BinOp _ _ _ _) _ _ _); refine we_bin ?_)
  | ((with_reducible show DL.WE _ (.Compare _ [_] _ _) _ _ _); refine we_cmp (h := ?_))
  | ((with_reducible show DL.WE _ (.Compare _ [_, _] _ _) _ _ _); refine we_chain (h := ?_))
  | ((with_reducible show DL.WE _ (.Subscript _ (.Slice _ _ none _) _) _ _ _); refine we_slice ?_)
  | ((with_reducible show DL.WE _ (.Subscript _ (.Slice none none _ _) _) _ _ _); first | refine we_revL ?_ | refine we_slice ?_)
  | ((with_reducible show DL.WE _ (.Subscript _ _ _) _ _ _); refine we_sub (h := ?_))
  | ((with_reducible show DL.WE _ (.Tuple _ _ _) _ _ _); refine we_tup ?_)
  | ((with_reducible show DL.WE _ (.UnaryOp .Not _ _) _ _ _); refine we_not ?_)
  | ((with_reducible show DL.WE _ (.UnaryOp _ _ _) _ _ _); refine we_un ?_)
  | ((with_reducible show DL.WE _ (.BoolOp _ [_] _) _ _ _); refine we_one ?_)
  | ((with_reducible show DL.WE _ (.BoolOp .And _ _) _ _ _); refine we_and ?_)
  | ((with_reducible show DL.WE _ (.BoolOp .Or _ _) _ _ _); refine we_or ?_)
  | ((with_reducible show DL.WE _ (.IfExp _ _ _ _) _ _ _); refine we_ifExp ?_)
  | ((with_reducible show DL.WE _ (.List [] _) _ _ _); refine we_lstM (wa_nil ⟨szb rfl, fun p hp => ?_⟩))
  | ((with_reducible show DL.WE _ (.List _ _) _ _ _); refine we_lst ?_)
  | ((with_reducible show DL.WE _ (.Dict [] [] _) _ _ _); refine we_dctM (fun p hp => ?_)))
set_option hygiene false in
local macro_rules | `(tactic| walk_at "S") => `(tactic| first
  | ((with_reducible show DL.WS _ (.Assign [.Name _ _] _ _) _ _ _); walk_at "set")
  | ((with_reducible show DL.WS _ (.Return (some _) _) _ _ _); refine ws_ret' ?_)
  | ((with_reducible show DL.WS _ (.Return _ _) _ _ _); refine ws_retN ?_)
  | ((with_reducible show DL.WS _ (.If _ _ _ _) _ _ _); refine ws_if ?_)
  | ((with_reducible show DL.WS _ (.Expr _ _) _ _ _); refine ws_expr (h := ?_))
  | ((with_reducible show DL.WS _ (.Assign [.Tuple _ _ _] _ _) _ _ _); refine ws_asg (h := ?_))
  | ((with_reducible show DL.WS _ (.Assign [.Subscript _ _ _] _ _) _ _ _); refine ws_putA (h := ?_))
  | ((with_reducible show DL.WS _ (.AugAssign (.Name _ _) _ _ _) _ _ _); walk_at "aug")
  | ((with_reducible show DL.WS _ (.AugAssign (.Subscript _ _ _) .Add _ _) _ _ _); refine ws_augLA (fun _ => ip_add) (h := ?_))
  | ((with_reducible show DL.WS _ (.For _ _ _ [] _) _ _ _); refine ws_for (h := ?_))
  | ((with_reducible show DL.WS _ (.Pass _) _ _ _); refine ws_pass ?_)
  | ((with_reducible show DL.WS _ (.Break _) _ _ _); refine ws_break ?_)
  | ((with_reducible show DL.WS _ (.Continue _) _ _ _); refine ws_cont ?_))
set_option hygiene false in
local macro_rules | `(tactic| walk_at "T") => `(tactic| first
  | ((with_reducible show DL.WT _ (.Compare _ [_] _ _) _ _ _); refine wt_cmp (h := ?_))
  | ((with_reducible show DL.WT _ (.Compare _ [_, _] _ _) _ _ _); refine wt_chain (h := ?_))
  | ((with_reducible show DL.WT _ (.UnaryOp .Not _ _) _ _ _); refine wt_not ?_)
  | ((with_reducible show DL.WT _ (.BoolOp _ _ _) _ _ _); refine wt_ww ?_)
  | refine wt_val (h := ?_))
set_option hygiene false in
local macro_rules | `(tactic| walk_at "O") => `(tactic| first
  | ((with_reducible show DL.WO _ (binaryOp .Add) _ _ _ _); first | refine wo_add ?_ | refine wo_cat (.inl rfl) (.inl rfl) (by walk_at "sz") ?_ | refine wo_cat (.inr ⟨_, rfl, by walk_at "mem"⟩) (.inl rfl) (by walk_at "sz") ?_ | refine wo_catT (by walk_at "sz") ?_)
  | ((with_reducible show DL.WO _ (binaryOp .Sub) _ _ _ _); refine wo_sub ?_)
  | ((with_reducible show DL.WO _ (binaryOp .Mult) _ _ _ _); refine wo_mul (by walk_at "side") ?_)
  | ((with_reducible show DL.WO _ (binaryOp .FloorDiv) _ _ _ _); refine wo_fdiv (by walk_at "side") ?_)
  | ((with_reducible show DL.WO _ (binaryOp .Mod) _ _ _ _); refine wo_mod (by walk_at "side") ?_)
  | ((with_reducible show DL.WO _ (compareOp .Lt) _ _ _ _); refine wo_lt ?_)
  | ((with_reducible show DL.WO _ (compareOp .LtE) _ _ _ _); refine wo_le ?_)
  | ((with_reducible show DL.WO _ (compareOp .Gt) _ _ _ _); refine wo_gt ?_)
  | ((with_reducible show DL.WO _ (compareOp .GtE) _ _ _ _); refine wo_ge ?_)
  | ((with_reducible show DL.WO _ (compareOp .Eq) _ _ _ _); first | refine wo_eqI ?_ | refine wo_eqS ?_ | refine wo_eqB ?_ | refine wo_eqIL ?_ | refine wo_eqIT ?_)
  | ((with_reducible show DL.WO _ (compareOp .NotEq) _ _ _ _); first | refine wo_neI ?_ | refine wo_neS ?_ | refine wo_neB ?_ | refine wo_neIL ?_ | refine wo_neIT ?_)
  | ((with_reducible show DL.WO _ (compareOp .Is) _ _ _ _); first | refine wo_isB ?_ | refine wo_isN true (.inl ⟨rfl, rfl⟩) ?_ | refine wo_isN false (.inr ⟨rfl, fun z => by cases z⟩) ?_)
  | ((with_reducible show DL.WO _ (compareOp .IsNot) _ _ _ _); first | refine wo_isnotB ?_ | refine wo_notN false (.inl ⟨rfl, rfl⟩) ?_ | refine wo_notN true (.inr ⟨rfl, fun z => by cases z⟩) ?_)
  | ((with_reducible show DL.WO _ (compareOp .In) _ _ _ _); first | refine wo_inT ?_ | refine wo_inL ?_)
  | ((with_reducible show DL.WO _ (compareOp .NotIn) _ _ _ _); first | refine wo_notinT ?_ | refine wo_notinL ?_)
  | ((with_reducible show DL.WO _ (binaryOp .Pow) _ _ _ _); refine wo_pow (by walk_at "side") ?_)
  | ((with_reducible show DL.WO _ (binaryOp .LShift) _ _ _ _); refine wo_shl (by walk_at "side") ?_))
set_option hygiene false in
local macro_rules | `(tactic| walk_at "C") => `(tactic| first
  | ((with_reducible show DL.WC _ (.builtin "len") [.tup (List.map _ _)] _ _); refine wc_len_tupM ?_)
  | ((with_reducible show DL.WC _ (.builtin "len") [.lst (List.map _ _)] _ _); refine wc_len_lstM ?_)
  | ((with_reducible show DL.WC _ (.builtin "len") [.loc _] _ _); refine wc_len_loc (by walk_at "mem") ?_)
  | ((with_reducible show DL.WC _ (.builtin "len") _ _ _); first | refine wc_len_tup ?_ | refine wc_len_lst ?_)
  | ((with_reducible show DL.WC _ (.builtin "all") _ _ _); first | refine wc_allT ?_ | refine wc_allM ?_)
  | ((with_reducible show DL.WC _ (.builtin "any") _ _ _); refine wc_anyM ?_)
  | ((with_reducible show DL.WC _ (.type "int") _ _ _); first | refine wc_int ?_ | refine wc_intB ?_)
  | ((with_reducible show DL.WC _ (.builtin "abs") _ _ _); refine wc_abs ?_)
  | ((with_reducible show DL.WC _ (.builtin "max") _ _ _); refine wc_max2 ?_)
  | ((with_reducible show DL.WC _ (.builtin "min") _ _ _); refine wc_min2 ?_)
  | ((with_reducible show DL.WC _ (.type "tuple") _ _ _); first | refine wc_tuple (.inl rfl) ?_ | refine wc_tuple (.inr (.inl rfl)) ?_ | refine wc_tuple (.inr (.inr ⟨_, rfl, by walk_at "mem"⟩)) ?_)
  | ((with_reducible show DL.WC _ (.type "list") _ _ _); first | refine wc_list (.inl rfl) ?_ | refine wc_list (.inr (.inl rfl)) ?_ | refine wc_list (.inr (.inr ⟨_, rfl, by walk_at "mem"⟩)) ?_)
  | ((with_reducible show DL.WC _ (.builtin "isinstance") _ _ _); first | refine wc_isi (k := true) rfl (by decide +kernel) ?_ | refine wc_isi (k := false) rfl (by decide +kernel) ?_))
set_option hygiene false in
local macro_rules | `(tactic| walk_at "Ix") => `(tactic| first
  | ((with_reducible show DL.WIx _ (.loc _) _ _ _); refine wix_loc (by walk_at "mem") (by walk_at "at") ?_)
  | ((with_reducible show DL.WIx _ (.lst _) _ _ _); refine wix_lst (by walk_at "at") ?_)
  | ((with_reducible show DL.WIx _ (.tup _) _ _ _); refine wix_tup (by walk_at "at") ?_)
  | refine wix_tup rfl ?_
  | refine wix_lst rfl ?_)
set_option hygiene false in
local macro_rules | `(tactic| walk_at "M") => `(tactic| first
  | ((with_reducible show DL.WM _ "list.append" _ _ _ _); refine wm_append (by walk_at "mem") (by walk_at "sz") ?_))
set_option hygiene false in
local macro_rules | `(tactic| walk_at "sz") => `(tactic| first
  | exact szb rfl
  | exact szl (by first | omega | (simp only [List.length_map, List.length_append, List.length_cons, List.length_nil, rangeD_length] at *; omega))
  | exact szle (by first | omega | (simp only [List.length_map, List.length_append, List.length_cons, List.length_nil, rangeD_length] at *; omega)))
set_option hygiene false in
local macro_rules | `(tactic| walk_at "pre") => `(tactic| first
  | (with_reducible assumption)
  | ((with_reducible show _ = _); first | rfl | walk_at "mem" | (simp; done))
  | ((with_reducible show _ ∧ _); first | exact ⟨rfl, rfl⟩ | exact ⟨by omega, by omega⟩)
  | ((with_reducible show (_ : Nat) ≤ _); first | omega | (simp only [List.length_map, List.length_append, List.length_cons, List.length_nil, rangeD_length]; omega))
  | ((with_reducible show (_ : Nat) < _); first | omega | (simp only [List.length_map, List.length_append, List.length_cons, List.length_nil, rangeD_length]; omega))
  | ((with_reducible show (_ : Int) ≤ _); first | omega | (simp only [List.length_map, List.length_append, List.length_cons, List.length_nil, rangeD_length]; omega))
  | ((with_reducible show (_ : Int) < _); first | omega | (simp only [List.length_map, List.length_append, List.length_cons, List.length_nil, rangeD_length]; omega) | (simp; done))
  | assumption
  | (simp; done))
set_option hygiene false in
local macro_rules | `(tactic| walk_at "I") => `(tactic| first
  | ((with_reducible show DL.WI _ _ (.Call (.Name "range" _) [_] [] _) _ _ _); refine wi_range1 T.b_range (h := ?_))
  | ((with_reducible show DL.WI _ _ (.Call (.Name "range" _) [_, _] [] _) _ _ _); refine wi_range2 T.b_range (h := ?_))
  | ((with_reducible show DL.WI _ _ (.Call (.Name "range" _) [_, _, _] [] _) _ _ _); refine wi_range3n T.b_range (h := ?_))
  | ((with_reducible show DL.WI _ _ (.Call (.Name "enumerate" _) [_] [] _) _ _ _); refine wi_enum T.b_enumerate (h := ?_))
  | ((with_reducible show DL.WI _ _ (.Call (.Name "zip" _) [_, _] [] _) _ _ _); refine wi_zip T.b_zip (h := ?_))
  | ((with_reducible show DL.WI _ _ (.Call _ _ _ _) _ _ _); refine wi_lst ?_))
/- one step -/
set_option hygiene false in
local macro_rules | `(tactic| walk_at "dl") => `(tactic| first
  | ((with_reducible show DL.WE _ _ _ _ _); walk_at "E")
  | ((with_reducible show DL.WSs _ _ _ _ _); first | refine wss_cons ?_ | refine wss_nil ?_)
  | ((with_reducible show DL.WS _ _ _ _ _); walk_at "S")
  | ((with_reducible show DL.WA _ _ _ _ _); first | refine wa_cons (h := ?_) | refine wa_nil ?_)
  | ((with_reducible show DL.WO _ _ _ _ _ _); walk_at "O")
  | ((with_reducible show DL.WT _ _ _ _ _); walk_at "T")
  | ((with_reducible show DL.WW _ _ _ _ _); first | refine ww_and ?_ | refine ww_or ?_ | refine ww_and1 ?_ | refine ww_or1 ?_)
  | ((with_reducible show DL.WC _ _ _ _ _); walk_at "C")
  | ((with_reducible show DL.WIx _ _ _ _ _); walk_at "Ix")
  | ((with_reducible show DL.WM _ _ _ _ _ _); walk_at "M")
  | ((with_reducible show DL.WU _ _ _ _ _); refine wu_neg ?_)
  | ((with_reducible show DL.WGi _ _ (.Name _ _) _ _ _ _); walk_at "gnm")
  | ((with_reducible show DL.WGi _ _ _ _ _ _ _); refine wg_tup _ (h := ?_))
  | ((with_reducible show DL.WGs _ _ _ _ _ _ _); first | refine wgs_cons (h := ?_) | refine wgs_nil ?_)
  | ((with_reducible show DL.WI _ _ _ _ _ _); walk_at "I")
  | ((with_reducible show DL.WTs _ _ _ _ _); first | refine wts_one ?_ | refine wts_nil ?_)
  | ((with_reducible show DL.WP _ _ _ _ _); first | refine wp_none ?_ | refine wp_some ?_)
  | ((with_reducible show DL.WSl _ _ _ _ _ _); first | refine wsl_tup ?_ | refine wsl_lst ?_ | refine wsl_loc (by walk_at "mem") ?_)
  | ((with_reducible show _ = true → DL.WE _ _ _ _ _); intro hk)
  | ((with_reducible show (_ = _ → _) ∧ (_ = _ → _)); walk_at "if")
  | ((with_reducible refine ⟨_, ixN_nat ?_ ?_, ?_⟩); (focus omega); (focus first | omega | (simp only [List.length_map, List.length_set, List.length_append] at *; omega)))
  | refine ⟨_, rfl, ?_⟩
  | refine ⟨szb rfl, ?_⟩
  | refine ⟨.inl _, rfl, ?_⟩
  | refine ⟨.inr _, rfl, ?_⟩
  | refine ⟨_, .inl (by walk_at "mem"), ?_⟩
  | refine ⟨_, .inr ⟨_, _, by walk_at "mem"⟩, ?_⟩
  | refine ⟨_, .inr ⟨_, rfl, by walk_at "mem"⟩, ?_⟩
  | refine ⟨_, .inl rfl, ?_⟩
  | refine ⟨_, .inr (.inl rfl), ?_⟩
  | refine ⟨_, .inr rfl, ?_⟩
  | ((with_reducible show _ ∧ _); refine ⟨by walk_at "pre", ?_⟩)
  | refine ⟨_, by walk_at "mem", ?_⟩
  | refine ⟨_, _, rfl, ?_⟩
  | refine ⟨_, _, _, rfl, ?_⟩
  | refine ⟨_, _, _, _, rfl, ?_⟩
  | refine ⟨_, _, _, _, _, rfl, ?_⟩
  | refine ⟨_, _, _, _, _, _, rfl, ?_⟩
  | refine ⟨_, _, _, _, _, _, _, rfl, ?_⟩
  | ((with_reducible show (_ : Mem) = _); rfl)
  | fail "stuck")
/- one step, within a statement -/
set_option hygiene false in
local macro_rules | `(tactic| walk_at "dlE") => `(tactic| first
  | ((with_reducible show DL.WE _ _ _ _ _); walk_at "E")
  | ((with_reducible show DL.WS _ _ _ _ _); walk_at "S")
  | ((with_reducible show DL.WA _ _ _ _ _); first | refine wa_cons (h := ?_) | refine wa_nil ?_)
  | ((with_reducible show DL.WO _ _ _ _ _ _); walk_at "O")
  | ((with_reducible show DL.WT _ _ _ _ _); walk_at "T")
  | ((with_reducible show DL.WW _ _ _ _ _); first | refine ww_and ?_ | refine ww_or ?_ | refine ww_and1 ?_ | refine ww_or1 ?_)
  | ((with_reducible show DL.WC _ _ _ _ _); walk_at "C")
  | ((with_reducible show DL.WIx _ _ _ _ _); walk_at "Ix")
  | ((with_reducible show DL.WM _ _ _ _ _ _); walk_at "M")
  | ((with_reducible show DL.WU _ _ _ _ _); refine wu_neg ?_)
  | ((with_reducible show DL.WGi _ _ (.Name _ _) _ _ _ _); walk_at "gnm")
  | ((with_reducible show DL.WGi _ _ _ _ _ _ _); refine wg_tup _ (h := ?_))
  | ((with_reducible show DL.WGs _ _ _ _ _ _ _); first | refine wgs_cons (h := ?_) | refine wgs_nil ?_)
  | ((with_reducible show DL.WI _ _ _ _ _ _); walk_at "I")
  | ((with_reducible show DL.WTs _ _ _ _ _); first | refine wts_one ?_ | refine wts_nil ?_)
  | ((with_reducible show DL.WP _ _ _ _ _); first | refine wp_none ?_ | refine wp_some ?_)
  | ((with_reducible show DL.WSl _ _ _ _ _ _); first | refine wsl_tup ?_ | refine wsl_lst ?_ | refine wsl_loc (by walk_at "mem") ?_)
  | ((with_reducible show _ = true → DL.WE _ _ _ _ _); intro hk)
  | ((with_reducible show (_ = _ → _) ∧ (_ = _ → _)); walk_at "if")
  | ((with_reducible refine ⟨_, ixN_nat ?_ ?_, ?_⟩); (focus omega); (focus first | omega | (simp only [List.length_map, List.length_set, List.length_append] at *; omega)))
  | refine ⟨_, rfl, ?_⟩
  | refine ⟨szb rfl, ?_⟩
  | refine ⟨.inl _, rfl, ?_⟩
  | refine ⟨.inr _, rfl, ?_⟩
  | refine ⟨_, .inl (by walk_at "mem"), ?_⟩
  | refine ⟨_, .inr ⟨_, _, by walk_at "mem"⟩, ?_⟩
  | refine ⟨_, .inr ⟨_, rfl, by walk_at "mem"⟩, ?_⟩
  | refine ⟨_, .inl rfl, ?_⟩
  | refine ⟨_, .inr (.inl rfl), ?_⟩
  | refine ⟨_, .inr rfl, ?_⟩
  | ((with_reducible show _ ∧ _); refine ⟨by walk_at "pre", ?_⟩)
  | refine ⟨_, by walk_at "mem", ?_⟩
  | refine ⟨_, _, rfl, ?_⟩
  | refine ⟨_, _, _, rfl, ?_⟩
  | refine ⟨_, _, _, _, rfl, ?_⟩
  | refine ⟨_, _, _, _, _, rfl, ?_⟩
  | refine ⟨_, _, _, _, _, _, rfl, ?_⟩
  | refine ⟨_, _, _, _, _, _, _, rfl, ?_⟩
  | ((with_reducible show (_ : Mem) = _); rfl)
  | fail "stuck")
set_option hygiene false in
local macro_rules | `(tactic| walk_at "goE") => `(tactic| repeat' walk_at "dlE")
set_option hygiene false in
local macro_rules | `(tactic| walk_at "go") => `(tactic| repeat' walk_at "dl")
set_option hygiene false in
local macro_rules | `(tactic| walk_at "nx") => `(tactic| ((try rw [Mem.upd_upd]); walk_at "go"))
set_option hygiene false in
local macro_rules | `(tactic| walk_at "call") => `(tactic| ((with_reducible show DL.WE _ (.Call (.Name "_law_begin" _) _ [] _) _ _ _); refine we_call (ok_begin T) (h := ?_)))
set_option hygiene false in
local macro_rules | `(tactic| walk_at "call") => `(tactic| ((with_reducible show DL.WE _ (.Call (.Name "_law_draw" _) _ [] _) _ _ _); refine we_call (ok_draw T) (h := ?_)))
set_option hygiene false in
local macro_rules | `(tactic| walk_at "call") => `(tactic| ((with_reducible show DL.WE _ (.Call (.Name "_law_pick" _) _ [] _) _ _ _); refine we_call (ok_pick T) (h := ?_)))
set_option hygiene false in
local macro_rules | `(tactic| walk_at "call") => `(tactic| ((with_reducible show DL.WE _ (.Call (.Name "_law_is_int" _) _ [] _) _ _ _); refine we_call (ok_is_int T) (h := ?_)))
set_option hygiene false in
local macro_rules | `(tactic| walk_at "call") => `(tactic| ((with_reducible show DL.WE _ (.Call (.Name "_law_is_ints" _) _ [] _) _ _ _); refine we_call (ok_is_ints T) (h := ?_)))
set_option hygiene false in
local macro_rules | `(tactic| walk_at "call") => `(tactic| ((with_reducible show DL.WE _ (.Call (.Name "is_whole" _) _ [] _) _ _ _); refine we_call (ok_is_whole T) (h := ?_)))
set_option hygiene false in
local macro_rules | `(tactic| walk_at "call") => `(tactic| ((with_reducible show DL.WE _ (.Call (.Name "allowed_at" _) _ [] _) _ _ _); refine we_call (ok_allowed_at T) (h := ?_)))
set_option hygiene false in
local macro_rules | `(tactic| walk_at "call") => `(tactic| ((with_reducible show DL.WE _ (.Call (.Name "reach_of" _) _ [] _) _ _ _); refine we_call (ok_reach_of T) (h := ?_)))
set_option hygiene false in
local macro_rules | `(tactic| walk_at "call") => `(tactic| ((with_reducible show DL.WE _ (.Call (.Name "fewest_tellings" _) _ [] _) _ _ _); refine we_call (ok_fewest_tellings T) (h := ?_)))
set_option hygiene false in
local macro_rules | `(tactic| walk_at "call") => `(tactic| ((with_reducible show DL.WE _ (.Call (.Name "is_right_plan" _) _ [] _) _ _ _); refine we_call (ok_is_right_plan T) (h := ?_)))
set_option hygiene false in
local macro_rules | `(tactic| walk_at "call") => `(tactic| ((with_reducible show DL.WE _ (.Call (.Name "are_right_bars" _) _ [] _) _ _ _); refine we_call (ok_are_right_bars T) (h := ?_)))
set_option hygiene false in
local macro_rules | `(tactic| walk_at "call") => `(tactic| ((with_reducible show DL.WE _ (.Call (.Name "judge_tellings" _) _ [] _) _ _ _); refine we_call (ok_judge_tellings T) (h := ?_)))
set_option hygiene false in
local macro_rules | `(tactic| walk_at "call") => `(tactic| ((with_reducible show DL.WE _ (.Call (.Name "_law_given" _) _ [] _) _ _ _); refine we_call (ok_given T) (h := ?_)))
set_option hygiene false in
local macro_rules | `(tactic| walk_at "call") => `(tactic| ((with_reducible show DL.WE _ (.Call (.Name "_law_plan_is_right" _) _ [] _) _ _ _); refine we_call (ok_plan_is_right T) (h := ?_)))
set_option hygiene false in
local macro_rules | `(tactic| walk_at "call") => `(tactic| ((with_reducible show DL.WE _ (.Call (.Name "_law_end" _) _ [] _) _ _ _); refine we_call (ok_end T) (h := ?_)))
set_option hygiene false in
local macro_rules | `(tactic| walk_at "call") => `(tactic| ((with_reducible show DL.WE _ (.Call (.Name "_law_bars_are_right" _) _ [] _) _ _ _); refine we_call (ok_bars_are_right T) (h := ?_)))
set_option hygiene false in
local macro_rules | `(tactic| walk_at "call") => `(tactic| ((with_reducible show DL.WE _ (.Call (.Name "_law_pair_is_right" _) _ [] _) _ _ _); refine we_call (ok_pair_is_right T) (h := ?_)))
set_option hygiene false in
local macro_rules | `(tactic| walk_at "call") => `(tactic| ((with_reducible show DL.WE _ (.Call (.Name "_law_is_pair" _) _ [] _) _ _ _); refine we_call (ok_is_pair T) (h := ?_)))
set_option hygiene false in
local macro_rules | `(tactic| walk_at "call") => `(tactic| ((with_reducible show DL.WE _ (.Call (.Name "_law_values" _) _ [] _) _ _ _); refine we_call (ok_values T) (h := ?_)))
set_option hygiene false in
local macro_rules | `(tactic| walk_at "call") => `(tactic| ((with_reducible show DL.WE _ (.Call (.Name "_law_slack" _) _ [] _) _ _ _); refine we_call (ok_slack T) (h := ?_)))
set_option hygiene false in
local macro_rules | `(tactic| walk_at "call") => `(tactic| ((with_reducible show DL.WE _ (.Call (.Name "_law_told_at" _) _ [] _) _ _ _); refine we_call (ok_told_at T) (h := ?_)))
set_option hygiene false in
local macro_rules | `(tactic| walk_at "call") => `(tactic| ((with_reducible show DL.WE _ (.Call (.Name "_law_costs" _) _ [] _) _ _ _); refine we_call (ok_costs T) (h := ?_)))
set_option hygiene false in
local macro_rules | `(tactic| walk_at "call") => `(tactic| ((with_reducible show DL.WE _ (.Call (.Name "_law_fewest" _) _ [] _) _ _ _); refine we_call (ok_fewest T) (h := ?_)))
set_option hygiene false in
local macro_rules | `(tactic| walk_at "call") => `(tactic| ((with_reducible show DL.WE _ (.Call (.Name "_law_some_plan" _) _ [] _) _ _ _); refine we_call (ok_some_plan T) (h := ?_)))
set_option hygiene false in
local macro_rules | `(tactic| walk_at "call") => `(tactic| ((with_reducible show DL.WE _ (.Call (.Name "_law_some_bars" _) _ [] _) _ _ _); refine we_call (ok_some_bars T) (h := ?_)))
set_option hygiene false in
local macro_rules | `(tactic| walk_at "call") => `(tactic| ((with_reducible show DL.WE _ (.Call (.Name "_law_spoilt" _) _ [] _) _ _ _); refine we_call (ok_spoilt T) (h := ?_)))
theorem pr_nb (l : Tl) : D.nbs 1 (l.map pr) = true := nbs_of fun d hd => by
  obtain ⟨x, _, rfl⟩ := List.mem_map.mp hd
  simp [pr, D.nb, D.nbs]
theorem encF_nb (ts : Tl) (bs : List Int) : (encF ts bs).nb 3 = true := by
  unfold encF
  have h1 : D.nbs 1 (iD bs) = true := nbs_ints 1 bs
  simp [D.nb, D.nbs, pr_nb, h1]
theorem prL_nb (ts : Tl) : (D.lst (ts.map pr)).nb 2 = true := by simp [D.nb, pr_nb]
theorem pr_inj {a b : Tl} (h : a.map pr = b.map pr) : a = b := by
  refine (List.map_inj_right fun x y e => ?_).mp h
  unfold pr at e
  injection e with e
  injection e with e1 e2
  injection e2 with e2 _
  injection e1 with e1
  injection e2 with e2
  exact Prod.ext e1 e2
def chg (vs : List Int) (i : Nat) : Bool := decide (i = 0 ∨ vs.getD i 0 ≠ vs.getD (i - 1) 0)
theorem win0 {vs : List Int} {m : Nat} {v : Int} : v ∈ win vs 0 m ↔ vs[m]? = some v := by
  rw [mem_win]
  constructor
  · rintro ⟨j, h1, h2, h3⟩; rwa [show j = m by omega] at h3
  · exact fun h => ⟨m, by omega, Nat.le_refl _, h⟩
theorem gr0 {vs : List Int} : ∀ (k x : Nat), vs.length ≤ x + k → (x < vs.length → chg vs x = true) → gr vs 0 k x = ((List.range' x (vs.length - x)).filter (chg vs)).map fun i : Nat => ((i : Int), vs.getD i 0)
  | 0, x, hk, hc => by rw [show vs.length - x = 0 by omega]; rfl
  | k + 1, x, hk, hc => by
    unfold gr
    by_cases h : x < vs.length
    · rw [if_pos h]
      obtain ⟨b1, b2, b3⟩ := bestv_spec (s := 0) h
      have lt := best_lt (s := 0) h
      have hv : vs[x]? = some (bestv vs 0 x) := win0.mp b1
      have ev : bestv vs 0 x = vs.getD x 0 := (getI hv).symm
      generalize hb : best vs 0 x = b at *
      have hin : ∀ j, x ≤ j → j < b → vs.getD j 0 = bestv vs 0 x := fun j h1 h2 => getI (win0.mp (reach_in h1 (by omega)))
      have hout : b < vs.length → vs.getD b 0 ≠ bestv vs 0 x := fun hl e => by
        have h1 := reach_out (vs := vs) (s := 0) (m := x) (v := bestv vs 0 x) (by omega)
        rw [b2] at h1
        exact h1 (win0.mpr (by rw [getI' hl, e]))
      have hcb : b < vs.length → chg vs b = true := fun hl => by
        refine decide_eq_true (.inr ?_)
        rw [hin (b - 1) (by omega) (by omega)]
        exact hout hl
      rw [gr0 k b (by omega) hcb]
      have e1 : List.range' x (vs.length - x) = x :: (List.range' (x + 1) (b - (x + 1)) ++ List.range' b (vs.length - b)) := by
        rw [show vs.length - x = (vs.length - x - 1) + 1 by omega, List.range'_succ]
        congr 1
        have := List.range'_append (s := x + 1) (m := b - (x + 1)) (n := vs.length - b) (step := 1)
        rw [show x + 1 + 1 * (b - (x + 1)) = b by omega, show b - (x + 1) + (vs.length - b) = vs.length - x - 1 by omega] at this
        exact this.symm
      have e2 : (List.range' (x + 1) (b - (x + 1))).filter (chg vs) = [] := by
        rw [List.filter_eq_nil_iff]
        intro j hj
        obtain ⟨h1, h2⟩ := List.mem_range'_1.mp hj
        unfold chg
        rw [hin j (by omega) (by omega), hin (j - 1) (by omega) (by omega)]
        simp; omega
      rw [e1, List.filter_cons_of_pos (hc h), List.filter_append, e2, List.nil_append, List.map_cons, ev]
    · rw [if_neg h, show vs.length - x = 0 by omega]; rfl
theorem greedy0 (vs : List Int) : greedy vs 0 = ((List.range vs.length).filter (chg vs)).map fun i : Nat => ((i : Int), vs.getD i 0) := by
  unfold greedy
  rw [gr0 _ 0 (by omega) (fun _ => decide_eq_true (.inl rfl)), Nat.sub_zero, List.range_eq_range']
def sp_judged : DSp := fun ds μ Q => ∃ (vs : List Int) (s : Nat) (ts : Tl) (bs : List Int), ds = [.tup (iD vs), .int s, encF ts bs] ∧ vs.length ≤ 300 ∧ ts.length ≤ 1000 ∧ bs.length ≤ 1000 ∧ Q (.bl true) μ
theorem sc_judged : FnScope ["values", "slack", "pair", "answer"] ["values", "slack", "pair"] (defScope s_judged) := ⟨rfl, rfl, rfl, by decide +kernel, rfl, by decide +kernel, by decide +kernel⟩
section
set_option hygiene false in
local macro_rules | `(tactic| walk_at "nm") => `(tactic| first | ((with_reducible show DL.WE _ (.Name "values" _) _ _ _); refine we_name 0 (q := ?_)) | ((with_reducible show DL.WE _ (.Name "slack" _) _ _ _); refine we_name 1 (q := ?_)) | ((with_reducible show DL.WE _ (.Name "pair" _) _ _ _); refine we_name 2 (q := ?_)) | ((with_reducible show DL.WE _ (.Name "answer" _) _ _ _); refine we_name 3 (q := ?_)))
set_option hygiene false in
local macro_rules | `(tactic| walk_at "set") => `(tactic| first | ((with_reducible show DL.WS _ (.Assign [.Name "values" _] _ _) _ _ _); refine ws_set 0 (h := ?_)) | ((with_reducible show DL.WS _ (.Assign [.Name "slack" _] _ _) _ _ _); refine ws_set 1 (h := ?_)) | ((with_reducible show DL.WS _ (.Assign [.Name "pair" _] _ _) _ _ _); refine ws_set 2 (h := ?_)) | ((with_reducible show DL.WS _ (.Assign [.Name "answer" _] _ _) _ _ _); refine ws_set 3 (h := ?_)))
set_option hygiene false in
local macro_rules | `(tactic| walk_at "gnm") => `(tactic| first | ((with_reducible show DL.WGi _ _ (.Name "values" _) _ _ _ _); refine wg_name 0 (q := ?_)) | ((with_reducible show DL.WGi _ _ (.Name "slack" _) _ _ _ _); refine wg_name 1 (q := ?_)) | ((with_reducible show DL.WGi _ _ (.Name "pair" _) _ _ _ _); refine wg_name 2 (q := ?_)) | ((with_reducible show DL.WGi _ _ (.Name "answer" _) _ _ _ _); refine wg_name 3 (q := ?_)))
set_option maxHeartbeats 1000000 in
theorem ok_judged (T : Txt K mg) : FnD P w K mg base 5 "_law_judged" sp_judged := by
  refine TF.ok 4 T.f_judged sc_judged (fun ds μ Q ⟨_, _, _, _, h, _⟩ => by rw [h]; rfl) fun ds μ Q h => ?_
  obtain ⟨vs, s, ts, bs, rfl, hv, ht, hb, q⟩ := h
  walk_at "go"
  intro b1 hb1
  walk_at "go"
  intro b2 hb2
  walk_at "go"
  have e : b1 = b2 := by rw [Bool.eq_iff_iff, hb1, hb2]
  subst e
  rw [beq_self_eq_true]
  exact q
end
set_option hygiene false in
local macro_rules | `(tactic| walk_at "call") => `(tactic| ((with_reducible show DL.WE _ (.Call (.Name "_law_judged" _) _ [] _) _ _ _); refine we_call (ok_judged T) (h := ?_)))
end K80
namespace K80
open PySem L2 DL Tell
variable {P : Program} {w : World} {K : PySem.W.Frag} {mg : Str → Option Value} {base : Heap}
set_option hygiene false in
local macro_rules | `(tactic| walk_at "side") => `(tactic| first
  | (with_reducible assumption)
  | rfl
  | omega
  | decide
  | exact ⟨by omega, by omega⟩
  | exact ⟨by decide, by decide⟩
  | exact .inl ⟨by decide, by decide⟩
  | exact .inr ⟨by decide, by decide⟩
  | exact .inl ⟨by omega, by omega⟩
  | exact .inr ⟨by omega, by omega⟩
  | exact ⟨by decide, by decide, by decide⟩
  | exact szb rfl
  | fail "side")
set_option hygiene false in
local macro_rules | `(tactic| walk_at "ne") => `(tactic| first
  | assumption
  | exact Ne.symm (by assumption)
  | exact ne_fresh (by assumption) (by assumption)
  | exact Ne.symm (ne_fresh (by assumption) (by assumption)))
/- what stands at an address -/
set_option hygiene false in
local macro_rules | `(tactic| walk_at "mem") => `(tactic| first
  | assumption
  | exact Mem.upd_same
  | exact (Mem.upd_ne (by walk_at "ne")).trans (by walk_at "mem"))
/- an item of a list -/
set_option hygiene false in
local macro_rules | `(tactic| walk_at "at") => `(tactic| first
  | rfl
  | exact atI_getI (by omega) (by omega)
  | exact atI_lastI (by first | omega | (simp only [List.length_map] at *; omega))
  | exact atI_lastM _ (by assumption)
  | exact atI_mapI _ (by omega) (by assumption)
  | exact atI_mapN _ (by assumption)
  | exact atI_get _ (by first | omega | (simp only [List.length_map, List.length_set] at *; omega)) (by first | omega | (simp only [List.length_map, List.length_set] at *; omega)))
/- tests that are decided or split -/
set_option hygiene false in
local macro_rules | `(tactic| walk_at "if") => `(tactic| first
  | refine if_tt ?_
  | refine if_ff ?_
  | refine if_f_tt ?_
  | refine if_f_ff ?_
  | (refine if_dec (fun hk => ?_) (fun hk => ?_))
  | (refine if_ndec (fun hk => ?_) (fun hk => ?_))
  | (refine if_f_dec (fun hk => ?_) (fun hk => ?_))
  | (refine if_f_ndec (fun hk => ?_) (fun hk => ?_))
  | (refine if_nb (fun hk => ?_) (fun hk => ?_))
  | (refine if_f_nb (fun hk => ?_) (fun hk => ?_))
  | (refine And.intro (fun hk => ?_) (fun hk => ?_)))
set_option hygiene false in
local macro_rules | `(tactic| walk_at "call") => `(tactic| first
  | ((with_reducible show DL.WE _ (.Call (.Name "len" _) _ [] _) _ _ _); refine we_callB bt_len T.b_len (h := ?_))
  | ((with_reducible show DL.WE _ (.Call (.Name "abs" _) _ [] _) _ _ _); refine we_callB bt_abs T.b_abs (h := ?_))
  | ((with_reducible show DL.WE _ (.Call (.Name "min" _) _ [] _) _ _ _); refine we_callB bt_min T.b_min (h := ?_))
  | ((with_reducible show DL.WE _ (.Call (.Name "max" _) _ [] _) _ _ _); refine we_callB bt_max T.b_max (h := ?_))
  | ((with_reducible show DL.WE _ (.Call (.Name "sum" _) _ [] _) _ _ _); refine we_callB bt_sum T.b_sum (h := ?_))
  | ((with_reducible show DL.WE _ (.Call (.Name "all" _) _ [] _) _ _ _); refine we_callB bt_all T.b_all (h := ?_))
  | ((with_reducible show DL.WE _ (.Call (.Name "any" _) _ [] _) _ _ _); refine we_callB bt_any T.b_any (h := ?_))
  | ((with_reducible show DL.WE _ (.Call (.Name "sorted" _) _ [] _) _ _ _); refine we_callB bt_sorted T.b_sorted (h := ?_))
  | ((with_reducible show DL.WE _ (.Call (.Name "isinstance" _) _ [] _) _ _ _); refine we_callB bt_isinstance T.b_isinstance (h := ?_))
  | ((with_reducible show DL.WE _ (.Call (.Name "int" _) _ [] _) _ _ _); refine we_callT bt_int T.b_int (h := ?_))
  | ((with_reducible show DL.WE _ (.Call (.Name "list" _) _ [] _) _ _ _); refine we_callT bt_list T.b_list (h := ?_))
  | ((with_reducible show DL.WE _ (.Call (.Name "tuple" _) _ [] _) _ _ _); refine we_callT bt_tuple T.b_tuple (h := ?_))
  | ((with_reducible show DL.WE _ (.Call (.Name "bool" _) _ [] _) _ _ _); refine we_callT bt_bool T.b_bool (h := ?_))
  | ((with_reducible show DL.WE _ (.Call (.Name "set" _) _ [] _) _ _ _); refine we_callT bt_set T.b_set (h := ?_)))
set_option hygiene false in
local macro_rules | `(tactic| walk_at "ty") => `(tactic| first
  | ((with_reducible show DL.WE _ (.Name "int" _) _ _ _); refine we_type rfl T.b_int bt_int (by decide) (by decide) ?_)
  | ((with_reducible show DL.WE _ (.Name "bool" _) _ _ _); refine we_type rfl T.b_bool bt_bool (by decide) (by decide) ?_)
  | ((with_reducible show DL.WE _ (.Name "tuple" _) _ _ _); refine we_type rfl T.b_tuple bt_tuple (by decide) (by decide) ?_)
  | ((with_reducible show DL.WE _ (.Name "list" _) _ _ _); refine we_type rfl T.b_list bt_list (by decide) (by decide) ?_))
set_option hygiene false in
local macro_rules | `(tactic| walk_at "E") => `(tactic| first
  | ((with_reducible show DL.WE _ (.Name _ _) _ _ _); first | walk_at "nm" | walk_at "ty")
  | ((with_reducible show DL.WE _ (.Constant _ _ _) _ _ _); first | refine we_int ?_ | refine we_str ?_ | refine we_bl ?_ | refine we_non ?_)
  | ((with_reducible show DL.WE _ (.Call (.Name "sorted" _) [.Call (.Name "set" _) [_] [] _] [] _) _ _ _); refine we_sortedSet T.b_sorted T.b_set (h := ?_))
  | ((with_reducible show DL.WE _ (.Call (.Name "list" _) [.Call (.Attribute _ "values" _) [] [] _] [] _) _ _ _); refine we_listVals T.b_list (h := ?_))
  | ((with_reducible show DL.WE _ (.Call (.Name _ _) _ [] _) _ _ _); walk_at "call")
  | ((with_reducible show DL.WE _ (.Call (.Attribute _ "get" _) [_, _] [] _) _ _ _); refine we_dget2A (h := ?_))
  | ((with_reducible show DL.WE _ (.Call (.Attribute _ "append" _) _ [] _) _ _ _); refine we_lmA PySem.F.slot_list_append PySem.F.type_list_append (h := ?_))
  | ((with_reducible show DL.WE _ (.Call (.Attribute _ "extend" _) _ [] _) _ _ _); refine we_lmA PySem.F.slot_list_extend PySem.F.type_list_extend (h := ?_))
  | ((with_reducible show DL.WE _ (.Call (.Attribute _ "pop" _) (_ :: _) [] _) _ _ _); refine we_lmA PySem.F.slot_list_pop PySem.F.type_list_pop (h := ?_))
  | ((with_reducible show DL.WE _ (.BinOp _ _ _ _) _ _ _); refine we_bin ?_)
  | ((with_reducible show DL.WE _ (.Compare _ [_] _ _) _ _ _); refine we_cmp (h := ?_))
  | ((with_reducible show DL.WE _ (.Compare _ [_, _] _ _) _ _ _); refine we_chain (h := ?_))
  | ((with_reducible show DL.WE _ (.Subscript _ (.Slice _ _ none _) _) _ _ _); refine we_slice ?_)
  | ((with_reducible show DL.WE _ (.Subscript _ (.Slice none none _ _) _) _ _ _); first | refine we_revL ?_ | refine we_slice ?_)
  | ((with_reducible show DL.WE _ (.Subscript _ _ _) _ _ _); refine we_sub (h := ?_))
  | ((with_reducible show DL.WE _ (.Tuple _ _ _) _ _ _); refine we_tup ?_)
  | ((with_reducible show DL.WE _ (.UnaryOp .Not _ _) _ _ _); refine we_not ?_)
  | ((with_reducible show DL.WE _ (.UnaryOp _ _ _) _ _ _); refine we_un ?_)
  | ((with_reducible show DL.WE _ (.BoolOp _ [_] _) _ _ _); refine we_one ?_)
  | ((with_reducible show DL.WE _ (.BoolOp .And _ _) _ _ _); refine we_and ?_)
  | ((with_reducible show DL.WE _ (.BoolOp .Or _ _) _ _ _); refine we_or ?_)
  | ((with_reducible show DL.WE _ (.IfExp _ _ _ _) _ _ _); refine we_ifExp ?_)
  | ((with_reducible show DL.WE _ (.List [] _) _ _ _); refine we_lstM (wa_nil ⟨szb rfl, fun p hp => ?_⟩))
  | ((with_reducible show DL.WE _ (.List _ _) _ _ _); refine we_lst ?_)
  | ((with_reducible show DL.WE _ (.Dict [] [] _) _ _ _); refine we_dctM (fun p hp => ?_)))
set_option hygiene false in
local macro_rules | `(tactic| walk_at "S") => `(tactic| first
  | ((with_reducible show DL.WS _ (.Assign [.Name _ _] _ _) _ _ _); walk_at "set")
  | ((with_reducible show DL.WS _ (.Return (some _) _) _ _ _); refine ws_ret' ?_)
  | ((with_reducible show DL.WS _ (.Return _ _) _ _ _); refine ws_retN ?_)
  | ((with_reducible show DL.WS _ (.If _ _ _ _) _ _ _); refine ws_if ?_)
  | ((with_reducible show DL.WS _ (.Expr _ _) _ _ _); refine ws_expr (h := ?_))
  | ((with_reducible show DL.WS _ (.Assign [.Tuple _ _ _] _ _) _ _ _); refine ws_asg (h := ?_))
  | ((with_reducible show DL.WS _ (.Assign [.Subscript _ _ _] _ _) _ _ _); refine ws_putA (h := ?_))
  | ((with_reducible show DL.WS _ (.AugAssign (.Name _ _) _ _ _) _ _ _); walk_at "aug")
  | ((with_reducible show DL.WS _ (.AugAssign (.Subscript _ _ _) .Add _ _) _ _ _); refine ws_augLA (fun _ => ip_add) (h := ?_))
  | ((with_reducible show DL.WS _ (.For _ _ _ [] _) _ _ _); refine ws_for (h := ?_))
  | ((with_reducible show DL.WS _ (.Pass _) _ _ _); refine ws_pass ?_)
  | ((with_reducible show DL.WS _ (.Break _) _ _ _); refine ws_break ?_)
  | ((with_reducible show DL.WS _ (.Continue _) _ _ _); refine ws_cont ?_))
set_option hygiene false in
local macro_rules | `(tactic| walk_at "T") => `(tactic| first
  | ((with_reducible show DL.WT _ (.Compare _ [_] _ _) _ _ _); refine wt_cmp (h := ?_))
  | ((with_reducible show DL.WT _ (.Compare _ [_, _] _ _) _ _ _); refine wt_chain (h := ?_))
  | ((with_reducible show DL.WT _ (.UnaryOp .Not _ _) _ _ _); refine wt_not ?_)
  | ((with_reducible show DL.WT _ (.BoolOp _ _ _) _ _ _); refine wt_ww ?_)
  | refine wt_val (h := ?_))
set_option hygiene false in
local macro_rules | `(tactic| walk_at "O") => `(tactic| first
  | ((with_reducible show DL.WO _ (binaryOp .Add) _ _ _ _); first | refine wo_add ?_ | refine wo_cat (.inl rfl) (.inl rfl) (by walk_at "sz") ?_ | refine wo_cat (.inr ⟨_, rfl, by walk_at "mem"⟩) (.inl rfl) (by walk_at "sz") ?_ | refine wo_catT (by walk_at "sz") ?_)
  | ((with_reducible show DL.WO _ (binaryOp .Sub) _ _ _ _); refine wo_sub ?_)
  | ((with_reducible show DL.WO _ (binaryOp .Mult) _ _ _ _); refine wo_mul (by walk_at "side") ?_)
  | ((with_reducible show DL.WO _ (binaryOp .FloorDiv) _ _ _ _); refine wo_fdiv (by walk_at "side") ?_)
  | ((with_reducible show DL.WO _ (binaryOp .Mod) _ _ _ _); refine wo_mod (by walk_at "side") ?_)
  | ((with_reducible show DL.WO _ (compareOp .Lt) _ _ _ _); refine wo_lt ?_)
  | ((with_reducible show DL.WO _ (compareOp .LtE) _ _ _ _); refine wo_le ?_)
  | ((with_reducible show DL.WO _ (compareOp .Gt) _ _ _ _); refine wo_gt ?_)
  | ((with_reducible show DL.WO _ (compareOp .GtE) _ _ _ _); refine wo_ge ?_)
  | ((with_reducible show DL.WO _ (compareOp .Eq) _ _ _ _); first | refine wo_eqI ?_ | refine wo_eqS ?_ | refine wo_eqB ?_ | refine wo_eqIL ?_ | refine wo_eqIT ?_)
  | ((with_reducible show DL.WO _ (compareOp .NotEq) _ _ _ _); first | refine wo_neI ?_ | refine wo_neS ?_ | refine wo_neB ?_ | refine wo_neIL ?_ | refine wo_neIT ?_)
  | ((with_reducible show DL.WO _ (compareOp .Is) _ _ _ _); first | refine wo_isB ?_ | refine wo_isN true (.inl ⟨rfl, rfl⟩) ?_ | refine wo_isN false (.inr ⟨rfl, fun z => by cases z⟩) ?_)
  | ((with_reducible show DL.WO _ (compareOp .IsNot) _ _ _ _); first | refine wo_isnotB ?_ | refine wo_notN false (.inl ⟨rfl, rfl⟩) ?_ | refine wo_notN true (.inr ⟨rfl, fun z => by cases z⟩) ?_)
  | ((with_reducible show DL.WO _ (compareOp .In) _ _ _ _); first | refine wo_inT ?_ | refine wo_inL ?_)
  | ((with_reducible show DL.WO _ (compareOp .NotIn) _ _ _ _); first | refine wo_notinT ?_ | refine wo_notinL ?_)
  | ((with_reducible show DL.WO _ (binaryOp .Pow) _ _ _ _); refine wo_pow (by walk_at "side") ?_)
  | ((with_reducible show DL.WO _ (binaryOp .LShift) _ _ _ _); refine wo_shl (by walk_at "side") ?_))
set_option hygiene false in
local macro_rules | `(tactic| walk_at "C") => `(tactic| first
  | ((with_reducible show DL.WC _ (.builtin "len") [.tup (List.map _ _)] _ _); refine wc_len_tupM ?_)
  | ((with_reducible show DL.WC _ (.builtin "len") [.lst (List.map _ _)] _ _); refine wc_len_lstM ?_)
  | ((with_reducible show DL.WC _ (.builtin "len") [.loc _] _ _); refine wc_len_loc (by walk_at "mem") ?_)
  | ((with_reducible show DL.WC _ (.builtin "len") _ _ _); first | refine wc_len_tup ?_ | refine wc_len_lst ?_)
  | ((with_reducible show DL.WC _ (.builtin "all") _ _ _); first | refine wc_allT ?_ | refine wc_allM ?_)
  | ((with_reducible show DL.WC _ (.builtin "any") _ _ _); refine wc_anyM ?_)
  | ((with_reducible show DL.WC _ (.type "int") _ _ _); first | refine wc_int ?_ | refine wc_intB ?_)
  | ((with_reducible show DL.WC _ (.builtin "abs") _ _ _); refine wc_abs ?_)
  | ((with_reducible show DL.WC _ (.builtin "max") _ _ _); refine wc_max2 ?_)
  | ((with_reducible show DL.WC _ (.builtin "min") _ _ _); refine wc_min2 ?_)
  | ((with_reducible show DL.WC _ (.type "tuple") _ _ _); first | refine wc_tuple (.inl rfl) ?_ | refine wc_tuple (.inr (.inl rfl)) ?_ | refine wc_tuple (.inr (.inr ⟨_, rfl, by walk_at "mem"⟩)) ?_)
  | ((with_reducible show DL.WC _ (.type "list") _ _ _); first | refine wc_list (.inl rfl) ?_ | refine wc_list (.inr (.inl rfl)) ?_ | refine wc_list (.inr (.inr ⟨_, rfl, by walk_at "mem"⟩)) ?_)
  | ((with_reducible show DL.WC _ (.builtin "isinstance") _ _ _); first | refine wc_isi (k := true) rfl (by decide +kernel) ?_ | refine wc_isi (k := false) rfl (by decide +kernel) ?_))
set_option hygiene false in
local macro_rules | `(tactic| walk_at "Ix") => `(tactic| first
  | ((with_reducible show DL.WIx _ (.loc _) _ _ _); refine wix_loc (by walk_at "mem") (by walk_at "at") ?_)
  | ((with_reducible show DL.WIx _ (.lst _) _ _ _); refine wix_lst (by walk_at "at") ?_)
  | ((with_reducible show DL.WIx _ (.tup _) _ _ _); refine wix_tup (by walk_at "at") ?_)
  | refine wix_tup rfl ?_
  | refine wix_lst rfl ?_)
set_option hygiene false in
local macro_rules | `(tactic| walk_at "M") => `(tactic| first
  | ((with_reducible show DL.WM _ "list.append" _ _ _ _); refine wm_append (by walk_at "mem") (by walk_at "sz") ?_))
set_option hygiene false in
local macro_rules | `(tactic| walk_at "sz") => `(tactic| first
  | exact szb rfl
  | exact szl (by first | omega | (simp only [List.length_map, List.length_append, List.length_cons, List.length_nil, rangeD_length] at *; omega))
  | exact szle (by first | omega | (simp only [List.length_map, List.length_append, List.length_cons, List.length_nil, rangeD_length] at *; omega)))
set_option hygiene false in
local macro_rules | `(tactic| walk_at "pre") => `(tactic| first
  | (with_reducible assumption)
  | ((with_reducible show _ = _); first | rfl | walk_at "mem" | (simp; done))
  | ((with_reducible show _ ∧ _); first | exact ⟨rfl, rfl⟩ | exact ⟨by omega, by omega⟩)
  | ((with_reducible show (_ : Nat) ≤ _); first | omega | (simp only [List.length_map, List.length_append, List.length_cons, List.length_nil, rangeD_length]; omega))
  | ((with_reducible show (_ : Nat) < _); first | omega | (simp only [List.length_map, List.length_append, List.length_cons, List.length_nil, rangeD_length]; omega))
  | ((with_reducible show (_ : Int) ≤ _); first | omega | (simp only [List.length_map, List.length_append, List.length_cons, List.length_nil, rangeD_length]; omega))
  | ((with_reducible show (_ : Int) < _); first | omega | (simp only [List.length_map, List.length_append, List.length_cons, List.length_nil, rangeD_length]; omega) | (simp; done))
  | assumption
  | (simp; done))
set_option hygiene false in
local macro_rules | `(tactic| walk_at "I") => `(tactic| first
  | ((with_reducible show DL.WI _ _ (.Call (.Name "range" _) [_] [] _) _ _ _); refine wi_range1 T.b_range (h := ?_))
  | ((with_reducible show DL.WI _ _ (.Call (.Name "range" _) [_, _] [] _) _ _ _); refine wi_range2 T.b_range (h := ?_))
  | ((with_reducible show DL.WI _ _ (.Call (.Name "range" _) [_, _, _] [] _) _ _ _); refine wi_range3n T.b_range (h := ?_))
  | ((with_reducible show DL.WI _ _ (.Call (.Name "enumerate" _) [_] [] _) _ _ _); refine wi_enum T.b_enumerate (h := ?_))
  | ((with_reducible show DL.WI _ _ (.Call (.Name "zip" _) [_, _] [] _) _ _ _); refine wi_zip T.b_zip (h := ?_))
  | ((with_reducible show DL.WI _ _ (.Call _ _ _ _) _ _ _); refine wi_lst ?_))
/- one step -/
set_option hygiene false in
local macro_rules | `(tactic| walk_at "dl") => `(tactic| first
  | ((with_reducible show DL.WE _ _ _ _ _); walk_at "E")
  | ((with_reducible show DL.WSs _ _ _ _ _); first | refine wss_cons ?_ | refine wss_nil ?_)
  | ((with_reducible show DL.WS _ _ _ _ _); walk_at "S")
  | ((with_reducible show DL.WA _ _ _ _ _); first | refine wa_cons (h := ?_) | refine wa_nil ?_)
  | ((with_reducible show DL.WO _ _ _ _ _ _); walk_at "O")
  | ((with_reducible show DL.WT _ _ _ _ _); walk_at "T")
  | ((with_reducible show DL.WW _ _ _ _ _); first | refine ww_and ?_ | refine ww_or ?_ | refine ww_and1 ?_ | refine ww_or1 ?_)
  | ((with_reducible show DL.WC _ _ _ _ _); walk_at "C")
  | ((with_reducible show DL.WIx _ _ _ _ _); walk_at "Ix")
  | ((with_reducible show DL.WM _ _ _ _ _ _); walk_at "M")
  | ((with_reducible show DL.WU _ _ _ _ _); refine wu_neg ?_)
  | ((with_reducible show DL.WGi _ _ (.Name _ _) _ _ _ _); walk_at "gnm")
  | ((with_reducible show DL.WGi _ _ _ _ _ _ _); refine wg_tup _ (h := ?_))
  | ((with_reducible show DL.WGs _ _ _ _ _ _ _); first | refine wgs_cons (h := ?_) | refine wgs_nil ?_)
  | ((with_reducible show DL.WI _ _ _ _ _ _); walk_at "I")
  | ((with_reducible show DL.WTs _ _ _ _ _); first | refine wts_one ?_ | refine wts_nil ?_)
  | ((with_reducible show DL.WP _ _ _ _ _); first | refine wp_none ?_ | refine wp_some ?_)
  | ((with_reducible show DL.WSl _ _ _ _ _ _); first | refine wsl_tup ?_ | refine wsl_lst ?_ | refine wsl_loc (by walk_at "mem") ?_)
  | ((with_reducible show _ = true → DL.WE _ _ _ _ _); intro hk)
  | ((with_reducible show (_ = _ → _) ∧ (_ = _ → _)); walk_at "if")
  | ((with_reducible refine ⟨_, ixN_nat ?_ ?_, ?_⟩); (focus omega); (focus first | omega | (simp only [List.length_map, List.length_set, List.length_append] at *; omega)))
  | refine ⟨_, rfl, ?_⟩
  | refine ⟨szb rfl, ?_⟩
  | refine ⟨.inl _, rfl, ?_⟩
  | refine ⟨.inr _, rfl, ?_⟩
  | refine ⟨_, .inl (by walk_at "mem"), ?_⟩
  | refine ⟨_, .inr ⟨_, _, by walk_at "mem"⟩, ?_⟩
  | refine ⟨_, .inr ⟨_, rfl, by walk_at "mem"⟩, ?_⟩
  | refine ⟨_, .inl rfl, ?_⟩
  | refine ⟨_, .inr (.inl rfl), ?_⟩
  | refine ⟨_, .inr rfl, ?_⟩
  | ((with_reducible show _ ∧ _); refine ⟨by walk_at "pre", ?_⟩)
  | refine ⟨_, by walk_at "mem", ?_⟩
  | refine ⟨_, _, rfl, ?_⟩
  | refine ⟨_, _, _, rfl, ?_⟩
  | refine ⟨_, _, _, _, rfl, ?_⟩
  | refine ⟨_, _, _, _, _, rfl, ?_⟩
  | refine ⟨_, _, _, _, _, _, rfl, ?_⟩
  | refine ⟨_, _, _, _, _, _, _, rfl, ?_⟩
  | ((with_reducible show (_ : Mem) = _); rfl)
  | fail "stuck")
/- one step, within a statement -/
set_option hygiene false in
local macro_rules | `(tactic| walk_at "dlE") => `(tactic| first
  | ((with_reducible show DL.WE _ _ _ _ _); walk_at "E")
  | ((with_reducible show DL.WS _ _ _ _ _); walk_at "S")
  | ((with_reducible show DL.WA _ _ _ _ _); first | refine wa_cons (h := ?_) | refine wa_nil ?_)
  | ((with_reducible show DL.WO _ _ _ _ _ _); walk_at "O")
  | ((with_reducible show DL.WT _ _ _ _ _); walk_at "T")
  | ((with_reducible show DL.WW _ _ _ _ _); first | refine ww_and ?_ | refine ww_or ?_ | refine ww_and1 ?_ | refine ww_or1 ?_)
  | ((with_reducible show DL.WC _ _ _ _ _); walk_at "C")
  | ((with_reducible show DL.WIx _ _ _ _ _); walk_at "Ix")
  | ((with_reducible show DL.WM _ _ _ _ _ _); walk_at "M")
  | ((with_reducible show DL.WU _ _ _ _ _); refine wu_neg ?_)
  | ((with_reducible show DL.WGi _ _ (.Name _ _) _ _ _ _); walk_at "gnm")
  | ((with_reducible show DL.WGi _ _ _ _ _ _ _); refine wg_tup _ (h := ?_))
  | ((with_reducible show DL.WGs _ _ _ _ _ _ _); first | refine wgs_cons (h := ?_) | refine wgs_nil ?_)
  | ((with_reducible show DL.WI _ _ _ _ _ _); walk_at "I")
  | ((with_reducible show DL.WTs _ _ _ _ _); first | refine wts_one ?_ | refine wts_nil ?_)
  | ((with_reducible show DL.WP _ _ _ _ _); first | refine wp_none ?_ | refine wp_some ?_)
  | ((with_reducible show DL.WSl _ _ _ _ _ _); first | refine wsl_tup ?_ | refine wsl_lst ?_ | refine wsl_loc (by walk_at "mem") ?_)
  | ((with_reducible show _ = true → DL.WE _ _ _ _ _); intro hk)
  | ((with_reducible show (_ = _ → _) ∧ (_ = _ → _)); walk_at "if")
  | ((with_reducible refine ⟨_, ixN_nat ?_ ?_, ?_⟩); (focus omega); (focus first | omega | (simp only [List.length_map, List.length_set, List.length_append] at *; omega)))
  | refine ⟨_, rfl, ?_⟩
  | refine ⟨szb rfl, ?_⟩
  | refine ⟨.inl _, rfl, ?_⟩
  | refine ⟨.inr _, rfl, ?_⟩
  | refine ⟨_, .inl (by walk_at "mem"), ?_⟩
  | refine ⟨_, .inr ⟨_, _, by walk_at "mem"⟩, ?_⟩
  | refine ⟨_, .inr ⟨_, rfl, by walk_at "mem"⟩, ?_⟩
  | refine ⟨_, .inl rfl, ?_⟩
  | refine ⟨_, .inr (.inl rfl), ?_⟩
  | refine ⟨_, .inr rfl, ?_⟩
  | ((with_reducible show _ ∧ _); refine ⟨by walk_at "pre", ?_⟩)
  | refine ⟨_, by walk_at "mem", ?_⟩
  | refine ⟨_, _, rfl, ?_⟩
  | refine ⟨_, _, _, rfl, ?_⟩
  | refine ⟨_, _, _, _, rfl, ?_⟩
  | refine ⟨_, _, _, _, _, rfl, ?_⟩
  | refine ⟨_, _, _, _, _, _, rfl, ?_⟩
  | refine ⟨_, _, _, _, _, _, _, rfl, ?_⟩
  | ((with_reducible show (_ : Mem) = _); rfl)
  | fail "stuck")
set_option hygiene false in
local macro_rules | `(tactic| walk_at "goE") => `(tactic| repeat' walk_at "dlE")
set_option hygiene false in
local macro_rules | `(tactic| walk_at "go") => `(tactic| repeat' walk_at "dl")
set_option hygiene false in
local macro_rules | `(tactic| walk_at "nx") => `(tactic| ((try rw [Mem.upd_upd]); walk_at "go"))
set_option hygiene false in
local macro_rules | `(tactic| walk_at "call") => `(tactic| ((with_reducible show DL.WE _ (.Call (.Name "_law_begin" _) _ [] _) _ _ _); refine we_call (ok_begin T) (h := ?_)))
set_option hygiene false in
local macro_rules | `(tactic| walk_at "call") => `(tactic| ((with_reducible show DL.WE _ (.Call (.Name "_law_draw" _) _ [] _) _ _ _); refine we_call (ok_draw T) (h := ?_)))
set_option hygiene false in
local macro_rules | `(tactic| walk_at "call") => `(tactic| ((with_reducible show DL.WE _ (.Call (.Name "_law_pick" _) _ [] _) _ _ _); refine we_call (ok_pick T) (h := ?_)))
set_option hygiene false in
local macro_rules | `(tactic| walk_at "call") => `(tactic| ((with_reducible show DL.WE _ (.Call (.Name "_law_is_int" _) _ [] _) _ _ _); refine we_call (ok_is_int T) (h := ?_)))
set_option hygiene false in
local macro_rules | `(tactic| walk_at "call") => `(tactic| ((with_reducible show DL.WE _ (.Call (.Name "_law_is_ints" _) _ [] _) _ _ _); refine we_call (ok_is_ints T) (h := ?_)))
set_option hygiene false in
local macro_rules | `(tactic| walk_at "call") => `(tactic| ((with_reducible show DL.WE _ (.Call (.Name "is_whole" _) _ [] _) _ _ _); refine we_call (ok_is_whole T) (h := ?_)))
set_option hygiene false in
local macro_rules | `(tactic| walk_at "call") => `(tactic| ((with_reducible show DL.WE _ (.Call (.Name "allowed_at" _) _ [] _) _ _ _); refine we_call (ok_allowed_at T) (h := ?_)))
set_option hygiene false in
local macro_rules | `(tactic| walk_at "call") => `(tactic| ((with_reducible show DL.WE _ (.Call (.Name "reach_of" _) _ [] _) _ _ _); refine we_call (ok_reach_of T) (h := ?_)))
set_option hygiene false in
local macro_rules | `(tactic| walk_at "call") => `(tactic| ((with_reducible show DL.WE _ (.Call (.Name "fewest_tellings" _) _ [] _) _ _ _); refine we_call (ok_fewest_tellings T) (h := ?_)))
set_option hygiene false in
local macro_rules | `(tactic| walk_at "call") => `(tactic| ((with_reducible show DL.WE _ (.Call (.Name "is_right_plan" _) _ [] _) _ _ _); refine we_call (ok_is_right_plan T) (h := ?_)))
set_option hygiene false in
local macro_rules | `(tactic| walk_at "call") => `(tactic| ((with_reducible show DL.WE _ (.Call (.Name "are_right_bars" _) _ [] _) _ _ _); refine we_call (ok_are_right_bars T) (h := ?_)))
set_option hygiene false in
local macro_rules | `(tactic| walk_at "call") => `(tactic| ((with_reducible show DL.WE _ (.Call (.Name "judge_tellings" _) _ [] _) _ _ _); refine we_call (ok_judge_tellings T) (h := ?_)))
set_option hygiene false in
local macro_rules | `(tactic| walk_at "call") => `(tactic| ((with_reducible show DL.WE _ (.Call (.Name "_law_given" _) _ [] _) _ _ _); refine we_call (ok_given T) (h := ?_)))
set_option hygiene false in
local macro_rules | `(tactic| walk_at "call") => `(tactic| ((with_reducible show DL.WE _ (.Call (.Name "_law_plan_is_right" _) _ [] _) _ _ _); refine we_call (ok_plan_is_right T) (h := ?_)))
set_option hygiene false in
local macro_rules | `(tactic| walk_at "call") => `(tactic| ((with_reducible show DL.WE _ (.Call (.Name "_law_end" _) _ [] _) _ _ _); refine we_call (ok_end T) (h := ?_)))
set_option hygiene false in
local macro_rules | `(tactic| walk_at "call") => `(tactic| ((with_reducible show DL.WE _ (.Call (.Name "_law_bars_are_right" _) _ [] _) _ _ _); refine we_call (ok_bars_are_right T) (h := ?_)))
set_option hygiene false in
local macro_rules | `(tactic| walk_at "call") => `(tactic| ((with_reducible show DL.WE _ (.Call (.Name "_law_pair_is_right" _) _ [] _) _ _ _); refine we_call (ok_pair_is_right T) (h := ?_)))
set_option hygiene false in
local macro_rules | `(tactic| walk_at "call") => `(tactic| ((with_reducible show DL.WE _ (.Call (.Name "_law_is_pair" _) _ [] _) _ _ _); refine we_call (ok_is_pair T) (h := ?_)))
set_option hygiene false in
local macro_rules | `(tactic| walk_at "call") => `(tactic| ((with_reducible show DL.WE _ (.Call (.Name "_law_values" _) _ [] _) _ _ _); refine we_call (ok_values T) (h := ?_)))
set_option hygiene false in
local macro_rules | `(tactic| walk_at "call") => `(tactic| ((with_reducible show DL.WE _ (.Call (.Name "_law_slack" _) _ [] _) _ _ _); refine we_call (ok_slack T) (h := ?_)))
set_option hygiene false in
local macro_rules | `(tactic| walk_at "call") => `(tactic| ((with_reducible show DL.WE _ (.Call (.Name "_law_told_at" _) _ [] _) _ _ _); refine we_call (ok_told_at T) (h := ?_)))
set_option hygiene false in
local macro_rules | `(tactic| walk_at "call") => `(tactic| ((with_reducible show DL.WE _ (.Call (.Name "_law_costs" _) _ [] _) _ _ _); refine we_call (ok_costs T) (h := ?_)))
set_option hygiene false in
local macro_rules | `(tactic| walk_at "call") => `(tactic| ((with_reducible show DL.WE _ (.Call (.Name "_law_fewest" _) _ [] _) _ _ _); refine we_call (ok_fewest T) (h := ?_)))
set_option hygiene false in
local macro_rules | `(tactic| walk_at "call") => `(tactic| ((with_reducible show DL.WE _ (.Call (.Name "_law_some_plan" _) _ [] _) _ _ _); refine we_call (ok_some_plan T) (h := ?_)))
set_option hygiene false in
local macro_rules | `(tactic| walk_at "call") => `(tactic| ((with_reducible show DL.WE _ (.Call (.Name "_law_some_bars" _) _ [] _) _ _ _); refine we_call (ok_some_bars T) (h := ?_)))
set_option hygiene false in
local macro_rules | `(tactic| walk_at "call") => `(tactic| ((with_reducible show DL.WE _ (.Call (.Name "_law_spoilt" _) _ [] _) _ _ _); refine we_call (ok_spoilt T) (h := ?_)))
set_option hygiene false in
local macro_rules | `(tactic| walk_at "call") => `(tactic| ((with_reducible show DL.WE _ (.Call (.Name "_law_judged" _) _ [] _) _ _ _); refine we_call (ok_judged T) (h := ?_)))
abbrev NL : List Str := ["script", "d", "values", "slack", "found", "plain", "wider", "changes", "at", "pairs", "costs", "least", "own", "pair", "k"]
theorem sc_law : FnScope NL ["script"] (defScope s_law) := ⟨rfl, rfl, rfl, by decide +kernel, rfl, by decide +kernel, by decide +kernel⟩
section
set_option hygiene false in
local macro_rules | `(tactic| walk_at "nm") => `(tactic| first | ((with_reducible show DL.WE _ (.Name "script" _) _ _ _); refine we_name 0 (q := ?_)) | ((with_reducible show DL.WE _ (.Name "d" _) _ _ _); refine we_name 1 (q := ?_)) | ((with_reducible show DL.WE _ (.Name "values" _) _ _ _); refine we_name 2 (q := ?_)) | ((with_reducible show DL.WE _ (.Name "slack" _) _ _ _); refine we_name 3 (q := ?_)) | ((with_reducible show DL.WE _ (.Name "found" _) _ _ _); refine we_name 4 (q := ?_)) | ((with_reducible show DL.WE _ (.Name "plain" _) _ _ _); refine we_name 5 (q := ?_)) | ((with_reducible show DL.WE _ (.Name "wider" _) _ _ _); refine we_name 6 (q := ?_)) | ((with_reducible show DL.WE _ (.Name "changes" _) _ _ _); refine we_name 7 (q := ?_)) | ((with_reducible show DL.WE _ (.Name "at" _) _ _ _); refine we_name 8 (q := ?_)) | ((with_reducible show DL.WE _ (.Name "pairs" _) _ _ _); refine we_name 9 (q := ?_)) | ((with_reducible show DL.WE _ (.Name "costs" _) _ _ _); refine we_name 10 (q := ?_)) | ((with_reducible show DL.WE _ (.Name "least" _) _ _ _); refine we_name 11 (q := ?_)) | ((with_reducible show DL.WE _ (.Name "own" _) _ _ _); refine we_name 12 (q := ?_)) | ((with_reducible show DL.WE _ (.Name "pair" _) _ _ _); refine we_name 13 (q := ?_)) | ((with_reducible show DL.WE _ (.Name "k" _) _ _ _); refine we_name 14 (q := ?_)))
set_option hygiene false in
local macro_rules | `(tactic| walk_at "set") => `(tactic| first | ((with_reducible show DL.WS _ (.Assign [.Name "script" _] _ _) _ _ _); refine ws_set 0 (h := ?_)) | ((with_reducible show DL.WS _ (.Assign [.Name "d" _] _ _) _ _ _); refine ws_set 1 (h := ?_)) | ((with_reducible show DL.WS _ (.Assign [.Name "values" _] _ _) _ _ _); refine ws_set 2 (h := ?_)) | ((with_reducible show DL.WS _ (.Assign [.Name "slack" _] _ _) _ _ _); refine ws_set 3 (h := ?_)) | ((with_reducible show DL.WS _ (.Assign [.Name "found" _] _ _) _ _ _); refine ws_set 4 (h := ?_)) | ((with_reducible show DL.WS _ (.Assign [.Name "plain" _] _ _) _ _ _); refine ws_set 5 (h := ?_)) | ((with_reducible show DL.WS _ (.Assign [.Name "wider" _] _ _) _ _ _); refine ws_set 6 (h := ?_)) | ((with_reducible show DL.WS _ (.Assign [.Name "changes" _] _ _) _ _ _); refine ws_set 7 (h := ?_)) | ((with_reducible show DL.WS _ (.Assign [.Name "at" _] _ _) _ _ _); refine ws_set 8 (h := ?_)) | ((with_reducible show DL.WS _ (.Assign [.Name "pairs" _] _ _) _ _ _); refine ws_set 9 (h := ?_)) | ((with_reducible show DL.WS _ (.Assign [.Name "costs" _] _ _) _ _ _); refine ws_set 10 (h := ?_)) | ((with_reducible show DL.WS _ (.Assign [.Name "least" _] _ _) _ _ _); refine ws_set 11 (h := ?_)) | ((with_reducible show DL.WS _ (.Assign [.Name "own" _] _ _) _ _ _); refine ws_set 12 (h := ?_)) | ((with_reducible show DL.WS _ (.Assign [.Name "pair" _] _ _) _ _ _); refine ws_set 13 (h := ?_)) | ((with_reducible show DL.WS _ (.Assign [.Name "k" _] _ _) _ _ _); refine ws_set 14 (h := ?_)))
set_option hygiene false in
local macro_rules | `(tactic| walk_at "gnm") => `(tactic| first | ((with_reducible show DL.WGi _ _ (.Name "script" _) _ _ _ _); refine wg_name 0 (q := ?_)) | ((with_reducible show DL.WGi _ _ (.Name "d" _) _ _ _ _); refine wg_name 1 (q := ?_)) | ((with_reducible show DL.WGi _ _ (.Name "values" _) _ _ _ _); refine wg_name 2 (q := ?_)) | ((with_reducible show DL.WGi _ _ (.Name "slack" _) _ _ _ _); refine wg_name 3 (q := ?_)) | ((with_reducible show DL.WGi _ _ (.Name "found" _) _ _ _ _); refine wg_name 4 (q := ?_)) | ((with_reducible show DL.WGi _ _ (.Name "plain" _) _ _ _ _); refine wg_name 5 (q := ?_)) | ((with_reducible show DL.WGi _ _ (.Name "wider" _) _ _ _ _); refine wg_name 6 (q := ?_)) | ((with_reducible show DL.WGi _ _ (.Name "changes" _) _ _ _ _); refine wg_name 7 (q := ?_)) | ((with_reducible show DL.WGi _ _ (.Name "at" _) _ _ _ _); refine wg_name 8 (q := ?_)) | ((with_reducible show DL.WGi _ _ (.Name "pairs" _) _ _ _ _); refine wg_name 9 (q := ?_)) | ((with_reducible show DL.WGi _ _ (.Name "costs" _) _ _ _ _); refine wg_name 10 (q := ?_)) | ((with_reducible show DL.WGi _ _ (.Name "least" _) _ _ _ _); refine wg_name 11 (q := ?_)) | ((with_reducible show DL.WGi _ _ (.Name "own" _) _ _ _ _); refine wg_name 12 (q := ?_)) | ((with_reducible show DL.WGi _ _ (.Name "pair" _) _ _ _ _); refine wg_name 13 (q := ?_)) | ((with_reducible show DL.WGi _ _ (.Name "k" _) _ _ _ _); refine wg_name 14 (q := ?_)))
set_option hygiene false in
local macro_rules | `(tactic| walk_at "E") => `(tactic| first | ((with_reducible show DL.WE _ (.ListComp _ _ _ ⟨216, 14, 216, 104⟩) _ _ _); refine we_lc [("at", 8)] (h := ?_)))
set_option hygiene false in
local macro_rules | `(tactic| walk_at "S") => `(tactic| first | ((with_reducible show DL.WS _ (.Assign [.Name "changes" _] (.ListComp _ _ _ ⟨216, 14, 216, 104⟩) _) _ _ _); refine ws_setLc 7 [("at", 8)] (h := ?_)))
set_option hygiene false in
local macro_rules | `(tactic| walk_at "I") => `(tactic| first | ((with_reducible show DL.WI _ _ (.Name "pairs" _) _ _ _); first | refine wi_name 9 (s := .inl rfl) (h := ?_) | refine wi_name 9 (s := .inr rfl) (h := ?_)))
set_option maxHeartbeats 2000000 in
theorem body_law (T : Txt K mg) (base : Heap) (ds : List D) (μ : Mem) (Q : D → Mem → Prop) (h : spLaw ds μ Q) : WSs (gamF P w K mg base NL (defScope s_law) 5) (defBody s_law) (startD NL ds) μ { nx := fun _ μ1 => Q .non μ1, rt := Q } := by
  obtain ⟨ns, rfl, -, q⟩ := h
  walk_at "go"
  intro a l hl ha
  walk_at "go"
  intro l1 vs hl1 v0 v1
  rw [Mem.upd_upd]
  walk_at "go"
  intro l2 s hl2 s1
  rw [Mem.upd_upd]
  walk_at "go"
  intro l3 r3 hl3 r30 r31
  rw [Mem.upd_upd]
  walk_at "go"
  obtain ⟨s2, e2, hs2⟩ : ∃ s2 : Nat, (if (s : Int) + 1 + r3 < 300 then (s : Int) + 1 + r3 else 300) = s2 ∧ s ≤ s2 := by
    split
    · exact ⟨((s : Int) + 1 + r3).toNat, by omega, by omega⟩
    · exact ⟨300, rfl, s1⟩
  rw [e2]
  refine ⟨_, _, rfl, v0, v1, ?_⟩
  have f1 := greedy_len (vs := vs) (s := s)
  have f2 := greedy_pair (s := s) v0
  have fw : (greedy vs s2).length ≤ (greedy vs s).length := by
    obtain ⟨_, g, hg⟩ := greedy_gs (s := s) v0
    obtain ⟨_, g', hg'⟩ := greedy_gs (s := s2) v0
    exact hg.slack hs2 hg'
  have ef : greedyD vs s = .tup [.tup ((greedy vs s).map pr), .tup (iD ((greedy vs s).map (·.1)))] := rfl
  have ew : greedyD vs s2 = .tup [.tup ((greedy vs s2).map pr), .tup (iD ((greedy vs s2).map (·.1)))] := rfl
  have e0 : greedyD vs 0 = .tup [.tup ((((List.range vs.length).filter (chg vs)).map fun i : Nat => ((i : Int), vs.getD i 0)).map pr), .tup (iD ((greedy vs 0).map (·.1)))] := by
    rw [← greedy0]; rfl
  rw [ef, ew, e0]
  walk_at "go"
  · exact absurd hk (by omega)
  rw [Int.toNat_natCast]
  refine LcHyp.fm (List.range vs.length) (fun i : Nat => .int (0 + (i : Int))) (chg vs) (fun i : Nat => pr ((i : Int), vs.getD i 0)) [8] (fun _ h => h) (sz1000 (by simp; omega)) (fun i j hi => ?_) ?_
  · have hl : i < vs.length := List.mem_range.mp (List.mem_of_getElem? hi)
    have ei : (0 + (i : Int)).toNat = i := by omega
    have fin : chg vs i = true → (fun y μ4 => y = pr ((i : Int), vs.getD i 0) ∧ μ4 = μ.upd a (.lst l3)) (.tup [.int (0 + (i : Int)), .int (vs.getD (0 + (i : Int)).toNat 0)]) (μ.upd a (.lst l3)) := fun _ => ⟨by rw [ei, Int.zero_add]; rfl, rfl⟩
    walk_at "go"
    · rename_i k0
      refine ⟨?_, rfl, fun hc => ?_⟩
      · have ej : (0 + (i : Int) - 1).toNat = i - 1 := by omega
        rw [ei, ej]
        have i0 : ¬ i = 0 := by omega
        unfold chg
        simp [i0]
      · walk_at "go"
        exact fin hc
    · rename_i k0
      refine ⟨(decide_eq_true (.inl (by omega))).symm, rfl, fun hc => ?_⟩
      walk_at "go"
      exact fin hc
  rw [show ((List.range vs.length).filter (chg vs)).map (fun i : Nat => pr ((i : Int), vs.getD i 0)) = (((List.range vs.length).filter (chg vs)).map fun i : Nat => ((i : Int), vs.getD i 0)).map pr by rw [List.map_map]; rfl]
  walk_at "go"
  refine wo_neP 2 (prL_nb _) (prL_nb _) fun b hb => ?_
  obtain rfl : b = false := by
    cases b with
    | false => rfl
    | true => exact absurd rfl (hb.mp rfl)
  walk_at "goE"
  walk_at "dl"
  walk_at "goE"
  walk_at "dl"
  walk_at "goE"
  refine wss_mid (fun ρ1 μ1 => ∃ (l' : List D) (prs : List (Tl × List Int)) (o0 o5 o6 o7 o8 oa ob oc od oe : Option D), IsDr l' ∧ μ1 a = some (.lst l') ∧ 0 < prs.length ∧ prs.length ≤ 4 ∧ (∀ x ∈ prs, PairL vs s x.1 x.2 ∧ x.1.length ≤ 300) ∧ ρ1 = [o0, some (.loc a), some (.tup (iD vs)), some (.int s), some (greedyD vs s), o5, o6, o7, o8, some (.lst (prs.map fun x => encF x.1 x.2)), oa, ob, oc, od, oe]) ?_ ?_
  · walk_at "go"
    · intro N F ad μ' hT hsub
      have hTab := hT.tab
      obtain ⟨n, hn⟩ : ∃ n, vs.length = n + 1 := ⟨vs.length - 1, by omega⟩
      have hL := tab_least v0 hTab
      have hC := hTab.row (vs.length - 1) (by omega)
      obtain ⟨al, hal, mal⟩ : ∃ al, ad.getLast? = some al ∧ μ' al = some (.dct (rowD vs s (vs.length - 1) (F (vs.length - 1)))) := by
        have hT' := hT
        rw [hn] at hT' ⊢
        obtain ⟨al, x1, x2, x3⟩ := hT'.last
        exact ⟨al, x1, x3⟩
      have mda := hsub a _ Mem.upd_same
      walk_at "go"
      rw [row_vals]
      refine wc_minL rfl (row_pos hC) fun x hx hlx => ?_
      obtain rfl := row_least hC hx hlx
      walk_at "go"
      refine ⟨vs, s, N, F, hT, v0, v1, fun l4 ts hl4 hpl htl => ?_⟩
      obtain ⟨g, hg⟩ : ∃ g, Last vs s g (N (vs.length - 1)) := (hTab.row (vs.length - 1) (by omega)).last (by omega)
      walk_at "go"
      refine ⟨g, _, rfl, hg, fun l5 bs hl5 hbs hbl => ?_⟩
      rw [Mem.upd_upd]
      walk_at "go"
      refine ⟨l5, [(greedy vs s, (greedy vs s).map (·.1)), (ts, bs), (greedy vs s, bs), (ts, (greedy vs s).map (·.1))], _, _, _, _, _, _, _, _, _, _, hl5, Mem.upd_same, by simp, by simp, fun x hx => ?_, rfl⟩
      have gl : ((greedy vs s).map (·.1)).length = (greedy vs s).length := List.length_map _
      simp only [List.mem_cons, List.not_mem_nil, or_false] at hx
      rcases hx with rfl | rfl | rfl | rfl
      · exact ⟨f2, by simp only; omega⟩
      · exact ⟨⟨by simp only; omega, hpl, hbs⟩, by simp only; omega⟩
      · exact ⟨⟨by simp only; omega, f2.2.1, hbs⟩, by simp only; omega⟩
      · exact ⟨⟨by simp only; omega, hpl, f2.2.2⟩, by simp only; omega⟩
    · exact ⟨l3, [(greedy vs s, (greedy vs s).map (·.1))], _, _, _, _, _, _, _, _, _, _, hl3, Mem.upd_same, by simp, by simp, fun x hx => by
        obtain rfl := List.mem_singleton.mp hx
        exact ⟨f2, by simp only; omega⟩, rfl⟩
  · rintro ρ1 μ1 ⟨l', prs, o0, o5, o6, o7, o8, oa, ob, oc, od, oe, hl', ma, p0, p4, hp, rfl⟩
    walk_at "go"
    refine ⟨[13], fun i ρ' μ' => ∃ o : Option D, μ1 = μ' ∧ ρ' = [o0, some (.loc a), some (.tup (iD vs)), some (.int s), some (greedyD vs s), o5, o6, o7, o8, some (.lst (prs.map fun x => encF x.1 x.2)), oa, ob, oc, o, oe], ⟨_, rfl, rfl⟩, ?_, ?_⟩
    · rintro i d ρ' μ' hd ⟨o, rfl, rfl⟩
      obtain ⟨x, hx, rfl⟩ := getE hd
      obtain ⟨hx1, hx2⟩ := hp x (List.mem_of_getElem? hx)
      have hx3 : x.2.length ≤ 300 := by have := hx1.1; omega
      walk_at "go"
      intro b1 hb1
      obtain rfl := hb1.mpr hx1
      walk_at "go"
      intro b2 hb2
      obtain rfl := hb2.mpr hx1
      walk_at "go"
      exact ⟨_, rfl, rfl⟩
    · rintro ρ' μ' ⟨o, rfl, rfl⟩
      walk_at "go"
      refine ⟨[14], fun i ρ' μ' => ∃ (l' : List D) (o o2 : Option D), IsDr l' ∧ μ' a = some (.lst l') ∧ ρ' = [o0, some (.loc a), some (.tup (iD vs)), some (.int s), some (greedyD vs s), o5, o6, o7, o8, some (.lst (prs.map fun x => encF x.1 x.2)), oa, ob, oc, o, o2], ⟨_, _, _, hl', ma, rfl⟩, ?_, ?_⟩
      · rintro i d ρ' μ' hd ⟨l4, o, o2, hl4, ma4, rfl⟩
        walk_at "go"
        intro l5 d5 hl5 hd5
        obtain ⟨x, hx, rfl⟩ := List.mem_map.mp hd5
        clear hd5
        obtain ⟨hx1, hx2⟩ := hp x hx
        have hx3 := hx1.1
        have hx4 : 0 < x.1.length := by
          obtain ⟨v, hv⟩ := hx1.2.1.1
          exact (List.getElem?_eq_some_iff.mp hv).1
        walk_at "go"
        intro l6 way hl6 way0 way1
        walk_at "nx"
        refine ⟨hx1.2.1.1, fun l7 ts' bs' hl7 htl hbl => ?_⟩
        walk_at "nx"
        exact ⟨l7, _, _, hl7, Mem.upd_same, rfl⟩
      · rintro ρ' μ' ⟨l4, o, o2, hl4, ma4, rfl⟩
        walk_at "go"
        refine wo_eqP 3 (encF_nb _ _) (encF_nb _ _) fun b hb => ?_
        obtain rfl := hb.mpr rfl
        exact q _
end
end K80
open PySem PySem.W PyProof.Rows
set_option maxHeartbeats 0 in
theorem PySem.Challenge.cw_standingasks_k80_whole_fewest_tellings_holds : PySem.Challenge.rw_standingasks_k80_whole_fewest_tellings.Holds := by
  w_on; o_law; k_head; (case hw => w_witness2)
  k_fill
  refine L2.walk_of (l := PySem.Challenge.rw_standingasks_k80_whole_fewest_tellings) (n := 63) (k := 6) (x := "script") (CX := fun _ => L2.CX0) (sp := fun w => DL.toSp _ DL.spLaw) rfl (by decide) rfl ⟨rfl, by decide, by decide⟩ (fun w h Y => PySem.W.kIn_of Y) ?F (fun _ _ a ns hl _ hS => DL.law_start hl hS) (fun _ _ _ _ _ h => h)
  case F =>
    intro w mg fa h KX G hmg
    refine' DL.law_top (st := K80.s_law) (n := 5) KX G hmg ?a ?l ?c ?k (fun _ _ _ _ _ _ _ => rfl) K80.sc_law (fun base ds μ Q h => K80.body_law ?T base ds μ Q h)
    (case a => k_is); (case l => k_is); (case c => k_is); (case k => k_is)
    case T =>
      constructor
      all_goals first
        | exact PySem.W.mg_none_of KX G (by k_is)
        | (refine' DL.TF.mk KX G ?a ?l ?c ?k ?b; (case a => k_is); (case l => k_is); (case c => k_is); (case k => k_is); (case b => intro _ _ _ _ _ _ us hl; first | exact (match us, hl with | [_], _ => rfl) | exact (match us, hl with | [_, _], _ => rfl) | exact (match us, hl with | [_, _, _], _ => rfl) | exact (match us, hl with | [_, _, _, _], _ => rfl) | exact (match us, hl with | [_, _, _, _, _], _ => rfl)))
