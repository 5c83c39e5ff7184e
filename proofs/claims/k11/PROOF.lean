import PyProof.Rows.All
import Wide.All
import OpenK.AllK
import Wide.FinOn
import HandS.ForMost
import HandS.ForExc
import KE.SortData
import KE.DatumOrd
import HandS.List
import HandS.TupAny
import HandS.DictComp
import HandS.Zip
import HandS.Style
import HandS.NoneIn
import HandS.Star
import HandS.TupSets
import HandS.IsInst
import HandS.Defaults
import KE.KDictPairs
import HandS.Dict
import HandS.More
import KE.SortCalls
import KE.DataMinMax
import PyProof.Claim2Refuses
import HandS.SortKw
import KE.KStateDown
import Lean
import HandS.Head0
import HandS.Head1
import HandS.Head2
import HandS.HeadEnd
import HandS.HeadHook1
import HandS.HeadHook2
import KE.KRevSl
import KE.GoesEnum
import KE.GoesMore
import PyProof.EnumMake
import HandS.Steps
import HandS.Set
import HandS.SetFor
import HandS.Strs
import HandS.ExcOwn
import HandS.WordsExc
import HandS.TryOnly
import HandS.Flow
import PyProof.ExcBaseAll.ValueError
import PySem.Challenge.RW_namesalone_k11_whole_boxes_and_places_of
/-! NDa -/
set_option Elab.async false
set_option linter.all false
set_option maxRecDepth 100000
set_option maxHeartbeats 4000000
namespace ND
open PySem PySem.Spec PyProof.Rows L2

/-! ### data -/
inductive D where
  | non | bl (b : Bool) | int (i : Int) | str (x : Str)
  | tup (ds : List D) | lst (ds : List D) | dct (kvs : List (Str × D)) | rol (ns : List Int) | ty (n : String) | sft (ds : List D)

/-- a tuple that is known to its object, which has no dict -/
def TupF (F : Hp) (a : Addr) (vs : List V) : Prop := ∃ o, F a = some (.frz o (.tup vs)) ∧ o.dict = none
theorem TupF.up {F F' : Hp} {a : Addr} {vs : List V} (h : TupF F a vs) (m : Same F F') : TupF F' a vs := let ⟨o, e, q⟩ := h; ⟨o, m _ _ e, q⟩
theorem TupF.sq {K : PySem.W.Frag} {F : Hp} {a : Addr} {vs : List V} (h : TupF F a vs) : SqT K F a vs := let ⟨o, e, _⟩ := h; .inl (.inr ⟨o, e⟩)
theorem TupF.nw {F : Hp} {a : Addr} {vs : List V} {o : Obj} (h : o.dict = none) : TupF (upd F a (.frz o (.tup vs))) a vs := ⟨o, upd_same, h⟩

mutual
inductive Rep (K : PySem.W.Frag) (F : Hp) : V → D → Prop
  | non : Rep K F .non .non
  | bl (b : Bool) : Rep K F (.bl b) (.bl b)
  | int (i : Int) : Rep K F (.int i) (.int i)
  | str (x : Str) : Rep K F (.str x) (.str x)
  | tup {a : Addr} {vs : List V} {ds : List D} : TupF F a vs → Reps K F vs ds → Rep K F (.ref a) (.tup ds)
  | sft {a : Addr} {vs : List V} {ds : List D} : F a = some (.tup vs) → Reps K F vs ds → Rep K F (.ref a) (.sft ds)
  | lst {a : Addr} {vs : List V} {ds : List D} : F a = some (.lst vs) → Reps K F vs ds → Rep K F (.ref a) (.lst ds)
  | dct {a : Addr} {kvs : List (Key × V)} {ks : List (Str × D)} : Rd F a (.dK kvs) → RepK K F kvs ks → Rep K F (.ref a) (.dct ks)
  | rol {a : Addr} {ns : List Int} : SqL K F a (ns.map V.int) → Rep K F (.ref a) (.rol ns)
  | ty (n : String) : Rep K F (.ty n) (.ty n)
inductive Reps (K : PySem.W.Frag) (F : Hp) : List V → List D → Prop
  | nil : Reps K F [] []
  | cons {v : V} {vs : List V} {d : D} {ds : List D} : Rep K F v d → Reps K F vs ds → Reps K F (v :: vs) (d :: ds)
inductive RepK (K : PySem.W.Frag) (F : Hp) : List (Key × V) → List (Str × D) → Prop
  | nil : RepK K F [] []
  | cons {k : Str} {v : V} {d : D} {kvs : List (Key × V)} {ks : List (Str × D)} : Rep K F v d → RepK K F kvs ks → RepK K F ((.inr k, v) :: kvs) ((k, d) :: ks)
end

theorem _root_.L2.Same.rd {F F' : Hp} (m : Same F F') {a : Addr} {u : HO} (h : Rd F a u) : Rd F' a u := by
  rcases h with h | ⟨o, h⟩
  · exact .inl (m _ _ h)
  · exact .inr ⟨o, m _ _ h⟩
section
variable {K : PySem.W.Frag} {F F' H H' : Hp}
mutual
theorem Rep.mono (m : Same F F') : ∀ {v : V} {d : D}, Rep K F v d → Rep K F' v d
  | _, _, .non => .non
  | _, _, .bl b => .bl b
  | _, _, .int i => .int i
  | _, _, .str x => .str x
  | _, _, .tup h r => .tup (h.up m) (Reps.mono m r)
  | _, _, .sft h r => .sft (m _ _ h) (Reps.mono m r)
  | _, _, .lst h r => .lst (m _ _ h) (Reps.mono m r)
  | _, _, .dct h r => .dct (m.rd h) (RepK.mono m r)
  | _, _, .rol h => .rol (m.seq h)
  | _, _, .ty n => .ty n
theorem Reps.mono (m : Same F F') : ∀ {vs : List V} {ds : List D}, Reps K F vs ds → Reps K F' vs ds
  | _, _, .nil => .nil
  | _, _, .cons h r => .cons (Rep.mono m h) (Reps.mono m r)
theorem RepK.mono (m : Same F F') : ∀ {vs : List (Key × V)} {ds : List (Str × D)}, RepK K F vs ds → RepK K F' vs ds
  | _, _, .nil => .nil
  | _, _, .cons h r => .cons (Rep.mono m h) (RepK.mono m r)
end
/-- as Same, but dicts may have been locked or unlocked -/
def Wk (F F' : Hp) : Prop := ∀ b o, F b = some o → F' b = some o ∨ ∃ kvs, (o = .dK kvs ∨ ∃ ob, o = .frz ob (.dK kvs)) ∧ Rd F' b (.dK kvs)
theorem Wk.tup (m : Wk F F') {a : Addr} {vs : List V} (h : F a = some (.tup vs)) : F' a = some (.tup vs) := by
  rcases m _ _ h with q | ⟨kvs, q, _⟩
  · exact q
  · rcases q with q | ⟨_, q⟩ <;> cases q
theorem Wk.tupF (m : Wk F F') {a : Addr} {vs : List V} (h : TupF F a vs) : TupF F' a vs := by
  obtain ⟨o, h, q⟩ := h
  rcases m _ _ h with z | ⟨kvs, z, _⟩
  · exact ⟨o, z, q⟩
  · rcases z with z | ⟨_, z⟩ <;> cases z
theorem Wk.lst (m : Wk F F') {a : Addr} {vs : List V} (h : F a = some (.lst vs)) : F' a = some (.lst vs) := by
  rcases m _ _ h with q | ⟨kvs, q, _⟩
  · exact q
  · rcases q with q | ⟨_, q⟩ <;> cases q
theorem Wk.dct (m : Wk F F') {a : Addr} {ks : List (Key × V)} (h : Rd F a (.dK ks)) : Rd F' a (.dK ks) := by
  rcases h with h | ⟨o, h⟩
  · rcases m _ _ h with q | ⟨kvs, q, r⟩
    · exact .inl q
    · rcases q with q | ⟨_, q⟩
      · cases q; exact r
      · cases q
  · rcases m _ _ h with q | ⟨kvs, q, r⟩
    · exact .inr ⟨o, q⟩
    · rcases q with q | ⟨_, q⟩
      · cases q
      · cases q; exact r
theorem Wk.sql (m : Wk F F') {a : Addr} {xs : List V} (h : SqL K F a xs) : SqL K F' a xs := by
  rcases h with (h | ⟨o, h⟩) | h
  · exact .inl (.inl (m.lst h))
  · rcases m _ _ h with q | ⟨kvs, q, _⟩
    · exact .inl (.inr ⟨o, q⟩)
    · rcases q with q | ⟨_, q⟩ <;> cases q
  · exact .inr h
mutual
theorem Rep.wk (m : Wk F F') : ∀ {v : V} {d : D}, Rep K F v d → Rep K F' v d
  | _, _, .non => .non
  | _, _, .bl b => .bl b
  | _, _, .int i => .int i
  | _, _, .str x => .str x
  | _, _, .tup h r => .tup (m.tupF h) (Reps.wk m r)
  | _, _, .sft h r => .sft (m.tup h) (Reps.wk m r)
  | _, _, .lst h r => .lst (m.lst h) (Reps.wk m r)
  | _, _, .dct h r => .dct (m.dct h) (RepK.wk m r)
  | _, _, .rol h => .rol (m.sql h)
  | _, _, .ty n => .ty n
theorem Reps.wk (m : Wk F F') : ∀ {vs : List V} {ds : List D}, Reps K F vs ds → Reps K F' vs ds
  | _, _, .nil => .nil
  | _, _, .cons h r => .cons (Rep.wk m h) (Reps.wk m r)
theorem RepK.wk (m : Wk F F') : ∀ {vs : List (Key × V)} {ds : List (Str × D)}, RepK K F vs ds → RepK K F' vs ds
  | _, _, .nil => .nil
  | _, _, .cons h r => .cons (Rep.wk m h) (RepK.wk m r)
end
theorem Wk.lock {d : Addr} {od : Obj} {kvs : List (Key × V)} (h : F d = some (.dK kvs)) : Wk F (upd F d (.frz od (.dK kvs))) := fun b o e => by
  by_cases hb : b = d
  · subst hb
    rw [h] at e; cases e
    exact .inr ⟨kvs, .inl rfl, .inr ⟨od, upd_same⟩⟩
  · exact .inl (by rw [upd_ne hb]; exact e)
theorem Wk.unlock {d : Addr} {od : Obj} {kvs : List (Key × V)} (h : F d = some (.frz od (.dK kvs))) : Wk F (upd F d (.dK kvs)) := fun b o e => by
  by_cases hb : b = d
  · subst hb
    rw [h] at e; cases e
    exact .inr ⟨kvs, .inr ⟨od, rfl⟩, .inl upd_same⟩
  · exact .inl (by rw [upd_ne hb]; exact e)
theorem Reps.length : ∀ {vs : List V} {ds : List D}, Reps K F vs ds → vs.length = ds.length
  | _, _, .nil => rfl
  | _, _, .cons _ r => by rw [List.length_cons, List.length_cons, Reps.length r]
theorem Reps.get {d : D} : ∀ {vs : List V} {ds : List D} {i : Nat}, Reps K F vs ds → ds[i]? = some d → ∃ v, vs[i]? = some v ∧ Rep K F v d
  | _, _, i, .nil, e => by simp at e
  | _, _, 0, .cons h r, e => by simp at e; subst e; exact ⟨_, rfl, h⟩
  | _, _, i + 1, .cons h r, e => by
    obtain ⟨v, a, b⟩ := Reps.get (i := i) r (by simpa using e)
    exact ⟨v, by simpa using a, b⟩
theorem Reps.get' {v : V} : ∀ {vs : List V} {ds : List D} {i : Nat}, Reps K F vs ds → vs[i]? = some v → ∃ d, ds[i]? = some d ∧ Rep K F v d
  | _, _, i, .nil, e => by simp at e
  | _, _, 0, .cons h r, e => by simp at e; subst e; exact ⟨_, rfl, h⟩
  | _, _, i + 1, .cons h r, e => by
    obtain ⟨v, a, b⟩ := Reps.get' (i := i) r (by simpa using e)
    exact ⟨v, by simpa using a, b⟩
theorem Reps.append : ∀ {vs ws : List V} {ds es : List D}, Reps K F vs ds → Reps K F ws es → Reps K F (vs ++ ws) (ds ++ es)
  | _, _, _, _, .nil, s => s
  | _, _, _, _, .cons h r, s => .cons h (Reps.append r s)
theorem Reps.take : ∀ {vs : List V} {ds : List D} (n : Nat), Reps K F vs ds → Reps K F (vs.take n) (ds.take n)
  | _, _, 0, _ => .nil
  | _, _, _ + 1, .nil => .nil
  | _, _, n + 1, .cons h r => .cons h (Reps.take n r)
theorem Reps.drop : ∀ {vs : List V} {ds : List D} (n : Nat), Reps K F vs ds → Reps K F (vs.drop n) (ds.drop n)
  | _, _, 0, r => r
  | _, _, _ + 1, .nil => .nil
  | _, _, n + 1, .cons h r => Reps.drop n r
theorem Reps.reverse : ∀ {vs : List V} {ds : List D}, Reps K F vs ds → Reps K F vs.reverse ds.reverse
  | _, _, .nil => .nil
  | _, _, .cons h r => by rw [List.reverse_cons, List.reverse_cons]; exact Reps.append (Reps.reverse r) (.cons h .nil)
theorem Reps.set {v : V} {d : D} (q : Rep K F v d) : ∀ {vs : List V} {ds : List D} (i : Nat), Reps K F vs ds → Reps K F (vs.set i v) (ds.set i d)
  | _, _, _, .nil => .nil
  | _, _, 0, .cons h r => .cons q r
  | _, _, i + 1, .cons h r => .cons h (Reps.set q i r)
theorem Reps.eraseIdx : ∀ {vs : List V} {ds : List D} (i : Nat), Reps K F vs ds → Reps K F (vs.eraseIdx i) (ds.eraseIdx i)
  | _, _, _, .nil => .nil
  | _, _, 0, .cons h r => r
  | _, _, i + 1, .cons h r => .cons h (Reps.eraseIdx i r)

/-! ### states -/
/-- a slot: unassigned or of no use; data; a list or dict of this frame alone; the same, a parameter's -/
inductive SD where
  | un | dat (d : D) | own (d : D) | par (d : D)
abbrev DEnv := List SD
abbrev Sl := L2.St
def look : DEnv → Nat → SD
  | [], _ => .un
  | s :: _, 0 => s
  | _ :: r, n + 1 => look r n
def put : DEnv → Nat → SD → DEnv
  | [], _, _ => []
  | _ :: r, 0, s => s :: r
  | t :: r, n + 1, s => t :: put r n s
theorem put_len : ∀ (δ : DEnv) (i : Nat) (s : SD), (put δ i s).length = δ.length
  | [], _, _ => rfl
  | _ :: _, 0, _ => rfl
  | _ :: r, n + 1, s => by show (put r n s).length + 1 = r.length + 1; rw [put_len]
theorem look_out : ∀ (δ : DEnv) (i : Nat), δ.length ≤ i → look δ i = .un
  | [], _, _ => rfl
  | _ :: r, 0, h => by simp at h
  | _ :: r, n + 1, h => look_out r n (by simpa using h)
theorem look_put : ∀ (δ : DEnv) (i j : Nat) (s : SD), look (put δ i s) j = if i = j then (if i < δ.length then s else .un) else look δ j
  | [], i, j, s => by show SD.un = _; split <;> simp [look]
  | t :: r, 0, 0, s => by simp [put, look]
  | t :: r, 0, j + 1, s => by simp [put, look]
  | t :: r, i + 1, 0, s => by simp [put, look]
  | t :: r, i + 1, j + 1, s => by
    show look (put r i s) j = _
    rw [look_put r i j s]
    simp [look]
theorem put_put : ∀ (δ : DEnv) (i : Nat) (s t : SD), put (put δ i s) i t = put δ i t
  | [], _, _, _ => rfl
  | _ :: _, 0, _, _ => rfl
  | u :: r, n + 1, s, t => by show u :: put (put r n s) n t = u :: put r n t; rw [put_put]

def isOwn : SD → Bool
  | .own _ => true
  | .par _ => true
  | _ => false
def isPar : SD → Bool
  | .par _ => true
  | _ => false
/-- what a frame-own object holds -/
def OwnR (K : PySem.W.Frag) (F H : Hp) (a : Addr) : D → Prop
  | .lst ds => ∃ vs, H a = some (.lst vs) ∧ Reps K F vs ds
  | .dct ks => ∃ kvs, H a = some (.dK kvs) ∧ RepK K F kvs ks
  | _ => False
theorem OwnR.some {a : Addr} {d : D} (h : OwnR K F H a d) : H a ≠ none := by
  cases d with
  | lst ds => obtain ⟨vs, e, _⟩ := h; rw [e]; simp
  | dct ks => obtain ⟨vs, e, _⟩ := h; rw [e]; simp
  | _ => exact h.elim
theorem OwnR.grow {a : Addr} {d : D} (h : OwnR K F H a d) (m : Same F F') (e : H' a = H a) : OwnR K F' H' a d := by
  cases d with
  | lst ds => obtain ⟨vs, e1, r⟩ := h; exact ⟨vs, e.trans e1, r.mono m⟩
  | dct ks => obtain ⟨vs, e1, r⟩ := h; exact ⟨vs, e.trans e1, r.mono m⟩
  | _ => exact h.elim

def SlotOk (K : PySem.W.Frag) (α : Nat → Addr) (F H : Hp) (σ : Sl) (i : Nat) : SD → Prop
  | .un => True
  | .dat d => ∃ v, σ[i]? = some (some v) ∧ Rep K F v d
  | .own d => σ[i]? = some (some (.ref (α i))) ∧ F (α i) = none ∧ OwnR K F H (α i) d
  | .par d => σ[i]? = some (some (.ref (α i))) ∧ F (α i) = none ∧ OwnR K F H (α i) d
structure StOk (K : PySem.W.Frag) (α : Nat → Addr) (F H : Hp) (σ : Sl) (δ : DEnv) : Prop where
  fh : Same F H
  len : σ.length = δ.length
  slot : ∀ i, SlotOk K α F H σ i (look δ i)
  inj : ∀ i j, isOwn (look δ i) = true → isOwn (look δ j) = true → α i = α j → i = j
/-- the addresses of the frame's own objects -/
def OwnA (α : Nat → Addr) (δ : DEnv) (b : Addr) : Prop := ∃ i, isOwn (look δ i) = true ∧ α i = b
theorem StOk.own {α : Nat → Addr} {σ : Sl} {δ : DEnv} (s : StOk K α F H σ δ) {i : Nat} (h : isOwn (look δ i) = true) : ∃ d, σ[i]? = some (some (.ref (α i))) ∧ F (α i) = none ∧ OwnR K F H (α i) d := by
  have q := s.slot i
  cases e : look δ i with
  | own d => rw [e] at q; exact ⟨d, q⟩
  | par d => rw [e] at q; exact ⟨d, q⟩
  | un => rw [e] at h; cases h
  | dat d => rw [e] at h; cases h

/-- from one state to the next, O: what may be changed -/
structure Step (O : Addr → Prop) (F H F' H' : Hp) : Prop where
  ff : Same F F'
  hh : ∀ b o, H b = some o → ¬ O b → H' b = some o
  kp : ∀ b, H b ≠ none → H' b ≠ none
  nw : ∀ b, H b ≠ none → F b = none → F' b = none
theorem Step.refl {O : Addr → Prop} : Step O F H F H := ⟨Same.refl _, fun _ _ e _ => e, fun _ e => e, fun _ _ e => e⟩
theorem Step.trans {O : Addr → Prop} {F1 H1 F2 H2 : Hp} (a : Step O F H F1 H1) (b : Step O F1 H1 F2 H2) : Step O F H F2 H2 :=
  ⟨a.ff.trans b.ff, fun c o e n => b.hh c o (a.hh c o e n) n, fun c e => b.kp c (a.kp c e), fun c e f => b.nw c (a.kp c e) (a.nw c e f)⟩
theorem Step.mono {O O' : Addr → Prop} (a : Step O F H F' H') (h : ∀ b, O b → O' b) : Step O' F H F' H' :=
  ⟨a.ff, fun c o e n => a.hh c o e fun z => n (h c z), a.kp, a.nw⟩
/-- nothing is changed -/
structure Grow (F H F' H' : Hp) : Prop where
  ff : Same F F'
  hh : Same H H'
  fh : Same F' H'
  nw : ∀ b, H b ≠ none → F b = none → F' b = none
theorem Grow.step {O : Addr → Prop} (g : Grow F H F' H') : Step O F H F' H' :=
  ⟨g.ff, fun b o e _ => g.hh b o e, fun b e z => (match q : H b with
    | none => e q
    | some o => by rw [g.hh b o q] at z; cases z), g.nw⟩
theorem Grow.refl (h : Same F H) : Grow F H F H := ⟨Same.refl _, Same.refl _, h, fun _ _ e => e⟩
theorem Grow.trans {F1 H1 F2 H2 : Hp} (a : Grow F H F1 H1) (b : Grow F1 H1 F2 H2) : Grow F H F2 H2 :=
  ⟨a.ff.trans b.ff, a.hh.trans b.hh, b.fh, fun c e f => b.nw c ((a.step (O := fun _ => False)).kp c e) (a.nw c e f)⟩
theorem same_upd {p : Addr} {o : HO} (h : H p = none) : Same H (upd H p o) := fun b x e => by
  rw [upd_ne (ne_of_none e h)]
  exact e
theorem Same.none {p : Addr} (m : Same F H) (h : H p = none) : F p = none := m.free h
/-- a new object, data from now on -/
theorem Grow.new {p : Addr} {o : HO} (fh : Same F H) (hp : H p = none) : Grow F H (upd F p o) (upd H p o) := by
  refine ⟨same_upd (Same.none fh hp), same_upd hp, fun b x e => ?_, fun b e f => ?_⟩
  · by_cases h : b = p
    · subst h; rw [upd_same] at e ⊢; exact e
    · rw [upd_ne h] at e ⊢; exact fh b x e
  · have h : b ≠ p := fun z => e (by rw [z]; exact hp)
    rw [upd_ne h]; exact f
/-- a new object that is not data (yet) -/
theorem Grow.newH {p : Addr} {o : HO} (fh : Same F H) (hp : H p = none) : Grow F H F (upd H p o) :=
  ⟨Same.refl _, same_upd hp, fh.trans (same_upd hp), fun b e f => f⟩
theorem StOk.grow {α : Nat → Addr} {σ : Sl} {δ : DEnv} (s : StOk K α F H σ δ) (g : Grow F H F' H') : StOk K α F' H' σ δ := by
  refine ⟨g.fh, s.len, fun i => ?_, s.inj⟩
  have q := s.slot i
  have own : ∀ {d : D}, σ[i]? = some (some (.ref (α i))) ∧ F (α i) = none ∧ OwnR K F H (α i) d → σ[i]? = some (some (.ref (α i))) ∧ F' (α i) = none ∧ OwnR K F' H' (α i) d := fun {d} ⟨h1, h2, h3⟩ => by
    refine ⟨h1, g.nw _ h3.some h2, h3.grow g.ff ?_⟩
    cases e : H (α i) with
    | none => exact absurd e h3.some
    | some o => exact g.hh _ _ e
  cases e : look δ i with
  | un => trivial
  | dat d => rw [e] at q; obtain ⟨v, h1, h2⟩ := q; exact ⟨v, h1, h2.mono g.ff⟩
  | own d => rw [e] at q; exact own q
  | par d => rw [e] at q; exact own q

/-- the state behind a change of F and H at one data address -/
theorem StOk.wk {α : Nat → Addr} {σ : Sl} {δ : DEnv} (s : StOk K α F H σ δ) (m : Wk F F') (fh : Same F' H') (no : ∀ b, F b = none → F' b = none) (hh : ∀ b, F b = none → H' b = H b) : StOk K α F' H' σ δ := by
  refine ⟨fh, s.len, fun i => ?_, s.inj⟩
  have q := s.slot i
  have own : ∀ {d : D}, σ[i]? = some (some (.ref (α i))) ∧ F (α i) = none ∧ OwnR K F H (α i) d → σ[i]? = some (some (.ref (α i))) ∧ F' (α i) = none ∧ OwnR K F' H' (α i) d := fun {d} ⟨h1, h2, h3⟩ => by
    refine ⟨h1, no _ h2, ?_⟩
    cases d with
    | lst ds => obtain ⟨vs, e1, r⟩ := h3; exact ⟨vs, (hh _ h2).trans e1, r.wk m⟩
    | dct ks => obtain ⟨vs, e1, r⟩ := h3; exact ⟨vs, (hh _ h2).trans e1, r.wk m⟩
    | _ => exact h3.elim
  cases e : look δ i with
  | un => trivial
  | dat d => rw [e] at q; obtain ⟨v, h1, h2⟩ := q; exact ⟨v, h1, h2.wk m⟩
  | own d => rw [e] at q; exact own q
  | par d => rw [e] at q; exact own q
theorem same_upd2 {d : Addr} {o : HO} (m : Same F H) : Same (upd F d o) (upd H d o) := fun b x e => by
  by_cases hb : b = d
  · subst hb; rw [upd_same] at e ⊢; exact e
  · rw [upd_ne hb] at e ⊢; exact m _ _ e
theorem StOk.lock {α : Nat → Addr} {σ : Sl} {δ : DEnv} {d : Addr} {od : Obj} {kvs : List (Key × V)} (s : StOk K α F H σ δ) (h : F d = some (.dK kvs)) : StOk K α (upd F d (.frz od (.dK kvs))) (upd H d (.frz od (.dK kvs))) σ δ := by
  have hd : ∀ b, F b = none → b ≠ d := fun b e z => by subst z; rw [h] at e; cases e
  exact s.wk (.lock h) (same_upd2 s.fh) (fun b e => by rw [upd_ne (hd b e)]; exact e) fun b e => by rw [upd_ne (hd b e)]
theorem StOk.unlock {α : Nat → Addr} {σ : Sl} {δ : DEnv} {d : Addr} {od : Obj} {kvs : List (Key × V)} (s : StOk K α F H σ δ) (h : F d = some (.frz od (.dK kvs))) : StOk K α (upd F d (.dK kvs)) (upd H d (.dK kvs)) σ δ := by
  have hd : ∀ b, F b = none → b ≠ d := fun b e z => by subst z; rw [h] at e; cases e
  exact s.wk (.unlock h) (same_upd2 s.fh) (fun b e => by rw [upd_ne (hd b e)]; exact e) fun b e => by rw [upd_ne (hd b e)]
/-- lock, a step, unlock: a step -/
theorem Step.locked {O : Addr → Prop} {d : Addr} {od : Obj} {kvs : List (Key × V)} (fh : Same F H) (h : F d = some (.dK kvs)) (s : Step O (upd F d (.frz od (.dK kvs))) (upd H d (.frz od (.dK kvs))) F' H') :
    Step O F H (upd F' d (.dK kvs)) (upd H' d (.dK kvs)) := by
  refine ⟨fun b o e => ?_, fun b o e n => ?_, fun b e => ?_, fun b e f => ?_⟩
  · by_cases hb : b = d
    · subst hb; rw [upd_same]; rw [h] at e; exact e
    · rw [upd_ne hb]; exact s.ff _ _ (by rw [upd_ne hb]; exact e)
  · by_cases hb : b = d
    · subst hb; rw [upd_same]; rw [fh _ _ h] at e; exact e
    · rw [upd_ne hb]; exact s.hh _ _ (by rw [upd_ne hb]; exact e) n
  · by_cases hb : b = d
    · subst hb; rw [upd_same]; simp
    · rw [upd_ne hb]; exact s.kp _ (by rw [upd_ne hb]; exact e)
  · have hb : b ≠ d := fun z => by subst z; rw [h] at f; cases f
    rw [upd_ne hb]
    exact s.nw _ (by rw [upd_ne hb]; exact e) (by rw [upd_ne hb]; exact f)
end
end ND

/-! NDb -/
set_option Elab.async false
set_option linter.all false
set_option maxRecDepth 100000
set_option maxHeartbeats 4000000
namespace ND
open PySem PySem.Spec PyProof.Rows L2

/-! ### the strongest readings -/
def twE (X : Cx) (e : Expr) : TE := fun σ H Q => ∀ (pins : List (Addr × Obj)) (s : Shared), Inv X pins σ H s → wpAny (model X.prog X.w) X.A (eval e X.env) (EP X pins σ Q) X.xe s
def twT (X : Cx) (e : Expr) : TT := fun σ H Q => ∀ (pins : List (Addr × Obj)) (s : Shared), Inv X pins σ H s → wpAny (model X.prog X.w) X.A (isTrue e X.env (eval e X.env)) (TP X pins σ Q) X.xe s
def twW (X : Cx) (e : Expr) : TT := fun σ H Q => ∀ (whole : Sem Value) (pins : List (Addr × Obj)) (s : Shared), Inv X pins σ H s → wpAny (model X.prog X.w) X.A (isTrue e X.env whole) (TP X pins σ Q) X.xe s
def twA (X : Cx) (es : List Expr) : TA := fun σ H Q => ∀ (pos : Pos) (pins : List (Addr × Obj)) (s : Shared), Inv X pins σ H s → wpAny (model X.prog X.w) X.A (spliced (backTo pos (starEach es X.env))) (AP X pins σ Q) X.xe s
def twS (X : Cx) (st : Stmt) : TS := fun D σ H => ∀ (pins : List (Addr × Obj)) (s : Shared), Inv X pins σ H s → wpAny (model X.prog X.w) X.A (exec st X.env) (SP X pins D) X.xe s
def twSs (X : Cx) (st : List Stmt) : TS := fun D σ H => ∀ (pins : List (Addr × Obj)) (s : Shared), Inv X pins σ H s → wpAny (model X.prog X.w) X.A (execs st X.env) (SP X pins D) X.xe s
def twG (X : Cx) (tg : Expr) : TG := fun v σ H Q => ∀ (pins : List (Addr × Obj)) (s : Shared) (u : Value), Inv X pins σ H s → RelV v u → wpAny (model X.prog X.w) X.A (assign tg X.env u) (fun _ s' => ∃ σ' H', Inv X pins σ' H' s' ∧ Q σ' H') X.xe s
def twI (X : Cx) (tg iter : Expr) : TI := fun σ H R => ∀ (pins : List (Addr × Obj)) (s : Shared), Inv X pins σ H s → wpAny (model X.prog X.w) X.A (eval iter X.env) (fun v s1 => wpAny (model X.prog X.w) X.A (pyIter v) (PIE X pins σ tg R) X.xe s1) X.xe s
section
variable {X : Cx} {e : Expr} {es : List Expr} {st : Stmt} {sts : List Stmt} {σ : Sl} {H : Hp}
theorem pe_tw : PE X e (twE X e) := ⟨fun pins s _ _ _ I h => h pins s I⟩
theorem pt_tw : PT X e (twT X e) := ⟨fun pins s _ _ _ I h => h pins s I⟩
theorem pw_tw : PW X e (twW X e) := ⟨fun wh pins s _ _ _ I h => h wh pins s I⟩
theorem pa_tw : PA X es (twA X es) := ⟨fun pos pins s _ _ _ I h => h pos pins s I⟩
theorem ps_tw : PS X st (twS X st) := ⟨fun pins s _ _ _ I h => h pins s I⟩
theorem pss_tw : PSs X sts (twSs X sts) := ⟨fun pins s _ _ _ I h => h pins s I⟩
theorem pg_tw {tg : Expr} : PG X tg (twG X tg) := ⟨fun pins s σ H v u Q I r h => h pins s u I r⟩
theorem pi_tw {tg iter : Expr} : PI X tg iter (twI X tg iter) := ⟨fun pins s σ H R I h => h pins s I⟩
theorem twE.of {t : TE} {Q : VK} (h : PE X e t) (q : t σ H Q) : twE X e σ H Q := fun pins s I => h.run pins s σ H Q I q
theorem twT.of {t : TT} {Q : Bool → Hp → Prop} (h : PT X e t) (q : t σ H Q) : twT X e σ H Q := fun pins s I => h.run pins s σ H Q I q
theorem twW.of {t : TT} {Q : Bool → Hp → Prop} (h : PW X e t) (q : t σ H Q) : twW X e σ H Q := fun wh pins s I => h.run wh pins s σ H Q I q
theorem twA.of {t : TA} {Q : List V → Hp → Prop} (h : PA X es t) (q : t σ H Q) : twA X es σ H Q := fun pos pins s I => h.run pos pins s σ H Q I q
theorem twS.of {t : TS} {D : Ends} (h : PS X st t) (q : t D σ H) : twS X st D σ H := fun pins s I => h.run pins s σ H D I q
theorem twSs.of {t : TS} {D : Ends} (h : PSs X sts t) (q : t D σ H) : twSs X sts D σ H := fun pins s I => h.run pins s σ H D I q
theorem twG.of {tg : Expr} {t : TG} {v : V} {Q : Sl → Hp → Prop} (h : PG X tg t) (q : t v σ H Q) : twG X tg v σ H Q := fun pins s u I r => h.run pins s σ H v u Q I r q
theorem twI.of {tg iter : Expr} {t : TI} {R : It → Hp → Prop} (h : PI X tg iter t) (q : t σ H R) : twI X tg iter σ H R := fun pins s I => h.run pins s σ H R I q
/-- the invariant may be looked at -/
theorem twE.inv {Q : VK} (h : (∃ pins s, Inv X pins σ H s) → twE X e σ H Q) : twE X e σ H Q := fun pins s I => h ⟨pins, s, I⟩ pins s I
theorem twS.inv {D : Ends} (h : (∃ pins s, Inv X pins σ H s) → twS X st D σ H) : twS X st D σ H := fun pins s I => h ⟨pins, s, I⟩ pins s I
end

/-! ### kinds of slots -/
def kd : SD → Nat
  | .un => 0
  | .dat _ => 1
  | .own _ => 2
  | .par _ => 3
def Kd (δ δ' : DEnv) : Prop := ∀ i, kd (look δ' i) = kd (look δ i)
theorem Kd.refl (δ : DEnv) : Kd δ δ := fun _ => rfl
theorem Kd.trans {δ δ1 δ2 : DEnv} (a : Kd δ δ1) (b : Kd δ1 δ2) : Kd δ δ2 := fun i => (b i).trans (a i)
theorem isOwn_kd (s : SD) : isOwn s = decide (2 ≤ kd s) := by cases s <;> rfl
theorem isPar_kd (s : SD) : isPar s = decide (kd s = 3) := by cases s <;> rfl
theorem Kd.own {δ δ' : DEnv} (k : Kd δ δ') (i : Nat) : isOwn (look δ' i) = isOwn (look δ i) := by rw [isOwn_kd, isOwn_kd, k i]
theorem Kd.par {δ δ' : DEnv} (k : Kd δ δ') (i : Nat) : isPar (look δ' i) = isPar (look δ i) := by rw [isPar_kd, isPar_kd, k i]
theorem Kd.ownA {δ δ' : DEnv} (k : Kd δ δ') {α : Nat → Addr} {b : Addr} (h : OwnA α δ' b) : OwnA α δ b := by
  obtain ⟨i, h1, h2⟩ := h
  exact ⟨i, by rw [← k.own i]; exact h1, h2⟩
theorem Kd.put {δ : DEnv} {i : Nat} {s : SD} (h : kd (look δ i) = kd s) (hl : i < δ.length) : Kd δ (put δ i s) := fun j => by
  rw [look_put, if_pos hl]
  split
  · rename_i e; subst e; exact h.symm
  · rfl

/-! ### judgements -/
/-- e, where the slots are as δ says, evaluates to d and leaves δ' -/
structure EvD (X : Cx) (δ : DEnv) (e : Expr) (d : D) (δ' : DEnv) : Prop where
  kd : Kd δ δ'
  run : ∀ (α : Nat → Addr) (σ : Sl) (H F : Hp) (Q : VK), StOk X.K α F H σ δ →
    (∀ v F' H', Step (OwnA α δ) F H F' H' → StOk X.K α F' H' σ δ' → Rep X.K F' v d → Q v H') → twE X e σ H Q
structure TvD (X : Cx) (δ : DEnv) (e : Expr) (b : Bool) (δ' : DEnv) : Prop where
  kd : Kd δ δ'
  run : ∀ (α : Nat → Addr) (σ : Sl) (H F : Hp) (Q : Bool → Hp → Prop), StOk X.K α F H σ δ →
    (∀ F' H', Step (OwnA α δ) F H F' H' → StOk X.K α F' H' σ δ' → Q b H') → twT X e σ H Q
structure WvD (X : Cx) (δ : DEnv) (e : Expr) (b : Bool) (δ' : DEnv) : Prop where
  kd : Kd δ δ'
  run : ∀ (α : Nat → Addr) (σ : Sl) (H F : Hp) (Q : Bool → Hp → Prop), StOk X.K α F H σ δ →
    (∀ F' H', Step (OwnA α δ) F H F' H' → StOk X.K α F' H' σ δ' → Q b H') → twW X e σ H Q
/-- an argument list of data -/
structure AvD (X : Cx) (δ : DEnv) (es : List Expr) (ds : List D) (δ' : DEnv) : Prop where
  kd : Kd δ δ'
  run : ∀ (α : Nat → Addr) (σ : Sl) (H F : Hp) (Q : List V → Hp → Prop), StOk X.K α F H σ δ →
    (∀ vs F' H', Step (OwnA α δ) F H F' H' → StOk X.K α F' H' σ δ' → Reps X.K F' vs ds → Q vs H') → twA X es σ H Q
/-- an argument: data, or the frame's own object of a slot -/
inductive Ar where
  | dat (d : D) | own (i : Nat)
def ArOk (K : PySem.W.Frag) (α : Nat → Addr) (F : Hp) : List V → List Ar → Prop
  | [], [] => True
  | v :: vs, .dat d :: as => Rep K F v d ∧ ArOk K α F vs as
  | v :: vs, .own i :: as => v = .ref (α i) ∧ ArOk K α F vs as
  | _, _ => False
structure AmD (X : Cx) (δ : DEnv) (es : List Expr) (as : List Ar) (δ' : DEnv) : Prop where
  kd : Kd δ δ'
  run : ∀ (α : Nat → Addr) (σ : Sl) (H F : Hp) (Q : List V → Hp → Prop), StOk X.K α F H σ δ →
    (∀ vs F' H', Step (OwnA α δ) F H F' H' → StOk X.K α F' H' σ δ' → ArOk X.K α F' vs as → Q vs H') → twA X es σ H Q
/-- a new list, no data yet: its items -/
structure NvD (X : Cx) (δ : DEnv) (e : Expr) (ds : List D) (δ' : DEnv) : Prop where
  kd : Kd δ δ'
  run : ∀ (α : Nat → Addr) (σ : Sl) (H F : Hp) (Q : VK), StOk X.K α F H σ δ →
    (∀ a vs F' H', H a = none → F' a = none → Step (OwnA α δ) F H F' H' → StOk X.K α F' H' σ δ' → H' a = some (.lst vs) → Reps X.K F' vs ds → Q (.ref a) H') → twE X e σ H Q
/-- a new dict -/
structure MvD (X : Cx) (δ : DEnv) (e : Expr) (ks : List (Str × D)) (δ' : DEnv) : Prop where
  kd : Kd δ δ'
  run : ∀ (α : Nat → Addr) (σ : Sl) (H F : Hp) (Q : VK), StOk X.K α F H σ δ →
    (∀ a kvs F' H', H a = none → F' a = none → Step (OwnA α δ) F H F' H' → StOk X.K α F' H' σ δ' → H' a = some (.dK kvs) → RepK X.K F' kvs ks → Q (.ref a) H') → twE X e σ H Q

section
variable {X : Cx} {δ δ' δ1 δ2 δ3 : DEnv} {e a b c : Expr} {es : List Expr} {pos : Pos} {d x y z : D} {ds : List D}

/-! ### from new objects to data -/
theorem Step.freeze {O : Addr → Prop} {F H F' H' : Hp} {a : Addr} {o : HO} (s : Step O F H F' H') (fh : Same F' H') (hF : F a = none) (ha : H a = none) (h2 : H' a = some o) :
    Step O F H (upd F' a o) H' := by
  refine ⟨fun b x q => ?_, s.hh, s.kp, fun b q f => ?_⟩
  · have hb : b ≠ a := fun z => by subst z; rw [hF] at q; cases q
    rw [upd_ne hb]; exact s.ff _ _ q
  · have hb : b ≠ a := fun z => by subst z; exact q ha
    rw [upd_ne hb]; exact s.nw b q f
theorem same_in {F H : Hp} {a : Addr} {o : HO} (fh : Same F H) (h : H a = some o) : Same (upd F a o) H := fun b x q => by
  by_cases hb : b = a
  · subst hb; rw [upd_same] at q; cases q; exact h
  · rw [upd_ne hb] at q; exact fh _ _ q
/-- an object of nobody becomes data -/
theorem StOk.freeze {K : PySem.W.Frag} {α : Nat → Addr} {F H : Hp} {σ : Sl} {a : Addr} {o : HO} (s : StOk K α F H σ δ) (h : H a = some o) (hF : F a = none) (hn : ∀ i, isOwn (look δ i) = true → α i ≠ a) :
    StOk K α (upd F a o) H σ δ := by
  refine ⟨same_in s.fh h, s.len, fun i => ?_, s.inj⟩
  have q := s.slot i
  have m : Same F (upd F a o) := same_upd hF
  have own : ∀ {d : D}, isOwn (look δ i) = true → σ[i]? = some (some (.ref (α i))) ∧ F (α i) = none ∧ OwnR K F H (α i) d → σ[i]? = some (some (.ref (α i))) ∧ (upd F a o) (α i) = none ∧ OwnR K (upd F a o) H (α i) d := fun {d} hi ⟨h1, h2, h3⟩ =>
    ⟨h1, by rw [upd_ne (hn i hi)]; exact h2, h3.grow m rfl⟩
  cases e : look δ i with
  | un => trivial
  | dat d => rw [e] at q; obtain ⟨v, h1, h2⟩ := q; exact ⟨v, h1, h2.mono m⟩
  | own d => rw [e] at q; exact own (by rw [e]; rfl) q
  | par d => rw [e] at q; exact own (by rw [e]; rfl) q
/-- an address new to the state is none of the frame's own -/
theorem StOk.fresh {K : PySem.W.Frag} {α : Nat → Addr} {F H : Hp} {σ : Sl} {a : Addr} (s : StOk K α F H σ δ) (h : H a = none) : ∀ i, isOwn (look δ i) = true → α i ≠ a := fun i hi z => by
  obtain ⟨d, _, _, q⟩ := s.own hi
  exact q.some (by rw [z]; exact h)
theorem NvD.ev (h : NvD X δ e ds δ') : EvD X δ e (.lst ds) δ' := by
  refine ⟨h.kd, fun α σ H F Q st k => h.run α σ H F Q st fun a vs F' H' ha hF' sp st' hl r => ?_⟩
  refine k _ (upd F' a (.lst vs)) H' (sp.freeze st'.fh (Same.none st.fh ha) ha hl) (st'.freeze hl hF' fun i hi => st.fresh ha i (by rw [← h.kd.own i]; exact hi)) (.lst upd_same (r.mono (same_upd hF')))
theorem MvD.ev {ks : List (Str × D)} (h : MvD X δ e ks δ') : EvD X δ e (.dct ks) δ' := by
  refine ⟨h.kd, fun α σ H F Q st k => h.run α σ H F Q st fun a vs F' H' ha hF' sp st' hl r => ?_⟩
  refine k _ (upd F' a (.dK vs)) H' (sp.freeze st'.fh (Same.none st.fh ha) ha hl) (st'.freeze hl hF' fun i hi => st.fresh ha i (by rw [← h.kd.own i]; exact hi)) (.dct (.inl upd_same) (r.mono (same_upd hF')))
theorem EvD.cast (h : EvD X δ e d δ') (q : d = x) : EvD X δ e x δ' := q ▸ h
theorem EvD.castS (h : EvD X δ e d δ1) (q : d = x) (q2 : δ1 = δ') : EvD X δ e x δ' := by subst q; subst q2; exact h
theorem TvD.cast {p q : Bool} (h : TvD X δ e p δ') (z : p = q) : TvD X δ e q δ' := z ▸ h

/-! ### names and constants -/
theorem slot_dat {K : PySem.W.Frag} {α : Nat → Addr} {F H : Hp} {σ : Sl} {i : Nat} (s : StOk K α F H σ δ) (h : look δ i = .dat d) : ∃ v, σ[i]? = some (some v) ∧ Rep K F v d := by
  have q := s.slot i
  rw [h] at q
  exact q
theorem e_var {i : Nat} {x : Str} (hN : X.N[i]? = some x) (hv : Vis X.env.scope x) (h : look δ i = .dat d) (hd : (x == ("__debug__" : Str)) = false := by decide) (hcd : (x == ("__classdict__" : Str)) = false := by decide) : EvD X δ (.Name x pos) d δ := by
  refine ⟨Kd.refl _, fun α σ H F Q st k => ?_⟩
  obtain ⟨v, h1, h2⟩ := slot_dat st h
  exact .of (pe_var hN hv hd hcd) ⟨v, h1, k v F H .refl st h2⟩
theorem e_int {i j} : EvD X δ (.Constant (.int i) j pos) (.int i) δ := ⟨Kd.refl _, fun α σ H F Q st k => .of pe_int (k _ F H .refl st (.int i))⟩
theorem e_bl {b j} : EvD X δ (.Constant (.bool b) j pos) (.bl b) δ := ⟨Kd.refl _, fun α σ H F Q st k => .of pe_bl (k _ F H .refl st (.bl b))⟩
theorem e_non {j} : EvD X δ (.Constant .none j pos) .non δ := ⟨Kd.refl _, fun α σ H F Q st k => .of pe_non (k _ F H .refl st .non)⟩
theorem e_str {x : Str} {j} : EvD X δ (.Constant (.str x) j pos) (.str x) δ := ⟨Kd.refl _, fun α σ H F Q st k => .of pe_str (k _ F H .refl st (.str x))⟩
theorem e_globS {x z : Str} {t : Tok} (hg : Gl X x) (hm : X.mg x = some (.str z t)) (hd : (x == ("__debug__" : Str)) = false := by decide) : EvD X δ (.Name x pos) (.str z) δ :=
  ⟨Kd.refl _, fun α σ H F Q st k => .of (pe_glob (v := .str z) hg hm ⟨t, rfl⟩ hd) (k _ F H .refl st (.str z))⟩
theorem e_globI {x : Str} {z : Int} {t : Tok} (hg : Gl X x) (hm : X.mg x = some (.int z t)) (hd : (x == ("__debug__" : Str)) = false := by decide) : EvD X δ (.Name x pos) (.int z) δ :=
  ⟨Kd.refl _, fun α σ H F Q st k => .of (pe_glob (v := .int z) hg hm ⟨t, rfl⟩ hd) (k _ F H .refl st (.int z))⟩

/-! ### operators by data -/
/-- r of values of x and y gives a value of z -/
def Op2 (K : PySem.W.Frag) (r : R2) (x y z : D) : Prop := ∀ v u F H Q, Same F H → Rep K F v x → Rep K F u y → (∀ w F' H', Grow F H F' H' → Rep K F' w z → Q w H') → r v u H Q
def Op1 (K : PySem.W.Frag) (r : V → Hp → VK → Prop) (x z : D) : Prop := ∀ v F H Q, Same F H → Rep K F v x → (∀ w F' H', Grow F H F' H' → Rep K F' w z → Q w H') → r v H Q
def OpL (K : PySem.W.Frag) (r : List V → Hp → VK → Prop) (xs : List D) (z : D) : Prop := ∀ vs F H Q, Same F H → Reps K F vs xs → (∀ w F' H', Grow F H F' H' → Rep K F' w z → Q w H') → r vs H Q
/-- .. a new list -/
def OpLN (K : PySem.W.Frag) (r : List V → Hp → VK → Prop) (xs zs : List D) : Prop := ∀ vs F H Q, Same F H → Reps K F vs xs → (∀ a ws F' H', H a = none → F' a = none → Grow F H F' H' → H' a = some (.lst ws) → Reps K F' ws zs → Q (.ref a) H') → r vs H Q
def Op2N (K : PySem.W.Frag) (r : R2) (x y : D) (zs : List D) : Prop := ∀ v u F H Q, Same F H → Rep K F v x → Rep K F u y → (∀ a ws F' H', H a = none → F' a = none → Grow F H F' H' → H' a = some (.lst ws) → Reps K F' ws zs → Q (.ref a) H') → r v u H Q
theorem two {α : Nat → Addr} {σ : Sl} {F H : Hp} {R : V → V → Hp → Prop} (ha : EvD X δ a x δ1) (hb : EvD X δ1 b y δ2) (st : StOk X.K α F H σ δ)
    (k : ∀ v u F2 H2, Step (OwnA α δ) F H F2 H2 → StOk X.K α F2 H2 σ δ2 → Rep X.K F2 v x → Rep X.K F2 u y → R v u H2) : twE X a σ H fun v H1 => twE X b σ H1 fun u H2 => R v u H2 := by
  refine ha.run α σ H F _ st fun v F1 H1 s1 st1 r1 => ?_
  refine hb.run α σ H1 F1 _ st1 fun u F2 H2 s2 st2 r2 => ?_
  exact k v u F2 H2 (s1.trans (s2.mono fun _ z => ha.kd.ownA z)) st2 (r1.mono s2.ff) r2
theorem e_op2 {op : Operator} {r : R2} (ho : OpR X (binaryOp op) r) (ha : EvD X δ a x δ1) (hb : EvD X δ1 b y δ2) (h : Op2 X.K r x y z) : EvD X δ (.BinOp a op b pos) z δ2 := by
  refine ⟨ha.kd.trans hb.kd, fun α σ H F Q st k => .of (pe_op ho pe_tw pe_tw) ?_⟩
  refine two ha hb st fun v u F2 H2 s2 st2 r1 r2 => h v u F2 H2 Q st2.fh r1 r2 fun w F3 H3 g r3 => ?_
  exact k w F3 H3 (s2.trans g.step) (st2.grow g) r3
theorem n_op2 {op : Operator} {r : R2} (ho : OpR X (binaryOp op) r) (ha : EvD X δ a x δ1) (hb : EvD X δ1 b y δ2) (h : Op2N X.K r x y ds) : NvD X δ (.BinOp a op b pos) ds δ2 := by
  refine ⟨ha.kd.trans hb.kd, fun α σ H F Q st k => .of (pe_op ho pe_tw pe_tw) ?_⟩
  refine two ha hb st fun v u F2 H2 s2 st2 r1 r2 => h v u F2 H2 Q st2.fh r1 r2 fun w ws F3 H3 hw hF g hl r3 => ?_
  refine k w ws F3 H3 ?_ hF (s2.trans g.step) (st2.grow g) hl r3
  cases q : H w with
  | none => rfl
  | some o => exact absurd hw (s2.kp w (by rw [q]; simp))
theorem e_cmp2 {op : CmpOp} {r : R2} (ho : OpR X (compareOp op) r) (hm : behindInMarks op b = false) (ha : EvD X δ a x δ1) (hb : EvD X δ1 b y δ2) (h : Op2 X.K r x y z) : EvD X δ (.Compare a [op] [b] pos) z δ2 := by
  refine ⟨ha.kd.trans hb.kd, fun α σ H F Q st k => .of (pe_cmpR ho pe_tw pe_tw hm) ?_⟩
  refine two ha hb st fun v u F2 H2 s2 st2 r1 r2 => h v u F2 H2 Q st2.fh r1 r2 fun w F3 H3 g r3 => ?_
  exact k w F3 H3 (s2.trans g.step) (st2.grow g) r3
theorem t_cmp2 {op : CmpOp} {r : R2} {p : Bool} (ho : OpR X (compareOp op) r) (hm : behindInMarks op b = false) (ha : EvD X δ a x δ1) (hb : EvD X δ1 b y δ2) (h : Op2 X.K r x y (.bl p)) : TvD X δ (.Compare a [op] [b] pos) p δ2 := by
  refine ⟨ha.kd.trans hb.kd, fun α σ H F Q st k => .of (pt_cmpR ho pe_tw pe_tw hm) ?_⟩
  refine two ha hb st fun v u F2 H2 s2 st2 r1 r2 => h v u F2 H2 _ st2.fh r1 r2 fun w F3 H3 g r3 => ?_
  cases r3
  exact ⟨p, rfl, k F3 H3 (s2.trans g.step) (st2.grow g)⟩
theorem e_un {op : UnaryOp} {r : V → Hp → VK → Prop} (ho : UnR X (unaryOp op) r) (ha : EvD X δ a x δ1) (h : Op1 X.K r x z) : EvD X δ (.UnaryOp op a pos) z δ1 := by
  refine ⟨ha.kd, fun α σ H F Q st k => .of (pe_un ho pe_tw) ?_⟩
  refine ha.run α σ H F _ st fun v F1 H1 s1 st1 r1 => h v F1 H1 Q st1.fh r1 fun w F3 H3 g r3 => ?_
  exact k w F3 H3 (s1.trans g.step) (st1.grow g) r3
end
end ND

/-! NDc -/
set_option Elab.async false
set_option linter.all false
set_option maxRecDepth 100000
set_option maxHeartbeats 4000000
namespace ND
open PySem PySem.Spec PyProof.Rows L2
section
variable {X : Cx} {δ δ' δ1 δ2 δ3 : DEnv} {e a b c : Expr} {es rest : List Expr} {pos : Pos} {d x y z : D} {ds : List D} {p q : Bool}

/-! ### truth -/
theorem bl_of {K : PySem.W.Frag} {F : Hp} {v : V} {p : Bool} (r : Rep K F v (.bl p)) : v = .bl p := by cases r; rfl
theorem int_of {K : PySem.W.Frag} {F : Hp} {v : V} {p : Int} (r : Rep K F v (.int p)) : v = .int p := by cases r; rfl
theorem str_of {K : PySem.W.Frag} {F : Hp} {v : V} {p : Str} (r : Rep K F v (.str p)) : v = .str p := by cases r; rfl
/-- a chain of two comparisons of ints or texts, δ unchanged -/
theorem e_chain {op op' : CmpOp} {r r' : R2} (ho : OpR X (compareOp op) r) (ho' : OpR X (compareOp op') r') (ha : EvD X δ a x δ) (hb : EvD X δ b y δ) (hc : EvD X δ c z δ)
    (h : Op2 X.K r x y (.bl p)) (h' : Op2 X.K r' y z (.bl q)) (hm : lastMarks [op, op'] [b, c] = false := by with_unfolding_all rfl) : EvD X δ (.Compare a [op, op'] [b, c] pos) (.bl (p && q)) δ := by
  refine ⟨Kd.refl _, fun α σ H F Q st k => .of (pe_chain ho ho' pe_tw pe_tw pe_tw hm) ?_⟩
  refine two ha hb st fun v u F2 H2 s2 st2 r1 r2 => h v u F2 H2 _ st2.fh r1 r2 fun w F3 H3 g r3 => ?_
  have st3 := st2.grow g
  refine ⟨p, bl_of r3, ?_⟩
  cases p with
  | false => exact iteF (k _ F3 H3 (s2.trans g.step) st3 (.bl _))
  | true =>
    refine iteT (hc.run α σ H3 F3 _ st3 fun w' F4 H4 s4 st4 r4 => h' u w' F4 H4 _ st4.fh (r2.mono (g.ff.trans s4.ff)) r4 fun w5 F5 H5 g5 r5 => ?_)
    exact k w5 F5 H5 ((s2.trans g.step).trans (s4.trans g5.step)) (st4.grow g5) r5

theorem e_one {op} (ha : EvD X δ a x δ1) : EvD X δ (.BoolOp op [a] pos) x δ1 := ⟨ha.kd, fun α σ H F Q st k => .of (pe_one pe_tw) (ha.run α σ H F Q st k)⟩
theorem e_and (ha : EvD X δ a (.bl p) δ) (hb : p = true → EvD X δ (.BoolOp .And (b :: rest) pos) (.bl q) δ) : EvD X δ (.BoolOp .And (a :: b :: rest) pos) (.bl (p && q)) δ := by
  refine ⟨Kd.refl _, fun α σ H F Q st k => .of (pe_and pe_tw pe_tw) ?_⟩
  refine ha.run α σ H F _ st fun v F1 H1 s1 st1 r1 => ⟨p, bl_of r1, ?_⟩
  cases p with
  | false => exact iteF (k _ F1 H1 s1 st1 (.bl _))
  | true => exact iteT ((hb rfl).run α σ H1 F1 _ st1 fun u F2 H2 s2 st2 r2 => k u F2 H2 (s1.trans s2) st2 r2)
theorem e_or (ha : EvD X δ a (.bl p) δ) (hb : p = false → EvD X δ (.BoolOp .Or (b :: rest) pos) (.bl q) δ) : EvD X δ (.BoolOp .Or (a :: b :: rest) pos) (.bl (p || q)) δ := by
  refine ⟨Kd.refl _, fun α σ H F Q st k => .of (pe_or pe_tw pe_tw) ?_⟩
  refine ha.run α σ H F _ st fun v F1 H1 s1 st1 r1 => ⟨p, bl_of r1, ?_⟩
  cases p with
  | true => exact iteT (k _ F1 H1 s1 st1 (.bl _))
  | false => exact iteF ((hb rfl).run α σ H1 F1 _ st1 fun u F2 H2 s2 st2 r2 => k u F2 H2 (s1.trans s2) st2 r2)
theorem e_not (ha : EvD X δ a (.bl p) δ1) : EvD X δ (.UnaryOp .Not a pos) (.bl (!p)) δ1 := by
  refine ⟨ha.kd, fun α σ H F Q st k => .of (pe_not pe_tw) ?_⟩
  exact ha.run α σ H F _ st fun v F1 H1 s1 st1 r1 => ⟨p, bl_of r1, k _ F1 H1 s1 st1 (.bl _)⟩
theorem e_ifExp (hc : TvD X δ c p δ1) (ha : p = true → EvD X δ1 a x δ1) (hb : p = false → EvD X δ1 b y δ1) : EvD X δ (.IfExp c a b pos) (bif p then x else y) δ1 := by
  refine ⟨hc.kd, fun α σ H F Q st k => .of (pe_ifExp pt_tw pe_tw pe_tw) ?_⟩
  refine hc.run α σ H F _ st fun F1 H1 s1 st1 => ?_
  cases p with
  | true => exact iteT ((ha rfl).run α σ H1 F1 _ st1 fun u F2 H2 s2 st2 r2 => k u F2 H2 (s1.trans (s2.mono fun _ z => hc.kd.ownA z)) st2 r2)
  | false => exact iteF ((hb rfl).run α σ H1 F1 _ st1 fun u F2 H2 s2 st2 r2 => k u F2 H2 (s1.trans (s2.mono fun _ z => hc.kd.ownA z)) st2 r2)
/-- tests -/
theorem t_val (ha : EvD X δ e (.bl p) δ1) (he : ∀ whole, isTrue e X.env whole = (do let v ← whole; standAt e.pos; holding [v] (truthy v)) := by intro _; rfl) : TvD X δ e p δ1 :=
  ⟨ha.kd, fun α σ H F Q st k => .of (pt_val pe_tw he) (ha.run α σ H F _ st fun v F1 H1 s1 st1 r1 => ⟨p, bl_of r1, k F1 H1 s1 st1⟩)⟩
theorem w_and1 (ha : TvD X δ a p δ1) : WvD X δ (.BoolOp .And [a] pos) p δ1 := ⟨ha.kd, fun α σ H F Q st k => .of (pw_and1 pt_tw) (ha.run α σ H F Q st k)⟩
theorem w_or1 (ha : TvD X δ a p δ1) : WvD X δ (.BoolOp .Or [a] pos) p δ1 := ⟨ha.kd, fun α σ H F Q st k => .of (pw_or1 pt_tw) (ha.run α σ H F Q st k)⟩
theorem w_and (ha : TvD X δ a p δ) (hb : p = true → WvD X δ (.BoolOp .And (b :: rest) pos) q δ) : WvD X δ (.BoolOp .And (a :: b :: rest) pos) (p && q) δ := by
  refine ⟨Kd.refl _, fun α σ H F Q st k => .of (pw_and pt_tw pw_tw) ?_⟩
  refine ha.run α σ H F _ st fun F1 H1 s1 st1 => ?_
  cases p with
  | false => exact iteF (k F1 H1 s1 st1)
  | true => exact iteT ((hb rfl).run α σ H1 F1 _ st1 fun F2 H2 s2 st2 => k F2 H2 (s1.trans s2) st2)
theorem w_or (ha : TvD X δ a p δ) (hb : p = false → WvD X δ (.BoolOp .Or (b :: rest) pos) q δ) : WvD X δ (.BoolOp .Or (a :: b :: rest) pos) (p || q) δ := by
  refine ⟨Kd.refl _, fun α σ H F Q st k => .of (pw_or pt_tw pw_tw) ?_⟩
  refine ha.run α σ H F _ st fun F1 H1 s1 st1 => ?_
  cases p with
  | true => exact iteT (k F1 H1 s1 st1)
  | false => exact iteF ((hb rfl).run α σ H1 F1 _ st1 fun F2 H2 s2 st2 => k F2 H2 (s1.trans s2) st2)
theorem t_w (h : WvD X δ e p δ1) : TvD X δ e p δ1 := ⟨h.kd, fun α σ H F Q st k => .of pw_tw.pt (h.run α σ H F Q st k)⟩
theorem t_not (ha : TvD X δ a p δ1) : TvD X δ (.UnaryOp .Not a pos) (!p) δ1 := ⟨ha.kd, fun α σ H F Q st k => .of (pt_not pt_tw) (ha.run α σ H F _ st k)⟩

/-! ### arguments -/
theorem a_nil : AvD X δ [] [] δ := ⟨Kd.refl _, fun α σ H F Q st k => .of pa_nil (k [] F H .refl st .nil)⟩
theorem a_cons (ha : EvD X δ e d δ1) (hb : AvD X δ1 es ds δ2) (hs : starEach (e :: es) X.env = (false, eval e X.env) :: starEach es X.env := by rfl) : AvD X δ (e :: es) (d :: ds) δ2 := by
  refine ⟨ha.kd.trans hb.kd, fun α σ H F Q st k => .of (pa_cons pe_tw pa_tw hs) ?_⟩
  refine ha.run α σ H F _ st fun v F1 H1 s1 st1 r1 => hb.run α σ H1 F1 _ st1 fun vs F2 H2 s2 st2 r2 => ?_
  exact k _ F2 H2 (s1.trans (s2.mono fun _ z => ha.kd.ownA z)) st2 (.cons (r1.mono s2.ff) r2)
theorem m_nil : AmD X δ [] [] δ := ⟨Kd.refl _, fun α σ H F Q st k => .of pa_nil (k [] F H .refl st trivial)⟩
theorem ArOk.mono {K : PySem.W.Frag} {α : Nat → Addr} {F F' : Hp} (m : Same F F') : ∀ {vs : List V} {as : List Ar}, ArOk K α F vs as → ArOk K α F' vs as
  | [], [], _ => trivial
  | [], _ :: _, h => h
  | _ :: _, [], h => h
  | v :: vs, .dat d :: as, h => ⟨h.1.mono m, ArOk.mono m h.2⟩
  | v :: vs, .own i :: as, h => ⟨h.1, ArOk.mono m h.2⟩
theorem m_dat {as : List Ar} (ha : EvD X δ e d δ1) (hb : AmD X δ1 es as δ2) (hs : starEach (e :: es) X.env = (false, eval e X.env) :: starEach es X.env := by rfl) : AmD X δ (e :: es) (.dat d :: as) δ2 := by
  refine ⟨ha.kd.trans hb.kd, fun α σ H F Q st k => .of (pa_cons pe_tw pa_tw hs) ?_⟩
  refine ha.run α σ H F _ st fun v F1 H1 s1 st1 r1 => hb.run α σ H1 F1 _ st1 fun vs F2 H2 s2 st2 r2 => ?_
  exact k _ F2 H2 (s1.trans (s2.mono fun _ z => ha.kd.ownA z)) st2 ⟨r1.mono s2.ff, r2⟩
theorem m_own {as : List Ar} {i : Nat} {x : Str} (hN : X.N[i]? = some x) (hv : Vis X.env.scope x) (h : isOwn (look δ i) = true) (hb : AmD X δ es as δ2) (hs : starEach (.Name x pos :: es) X.env = (false, eval (.Name x pos) X.env) :: starEach es X.env := by rfl)
    (hd : (x == ("__debug__" : Str)) = false := by decide) (hcd : (x == ("__classdict__" : Str)) = false := by decide) : AmD X δ (.Name x pos :: es) (.own i :: as) δ2 := by
  refine ⟨hb.kd, fun α σ H F Q st k => .of (pa_cons (pe_var hN hv hd hcd) pa_tw hs) ?_⟩
  obtain ⟨d, h1, h2, h3⟩ := st.own h
  refine ⟨_, h1, hb.run α σ H F _ st fun vs F2 H2 s2 st2 r2 => k _ F2 H2 s2 st2 ⟨rfl, r2⟩⟩

/-! ### displays -/
/-- a tuple display, the object known -/
def tTupF (t : TA) : TE := fun σ H Q => t σ H fun xs H1 => xs.length ≤ sizeLine ∧ ∀ p ob, H1 p = none → ob.dict = none → Q (.ref p) (upd H1 p (.frz ob (.tup xs)))
theorem pe_tupF {x1} {t : TA} (h : PA X es t) : PE X (.Tuple es x1 pos) (tTupF t) := by
  refine ⟨fun pins s σ H Q I hq => ?_⟩
  refine wpAny_Tuple_spliced (thn (h.run pos pins s σ H _ I hq) fun us s1 ⟨xs, H1, I1, r, z, q⟩ => ⟨by rw [← r.length]; exact z, ?_⟩)
  have hf : H1 s1.heap.objs.size = none := I1.hok.fresh (Nat.le_refl _)
  refine ⟨.ref s1.heap.objs.size, upd H1 s1.heap.objs.size (.frz { cls := .type "tuple", data := .seq us.toArray } (.tup xs)), I1.laid (t' := s1.toks) (fun b u e => Heap.get?_push_of_some _ e) (Nat.le_refl _) ?_, rfl, q _ _ hf rfl⟩
  exact ⟨Heap.get?_push_size _ rfl, z, us, r, ⟨_, Heap.get?_push_size _ rfl, rfl, _, rfl⟩⟩
theorem call_tupleF : CallR X (.type "tuple") (fun xs H Q => ∃ p ys, xs = [.ref p] ∧ SqL X.K H p ys ∧ ∀ l ob, H l = none → ob.dict = none → Q (.ref l) (upd H l (.frz ob (.tup ys)))) := by
  intro pins s σ H xs us Q I r h
  obtain ⟨p, ys, rfl, hq, q⟩ := h
  obtain ⟨u, rfl, rx⟩ := vals1 r
  cases rx
  obtain ⟨its, r', pl, hz⟩ := I.list hq
  have hlen := r'.length
  refine call_tuple_list pl.isList (fun h' kp => ?_) (by simp only [List.size_toArray] <;> omega)
  have I1 : Inv X pins σ H { s with heap := h' } := I.kept (t' := s.toks) kp
  have I2 : Inv X pins σ (upd H h'.objs.size (.frz { cls := .type "tuple", data := .seq its.toArray } (.tup ys))) { s with heap := h'.push { cls := .type "tuple", data := .seq its.toArray } } :=
    I1.laid (t' := s.toks) (fun b o e => Heap.get?_push_of_some _ e) (Nat.le_refl _) (show ObjOk X.prog X.w _ _ _ (.frz _ (.tup ys)) from ⟨Heap.get?_push_size _ rfl, hz, its, r', IsTup.new _ _⟩)
  exact ⟨.ref h'.objs.size, _, I2, rfl, q _ _ (I1.hok.fresh (Nat.le_refl _)) rfl⟩
def rCatF (K : PySem.W.Frag) : R2 := fun x y H Q => ∃ a b xs ys, x = .ref a ∧ y = .ref b ∧ SqT K H a xs ∧ SqT K H b ys ∧ xs ≠ [] ∧ xs.length + ys.length ≤ sizeLine ∧
  (ys = [] → Q (.ref a) H) ∧ (ys ≠ [] → ∀ p ob, H p = none → ob.dict = none → Q (.ref p) (upd H p (.frz ob (.tup (xs ++ ys)))))
theorem op_catF : OpR X (binaryOp .Add) (rCatF X.K) := by
  intro pins s σ H x y v u Q I rx ry h
  obtain ⟨a, b, xs, ys, rfl, rfl, ha, hb, hx, hz, q1, q2⟩ := h
  cases rx
  cases ry
  obtain ⟨its, r1, p1, _⟩ := I.tuple ha
  obtain ⟨its2, r2, p2, _⟩ := I.tuple hb
  refine HT.cat_tup p1 p2 (fun z => hx (r1.nil_iff.mp z)) (fun z => ⟨.ref a, H, I, rfl, q1 (r2.nil_iff.mp z)⟩) (fun z => ?_) (by rw [← r1.length, ← r2.length]; exact hz)
  refine ⟨.ref s.heap.objs.size, _, I.laid (t' := s.toks) (o := .frz { cls := .type "tuple", data := .seq (its ++ its2).toArray } (.tup (xs ++ ys))) (fun b ob q => Heap.get?_push_of_some _ q) (Nat.le_refl _) ?_, rfl, q2 (fun w => z (r2.nil_iff.mpr w)) _ _ (I.hok.fresh (Nat.le_refl _)) rfl⟩
  exact ⟨Heap.get?_push_size _ rfl, by rw [List.length_append]; exact hz, _, r1.append r2, IsTup.new _ _⟩
def rSlF (K : PySem.W.Frag) : V → Option Int → Option Int → Hp → VK → Prop := fun x lo hi H Q => ∃ a xs, x = .ref a ∧ SqT K H a xs ∧
  (HT.sIx xs.length 0 lo = 0 ∧ HT.sIx xs.length xs.length hi = xs.length → Q (.ref a) H) ∧ (¬ (HT.sIx xs.length 0 lo = 0 ∧ HT.sIx xs.length xs.length hi = xs.length) → ∀ p ob, H p = none → ob.dict = none → Q (.ref p) (upd H p (.frz ob (.tup (cutV xs lo hi)))))
theorem sl_tupF : SlR X (rSlF X.K) := by
  intro pins s σ H x v vl vu lo hi sl Q I rx hs pl pu h
  obtain ⟨a, xs, rfl, hx, q1, q2⟩ := h
  cases rx
  obtain ⟨its, r, ht, hz⟩ := I.tuple hx
  have hlen : its.toArray.size = xs.length := by rw [List.size_toArray]; exact r.length.symm
  refine ⟨"tuple", _, PyProof.Rows.slot_tuple_getitem.lookup, ht.typeIs, ?_⟩
  by_cases hw : HT.sIx xs.length 0 lo = 0 ∧ HT.sIx xs.length xs.length hi = xs.length
  · exact getItem_tuple_whole ht hs pl pu (by rw [hlen]; exact hw) ⟨.ref a, H, I, rfl, q1 hw⟩
  · refine HT.getItem_tuple_cut ht hs pl pu (by rw [hlen]; exact hw) ?_ (by rw [hlen]; exact hz)
    rw [hlen]
    refine ⟨.ref s.heap.objs.size, _, I.laid (t' := s.toks) (o := .frz { cls := .type "tuple", data := .seq (List.take (HT.sIx xs.length xs.length hi - HT.sIx xs.length 0 lo) (List.drop (HT.sIx xs.length 0 lo) its.toArray.toList)).toArray } (.tup (cutV xs lo hi))) (fun b ob q => Heap.get?_push_of_some _ q) (Nat.le_refl _) ?_, rfl, q2 hw _ _ (I.hok.fresh (Nat.le_refl _)) rfl⟩
    exact ⟨Heap.get?_push_size _ rfl, Nat.le_trans (cutV_length xs lo hi) hz, _, (r.drop (HT.sIx xs.length 0 lo)).take (HT.sIx xs.length xs.length hi - HT.sIx xs.length 0 lo), IsTup.new _ _⟩
theorem e_tup {k} (h : AvD X δ es ds δ1) (hl : ds.length ≤ sizeLine := by decide) : EvD X δ (.Tuple es k pos) (.tup ds) δ1 := by
  refine ⟨h.kd, fun α σ H F Q st k => .of (pe_tupF pa_tw) ?_⟩
  refine h.run α σ H F _ st fun vs F1 H1 s1 st1 r1 => ⟨by rw [r1.length]; exact hl, fun p ob hp hob => ?_⟩
  have g : Grow F1 H1 _ _ := Grow.new (o := .frz ob (.tup vs)) st1.fh hp
  exact k _ _ _ (s1.trans g.step) (st1.grow g) (.tup (.nw hob) (r1.mono g.ff))
theorem n_lst (h : AvD X δ es ds δ1) (hl : ds.length ≤ sizeLine := by decide) : NvD X δ (.List es pos) ds δ1 := by
  refine ⟨h.kd, fun α σ H F Q st k => .of (pe_lst pa_tw) ?_⟩
  refine h.run α σ H F _ st fun vs F1 H1 s1 st1 r1 => ⟨by rw [r1.length]; exact hl, fun p hp => ?_⟩
  have g : Grow F1 H1 F1 _ := Grow.newH (o := .lst vs) st1.fh hp
  have h0 : H p = none := by
    cases q : H p with
    | none => rfl
    | some o => exact absurd hp (s1.kp p (by rw [q]; simp))
  exact k p vs F1 _ h0 (Same.none st1.fh hp) (s1.trans g.step) (st1.grow g) upd_same r1

/-! ### calls of built-ins -/
section
variable {id T : String} {r : List V → Hp → VK → Prop} {x : Str} {p : Pos} {zs : List D}
theorem e_callB (hc : CallR X (.builtin id) r) (hg : Gl X x) (hm : X.mg x = none) (hv : bootBuiltins x = some (.builtin id)) (ha : AvD X δ (e :: es) ds δ1) (h : OpL X.K r ds z) (hn : x ≠ "__name__" := by decide) (hdb : (x == ("__debug__" : Str)) = false := by decide)
    (he : starEach (e :: es) X.env = (false, eval e X.env) :: starEach es X.env := by rfl) (hpl : (backTo pos (starEach es X.env)).any (·.1) = false := by rfl) : EvD X δ (.Call (.Name x p) (e :: es) [] pos) z δ1 := by
  refine ⟨ha.kd, fun α σ H F Q st k => .of (pe_callB hc hg hm hv pa_tw hn hdb he hpl) ?_⟩
  refine ha.run α σ H F _ st fun vs F1 H1 s1 st1 r1 => h vs F1 H1 Q st1.fh r1 fun w F2 H2 g r2 => ?_
  exact k w F2 H2 (s1.trans g.step) (st1.grow g) r2
theorem e_callTy (hc : CallR X (.type T) r) (hg : Gl X x) (hm : X.mg x = none) (hv : bootBuiltins x = some (.type T)) (ha : AvD X δ (e :: es) ds δ1) (h : OpL X.K r ds z) (hn : x ≠ "__name__" := by decide) (hdb : (x == ("__debug__" : Str)) = false := by decide)
    (he : starEach (e :: es) X.env = (false, eval e X.env) :: starEach es X.env := by rfl) (hpl : (backTo pos (starEach es X.env)).any (·.1) = false := by rfl) : EvD X δ (.Call (.Name x p) (e :: es) [] pos) z δ1 := by
  refine ⟨ha.kd, fun α σ H F Q st k => .of (pe_callTy hc hg hm hv pa_tw hn hdb he hpl) ?_⟩
  refine ha.run α σ H F _ st fun vs F1 H1 s1 st1 r1 => h vs F1 H1 Q st1.fh r1 fun w F2 H2 g r2 => ?_
  exact k w F2 H2 (s1.trans g.step) (st1.grow g) r2
theorem n_callB (hc : CallR X (.builtin id) r) (hg : Gl X x) (hm : X.mg x = none) (hv : bootBuiltins x = some (.builtin id)) (ha : AvD X δ (e :: es) ds δ1) (h : OpLN X.K r ds zs) (hn : x ≠ "__name__" := by decide) (hdb : (x == ("__debug__" : Str)) = false := by decide)
    (he : starEach (e :: es) X.env = (false, eval e X.env) :: starEach es X.env := by rfl) (hpl : (backTo pos (starEach es X.env)).any (·.1) = false := by rfl) : NvD X δ (.Call (.Name x p) (e :: es) [] pos) zs δ1 := by
  refine ⟨ha.kd, fun α σ H F Q st k => .of (pe_callB hc hg hm hv pa_tw hn hdb he hpl) ?_⟩
  refine ha.run α σ H F _ st fun vs F1 H1 s1 st1 r1 => h vs F1 H1 Q st1.fh r1 fun w ws F2 H2 hw hF g hl r2 => ?_
  refine k w ws F2 H2 ?_ hF (s1.trans g.step) (st1.grow g) hl r2
  cases q : H w with
  | none => rfl
  | some o => exact absurd hw (s1.kp w (by rw [q]; simp))
theorem n_callTy (hc : CallR X (.type T) r) (hg : Gl X x) (hm : X.mg x = none) (hv : bootBuiltins x = some (.type T)) (ha : AvD X δ (e :: es) ds δ1) (h : OpLN X.K r ds zs) (hn : x ≠ "__name__" := by decide) (hdb : (x == ("__debug__" : Str)) = false := by decide)
    (he : starEach (e :: es) X.env = (false, eval e X.env) :: starEach es X.env := by rfl) (hpl : (backTo pos (starEach es X.env)).any (·.1) = false := by rfl) : NvD X δ (.Call (.Name x p) (e :: es) [] pos) zs δ1 := by
  refine ⟨ha.kd, fun α σ H F Q st k => .of (pe_callTy hc hg hm hv pa_tw hn hdb he hpl) ?_⟩
  refine ha.run α σ H F _ st fun vs F1 H1 s1 st1 r1 => h vs F1 H1 Q st1.fh r1 fun w ws F2 H2 hw hF g hl r2 => ?_
  refine k w ws F2 H2 ?_ hF (s1.trans g.step) (st1.grow g) hl r2
  cases q : H w with
  | none => rfl
  | some o => exact absurd hw (s1.kp w (by rw [q]; simp))
end

/-! ### what the rules of the layer ask, of data -/
variable {K : PySem.W.Frag}
theorem Rep.seqT {F : Hp} {v : V} {ds : List D} (r : Rep K F v (.tup ds)) : ∃ a vs, v = .ref a ∧ TupF F a vs ∧ Reps K F vs ds := by
  cases r with
  | tup h r => exact ⟨_, _, rfl, h, r⟩
theorem Rep.seqS {F : Hp} {v : V} {ds : List D} (r : Rep K F v (.sft ds)) : ∃ a vs, v = .ref a ∧ F a = some (.tup vs) ∧ Reps K F vs ds := by
  cases r with
  | sft h r => exact ⟨_, _, rfl, h, r⟩
theorem Rep.seqL {F : Hp} {v : V} {ds : List D} (r : Rep K F v (.lst ds)) : ∃ a vs, v = .ref a ∧ F a = some (.lst vs) ∧ Reps K F vs ds := by
  cases r with
  | lst h r => exact ⟨_, _, rfl, h, r⟩
theorem Rep.dict {F : Hp} {v : V} {ks : List (Str × D)} (r : Rep K F v (.dct ks)) : ∃ a kvs, v = .ref a ∧ Rd F a (.dK kvs) ∧ RepK K F kvs ks := by
  cases r with
  | dct h r => exact ⟨_, _, rfl, h, r⟩
theorem o2_int {g : Int → Int → Int} {i j : Int} : Op2 K (rI0 fun i j => .int (g i j)) (.int i) (.int j) (.int (g i j)) := fun v u F H Q fh r1 r2 k => by
  cases r1; cases r2
  exact ⟨i, j, rfl, rfl, k _ F H (Grow.refl fh) (.int _)⟩
theorem o2_intC {C : Int → Int → Prop} {g : Int → Int → Int} {i j : Int} (h : C i j) : Op2 K (rI C fun i j => .int (g i j)) (.int i) (.int j) (.int (g i j)) := fun v u F H Q fh r1 r2 k => by
  cases r1; cases r2
  exact ⟨i, j, rfl, rfl, h, k _ F H (Grow.refl fh) (.int _)⟩
theorem o2_intB {g : Int → Int → Bool} {i j : Int} : Op2 K (rI0 fun i j => .bl (g i j)) (.int i) (.int j) (.bl (g i j)) := fun v u F H Q fh r1 r2 k => by
  cases r1; cases r2
  exact ⟨i, j, rfl, rfl, k _ F H (Grow.refl fh) (.bl _)⟩
end
end ND

/-! NDd -/
set_option Elab.async false
set_option linter.all false
set_option maxRecDepth 100000
set_option maxHeartbeats 4000000
namespace ND
open PySem PySem.Spec PyProof.Rows L2

/-! ### slots set in a row -/
def setL : Sl → List Nat → List V → Sl
  | σ, i :: is, v :: vs => setL (σ.set i (some v)) is vs
  | σ, _, _ => σ
def putL : DEnv → List (Nat × D) → DEnv
  | δ, [] => δ
  | δ, p :: ps => putL (put δ p.1 (.dat p.2)) ps
theorem setL_len : ∀ (is : List Nat) (vs : List V) (σ : Sl), (setL σ is vs).length = σ.length
  | [], vs, σ => by cases vs <;> rfl
  | i :: is, [], σ => rfl
  | i :: is, v :: vs, σ => by show (setL (σ.set i (some v)) is vs).length = _; rw [setL_len is vs]; simp
theorem setL_out {j : Nat} : ∀ (is : List Nat) (vs : List V) (σ : Sl), j ∉ is → (setL σ is vs)[j]? = σ[j]?
  | [], vs, σ, _ => by cases vs <;> rfl
  | i :: is, [], σ, _ => rfl
  | i :: is, v :: vs, σ, h => by
    have h1 : j ≠ i := fun e => h (by rw [e]; exact List.mem_cons_self)
    have h2 : j ∉ is := fun e => h (List.mem_cons_of_mem _ e)
    show (setL (σ.set i (some v)) is vs)[j]? = _
    rw [setL_out is vs _ h2, List.getElem?_set_ne (Ne.symm h1)]
theorem look_putL_out {j : Nat} : ∀ (ps : List (Nat × D)) (δ : DEnv), j ∉ ps.map (·.1) → look (putL δ ps) j = look δ j
  | [], δ, _ => rfl
  | p :: ps, δ, h => by
    have h1 : p.1 ≠ j := fun e => h (by rw [← e]; exact List.mem_cons_self)
    have h2 : j ∉ ps.map (·.1) := fun e => h (List.mem_cons_of_mem _ e)
    show look (putL (put δ p.1 (.dat p.2)) ps) j = _
    rw [look_putL_out ps _ h2, look_put, if_neg h1]
theorem putL_len : ∀ (ps : List (Nat × D)) (δ : DEnv), (putL δ ps).length = δ.length
  | [], δ => rfl
  | p :: ps, δ => by show (putL (put δ p.1 (.dat p.2)) ps).length = _; rw [putL_len ps, put_len]

section
variable {K : PySem.W.Frag} {α : Nat → Addr} {F H F' H' : Hp} {σ σ' : Sl} {δ δ' : DEnv}
/-- one slot is stored -/
theorem StOk.set (s : StOk K α F H σ δ) {i : Nat} {v : V} {d : D} (r : Rep K F v d) (hn : isOwn (look δ i) = false) : StOk K α F H (σ.set i (some v)) (put δ i (.dat d)) := by
  refine ⟨s.fh, by rw [List.length_set, put_len]; exact s.len, fun j => ?_, fun a b ha hb e => ?_⟩
  · rw [look_put]
    by_cases h : i = j
    · subst h
      rw [if_pos rfl]
      by_cases hl : i < δ.length
      · rw [if_pos hl]
        exact ⟨v, by rw [List.getElem?_set_self (by rw [s.len]; exact hl)], r⟩
      · rw [if_neg hl]; trivial
    · rw [if_neg h]
      have q := s.slot j
      cases e : look δ j with
      | un => trivial
      | dat d' => rw [e] at q; obtain ⟨w, h1, h2⟩ := q; exact ⟨w, by rw [List.getElem?_set_ne h]; exact h1, h2⟩
      | own d' => rw [e] at q; exact ⟨by rw [List.getElem?_set_ne h]; exact q.1, q.2⟩
      | par d' => rw [e] at q; exact ⟨by rw [List.getElem?_set_ne h]; exact q.1, q.2⟩
  · have back : ∀ j, isOwn (look (put δ i (.dat d)) j) = true → isOwn (look δ j) = true := fun j hj => by
      rw [look_put] at hj
      by_cases h : i = j
      · rw [if_pos h] at hj; split at hj <;> cases hj
      · rw [if_neg h] at hj; exact hj
    exact s.inj a b (back a ha) (back b hb) e
theorem StOk.setL : ∀ (ps : List (Nat × D)) {vs : List V} {σ : Sl} {δ : DEnv}, StOk K α F H σ δ → Reps K F vs (ps.map (·.2)) → (∀ p ∈ ps, isOwn (look δ p.1) = false) → StOk K α F H (setL σ (ps.map (·.1)) vs) (putL δ ps)
  | [], vs, σ, δ, s, r, _ => by cases r; exact s
  | p :: ps, vs, σ, δ, s, r, hn => by
    cases r with
    | cons r rr =>
      refine StOk.setL ps (s.set r (hn p List.mem_cons_self)) rr fun q hq => ?_
      rw [look_put]
      split
      · split <;> rfl
      · exact hn q (List.mem_cons_of_mem _ hq)
/-- another store where nothing is known -/
theorem StOk.wipe (s : StOk K α F H σ δ) (hl : σ'.length = σ.length) (h : ∀ i, look δ i ≠ .un → σ'[i]? = σ[i]?) : StOk K α F H σ' δ := by
  refine ⟨s.fh, hl.trans s.len, fun i => ?_, s.inj⟩
  have q := s.slot i
  cases e : look δ i with
  | un => trivial
  | dat d => rw [e] at q; obtain ⟨v, h1, h2⟩ := q; exact ⟨v, (h i (by rw [e]; intro z; cases z)).trans h1, h2⟩
  | own d => rw [e] at q; exact ⟨(h i (by rw [e]; intro z; cases z)).trans q.1, q.2⟩
  | par d => rw [e] at q; exact ⟨(h i (by rw [e]; intro z; cases z)).trans q.1, q.2⟩
theorem StOk.forget (s : StOk K α F H σ δ) {i : Nat} : StOk K α F H σ (put δ i .un) := by
  refine ⟨s.fh, by rw [put_len]; exact s.len, fun j => ?_, fun a b ha hb e => ?_⟩
  · rw [look_put]
    by_cases h : i = j
    · rw [if_pos h]; split <;> trivial
    · rw [if_neg h]; exact s.slot j
  · have back : ∀ j, isOwn (look (put δ i .un) j) = true → isOwn (look δ j) = true := fun j hj => by
      rw [look_put] at hj
      by_cases h : i = j
      · rw [if_pos h] at hj; split at hj <;> cases hj
      · rw [if_neg h] at hj; exact hj
    exact s.inj a b (back a ha) (back b hb) e
end
theorem wipe_get {σ : Sl} {i : Nat} : ∀ {ws : List Nat}, i ∉ ws → (wipe σ ws)[i]? = σ[i]?
  | [], _ => rfl
  | w :: ws, h => by
    have h1 : w ≠ i := fun e => h (by rw [e]; exact List.mem_cons_self)
    have h2 : i ∉ ws := fun e => h (List.mem_cons_of_mem _ e)
    show ((wipe σ ws).set w none)[i]? = _
    rw [List.getElem?_set_ne h1, wipe_get h2]
theorem wipe_none {σ : Sl} {i : Nat} : ∀ {ws : List Nat}, i ∈ ws → i < σ.length → (wipe σ ws)[i]? = some none
  | w :: ws, h, hl => by
    show ((wipe σ ws).set w none)[i]? = _
    by_cases e : w = i
    · subst e; rw [List.getElem?_set_self (by rw [wipe_length]; exact hl)]
    · rw [List.getElem?_set_ne e]
      rcases List.mem_cons.mp h with z | z
      · exact absurd z.symm e
      · exact wipe_none z hl
theorem wipe_same {σ σ' : Sl} {ws : List Nat} (hl : σ'.length = σ.length) (h : ∀ i, i ∉ ws → σ'[i]? = σ[i]?) : wipe σ' ws = wipe σ ws := by
  apply List.ext_getElem?
  intro i
  by_cases hi : i ∈ ws
  · by_cases hb : i < σ.length
    · rw [wipe_none hi hb, wipe_none hi (by omega)]
    · rw [List.getElem?_eq_none (by rw [wipe_length]; omega), List.getElem?_eq_none (by rw [wipe_length]; omega)]
  · rw [wipe_get hi, wipe_get hi, h i hi]

/-! ### targets -/
/-- storing a datum d at tg stores the data at these slots -/
def GtD (X : Cx) (tg : Expr) (d : D) (ps : List (Nat × D)) : Prop := ∀ (σ : Sl) (H F : Hp) (v : V) (Q : Sl → Hp → Prop), Same F H → Rep X.K F v d →
  (∀ vs, Reps X.K F vs (ps.map (·.2)) → Q (setL σ (ps.map (·.1)) vs) H) → twG X tg v σ H Q
theorem g_name {X : Cx} {i : Nat} {x : Str} {pos : Pos} {d : D} (hN : X.N.Nodup) (hi : X.N[i]? = some x) (hx : Loc X.env.scope x) (hf : X.fn x = true ∨ X.env.scope.names.lookup x = some .local := by first | exact .inl rfl | exact .inr rfl | assumption) : GtD X (.Name x pos) d [(i, d)] := fun σ H F v Q fh r k =>
  .of (pg_name hN hi hx hf) (k [v] (.cons r .nil))
def GsD (X : Cx) (ts : List Expr) (ds : List D) (ps : List (Nat × D)) : Prop := ∀ (σ : Sl) (H F : Hp) (vs : List V), Same F H → Reps X.K F vs ds → ∀ (t : TGs), PGs X ts t → True
/-- a, b = a pair -/
theorem g_two {X : Cx} {i j : Nat} {x y : Str} {p1 p2 pos : Pos} {k : Nat} {d e : D} (hc : X.calm = true) (hN : X.N.Nodup) (hi : X.N[i]? = some x) (hj : X.N[j]? = some y) (hx : Loc X.env.scope x) (hy : Loc X.env.scope y)
    (hf : X.fn x = true ∨ X.env.scope.names.lookup x = some .local := by first | exact .inl rfl | exact .inr rfl | assumption) (hf2 : X.fn y = true ∨ X.env.scope.names.lookup y = some .local := by first | exact .inl rfl | exact .inr rfl | assumption) : GtD X (.Tuple [.Name x p1, .Name y p2] k pos) (.tup [d, e]) [(i, d), (j, e)] := fun σ H F v Q fh r kk => by
  obtain ⟨a, vs, rfl, ha, rr⟩ := r.seqT
  cases rr with
  | cons r1 rr => cases rr with
    | cons r2 rr =>
      cases rr
      refine .of (pg_tup hc (pgs_cons (pg_name hN hi hx hf) (pgs_cons (pg_name hN hj hy hf2) pgs_nil))) ?_
      exact ⟨a, _, rfl, (ha.up fh).sq, rfl, _, _, rfl, _, _, rfl, rfl, kk _ (.cons r1 (.cons r2 .nil))⟩

theorem g_twoS {X : Cx} {i j : Nat} {x y : Str} {p1 p2 pos : Pos} {k : Nat} {d e : D} (hc : X.calm = true) (hN : X.N.Nodup) (hi : X.N[i]? = some x) (hj : X.N[j]? = some y) (hx : Loc X.env.scope x) (hy : Loc X.env.scope y)
    (hf : X.fn x = true ∨ X.env.scope.names.lookup x = some .local := by first | exact .inl rfl | exact .inr rfl | assumption) (hf2 : X.fn y = true ∨ X.env.scope.names.lookup y = some .local := by first | exact .inl rfl | exact .inr rfl | assumption) : GtD X (.Tuple [.Name x p1, .Name y p2] k pos) (.sft [d, e]) [(i, d), (j, e)] := fun σ H F v Q fh r kk => by
  obtain ⟨a, vs, rfl, ha, rr⟩ := r.seqS
  cases rr with
  | cons r1 rr => cases rr with
    | cons r2 rr =>
      cases rr
      refine .of (pg_tup hc (pgs_cons (pg_name hN hi hx hf) (pgs_cons (pg_name hN hj hy hf2) pgs_nil))) ?_
      exact ⟨a, _, rfl, SqT.of (fh _ _ ha), rfl, _, _, rfl, _, _, rfl, rfl, kk _ (.cons r1 (.cons r2 .nil))⟩

/-! ### what is walked -/
/-- the frame's own objects as δ says -/
def OwnAll (K : PySem.W.Frag) (α : Nat → Addr) (F H : Hp) (δ : DEnv) : Prop := ∀ i, isOwn (look δ i) = true → ∀ d, (look δ i = .own d ∨ look δ i = .par d) → OwnR K F H (α i) d
theorem StOk.ownAll {K : PySem.W.Frag} {α : Nat → Addr} {F H : Hp} {σ : Sl} {δ : DEnv} (s : StOk K α F H σ δ) : OwnAll K α F H δ := fun i _ d h => by
  have q := s.slot i
  rcases h with h | h
  · rw [h] at q; exact q.2.2
  · rw [h] at q; exact q.2.2
structure ItOk (K : PySem.W.Frag) (G : Hp → Hp → Prop) (J : It) (l : List D) : Prop where
  len : l.length ≤ sizeLine
  go : ∀ i F H, G F H → i < l.length → J.go i H
  yld : ∀ i F H x H' d, G F H → Same F H → l[i]? = some d → J.yld i H x H' → ∃ F', Grow F H F' H' ∧ Rep K F' x d
  stop : ∀ i F H, G F H → l.length ≤ i → J.stop i H
/-- iter gives the data l, one after another; where a dict is walked it is locked meanwhile -/
inductive Lk (X : Cx) : Hp → Hp → Hp → Hp → Prop
  | no {F H : Hp} : Lk X F H F H
  | at {F H : Hp} {d : Addr} {od : Obj} {kvs : List (Key × V)} : F d = some (.dK kvs) → (∀ o' u', X.H_0 d ≠ some (.frz o' u')) → Lk X F H (upd F d (.frz od (.dK kvs))) (upd H d (.frz od (.dK kvs)))
structure ItL (X : Cx) (δ : DEnv) (tg iter : Expr) (l : List D) (δ1 δo : DEnv) : Prop where
  kd : Kd δ δ1
  run : ∀ (α : Nat → Addr) (σ : Sl) (H F : Hp) (R : It → Hp → Prop), StOk X.K α F H σ δ →
    (∀ J F1 H1 F' H', Step (OwnA α δ) F H F1 H1 → StOk X.K α F1 H1 σ δ1 → Lk X F1 H1 F' H' → ItOk X.K (fun F2 H2 => Same F' F2 ∧ Same F2 H2 ∧ OwnAll X.K α F2 H2 δo) J l → R J H') → twI X tg iter σ H R
structure ItD (X : Cx) (δ : DEnv) (tg iter : Expr) (l : List D) (δ1 : DEnv) : Prop where
  kd : Kd δ δ1
  run : ∀ (α : Nat → Addr) (σ : Sl) (H F : Hp) (R : It → Hp → Prop), StOk X.K α F H σ δ →
    (∀ J F1 H1, Step (OwnA α δ) F H F1 H1 → StOk X.K α F1 H1 σ δ1 → ItOk X.K (fun F2 H2 => Same F1 F2 ∧ Same F2 H2) J l → R J H1) → twI X tg iter σ H R
theorem ItOk.imp {K : PySem.W.Frag} {G G' : Hp → Hp → Prop} {J : It} {l : List D} (h : ItOk K G J l) (m : ∀ F H, G' F H → G F H) : ItOk K G' J l :=
  ⟨h.len, fun i F H g => h.go i F H (m _ _ g), fun i F H x H' d g => h.yld i F H x H' d (m _ _ g), fun i F H g => h.stop i F H (m _ _ g)⟩
theorem ItD.l {X : Cx} {δ δ1 : DEnv} {tg iter : Expr} {l : List D} (h : ItD X δ tg iter l δ1) : ItL X δ tg iter l δ1 [] :=
  ⟨h.kd, fun α σ H F R st k => h.run α σ H F R st fun J F1 H1 s1 st1 ok => k J F1 H1 F1 H1 s1 st1 .no (ok.imp fun F2 H2 g => ⟨g.1, g.2.1⟩)⟩
section
variable {X : Cx} {δ δ' δ1 δ2 : DEnv} {tg e iter : Expr} {es : List Expr} {pos : Pos} {d x y z : D} {ds : List D}
theorem sql_same {K : PySem.W.Frag} {F1 F2 H2 : Hp} {a : Addr} {vs : List V} (ha : F1 a = some (.lst vs)) (s1 : Same F1 F2) (s2 : Same F2 H2) : SqL K H2 a vs := SqL.of (s2 _ _ (s1 _ _ ha))
theorem it_list {K : PySem.W.Frag} {F1 : Hp} {a : Addr} {vs : List V} (ha : F1 a = some (.lst vs)) (r : Reps K F1 vs ds) (hl : ds.length ≤ sizeLine) : ItOk K (fun F2 H2 => Same F1 F2 ∧ Same F2 H2) (Itl K a) ds where
  len := hl
  go := fun i F H g hi => ⟨vs, vs[i]'(by rw [r.length]; exact hi), sql_same ha g.1 g.2, List.getElem?_eq_getElem _⟩
  yld := fun i F H x H' d g fh hd ⟨e, hy⟩ => by
    subst e
    obtain ⟨v, h1, h2⟩ := r.get hd
    have e2 : v = x := Option.some.inj (h1.symm.trans (hy vs (sql_same ha g.1 g.2)))
    subst e2
    exact ⟨F, Grow.refl fh, h2.mono g.1⟩
  stop := fun i F H g hi => ⟨vs, sql_same ha g.1 g.2, by rw [r.length]; exact hi⟩
theorem it_tup {K : PySem.W.Frag} {F1 : Hp} {a : Addr} {vs : List V} (ha : TupF F1 a vs) (r : Reps K F1 vs ds) (hl : ds.length ≤ sizeLine) : ItOk K (fun F2 H2 => Same F1 F2 ∧ Same F2 H2) (Itt K a) ds where
  len := hl
  go := fun i F H g hi => ⟨vs, vs[i]'(by rw [r.length]; exact hi), ((ha.up g.1).up g.2).sq, List.getElem?_eq_getElem _⟩
  yld := fun i F H x H' d g fh hd ⟨e, hy⟩ => by
    subst e
    obtain ⟨v, h1, h2⟩ := r.get hd
    have e2 : v = x := Option.some.inj (h1.symm.trans (hy vs (((ha.up g.1).up g.2).sq)))
    subst e2
    exact ⟨F, Grow.refl fh, h2.mono g.1⟩
  stop := fun i F H g hi => ⟨vs, ((ha.up g.1).up g.2).sq, by rw [r.length]; exact hi⟩
/-- behind an expression, with the invariant at hand -/
theorem twE.and {σ : Sl} {H : Hp} {Q : VK} (h : twE X e σ H fun v H' => (∃ pins s, Inv X pins σ H' s) → Q v H') : twE X e σ H Q := fun pins s I =>
  thn (h pins s I) fun u s1 ⟨v, H', I', r, q⟩ => ⟨v, H', I', r, q ⟨pins, s1, I'⟩⟩
theorem twA.and {σ : Sl} {H : Hp} {Q : List V → Hp → Prop} (h : twA X es σ H fun v H' => (∃ pins s, Inv X pins σ H' s) → Q v H') : twA X es σ H Q := fun pos pins s I =>
  thn (h pos pins s I) fun u s1 ⟨v, H', I', r, q⟩ => ⟨v, H', I', r, q ⟨pins, s1, I'⟩⟩
theorem i_list (h : EvD X δ e (.lst ds) δ1) : ItD X δ tg e ds δ1 := by
  refine ⟨h.kd, fun α σ H F R st k => .of (pi_list pe_tw) ?_⟩
  refine twE.and (h.run α σ H F _ st fun v F1 H1 s1 st1 r1 => ?_)
  rintro ⟨pins, s, I⟩
  obtain ⟨a, vs, rfl, ha, rr⟩ := r1.seqL
  have hs := SqL.of (K := X.K) (st1.fh _ _ ha)
  obtain ⟨_, _, _, hz⟩ := I.list hs
  exact ⟨a, rfl, ⟨vs, hs⟩, k _ F1 H1 s1 st1 (it_list ha rr (by rw [← rr.length]; exact hz))⟩
theorem i_tup (h : EvD X δ e (.tup ds) δ1) : ItD X δ tg e ds δ1 := by
  refine ⟨h.kd, fun α σ H F R st k => .of (pi_tup pe_tw) ?_⟩
  refine twE.and (h.run α σ H F _ st fun v F1 H1 s1 st1 r1 => ?_)
  rintro ⟨pins, s, I⟩
  obtain ⟨a, vs, rfl, ha, rr⟩ := r1.seqT
  have hs := (ha.up st1.fh).sq (K := X.K)
  obtain ⟨_, _, _, hz⟩ := I.tuple hs
  exact ⟨a, rfl, ⟨vs, hs⟩, k _ F1 H1 s1 st1 (it_tup ha rr (by rw [← rr.length]; exact hz))⟩
/-- over the frame's own list (in a comprehension) -/
theorem i_own {i : Nat} {x : Str} (hN : X.N[i]? = some x) (hv : Vis X.env.scope x) (h : look δ i = .own (.lst ds) ∨ look δ i = .par (.lst ds)) (hd : (x == ("__debug__" : Str)) = false := by decide) (hcd : (x == ("__classdict__" : Str)) = false := by decide) : ItL X δ tg (.Name x pos) ds δ δ := by
  refine ⟨Kd.refl _, fun α σ H F R st k pins s I => ?_⟩
  have hi : isOwn (look δ i) = true := by rcases h with h | h <;> rw [h] <;> rfl
  have own : ∀ {F2 H2 : Hp}, OwnAll X.K α F2 H2 δ → ∃ vs, H2 (α i) = some (.lst vs) ∧ Reps X.K F2 vs ds := fun o => o i hi _ h
  obtain ⟨d0, h1, _, _⟩ := st.own hi
  obtain ⟨vs, e1, r1⟩ := own st.ownAll
  have hs := SqL.of (K := X.K) e1
  obtain ⟨_, _, _, hz⟩ := I.list hs
  refine (pi_list (pe_var hN hv hd hcd)).run pins s σ H R I ⟨_, h1, _, rfl, ⟨vs, hs⟩, ?_⟩
  refine k _ F H F H .refl st .no ⟨by rw [← r1.length]; exact hz, fun j F H g hj => ?_, fun j F H x H' d g fh hd hy => ?_, fun j F H g hj => ?_⟩
  · obtain ⟨vs, e1, r1⟩ := own g.2.2
    exact ⟨vs, vs[j]'(by rw [r1.length]; exact hj), SqL.of e1, List.getElem?_eq_getElem _⟩
  · obtain ⟨e, hy⟩ := hy
    subst e
    obtain ⟨vs, e1, r1⟩ := own g.2.2
    obtain ⟨v, h1, h2⟩ := r1.get hd
    have e2 : v = x := Option.some.inj (h1.symm.trans (hy vs (SqL.of e1)))
    subst e2
    exact ⟨F, Grow.refl fh, h2⟩
  · obtain ⟨vs, e1, r1⟩ := own g.2.2
    exact ⟨vs, SqL.of e1, by rw [r1.length]; exact hj⟩
/-- over the signs of a text -/
theorem i_str {x : Str} (h : EvD X δ e (.str x) δ1) (hl : x.cps.size ≤ sizeLine) : ItD X δ tg e (x.cps.toList.map fun c => .str ⟨#[c]⟩) δ1 := by
  refine ⟨h.kd, fun α σ H F R st k => .of (pi_str pe_tw) ?_⟩
  refine h.run α σ H F _ st fun v F1 H1 s1 st1 r1 => ?_
  cases r1
  refine ⟨x, rfl, k _ F1 H1 s1 st1 ⟨by simpa using hl, fun j F H g hj => (by show j < x.cps.size; simpa using hj), fun j F H y H' d g fh hd hy => ?_, fun j F H g hj => (by show x.cps.size ≤ j; simpa using hj)⟩⟩
  obtain ⟨e, c, hc, rfl⟩ := hy
  subst e
  rw [List.getElem?_map, Array.getElem?_toList, hc] at hd
  cases hd
  exact ⟨F, Grow.refl fh, .str _⟩
/-- range(n) -/
theorem i_range {a : Expr} {p : Pos} {n : Nat} (hg : Gl X "range") (hm : X.mg "range" = none) (h : EvD X δ a (.int n) δ1) (hl : n ≤ sizeLine) (hs : starEach [a] X.env = [(false, eval a X.env)] := by rfl) : ItD X δ tg (.Call (.Name "range" p) [a] [] pos) ((List.range n).map fun i => .int (i : Nat)) δ1 := by
  refine ⟨h.kd, fun α σ H F R st k => .of (pi_range1 hg hm (pa_cons pe_tw pa_nil (by rw [hs] <;> rfl)) hs) ?_⟩
  refine h.run α σ H F _ st fun v F1 H1 s1 st1 r1 => ?_
  cases r1
  have hl' : n ≤ 16777216 := by rw [sizeLine_eq] at hl; exact hl
  refine ⟨n, rfl, by omega, by omega, k _ F1 H1 s1 st1 ⟨by simpa using hl, fun j F H g hj => by simpa [Itr] using hj, fun j F H y H' d g fh hd hy => ?_, fun j F H g hj => by simpa [Itr] using hj⟩⟩
  obtain ⟨e, rfl⟩ := hy
  subst e
  rw [List.getElem?_map] at hd
  have hj : j < n := by
    by_cases hj : j < n
    · exact hj
    · rw [List.getElem?_eq_none (by simpa using hj)] at hd; cases hd
  rw [List.getElem?_range hj] at hd
  cases hd
  exact ⟨F, Grow.refl fh, by rw [Int.zero_add]; exact .int _⟩
/-- enumerate(list) -/
theorem i_enum {a : Expr} {p tpos : Pos} {elts : List Expr} {kk : Nat} (hg : Gl X "enumerate") (hm : X.mg "enumerate" = none) (h : EvD X δ a (.lst ds) δ1) (hs : starEach [a] X.env = [(false, eval a X.env)] := by rfl) :
    ItD X δ (.Tuple elts kk tpos) (.Call (.Name "enumerate" p) [a] [] pos) (ds.mapIdx fun i d => .sft [.int (i : Nat), d]) δ1 := by
  refine ⟨h.kd, fun α σ H F R st k => .of (pi_enum hg hm (pa_cons pe_tw pa_nil (by rw [hs] <;> rfl)) hs) ?_⟩
  refine twE.and (h.run α σ H F _ st fun v F1 H1 s1 st1 r1 => ?_)
  rintro ⟨pins, s, I⟩
  obtain ⟨a, vs, rfl, ha, rr⟩ := r1.seqL
  have hs := SqL.of (K := X.K) (st1.fh _ _ ha)
  obtain ⟨_, _, _, hz⟩ := I.list hs
  refine ⟨a, vs, rfl, hs, k _ F1 H1 s1 st1 ⟨by rw [List.length_mapIdx, ← rr.length]; exact hz, fun i F H g hi => ?_, fun i F H x H' d g fh hd hy => ?_, fun i F H g hi => ?_⟩⟩
  · rw [List.length_mapIdx, ← rr.length] at hi
    exact ⟨vs, vs[i], sql_same ha g.1 g.2, List.getElem?_eq_getElem _⟩
  · obtain ⟨T, x', rfl, nT, rfl, hy⟩ := hy
    rw [List.getElem?_mapIdx] at hd
    cases q : ds[i]? with
    | none => rw [q] at hd; cases hd
    | some d' =>
      rw [q] at hd; cases hd
      obtain ⟨v, h1, h2⟩ := rr.get q
      have e2 : v = x' := Option.some.inj (h1.symm.trans (hy vs (sql_same ha g.1 g.2)))
      subst e2
      have gr : Grow F H _ _ := Grow.new (o := .tup [.int (i : Nat), v]) fh nT
      exact ⟨_, gr, .sft upd_same (.cons (.int _) (.cons ((h2.mono g.1).mono gr.ff) .nil))⟩
  · rw [List.length_mapIdx, ← rr.length] at hi
    exact ⟨vs, sql_same ha g.1 g.2, hi⟩
/-- zip(list, list) -/
theorem i_zip {a b : Expr} {p tpos : Pos} {elts : List Expr} {kk : Nat} {es : List D} (hg : Gl X "zip") (hm : X.mg "zip" = none) (h : AvD X δ [a, b] [.lst ds, .lst es] δ1)
    (hs : starEach [a, b] X.env = (false, eval a X.env) :: starEach [b] X.env := by rfl) (hpl : (backTo pos (starEach [b] X.env)).any (·.1) = false := by rfl) :
    ItD X δ (.Tuple elts kk tpos) (.Call (.Name "zip" p) [a, b] [] pos) ((ds.zip es).map fun q => .sft [q.1, q.2]) δ1 := by
  refine ⟨h.kd, fun α σ H F R st k pins s I => ?_⟩
  refine (pi_zip hg hm pa_tw hs hpl).run pins s σ H R I ?_
  refine twA.and (h.run α σ H F _ st fun us F1 H1 s1 st1 r1 => ?_)
  rintro ⟨pins2, s2, I2⟩
  cases r1 with
  | cons q1 r1 => cases r1 with
    | cons q2 r1 =>
      cases r1
      obtain ⟨a, vs, rfl, ha, rr⟩ := q1.seqL
      obtain ⟨b, ws, rfl, hb, rs⟩ := q2.seqL
      refine ⟨a, b, vs, ws, rfl, SqL.of (st1.fh _ _ ha), SqL.of (st1.fh _ _ hb), k _ F1 H1 s1 st1 ⟨?_, fun i F H g hi => ?_, fun i F H x H' d g fh hd hy => ?_, fun i F H g hi => ?_⟩⟩
      · obtain ⟨_, _, _, hz⟩ := I2.list (SqL.of (K := X.K) (st1.fh _ _ ha))
        have l1 := rr.length
        rw [List.length_map, List.length_zip]
        omega
      · rw [List.length_map, List.length_zip] at hi
        have l1 := rr.length
        have l2 := rs.length
        exact ⟨vs, ws, vs[i]'(by omega), ws[i]'(by omega), sql_same ha g.1 g.2, sql_same hb g.1 g.2, List.getElem?_eq_getElem _, List.getElem?_eq_getElem _⟩
      · obtain ⟨T, x1, x2, rfl, nT, rfl, hy1, hy2⟩ := hy
        rw [List.getElem?_map] at hd
        cases q : (ds.zip es)[i]? with
        | none => rw [q] at hd; cases hd
        | some d' =>
          rw [q] at hd; cases hd
          obtain ⟨d1, d2⟩ := d'
          obtain ⟨e1, e2⟩ := List.getElem?_zip_eq_some.mp q
          obtain ⟨v, h1, h2⟩ := rr.get e1
          obtain ⟨w, h3, h4⟩ := rs.get e2
          have k1 : v = x1 := Option.some.inj (h1.symm.trans (hy1 vs (sql_same ha g.1 g.2)))
          have k2 : w = x2 := Option.some.inj (h3.symm.trans (hy2 ws (sql_same hb g.1 g.2)))
          subst k1 k2
          have gr : Grow F H _ _ := Grow.new (o := .tup [v, w]) fh nT
          exact ⟨_, gr, .sft upd_same (.cons ((h2.mono g.1).mono gr.ff) (.cons ((h4.mono g.1).mono gr.ff) .nil))⟩
      · rw [List.length_map, List.length_zip] at hi
        have l1 := rr.length
        have l2 := rs.length
        exact ⟨vs, ws, sql_same ha g.1 g.2, sql_same hb g.1 g.2, by omega⟩

/-! ### dicts walked -/
def lkE (X : Cx) (e : Expr) : TE := fun σ H Q => twE X e σ H fun x H1 => ∃ d kvs, x = .ref d ∧
  ((H1 d = some (.dK kvs) ∧ ∀ od, (∀ o' u', X.H_0 d ≠ some (.frz o' u')) → Q x (upd H1 d (.frz od (.dK kvs)))) ∨ ∃ od, H1 d = some (.frz od (.dK kvs)) ∧ Q x H1)
theorem pe_lk : PE X e (lkE X e) := by
  refine ⟨fun pins s σ H Q I h => thn (h pins s I) fun u s1 ⟨x, H1, I1, r1, d, kvs, ex, q⟩ => ?_⟩
  rcases q with ⟨hd, q⟩ | ⟨od, hd, q⟩
  · obtain ⟨od, I2⟩ := I1.lock hd trivial
    exact ⟨x, _, I2, r1, q od (I1.nofrz hd trivial)⟩
  · exact ⟨x, H1, I1, r1, q⟩
def Unl (X : Cx) (Q : VK) : VK := fun v H' => Q v H' ∨ ∃ d od kvs, H' d = some (.frz od (.dK kvs)) ∧ (∀ o' u', X.H_0 d ≠ some (.frz o' u')) ∧ Q v (upd H' d (.dK kvs))
theorem twE.unl {σ : Sl} {H : Hp} {Q : VK} (h : twE X e σ H (Unl X Q)) : twE X e σ H Q :=
  fun pins s I => thn (h pins s I) fun u s1 ⟨v, H', I', r, q⟩ => by
    rcases q with q | ⟨d, od, kvs, hd, hn, q⟩
    · exact ⟨v, H', I', r, q⟩
    · exact ⟨v, _, I'.unlock hd hn, r, q⟩
theorem RepK.length {K : PySem.W.Frag} {F : Hp} : ∀ {kvs : List (Key × V)} {ks : List (Str × D)}, RepK K F kvs ks → kvs.length = ks.length
  | _, _, .nil => rfl
  | _, _, .cons _ r => by rw [List.length_cons, List.length_cons, RepK.length r]
theorem RepK.get {K : PySem.W.Frag} {F : Hp} {k : Str} {d : D} : ∀ {kvs : List (Key × V)} {ks : List (Str × D)} {i : Nat}, RepK K F kvs ks → ks[i]? = some (k, d) → ∃ v, kvs[i]? = some (.inr k, v) ∧ Rep K F v d
  | _, _, i, .nil, h => by simp at h
  | _, _, 0, .cons r _, h => by simp at h; obtain ⟨rfl, rfl⟩ := h; exact ⟨_, rfl, r⟩
  | _, _, i + 1, .cons _ r, h => by
    obtain ⟨v, h1, h2⟩ := RepK.get (i := i) r (by simpa using h)
    exact ⟨v, by simpa using h1, h2⟩
/-- the dict at d, readable in F, walked: the locked heaps -/
theorem lk_run {α : Nat → Addr} {σ : Sl} {F1 H1 : Hp} {Q : VK} {d : Addr} {kvs : List (Key × V)} (st1 : StOk X.K α F1 H1 σ δ1) (rd : Rd F1 d (.dK kvs))
    (k : ∀ od F' H', Lk X F1 H1 F' H' → F' d = some (.frz od (.dK kvs)) → Same F' H' → Q (.ref d) H') :
    ∃ d' kvs', V.ref d = .ref d' ∧ ((H1 d' = some (.dK kvs') ∧ ∀ od, (∀ o' u', X.H_0 d' ≠ some (.frz o' u')) → Q (.ref d) (upd H1 d' (.frz od (.dK kvs')))) ∨ ∃ od, H1 d' = some (.frz od (.dK kvs')) ∧ Q (.ref d) H1) := by
  refine ⟨d, kvs, rfl, ?_⟩
  rcases rd with h | ⟨o, h⟩
  · exact .inl ⟨st1.fh _ _ h, fun od hn => k od _ _ (.at h hn) upd_same (same_upd2 st1.fh)⟩
  · exact .inr ⟨o, st1.fh _ _ h, k o _ _ .no h st1.fh⟩
theorem rd_len {K : PySem.W.Frag} {pins : List (Addr × Obj)} {σ : Sl} {H : Hp} {s : Shared} {d : Addr} {kvs : List (Key × V)} (I : Inv X pins σ H s) (h : Rd H d (.dK kvs)) : kvs.length ≤ sizeLine := (h.ok I.hok).1
/-- for k in dict -/
theorem i_keys {ks : List (Str × D)} (h : EvD X δ e (.dct ks) δ1) : ItL X δ tg e (ks.map fun q => .str q.1) δ1 [] := by
  refine ⟨h.kd, fun α σ H F R st k => .of (pi_keys (pe_lk)) ?_⟩
  show twE X e σ H _
  refine twE.and (h.run α σ H F _ st fun v F1 H1 s1 st1 r1 => ?_)
  rintro ⟨pins, s, I⟩
  obtain ⟨a, kvs, rfl, ha, rr⟩ := r1.dict
  have hz := rd_len (K := X.K) I (st1.fh.rd ha)
  refine lk_run (Q := fun x H1 => ∃ d o, x = .ref d ∧ ((∃ kvs, H1 d = some (.frz o (.dK kvs)) ∧ R (Itk d o kvs) H1) ∨ ∃ kvs, H1 d = some (.frz o (.dT kvs)) ∧ R (Itkt d o kvs) H1)) st1 ha fun od F' H' lk hF fh => ⟨a, od, rfl, .inl ⟨kvs, fh _ _ hF, k _ F1 H1 F' H' s1 st1 lk ⟨by rw [List.length_map, ← rr.length]; exact hz, fun i F H g hi => ?_, fun i F H x H' d g fh hd hy => ?_, fun i F H g hi => ?_⟩⟩⟩
  · rw [List.length_map, ← rr.length] at hi
    exact ⟨g.2.1 _ _ (g.1 _ _ hF), hi⟩
  · obtain ⟨e, k', v', hk, rfl⟩ := hy
    subst e
    rw [List.getElem?_map] at hd
    cases q : ks[i]? with
    | none => rw [q] at hd; cases hd
    | some q' =>
      rw [q] at hd; cases hd
      obtain ⟨v, h1, h2⟩ := rr.get (k := q'.1) (d := q'.2) q
      rw [hk] at h1
      obtain ⟨rfl, rfl⟩ := Prod.mk.inj (Option.some.inj h1)
      exact ⟨F, Grow.refl fh, .str _⟩
  · rw [List.length_map, ← rr.length] at hi
    exact ⟨g.2.1 _ _ (g.1 _ _ hF), hi⟩
/-- for v in dict.values() -/
theorem i_values {ks : List (Str × D)} {apos : Pos} (h : EvD X δ e (.dct ks) δ1) (hbase : attributeBase e "values" X.env (eval e X.env) = eval e X.env := by rfl) (hline : (apos.endLine == pos.line) = true := by rfl) :
    ItL X δ tg (.Call (.Attribute e "values" apos) [] [] pos) (ks.map fun q => q.2) δ1 [] := by
  refine ⟨h.kd, fun α σ H F R st k => .of (pi_values pe_lk hbase hline) ?_⟩
  show twE X e σ H _
  refine twE.and (h.run α σ H F _ st fun v F1 H1 s1 st1 r1 => ?_)
  rintro ⟨pins, s, I⟩
  obtain ⟨a, kvs, rfl, ha, rr⟩ := r1.dict
  have hz := rd_len (K := X.K) I (st1.fh.rd ha)
  refine lk_run (Q := fun x H1 => ∃ d o kvs, x = .ref d ∧ H1 d = some (.frz o (.dK kvs)) ∧ R (Itd d o kvs) H1) st1 ha fun od F' H' lk hF fh => ⟨a, od, kvs, rfl, fh _ _ hF, k _ F1 H1 F' H' s1 st1 lk ⟨by rw [List.length_map, ← rr.length]; exact hz, fun i F2 H g hi => ?_, fun i F2 H x H' d g fh hd hy => ?_, fun i F2 H g hi => ?_⟩⟩
  · rw [List.length_map, ← rr.length] at hi
    exact ⟨g.2.1 _ _ (g.1 _ _ hF), hi⟩
  · obtain ⟨e, k', hk⟩ := hy
    subst e
    rw [List.getElem?_map] at hd
    cases q : ks[i]? with
    | none => rw [q] at hd; cases hd
    | some q' =>
      rw [q] at hd; cases hd
      obtain ⟨v, h1, h2⟩ := rr.get (k := q'.1) (d := q'.2) q
      rw [hk] at h1
      obtain ⟨rfl, rfl⟩ := Prod.mk.inj (Option.some.inj h1)
      refine ⟨F2, Grow.refl fh, ?_⟩
      have w : Wk F1 F' := by
        cases lk with
        | no => exact fun b o q => .inl q
        | «at» h0 _ => exact .lock h0
      exact (h2.wk w).mono g.1
  · rw [List.length_map, ← rr.length] at hi
    exact ⟨g.2.1 _ _ (g.1 _ _ hF), hi⟩
/-- for k, v in dict.items() -/
theorem i_items {ks : List (Str × D)} {apos tpos : Pos} {elts : List Expr} {kk : Nat} (h : EvD X δ e (.dct ks) δ1) (hbase : attributeBase e "items" X.env (eval e X.env) = eval e X.env := by rfl) (hline : (apos.endLine == pos.line) = true := by rfl) :
    ItL X δ (.Tuple elts kk tpos) (.Call (.Attribute e "items" apos) [] [] pos) (ks.map fun q => .sft [.str q.1, q.2]) δ1 [] := by
  refine ⟨h.kd, fun α σ H F R st k => .of (pi_items pe_lk hbase hline) ?_⟩
  show twE X e σ H _
  refine twE.and (h.run α σ H F _ st fun v F1 H1 s1 st1 r1 => ?_)
  rintro ⟨pins, s, I⟩
  obtain ⟨a, kvs, rfl, ha, rr⟩ := r1.dict
  have hz := rd_len (K := X.K) I (st1.fh.rd ha)
  refine lk_run (Q := fun x H1 => ∃ d o kvs, x = .ref d ∧ H1 d = some (.frz o (.dK kvs)) ∧ R (Iti d o kvs) H1) st1 ha fun od F' H' lk hF fh => ⟨a, od, kvs, rfl, fh _ _ hF, k _ F1 H1 F' H' s1 st1 lk ⟨by rw [List.length_map, ← rr.length]; exact hz, fun i F2 H g hi => ?_, fun i F2 H x H' d g fh hd hy => ?_, fun i F2 H g hi => ?_⟩⟩
  · rw [List.length_map, ← rr.length] at hi
    exact ⟨g.2.1 _ _ (g.1 _ _ hF), hi⟩
  · obtain ⟨T, k', v', hk, rfl, nT, rfl⟩ := hy
    rw [List.getElem?_map] at hd
    cases q : ks[i]? with
    | none => rw [q] at hd; cases hd
    | some q' =>
      rw [q] at hd; cases hd
      obtain ⟨v, h1, h2⟩ := rr.get (k := q'.1) (d := q'.2) q
      rw [hk] at h1
      obtain ⟨rfl, rfl⟩ := Prod.mk.inj (Option.some.inj h1)
      have w : Wk F1 F' := by
        cases lk with
        | no => exact fun b o q => .inl q
        | «at» h0 _ => exact .lock h0
      have gr : Grow F2 H _ _ := Grow.new (o := .tup [.str q'.1, v']) fh nT
      exact ⟨_, gr, .sft upd_same (.cons (.str _) (.cons (((h2.wk w).mono g.1).mono gr.ff) .nil))⟩
  · rw [List.length_map, ← rr.length] at hi
    exact ⟨g.2.1 _ _ (g.1 _ _ hF), hi⟩
end
end ND

/-! NDe -/
set_option Elab.async false
set_option linter.all false
set_option maxRecDepth 100000
set_option maxHeartbeats 4000000
namespace ND
open PySem PySem.Spec PyProof.Rows L2

theorem Kd.of_map {δ δ' : DEnv} (h : δ'.map kd = δ.map kd) : Kd δ δ' := by
  have e : ∀ (δ : DEnv) (i : Nat), kd (look δ i) = (δ.map kd).getD i 0 := by
    intro δ
    induction δ with
    | nil => intro i; rfl
    | cons s r ih =>
      intro i
      cases i with
      | zero => rfl
      | succ n => exact ih n
  intro i
  rw [e, e, h]
theorem isOwn_putL {j : Nat} : ∀ (ps : List (Nat × D)) (δ : DEnv), isOwn (look (putL δ ps) j) = true → isOwn (look δ j) = true
  | [], δ, h => h
  | p :: ps, δ, h => by
    have q := isOwn_putL ps _ h
    rw [look_put] at q
    split at q
    · split at q <;> cases q
    · exact q
section
variable {β S : Type}
def lcOut (f : β → S → D) (nxt : β → S → S) (p : β → Bool) : List β → S → List D
  | [], _ => []
  | b :: r, s => bif p b then f b s :: lcOut f nxt p r (nxt b s) else lcOut f nxt p r s
def lcEnd (nxt : β → S → S) (p : β → Bool) : List β → S → S
  | [], s => s
  | b :: r, s => bif p b then lcEnd nxt p r (nxt b s) else lcEnd nxt p r s
theorem lcOut_pure (f : β → D) (p : β → Bool) : ∀ (l : List β) (s : Unit), lcOut (fun b _ => f b) (fun _ _ => ()) p l s = (l.filter p).map f
  | [], _ => rfl
  | b :: r, s => by
    show (bif p b then _ else _) = _
    cases h : p b with
    | true => rw [List.filter_cons_of_pos h, List.map_cons, ← lcOut_pure f p r ()]; rfl
    | false => rw [List.filter_cons_of_neg (by rw [h]; simp), ← lcOut_pure f p r s]; rfl
variable {X : Cx} {δ : DEnv} {elt tg iter : Expr} {ifs : List Expr} {scope : Scope} {own : List (Str × Nat)} {pos : Pos} {l : List β} {g : β → D} {ids : β → List (Nat × D)} {Δ : S → DEnv} {f : β → S → D} {nxt : β → S → S} {p : β → Bool} {P : Nat → S → Prop} {s0 : S}
abbrev Blk (X : Cx) (scope : Scope) (s : Shared) (H : Hp) (C : Addr) (cl : List (Str × Addr)) (fp : List Addr) : Cx := X.blk s H scope (compEnvC scope cl C X.env) fp

/-- a list comprehension by its reading -/
structure LcD (X : Cx) (δ : DEnv) (elt tg iter : Expr) (ifs : List Expr) (scope : Scope) (own : List (Str × Nat)) (ds : List D) (δ' : DEnv) : Prop where
  kd : Kd δ δ'
  ok : BlkOk X.N X.env.scope scope own
  hs : ∀ x, foldedSetIterable iter X.env x = pure x
  rd : ∃ (g : TG) (tt : TT) (te : TE), (∀ s H C cl fp, PG (Blk X scope s H C cl fp) tg g) ∧ (∀ s H C cl fp, PTs (Blk X scope s H C cl fp) ifs tt) ∧ (∀ s H C cl fp, PE (Blk X scope s H C cl fp) elt te) ∧
    ∀ (α : Nat → Addr) (σ : Sl) (H F : Hp) (Q : VK), StOk X.K α F H σ δ → (∀ a vs F' H', H a = none → F' a = none → Step (OwnA α δ) F H F' H' → StOk X.K α F' H' σ δ' → H' a = some (.lst vs) → Reps X.K F' vs ds → Q (.ref a) H') →
      tLc (twI X tg iter) g tt te (own.map (·.2)) σ H (Unl X Q)
theorem LcD.n {δ' : DEnv} {ds : List D} (h : LcD X δ elt tg iter ifs scope own ds δ') (hc : X.calm = true) (hN : X.N.Nodup) : NvD X δ (.ListComp elt [⟨tg, iter, ifs, 0⟩] scope pos) ds δ' := by
  refine ⟨h.kd, fun α σ H F Q st k => twE.unl ?_⟩
  obtain ⟨g, tt, te, hg, ht, he, run⟩ := h.rd
  exact .of (pe_lc (own := own) (te := te) (g := g) (tt := tt) hc hN pi_tw h.ok hg ht he h.hs) (run α σ H F Q st k)
theorem lc_any (tt : TT) (hc : X.calm = true) (hN : X.N.Nodup) {δo : DEnv} (hi : ItL X δ tg iter (l.map g) (Δ s0) δo) (hOwn : ∀ s α F H, OwnAll X.K α F H (Δ s) → OwnAll X.K α F H δo) (ok : BlkOk X.N X.env.scope scope own)
    (hK : ∀ s s', Kd (Δ s) (Δ s')) (hun : ∀ s i, i ∈ own.map (·.2) → look (Δ s) i = .un) (hids : ∀ b, ∀ q ∈ ids b, q.1 ∈ own.map (·.2)) (hP : P 0 s0)
    (hg : ∀ s H C cl fp b, b ∈ l → GtD (Blk X scope s H C cl fp) tg (g b) (ids b))
    (ht0 : ∀ s H C cl fp, PTs (Blk X scope s H C cl fp) ifs tt)
    (ht : ∀ b, b ∈ l → ∀ i s, P i s → ∀ (α : Nat → Addr) (σ : Sl) (H F : Hp) (Q : Bool → Hp → Prop), StOk X.K α F H σ (putL (Δ s) (ids b)) → (∀ F' H', Step (OwnA α (putL (Δ s) (ids b))) F H F' H' → StOk X.K α F' H' σ (putL (Δ s) (ids b)) → Q (p b) H') → tt σ H Q)
    (hPn : ∀ b, b ∈ l → ∀ i s, P i s → p b = false → P (i + 1) s)
    (hPs : ∀ b, b ∈ l → ∀ i s, P i s → i < l.length → l[i]? = some b → p b = true → P (i + 1) (nxt b s))
    (he : ∀ z H C cl fp b, b ∈ l → ∀ i s, P i s → i < l.length → l[i]? = some b → p b = true → EvD (Blk X scope z H C cl fp) (putL (Δ s) (ids b)) elt (f b s) (putL (Δ (nxt b s)) (ids b)))
    (hs : ∀ x, foldedSetIterable iter X.env x = pure x := by intro _; rfl) :
    LcD X δ elt tg iter ifs scope own (lcOut f nxt p l s0) (Δ (lcEnd nxt p l s0)) := by
  have hi' := hi.kd
  refine ⟨hi.kd.trans (hK _ _), ok, hs, ?_⟩
  let te : TE := fun σ H Q => ∀ s H0 C cl fp, twE (Blk X scope s H0 C cl fp) elt σ H Q
  let gg : TG := fun v σ H Q => ∀ s H0 C cl fp, twG (Blk X scope s H0 C cl fp) tg v σ H Q
  have pe : ∀ s H C cl fp, PE (Blk X scope s H C cl fp) elt te := fun s H C cl fp => ⟨fun pins s1 σ H1 Q I h => h s H C cl fp pins s1 I⟩
  have pg : ∀ s H C cl fp, PG (Blk X scope s H C cl fp) tg gg := fun s H C cl fp => ⟨fun pins s1 σ H1 v u Q I r h => h s H C cl fp pins s1 u I r⟩
  refine ⟨gg, tt, te, pg, ht0, pe, fun α σ H F Q st k => ?_⟩
  refine hi.run α σ H F _ st fun J F1 H1 F' H' s1 st1 lk io => ?_
  intro D hD
  -- the state as the loop starts
  have st' : StOk X.K α F' H' σ (Δ s0) := by
    cases lk with
    | no => exact st1
    | «at» h0 _ => exact st1.lock h0
  have hl : l.length ≤ sizeLine := by have q := io.len; rw [List.length_map] at q; exact q
  have ownNe : ∀ s i, isOwn (look (Δ s) i) = true → α i ≠ D := fun s i h => st'.fresh hD i (by rw [(hK s s0).own i]; exact h)
  have hFD : F' D = none := Same.none st'.fh hD
  have wst : StOk X.K α F' (upd H' D (.lst [])) (wipe σ (own.map (·.2))) (Δ s0) := by
    refine (st'.grow (Grow.newH st'.fh hD)).wipe (wipe_length _ _) fun i hi => wipe_get fun hm => hi (hun s0 i hm)
  refine ⟨fun i m H2 => m = l.length - i ∧ i ≤ l.length ∧ ∃ F2 s acc vs, P i s ∧ H2 D = some (.lst vs) ∧ Reps X.K F2 vs acc ∧ acc.length ≤ i ∧ acc ++ lcOut f nxt p (l.drop i) s = lcOut f nxt p l s0 ∧ lcEnd nxt p (l.drop i) s = lcEnd nxt p l s0 ∧
      StOk X.K α F2 H2 (wipe σ (own.map (·.2))) (Δ s) ∧ Step (OwnA α (Δ s0)) F' H' F2 H2 ∧ F2 D = none, ⟨l.length, rfl, Nat.zero_le _, F', s0, [], [], hP, upd_same, .nil, Nat.le_refl _, rfl, rfl, wst, (Grow.newH st'.fh hD).step, hFD⟩, ?_⟩
  rintro i m H2 ⟨rfl, hi, F2, s, acc, vs, hPi, hHD, hr, hal, hout, hend, st2, sp2, hF2⟩
  have good : Same F' F2 ∧ Same F2 H2 ∧ OwnAll X.K α F2 H2 δo := ⟨sp2.ff, st2.fh, hOwn s _ _ _ st2.ownAll⟩
  by_cases hlt : i < l.length
  · refine .inr ⟨io.go i F2 H2 good (by rw [List.length_map]; exact hlt), ?_⟩
    have hb : l[i] ∈ l := List.getElem_mem hlt
    have hdrop : l.drop i = l[i] :: l.drop (i + 1) := List.drop_eq_getElem_cons hlt
    have hbi : l[i]? = some l[i] := List.getElem?_eq_getElem hlt
    generalize l[i] = b at hb hdrop hbi
    have hgi : (l.map g)[i]? = some (g b) := by
      rw [List.getElem?_map, ← List.head?_drop, hdrop]; rfl
    -- what the turn is to reach
    refine ⟨fun H5 => ∃ F5 s' acc' vs', P (i + 1) s' ∧ H5 D = some (.lst vs') ∧ Reps X.K F5 vs' acc' ∧ acc'.length ≤ i + 1 ∧ acc' ++ lcOut f nxt p (l.drop (i + 1)) s' = lcOut f nxt p l s0 ∧ lcEnd nxt p (l.drop (i + 1)) s' = lcEnd nxt p l s0 ∧
      StOk X.K α F5 H5 (wipe σ (own.map (·.2))) (Δ s') ∧ Step (OwnA α (Δ s0)) F' H' F5 H5 ∧ F5 D = none, fun H5 h5 => ⟨l.length - (i + 1), by omega, rfl, hlt, h5⟩, fun x H3 hy => ?_⟩
    obtain ⟨F3, gr, rx⟩ := io.yld i F2 H2 x H3 (g b) good st2.fh hgi hy
    have st3 := st2.grow gr
    have sp3 := sp2.trans gr.step
    have hD3 : H3 D = some (.lst vs) := gr.hh _ _ hHD
    have hF3 : F3 D = none := gr.nw _ (by rw [hHD]; simp) hF2
    have hr3 := hr.mono gr.ff
    intro zz Hz Cz clz fpz
    refine hg zz Hz Cz clz fpz b hb _ H3 F3 x _ st3.fh rx fun ws rws => ?_
    have hnb : ∀ q ∈ ids b, isOwn (look (Δ s) q.1) = false := fun q hq => by rw [hun s q.1 (hids b q hq)]; rfl
    have st4 := st3.setL (ids b) rws hnb
    have hmem : ∀ j, j ∉ own.map (·.2) → j ∉ (ids b).map (·.1) := fun j hj hm => by
      obtain ⟨q, hq, rfl⟩ := List.mem_map.mp hm
      exact hj (hids b q hq)
    refine ⟨(wipe_same (by rw [setL_len, wipe_length]) fun j hj => (setL_out _ _ _ (hmem j hj)).trans (wipe_get hj)), ?_⟩
    -- from the block's state back
    have back : ∀ {F5 H5 : Hp} {s' : S}, StOk X.K α F5 H5 (setL (wipe σ (own.map (·.2))) ((ids b).map (·.1)) ws) (putL (Δ s') (ids b)) → StOk X.K α F5 H5 (wipe σ (own.map (·.2))) (Δ s') := fun {F5 H5 s'} q => by
      refine ⟨q.fh, ?_, fun j => ?_, fun a c ha hc e => ?_⟩
      · have q1 := q.len
        rw [setL_len, putL_len] at q1
        exact q1
      · by_cases hj : j ∈ own.map (·.2)
        · rw [hun s' j hj]; trivial
        · have q1 := q.slot j
          rw [look_putL_out _ _ (hmem j hj)] at q1
          have e : (setL (wipe σ (own.map (·.2))) ((ids b).map (·.1)) ws)[j]? = (wipe σ (own.map (·.2)))[j]? := setL_out _ _ _ (hmem j hj)
          cases z : look (Δ s') j with
          | un => trivial
          | dat d => rw [z] at q1; obtain ⟨v, h1, h2⟩ := q1; exact ⟨v, by rw [← e]; exact h1, h2⟩
          | own d => rw [z] at q1; exact ⟨by rw [← e]; exact q1.1, q1.2⟩
          | par d => rw [z] at q1; exact ⟨by rw [← e]; exact q1.1, q1.2⟩
      · have up : ∀ j, isOwn (look (Δ s') j) = true → isOwn (look (putL (Δ s') (ids b)) j) = true := fun j hj => by
          by_cases hm : j ∈ own.map (·.2)
          · rw [hun s' j hm] at hj; cases hj
          · rw [look_putL_out _ _ (hmem j hm)]; exact hj
        exact q.inj a c (up a ha) (up c hc) e
    have toO : ∀ {c : Addr}, OwnA α (putL (Δ s) (ids b)) c → OwnA α (Δ s0) c := fun {c} ⟨j, h1, h2⟩ => ⟨j, by rw [← (hK s0 s).own j]; exact isOwn_putL _ _ h1, h2⟩
    refine ht b hb i s hPi α _ H3 F3 _ st4 fun F4 H4 s4 st5 => ?_
    have sp4 := sp3.trans (s4.mono fun c hc => toO hc)
    have notO : ¬ OwnA α (putL (Δ s) (ids b)) D := fun ⟨j, h1, h2⟩ => ownNe s j (isOwn_putL _ _ h1) h2
    have hD4 : H4 D = some (.lst vs) := s4.hh _ _ hD3 notO
    have hF4 : F4 D = none := s4.nw _ (by rw [hD3]; simp) hF3
    cases hp : p b with
    | false =>
      refine iteF ⟨F4, s, acc, vs, hPn b hb i s hPi hp, hD4, hr3.mono s4.ff, by omega, ?_, ?_, back st5, sp4, hF4⟩
      · rw [← hout, hdrop]; show _ = acc ++ (bif p b then _ else _); rw [hp]; rfl
      · rw [← hend, hdrop]; show _ = (bif p b then _ else _); rw [hp]; rfl
    | true =>
      refine iteT ?_
      intro z5 Hz5 C5 cl5 fp5
      refine (he z5 Hz5 C5 cl5 fp5 b hb i s hPi hlt hbi hp).run α _ H4 F4 _ st5 fun y F5 H5 s5 st6 ry => ?_
      have hD5 : H5 D = some (.lst vs) := s5.hh _ _ hD4 notO
      have hF5 : F5 D = none := s5.nw _ (by rw [hD4]; simp) hF4
      have sp5 := sp4.trans (s5.mono fun c hc => toO hc)
      have hvl : vs.length ≤ i := by rw [hr.length]; exact hal
      refine ⟨vs, hD5, by omega, F5, nxt b s, acc ++ [f b s], vs ++ [y], hPs b hb i s hPi hlt hbi hp, upd_same, ((hr3.mono s4.ff).mono s5.ff).append (.cons ry .nil), by rw [List.length_append]; simp; omega, ?_, ?_, ?_, ?_, hF5⟩
      · rw [← hout, hdrop, List.append_assoc]; show _ = acc ++ (bif p b then _ else _); rw [hp]; rfl
      · rw [← hend, hdrop]; show _ = (bif p b then _ else _); rw [hp]; rfl
      · -- the list at D has grown
        have q := back st6
        refine ⟨fun c o e => ?_, q.len, fun j => ?_, q.inj⟩
        · have hc : c ≠ D := fun z => by subst z; rw [hF5] at e; cases e
          rw [upd_ne hc]; exact q.fh _ _ e
        · have q1 := q.slot j
          cases z : look (Δ (nxt b s)) j with
          | un => trivial
          | dat d => rw [z] at q1; exact q1
          | own d =>
            rw [z] at q1
            exact ⟨q1.1, q1.2.1, q1.2.2.grow (Same.refl _) (upd_ne (ownNe _ j (by rw [z]; rfl)))⟩
          | par d =>
            rw [z] at q1
            exact ⟨q1.1, q1.2.1, q1.2.2.grow (Same.refl _) (upd_ne (ownNe _ j (by rw [z]; rfl)))⟩
      · refine ⟨sp5.ff, fun c o e n => ?_, fun c e => ?_, sp5.nw⟩
        · have hc : c ≠ D := fun z => by subst z; rw [hD] at e; cases e
          rw [upd_ne hc]; exact sp5.hh _ _ e n
        · by_cases hc : c = D
          · subst hc; rw [upd_same]; simp
          · rw [upd_ne hc]; exact sp5.kp _ e
  · have ei : i = l.length := by omega
    subst ei
    refine .inl ⟨io.stop _ F2 H2 good (by rw [List.length_map]; exact Nat.le_refl _), ?_⟩
    rw [List.drop_length] at hout hend
    have hout : acc = lcOut f nxt p l s0 := by rw [← hout]; show acc = acc ++ []; rw [List.append_nil]
    have hend : s = lcEnd nxt p l s0 := hend
    subst hout
    subst hend
    -- the whole frame's state
    have stE : StOk X.K α F2 H2 σ (Δ (lcEnd nxt p l s0)) := st2.wipe (wipe_length _ _).symm fun j hj => (wipe_get fun hm => hj (hun _ j hm)).symm
    have hD0 : H D = none := by
      cases q : H D with
      | none => rfl
      | some o =>
        have h1 := s1.kp D (by rw [q]; simp)
        cases lk with
        | no => exact absurd hD h1
        | @«at» d0 _ _ h0 _ =>
          by_cases e : D = d0
          · subst e; rw [upd_same] at hD; cases hD
          · rw [upd_ne e] at hD; exact absurd hD h1
    have toO : ∀ {c : Addr}, OwnA α (Δ s0) c → OwnA α δ c := fun h => hi'.ownA h
    cases lk with
    | no => exact .inl (k D vs F2 H2 hD0 hF2 (s1.trans (sp2.mono fun c hc => toO hc)) stE hHD hr)
    | @«at» d od kvs h0 hn =>
      have hF2d : F2 d = some (.frz od (.dK kvs)) := sp2.ff _ _ upd_same
      have hDd : D ≠ d := fun z => by subst z; rw [upd_same] at hD; cases hD
      refine .inr ⟨d, od, kvs, stE.fh _ _ hF2d, hn, k D vs (upd F2 d (.dK kvs)) (upd H2 d (.dK kvs)) hD0 (by rw [upd_ne hDd]; exact hF2) (s1.trans ((sp2.mono fun c hc => toO hc).locked st1.fh h0)) (stE.unlock hF2d) (by rw [upd_ne hDd]; exact hHD) (hr.wk (.unlock hF2d))⟩
end
end ND

/-! NDf -/
set_option Elab.async false
set_option linter.all false
set_option maxRecDepth 100000
set_option maxHeartbeats 4000000
namespace ND
open PySem PySem.Spec PyProof.Rows L2
section
variable {β S : Type} {X : Cx} {δ δ1 δo : DEnv} {elt tg iter c : Expr} {scope : Scope} {own : List (Str × Nat)} {pos : Pos} {l : List β} {g : β → D} {ids : β → List (Nat × D)} {f : β → D} {p : β → Bool}
theorem filter_true : ∀ (l : List β), l.filter (fun _ => true) = l
  | [] => rfl
  | b :: r => by rw [List.filter_cons_of_pos rfl, filter_true r]
/-- [elt for tg in iter] -/
theorem c_lc (hc : X.calm = true) (hN : X.N.Nodup) (hi : ItL X δ tg iter (l.map g) δ1 δo) (ok : BlkOk X.N X.env.scope scope own)
    (hδ : δo = [] ∨ δo = δ1) (hun : ∀ i ∈ own.map (·.2), look δ1 i = .un) (hids : ∀ b, ∀ q ∈ ids b, q.1 ∈ own.map (·.2))
    (hg : ∀ s H C cl fp b, b ∈ l → GtD (Blk X scope s H C cl fp) tg (g b) (ids b))
    (he : ∀ z H C cl fp b, b ∈ l → EvD (Blk X scope z H C cl fp) (putL δ1 (ids b)) elt (f b) (putL δ1 (ids b)))
    (hs : ∀ x, foldedSetIterable iter X.env x = pure x := by intro _; rfl) : LcD X δ elt tg iter [] scope own (l.map f) δ1 := by
  have q := lc_any (S := Unit) (Δ := fun _ => δ1) (f := fun b _ => f b) (nxt := fun _ _ => ()) (p := fun _ => true) (P := fun _ _ => True) (s0 := ()) tYes hc hN hi
    (fun _ α F H h => by rcases hδ with e | e <;> subst e; · exact fun i hi => by cases hi
                         · exact h) ok (fun _ _ => Kd.refl _) (fun _ => hun) hids trivial hg (fun _ _ _ _ _ => pts_nil)
    (fun b hb i s _ α σ H F Q st k => k F H .refl st) (fun _ _ _ _ _ _ => trivial) (fun _ _ _ _ _ _ _ _ => trivial) (fun z H C cl fp b hb i s _ _ _ _ => he z H C cl fp b hb) (hs := hs) (ifs := [])
  rw [lcOut_pure, filter_true] at q
  exact q
/-- [elt for tg in iter if c] -/
theorem c_lcT (hc : X.calm = true) (hN : X.N.Nodup) (hi : ItL X δ tg iter (l.map g) δ1 δo) (ok : BlkOk X.N X.env.scope scope own)
    (hδ : δo = [] ∨ δo = δ1) (hun : ∀ i ∈ own.map (·.2), look δ1 i = .un) (hids : ∀ b, ∀ q ∈ ids b, q.1 ∈ own.map (·.2))
    (hg : ∀ s H C cl fp b, b ∈ l → GtD (Blk X scope s H C cl fp) tg (g b) (ids b))
    (ht : ∀ z H C cl fp b, b ∈ l → TvD (Blk X scope z H C cl fp) (putL δ1 (ids b)) c (p b) (putL δ1 (ids b)))
    (he : ∀ z H C cl fp b, b ∈ l → p b = true → EvD (Blk X scope z H C cl fp) (putL δ1 (ids b)) elt (f b) (putL δ1 (ids b)))
    (hs : ∀ x, foldedSetIterable iter X.env x = pure x := by intro _; rfl) : LcD X δ elt tg iter [c] scope own ((l.filter p).map f) δ1 := by
  let tt : TT := fun σ H Q => ∀ s H0 C cl fp, twT (Blk X scope s H0 C cl fp) c σ H Q
  have q := lc_any (S := Unit) (Δ := fun _ => δ1) (f := fun b _ => f b) (nxt := fun _ _ => ()) (p := p) (P := fun _ _ => True) (s0 := ()) tt hc hN hi
    (fun _ α F H h => by rcases hδ with e | e <;> subst e; · exact fun i hi => by cases hi
                         · exact h) ok (fun _ _ => Kd.refl _) (fun _ => hun) hids trivial hg (fun s H C cl fp => pts_one ⟨fun pins s1 σ H1 Q I h => h s H C cl fp pins s1 I⟩)
    (fun b hb i s _ α σ H F Q st k z H0 C cl fp => (ht z H0 C cl fp b hb).run α σ H F Q st k) (fun _ _ _ _ _ _ => trivial) (fun _ _ _ _ _ _ _ _ => trivial) (fun z H C cl fp b hb i s _ _ _ hp => he z H C cl fp b hb hp) (hs := hs) (ifs := [c])
  rw [lcOut_pure] at q
  exact q
/-- .. the element changes the frame's own objects: S the states -/
theorem c_lcS {Δ : S → DEnv} {f : β → S → D} {nxt : β → S → S} {P : Nat → S → Prop} {s0 : S} (hc : X.calm = true) (hN : X.N.Nodup) (hi : ItD X δ tg iter (l.map g) (Δ s0)) (ok : BlkOk X.N X.env.scope scope own)
    (hK : ∀ s s', Kd (Δ s) (Δ s')) (hun : ∀ s, ∀ i ∈ own.map (·.2), look (Δ s) i = .un) (hids : ∀ b, ∀ q ∈ ids b, q.1 ∈ own.map (·.2)) (hP : P 0 s0)
    (hg : ∀ s H C cl fp b, b ∈ l → GtD (Blk X scope s H C cl fp) tg (g b) (ids b))
    (hPs : ∀ b, b ∈ l → ∀ i s, P i s → i < l.length → l[i]? = some b → P (i + 1) (nxt b s))
    (he : ∀ z H C cl fp b, b ∈ l → ∀ i s, P i s → i < l.length → l[i]? = some b → EvD (Blk X scope z H C cl fp) (putL (Δ s) (ids b)) elt (f b s) (putL (Δ (nxt b s)) (ids b)))
    (hs : ∀ x, foldedSetIterable iter X.env x = pure x := by intro _; rfl) : LcD X δ elt tg iter [] scope own (lcOut f nxt (fun _ => true) l s0) (Δ (lcEnd nxt (fun _ => true) l s0)) :=
  lc_any (δo := []) tYes hc hN hi.l (fun _ _ _ _ _ i hi => by cases hi) ok hK (fun s i => hun s i) hids hP hg (fun _ _ _ _ _ => pts_nil)
    (fun b hb i s _ α σ H F Q st k => k F H .refl st) (fun _ _ _ _ _ h => by cases h) (fun b hb i s h1 h2 h3 _ => hPs b hb i s h1 h2 h3) (fun z H C cl fp b hb i s h1 h2 h3 _ => he z H C cl fp b hb i s h1 h2 h3) (hs := hs) (ifs := [])
theorem repK_keys {K : PySem.W.Frag} {F : Hp} : ∀ {kvs : List (Key × V)} {ks : List (Str × D)}, RepK K F kvs ks → kvs.map (·.1) = ks.map fun q => Sum.inr q.1
  | _, _, .nil => rfl
  | _, _, .cons _ r => by rw [List.map_cons, List.map_cons, repK_keys r]
theorem repK_app {K : PySem.W.Frag} {F : Hp} : ∀ {kvs ls : List (Key × V)} {ks ms : List (Str × D)}, RepK K F kvs ks → RepK K F ls ms → RepK K F (kvs ++ ls) (ks ++ ms)
  | _, _, _, _, .nil, s => s
  | _, _, _, _, .cons h r, s => .cons h (repK_app r s)
theorem valV_none {kvs : List (Key × V)} {k : Key} (h : k ∉ kvs.map (·.1)) : valV kvs k = none := by
  unfold valV
  rw [List.find?_eq_none.mpr]
  · rfl
  · intro q hq e
    exact h (List.mem_map.mpr ⟨q, hq, of_decide_eq_true e⟩)
/-- {k: v for tg in iter}, the keys texts, all different -/
theorem m_dc {kx vx : Expr} {kf : β → Str} {vf : β → D} (hc : X.calm = true) (hN : X.N.Nodup) (hi : ItD X δ tg iter (l.map g) δ1) (ok : BlkOk X.N X.env.scope scope own)
    (hun : ∀ i ∈ own.map (·.2), look δ1 i = .un) (hids : ∀ b, ∀ q ∈ ids b, q.1 ∈ own.map (·.2)) (hnd : (l.map kf).Nodup)
    (hg : ∀ s H C cl fp b, b ∈ l → GtD (Blk X scope s H C cl fp) tg (g b) (ids b))
    (hk : ∀ z H C cl fp b, b ∈ l → EvD (Blk X scope z H C cl fp) (putL δ1 (ids b)) kx (.str (kf b)) (putL δ1 (ids b)))
    (he : ∀ z H C cl fp b, b ∈ l → EvD (Blk X scope z H C cl fp) (putL δ1 (ids b)) vx (vf b) (putL δ1 (ids b)))
    (hs : ∀ x, foldedSetIterable iter X.env x = pure x := by intro _; rfl) : MvD X δ (.DictComp kx vx [⟨tg, iter, [], 0⟩] scope pos) (l.map fun b => (kf b, vf b)) δ1 := by
  have hi' := hi.kd
  refine ⟨hi.kd, fun α σ H F Q st k => ?_⟩
  let tk : TE := fun σ H Q => ∀ s H0 C cl fp, twE (Blk X scope s H0 C cl fp) kx σ H Q
  let te : TE := fun σ H Q => ∀ s H0 C cl fp, twE (Blk X scope s H0 C cl fp) vx σ H Q
  let gg : TG := fun v σ H Q => ∀ s H0 C cl fp, twG (Blk X scope s H0 C cl fp) tg v σ H Q
  have pk : ∀ s H C cl fp, PE (Blk X scope s H C cl fp) kx tk := fun s H C cl fp => ⟨fun pins s1 σ H1 Q I h => h s H C cl fp pins s1 I⟩
  have pe : ∀ s H C cl fp, PE (Blk X scope s H C cl fp) vx te := fun s H C cl fp => ⟨fun pins s1 σ H1 Q I h => h s H C cl fp pins s1 I⟩
  have pg : ∀ s H C cl fp, PG (Blk X scope s H C cl fp) tg gg := fun s H C cl fp => ⟨fun pins s1 σ H1 v u Q I r h => h s H C cl fp pins s1 u I r⟩
  refine .of (pe_dc (own := own) (tk := tk) (tv := te) (g := gg) (tt := tYes) hc hN pi_tw ok pg (fun _ _ _ _ _ => pts_nil) pk pe hs) ?_
  refine hi.run α σ H F _ st fun J F' H' s1 st' io => ?_
  intro D hD
  have hl : l.length ≤ sizeLine := by have q := io.len; rw [List.length_map] at q; exact q
  have ownNe : ∀ i, isOwn (look δ1 i) = true → α i ≠ D := fun i h => st'.fresh hD i h
  have hFD : F' D = none := Same.none st'.fh hD
  have wst : StOk X.K α F' (upd H' D (.dK [])) (wipe σ (own.map (·.2))) δ1 := by
    refine (st'.grow (Grow.newH st'.fh hD)).wipe (wipe_length _ _) fun i hi => wipe_get fun hm => hi (hun i hm)
  refine ⟨fun i m H2 => m = l.length - i ∧ i ≤ l.length ∧ ∃ F2 kvs, H2 D = some (.dK kvs) ∧ RepK X.K F2 kvs ((l.take i).map fun b => (kf b, vf b)) ∧
      StOk X.K α F2 H2 (wipe σ (own.map (·.2))) δ1 ∧ Step (OwnA α δ1) F' H' F2 H2 ∧ F2 D = none, ⟨l.length, rfl, Nat.zero_le _, F', [], upd_same, .nil, wst, (Grow.newH st'.fh hD).step, hFD⟩, ?_⟩
  rintro i m H2 ⟨rfl, hi, F2, vs, hHD, hr, st2, sp2, hF2⟩
  have good : Same F' F2 ∧ Same F2 H2 := ⟨sp2.ff, st2.fh⟩
  by_cases hlt : i < l.length
  · refine .inr ⟨io.go i F2 H2 good (by rw [List.length_map]; exact hlt), ?_⟩
    have hb : l[i] ∈ l := List.getElem_mem hlt
    have hgi : (l.map g)[i]? = some (g l[i]) := by rw [List.getElem?_map, List.getElem?_eq_getElem hlt]; rfl
    have htk : l.take (i + 1) = l.take i ++ [l[i]] := by rw [List.take_add_one, List.getElem?_eq_getElem hlt]; rfl
    have hnot : kf l[i] ∉ (l.take i).map kf := by
      have q := hnd
      rw [← List.take_append_drop i l, List.map_append, List.nodup_append] at q
      intro hm
      refine q.2.2 _ hm (kf l[i]) ?_ rfl
      rw [List.drop_eq_getElem_cons hlt, List.map_cons]
      exact List.mem_cons_self
    generalize l[i] = b at hb hgi htk hnot
    refine ⟨fun H5 => ∃ F5 kvs', H5 D = some (.dK kvs') ∧ RepK X.K F5 kvs' ((l.take (i + 1)).map fun b => (kf b, vf b)) ∧
      StOk X.K α F5 H5 (wipe σ (own.map (·.2))) δ1 ∧ Step (OwnA α δ1) F' H' F5 H5 ∧ F5 D = none, fun H5 h5 => ⟨l.length - (i + 1), by omega, rfl, hlt, h5⟩, fun x H3 hy => ?_⟩
    obtain ⟨F3, gr, rx⟩ := io.yld i F2 H2 x H3 (g b) good st2.fh hgi hy
    have st3 := st2.grow gr
    have sp3 := sp2.trans gr.step
    have hD3 : H3 D = some (.dK vs) := gr.hh _ _ hHD
    have hF3 : F3 D = none := gr.nw _ (by rw [hHD]; simp) hF2
    have hr3 := hr.mono gr.ff
    intro zz Hz Cz clz fpz
    refine hg zz Hz Cz clz fpz b hb _ H3 F3 x _ st3.fh rx fun ws rws => ?_
    have hnb : ∀ q ∈ ids b, isOwn (look δ1 q.1) = false := fun q hq => by rw [hun q.1 (hids b q hq)]; rfl
    have st4 := st3.setL (ids b) rws hnb
    have hmem : ∀ j, j ∉ own.map (·.2) → j ∉ (ids b).map (·.1) := fun j hj hm => by
      obtain ⟨q, hq, rfl⟩ := List.mem_map.mp hm
      exact hj (hids b q hq)
    refine ⟨(wipe_same (by rw [setL_len, wipe_length]) fun j hj => (setL_out _ _ _ (hmem j hj)).trans (wipe_get hj)), ?_⟩
    have back : ∀ {F5 H5 : Hp}, StOk X.K α F5 H5 (setL (wipe σ (own.map (·.2))) ((ids b).map (·.1)) ws) (putL δ1 (ids b)) → StOk X.K α F5 H5 (wipe σ (own.map (·.2))) δ1 := fun {F5 H5} q => by
      refine ⟨q.fh, ?_, fun j => ?_, fun a c ha hc e => ?_⟩
      · have q1 := q.len
        rw [setL_len, putL_len] at q1
        exact q1
      · by_cases hj : j ∈ own.map (·.2)
        · rw [hun j hj]; trivial
        · have q1 := q.slot j
          rw [look_putL_out _ _ (hmem j hj)] at q1
          have e : (setL (wipe σ (own.map (·.2))) ((ids b).map (·.1)) ws)[j]? = (wipe σ (own.map (·.2)))[j]? := setL_out _ _ _ (hmem j hj)
          cases z : look δ1 j with
          | un => trivial
          | dat d => rw [z] at q1; obtain ⟨v, h1, h2⟩ := q1; exact ⟨v, by rw [← e]; exact h1, h2⟩
          | own d => rw [z] at q1; exact ⟨by rw [← e]; exact q1.1, q1.2⟩
          | par d => rw [z] at q1; exact ⟨by rw [← e]; exact q1.1, q1.2⟩
      · have up : ∀ j, isOwn (look δ1 j) = true → isOwn (look (putL δ1 (ids b)) j) = true := fun j hj => by
          by_cases hm : j ∈ own.map (·.2)
          · rw [hun j hm] at hj; cases hj
          · rw [look_putL_out _ _ (hmem j hm)]; exact hj
        exact q.inj a c (up a ha) (up c hc) e
    have toO : ∀ {c : Addr}, OwnA α (putL δ1 (ids b)) c → OwnA α δ1 c := fun {c} ⟨j, h1, h2⟩ => ⟨j, isOwn_putL _ _ h1, h2⟩
    have notO : ¬ OwnA α (putL δ1 (ids b)) D := fun ⟨j, h1, h2⟩ => ownNe j (isOwn_putL _ _ h1) h2
    unfold tYes
    refine iteT ?_
    intro z5 Hz5 C5 cl5 fp5
    refine (hk z5 Hz5 C5 cl5 fp5 b hb).run α _ H3 F3 _ st4 fun y F4 H4 s4 st5 ry => ?_
    intro z6 Hz6 C6 cl6 fp6
    refine (he z6 Hz6 C6 cl6 fp6 b hb).run α _ H4 F4 _ st5 fun z F5 H5 s5 st6 rz => ?_
    cases ry
    have hD5 : H5 D = some (.dK vs) := s5.hh _ _ (s4.hh _ _ hD3 notO) notO
    have hF4 : F4 D = none := s4.nw _ (by rw [hD3]; simp) hF3
    have hF5 : F5 D = none := s5.nw _ (by rw [s4.hh _ _ hD3 notO]; simp) hF4
    have sp5 := (sp3.trans (s4.mono fun c hc => toO hc)).trans (s5.mono fun c hc => toO hc)
    have hlen := RepK.length hr
    rw [List.length_map, List.length_take] at hlen
    have hnew : valV vs (.inr (kf b)) = none := valV_none (by
      rw [repK_keys hr, List.map_map]
      intro hm
      obtain ⟨q, hq, e⟩ := List.mem_map.mp hm
      exact hnot (List.mem_map.mpr ⟨q, hq, Sum.inr.inj e⟩))
    refine ⟨vs, .inr (kf b), rfl, hD5, by omega, F5, _, upd_same, ?_, ?_, ?_, hF5⟩
    · rw [putK_new _ hnew, htk, List.map_append]
      exact repK_app ((hr3.mono s4.ff).mono s5.ff) (.cons rz .nil)
    · have q := back st6
      refine ⟨fun c o e => ?_, q.len, fun j => ?_, q.inj⟩
      · have hc : c ≠ D := fun z => by subst z; rw [hF5] at e; cases e
        rw [upd_ne hc]; exact q.fh _ _ e
      · have q1 := q.slot j
        cases z : look δ1 j with
        | un => trivial
        | dat d => rw [z] at q1; exact q1
        | own d =>
          rw [z] at q1
          exact ⟨q1.1, q1.2.1, q1.2.2.grow (Same.refl _) (upd_ne (ownNe j (by rw [z]; rfl)))⟩
        | par d =>
          rw [z] at q1
          exact ⟨q1.1, q1.2.1, q1.2.2.grow (Same.refl _) (upd_ne (ownNe j (by rw [z]; rfl)))⟩
    · refine ⟨sp5.ff, fun c o e n => ?_, fun c e => ?_, sp5.nw⟩
      · have hc : c ≠ D := fun z => by subst z; rw [hD] at e; cases e
        rw [upd_ne hc]; exact sp5.hh _ _ e n
      · by_cases hc : c = D
        · subst hc; rw [upd_same]; simp
        · rw [upd_ne hc]; exact sp5.kp _ e
  · have ei : i = l.length := by omega
    subst ei
    refine .inl ⟨io.stop _ F2 H2 good (by rw [List.length_map]; exact Nat.le_refl _), ?_⟩
    rw [List.take_length] at hr
    have stE : StOk X.K α F2 H2 σ δ1 := st2.wipe (wipe_length _ _).symm fun j hj => (wipe_get fun hm => hj (hun j hm)).symm
    have hD0 : H D = none := by
      cases q : H D with
      | none => rfl
      | some o => exact absurd hD (s1.kp D (by rw [q]; simp))
    exact k D vs F2 H2 hD0 hF2 (s1.trans (sp2.mono fun c hc => hi'.ownA hc)) stE hHD hr
end
end ND

/-! NDg -/
set_option Elab.async false
set_option linter.all false
set_option maxRecDepth 100000
set_option maxHeartbeats 4000000
namespace ND
open PySem PySem.Spec PyProof.Rows L2

/-! ### from the start of some statements to their end -/
structure Reach (α : Nat → Addr) (δ : DEnv) (F H : Hp) (α' : Nat → Addr) (δ' : DEnv) (F' H' : Hp) : Prop where
  ff : Same F F'
  hh : ∀ b o, H b = some o → ¬ OwnA α δ b → H' b = some o
  kp : ∀ b, H b ≠ none → H' b ≠ none
  nw : ∀ b, H b ≠ none → F b = none → ¬ OwnA α δ b → F' b = none
  own : ∀ b, OwnA α' δ' b → H b = none ∨ OwnA α δ b
  par : ∀ i, isPar (look δ' i) = isPar (look δ i) ∧ (isPar (look δ i) = true → α' i = α i)
section
variable {α α1 α2 : Nat → Addr} {δ δ1 δ2 : DEnv} {F H F1 H1 F2 H2 : Hp}
theorem Reach.refl : Reach α δ F H α δ F H := ⟨Same.refl _, fun _ _ e _ => e, fun _ e => e, fun _ _ e _ => e, fun _ h => .inr h, fun _ => ⟨rfl, fun _ => rfl⟩⟩
theorem Reach.trans (a : Reach α δ F H α1 δ1 F1 H1) (b : Reach α1 δ1 F1 H1 α2 δ2 F2 H2) : Reach α δ F H α2 δ2 F2 H2 := by
  have no : ∀ c, H c ≠ none → ¬ OwnA α δ c → ¬ OwnA α1 δ1 c := fun c h n z => (a.own c z).elim h n
  refine ⟨a.ff.trans b.ff, fun c o e n => b.hh c o (a.hh c o e n) (no c (by rw [e]; simp) n), fun c e => b.kp c (a.kp c e), fun c e f n => b.nw c (a.kp c e) (a.nw c e f n) (no c e n), fun c h => ?_, fun i => ⟨(b.par i).1.trans (a.par i).1, fun h => ((b.par i).2 (by rw [(a.par i).1]; exact h)).trans ((a.par i).2 h)⟩⟩
  rcases b.own c h with z | z
  · refine .inl ?_
    cases q : H c with
    | none => rfl
    | some o => exact absurd z (a.kp c (by rw [q]; simp))
  · exact a.own c z
theorem Reach.of (s : Step (OwnA α δ) F H F1 H1) (k : Kd δ δ1) : Reach α δ F H α δ1 F1 H1 :=
  ⟨s.ff, s.hh, s.kp, fun b e f _ => s.nw b e f, fun b h => .inr (k.ownA h), fun i => ⟨k.par i, fun _ => rfl⟩⟩
end

structure DE where
  nx : DEnv → Prop
  rt : D → DEnv → Prop
def Nx (K : PySem.W.Frag) (α : Nat → Addr) (δ : DEnv) (F H : Hp) (P : DEnv → Prop) (R : Sl → Hp → Prop) : Prop :=
  ∀ α' σ' H' F' δ', P δ' → StOk K α' F' H' σ' δ' → Reach α δ F H α' δ' F' H' → R σ' H'
def Rt (K : PySem.W.Frag) (α : Nat → Addr) (δ : DEnv) (F H : Hp) (P : D → DEnv → Prop) (R : VK) : Prop :=
  ∀ v α' σ' H' F' d δ', P d δ' → Rep K F' v d → StOk K α' F' H' σ' δ' → Reach α δ F H α' δ' F' H' → R v H'
structure SvD (X : Cx) (δ : DEnv) (st : Stmt) (N : DE) : Prop where
  run : ∀ (α : Nat → Addr) (σ : Sl) (H F : Hp) (D : Ends), StOk X.K α F H σ δ → Nx X.K α δ F H N.nx D.nx → Rt X.K α δ F H N.rt D.rt → twS X st D σ H
structure SsD (X : Cx) (δ : DEnv) (sts : List Stmt) (N : DE) : Prop where
  run : ∀ (α : Nat → Addr) (σ : Sl) (H F : Hp) (D : Ends), StOk X.K α F H σ δ → Nx X.K α δ F H N.nx D.nx → Rt X.K α δ F H N.rt D.rt → twSs X sts D σ H
theorem Nx.after {K : PySem.W.Frag} {α α1 : Nat → Addr} {δ δ1 : DEnv} {F H F1 H1 : Hp} {P : DEnv → Prop} {R : Sl → Hp → Prop} (k : Nx K α δ F H P R) (r : Reach α δ F H α1 δ1 F1 H1) : Nx K α1 δ1 F1 H1 P R :=
  fun α' σ' H' F' δ' p st r' => k α' σ' H' F' δ' p st (r.trans r')
theorem Rt.after {K : PySem.W.Frag} {α α1 : Nat → Addr} {δ δ1 : DEnv} {F H F1 H1 : Hp} {P : D → DEnv → Prop} {R : VK} (k : Rt K α δ F H P R) (r : Reach α δ F H α1 δ1 F1 H1) : Rt K α1 δ1 F1 H1 P R :=
  fun v α' σ' H' F' d δ' p rv st r' => k v α' σ' H' F' d δ' p rv st (r.trans r')

section
variable {X : Cx} {δ δ' δ1 δ2 : DEnv} {e c tg iter : Expr} {st : Stmt} {rest sts a b body : List Stmt} {pos : Pos} {d : D} {ds : List D} {N : DE} {p : Bool}
theorem ss_nil (h : N.nx δ) : SsD X δ [] N := ⟨fun α σ H F D s k r => .of pss_nil (k α σ H F δ h s .refl)⟩
theorem ss_cons (h : SvD X δ st ⟨fun δ1 => SsD X δ1 rest N, N.rt⟩) : SsD X δ (st :: rest) N := by
  refine ⟨fun α σ H F D s k r => .of (pss_cons ps_tw pss_tw) ?_⟩
  exact h.run α σ H F { D with nx := twSs X rest D } s (fun α' σ' H' F' δ' q st' re => q.run α' σ' H' F' D st' (k.after re) (r.after re)) r
theorem s_ret (h : EvD X δ e d δ1) (q : N.rt d δ1) : SvD X δ (.Return (some e) pos) N := by
  refine ⟨fun α σ H F D s k r => .of (ps_ret pe_tw) ?_⟩
  exact h.run α σ H F _ s fun v F' H' sp st' rv => r v α σ H' F' d δ1 q rv st' (.of sp h.kd)
theorem s_expr (h : EvD X δ e d δ1) (q : N.nx δ1) (hs : swapsWith e none pos.line X.env = pure false := by rfl) : SvD X δ (.Expr e pos) N := by
  refine ⟨fun α σ H F D s k r => .of (ps_expr pe_tw hs) ?_⟩
  exact h.run α σ H F _ s fun v F' H' sp st' rv => k α σ H' F' δ1 q st' (.of sp h.kd)
theorem s_if (h : TvD X δ c p δ1) (h1 : p = true → SsD X δ1 a N) (h2 : p = false → SsD X δ1 b N) : SvD X δ (.If c a b pos) N := by
  refine ⟨fun α σ H F D s k r => .of (ps_if pt_tw pss_tw pss_tw) ?_⟩
  refine h.run α σ H F _ s fun F' H' sp st' => ?_
  have re : Reach α δ F H α δ1 F' H' := .of sp h.kd
  cases p with
  | true => exact iteT ((h1 rfl).run α σ H' F' D st' (k.after re) (r.after re))
  | false => exact iteF ((h2 rfl).run α σ H' F' D st' (k.after re) (r.after re))

/-! ### stores -/
theorem Reach.put {α : Nat → Addr} {F H : Hp} {i : Nat} {s : SD} (hs : isOwn s = false) (hp : isPar (look δ i) = false) : Reach α δ F H α (put δ i s) F H := by
  refine ⟨Same.refl _, fun _ _ e _ => e, fun _ e => e, fun _ _ e _ => e, fun b h => .inr ?_, fun j => ⟨?_, fun _ => rfl⟩⟩
  · obtain ⟨j, h1, h2⟩ := h
    rw [look_put] at h1
    split at h1
    · split at h1
      · rw [hs] at h1; cases h1
      · cases h1
    · exact ⟨j, h1, h2⟩
  · rw [look_put]
    split
    · rename_i e; subst e
      rw [hp]
      split
      · cases s <;> first | rfl | cases hs
      · rfl
    · rfl
theorem ss_forget (i : Nat) (h : SsD X (put δ i .un) sts N) (hp : isPar (look δ i) = false := by rfl) : SsD X δ sts N :=
  ⟨fun α σ H F D s k r => h.run α σ H F D s.forget (k.after (.put rfl hp)) (r.after (.put rfl hp))⟩
theorem ss_freezeL (i : Nat) (hi : look δ i = .own (.lst ds)) (h : SsD X (put δ i (.dat (.lst ds))) sts N) : SsD X δ sts N := by
  refine ⟨fun α σ H F D s k r => ?_⟩
  have q := s.slot i
  rw [hi] at q
  obtain ⟨h1, h2, vs, h3, h4⟩ := q
  have hl : i < δ.length := by
    by_cases hl : i < δ.length
    · exact hl
    · rw [look_out δ i (by omega)] at hi; cases hi
  have m : Same F (upd F (α i) (.lst vs)) := same_upd h2
  -- without the slot
  have s0 := s.forget (i := i)
  have no : ∀ j, isOwn (look (put δ i .un) j) = true → α j ≠ α i := fun j hj e => by
    have hji : j ≠ i := fun z => by
      subst z
      rw [look_put, if_pos rfl, if_pos hl] at hj
      cases hj
    rw [look_put, if_neg (Ne.symm hji)] at hj
    exact hji (s.inj j i hj (by rw [hi]; rfl) e)
  have s1 := s0.freeze h3 h2 no
  have s2 : StOk X.K α (upd F (α i) (.lst vs)) H σ (put δ i (.dat (.lst ds))) := by
    refine ⟨s1.fh, s.len.trans (put_len _ _ _).symm, fun j => ?_, fun a c ha hc e => ?_⟩
    · rw [look_put]
      by_cases hj : i = j
      · subst hj
        rw [if_pos rfl, if_pos hl]
        exact ⟨_, h1, .lst upd_same (h4.mono m)⟩
      · rw [if_neg hj]
        have z := s1.slot j
        rw [look_put, if_neg hj] at z
        exact z
    · have back : ∀ j, isOwn (look (put δ i (.dat (.lst ds))) j) = true → isOwn (look δ j) = true := fun j hj => by
        rw [look_put] at hj
        by_cases h : i = j
        · rw [if_pos h, if_pos hl] at hj; cases hj
        · rw [if_neg h] at hj; exact hj
      exact s.inj a c (back a ha) (back c hc) e
  have re : Reach α δ F H α (put δ i (.dat (.lst ds))) (upd F (α i) (.lst vs)) H := by
    have p := Reach.put (α := α) (F := F) (H := H) (δ := δ) (i := i) (s := .dat (.lst ds)) rfl (by rw [hi]; rfl)
    refine ⟨m, fun _ _ e _ => e, fun _ e => e, fun b e f n => ?_, p.own, p.par⟩
    rw [upd_ne fun z => n ⟨i, by rw [hi]; rfl, z.symm⟩]; exact f
  exact h.run α σ H _ D s2 (k.after re) (r.after re)
theorem ss_freezeD {ks : List (Str × ND.D)} (i : Nat) (hi : look δ i = .own (.dct ks)) (h : SsD X (put δ i (.dat (.dct ks))) sts N) : SsD X δ sts N := by
  refine ⟨fun α σ H F D s k r => ?_⟩
  have q := s.slot i
  rw [hi] at q
  obtain ⟨h1, h2, vs, h3, h4⟩ := q
  have hl : i < δ.length := by
    by_cases hl : i < δ.length
    · exact hl
    · rw [look_out δ i (by omega)] at hi; cases hi
  have m : Same F (upd F (α i) (.dK vs)) := same_upd h2
  have s0 := s.forget (i := i)
  have no : ∀ j, isOwn (look (put δ i .un) j) = true → α j ≠ α i := fun j hj e => by
    have hji : j ≠ i := fun z => by
      subst z
      rw [look_put, if_pos rfl, if_pos hl] at hj
      cases hj
    rw [look_put, if_neg (Ne.symm hji)] at hj
    exact hji (s.inj j i hj (by rw [hi]; rfl) e)
  have s1 := s0.freeze h3 h2 no
  have s2 : StOk X.K α (upd F (α i) (.dK vs)) H σ (put δ i (.dat (.dct ks))) := by
    refine ⟨s1.fh, s.len.trans (put_len _ _ _).symm, fun j => ?_, fun a c ha hc e => ?_⟩
    · rw [look_put]
      by_cases hj : i = j
      · subst hj
        rw [if_pos rfl, if_pos hl]
        exact ⟨_, h1, .dct (.inl upd_same) (h4.mono m)⟩
      · rw [if_neg hj]
        have z := s1.slot j
        rw [look_put, if_neg hj] at z
        exact z
    · have back : ∀ j, isOwn (look (put δ i (.dat (.dct ks))) j) = true → isOwn (look δ j) = true := fun j hj => by
        rw [look_put] at hj
        by_cases h : i = j
        · rw [if_pos h, if_pos hl] at hj; cases hj
        · rw [if_neg h] at hj; exact hj
      exact s.inj a c (back a ha) (back c hc) e
  have re : Reach α δ F H α (put δ i (.dat (.dct ks))) (upd F (α i) (.dK vs)) H := by
    have p := Reach.put (α := α) (F := F) (H := H) (δ := δ) (i := i) (s := .dat (.dct ks)) rfl (by rw [hi]; rfl)
    refine ⟨m, fun _ _ e _ => e, fun _ e => e, fun b e f n => ?_, p.own, p.par⟩
    rw [upd_ne fun z => n ⟨i, by rw [hi]; rfl, z.symm⟩]; exact f
  exact h.run α σ H _ D s2 (k.after re) (r.after re)

/-- values to be stored: data, or new objects -/
inductive XD where
  | dat (d : D) | new (d : D)
def XD.sd : XD → SD
  | .dat d => .dat d
  | .new d => .own d
def putX : DEnv → List Nat → List XD → DEnv
  | δ, i :: is, x :: xs => putX (put δ i x.sd) is xs
  | δ, _, _ => δ
inductive XOk (K : PySem.W.Frag) (H F' H' : Hp) : List V → List XD → List Addr → Prop
  | nil : XOk K H F' H' [] [] []
  | dat {v : V} {vs : List V} {d : D} {xs : List XD} {as : List Addr} : Rep K F' v d → XOk K H F' H' vs xs as → XOk K H F' H' (v :: vs) (.dat d :: xs) as
  | new {a : Addr} {vs : List V} {d : D} {xs : List XD} {as : List Addr} : H a = none → F' a = none → OwnR K F' H' a d → a ∉ as → XOk K H F' H' vs xs as → XOk K H F' H' (.ref a :: vs) (.new d :: xs) (a :: as)
theorem XOk.old {K : PySem.W.Frag} {H F' H' : Hp} {vs : List V} {xs : List XD} {as : List Addr} (h : XOk K H F' H' vs xs as) : ∀ a ∈ as, H a = none := by
  induction h with
  | nil => intro a h; cases h
  | dat _ _ ih => exact ih
  | new h1 _ _ _ _ ih =>
    intro b hb
    rcases List.mem_cons.mp hb with e | hb
    · rw [e]; exact h1
    · exact ih b hb
def upA (α : Nat → Addr) (i : Nat) (a : Addr) : Nat → Addr := fun j => if j = i then a else α j
theorem StOk.setNew {K : PySem.W.Frag} {α : Nat → Addr} {F H : Hp} {σ : Sl} {i : Nat} {a : Addr} (s : StOk K α F H σ δ) (hF : F a = none) (ow : OwnR K F H a d) (hne : ∀ j, isOwn (look δ j) = true → α j ≠ a) (hn : isOwn (look δ i) = false) :
    StOk K (upA α i a) F H (σ.set i (some (.ref a))) (put δ i (.own d)) := by
  have up : ∀ j, j ≠ i → upA α i a j = α j := fun j h => if_neg h
  refine ⟨s.fh, by rw [List.length_set, put_len]; exact s.len, fun j => ?_, fun x y hx hy e => ?_⟩
  · rw [look_put]
    by_cases h : i = j
    · subst h
      rw [if_pos rfl]
      by_cases hl : i < δ.length
      · rw [if_pos hl]
        have e : upA α i a i = a := if_pos rfl
        show _ ∧ _ ∧ _
        rw [e]
        exact ⟨by rw [List.getElem?_set_self (by rw [s.len]; exact hl)], hF, ow⟩
      · rw [if_neg hl]; trivial
    · rw [if_neg h]
      have q := s.slot j
      have hj := up j (Ne.symm h)
      cases e : look δ j with
      | un => trivial
      | dat d' => rw [e] at q; obtain ⟨w, h1, h2⟩ := q; exact ⟨w, by rw [List.getElem?_set_ne h]; exact h1, h2⟩
      | own d' => rw [e] at q; exact ⟨by rw [List.getElem?_set_ne h, hj]; exact q.1, by rw [hj]; exact q.2.1, by rw [hj]; exact q.2.2⟩
      | par d' => rw [e] at q; exact ⟨by rw [List.getElem?_set_ne h, hj]; exact q.1, by rw [hj]; exact q.2.1, by rw [hj]; exact q.2.2⟩
  · have back : ∀ j, j ≠ i → isOwn (look (put δ i (.own d)) j) = true → isOwn (look δ j) = true := fun j h hj => by
      rw [look_put, if_neg (Ne.symm h)] at hj; exact hj
    by_cases hxi : x = i
    · by_cases hyi : y = i
      · rw [hxi, hyi]
      · rw [hxi, show upA α i a i = a from if_pos rfl, up y hyi] at e
        exact absurd e.symm (hne y (back y hyi hy))
    · by_cases hyi : y = i
      · rw [hyi, show upA α i a i = a from if_pos rfl, up x hxi] at e
        exact absurd e (hne x (back x hxi hx))
      · rw [up x hxi, up y hyi] at e
        exact s.inj x y (back x hxi hx) (back y hyi hy) e
theorem StOk.setX {K : PySem.W.Frag} {F H H0 : Hp} : ∀ {vs : List V} {xs : List XD} {as : List Addr}, XOk K H0 F H vs xs as → ∀ {is : List Nat} {α : Nat → Addr} {σ : Sl} {δ : DEnv}, is.length = xs.length → StOk K α F H σ δ →
    (∀ i ∈ is, isOwn (look δ i) = false) → is.Nodup → (∀ a ∈ as, ∀ j, isOwn (look δ j) = true → α j ≠ a) →
    ∃ α', StOk K α' F H (ND.setL σ is vs) (putX δ is xs) ∧ (∀ b, OwnA α' (putX δ is xs) b → OwnA α δ b ∨ b ∈ as) ∧ ∀ j, isPar (look (putX δ is xs) j) = isPar (look δ j) ∧ (isPar (look δ j) = true → α' j = α j) := by
  intro vs xs as hx
  have notOwn : ∀ {δ : DEnv} {i : Nat} {s : SD} {r : List Nat}, (i :: r).Nodup → (∀ j ∈ i :: r, isOwn (look δ j) = false) → ∀ j ∈ r, isOwn (look (put δ i s) j) = false := fun {δ i s r} nd h j hj => by
    rw [look_put, if_neg fun z => (List.nodup_cons.mp nd).1 (by rw [z]; exact hj)]
    exact h j (List.mem_cons_of_mem _ hj)
  induction hx with
  | nil =>
    intro is α σ δ hl s _ _ _
    have e : is = [] := List.eq_nil_of_length_eq_zero hl
    subst e
    exact ⟨α, s, fun b h => .inl h, fun j => ⟨rfl, fun _ => rfl⟩⟩
  | @dat v vs d xs as r _ ih =>
    intro is α σ δ hl s hn nd hne
    cases is with
    | nil => cases hl
    | cons i is =>
      have hi := hn i List.mem_cons_self
      have hk : ∀ j, isOwn (look (put δ i (.dat d)) j) = true → isOwn (look δ j) = true := fun j hj => by
        rw [look_put] at hj
        split at hj
        · split at hj <;> cases hj
        · exact hj
      obtain ⟨α', h1, h2, h3⟩ := ih (is := is) (by simpa using hl) (s.set r hi) (notOwn nd hn) (List.nodup_cons.mp nd).2 fun a ha j hj => hne a ha j (hk j hj)
      refine ⟨α', h1, fun b hb => (h2 b hb).imp (fun ⟨j, z1, z2⟩ => ⟨j, hk j z1, z2⟩) id, fun j => ?_⟩
      have z := h3 j
      have pe : isPar (look (put δ i (.dat d)) j) = isPar (look δ j) := by
        rw [look_put]
        split
        · rename_i e; subst e
          have q : isPar (look δ i) = false := by cases e : look δ i <;> rw [e] at hi <;> first | rfl | cases hi
          rw [q]; split <;> rfl
        · rfl
      exact ⟨z.1.trans pe, fun h => z.2 (by rw [pe]; exact h)⟩
  | @new a vs d xs as ha hF ow hna hx' ih =>
    intro is α σ δ hl s hn nd hne
    cases is with
    | nil => cases hl
    | cons i is =>
      have hi := hn i List.mem_cons_self
      have s1 := s.setNew hF ow (fun j hj => hne a List.mem_cons_self j hj) hi
      obtain ⟨α', h1, h2, h3⟩ := ih (is := is) (by simpa using hl) s1 (notOwn nd hn) (List.nodup_cons.mp nd).2 fun b hb j hj => by
        by_cases hji : j = i
        · subst hji
          rw [show upA α j a j = a from if_pos rfl]
          exact fun z => hna (by rw [z]; exact hb)
        · rw [look_put, if_neg (Ne.symm hji)] at hj
          rw [show upA α i a j = α j from if_neg hji]
          exact hne b (List.mem_cons_of_mem _ hb) j hj
      refine ⟨α', h1, fun b hb => ?_, fun j => ?_⟩
      · rcases h2 b hb with ⟨j, z1, z2⟩ | hb
        · by_cases hji : j = i
          · subst hji
            rw [show upA α j a j = a from if_pos rfl] at z2
            exact .inr (by rw [← z2]; exact List.mem_cons_self)
          · rw [look_put, if_neg (Ne.symm hji)] at z1
            rw [show upA α i a j = α j from if_neg hji] at z2
            exact .inl ⟨j, z1, z2⟩
        · exact .inr (List.mem_cons_of_mem _ hb)
      · have z := h3 j
        have q : isPar (look δ i) = false := by cases e : look δ i <;> rw [e] at hi <;> first | rfl | cases hi
        have pe : isPar (look (put δ i (.own d)) j) = isPar (look δ j) := by
          rw [look_put]
          split
          · rename_i e; subst e
            rw [q]; split <;> rfl
          · rfl
        refine ⟨z.1.trans pe, fun h => (z.2 (by rw [pe]; exact h)).trans (if_neg fun e => ?_)⟩
        subst e
        rw [q] at h; cases h
end
end ND

/-! NDh -/
set_option Elab.async false
set_option linter.all false
set_option maxRecDepth 100000
set_option maxHeartbeats 4000000
namespace ND
open PySem PySem.Spec PyProof.Rows L2
/-- expressions whose values are data or new objects -/
structure XvD (X : Cx) (δ : DEnv) (es : List Expr) (xs : List XD) (δ' : DEnv) : Prop where
  kd : Kd δ δ'
  run : ∀ (α : Nat → Addr) (σ : Sl) (H F : Hp) (Q : List V → Hp → Prop), StOk X.K α F H σ δ →
    (∀ vs as F' H', Step (OwnA α δ) F H F' H' → StOk X.K α F' H' σ δ' → XOk X.K H F' H' vs xs as → Q vs H') → twA X es σ H Q
section
variable {X : Cx} {δ δ' δ1 δ2 : DEnv} {e c tg iter : Expr} {es : List Expr} {st : Stmt} {rest sts a b body : List Stmt} {pos : Pos} {d : D} {ds : List D} {N : DE} {p : Bool} {xs : List XD}
theorem none_back {O : Addr → Prop} {F H F' H' : Hp} (s : Step O F H F' H') {b : Addr} (h : H' b = none) : H b = none := by
  cases q : H b with
  | none => rfl
  | some o => exact absurd h (s.kp b (by rw [q]; simp))
theorem XOk.first {K : PySem.W.Frag} {H H1 F' H' : Hp} {vs : List V} {xs : List XD} {as : List Addr} (h : XOk K H1 F' H' vs xs as) (k : ∀ b, H1 b = none → H b = none) : XOk K H F' H' vs xs as := by
  induction h with
  | nil => exact .nil
  | dat r _ ih => exact .dat r ih
  | new h1 h2 h3 h4 _ ih => exact .new (k _ h1) h2 h3 h4 ih
theorem x_nil : XvD X δ [] [] δ := ⟨Kd.refl _, fun α σ H F Q st k => .of pa_nil (k [] [] F H .refl st .nil)⟩
theorem x_dat (ha : EvD X δ e d δ1) (hb : XvD X δ1 es xs δ2) (hs : starEach (e :: es) X.env = (false, eval e X.env) :: starEach es X.env := by rfl) : XvD X δ (e :: es) (.dat d :: xs) δ2 := by
  refine ⟨ha.kd.trans hb.kd, fun α σ H F Q st k => .of (pa_cons pe_tw pa_tw hs) ?_⟩
  refine ha.run α σ H F _ st fun v F1 H1 s1 st1 r1 => hb.run α σ H1 F1 _ st1 fun vs as F2 H2 s2 st2 r2 => ?_
  exact k _ as F2 H2 (s1.trans (s2.mono fun _ z => ha.kd.ownA z)) st2 (.dat (r1.mono s2.ff) (r2.first fun b => none_back s1))
theorem x_new (ha : NvD X δ e ds δ1) (hb : XvD X δ1 es xs δ2) (hs : starEach (e :: es) X.env = (false, eval e X.env) :: starEach es X.env := by rfl) : XvD X δ (e :: es) (.new (.lst ds) :: xs) δ2 := by
  refine ⟨ha.kd.trans hb.kd, fun α σ H F Q st k => .of (pa_cons pe_tw pa_tw hs) ?_⟩
  refine ha.run α σ H F _ st fun a ws F1 H1 hHa hFa s1 st1 hl r1 => hb.run α σ H1 F1 _ st1 fun vs as F2 H2 s2 st2 r2 => ?_
  have no : ¬ OwnA α δ1 a := fun ⟨j, h1, h2⟩ => st.fresh hHa j (by rw [← ha.kd.own j]; exact h1) h2
  have na : a ∉ as := fun h => by rw [XOk.old r2 a h] at hl; cases hl
  exact k _ (a :: as) F2 H2 (s1.trans (s2.mono fun _ z => ha.kd.ownA z)) st2 (.new hHa (s2.nw _ (by rw [hl]; simp) hFa) ⟨ws, s2.hh _ _ hl no, r1.mono s2.ff⟩ na (r2.first fun b => none_back s1))
theorem x_newD {ks : List (Str × ND.D)} (ha : MvD X δ e ks δ1) (hb : XvD X δ1 es xs δ2) (hs : starEach (e :: es) X.env = (false, eval e X.env) :: starEach es X.env := by rfl) : XvD X δ (e :: es) (.new (.dct ks) :: xs) δ2 := by
  refine ⟨ha.kd.trans hb.kd, fun α σ H F Q st k => .of (pa_cons pe_tw pa_tw hs) ?_⟩
  refine ha.run α σ H F _ st fun a ws F1 H1 hHa hFa s1 st1 hl r1 => hb.run α σ H1 F1 _ st1 fun vs as F2 H2 s2 st2 r2 => ?_
  have no : ¬ OwnA α δ1 a := fun ⟨j, h1, h2⟩ => st.fresh hHa j (by rw [← ha.kd.own j]; exact h1) h2
  have na : a ∉ as := fun h => by rw [XOk.old r2 a h] at hl; cases hl
  exact k _ (a :: as) F2 H2 (s1.trans (s2.mono fun _ z => ha.kd.ownA z)) st2 (.new hHa (s2.nw _ (by rw [hl]; simp) hFa) ⟨ws, s2.hh _ _ hl no, r1.mono s2.ff⟩ na (r2.first fun b => none_back s1))
/-- the store of such values -/
theorem store_x {α : Nat → Addr} {σ : Sl} {F H F' H' : Hp} {is : List Nat} {vs : List V} {as : List Addr} (st : StOk X.K α F H σ δ) (s1 : Step (OwnA α δ) F H F' H') (kd : Kd δ δ1) (st' : StOk X.K α F' H' σ δ1) (hx : XOk X.K H F' H' vs xs as)
    (hl : is.length = xs.length) (hn : ∀ i ∈ is, isPar (look δ1 i) = false) (nd : is.Nodup) {R : Sl → Hp → Prop} {P : DEnv → Prop} (k : Nx X.K α δ F H P R) (q : P (putX δ1 is xs)) : R (setL σ is vs) H' := by
  -- what stood in the slots is forgotten first
  have fg : ∀ (is : List Nat) (δ1 : DEnv), (∀ i ∈ is, isPar (look δ1 i) = false) → StOk X.K α F' H' σ δ1 → ∃ δ0, StOk X.K α F' H' σ δ0 ∧ (∀ i ∈ is, isOwn (look δ0 i) = false) ∧ (∀ j, j ∉ is → look δ0 j = look δ1 j) ∧ (∀ j, isOwn (look δ0 j) = true → isOwn (look δ1 j) = true) ∧ (∀ j, isPar (look δ0 j) = isPar (look δ1 j)) ∧ δ0.length = δ1.length := by
    intro is
    induction is with
    | nil => exact fun δ1 _ s => ⟨δ1, s, fun i h => (by cases h), fun _ _ => rfl, fun _ h => h, fun _ => rfl, rfl⟩
    | cons i is ih =>
      intro δ1 hn s
      have hp : ∀ j, isPar (look (put δ1 i .un) j) = isPar (look δ1 j) := fun j => ((Reach.put (α := α) (F := F') (H := H') (s := .un) rfl (hn i List.mem_cons_self)).par j).1
      obtain ⟨δ0, h1, h2, h3, h4, h5, h6⟩ := ih (put δ1 i .un) (fun j hj => (hp j).trans (hn j (List.mem_cons_of_mem _ hj))) s.forget
      have ow : ∀ j, isOwn (look (put δ1 i .un) j) = true → isOwn (look δ1 j) = true ∧ j ≠ i := fun j hj => by
        rw [look_put] at hj
        by_cases e : i = j
        · rw [if_pos e] at hj; split at hj <;> cases hj
        · rw [if_neg e] at hj; exact ⟨hj, Ne.symm e⟩
      refine ⟨δ0, h1, fun j hj => ?_, fun j hj => ?_, fun j hj => (ow j (h4 j hj)).1, fun j => (h5 j).trans (hp j), h6.trans (put_len _ _ _)⟩
      · rcases List.mem_cons.mp hj with e | hj
        · subst e
          cases z : isOwn (look δ0 j) with
          | false => rfl
          | true => exact absurd rfl (ow j (h4 j z)).2
        · exact h2 j hj
      · rw [h3 j fun z => hj (List.mem_cons_of_mem _ z), look_put, if_neg fun e => hj (by rw [e]; exact List.mem_cons_self)]
  obtain ⟨δ0, h1, h2, h3, h4, h5, h6⟩ := fg is δ1 hn st'
  have hne : ∀ a ∈ as, ∀ j, isOwn (look δ0 j) = true → α j ≠ a := fun a ha j hj => st.fresh (XOk.old hx a ha) j (by rw [← kd.own j]; exact h4 j hj)
  obtain ⟨α', g1, g2, g3⟩ := StOk.setX hx hl h1 h2 nd hne
  have eq : putX δ0 is xs = putX δ1 is xs := by
    have pl : ∀ (is : List Nat) (xs : List XD) (δ : DEnv), (putX δ is xs).length = δ.length := by
      intro is
      induction is with
      | nil => intro xs δ; rfl
      | cons i is ih =>
        intro xs δ
        cases xs with
        | nil => rfl
        | cons x xs => show (putX (put δ i x.sd) is xs).length = _; rw [ih, put_len]
    have lk : ∀ (is : List Nat) (xs : List XD) (δ0 δ1 : DEnv), is.length = xs.length → δ0.length = δ1.length → (∀ j, j ∉ is → look δ0 j = look δ1 j) → ∀ j, look (putX δ0 is xs) j = look (putX δ1 is xs) j := by
      intro is
      induction is with
      | nil => intro xs δ0 δ1 _ _ h j; exact h j (by simp)
      | cons i is ih =>
        intro xs δ0 δ1 hl hd h j
        cases xs with
        | nil => cases hl
        | cons x xs =>
          refine ih xs _ _ (by simpa using hl) (by rw [put_len, put_len, hd]) (fun j hj => ?_) j
          rw [look_put, look_put]
          by_cases e : i = j
          · rw [if_pos e, if_pos e, hd]
          · rw [if_neg e, if_neg e]
            exact h j fun z => (List.mem_cons.mp z).elim (fun z => e z.symm) hj
    have ext : ∀ (δ0 δ1 : DEnv), δ0.length = δ1.length → (∀ j, look δ0 j = look δ1 j) → δ0 = δ1 := by
      intro δ0
      induction δ0 with
      | nil => intro δ1 h _; exact (List.eq_nil_of_length_eq_zero h.symm).symm
      | cons s r ih =>
        intro δ1 h hj
        cases δ1 with
        | nil => cases h
        | cons t r' => rw [show s = t from hj 0, ih r' (by simpa using h) fun j => hj (j + 1)]
    exact ext _ _ (by rw [pl, pl, h6]) (lk is xs δ0 δ1 hl h6 h3)
  rw [eq] at g1 g2 g3
  refine k α' _ H' F' _ q g1 ⟨s1.ff, s1.hh, s1.kp, fun b e f _ => s1.nw b e f, fun b hb => ?_, fun j => ?_⟩
  · rcases g2 b hb with ⟨j, z1, z2⟩ | z
    · exact .inr ⟨j, by rw [← kd.own j]; exact h4 j z1, z2⟩
    · exact .inl (XOk.old hx b z)
  · have z := g3 j
    exact ⟨z.1.trans ((h5 j).trans (kd.par j)), fun h => z.2 (by rw [h5 j, kd.par j]; exact h)⟩
/-- x = e, data -/
theorem s_set {i : Nat} {x : Str} {pos' : Pos} (hN : X.N.Nodup) (hi : X.N[i]? = some x) (hx : Loc X.env.scope x) (h : EvD X δ e d δ1) (q : N.nx (put δ1 i (.dat d))) (hp : isPar (look δ1 i) = false := by rfl)
    (hs : swapsWith e (some (.Name x pos')) pos.line X.env = pure false := by rfl) (hf : X.fn x = true ∨ X.env.scope.names.lookup x = some .local := by first | exact .inl rfl | exact .inr rfl | assumption) : SvD X δ (.Assign [.Name x pos'] e pos) N := by
  refine ⟨fun α σ H F D s k r => .of (ps_set hN hi hx pe_tw hs hf) ?_⟩
  refine h.run α σ H F _ s fun v F' H' sp st' rv => ?_
  exact store_x (is := [i]) (xs := [.dat d]) (vs := [v]) (as := []) s sp h.kd st' (.dat rv .nil) rfl (fun j hj => by rw [List.mem_singleton.mp hj]; exact hp) (by simp) k q
/-- x = e, a new list of the frame's own -/
theorem s_setN {i : Nat} {x : Str} {pos' : Pos} (hN : X.N.Nodup) (hi : X.N[i]? = some x) (hx : Loc X.env.scope x) (h : NvD X δ e ds δ1) (q : N.nx (put δ1 i (.own (.lst ds)))) (hp : isPar (look δ1 i) = false := by rfl)
    (hs : swapsWith e (some (.Name x pos')) pos.line X.env = pure false := by rfl) (hf : X.fn x = true ∨ X.env.scope.names.lookup x = some .local := by first | exact .inl rfl | exact .inr rfl | assumption) : SvD X δ (.Assign [.Name x pos'] e pos) N := by
  refine ⟨fun α σ H F D s k r => .of (ps_set hN hi hx pe_tw hs hf) ?_⟩
  refine h.run α σ H F _ s fun a ws F' H' ha hF sp st' hl rv => ?_
  exact store_x (is := [i]) (xs := [.new (.lst ds)]) (vs := [.ref a]) (as := [a]) s sp h.kd st' (.new ha hF ⟨ws, hl, rv⟩ (by simp) .nil) rfl (fun j hj => by rw [List.mem_singleton.mp hj]; exact hp) (by simp) k q
theorem s_setM {i : Nat} {x : Str} {pos' : Pos} {ks : List (Str × ND.D)} (hN : X.N.Nodup) (hi : X.N[i]? = some x) (hx : Loc X.env.scope x) (h : MvD X δ e ks δ1) (q : N.nx (put δ1 i (.own (.dct ks)))) (hp : isPar (look δ1 i) = false := by rfl)
    (hs : swapsWith e (some (.Name x pos')) pos.line X.env = pure false := by rfl) (hf : X.fn x = true ∨ X.env.scope.names.lookup x = some .local := by first | exact .inl rfl | exact .inr rfl | assumption) : SvD X δ (.Assign [.Name x pos'] e pos) N := by
  refine ⟨fun α σ H F D s k r => .of (ps_set hN hi hx pe_tw hs hf) ?_⟩
  refine h.run α σ H F _ s fun a ws F' H' ha hF sp st' hl rv => ?_
  exact store_x (is := [i]) (xs := [.new (.dct ks)]) (vs := [.ref a]) (as := [a]) s sp h.kd st' (.new ha hF ⟨ws, hl, rv⟩ (by simp) .nil) rfl (fun j hj => by rw [List.mem_singleton.mp hj]; exact hp) (by simp) k q
/-- target = data -/
theorem s_asg {ps : List (Nat × ND.D)} (h : EvD X δ e d δ1) (hg : GtD X tg d ps) (q : N.nx (putL δ1 ps)) (hp : ∀ z ∈ ps, isOwn (look δ1 z.1) = false)
    (hs : swapsWithSole [tg] e pos.line X.env = pure false := by rfl) (hw : swappedStores [tg] e X.env = pure none := by rfl)
    (h1 : (assignEach [tg] X.env).map (·.2) = [assign tg X.env] := by rfl) : SvD X δ (.Assign [tg] e pos) N := by
  refine ⟨fun α σ H F D s k r => .of (ps_asg pe_tw pg_tw hs hw h1) ?_⟩
  refine h.run α σ H F _ s fun v F' H' sp st' rv => ?_
  refine hg σ H' F' v _ st'.fh rv fun vs rs => ?_
  have st2 := st'.setL ps rs hp
  have re : Reach α δ F H α (putL δ1 ps) F' H' := by
    have k1 : ∀ j, isOwn (look (putL δ1 ps) j) = true → isOwn (look δ1 j) = true := fun j => isOwn_putL ps δ1
    have k2 : ∀ (ps : List (Nat × ND.D)) (δ1 : DEnv), (∀ z ∈ ps, isOwn (look δ1 z.1) = false) → ∀ j, isPar (look (putL δ1 ps) j) = isPar (look δ1 j) := by
      intro ps
      induction ps with
      | nil => intro δ1 _ j; rfl
      | cons z ps ih =>
        intro δ1 hz j
        have np : isPar (look δ1 z.1) = false := by
          have q := hz z List.mem_cons_self
          cases e : look δ1 z.1 <;> rw [e] at q <;> first | rfl | cases q
        refine (ih (put δ1 z.1 (.dat z.2)) (fun y hy => ?_) j).trans ((Reach.put (α := α) (F := F') (H := H') (s := .dat z.2) rfl np).par j).1
        rw [look_put]
        split
        · split <;> rfl
        · exact hz y (List.mem_cons_of_mem _ hy)
    exact ⟨sp.ff, sp.hh, sp.kp, fun b e f _ => sp.nw b e f, fun b ⟨j, z1, z2⟩ => .inr ⟨j, by rw [← h.kd.own j]; exact k1 j z1, z2⟩, fun j => ⟨(k2 ps δ1 hp j).trans (h.kd.par j), fun _ => rfl⟩⟩
  exact k α _ H' F' _ q st2 re
/-- a, b = x, y, plain local names -/
theorem s_par {i j : Nat} {x y : Str} {a b : Expr} {px py pt : Pos} {kt k2 pt2} {x1 x2 : XD} (hc : X.calm = true) (hN : X.N.Nodup) (hi : X.N[i]? = some x) (hj : X.N[j]? = some y) (hij : i ≠ j)
    (hx : X.env.scope.names.lookup x = some .local) (hy : X.env.scope.names.lookup y = some .local) (h : XvD X δ [a, b] [x1, x2] δ1)
    (q : N.nx (putX δ1 [i, j] [x1, x2])) (hw : swappedStores [.Tuple [.Name x px, .Name y py] kt pt] (.Tuple [a, b] k2 pt2) X.env = pure (some [x, y])) (hp : isPar (look δ1 i) = false := by rfl) (hp2 : isPar (look δ1 j) = false := by rfl)
    (hs : swapsWithSole [.Tuple [.Name x px, .Name y py] kt pt] (.Tuple [a, b] k2 pt2) pos.line X.env = pure false := by rfl) : SvD X δ (.Assign [.Tuple [.Name x px, .Name y py] kt pt] (.Tuple [a, b] k2 pt2) pos) N := by
  refine ⟨fun α σ H F D s k r => .of (ps_par hc hN hi hj hij hx hy pa_tw hw hs) ?_⟩
  refine h.run α σ H F _ s fun vs as F' H' sp st' hv => ?_
  have fin := store_x (is := [i, j]) s sp h.kd st' hv rfl (fun z hz => by
    rcases List.mem_cons.mp hz with e | hz
    · rw [e]; exact hp
    · rw [List.mem_singleton.mp hz]; exact hp2) (by simp [hij]) k q
  obtain ⟨v, w, rfl⟩ : ∃ v w, vs = [v, w] := by
    cases hv with
    | dat _ h2 => cases h2 with
      | dat _ h3 => cases h3; exact ⟨_, _, rfl⟩
      | new _ _ _ _ h3 => cases h3; exact ⟨_, _, rfl⟩
    | new _ _ _ _ h2 => cases h2 with
      | dat _ h3 => cases h3; exact ⟨_, _, rfl⟩
      | new _ _ _ _ h3 => cases h3; exact ⟨_, _, rfl⟩
  exact ⟨v, w, rfl, fin⟩
theorem xOk_len {K : PySem.W.Frag} {H F' H' : Hp} {vs : List V} {xs : List XD} {as : List Addr} (h : XOk K H F' H' vs xs as) : vs.length = xs.length := by
  induction h with
  | nil => rfl
  | dat _ _ ih => simp [ih]
  | new _ _ _ _ _ ih => simp [ih]
theorem s_par3 {i j l : Nat} {x y z : Str} {a b c : Expr} {px py pz pt : Pos} {kt k2 pt2} {x1 x2 x3 : XD} (hc : X.calm = true) (hN : X.N.Nodup) (hi : X.N[i]? = some x) (hj : X.N[j]? = some y) (hl : X.N[l]? = some z) (hij : i ≠ j) (hil : i ≠ l) (hjl : j ≠ l)
    (hx : X.env.scope.names.lookup x = some .local) (hy : X.env.scope.names.lookup y = some .local) (hz : X.env.scope.names.lookup z = some .local) (h : XvD X δ [a, b, c] [x1, x2, x3] δ1)
    (q : N.nx (putX δ1 [i, j, l] [x1, x2, x3])) (hw : swappedStores [.Tuple [.Name x px, .Name y py, .Name z pz] kt pt] (.Tuple [a, b, c] k2 pt2) X.env = pure (some [x, y, z])) (hp : isPar (look δ1 i) = false := by rfl) (hp2 : isPar (look δ1 j) = false := by rfl) (hp3 : isPar (look δ1 l) = false := by rfl)
    (hs : swapsWithSole [.Tuple [.Name x px, .Name y py, .Name z pz] kt pt] (.Tuple [a, b, c] k2 pt2) pos.line X.env = pure false := by rfl) : SvD X δ (.Assign [.Tuple [.Name x px, .Name y py, .Name z pz] kt pt] (.Tuple [a, b, c] k2 pt2) pos) N := by
  refine ⟨fun α σ H F D s k r => .of (ps_par3 hc hN hi hj hl hij hil hjl hx hy hz pa_tw hw hs) ?_⟩
  refine h.run α σ H F _ s fun vs as F' H' sp st' hv => ?_
  have fin := store_x (is := [i, j, l]) s sp h.kd st' hv rfl (fun z hz => by
    rcases List.mem_cons.mp hz with e | hz
    · rw [e]; exact hp
    · rcases List.mem_cons.mp hz with e | hz
      · rw [e]; exact hp2
      · rw [List.mem_singleton.mp hz]; exact hp3) (by simp [hij, hil, hjl]) k q
  have lv := xOk_len hv
  match vs, lv with
  | [u, v, w], _ => exact ⟨u, v, w, rfl, fin⟩
/-- the same where a name is a cell: by a tuple -/
theorem s_parT {is : List Nat} {ts : List Expr} {kt k2 : Nat} {pt pt2 : Pos} (h : XvD X δ es xs δ1) (hc : X.calm = true) (hts : ∃ t, PGs X ts t ∧ ∀ σ H (vs : List V) Q, vs.length = is.length → Q (setL σ is vs) H → t vs σ H Q)
    (q : N.nx (putX δ1 is xs)) (hl : is.length = xs.length) (nd : is.Nodup) (hp : ∀ i ∈ is, isPar (look δ1 i) = false) (hz : xs.length ≤ sizeLine := by decide)
    (hn : (assignEach ts X.env).length = is.length := by rfl) (hst : (assignEach ts X.env).findIdx? (·.1) = none := by rfl)
    (hs : swapsWithSole [.Tuple ts kt pt] (.Tuple es k2 pt2) pos.line X.env = pure false := by rfl) (hw : swappedStores [.Tuple ts kt pt] (.Tuple es k2 pt2) X.env = pure none := by rfl)
    (h1 : (assignEach [.Tuple ts kt pt] X.env).map (·.2) = [assign (.Tuple ts kt pt) X.env] := by rfl) : SvD X δ (.Assign [.Tuple ts kt pt] (.Tuple es k2 pt2) pos) N := by
  obtain ⟨t, ht, hq⟩ := hts
  refine ⟨fun α σ H F D s k r => .of (ps_asg (pe_tup pa_tw) (pg_tup hc ht hn hst) hs hw h1) ?_⟩
  refine h.run α σ H F _ s fun vs as F' H' sp st' hv => ⟨by rw [xOk_len hv]; exact hz, fun T hT => ?_⟩
  refine ⟨T, vs, rfl, SqT.of upd_same, by rw [xOk_len hv, hl], hq _ _ _ _ (by rw [xOk_len hv, hl]) ?_⟩
  have g : Grow F' H' F' (upd H' T (.tup vs)) := Grow.newH st'.fh hT
  have hv2 : XOk X.K H F' (upd H' T (.tup vs)) vs xs as := by
    have gen : ∀ {us : List V} {ys : List XD} {bs : List Addr}, XOk X.K H F' H' us ys bs → XOk X.K H F' (upd H' T (.tup vs)) us ys bs := fun {us ys bs} h => by
      induction h with
      | nil => exact .nil
      | dat r _ ih => exact .dat r ih
      | new h1 h2 h3 h4 _ ih => exact .new h1 h2 (h3.grow (Same.refl _) (upd_ne fun z => h3.some (by rw [z]; exact hT))) h4 ih
    exact gen hv
  exact store_x s (sp.trans g.step) h.kd (st'.grow g) hv2 hl hp nd k q
theorem gs_nil : PGs X [] gNil ∧ ∀ σ H (vs : List V) Q, vs.length = ([] : List Nat).length → Q (setL σ [] vs) H → gNil vs σ H Q :=
  ⟨pgs_nil, fun σ H vs Q h q => ⟨List.eq_nil_of_length_eq_zero h, by cases vs <;> exact q⟩⟩
theorem gs_cons {i : Nat} {is : List Nat} {x : Str} {p' : Pos} {ts : List Expr} {t : TGs} (hN : X.N.Nodup) (hi : X.N[i]? = some x) (hx : Loc X.env.scope x) (h : PGs X ts t ∧ ∀ σ H (vs : List V) Q, vs.length = is.length → Q (setL σ is vs) H → t vs σ H Q)
    (hf : X.fn x = true ∨ X.env.scope.names.lookup x = some .local := by first | exact .inl rfl | exact .inr rfl | assumption)
    (hs : (assignEach (.Name x p' :: ts) X.env).map (·.2) = assign (.Name x p') X.env :: (assignEach ts X.env).map (·.2) := by rfl) :
    PGs X (.Name x p' :: ts) (gCons (gName i) t) ∧ ∀ σ H (vs : List V) Q, vs.length = (i :: is).length → Q (setL σ (i :: is) vs) H → gCons (gName i) t vs σ H Q := by
  refine ⟨pgs_cons (pg_name hN hi hx hf) h.1 hs, fun σ H vs Q hl q => ?_⟩
  cases vs with
  | nil => cases hl
  | cons v vs => exact ⟨v, vs, rfl, h.2 _ _ vs Q (by simpa using hl) q⟩
/-- x = [..] where the comprehension stores itself -/
theorem twS.unl {σ : Sl} {H : Hp} {D : Ends} {i : Nat} {t : TE} (hps : PS X st (tAsg t (gName i))) (h : t σ H (Unl X fun v H' => D.nx (σ.set i (some v)) H')) : twS X st D σ H := by
  refine fun pins s I => thn (hps.run pins s σ H { D with nx := fun σ' H' => D.nx σ' H' ∨ ∃ d od kvs, H' d = some (.frz od (.dK kvs)) ∧ (∀ o' u', X.H_0 d ≠ some (.frz o' u')) ∧ D.nx σ' (upd H' d (.dK kvs)) } I h) fun f s1 q => ?_
  cases f with
  | next =>
    obtain ⟨σ', H', I', q⟩ := q
    rcases q with q | ⟨d, od, kvs, hd, hn, q⟩
    · exact ⟨σ', H', I', q⟩
    · exact ⟨σ', _, I'.unlock hd hn, q⟩
  | brk => exact q
  | cont => exact q
  | ret v => exact q
theorem s_setLc {i : Nat} {y : Str} {py spos : Pos} {elt : Expr} {ifs : List Expr} {scope : Scope} {own : List (Str × Nat)} (hc : X.calm = true) (hN : X.N.Nodup) (hy : X.N[i]? = some y) (hyl : X.env.scope.names.lookup y = some .local)
    (h : LcD X δ elt tg iter ifs scope own ds δ1) (q : N.nx (put δ1 i (.own (.lst ds)))) (hsw : swapsWith (.ListComp elt [⟨tg, iter, ifs, 0⟩] scope pos) (some (.Name y py)) spos.line X.env = pure true) (hp : isPar (look δ1 i) = false := by rfl) :
    SvD X δ (.Assign [.Name y py] (.ListComp elt [⟨tg, iter, ifs, 0⟩] scope pos) spos) N := by
  refine ⟨fun α σ H F D s k r => ?_⟩
  obtain ⟨g, tt, te, hg, ht, he, run⟩ := h.rd
  refine twS.unl (ps_setLc (own := own) hc hN hy hyl hsw pi_tw h.ok hg ht he h.hs) ?_
  refine run α σ H F _ s fun a ws F' H' ha hF sp st' hl rv => ?_
  exact store_x (is := [i]) (xs := [.new (.lst ds)]) (vs := [.ref a]) (as := [a]) s sp h.kd st' (.new ha hF ⟨ws, hl, rv⟩ (by simp) .nil) rfl (fun j hj => by rw [List.mem_singleton.mp hj]; exact hp) (by simp) k q

/-! ### loops -/
theorem s_for {Iv : Nat → DEnv → Prop} (hcalm : X.calm = true) (hpass : PassesOwn (model X.prog X.w) X.A X.env X.xe) (hi : ItD X δ tg iter ds δ1) (h0 : Iv 0 δ1)
    (hb : ∀ i d δ2, ds[i]? = some d → Iv i δ2 → ∃ ps, GtD X tg d ps ∧ (∀ z ∈ ps, isOwn (look δ2 z.1) = false) ∧ SsD X (putL δ2 ps) body ⟨Iv (i + 1), N.rt⟩) (hd : ∀ δ2, Iv ds.length δ2 → N.nx δ2)
    (hs : ∀ x, foldedSetIterable iter X.env x = pure x := by intro _; rfl) : SvD X δ (.For tg iter body [] pos) N := by
  refine ⟨fun α σ H F D s k r => .of (ps_for hpass hcalm pi_tw pg_tw pss_tw hs) ?_⟩
  refine hi.run α σ H F _ s fun J F1 H1 sp st1 io => ?_
  have re1 : Reach α δ F H α δ1 F1 H1 := .of sp hi.kd
  refine ⟨fun i m σ2 H2 => m = ds.length - i ∧ i ≤ ds.length ∧ ∃ α2 F2 δ2, Iv i δ2 ∧ StOk X.K α2 F2 H2 σ2 δ2 ∧ Reach α δ1 F1 H1 α2 δ2 F2 H2, ⟨_, rfl, Nat.zero_le _, α, F1, δ1, h0, st1, .refl⟩, ?_⟩
  rintro i m σ2 H2 ⟨rfl, hle, α2, F2, δ2, hIv, st2, re2⟩
  have good : Same F1 F2 ∧ Same F2 H2 := ⟨re2.ff, st2.fh⟩
  by_cases hlt : i < ds.length
  · refine .inr ⟨io.go i F2 H2 good hlt, fun σ' H' => ∃ α3 F3 δ3, Iv (i + 1) δ3 ∧ StOk X.K α3 F3 H' σ' δ3 ∧ Reach α δ1 F1 H1 α3 δ3 F3 H', fun σ' H' hN => ⟨ds.length - (i + 1), by omega, rfl, hlt, hN⟩, fun x H3 hy => ?_⟩
    have hdi : ds[i]? = some ds[i] := List.getElem?_eq_getElem hlt
    obtain ⟨F3, gr, rx⟩ := io.yld i F2 H2 x H3 _ good st2.fh hdi hy
    obtain ⟨ps, hg, hps, hbody⟩ := hb i _ δ2 hdi hIv
    have st3 := st2.grow gr
    refine hg σ2 H3 F3 x _ st3.fh rx fun vs rs => ?_
    have st4 := st3.setL ps rs hps
    have re3 : Reach α δ1 F1 H1 α2 (putL δ2 ps) F3 H3 := by
      refine re2.trans ?_
      have k2 : ∀ (ps : List (Nat × ND.D)) (δ1 : DEnv), (∀ z ∈ ps, isOwn (look δ1 z.1) = false) → ∀ j, isPar (look (putL δ1 ps) j) = isPar (look δ1 j) := by
        intro ps
        induction ps with
        | nil => intro δ1 _ j; rfl
        | cons z ps ih =>
          intro δ1 hz j
          have np : isPar (look δ1 z.1) = false := by
            have q := hz z List.mem_cons_self
            cases e : look δ1 z.1 <;> rw [e] at q <;> first | rfl | cases q
          refine (ih (put δ1 z.1 (.dat z.2)) (fun y hy => ?_) j).trans ((Reach.put (α := α) (F := F3) (H := H3) (s := .dat z.2) rfl np).par j).1
          rw [look_put]
          split
          · split <;> rfl
          · exact hz y (List.mem_cons_of_mem _ hy)
      exact ⟨gr.ff, fun b o e _ => gr.hh b o e, (gr.step (O := fun _ => False)).kp, fun b e f _ => gr.nw b e f, fun b ⟨j, z1, z2⟩ => .inr ⟨j, isOwn_putL ps δ2 z1, z2⟩, fun j => ⟨k2 ps δ2 hps j, fun _ => rfl⟩⟩
    refine hbody.run α2 _ H3 F3 _ st4 (fun α' σ' H' F' δ' p st' re => ?_) (r.after (re1.trans re3))
    exact ⟨α', F', δ', p, st', re3.trans re⟩
  · have ei : i = ds.length := by omega
    subst ei
    exact .inl ⟨io.stop _ F2 H2 good (Nat.le_refl _), k α2 σ2 H2 F2 δ2 (hd δ2 hIv) st2 (re1.trans re2)⟩
theorem s_while {Iv : Nat → DEnv → Prop} {m0 : Nat} (hpass : PassesOwn (model X.prog X.w) X.A X.env X.xe) (h0 : Iv m0 δ)
    (hb : ∀ m δ2, Iv m δ2 → ∃ b δ3, TvD X δ2 c b δ3 ∧ (b = true → SsD X δ3 body ⟨fun δ' => ∃ m', m' < m ∧ Iv m' δ', N.rt⟩) ∧ (b = false → N.nx δ3)) : SvD X δ (.While c body [] pos) N := by
  refine ⟨fun α σ H F D s k r => .of (ps_while hpass pt_tw pss_tw) ?_⟩
  refine ⟨fun m σ2 H2 => ∃ α2 F2 δ2, Iv m δ2 ∧ StOk X.K α2 F2 H2 σ2 δ2 ∧ Reach α δ F H α2 δ2 F2 H2, ⟨m0, α, F, δ, h0, s, .refl⟩, ?_⟩
  rintro m σ2 H2 ⟨α2, F2, δ2, hIv, st2, re2⟩
  obtain ⟨b, δ3, ht, h1, h2⟩ := hb m δ2 hIv
  refine ht.run α2 σ2 H2 F2 _ st2 fun F3 H3 s3 st3 => ?_
  have re3 : Reach α δ F H α2 δ3 F3 H3 := re2.trans (.of s3 ht.kd)
  cases b with
  | true =>
    refine iteT ⟨fun σ' H' => ∃ m', m' < m ∧ ∃ α3 F3 δ3, Iv m' δ3 ∧ StOk X.K α3 F3 H' σ' δ3 ∧ Reach α δ F H α3 δ3 F3 H', fun σ' H' ⟨m', hm, h⟩ => ⟨m', hm, h⟩, ?_⟩
    exact (h1 rfl).run α2 σ2 H3 F3 _ st3 (fun α' σ' H' F' δ' ⟨m', hm, p⟩ st' re => ⟨m', hm, α', F', δ', p, st', re3.trans re⟩) (r.after re3)
  | false => exact iteF (k α2 σ2 H3 F3 δ3 (h2 rfl) st3 re3)
end
end ND

/-! NDi -/
set_option Elab.async false
set_option linter.all false
set_option maxRecDepth 100000
set_option maxHeartbeats 4000000
namespace ND
open PySem PySem.Spec PyProof.Rows L2
/-! ### what a def does, by data: the arguments ahead, the result, the arguments behind -/
abbrev FT := List SD → D → List SD → Prop
def spF (K : PySem.W.Frag) (T : FT) : Sp := fun vs H Q _ => ∃ as r as' F α, T as r as' ∧ StOk K α F H (vs.map some) as ∧
  ∀ v F' H', Step (OwnA α as) F H F' H' → StOk K α F' H' (vs.map some) as' → Rep K F' v r → Q v H'
/-- .. a new list -/
def spN (K : PySem.W.Frag) (T : List SD → List D → Prop) : Sp := fun vs H Q _ => ∃ as ds F α, T as ds ∧ (∀ s ∈ as, kd s = 1) ∧ StOk K α F H (vs.map some) as ∧
  ∀ a ws F' H', H a = none → F' a = none → Step (fun _ => False) F H F' H' → Same F' H' → H' a = some (.lst ws) → Reps K F' ws ds → Q (.ref a) H'
def parsOk : List SD → DEnv → Prop
  | [], _ => True
  | .par d :: r, s :: δ => s = .par d ∧ parsOk r δ
  | _ :: r, _ :: δ => parsOk r δ
  | _ :: _, [] => False
theorem parsOk.get {d : D} : ∀ {as : List SD} {δ : DEnv} {i : Nat}, parsOk as δ → look as i = .par d → look δ i = .par d
  | [], _, _, _, e => by cases e
  | s :: r, [], i, h, e => by cases s <;> exact h.elim
  | s :: r, t :: δ, 0, h, e => by
    have e' : s = .par d := e
    subst e'
    exact h.1
  | s :: r, t :: δ, i + 1, h, e => by
    have h' : parsOk r δ := by
      cases s with
      | par d => exact h.2
      | _ => exact h
    exact parsOk.get (i := i) h' e
def starts (N : List Str) (as : List SD) : DEnv := as ++ List.replicate (N.length - as.length) .un
theorem look_app : ∀ (as bs : List SD) (i : Nat), look (as ++ bs) i = if i < as.length then look as i else look bs (i - as.length)
  | [], bs, i => by simp
  | s :: r, bs, 0 => by simp [look]
  | s :: r, bs, i + 1 => by
    show look (r ++ bs) i = _
    rw [look_app r bs i]
    simp [look]
theorem look_rep : ∀ (n i : Nat), look (List.replicate n .un) i = .un
  | 0, _ => rfl
  | n + 1, 0 => rfl
  | n + 1, i + 1 => look_rep n i
theorem look_starts (N : List Str) (as : List SD) (i : Nat) : look (starts N as) i = look as i := by
  unfold starts
  rw [look_app]
  split
  · rfl
  · rename_i h
    rw [look_rep, look_out as i (by omega)]
theorem StOk.starts {K : PySem.W.Frag} {α : Nat → Addr} {F H : Hp} {vs : List V} {as : List SD} {N : List Str} (s : StOk K α F H (vs.map some) as) (hl : as.length ≤ N.length) : StOk K α F H (L2.start N vs) (starts N as) := by
  have hlen : vs.length = as.length := by have q := s.len; rw [List.length_map] at q; exact q
  refine ⟨s.fh, ?_, fun i => ?_, fun i j hi hj e => s.inj i j (by rw [look_starts] at hi; exact hi) (by rw [look_starts] at hj; exact hj) e⟩
  · unfold L2.start ND.starts
    rw [List.length_append, List.length_append, List.length_map, List.length_replicate, List.length_replicate, hlen]
  · rw [look_starts]
    have q := s.slot i
    have get : ∀ {v : V}, (vs.map some)[i]? = some (some v) → (L2.start N vs)[i]? = some (some v) := fun {v} h => by
      unfold L2.start
      rw [List.getElem?_append_left]
      · exact h
      · exact (List.getElem?_eq_some_iff.mp h).1
    cases e : look as i with
    | un => trivial
    | dat d => rw [e] at q; obtain ⟨v, h1, h2⟩ := q; exact ⟨v, get h1, h2⟩
    | own d => rw [e] at q; exact ⟨get q.1, q.2⟩
    | par d => rw [e] at q; exact ⟨get q.1, q.2⟩
section
variable {P : Program} {w : World} {K : PySem.W.Frag} {mg : Str → Option Value} {base : Heap}
/-- the context of a def's body -/
abbrev CxB (P : Program) (w : World) (K : PySem.W.Frag) (mg : Str → Option Value) (base : Heap) (N : List Str) (qual : Str) (st : Stmt) (f : Addr) (cdv : Value) (A : Around) (outer : List Env) (s : Shared) (H : Hp) (E : XK) : Cx :=
  (cxOf CX0 P w K mg base N qual (defScope st) f cdv A outer s H E).nox
/-- THE RULE for a def -/
theorem fn_ok {x qual : Str} {st : Stmt} {f : Addr} {fd : FuncData} {N ps : List Str} {k : Nat} {T : FT} (F : Fun K x qual st f fd) (S : FnScope N ps (defScope st)) (hN : ps.length ≤ N.length)
    (hT : ∀ as r as', T as r as' → as.length = ps.length ∧ as'.map kd = as.map kd ∧ ∀ i, isPar (look as i) = false → look as' i = look as i ∧ isOwn (look as i) = false)
    (hbody : ∀ (cdv : Value) (A : Around) (outer : List Env) (s : Shared) (H : Hp) (E : XK) (as : List SD) (r : D) (as' : List SD), Room k (A.deeper (envOfC qual (defScope st) s.heap.objs.size f cdv)) → T as r as' →
      SsD (CxB P w K mg base N qual st f cdv A outer s H E) (starts N as) (defBody st) ⟨fun δ' => r = .non ∧ parsOk as' δ', fun d δ' => d = r ∧ parsOk as' δ'⟩) : FnOk P w K mg base CX0 (k + 1) f fd ps (spF K T) := by
  refine F.ok S (fun vs H Q E h => ?_) (fun cdv A outer s H vs Q E hr h => ?_)
  · obtain ⟨as, r, as', F1, α, ht, st1, _⟩ := h
    have q := st1.len
    rw [List.length_map] at q
    rw [q]; exact (hT _ _ _ ht).1
  · obtain ⟨as, r, as', F1, α, ht, st1, kk⟩ := h
    obtain ⟨h1, h2, h3⟩ := hT _ _ _ ht
    refine ⟨_, pss_tw, ?_⟩
    have fin : ∀ {v : V} {α' : Nat → Addr} {σ' : Sl} {H' F' : Hp} {δ' : DEnv}, parsOk as' δ' → Rep K F' v r → StOk K α' F' H' σ' δ' → Reach α (starts N as) F1 H α' δ' F' H' → Q v H' := fun {v α' σ' H' F' δ'} hp rv st' re => by
      have ow : ∀ {b}, OwnA α (starts N as) b → OwnA α as b := fun ⟨j, z1, z2⟩ => ⟨j, by rw [look_starts] at z1; exact z1, z2⟩
      have parF : ∀ i, isPar (look as i) = true → ∃ d, look as' i = .par d ∧ F' (α i) = none ∧ OwnR K F' H' (α i) d := fun i hi => by
        have k3 : kd (look as' i) = kd (look as i) := Kd.of_map h2 i
        obtain ⟨d, ed⟩ : ∃ d, look as' i = .par d := by
          rw [isPar_kd] at hi
          have q : kd (look as' i) = 3 := k3.trans (of_decide_eq_true hi)
          cases e : look as' i <;> rw [e] at q <;> first | exact ⟨_, rfl⟩ | cases q
        have ea : α' i = α i := (re.par i).2 (by rw [look_starts]; exact hi)
        have q := st'.slot i
        rw [hp.get ed] at q
        obtain ⟨_, q2, q3⟩ := q
        rw [ea] at q2 q3
        exact ⟨d, ed, q2, q3⟩
      refine kk v F' H' ⟨re.ff, fun b o e n => re.hh b o e fun z => n (ow z), re.kp, fun b e f => ?_⟩ ⟨st'.fh, ?_, fun i => ?_, fun i j hi hj e => ?_⟩ rv
      · by_cases hb : OwnA α as b
        · obtain ⟨j, z1, z2⟩ := hb
          have hj : isPar (look as j) = true := by
            cases q : isPar (look as j) with
            | true => rfl
            | false => rw [(h3 j q).2] at z1; cases z1
          obtain ⟨d, _, q2, _⟩ := parF j hj
          rw [← z2]; exact q2
        · exact re.nw b e f fun z => hb (ow z)
      · have q := congrArg List.length h2
        rw [List.length_map, List.length_map] at q
        rw [q]; exact st1.len
      · have q0 := st1.slot i
        cases hq : isPar (look as i) with
        | true =>
          obtain ⟨d, ed, q2, q3⟩ := parF i hq
          rw [ed]
          have z : (vs.map some)[i]? = some (some (.ref (α i))) := by
            cases e : look as i <;> rw [e] at hq q0 <;> first | exact q0.1 | cases hq
          exact ⟨z, q2, q3⟩
        | false =>
          rw [(h3 i hq).1]
          cases e : look as i with
          | un => trivial
          | dat d => rw [e] at q0; obtain ⟨v, z1, z2⟩ := q0; exact ⟨v, z1, z2.mono re.ff⟩
          | own d => have z := (h3 i hq).2; rw [e] at z; cases z
          | par d => rw [e] at hq; cases hq
      · have back : ∀ j, isOwn (look as' j) = true → isOwn (look as j) = true := fun j hj => by rw [← (Kd.of_map h2).own j]; exact hj
        exact st1.inj i j (back i hi) (back j hj) e
    refine (hbody cdv A outer s H E as r as' hr ht).run α _ H F1 _ (st1.starts (by rw [h1]; exact hN)) (fun α' σ' H' F' δ' hp st' re => ?_) (fun v α' σ' H' F' d δ' hp rv st' re => ?_)
    · obtain ⟨rfl, hp⟩ := hp
      exact fin hp .non st' re
    · obtain ⟨rfl, hp⟩ := hp
      exact fin hp rv st' re
end
/-! ### calls -/
structure Cal (X : Cx) (x : Str) (T : FT) : Prop where
  ex : ∃ f fd k ps, FnOk X.prog X.w X.K X.mg X.base CX0 k f fd ps (spF X.K T) ∧ Room k X.A ∧ X.mg x = some (.ref f) ∧ PySem.W.keepIn X.K (.ref f) = true ∧ Binds X.K fd ps []
structure CalN (X : Cx) (x : Str) (T : List SD → List D → Prop) : Prop where
  ex : ∃ f fd k ps, FnOk X.prog X.w X.K X.mg X.base CX0 k f fd ps (spN X.K T) ∧ Room k X.A ∧ X.mg x = some (.ref f) ∧ PySem.W.keepIn X.K (.ref f) = true ∧ Binds X.K fd ps []
section
variable {X : Cx} {δ δ1 : DEnv} {e : Expr} {es : List Expr} {p pos : Pos} {x : Str} {T : FT} {ds zs : List D} {r d d' : D}
theorem stOk_args {K : PySem.W.Frag} {F H : Hp} {α : Nat → Addr} (fh : Same F H) : ∀ {vs : List V} {ds : List D}, Reps K F vs ds → StOk K α F H (vs.map some) (ds.map .dat) := by
  intro vs ds r
  have lk : ∀ (ds : List D) (i : Nat), look (ds.map .dat) i = match ds[i]? with | some d => .dat d | none => .un := by
    intro ds
    induction ds with
    | nil => intro i; rfl
    | cons d r ih => intro i; cases i with
      | zero => rfl
      | succ i => exact ih i
  refine ⟨fh, by rw [List.length_map, List.length_map]; exact r.length, fun i => ?_, fun i j hi => ?_⟩
  · rw [lk]
    cases e : ds[i]? with
    | none => trivial
    | some d =>
      obtain ⟨v, h1, h2⟩ := r.get e
      exact ⟨v, by rw [List.getElem?_map, h1]; rfl, h2⟩
  · rw [lk] at hi
    cases e : ds[i]? with
    | none => rw [e] at hi; cases hi
    | some d => rw [e] at hi; cases hi
theorem ownA_dats {α : Nat → Addr} {b : Addr} : ∀ {ds : List D}, ¬ OwnA α (ds.map .dat) b := by
  intro ds ⟨i, h, _⟩
  have lk : ∀ (ds : List D) (i : Nat), isOwn (look (ds.map .dat) i) = false := by
    intro ds
    induction ds with
    | nil => intro i; rfl
    | cons d r ih => intro i; cases i with
      | zero => rfl
      | succ i => exact ih i
  rw [lk] at h; cases h
/-- f(data, ..) -/
theorem e_call (c : Cal X x T) (hg : Gl X x) (ha : AvD X δ (e :: es) ds δ1) (hT : T (ds.map .dat) r (ds.map .dat)) (hdb : (x == ("__debug__" : Str)) = false := by decide)
    (he : starEach (e :: es) X.env = (false, eval e X.env) :: starEach es X.env := by rfl) (hpl : (backTo pos (starEach es X.env)).any (·.1) = false := by rfl) : EvD X δ (.Call (.Name x p) (e :: es) [] pos) r δ1 := by
  obtain ⟨f, fd, k, ps, G, hr, hm, hk, hb⟩ := c.ex
  refine ⟨ha.kd, fun α σ H F Q st kk => .of (pe_call G hr hg hm hk hb .nil pass0 pa_tw hdb he hpl) ?_⟩
  refine ha.run α σ H F _ st fun vs F1 H1 s1 st1 r1 => ?_
  rw [List.append_nil]
  refine ⟨_, r, _, F1, α, hT, stOk_args st1.fh r1, fun v F2 H2 s2 st2 rv => ?_⟩
  have g : Grow F1 H1 F2 H2 := ⟨s2.ff, fun b o e => s2.hh b o e ownA_dats, st2.fh, s2.nw⟩
  exact kk v F2 H2 (s1.trans g.step) (st1.grow g) rv
/-- f() -/
theorem e_call0 (c : Cal X x T) (hg : Gl X x) (hT : T [] r []) (hdb : (x == ("__debug__" : Str)) = false := by decide) : EvD X δ (.Call (.Name x p) [] [] pos) r δ := by
  obtain ⟨f, fd, k, ps, G, hr, hm, hk, hb⟩ := c.ex
  refine ⟨Kd.refl _, fun α σ H F Q st kk => .of (pe_call0 G hr hg hm hk hb .nil pass0 hdb) ?_⟩
  refine ⟨[], r, [], F, α, hT, stOk_args (ds := []) st.fh .nil, fun v F2 H2 s2 st2 rv => ?_⟩
  have g : Grow F H F2 H2 := ⟨s2.ff, fun b o e => s2.hh b o e (ownA_dats (ds := [])), st2.fh, s2.nw⟩
  exact kk v F2 H2 g.step (st.grow g) rv
/-- f(data, ..), a new list -/
theorem n_call {T : List SD → List D → Prop} (c : CalN X x T) (hg : Gl X x) (ha : AvD X δ (e :: es) ds δ1) (hT : T (ds.map .dat) zs) (hdb : (x == ("__debug__" : Str)) = false := by decide)
    (he : starEach (e :: es) X.env = (false, eval e X.env) :: starEach es X.env := by rfl) (hpl : (backTo pos (starEach es X.env)).any (·.1) = false := by rfl) : NvD X δ (.Call (.Name x p) (e :: es) [] pos) zs δ1 := by
  obtain ⟨f, fd, k, ps, G, hr, hm, hk, hb⟩ := c.ex
  refine ⟨ha.kd, fun α σ H F Q st kk => .of (pe_call G hr hg hm hk hb .nil pass0 pa_tw hdb he hpl) ?_⟩
  refine ha.run α σ H F _ st fun vs F1 H1 s1 st1 r1 => ?_
  rw [List.append_nil]
  refine ⟨_, zs, F1, α, hT, fun s hs => ?_, stOk_args st1.fh r1, fun a ws F2 H2 hHa hFa s2 fh2 hl rv => ?_⟩
  · obtain ⟨d, _, rfl⟩ := List.mem_map.mp hs
    rfl
  have g : Grow F1 H1 F2 H2 := ⟨s2.ff, fun b o e => s2.hh b o e fun z => z, fh2, s2.nw⟩
  exact kk a ws F2 H2 (none_back s1 hHa) hFa (s1.trans g.step) (st1.grow g) hl rv
def setC : SD → D → SD
  | .par _, d => .par d
  | _, d => .own d
theorem arOk_app {K : PySem.W.Frag} {α : Nat → Addr} {F : Hp} {i : Nat} {post : List D} : ∀ {pre : List D} {vs : List V}, ArOk K α F vs (pre.map .dat ++ .own i :: post.map .dat) →
    ∃ us ws, vs = us ++ .ref (α i) :: ws ∧ Reps K F us pre ∧ Reps K F ws post
  | [], [], h => h.elim
  | [], v :: vs, h => by
    have all : ∀ {vs : List V} {post : List D}, ArOk K α F vs (post.map .dat) → Reps K F vs post := by
      intro vs
      induction vs with
      | nil => intro post h; cases post with
        | nil => exact .nil
        | cons d r => exact h.elim
      | cons v vs ih => intro post h; cases post with
        | nil => exact h.elim
        | cons d r => exact .cons h.1 (ih h.2)
    obtain ⟨e, h2⟩ := h
    exact ⟨[], vs, by rw [e]; rfl, .nil, all h2⟩
  | d :: pre, [], h => h.elim
  | d :: pre, v :: vs, h => by
    obtain ⟨us, ws, e, r1, r2⟩ := arOk_app (pre := pre) (vs := vs) h.2
    exact ⟨v :: us, ws, by rw [e]; rfl, .cons h.1 r1, r2⟩
theorem look_one (pre post : List D) (d : D) (i : Nat) : look (pre.map .dat ++ .par d :: post.map .dat) i = if i < pre.length then look (pre.map .dat) i else if i = pre.length then .par d else look (post.map .dat) (i - pre.length - 1) := by
  rw [look_app, List.length_map]
  split
  · rfl
  · rename_i h
    split
    · rename_i e; subst e; rw [Nat.sub_self]; rfl
    · rename_i e
      obtain ⟨n, hn⟩ : ∃ n, i - pre.length = n + 1 := ⟨i - pre.length - 1, by omega⟩
      rw [hn]; rfl
theorem look_dats : ∀ (ds : List D) (i : Nat), look (ds.map .dat) i = match ds[i]? with | some d => .dat d | none => .un
  | [], i => rfl
  | d :: r, 0 => rfl
  | d :: r, i + 1 => look_dats r i
theorem stOk_one {K : PySem.W.Frag} {F H : Hp} {a : Addr} {us ws : List V} {pre post : List D} (fh : Same F H) (r1 : Reps K F us pre) (r2 : Reps K F ws post) (hF : F a = none) (ow : OwnR K F H a d) :
    StOk K (fun _ => a) F H ((us ++ .ref a :: ws).map some) (pre.map .dat ++ .par d :: post.map .dat) := by
  have own1 : ∀ i, isOwn (look (pre.map .dat ++ .par d :: post.map .dat) i) = true → i = pre.length := fun i hi => by
    rw [look_one] at hi
    split at hi
    · rw [look_dats] at hi
      split at hi <;> cases hi
    · split at hi
      · assumption
      · rw [look_dats] at hi
        split at hi <;> cases hi
  refine ⟨fh, ?_, fun i => ?_, fun i j hi hj _ => (own1 i hi).trans (own1 j hj).symm⟩
  · simp [r1.length, r2.length]
  · rw [look_one]
    have hl := r1.length
    split
    · rename_i h
      rw [look_dats]
      cases e : pre[i]? with
      | none => trivial
      | some d =>
        obtain ⟨v, h1, h2⟩ := r1.get e
        exact ⟨v, by rw [List.getElem?_map, List.getElem?_append_left (by omega), h1]; rfl, h2⟩
    · rename_i h
      split
      · rename_i e; subst e
        refine ⟨?_, hF, ow⟩
        rw [List.getElem?_map, List.getElem?_append_right (by omega), hl, Nat.sub_self]; rfl
      · rename_i e
        rw [look_dats]
        cases e2 : post[i - pre.length - 1]? with
        | none => trivial
        | some d =>
          obtain ⟨v, h1, h2⟩ := r2.get e2
          refine ⟨v, ?_, h2⟩
          obtain ⟨n, hn⟩ : ∃ n, i - pre.length = n + 1 := ⟨i - pre.length - 1, by omega⟩
          rw [List.getElem?_map, List.getElem?_append_right (by omega), hl, hn]
          have : i - pre.length - 1 = n := by omega
          rw [this] at h1
          show Option.map some (ws[n]?) = _
          rw [h1]; rfl
/-- f(data, .., own, data, ..): the own object may be changed -/
theorem e_callO (c : Cal X x T) (hg : Gl X x) (pre post : List D) {i : Nat} (ha : AmD X δ (e :: es) (pre.map .dat ++ .own i :: post.map .dat) δ1) (hi : look δ1 i = .own d ∨ look δ1 i = .par d)
    (hT : T (pre.map .dat ++ .par d :: post.map .dat) r (pre.map .dat ++ .par d' :: post.map .dat)) (hdb : (x == ("__debug__" : Str)) = false := by decide)
    (he : starEach (e :: es) X.env = (false, eval e X.env) :: starEach es X.env := by rfl) (hpl : (backTo pos (starEach es X.env)).any (·.1) = false := by rfl) : EvD X δ (.Call (.Name x p) (e :: es) [] pos) r (put δ1 i (setC (look δ1 i) d')) := by
  obtain ⟨f, fd, k, ps, G, hr, hm, hk, hb⟩ := c.ex
  have hil : i < δ1.length := by
    by_cases hl : i < δ1.length
    · exact hl
    · rw [look_out δ1 i (by omega)] at hi; rcases hi with h | h <;> cases h
  have hio : isOwn (look δ1 i) = true := by rcases hi with h | h <;> rw [h] <;> rfl
  have kds : kd (look δ1 i) = kd (setC (look δ1 i) d') := by rcases hi with h | h <;> rw [h] <;> rfl
  refine ⟨ha.kd.trans (Kd.put kds hil), fun α σ H F Q st kk => .of (pe_call G hr hg hm hk hb .nil pass0 pa_tw hdb he hpl) ?_⟩
  refine ha.run α σ H F _ st fun vs F1 H1 s1 st1 r1 => ?_
  rw [List.append_nil]
  obtain ⟨us, ws, rfl, q1, q2⟩ := arOk_app r1
  have sl : σ[i]? = some (some (.ref (α i))) ∧ F1 (α i) = none ∧ OwnR X.K F1 H1 (α i) d := by
    have q := st1.slot i
    rcases hi with h | h <;> rw [h] at q <;> exact q
  refine ⟨_, r, _, F1, fun _ => α i, hT, stOk_one st1.fh q1 q2 sl.2.1 sl.2.2, fun v F2 H2 s2 st2 rv => ?_⟩
  have toI : ∀ b, OwnA (fun _ => α i) (pre.map .dat ++ .par d :: post.map .dat) b → b = α i := fun b ⟨_, _, e⟩ => e.symm
  have new : F2 (α i) = none ∧ OwnR X.K F2 H2 (α i) d' := by
    have q := st2.slot pre.length
    rw [look_one, if_neg (Nat.lt_irrefl _), if_pos rfl] at q
    exact ⟨q.2.1, q.2.2⟩
  refine kk v F2 H2 (s1.trans (s2.mono fun b hb => ha.kd.ownA ⟨i, hio, (toI b hb).symm⟩)) ⟨st2.fh, st1.len.trans (put_len _ _ _).symm, fun j => ?_, fun a b hA hB e => ?_⟩ rv
  · rw [look_put]
    by_cases hj : i = j
    · subst hj
      rw [if_pos rfl, if_pos hil]
      rcases hi with h | h <;> rw [h] <;> exact ⟨sl.1, new⟩
    · rw [if_neg hj]
      have q := st1.slot j
      have own : ∀ {d0 : D}, isOwn (look δ1 j) = true → σ[j]? = some (some (.ref (α j))) ∧ F1 (α j) = none ∧ OwnR X.K F1 H1 (α j) d0 → σ[j]? = some (some (.ref (α j))) ∧ F2 (α j) = none ∧ OwnR X.K F2 H2 (α j) d0 := fun {d0} ho ⟨z1, z2, z3⟩ => by
        have ne : α j ≠ α i := fun e => hj (st1.inj j i ho hio e).symm
        refine ⟨z1, s2.nw _ z3.some z2, z3.grow s2.ff ?_⟩
        cases q : H1 (α j) with
        | none => exact absurd q z3.some
        | some o => exact s2.hh _ _ q fun z => ne (toI _ z)
      cases e : look δ1 j with
      | un => trivial
      | dat d0 => rw [e] at q; obtain ⟨v, z1, z2⟩ := q; exact ⟨v, z1, z2.mono s2.ff⟩
      | own d0 => rw [e] at q; exact own (by rw [e]; rfl) q
      | par d0 => rw [e] at q; exact own (by rw [e]; rfl) q
  · have back : ∀ j, isOwn (look (put δ1 i (setC (look δ1 i) d')) j) = true → isOwn (look δ1 j) = true := fun j hj => by rw [← (Kd.put kds hil).own j]; exact hj
    exact st1.inj a b (back a hA) (back b hB) e
theorem AvD.m (h : AvD X δ es ds δ1) : AmD X δ es (ds.map .dat) δ1 := by
  refine ⟨h.kd, fun α σ H F Q st k => h.run α σ H F Q st fun vs F' H' s st' r => k vs F' H' s st' ?_⟩
  have all : ∀ {vs : List V} {ds : List D}, Reps X.K F' vs ds → ArOk X.K α F' vs (ds.map .dat) := by
    intro vs
    induction vs with
    | nil => intro ds r; cases r; trivial
    | cons v vs ih => intro ds r; cases r with
      | cons a b => exact ⟨a, ih b⟩
  exact all r
/-- f(new list): changed by f, then dropped -/
theorem e_call1N (c : Cal X x T) (hg : Gl X x) (ha : NvD X δ e ds δ1) (hT : T [.par (.lst ds)] r [.par d']) (hdb : (x == ("__debug__" : Str)) = false := by decide)
    (he : starEach [e] X.env = (false, eval e X.env) :: starEach [] X.env := by rfl) (hpl : (backTo pos (starEach [] X.env)).any (·.1) = false := by rfl) : EvD X δ (.Call (.Name x p) [e] [] pos) r δ1 := by
  obtain ⟨f, fd, k, ps, G, hr, hm, hk, hb⟩ := c.ex
  refine ⟨ha.kd, fun α σ H F Q st kk => .of (pe_call G hr hg hm hk hb .nil pass0 (pa_cons pe_tw pa_nil he) hdb he hpl) ?_⟩
  refine ha.run α σ H F _ st fun a ws F1 H1 hHa hFa s1 st1 hl r1 => ?_
  refine ⟨_, r, _, F1, fun _ => a, hT, stOk_one (pre := []) (post := []) (us := []) (ws := []) st1.fh .nil .nil hFa ⟨ws, hl, r1⟩, fun v F2 H2 s2 st2 rv => ?_⟩
  have toI : ∀ b, OwnA (fun _ => a) [SD.par (.lst ds)] b → b = a := fun b ⟨_, _, e⟩ => e.symm
  have no : ∀ j, isOwn (look δ1 j) = true → α j ≠ a := fun j hj => st.fresh hHa j (by rw [← ha.kd.own j]; exact hj)
  refine kk v F2 H2 ⟨s1.ff.trans s2.ff, fun b o e n => ?_, fun b e => s2.kp b (s1.kp b e), fun b e f => s2.nw b (s1.kp b e) (s1.nw b e f)⟩ ⟨st2.fh, st1.len, fun j => ?_, st1.inj⟩ rv
  · exact s2.hh b o (s1.hh b o e n) fun z => by rw [toI b z, hHa] at e; cases e
  · have q := st1.slot j
    have own : ∀ {d0 : D}, isOwn (look δ1 j) = true → σ[j]? = some (some (.ref (α j))) ∧ F1 (α j) = none ∧ OwnR X.K F1 H1 (α j) d0 → σ[j]? = some (some (.ref (α j))) ∧ F2 (α j) = none ∧ OwnR X.K F2 H2 (α j) d0 := fun {d0} ho ⟨z1, z2, z3⟩ => by
      refine ⟨z1, s2.nw _ z3.some z2, z3.grow s2.ff ?_⟩
      cases q : H1 (α j) with
      | none => exact absurd q z3.some
      | some o => exact s2.hh _ _ q fun z => no j ho (toI _ z)
    cases e : look δ1 j with
    | un => trivial
    | dat d0 => rw [e] at q; obtain ⟨v, z1, z2⟩ := q; exact ⟨v, z1, z2.mono s2.ff⟩
    | own d0 => rw [e] at q; exact own (by rw [e]; rfl) q
    | par d0 => rw [e] at q; exact own (by rw [e]; rfl) q
end
end ND

/-! NDj -/
set_option Elab.async false
set_option linter.all false
set_option maxRecDepth 100000
set_option maxHeartbeats 4000000
namespace ND
open PySem PySem.Spec PyProof.Rows L2

/-! ### data as the library's data -/
def toPy : Nat → D → PyData
  | _, .bl b => .bool b
  | _, .int i => .int i
  | _, .str x => .str x
  | n + 1, .tup ds => .tuple (ds.map (toPy n))
  | n + 1, .lst ds => .list (ds.map (toPy n))
  | _, _ => .none
/-- no dict within, nested at most n deep -/
def pyOk : Nat → D → Bool
  | _, .non => true
  | _, .bl _ => true
  | _, .int _ => true
  | _, .str _ => true
  | n + 1, .tup ds => ds.all (pyOk n)
  | n + 1, .lst ds => ds.all (pyOk n)
  | _, _ => false
theorem toPy_plain : ∀ (n : Nat) (d : D), (toPy n d).plain = true := by
  have all : ∀ (n : Nat) (ds : List D), (∀ d, (toPy n d).plain = true) → PyData.plainAll (ds.map (toPy n)) = true := by
    intro n ds h
    induction ds with
    | nil => rfl
    | cons d r ih => rw [List.map_cons, PyData.plainAll, h d, ih]; rfl
  intro n
  induction n with
  | zero => intro d; cases d <;> rfl
  | succ n ih =>
    intro d
    cases d with
    | tup ds => simp only [toPy, PyData.plain]; exact all n ds ih
    | lst ds => simp only [toPy, PyData.plain]; exact all n ds ih
    | _ => rfl
theorem toPy_plainAll (n : Nat) : ∀ ds : List D, PyData.plainAll (ds.map (toPy n)) = true
  | [] => rfl
  | d :: r => by rw [List.map_cons, PyData.plainAll, toPy_plain n d, toPy_plainAll n r]; rfl
theorem toPy_depth : ∀ (n : Nat) (d : D), (toPy n d).depth ≤ n := by
  intro n
  induction n with
  | zero => intro d; cases d <;> simp [toPy, PyData.depth]
  | succ n ih =>
    have all : ∀ ds : List D, PyData.depthAll (ds.map (toPy n)) ≤ n := by
      intro ds
      induction ds with
      | nil => simp [PyData.depthAll]
      | cons d r ih2 => rw [List.map_cons, PyData.depthAll]; exact Nat.max_le.mpr ⟨ih d, ih2⟩
    intro d
    cases d with
    | tup ds => simp only [toPy, PyData.depth]; exact Nat.succ_le_succ (all ds)
    | lst ds => simp only [toPy, PyData.depth]; exact Nat.succ_le_succ (all ds)
    | _ => simp [toPy, PyData.depth]
theorem toPy_depthAll (n : Nat) : ∀ ds : List D, PyData.depthAll (ds.map (toPy n)) ≤ n
  | [] => by simp [PyData.depthAll]
  | d :: r => by rw [List.map_cons, PyData.depthAll]; exact Nat.max_le.mpr ⟨toPy_depth n d, toPy_depthAll n r⟩
section
variable {X : Cx} {pins : List (Addr × Obj)} {σ : Sl} {H : Hp} {s : Shared}
theorem reads_of (I : Inv X pins σ H s) : ∀ (n : Nat) (d : D) (v : V) (u : Value), Rep X.K H v d → pyOk n d = true → RelV v u → ∃ as, Reads s.heap u (toPy n d) as := by
  intro n
  induction n with
  | zero =>
    intro d v u r ok ru
    cases r with
    | non => cases ru; exact ⟨_, Reads.none⟩
    | bl b => cases ru; exact ⟨_, Reads.bool b⟩
    | int i => obtain ⟨t, rfl⟩ := ru; exact ⟨_, Reads.int i t⟩
    | str x => obtain ⟨t, rfl⟩ := ru; exact ⟨_, Reads.str x t⟩
    | tup _ _ => cases ok
    | lst _ _ => cases ok
    | dct _ _ => cases ok
    | rol _ => cases ok
    | ty _ => cases ok
    | sft _ _ => cases ok
  | succ n ih =>
    have all : ∀ (ds : List D) (vs : List V) (us : List Value), Reps X.K H vs ds → ds.all (pyOk n) = true → Vals vs us → ∃ as, ReadsAll s.heap us (ds.map (toPy n)) as := by
      intro ds
      induction ds with
      | nil => intro vs us r _ rv; cases r; cases rv; exact ⟨_, ReadsAll.nil⟩
      | cons d r ih2 =>
        intro vs us rr ok rv
        cases rr with
        | cons r1 r2 => cases rv with
          | cons v1 v2 =>
            rw [List.all_cons, Bool.and_eq_true] at ok
            obtain ⟨as, q1⟩ := ih d _ _ r1 ok.1 v1
            obtain ⟨bs, q2⟩ := ih2 _ _ r2 ok.2 v2
            exact ⟨_, ReadsAll.cons q1 q2⟩
    intro d v u r ok ru
    cases r with
    | non => cases ru; exact ⟨_, Reads.none⟩
    | bl b => cases ru; exact ⟨_, Reads.bool b⟩
    | int i => obtain ⟨t, rfl⟩ := ru; exact ⟨_, Reads.int i t⟩
    | str x => obtain ⟨t, rfl⟩ := ru; exact ⟨_, Reads.str x t⟩
    | tup h r =>
      cases ru
      obtain ⟨its, rv, ⟨o, ho, hc, m, hd⟩, _⟩ := I.tuple h.sq
      obtain ⟨as, hr⟩ := all _ _ _ r ok rv
      exact ⟨_, Reads.tuple ho hc hd hr⟩
    | lst h r =>
      cases ru
      obtain ⟨its, rv, ⟨o, m, ho, hc, _, hd⟩, _⟩ := I.list (SqL.of h)
      obtain ⟨as, hr⟩ := all _ _ _ r ok rv
      exact ⟨_, Reads.list ho hc hd hr⟩
    | dct _ _ => cases ok
    | rol _ => cases ok
    | ty _ => cases ok
    | sft _ _ => cases ok
theorem readsAll_of (I : Inv X pins σ H s) (n : Nat) : ∀ (ds : List D) (vs : List V) (us : List Value), Reps X.K H vs ds → ds.all (pyOk n) = true → Vals vs us → ∃ as, ReadsAll s.heap us (ds.map (toPy n)) as := by
  intro ds
  induction ds with
  | nil => intro vs us r _ rv; cases r; cases rv; exact ⟨_, ReadsAll.nil⟩
  | cons d r ih2 =>
    intro vs us rr ok rv
    cases rr with
    | cons r1 r2 => cases rv with
      | cons v1 v2 =>
        rw [List.all_cons, Bool.and_eq_true] at ok
        obtain ⟨as, q1⟩ := reads_of I n d _ _ r1 ok.1 v1
        obtain ⟨bs, q2⟩ := ih2 _ _ r2 ok.2 v2
        exact ⟨_, ReadsAll.cons q1 q2⟩
end
/-- == of data -/
def deq (d e : D) : Bool := PyData.eqv (toPy 6 d) (toPy 6 e)
section
variable {X : Cx}
def rEqP (K : PySem.W.Frag) (neg : Bool) : R2 := fun x y H Q => ∃ d e, Rep K H x d ∧ Rep K H y e ∧ pyOk 6 d = true ∧ pyOk 6 e = true ∧ Q (.bl (if neg then !deq d e else deq d e)) H
theorem op_eqP (hu : X.A.units + 64 < cLine) : OpR X (compareOp .Eq) (rEqP X.K false) := by
  intro pins s σ H x y v u Q I rx ry h
  obtain ⟨d, e, hd, he, o1, o2, q⟩ := h
  obtain ⟨as, r1⟩ := reads_of I 6 d x v hd o1 rx
  obtain ⟨bs, r2⟩ := reads_of I 6 e y u he o2 ry
  have l := Nat.min_le_left (toPy 6 d).depth (toPy 6 e).depth
  have l2 := toPy_depth 6 d
  exact PySem.SeqAt.eq_plain r1 r2 (toPy_plain _ _) (toPy_plain _ _) (by omega) ⟨.bl _, H, I, rfl, q⟩
theorem op_neP (hu : X.A.units + 64 < cLine) : OpR X (compareOp .NotEq) (rEqP X.K true) := by
  intro pins s σ H x y v u Q I rx ry h
  obtain ⟨d, e, hd, he, o1, o2, q⟩ := h
  obtain ⟨as, r1⟩ := reads_of I 6 d x v hd o1 rx
  obtain ⟨bs, r2⟩ := reads_of I 6 e y u he o2 ry
  have l := Nat.min_le_left (toPy 6 d).depth (toPy 6 e).depth
  have l2 := toPy_depth 6 d
  exact PySem.SeqAt.ne_plain r1 r2 (toPy_plain _ _) (toPy_plain _ _) (by omega) ⟨.bl _, H, I, rfl, q⟩
/-- x in a list or tuple of data -/
def rInP (K : PySem.W.Frag) (neg : Bool) : R2 := fun x y H Q => ∃ d es, Rep K H x d ∧ (Rep K H y (.lst es) ∨ Rep K H y (.tup es)) ∧ pyOk 5 d = true ∧ es.all (pyOk 5) = true ∧ Q (.bl (if neg then !es.any (fun e => PyData.eqv (toPy 5 e) (toPy 5 d)) else es.any (fun e => PyData.eqv (toPy 5 e) (toPy 5 d)))) H
theorem op_inP (hu : X.A.units + 64 < cLine) : OpR X (compareOp .In) (rInP X.K false) := by
  intro pins s σ H x y v u Q I rx ry h
  obtain ⟨d, es, hd, he, o1, o2, q⟩ := h
  obtain ⟨as, r1⟩ := reads_of I 5 d x v hd o1 rx
  have l := Nat.min_le_right (PyData.depthAll (es.map (toPy 5))) (toPy 5 d).depth
  have l2 := toPy_depth 5 d
  have ex : (es.any fun e => PyData.eqv (toPy 5 e) (toPy 5 d)) = ((es.map (toPy 5)).any fun y => PyData.eqv y (toPy 5 d)) := by rw [List.any_map]; rfl
  rcases he with he | he
  · obtain ⟨bs, r2⟩ := reads_of I 6 _ y u he o2 ry
    exact PySem.SeqAt.in_list_data r2 r1 (toPy_plainAll _ _) (toPy_plain _ _) (by omega) ⟨.bl _, H, I, rfl, by rw [← ex]; exact q⟩
  · obtain ⟨bs, r2⟩ := reads_of I 6 _ y u he o2 ry
    exact PySem.SeqAt.in_tuple_data r2 r1 (toPy_plainAll _ _) (toPy_plain _ _) (by omega) ⟨.bl _, H, I, rfl, by rw [← ex]; exact q⟩
theorem op_notInP (hu : X.A.units + 64 < cLine) : OpR X (compareOp .NotIn) (rInP X.K true) := by
  intro pins s σ H x y v u Q I rx ry h
  obtain ⟨d, es, hd, he, o1, o2, q⟩ := h
  obtain ⟨as, r1⟩ := reads_of I 5 d x v hd o1 rx
  have l := Nat.min_le_right (PyData.depthAll (es.map (toPy 5))) (toPy 5 d).depth
  have l2 := toPy_depth 5 d
  have ex : (es.any fun e => PyData.eqv (toPy 5 e) (toPy 5 d)) = ((es.map (toPy 5)).any fun y => PyData.eqv y (toPy 5 d)) := by rw [List.any_map]; rfl
  rcases he with he | he
  · obtain ⟨bs, r2⟩ := reads_of I 6 _ y u he o2 ry
    exact PySem.SeqAt.notIn_list_data r2 r1 (toPy_plainAll _ _) (toPy_plain _ _) (by omega) ⟨.bl _, H, I, rfl, by rw [← ex]; exact q⟩
  · obtain ⟨bs, r2⟩ := reads_of I 6 _ y u he o2 ry
    exact PySem.SeqAt.notIn_tuple_data r2 r1 (toPy_plainAll _ _) (toPy_plain _ _) (by omega) ⟨.bl _, H, I, rfl, by rw [← ex]; exact q⟩
end
section
variable {K : PySem.W.Frag} {x y d : D} {es : List D} {neg : Bool}
theorem o2_eq (h1 : pyOk 6 x = true) (h2 : pyOk 6 y = true) : Op2 K (rEqP K neg) x y (.bl (if neg then !deq x y else deq x y)) := fun v u F H Q fh r1 r2 k =>
  ⟨x, y, r1.mono fh, r2.mono fh, h1, h2, k _ F H (Grow.refl fh) (.bl _)⟩
theorem o2_inL (h1 : pyOk 5 d = true) (h2 : es.all (pyOk 5) = true) : Op2 K (rInP K neg) d (.lst es) (.bl (if neg then !es.any (fun e => PyData.eqv (toPy 5 e) (toPy 5 d)) else es.any (fun e => PyData.eqv (toPy 5 e) (toPy 5 d)))) := fun v u F H Q fh r1 r2 k =>
  ⟨d, es, r1.mono fh, .inl (r2.mono fh), h1, h2, k _ F H (Grow.refl fh) (.bl _)⟩
theorem o2_inT (h1 : pyOk 5 d = true) (h2 : es.all (pyOk 5) = true) : Op2 K (rInP K neg) d (.tup es) (.bl (if neg then !es.any (fun e => PyData.eqv (toPy 5 e) (toPy 5 d)) else es.any (fun e => PyData.eqv (toPy 5 e) (toPy 5 d)))) := fun v u F H Q fh r1 r2 k =>
  ⟨d, es, r1.mono fh, .inr (r2.mono fh), h1, h2, k _ F H (Grow.refl fh) (.bl _)⟩
def isNon : D → Bool
  | .non => true
  | _ => false
theorem non_iff {F : Hp} {v : V} (r : Rep K F v d) : decide (v = .non) = isNon d := by cases r <;> simp [isNon]
end

/-! ### expressions -/
section
variable {X : Cx} {δ δ1 δ2 : DEnv} {a b c e : Expr} {es : List Expr} {pos : Pos} {x y z d : D} {ds : List D} {p q : Bool}
theorem e_eq (hu : X.A.units + 64 < cLine) (ha : EvD X δ a x δ1) (hb : EvD X δ1 b y δ2) (h1 : pyOk 6 x = true := by rfl) (h2 : pyOk 6 y = true := by rfl) : EvD X δ (.Compare a [.Eq] [b] pos) (.bl (deq x y)) δ2 := e_cmp2 (op_eqP hu) (nomark b) ha hb (o2_eq (neg := false) h1 h2)
theorem e_ne (hu : X.A.units + 64 < cLine) (ha : EvD X δ a x δ1) (hb : EvD X δ1 b y δ2) (h1 : pyOk 6 x = true := by rfl) (h2 : pyOk 6 y = true := by rfl) : EvD X δ (.Compare a [.NotEq] [b] pos) (.bl (!deq x y)) δ2 := e_cmp2 (op_neP hu) (nomark b) ha hb (o2_eq (neg := true) h1 h2)
theorem t_eq (hu : X.A.units + 64 < cLine) (ha : EvD X δ a x δ1) (hb : EvD X δ1 b y δ2) (h1 : pyOk 6 x = true := by rfl) (h2 : pyOk 6 y = true := by rfl) : TvD X δ (.Compare a [.Eq] [b] pos) (deq x y) δ2 := t_cmp2 (op_eqP hu) (nomark b) ha hb (o2_eq (neg := false) h1 h2)
theorem t_ne (hu : X.A.units + 64 < cLine) (ha : EvD X δ a x δ1) (hb : EvD X δ1 b y δ2) (h1 : pyOk 6 x = true := by rfl) (h2 : pyOk 6 y = true := by rfl) : TvD X δ (.Compare a [.NotEq] [b] pos) (!deq x y) δ2 := t_cmp2 (op_neP hu) (nomark b) ha hb (o2_eq (neg := true) h1 h2)
/-- membership by == -/
def dmem (d : D) (es : List D) : Bool := es.any fun e => PyData.eqv (toPy 5 e) (toPy 5 d)
theorem e_inL (hu : X.A.units + 64 < cLine) (ha : EvD X δ a d δ1) (hb : EvD X δ1 b (.lst ds) δ2) (hm : behindInMarks .In b = false := by with_unfolding_all rfl) (h1 : pyOk 5 d = true := by rfl) (h2 : ds.all (pyOk 5) = true := by rfl) : EvD X δ (.Compare a [.In] [b] pos) (.bl (dmem d ds)) δ2 := e_cmp2 (op_inP hu) hm ha hb (o2_inL (neg := false) h1 h2)
theorem e_inT (hu : X.A.units + 64 < cLine) (ha : EvD X δ a d δ1) (hb : EvD X δ1 b (.tup ds) δ2) (hm : behindInMarks .In b = false := by with_unfolding_all rfl) (h1 : pyOk 5 d = true := by rfl) (h2 : ds.all (pyOk 5) = true := by rfl) : EvD X δ (.Compare a [.In] [b] pos) (.bl (dmem d ds)) δ2 := e_cmp2 (op_inP hu) hm ha hb (o2_inT (neg := false) h1 h2)
theorem e_ninL (hu : X.A.units + 64 < cLine) (ha : EvD X δ a d δ1) (hb : EvD X δ1 b (.lst ds) δ2) (hm : behindInMarks .NotIn b = false := by with_unfolding_all rfl) (h1 : pyOk 5 d = true := by rfl) (h2 : ds.all (pyOk 5) = true := by rfl) : EvD X δ (.Compare a [.NotIn] [b] pos) (.bl (!dmem d ds)) δ2 := e_cmp2 (op_notInP hu) hm ha hb (o2_inL (neg := true) h1 h2)
theorem e_ninT (hu : X.A.units + 64 < cLine) (ha : EvD X δ a d δ1) (hb : EvD X δ1 b (.tup ds) δ2) (hm : behindInMarks .NotIn b = false := by with_unfolding_all rfl) (h1 : pyOk 5 d = true := by rfl) (h2 : ds.all (pyOk 5) = true := by rfl) : EvD X δ (.Compare a [.NotIn] [b] pos) (.bl (!dmem d ds)) δ2 := e_cmp2 (op_notInP hu) hm ha hb (o2_inT (neg := true) h1 h2)
theorem t_inL (hu : X.A.units + 64 < cLine) (ha : EvD X δ a d δ1) (hb : EvD X δ1 b (.lst ds) δ2) (hm : behindInMarks .In b = false := by with_unfolding_all rfl) (h1 : pyOk 5 d = true := by rfl) (h2 : ds.all (pyOk 5) = true := by rfl) : TvD X δ (.Compare a [.In] [b] pos) (dmem d ds) δ2 := t_cmp2 (op_inP hu) hm ha hb (o2_inL (neg := false) h1 h2)
theorem t_inT (hu : X.A.units + 64 < cLine) (ha : EvD X δ a d δ1) (hb : EvD X δ1 b (.tup ds) δ2) (hm : behindInMarks .In b = false := by with_unfolding_all rfl) (h1 : pyOk 5 d = true := by rfl) (h2 : ds.all (pyOk 5) = true := by rfl) : TvD X δ (.Compare a [.In] [b] pos) (dmem d ds) δ2 := t_cmp2 (op_inP hu) hm ha hb (o2_inT (neg := false) h1 h2)
theorem t_ninL (hu : X.A.units + 64 < cLine) (ha : EvD X δ a d δ1) (hb : EvD X δ1 b (.lst ds) δ2) (hm : behindInMarks .NotIn b = false := by with_unfolding_all rfl) (h1 : pyOk 5 d = true := by rfl) (h2 : ds.all (pyOk 5) = true := by rfl) : TvD X δ (.Compare a [.NotIn] [b] pos) (!dmem d ds) δ2 := t_cmp2 (op_notInP hu) hm ha hb (o2_inL (neg := true) h1 h2)
theorem t_ninT (hu : X.A.units + 64 < cLine) (ha : EvD X δ a d δ1) (hb : EvD X δ1 b (.tup ds) δ2) (hm : behindInMarks .NotIn b = false := by with_unfolding_all rfl) (h1 : pyOk 5 d = true := by rfl) (h2 : ds.all (pyOk 5) = true := by rfl) : TvD X δ (.Compare a [.NotIn] [b] pos) (!dmem d ds) δ2 := t_cmp2 (op_notInP hu) hm ha hb (o2_inT (neg := true) h1 h2)
/-- the own list on the right -/
theorem own_rep {K : PySem.W.Frag} {α : Nat → Addr} {F H : Hp} {σ : Sl} {i : Nat} (st : StOk K α F H σ δ) (h : look δ i = .own (.lst ds) ∨ look δ i = .par (.lst ds)) : σ[i]? = some (some (.ref (α i))) ∧ ∃ vs, H (α i) = some (.lst vs) ∧ Reps K F vs ds ∧ F (α i) = none := by
  have q := st.slot i
  rcases h with h | h <;> rw [h] at q <;> exact ⟨q.1, q.2.2.choose, q.2.2.choose_spec.1, q.2.2.choose_spec.2, q.2.1⟩
theorem t_ninO {i : Nat} {x : Str} {p2 : Pos} (hu : X.A.units + 64 < cLine) (hN : X.N[i]? = some x) (hv : Vis X.env.scope x) (ha : EvD X δ a d δ) (hi : look δ i = .own (.lst ds) ∨ look δ i = .par (.lst ds)) (hm : behindInMarks .NotIn (.Name x p2) = false := by with_unfolding_all rfl) (h1 : pyOk 5 d = true := by rfl) (h2 : ds.all (pyOk 5) = true := by rfl)
    (hd : (x == ("__debug__" : Str)) = false := by decide) (hcd : (x == ("__classdict__" : Str)) = false := by decide) : TvD X δ (.Compare a [.NotIn] [.Name x p2] pos) (!dmem d ds) δ := by
  refine ⟨Kd.refl _, fun α σ H F Q st k => .of (pt_cmpR (op_notInP hu) pe_tw (pe_var hN hv hd hcd) hm) ?_⟩
  refine ha.run α σ H F _ st fun v F1 H1 s1 st1 r1 => ?_
  obtain ⟨q1, vs, q2, q3, _⟩ := own_rep st1 hi
  exact ⟨_, q1, d, ds, r1.mono st1.fh, .inl (.lst q2 (q3.mono st1.fh)), h1, h2, _, rfl, k F1 H1 s1 st1⟩
theorem t_inO {i : Nat} {x : Str} {p2 : Pos} (hu : X.A.units + 64 < cLine) (hN : X.N[i]? = some x) (hv : Vis X.env.scope x) (ha : EvD X δ a d δ) (hi : look δ i = .own (.lst ds) ∨ look δ i = .par (.lst ds)) (hm : behindInMarks .In (.Name x p2) = false := by with_unfolding_all rfl) (h1 : pyOk 5 d = true := by rfl) (h2 : ds.all (pyOk 5) = true := by rfl)
    (hd : (x == ("__debug__" : Str)) = false := by decide) (hcd : (x == ("__classdict__" : Str)) = false := by decide) : TvD X δ (.Compare a [.In] [.Name x p2] pos) (dmem d ds) δ := by
  refine ⟨Kd.refl _, fun α σ H F Q st k => .of (pt_cmpR (op_inP hu) pe_tw (pe_var hN hv hd hcd) hm) ?_⟩
  refine ha.run α σ H F _ st fun v F1 H1 s1 st1 r1 => ?_
  obtain ⟨q1, vs, q2, q3, _⟩ := own_rep st1 hi
  exact ⟨_, q1, d, ds, r1.mono st1.fh, .inl (.lst q2 (q3.mono st1.fh)), h1, h2, _, rfl, k F1 H1 s1 st1⟩
/-- is None -/
theorem e_isN {j pos'} (ha : EvD X δ a d δ1) : EvD X δ (.Compare a [.Is] [.Constant .none j pos'] pos) (.bl (isNon d)) δ1 := by
  refine ⟨ha.kd, fun α σ H F Q st k => .of (pe_cmp (pc_isN pe_tw)) ?_⟩
  exact ha.run α σ H F _ st fun v F1 H1 s1 st1 r1 => by rw [non_iff r1]; exact k _ F1 H1 s1 st1 (.bl _)
theorem e_notN {j pos'} (ha : EvD X δ a d δ1) : EvD X δ (.Compare a [.IsNot] [.Constant .none j pos'] pos) (.bl (!isNon d)) δ1 := by
  refine ⟨ha.kd, fun α σ H F Q st k => .of (pe_cmp (pc_notN pe_tw)) ?_⟩
  exact ha.run α σ H F _ st fun v F1 H1 s1 st1 r1 => by rw [non_iff r1]; exact k _ F1 H1 s1 st1 (.bl _)
theorem t_isN {j pos'} (ha : EvD X δ a d δ1) : TvD X δ (.Compare a [.Is] [.Constant .none j pos'] pos) (isNon d) δ1 := by
  refine ⟨ha.kd, fun α σ H F Q st k => .of (pt_cmp (pc_isN pe_tw)) ?_⟩
  exact ha.run α σ H F _ st fun v F1 H1 s1 st1 r1 => ⟨_, rfl, by rw [non_iff r1]; exact k F1 H1 s1 st1⟩
theorem t_notN {j pos'} (ha : EvD X δ a d δ1) : TvD X δ (.Compare a [.IsNot] [.Constant .none j pos'] pos) (!isNon d) δ1 := by
  refine ⟨ha.kd, fun α σ H F Q st k => .of (pt_cmp (pc_notN pe_tw)) ?_⟩
  exact ha.run α σ H F _ st fun v F1 H1 s1 st1 r1 => ⟨_, rfl, by rw [non_iff r1]; exact k F1 H1 s1 st1⟩
/-- order of ints -/
theorem e_lt {i j : Int} (ha : EvD X δ a (.int i) δ1) (hb : EvD X δ1 b (.int j) δ2) : EvD X δ (.Compare a [.Lt] [b] pos) (.bl (decide (i < j))) δ2 := e_cmp2 op_lt (nomark b) ha hb o2_intB
theorem e_le {i j : Int} (ha : EvD X δ a (.int i) δ1) (hb : EvD X δ1 b (.int j) δ2) : EvD X δ (.Compare a [.LtE] [b] pos) (.bl (decide (i ≤ j))) δ2 := e_cmp2 op_le (nomark b) ha hb o2_intB
theorem e_gt {i j : Int} (ha : EvD X δ a (.int i) δ1) (hb : EvD X δ1 b (.int j) δ2) : EvD X δ (.Compare a [.Gt] [b] pos) (.bl (decide (j < i))) δ2 := e_cmp2 op_gt (nomark b) ha hb o2_intB
theorem e_ge {i j : Int} (ha : EvD X δ a (.int i) δ1) (hb : EvD X δ1 b (.int j) δ2) : EvD X δ (.Compare a [.GtE] [b] pos) (.bl (decide (j ≤ i))) δ2 := e_cmp2 op_ge (nomark b) ha hb o2_intB
theorem t_lt {i j : Int} (ha : EvD X δ a (.int i) δ1) (hb : EvD X δ1 b (.int j) δ2) : TvD X δ (.Compare a [.Lt] [b] pos) (decide (i < j)) δ2 := t_cmp2 op_lt (nomark b) ha hb o2_intB
theorem t_le {i j : Int} (ha : EvD X δ a (.int i) δ1) (hb : EvD X δ1 b (.int j) δ2) : TvD X δ (.Compare a [.LtE] [b] pos) (decide (i ≤ j)) δ2 := t_cmp2 op_le (nomark b) ha hb o2_intB
theorem t_gt {i j : Int} (ha : EvD X δ a (.int i) δ1) (hb : EvD X δ1 b (.int j) δ2) : TvD X δ (.Compare a [.Gt] [b] pos) (decide (j < i)) δ2 := t_cmp2 op_gt (nomark b) ha hb o2_intB
theorem t_ge {i j : Int} (ha : EvD X δ a (.int i) δ1) (hb : EvD X δ1 b (.int j) δ2) : TvD X δ (.Compare a [.GtE] [b] pos) (decide (j ≤ i)) δ2 := t_cmp2 op_ge (nomark b) ha hb o2_intB
/-- arithmetic -/
theorem e_add {i j : Int} (ha : EvD X δ a (.int i) δ1) (hb : EvD X δ1 b (.int j) δ2) : EvD X δ (.BinOp a .Add b pos) (.int (i + j)) δ2 := e_op2 op_add ha hb o2_int
theorem e_sub {i j : Int} (ha : EvD X δ a (.int i) δ1) (hb : EvD X δ1 b (.int j) δ2) : EvD X δ (.BinOp a .Sub b pos) (.int (i - j)) δ2 := e_op2 op_sub ha hb o2_int
theorem e_mul {i j : Int} (ha : EvD X δ a (.int i) δ1) (hb : EvD X δ1 b (.int j) δ2) (h : CMul i j) : EvD X δ (.BinOp a .Mult b pos) (.int (i * j)) δ2 := e_op2 op_mul ha hb (o2_intC h)
theorem e_fdiv {i j : Int} (ha : EvD X δ a (.int i) δ1) (hb : EvD X δ1 b (.int j) δ2) (h : CDiv i j) : EvD X δ (.BinOp a .FloorDiv b pos) (.int (i / j)) δ2 := e_op2 op_fdiv ha hb (o2_intC h)
theorem e_mod {i j : Int} (ha : EvD X δ a (.int i) δ1) (hb : EvD X δ1 b (.int j) δ2) (h : 0 < j) : EvD X δ (.BinOp a .Mod b pos) (.int (i % j)) δ2 := e_op2 op_mod ha hb (o2_intC (C := fun _ j => 0 < j) h)
theorem e_pow {i j : Int} (ha : EvD X δ a (.int i) δ1) (hb : EvD X δ1 b (.int j) δ2) (h : CPow i j) : EvD X δ (.BinOp a .Pow b pos) (.int (i ^ j.toNat)) δ2 := e_op2 op_pow ha hb (o2_intC h)
theorem e_neg {i : Int} (ha : EvD X δ a (.int i) δ1) : EvD X δ (.UnaryOp .USub a pos) (.int (-i)) δ1 := e_un un_neg ha fun v F H Q fh r k => by
  cases r; exact ⟨i, rfl, k _ F H (Grow.refl fh) (.int _)⟩
theorem e_addS {i j : Str} (ha : EvD X δ a (.str i) δ1) (hb : EvD X δ1 b (.str j) δ2) (h : i.length + j.length ≤ sizeLine) : EvD X δ (.BinOp a .Add b pos) (.str (i ++ j)) δ2 := e_op2 op_add_str ha hb fun v u F H Q fh r1 r2 k => by
  cases r1; cases r2; exact ⟨i, j, rfl, rfl, h, k _ F H (Grow.refl fh) (.str _)⟩
/-- list + list -/
theorem n_cat {es : List D} (ha : EvD X δ a (.lst ds) δ1) (hb : EvD X δ1 b (.lst es) δ2) (h : ds.length + es.length ≤ sizeLine) : NvD X δ (.BinOp a .Add b pos) (ds ++ es) δ2 := n_op2 op_cat ha hb fun v u F H Q fh r1 r2 k => by
  obtain ⟨a, vs, rfl, h1, q1⟩ := r1.seqL
  obtain ⟨b, ws, rfl, h2, q2⟩ := r2.seqL
  refine ⟨a, b, vs, ws, rfl, rfl, fh _ _ h1, fh _ _ h2, by rw [q1.length, q2.length]; exact h, fun p hp => ?_⟩
  exact k p (vs ++ ws) F _ hp (Same.none fh hp) (Grow.newH fh hp) upd_same (q1.append q2)
/-- tuple + tuple, the first not empty, the second not empty -/
theorem e_catT {es : List D} (ha : EvD X δ a (.tup ds) δ1) (hb : EvD X δ1 b (.tup es) δ2) (h0 : ds ≠ []) (h : ds.length + es.length ≤ sizeLine) : EvD X δ (.BinOp a .Add b pos) (.tup (ds ++ es)) δ2 := e_op2 op_catF ha hb fun v u F H Q fh r1 r2 k => by
  obtain ⟨a, vs, rfl, h1, q1⟩ := r1.seqT
  obtain ⟨b, ws, rfl, h2, q2⟩ := r2.seqT
  refine ⟨a, b, vs, ws, rfl, rfl, (h1.up fh).sq, (h2.up fh).sq, fun e => h0 (by rw [e] at q1; cases q1; rfl), by rw [q1.length, q2.length]; exact h, fun e => ?_, fun _ p ob hp hob => ?_⟩
  · subst e
    cases q2
    rw [List.append_nil] at k
    exact k _ F H (Grow.refl fh) (.tup h1 q1)
  · have g : Grow F H _ _ := Grow.new (o := .frz ob (.tup (vs ++ ws))) fh hp
    exact k _ _ _ g (.tup (.nw hob) ((q1.append q2).mono g.ff))
end
end ND

/-! NDk -/
set_option Elab.async false
set_option linter.all false
set_option maxRecDepth 100000
set_option maxHeartbeats 4000000
namespace ND
open PySem PySem.Spec PyProof.Rows L2
section
variable {X : Cx} {δ δ1 δ2 : DEnv} {a b c e : Expr} {es : List Expr} {pos p2 : Pos} {x y z d : D} {ds : List D}

/-! ### subscripts -/
theorem e_ix2 {r : R2} (hr : IxR X r) (ha : EvD X δ a x δ1) (hb : EvD X δ1 b y δ2) (h : Op2 X.K r x y z) (hs : PlainIx b := by exact fun _ _ => rfl) : EvD X δ (.Subscript a b pos) z δ2 := by
  refine ⟨ha.kd.trans hb.kd, fun α σ H F Q st k => .of (pe_ix hr pe_tw pe_tw hs) ?_⟩
  refine two ha hb st fun v u F2 H2 s2 st2 r1 r2 => h v u F2 H2 Q st2.fh r1 r2 fun w F3 H3 g r3 => ?_
  exact k w F3 H3 (s2.trans g.step) (st2.grow g) r3
theorem atI_reps {K : PySem.W.Frag} {F : Hp} {vs : List V} {i : Int} (r : Reps K F vs ds) (h : atI ds i = some d) : ∃ v, atI vs i = some v ∧ Rep K F v d := by
  unfold atI at h ⊢
  rw [r.length]
  cases q : ixN ds.length i with
  | none => rw [q] at h; cases h
  | some j =>
    rw [q] at h
    obtain ⟨v, h1, h2⟩ := r.get (i := j) h
    exact ⟨v, h1, h2⟩
theorem e_ixT {i : Int} (ha : EvD X δ a (.tup ds) δ1) (hb : EvD X δ1 b (.int i) δ2) (h : atI ds i = some d) (hs : PlainIx b := by exact fun _ _ => rfl) : EvD X δ (.Subscript a b pos) d δ2 := e_ix2 ix_tup ha hb (fun v u F H Q fh r1 r2 k => by
  obtain ⟨a, vs, rfl, h1, q1⟩ := r1.seqT
  cases r2
  obtain ⟨v, h2, h3⟩ := atI_reps q1 h
  exact ⟨a, vs, i, v, rfl, rfl, (h1.up fh).sq, h2, k v F H (Grow.refl fh) h3⟩) hs
theorem e_ixL {i : Int} (ha : EvD X δ a (.lst ds) δ1) (hb : EvD X δ1 b (.int i) δ2) (h : atI ds i = some d) (hs : PlainIx b := by exact fun _ _ => rfl) : EvD X δ (.Subscript a b pos) d δ2 := e_ix2 ix_list ha hb (fun v u F H Q fh r1 r2 k => by
  obtain ⟨a, vs, rfl, h1, q1⟩ := r1.seqL
  cases r2
  obtain ⟨v, h2, h3⟩ := atI_reps q1 h
  exact ⟨a, vs, i, v, rfl, rfl, SqL.of (fh _ _ h1), h2, k v F H (Grow.refl fh) h3⟩) hs
/-- own list [i] -/
theorem e_ixO {i : Int} {j : Nat} {x : Str} (hN : X.N[j]? = some x) (hv : Vis X.env.scope x) (hi : look δ j = .own (.lst ds) ∨ look δ j = .par (.lst ds)) (hb : EvD X δ b (.int i) δ) (h : atI ds i = some d) (hs : PlainIx b := by exact fun _ _ => rfl)
    (hd : (x == ("__debug__" : Str)) = false := by decide) (hcd : (x == ("__classdict__" : Str)) = false := by decide) : EvD X δ (.Subscript (.Name x p2) b pos) d δ := by
  refine ⟨Kd.refl _, fun α σ H F Q st k => .of (pe_ix ix_list (pe_var hN hv hd hcd) pe_tw hs) ?_⟩
  obtain ⟨q1, _⟩ := own_rep st hi
  refine ⟨_, q1, hb.run α σ H F _ st fun u F1 H1 s1 st1 r1 => ?_⟩
  obtain ⟨_, vs, q2, q3, _⟩ := own_rep st1 hi
  cases r1
  obtain ⟨v, h2, h3⟩ := atI_reps q3 h
  exact ⟨_, vs, i, v, rfl, rfl, SqL.of q2, h2, k v F1 H1 s1 st1 h3⟩
/-- dict[text] -/
def dlook (ks : List (Str × ND.D)) (k : Str) : Option ND.D := (ks.find? fun q => decide (q.1 = k)).map (·.2)
theorem valV_look {K : PySem.W.Frag} {F : Hp} {k : Str} : ∀ {kvs : List (Key × V)} {ks : List (Str × ND.D)}, RepK K F kvs ks → (∀ d, dlook ks k = some d → ∃ v, valV kvs (.inr k) = some v ∧ Rep K F v d) ∧ (dlook ks k = none → valV kvs (.inr k) = none)
  | _, _, .nil => ⟨fun d h => (nomatch h), fun _ => rfl⟩
  | _, _, .cons (k := k0) (v := v0) (d := d0) (kvs := kvs) (ks := ks) r rs => by
    have ih := valV_look (k := k) rs
    by_cases e : k0 = k
    · subst e
      have e1 : dlook ((k0, d0) :: ks) k0 = some d0 := by simp [dlook]
      have e2 : valV ((Sum.inr k0, v0) :: kvs) (.inr k0) = some v0 := valV_pos rfl
      rw [e1, e2]
      refine ⟨fun d h => ?_, fun h => (nomatch h)⟩
      cases h
      exact ⟨v0, rfl, r⟩
    · have e1 : dlook ((k0, d0) :: ks) k = dlook ks k := by simp [dlook, List.find?_cons, e]
      have e2 : valV ((Sum.inr k0, v0) :: kvs) (.inr k) = valV kvs (.inr k) := valV_neg (fun h => e (Sum.inr.inj h))
      rw [e1, e2]
      exact ih
theorem dget_rd {H : Hp} {a : Addr} {kvs : List (Key × V)} {k : Str} (e : Rd H a (.dK kvs)) : DGet H a (.str k) (valV kvs (.inr k)) := .inl ⟨kvs, .inr k, e, rfl, rfl⟩
theorem e_dget {ks : List (Str × ND.D)} {k : Str} (hu : X.A.units + 1 < cLine) (ha : EvD X δ a (.dct ks) δ1) (hb : EvD X δ1 b (.str k) δ2) (h : dlook ks k = some d) (hs : NoSl b := by exact fun _ _ => rfl) : EvD X δ (.Subscript a b pos) d δ2 := by
  refine ⟨ha.kd.trans hb.kd, fun α σ H F Q st kk => .of (pe_dget hu pe_tw pe_tw hs) ?_⟩
  refine two ha hb st fun v u F2 H2 s2 st2 r1 r2 => ?_
  obtain ⟨a, kvs, rfl, h1, q1⟩ := r1.dict
  cases r2
  obtain ⟨w, h2, h3⟩ := (valV_look q1).1 d h
  exact ⟨a, w, rfl, by rw [← h2]; exact dget_rd (st2.fh.rd h1), kk w F2 H2 s2 st2 h3⟩
theorem dct_rep {K : PySem.W.Frag} {α : Nat → Addr} {F H : Hp} {σ : Sl} {i : Nat} {ks : List (Str × ND.D)} (st : StOk K α F H σ δ) (h : look δ i = .own (.dct ks) ∨ look δ i = .par (.dct ks)) : σ[i]? = some (some (.ref (α i))) ∧ ∃ vs, H (α i) = some (.dK vs) ∧ RepK K F vs ks ∧ F (α i) = none := by
  have q := st.slot i
  rcases h with h | h <;> rw [h] at q <;> exact ⟨q.1, q.2.2.choose, q.2.2.choose_spec.1, q.2.2.choose_spec.2, q.2.1⟩
theorem e_dgetO {ks : List (Str × ND.D)} {k : Str} {j : Nat} {x : Str} (hu : X.A.units + 1 < cLine) (hN : X.N[j]? = some x) (hv : Vis X.env.scope x) (hi : look δ j = .own (.dct ks) ∨ look δ j = .par (.dct ks)) (hb : EvD X δ b (.str k) δ) (h : dlook ks k = some d) (hs : NoSl b := by exact fun _ _ => rfl)
    (hd : (x == ("__debug__" : Str)) = false := by decide) (hcd : (x == ("__classdict__" : Str)) = false := by decide) : EvD X δ (.Subscript (.Name x p2) b pos) d δ := by
  refine ⟨Kd.refl _, fun α σ H F Q st kk => .of (pe_dget hu (pe_var hN hv hd hcd) pe_tw hs) ?_⟩
  obtain ⟨q1, _⟩ := dct_rep st hi
  refine ⟨_, q1, hb.run α σ H F _ st fun u F1 H1 s1 st1 r1 => ?_⟩
  obtain ⟨_, vs, q2, q3, _⟩ := dct_rep st1 hi
  cases r1
  obtain ⟨w, h2, h3⟩ := (valV_look q3).1 d h
  exact ⟨_, w, rfl, by rw [← h2]; exact dget_rd (.inl q2), kk w F1 H1 s1 st1 h3⟩
/-- text or None in dict -/
def dhas (ks : List (Str × ND.D)) : ND.D → Bool
  | .str k => (dlook ks k).isSome
  | _ => false
def keyD : ND.D → Bool
  | .str _ => true
  | .non => true
  | _ => false
theorem din_of {H F : Hp} {K : PySem.W.Frag} {a : Addr} {kvs : List (Key × V)} {ks : List (Str × ND.D)} {u : V} {Q : VK} (h : Rd H a (.dK kvs)) (r : RepK K F kvs ks) (ru : Rep K F u d) (hk : keyD d = true) (q : Q (.bl (dhas ks d)) H) :
    (∃ a' o, V.ref a = .ref a' ∧ DGet H a' u o ∧ Q (.bl o.isSome) H) ∨ ∃ a' kvs, V.ref a = .ref a' ∧ u = .non ∧ Rd H a' (.dK kvs) ∧ Q (.bl false) H := by
  cases ru with
  | str k =>
    refine .inl ⟨a, _, rfl, dget_rd h, ?_⟩
    have e : (valV kvs (.inr k)).isSome = dhas ks (.str k) := by
      cases z : dlook ks k with
      | none => rw [(valV_look r).2 z]; simp [dhas, z]
      | some d => obtain ⟨v, h1, _⟩ := (valV_look r).1 d z; rw [h1]; simp [dhas, z]
    rw [e]; exact q
  | non => exact .inr ⟨a, kvs, rfl, rfl, h, q⟩
  | _ => cases hk
theorem e_din {ks : List (Str × ND.D)} (hu : X.A.units + 1 < cLine) (ha : EvD X δ a d δ1) (hb : EvD X δ1 b (.dct ks) δ2) (hk : keyD d = true) (hm : behindInMarks .In b = false := by with_unfolding_all rfl) : EvD X δ (.Compare a [.In] [b] pos) (.bl (dhas ks d)) δ2 := by
  refine ⟨ha.kd.trans hb.kd, fun α σ H F Q st k => .of (pe_cmp (pc_dinN hu pe_tw pe_tw) hm) ?_⟩
  refine two ha hb st fun v u F2 H2 s2 st2 r1 r2 => ?_
  obtain ⟨a, kvs, rfl, h1, q1⟩ := r2.dict
  exact din_of (st2.fh.rd h1) q1 r1 hk (k _ F2 H2 s2 st2 (.bl _))
theorem t_din {ks : List (Str × ND.D)} (hu : X.A.units + 1 < cLine) (ha : EvD X δ a d δ1) (hb : EvD X δ1 b (.dct ks) δ2) (hk : keyD d = true) (hm : behindInMarks .In b = false := by with_unfolding_all rfl) : TvD X δ (.Compare a [.In] [b] pos) (dhas ks d) δ2 := by
  refine ⟨ha.kd.trans hb.kd, fun α σ H F Q st k => .of (pt_cmp (pc_dinN hu pe_tw pe_tw) hm) ?_⟩
  refine two ha hb st fun v u F2 H2 s2 st2 r1 r2 => ?_
  obtain ⟨a, kvs, rfl, h1, q1⟩ := r2.dict
  exact din_of (Q := fun x H1 => ∃ c, x = .bl c ∧ Q c H1) (st2.fh.rd h1) q1 r1 hk ⟨_, rfl, k F2 H2 s2 st2⟩
theorem dnin_of {H F : Hp} {K : PySem.W.Frag} {a : Addr} {kvs : List (Key × V)} {ks : List (Str × ND.D)} {u : V} {Q : VK} (h : Rd H a (.dK kvs)) (r : RepK K F kvs ks) (ru : Rep K F u d) (hk : keyD d = true) (q : Q (.bl (!dhas ks d)) H) :
    (∃ a' o, V.ref a = .ref a' ∧ DGet H a' u o ∧ Q (.bl (!o.isSome)) H) ∨ ∃ a' kvs, V.ref a = .ref a' ∧ u = .non ∧ Rd H a' (.dK kvs) ∧ Q (.bl true) H := by
  cases ru with
  | str k =>
    refine .inl ⟨a, _, rfl, dget_rd h, ?_⟩
    have e : (valV kvs (.inr k)).isSome = dhas ks (.str k) := by
      cases z : dlook ks k with
      | none => rw [(valV_look r).2 z]; simp [dhas, z]
      | some d => obtain ⟨v, h1, _⟩ := (valV_look r).1 d z; rw [h1]; simp [dhas, z]
    rw [e]; exact q
  | non => exact .inr ⟨a, kvs, rfl, rfl, h, q⟩
  | _ => cases hk
theorem e_dnin {ks : List (Str × ND.D)} (hu : X.A.units + 1 < cLine) (ha : EvD X δ a d δ1) (hb : EvD X δ1 b (.dct ks) δ2) (hk : keyD d = true) (hm : behindInMarks .NotIn b = false := by with_unfolding_all rfl) : EvD X δ (.Compare a [.NotIn] [b] pos) (.bl (!dhas ks d)) δ2 := by
  refine ⟨ha.kd.trans hb.kd, fun α σ H F Q st k => .of (pe_cmp (pc_dnotinN hu pe_tw pe_tw) hm) ?_⟩
  refine two ha hb st fun v u F2 H2 s2 st2 r1 r2 => ?_
  obtain ⟨a, kvs, rfl, h1, q1⟩ := r2.dict
  exact dnin_of (st2.fh.rd h1) q1 r1 hk (k _ F2 H2 s2 st2 (.bl _))
theorem t_dnin {ks : List (Str × ND.D)} (hu : X.A.units + 1 < cLine) (ha : EvD X δ a d δ1) (hb : EvD X δ1 b (.dct ks) δ2) (hk : keyD d = true) (hm : behindInMarks .NotIn b = false := by with_unfolding_all rfl) : TvD X δ (.Compare a [.NotIn] [b] pos) (!dhas ks d) δ2 := by
  refine ⟨ha.kd.trans hb.kd, fun α σ H F Q st k => .of (pt_cmp (pc_dnotinN hu pe_tw pe_tw) hm) ?_⟩
  refine two ha hb st fun v u F2 H2 s2 st2 r1 r2 => ?_
  obtain ⟨a, kvs, rfl, h1, q1⟩ := r2.dict
  exact dnin_of (Q := fun x H1 => ∃ c, x = .bl c ∧ Q c H1) (st2.fh.rd h1) q1 r1 hk ⟨_, rfl, k F2 H2 s2 st2⟩

/-! ### slices -/
structure OvD (X : Cx) (e : Option Expr) (o : Option Int) (δ : DEnv) : Prop where
  ex : (e = none ∧ o = none) ∨ ∃ a i, e = some a ∧ o = some i ∧ EvD X δ a (.int i) δ
theorem o_none : OvD X none none δ := ⟨.inl ⟨rfl, rfl⟩⟩
theorem o_some {i : Int} (h : EvD X δ a (.int i) δ) : OvD X (some a) (some i) δ := ⟨.inr ⟨a, i, rfl, rfl, h⟩⟩
def twO (X : Cx) (e : Option Expr) : TO := match e with
  | none => tNoPart
  | some a => tPart (twE X a)
theorem po_tw (e : Option Expr) : PO X e (twO X e) := by
  cases e with
  | none => exact po_none
  | some a => exact po_some pe_tw
theorem OvD.run {e' : Option Expr} {o : Option Int} (h : OvD X e' o δ) {α : Nat → Addr} {σ : Sl} {H F : Hp} {Q : Option Int → Hp → Prop} (st : StOk X.K α F H σ δ) (k : ∀ F' H', Step (OwnA α δ) F H F' H' → StOk X.K α F' H' σ δ → Q o H') : twO X e' σ H Q := by
  rcases h.ex with ⟨rfl, rfl⟩ | ⟨a, i, rfl, rfl, hh⟩
  · exact k F H .refl st
  · refine EvD.run hh α σ H F _ st fun v F1 H1 s1 st1 r1 => ?_
    cases r1
    exact ⟨i, rfl, k F1 H1 s1 st1⟩
def cutD {β : Type} (ds : List β) (lo hi : Option Int) : List β := (ds.drop (HT.sIx ds.length 0 lo)).take (HT.sIx ds.length ds.length hi - HT.sIx ds.length 0 lo)
theorem reps_cut {K : PySem.W.Frag} {F : Hp} {vs : List V} (r : Reps K F vs ds) (lo hi : Option Int) : Reps K F (cutV vs lo hi) (cutD ds lo hi) := by
  unfold cutV cutD
  rw [r.length]
  exact (r.drop _).take _
/-- list[lo:hi] -/
theorem n_slice {lo hi : Option Expr} {l h : Option Int} (ha : EvD X δ a (.lst ds) δ1) (hl : OvD X lo l δ1) (hh : OvD X hi h δ1) : NvD X δ (.Subscript a (.Slice lo hi none p2) pos) (cutD ds l h) δ1 := by
  refine ⟨ha.kd, fun α σ H F Q st k => .of (pe_slice sl_list pe_tw (po_tw lo) (po_tw hi)) ?_⟩
  refine ha.run α σ H F _ st fun v F1 H1 s1 st1 r1 => OvD.run hl st1 fun F2 H2 s2 st2 => OvD.run hh st2 fun F3 H3 s3 st3 => ?_
  obtain ⟨a, vs, rfl, h1, q1⟩ := r1.seqL
  have sp := s1.trans ((s2.trans s3).mono fun _ z => ha.kd.ownA z)
  have m := s2.ff.trans s3.ff
  refine ⟨a, vs, rfl, SqL.of (st3.fh _ _ (m _ _ h1)), fun p hp => ?_⟩
  have g : Grow F3 H3 F3 _ := Grow.newH (o := .lst (cutV vs l h)) st3.fh hp
  exact k p _ F3 _ (none_back sp hp) (Same.none st3.fh hp) (sp.trans g.step) (st3.grow g) upd_same (reps_cut (q1.mono m) l h)
/-- the read-only list [lo:hi] -/
theorem n_sliceR {lo hi : Option Expr} {l h : Option Int} {ns : List Int} (ha : EvD X δ a (.rol ns) δ1) (hl : OvD X lo l δ1) (hh : OvD X hi h δ1) : NvD X δ (.Subscript a (.Slice lo hi none p2) pos) ((cutD ns l h).map .int) δ1 := by
  refine ⟨ha.kd, fun α σ H F Q st k => .of (pe_slice sl_list pe_tw (po_tw lo) (po_tw hi)) ?_⟩
  refine ha.run α σ H F _ st fun v F1 H1 s1 st1 r1 => OvD.run hl st1 fun F2 H2 s2 st2 => OvD.run hh st2 fun F3 H3 s3 st3 => ?_
  have sp := s1.trans ((s2.trans s3).mono fun _ z => ha.kd.ownA z)
  have m := s2.ff.trans s3.ff
  cases r1 with
  | rol h1 =>
    refine ⟨_, _, rfl, st3.fh.seq (m.seq h1), fun p hp => ?_⟩
    have g : Grow F3 H3 F3 _ := Grow.newH (o := .lst (cutV (ns.map V.int) l h)) st3.fh hp
    refine k p _ F3 _ (none_back sp hp) (Same.none st3.fh hp) (sp.trans g.step) (st3.grow g) upd_same ?_
    have all : ∀ ns : List Int, Reps X.K F3 (ns.map V.int) (ns.map .int) := fun ns => by
      induction ns with
      | nil => exact .nil
      | cons n r ih => exact .cons (.int n) ih
    have q := reps_cut (all ns) l h
    unfold cutD at q ⊢
    rw [List.length_map, ← List.map_drop, ← List.map_take] at q
    exact q
/-- tuple[lo:hi] -/
theorem e_sliceT {lo hi : Option Expr} {l h : Option Int} (ha : EvD X δ a (.tup ds) δ1) (hl : OvD X lo l δ1) (hh : OvD X hi h δ1) : EvD X δ (.Subscript a (.Slice lo hi none p2) pos) (.tup (cutD ds l h)) δ1 := by
  refine ⟨ha.kd, fun α σ H F Q st k => .of (pe_slice sl_tupF pe_tw (po_tw lo) (po_tw hi)) ?_⟩
  refine ha.run α σ H F _ st fun v F1 H1 s1 st1 r1 => OvD.run hl st1 fun F2 H2 s2 st2 => OvD.run hh st2 fun F3 H3 s3 st3 => ?_
  obtain ⟨a, vs, rfl, h1, q1⟩ := r1.seqT
  have sp := s1.trans ((s2.trans s3).mono fun _ z => ha.kd.ownA z)
  have m := s2.ff.trans s3.ff
  refine ⟨a, vs, rfl, ((h1.up m).up st3.fh).sq, fun hw => ?_, fun _ p ob hp hob => ?_⟩
  · rw [q1.length] at hw
    refine k _ F3 H3 sp st3 (.tup (h1.up m) ?_)
    have e : cutD ds l h = ds := by
      unfold cutD
      rw [hw.1, hw.2, List.drop_zero, Nat.sub_zero, List.take_length]
    rw [e]; exact q1.mono m
  · have g : Grow F3 H3 _ _ := Grow.new (o := .frz ob (.tup (cutV vs l h))) st3.fh hp
    exact k _ _ _ (sp.trans g.step) (st3.grow g) (.tup (.nw hob) ((reps_cut (q1.mono m) l h).mono g.ff))

/-! ### stars -/
theorem a_starT {p : Pos} {xs : List D} (ha : EvD X δ e (.tup xs) δ1) (hb : AvD X δ1 es ds δ2) (hs : starEach (.Starred e p :: es) X.env = (true, eval e X.env) :: starEach es X.env := by rfl) : AvD X δ (.Starred e p :: es) (xs ++ ds) δ2 := by
  refine ⟨ha.kd.trans hb.kd, fun α σ H F Q st k => .of (StX.pa_star pe_tw pa_tw hs) ?_⟩
  refine ha.run α σ H F _ st fun v F1 H1 s1 st1 r1 => ?_
  obtain ⟨a, vs, rfl, h1, q1⟩ := r1.seqT
  refine ⟨a, vs, rfl, .inl (h1.up st1.fh).sq, hb.run α σ H1 F1 _ st1 fun ws F2 H2 s2 st2 r2 => ?_⟩
  exact k _ F2 H2 (s1.trans (s2.mono fun _ z => ha.kd.ownA z)) st2 ((q1.mono s2.ff).append r2)
theorem a_starL {p : Pos} {xs : List D} (ha : EvD X δ e (.lst xs) δ1) (hb : AvD X δ1 es ds δ2) (hs : starEach (.Starred e p :: es) X.env = (true, eval e X.env) :: starEach es X.env := by rfl) : AvD X δ (.Starred e p :: es) (xs ++ ds) δ2 := by
  refine ⟨ha.kd.trans hb.kd, fun α σ H F Q st k => .of (StX.pa_star pe_tw pa_tw hs) ?_⟩
  refine ha.run α σ H F _ st fun v F1 H1 s1 st1 r1 => ?_
  obtain ⟨a, vs, rfl, h1, q1⟩ := r1.seqL
  refine ⟨a, vs, rfl, .inr (SqL.of (st1.fh _ _ h1)), hb.run α σ H1 F1 _ st1 fun ws F2 H2 s2 st2 r2 => ?_⟩
  exact k _ F2 H2 (s1.trans (s2.mono fun _ z => ha.kd.ownA z)) st2 ((q1.mono s2.ff).append r2)

/-! ### built-ins -/
section
variable {p : Pos}
theorem e_ty {x : Str} {T : String} (hg : Gl X x) (hm : X.mg x = none) (hv : bootBuiltins x = some (.type T)) (hn : x ≠ "__name__" := by decide) (hd : (x == ("__debug__" : Str)) = false := by decide) : EvD X δ (.Name x pos) (.ty T) δ :=
  ⟨Kd.refl _, fun α σ H F Q st k => .of (pe_bltn (v := .ty T) hg hm hv rfl hn hd) (k _ F H .refl st (.ty T))⟩
def tyD : D → String
  | .non => "NoneType" | .bl _ => "bool" | .int _ => "int" | .str _ => "str" | .tup _ => "tuple" | .lst _ => "list" | .dct _ => "dict" | .rol _ => "list" | .ty _ => "type" | .sft _ => "tuple"
def tyKnown : D → Bool
  | .rol _ => false | .ty _ => false | .sft _ => false | _ => true
theorem tyX_of {K : PySem.W.Frag} {F H : Hp} {v : V} (fh : Same F H) (r : Rep K F v d) (h : tyKnown d = true) : TyX K H v (.type (tyD d)) := by
  cases r with
  | non => exact .base .non
  | bl b => exact .base (.bl b)
  | int i => exact .base (.int i)
  | str x => exact .base (.str x)
  | tup h1 _ => obtain ⟨o, h1, _⟩ := h1; exact .fTuple (fh _ _ h1)
  | sft _ _ => cases h
  | lst h1 _ => exact .base (.lst (fh _ _ h1))
  | dct h1 _ =>
    rcases h1 with h1 | ⟨o, h1⟩
    · exact .base (.dK (fh _ _ h1))
    · exact .fDict (fh _ _ h1)
  | rol _ => cases h
  | ty _ => cases h
theorem e_isi {T : String} {r : Bool} (hg : Gl X "isinstance") (hm : X.mg "isinstance" = none) (ha : AvD X δ (e :: es) [d, .ty T] δ1) (hk : kitB (tyD d) T = some r) (ht : tyKnown d = true := by rfl)
    (he : starEach (e :: es) X.env = (false, eval e X.env) :: starEach es X.env := by rfl) (hpl : (backTo pos (starEach es X.env)).any (·.1) = false := by rfl) : EvD X δ (.Call (.Name "isinstance" p) (e :: es) [] pos) (.bl r) δ1 :=
  e_callB call_isi hg hm PyProof.Rows.boot_isinstance ha (fun vs F H Q fh rs k => by
    cases rs with
    | cons r1 rs => cases rs with
      | cons r2 rs =>
        cases rs; cases r2
        exact ⟨_, _, _, _, r, rfl, .ty T, tyX_of fh r1 ht, kit_ty hk, k _ F H (Grow.refl fh) (.bl r)⟩) (he := he) (hpl := hpl)
/-- isinstance(x, a tuple of types), the tuple read -/
def rIsiTF (K : PySem.W.Frag) : List V → Hp → VK → Prop := fun xs H Q => ∃ (x : V) (tp : Addr) (cs : List V) (t : Value) (ws : List Value) (b : Bool), xs = [x, .ref tp] ∧ SqT K H tp cs ∧ Paired ClsV cs ws ∧ TyX K H x t ∧ PySem.W.kitAny K t ws = some b ∧ Q (.bl b) H
theorem call_isiTF : CallR X (.builtin "isinstance") (rIsiTF X.K) := by
  intro pins s σ H xs us Q I r h
  obtain ⟨x, tp, cs, t, ws, b, rfl, hT, k, ty, e, q⟩ := h
  obtain ⟨u1, u2, rfl, r1, r2⟩ := vals2 r
  cases (show u2 = Value.ref tp from r2)
  obtain ⟨P, Z, p, hx⟩ := kit_of I r1 ty
  obtain ⟨its, rv, ⟨o, h1, h2, n, h3⟩, _⟩ := I.tuple hT
  have e3 := ClsV.all k rv
  subst e3
  obtain ⟨oc, od, dt, sl⟩ := o
  simp only at h2 h3
  subst h2 h3
  exact PySem.W.kia_tup Z I.kIn p h1 e hx fun tk => ⟨.bl b, H, I.tok tk, rfl, q⟩
theorem e_isiT {T U : String} {r q : Bool} (hg : Gl X "isinstance") (hm : X.mg "isinstance" = none) (ha : AvD X δ (e :: es) [d, .tup [.ty T, .ty U]] δ1) (hk : kitB (tyD d) T = some r) (hk2 : kitB (tyD d) U = some q) (ht : tyKnown d = true := by rfl)
    (he : starEach (e :: es) X.env = (false, eval e X.env) :: starEach es X.env := by rfl) (hpl : (backTo pos (starEach es X.env)).any (·.1) = false := by rfl) : EvD X δ (.Call (.Name "isinstance" p) (e :: es) [] pos) (.bl (r || q)) δ1 :=
  e_callB call_isiTF hg hm PyProof.Rows.boot_isinstance ha (fun vs F H Q fh rs k => by
    cases rs with
    | cons r1 rs => cases rs with
      | cons r2 rs =>
        cases rs
        obtain ⟨T', ws, rfl, h1, q1⟩ := r2.seqT
        cases q1 with
        | cons a1 q1 => cases q1 with
          | cons a2 q1 =>
            cases q1; cases a1; cases a2
            refine ⟨_, T', _, _, [.type T, .type U], r || q, rfl, (h1.up fh).sq, .cons (.ty T) (.cons (.ty U) .nil), tyX_of fh r1 ht, ?_, k _ F H (Grow.refl fh) (.bl _)⟩
            refine kitAny_cons (kit_ty hk) (fun e => ?_) (fun e => by rw [e]; rfl)
            subst e
            exact kitAny_cons (kit_ty hk2) (fun e => by subst e; rfl) (fun e => by rw [e]; rfl)) (he := he) (hpl := hpl)
theorem e_lenT (hg : Gl X "len") (hm : X.mg "len" = none) (ha : EvD X δ e (.tup ds) δ1) (hs : starEach [e] X.env = (false, eval e X.env) :: starEach [] X.env := by rfl) : EvD X δ (.Call (.Name "len" p) [e] [] pos) (.int ds.length) δ1 :=
  e_callB call_len_seq hg hm PySem.boot_len (a_cons ha a_nil hs) (fun vs F H Q fh rs k => by
    cases rs with
    | cons r1 rs =>
      cases rs
      obtain ⟨a, ws, rfl, h1, q1⟩ := r1.seqT
      exact ⟨a, ws, rfl, .inr (h1.up fh).sq, by rw [q1.length]; exact k _ F H (Grow.refl fh) (.int _)⟩) (he := hs)
theorem e_lenL (hg : Gl X "len") (hm : X.mg "len" = none) (ha : EvD X δ e (.lst ds) δ1) (hs : starEach [e] X.env = (false, eval e X.env) :: starEach [] X.env := by rfl) : EvD X δ (.Call (.Name "len" p) [e] [] pos) (.int ds.length) δ1 :=
  e_callB call_len_seq hg hm PySem.boot_len (a_cons ha a_nil hs) (fun vs F H Q fh rs k => by
    cases rs with
    | cons r1 rs =>
      cases rs
      obtain ⟨a, ws, rfl, h1, q1⟩ := r1.seqL
      exact ⟨a, ws, rfl, .inl (SqL.of (fh _ _ h1)), by rw [q1.length]; exact k _ F H (Grow.refl fh) (.int _)⟩) (he := hs)
theorem e_lenS {x : Str} (hg : Gl X "len") (hm : X.mg "len" = none) (ha : EvD X δ e (.str x) δ1) (hx : x.length ≤ sizeLine) (hs : starEach [e] X.env = (false, eval e X.env) :: starEach [] X.env := by rfl) : EvD X δ (.Call (.Name "len" p) [e] [] pos) (.int x.length) δ1 :=
  e_callB call_len_str hg hm PySem.boot_len (a_cons ha a_nil hs) (fun vs F H Q fh rs k => by
    cases rs with
    | cons r1 rs => cases rs; cases r1; exact ⟨x, rfl, hx, k _ F H (Grow.refl fh) (.int _)⟩) (he := hs)
/-- len(own list) -/
theorem e_lenO {j : Nat} {x : Str} (hg : Gl X "len") (hm : X.mg "len" = none) (hN : X.N[j]? = some x) (hv : Vis X.env.scope x) (hi : look δ j = .own (.lst ds) ∨ look δ j = .par (.lst ds)) (hs : starEach [.Name x p2] X.env = (false, eval (.Name x p2) X.env) :: starEach [] X.env := by rfl)
    (hd : (x == ("__debug__" : Str)) = false := by decide) (hcd : (x == ("__classdict__" : Str)) = false := by decide) : EvD X δ (.Call (.Name "len" p) [.Name x p2] [] pos) (.int ds.length) δ := by
  refine ⟨Kd.refl _, fun α σ H F Q st k => .of (pe_callB call_len_seq hg hm PySem.boot_len (pa_cons (pe_var hN hv hd hcd) pa_nil hs) (he := hs)) ?_⟩
  obtain ⟨q1, vs, q2, q3, _⟩ := own_rep st hi
  exact ⟨_, q1, _, vs, rfl, .inl (SqL.of q2), by rw [q3.length]; exact k _ F H .refl st (.int _)⟩
theorem n_listT (hg : Gl X "list") (hm : X.mg "list" = none) (ha : EvD X δ e (.tup ds) δ1) (hs : starEach [e] X.env = (false, eval e X.env) :: starEach [] X.env := by rfl) : NvD X δ (.Call (.Name "list" p) [e] [] pos) ds δ1 :=
  n_callTy call_list_of hg hm (by decide +kernel) (a_cons ha a_nil hs) (fun vs F H Q fh rs k => by
    cases rs with
    | cons r1 rs =>
      cases rs
      obtain ⟨a, ws, rfl, h1, q1⟩ := r1.seqT
      exact ⟨a, ws, rfl, .inr (h1.up fh).sq, fun l hl => k l ws F _ hl (Same.none fh hl) (Grow.newH fh hl) upd_same q1⟩) (he := hs)
theorem n_listL (hg : Gl X "list") (hm : X.mg "list" = none) (ha : EvD X δ e (.lst ds) δ1) (hs : starEach [e] X.env = (false, eval e X.env) :: starEach [] X.env := by rfl) : NvD X δ (.Call (.Name "list" p) [e] [] pos) ds δ1 :=
  n_callTy call_list_of hg hm (by decide +kernel) (a_cons ha a_nil hs) (fun vs F H Q fh rs k => by
    cases rs with
    | cons r1 rs =>
      cases rs
      obtain ⟨a, ws, rfl, h1, q1⟩ := r1.seqL
      exact ⟨a, ws, rfl, .inl (SqL.of (fh _ _ h1)), fun l hl => k l ws F _ hl (Same.none fh hl) (Grow.newH fh hl) upd_same q1⟩) (he := hs)
/-- list(own list) -/
theorem n_listO {j : Nat} {x : Str} (hg : Gl X "list") (hm : X.mg "list" = none) (hN : X.N[j]? = some x) (hv : Vis X.env.scope x) (hi : look δ j = .own (.lst ds) ∨ look δ j = .par (.lst ds)) (hs : starEach [.Name x p2] X.env = (false, eval (.Name x p2) X.env) :: starEach [] X.env := by rfl)
    (hd : (x == ("__debug__" : Str)) = false := by decide) (hcd : (x == ("__classdict__" : Str)) = false := by decide) : NvD X δ (.Call (.Name "list" p) [.Name x p2] [] pos) ds δ := by
  refine ⟨Kd.refl _, fun α σ H F Q st k => .of (pe_callTy call_list_of hg hm (by decide +kernel) (pa_cons (pe_var hN hv hd hcd) pa_nil hs) (he := hs)) ?_⟩
  obtain ⟨q1, vs, q2, q3, _⟩ := own_rep st hi
  refine ⟨_, q1, _, vs, rfl, .inl (SqL.of q2), fun l hl => ?_⟩
  have g : Grow F H F _ := Grow.newH (o := .lst vs) st.fh hl
  exact k l vs F _ hl (Same.none st.fh hl) g.step (st.grow g) upd_same q3
theorem e_tupleL (hg : Gl X "tuple") (hm : X.mg "tuple" = none) (ha : EvD X δ e (.lst ds) δ1) (hs : starEach [e] X.env = (false, eval e X.env) :: starEach [] X.env := by rfl) : EvD X δ (.Call (.Name "tuple" p) [e] [] pos) (.tup ds) δ1 :=
  e_callTy call_tupleF hg hm (by decide +kernel) (a_cons ha a_nil hs) (fun vs F H Q fh rs k => by
    cases rs with
    | cons r1 rs =>
      cases rs
      obtain ⟨a, ws, rfl, h1, q1⟩ := r1.seqL
      refine ⟨a, ws, rfl, SqL.of (fh _ _ h1), fun l ob hl hob => ?_⟩
      have g : Grow F H _ _ := Grow.new (o := .frz ob (.tup ws)) fh hl
      exact k _ _ _ g (.tup (.nw hob) (q1.mono g.ff))) (he := hs)
/-- tuple(own list) -/
theorem e_tupleO {j : Nat} {x : Str} (hg : Gl X "tuple") (hm : X.mg "tuple" = none) (hN : X.N[j]? = some x) (hv : Vis X.env.scope x) (hi : look δ j = .own (.lst ds) ∨ look δ j = .par (.lst ds)) (hs : starEach [.Name x p2] X.env = (false, eval (.Name x p2) X.env) :: starEach [] X.env := by rfl)
    (hd : (x == ("__debug__" : Str)) = false := by decide) (hcd : (x == ("__classdict__" : Str)) = false := by decide) : EvD X δ (.Call (.Name "tuple" p) [.Name x p2] [] pos) (.tup ds) δ := by
  refine ⟨Kd.refl _, fun α σ H F Q st k => .of (pe_callTy call_tupleF hg hm (by decide +kernel) (pa_cons (pe_var hN hv hd hcd) pa_nil hs) (he := hs)) ?_⟩
  obtain ⟨q1, vs, q2, q3, _⟩ := own_rep st hi
  refine ⟨_, q1, _, vs, rfl, SqL.of q2, fun l ob hl hob => ?_⟩
  have g : Grow F H _ _ := Grow.new (o := .frz ob (.tup vs)) st.fh hl
  exact k _ _ _ g.step (st.grow g) (.tup (.nw hob) (q3.mono g.ff))
theorem e_all {bs : List Bool} (hc : X.calm = true) (hg : Gl X "all") (hm : X.mg "all" = none) (ha : EvD X δ e (.lst (bs.map .bl)) δ1) (hs : starEach [e] X.env = (false, eval e X.env) :: starEach [] X.env := by rfl) : EvD X δ (.Call (.Name "all" p) [e] [] pos) (.bl (bs.all id)) δ1 :=
  e_callB (cr_all hc) hg hm (by decide +kernel) (a_cons ha a_nil hs) (fun vs F H Q fh rs k => by
    cases rs with
    | cons r1 rs =>
      cases rs
      obtain ⟨a, ws, rfl, h1, q1⟩ := r1.seqL
      have e : ws = bs.map V.bl := by
        have all : ∀ (bs : List Bool) (ws : List V), Reps X.K F ws (bs.map .bl) → ws = bs.map V.bl := by
          intro bs
          induction bs with
          | nil => intro ws r; cases r; rfl
          | cons b bs ih => intro ws r; cases r with
            | cons a1 a2 => cases a1; rw [ih _ a2]; rfl
        exact all bs ws q1
      subst e
      exact ⟨a, bs, rfl, SqL.of (fh _ _ h1), k _ F H (Grow.refl fh) (.bl _)⟩) (he := hs)
theorem e_abs {i : Int} (hg : Gl X "abs") (hm : X.mg "abs" = none) (ha : EvD X δ e (.int i) δ1) (hs : starEach [e] X.env = (false, eval e X.env) :: starEach [] X.env := by rfl) : EvD X δ (.Call (.Name "abs" p) [e] [] pos) (.int (if i < 0 then -i else i)) δ1 :=
  e_callB call_abs hg hm (by decide +kernel) (a_cons ha a_nil hs) (fun vs F H Q fh rs k => by
    cases rs with
    | cons r1 rs => cases rs; cases r1; exact ⟨i, rfl, k _ F H (Grow.refl fh) (.int _)⟩) (he := hs)
theorem e_intI {i : Int} (hg : Gl X "int") (hm : X.mg "int" = none) (ha : EvD X δ e (.int i) δ1) (hs : starEach [e] X.env = (false, eval e X.env) :: starEach [] X.env := by rfl) : EvD X δ (.Call (.Name "int" p) [e] [] pos) (.int i) δ1 :=
  e_callTy call_int1 hg hm (by decide +kernel) (a_cons ha a_nil hs) (fun vs F H Q fh rs k => by
    cases rs with
    | cons r1 rs => cases rs; cases r1; exact .inl ⟨i, rfl, k _ F H (Grow.refl fh) (.int _)⟩) (he := hs)
theorem e_intB {b : Bool} (hg : Gl X "int") (hm : X.mg "int" = none) (ha : EvD X δ e (.bl b) δ1) (hs : starEach [e] X.env = (false, eval e X.env) :: starEach [] X.env := by rfl) : EvD X δ (.Call (.Name "int" p) [e] [] pos) (.int (if b then 1 else 0)) δ1 :=
  e_callTy call_int1 hg hm (by decide +kernel) (a_cons ha a_nil hs) (fun vs F H Q fh rs k => by
    cases rs with
    | cons r1 rs => cases rs; cases r1; exact .inr ⟨b, rfl, k _ F H (Grow.refl fh) (.int _)⟩) (he := hs)
theorem e_min2 {i j : Int} (hc : X.calm = true) (hg : Gl X "min") (hm : X.mg "min" = none) (ha : AvD X δ (e :: es) [.int i, .int j] δ1) (he : starEach (e :: es) X.env = (false, eval e X.env) :: starEach es X.env := by rfl) (hpl : (backTo pos (starEach es X.env)).any (·.1) = false := by rfl) : EvD X δ (.Call (.Name "min" p) (e :: es) [] pos) (.int (if j < i then j else i)) δ1 :=
  e_callB (call_min2 hc) hg hm (by decide +kernel) ha (fun vs F H Q fh rs k => by
    cases rs with
    | cons r1 rs => cases rs with
      | cons r2 rs => cases rs; cases r1; cases r2; exact ⟨i, j, rfl, k _ F H (Grow.refl fh) (.int _)⟩) (he := he) (hpl := hpl)
theorem e_max2 {i j : Int} (hc : X.calm = true) (hg : Gl X "max") (hm : X.mg "max" = none) (ha : AvD X δ (e :: es) [.int i, .int j] δ1) (he : starEach (e :: es) X.env = (false, eval e X.env) :: starEach es X.env := by rfl) (hpl : (backTo pos (starEach es X.env)).any (·.1) = false := by rfl) : EvD X δ (.Call (.Name "max" p) (e :: es) [] pos) (.int (if j > i then j else i)) δ1 :=
  e_callB (call_max2 hc) hg hm (by decide +kernel) ha (fun vs F H Q fh rs k => by
    cases rs with
    | cons r1 rs => cases rs with
      | cons r2 rs => cases rs; cases r1; cases r2; exact ⟨i, j, rfl, k _ F H (Grow.refl fh) (.int _)⟩) (he := he) (hpl := hpl)
end
end
end ND

/-! NDl -/
set_option Elab.async false
set_option linter.all false
set_option maxRecDepth 100000
set_option maxHeartbeats 4000000
namespace ND
open PySem PySem.Spec PyProof.Rows L2
theorem own_lt {δ : DEnv} {i : Nat} (h : isOwn (look δ i) = true) : i < δ.length := by
  by_cases hl : i < δ.length
  · exact hl
  · rw [look_out δ i (by omega)] at h; cases h
theorem kd_setC {s : SD} (h : isOwn s = true) (d : D) : kd s = kd (setC s d) := by cases s <;> first | rfl | cases h
section
variable {K : PySem.W.Frag} {α : Nat → Addr} {F H : Hp} {σ : Sl} {δ : DEnv} {i : Nat} {o : HO} {d' : D}
theorem StOk.write (st : StOk K α F H σ δ) (hi : isOwn (look δ i) = true) (new : OwnR K F (upd H (α i) o) (α i) d') : StOk K α F (upd H (α i) o) σ (put δ i (setC (look δ i) d')) := by
  have hl := own_lt hi
  obtain ⟨d0, h1, h2, h3⟩ := st.own hi
  refine ⟨fun b x e => ?_, st.len.trans (put_len _ _ _).symm, fun j => ?_, fun a b hA hB e => ?_⟩
  · rw [upd_ne fun z => by subst z; rw [h2] at e; cases e]; exact st.fh _ _ e
  · rw [look_put]
    by_cases hj : i = j
    · subst hj
      rw [if_pos rfl, if_pos hl]
      cases e : look δ i <;> rw [e] at hi <;> first | exact ⟨h1, h2, new⟩ | cases hi
    · rw [if_neg hj]
      have q := st.slot j
      have own : ∀ {d0 : D}, isOwn (look δ j) = true → σ[j]? = some (some (.ref (α j))) ∧ F (α j) = none ∧ OwnR K F H (α j) d0 → σ[j]? = some (some (.ref (α j))) ∧ F (α j) = none ∧ OwnR K F (upd H (α i) o) (α j) d0 := fun {d0} ho ⟨z1, z2, z3⟩ =>
        ⟨z1, z2, z3.grow (Same.refl _) (upd_ne fun e => hj (st.inj j i ho hi e).symm)⟩
      cases e : look δ j with
      | un => trivial
      | dat d0 => rw [e] at q; exact q
      | own d0 => rw [e] at q; exact own (by rw [e]; rfl) q
      | par d0 => rw [e] at q; exact own (by rw [e]; rfl) q
  · have k := Kd.put (kd_setC hi d') hl
    exact st.inj a b (by rw [← k.own a]; exact hA) (by rw [← k.own b]; exact hB) e
theorem step_write (st : StOk K α F H σ δ) (hi : isOwn (look δ i) = true) : Step (OwnA α δ) F H F (upd H (α i) o) :=
  ⟨Same.refl _, fun b x e n => by rw [upd_ne fun z => n ⟨i, hi, z.symm⟩]; exact e, fun b e => by
    by_cases h : b = α i
    · rw [h, upd_same]; simp
    · rw [upd_ne h]; exact e, fun b e f => f⟩
end
theorem isOwn_of {s : SD} {d : D} (h : s = .own d ∨ s = .par d) : isOwn s = true := by rcases h with h | h <;> rw [h] <;> rfl
section
variable {X : Cx} {δ δ1 δ2 : DEnv} {a b c e : Expr} {es : List Expr} {pos p2 apos : Pos} {x : Str} {d : D} {ds : List D} {i : Nat}
theorem tyV_own {K : PySem.W.Frag} {H : Hp} {a : Addr} {vs : List V} (h : H a = some (.lst vs)) : tyV K "list" (.ref a) H := Or.inl ⟨rfl, _, SqL.of h⟩
/-- own.append(e) -/
theorem e_append (hN : X.N[i]? = some x) (hv : Vis X.env.scope x) (hi0 : isOwn (look δ i) = true) (h : EvD X δ e d δ1) (hi : look δ1 i = .own (.lst ds) ∨ look δ1 i = .par (.lst ds)) (hl : ds.length < sizeLine) (hi00 : ∃ ds0, look δ i = .own (.lst ds0) ∨ look δ i = .par (.lst ds0))
    (hbase : attributeBase (.Name x p2) "append" X.env (eval (.Name x p2) X.env) = eval (.Name x p2) X.env := by rfl)
    (hfew : ((backTo pos (starEach [e] X.env)).all (fun x => !x.1) && (backToKw pos (keywordEach [] X.env)).all (fun x => x.1.isSome) && decide (([e] : List Expr).length + ([] : List Keyword).length + (if ([] : List Keyword).isEmpty then 0 else 1) < 30)) = true := by rfl)
    (hline : (apos.endLine == pos.line) = true := by rfl) (hs : starEach [e] X.env = (false, eval e X.env) :: starEach [] X.env := by rfl) (hplain : (backTo pos (starEach [] X.env)).any (·.1) = false := by rfl)
    (hd : (x == ("__debug__" : Str)) = false := by decide) (hcd : (x == ("__classdict__" : Str)) = false := by decide) :
    EvD X δ (.Call (.Attribute (.Name x p2) "append" apos) [e] [] pos) .non (put δ1 i (setC (look δ1 i) (.lst (ds ++ [d])))) := by
  have ho := isOwn_of hi
  refine ⟨h.kd.trans (Kd.put (kd_setC ho _) (own_lt ho)), fun α σ H F Q st k => .of (pe_bm PySem.F.plainAttrs_list PySem.F.slot_list_append PySem.F.type_list_append mt_append (pe_var hN hv hd hcd) (pa_cons pe_tw pa_nil hs) hbase hfew hline hs hplain) ?_⟩
  obtain ⟨ds0, hi1⟩ := hi00
  obtain ⟨q1, vs0, q2, _, _⟩ := own_rep st hi1
  refine ⟨_, q1, tyV_own q2, h.run α σ H F _ st fun v F1 H1 s1 st1 r1 => ?_⟩
  obtain ⟨_, vs, q3, q4, q5⟩ := own_rep st1 hi
  refine ⟨_, vs, v, rfl, rfl, q3, by rw [q4.length]; exact hl, ?_⟩
  exact k _ F1 _ (s1.trans ((step_write st1 ho).mono fun _ z => h.kd.ownA z)) (st1.write ho ⟨_, upd_same, q4.append (.cons r1 .nil)⟩) .non
/-- own.extend(list) -/
theorem e_extend {zs : List D} (hN : X.N[i]? = some x) (hv : Vis X.env.scope x) (h : EvD X δ e (.lst zs) δ1) (hi : look δ1 i = .own (.lst ds) ∨ look δ1 i = .par (.lst ds)) (hl : ds.length + zs.length ≤ sizeLine) (hi00 : ∃ ds0, look δ i = .own (.lst ds0) ∨ look δ i = .par (.lst ds0))
    (hbase : attributeBase (.Name x p2) "extend" X.env (eval (.Name x p2) X.env) = eval (.Name x p2) X.env := by rfl)
    (hfew : ((backTo pos (starEach [e] X.env)).all (fun x => !x.1) && (backToKw pos (keywordEach [] X.env)).all (fun x => x.1.isSome) && decide (([e] : List Expr).length + ([] : List Keyword).length + (if ([] : List Keyword).isEmpty then 0 else 1) < 30)) = true := by rfl)
    (hline : (apos.endLine == pos.line) = true := by rfl) (hs : starEach [e] X.env = (false, eval e X.env) :: starEach [] X.env := by rfl) (hplain : (backTo pos (starEach [] X.env)).any (·.1) = false := by rfl)
    (hd : (x == ("__debug__" : Str)) = false := by decide) (hcd : (x == ("__classdict__" : Str)) = false := by decide) :
    EvD X δ (.Call (.Attribute (.Name x p2) "extend" apos) [e] [] pos) .non (put δ1 i (setC (look δ1 i) (.lst (ds ++ zs)))) := by
  have ho := isOwn_of hi
  refine ⟨h.kd.trans (Kd.put (kd_setC ho _) (own_lt ho)), fun α σ H F Q st k => .of (pe_bm PySem.F.plainAttrs_list PySem.F.slot_list_extend PySem.F.type_list_extend mt_extend (pe_var hN hv hd hcd) (pa_cons pe_tw pa_nil hs) hbase hfew hline hs hplain) ?_⟩
  obtain ⟨ds0, hi1⟩ := hi00
  obtain ⟨q1, vs0, q2, _, _⟩ := own_rep st hi1
  refine ⟨_, q1, tyV_own q2, h.run α σ H F _ st fun v F1 H1 s1 st1 r1 => ?_⟩
  obtain ⟨_, vs, q3, q4, q5⟩ := own_rep st1 hi
  obtain ⟨b, ws, rfl, hb, q6⟩ := r1.seqL
  refine ⟨_, b, vs, ws, rfl, rfl, q3, st1.fh _ _ hb, by rw [q4.length, q6.length]; exact hl, ?_⟩
  exact k _ F1 _ (s1.trans ((step_write st1 ho).mono fun _ z => h.kd.ownA z)) (st1.write ho ⟨_, upd_same, q4.append q6⟩) .non
/-- own.pop(i) -/
theorem e_popAt {j : Int} {m : Nat} (hN : X.N[i]? = some x) (hv : Vis X.env.scope x) (h : EvD X δ e (.int j) δ1) (hi : look δ1 i = .own (.lst ds) ∨ look δ1 i = .par (.lst ds)) (h0 : 0 ≤ j) (hm : m = j.toNat) (hg : ds[m]? = some d) (hi00 : ∃ ds0, look δ i = .own (.lst ds0) ∨ look δ i = .par (.lst ds0))
    (hbase : attributeBase (.Name x p2) "pop" X.env (eval (.Name x p2) X.env) = eval (.Name x p2) X.env := by rfl)
    (hfew : ((backTo pos (starEach [e] X.env)).all (fun x => !x.1) && (backToKw pos (keywordEach [] X.env)).all (fun x => x.1.isSome) && decide (([e] : List Expr).length + ([] : List Keyword).length + (if ([] : List Keyword).isEmpty then 0 else 1) < 30)) = true := by rfl)
    (hline : (apos.endLine == pos.line) = true := by rfl) (hs : starEach [e] X.env = (false, eval e X.env) :: starEach [] X.env := by rfl) (hplain : (backTo pos (starEach [] X.env)).any (·.1) = false := by rfl)
    (hd : (x == ("__debug__" : Str)) = false := by decide) (hcd : (x == ("__classdict__" : Str)) = false := by decide) :
    EvD X δ (.Call (.Attribute (.Name x p2) "pop" apos) [e] [] pos) d (put δ1 i (setC (look δ1 i) (.lst (ds.eraseIdx m)))) := by
  have ho := isOwn_of hi
  refine ⟨h.kd.trans (Kd.put (kd_setC ho _) (own_lt ho)), fun α σ H F Q st k => .of (pe_bm PySem.F.plainAttrs_list PySem.F.slot_list_pop PySem.F.type_list_pop mt_popAt (pe_var hN hv hd hcd) (pa_cons pe_tw pa_nil hs) hbase hfew hline hs hplain) ?_⟩
  obtain ⟨ds0, hi1⟩ := hi00
  obtain ⟨q1, vs0, q2, _, _⟩ := own_rep st hi1
  refine ⟨_, q1, tyV_own q2, twE.and (h.run α σ H F _ st fun v F1 H1 s1 st1 r1 => ?_)⟩
  rintro ⟨pins, s, I⟩
  obtain ⟨_, vs, q3, q4, q5⟩ := own_rep st1 hi
  obtain ⟨_, _, _, hz⟩ := I.list (SqL.of (K := X.K) q3)
  rw [sizeLine_eq] at hz
  cases r1
  obtain ⟨w, g1, g2⟩ := q4.get hg
  have hml : m < vs.length := (List.getElem?_eq_some_iff.mp g1).1
  have hix : ixN vs.length j = some m := by
    unfold ixN
    rw [if_pos h0, if_pos (by omega), hm]
  refine ⟨_, vs, j, m, w, rfl, rfl, q3, by omega, by omega, (ixN_seq hix).1, g1, ?_⟩
  exact k _ F1 _ (s1.trans ((step_write st1 ho).mono fun _ z => h.kd.ownA z)) (st1.write ho ⟨_, upd_same, q4.eraseIdx m⟩) g2
/-- own.remove(e), e within -/
def rRemP (K : PySem.W.Frag) : V → List V → Hp → VK → Prop := fun x xs H Q => ∃ (l : Addr) (vs : List V) (y : V) (es : List D) (d : D) (j : Nat), x = .ref l ∧ xs = [y] ∧ H l = some (.lst vs) ∧ Reps K H vs es ∧ Rep K H y d ∧ pyOk 5 d = true ∧ es.all (pyOk 5) = true ∧
  SeqAt.dataPlace (es.map (toPy 5)) (toPy 5 d) = some j ∧ Q .non (upd H l (.lst (vs.eraseIdx j)))
theorem mt_removeP (hu : X.A.units + 64 < cLine) : MtR X "list.remove" (rRemP X.K) := by
  intro pins s σ H x xs v us Q I r1 rs h
  obtain ⟨l, vs, y, es, d, j, rfl, rfl, hH, hr, hy, o1, o2, hp, q⟩ := h
  obtain ⟨u, rfl, ry⟩ := Vals.one rs
  cases (show v = Value.ref l from r1)
  obtain ⟨z, its, n, r, hl, e0⟩ := I.lstM hH
  obtain ⟨as, ra⟩ := readsAll_of I 5 es vs its hr o2 r
  obtain ⟨bs, rb⟩ := reads_of I 5 d y u hy o1 ry
  have l1 := Nat.min_le_right (PyData.depthAll (es.map (toPy 5))) (toPy 5 d).depth
  have l2 := toPy_depth 5 d
  refine PySem.SeqAt.remove_list_data (vs := its.toArray) (xs := es.map (toPy 5)) ⟨_, e0, rfl, n, rfl⟩ (by simpa using ra) rb (toPy_plainAll _ _) (toPy_plain _ _) (by omega) hp (by rw [List.size_toArray, ← hl]; exact z) ?_
  refine ⟨.non, _, I.lset (its' := its.eraseIdx j) hH e0 ?_ (r.eraseIdx j) ?_, rfl, q⟩
  · show its.toArray.eraseIdxIfInBounds j = (its.eraseIdx j).toArray
    rw [List.eraseIdxIfInBounds_toArray]
  · exact Nat.le_trans (len_erase vs j) z
theorem e_remove {j : Nat} (hu : X.A.units + 64 < cLine) (hN : X.N[i]? = some x) (hv : Vis X.env.scope x) (h : EvD X δ e d δ1) (hi : look δ1 i = .own (.lst ds) ∨ look δ1 i = .par (.lst ds)) (o1 : pyOk 5 d = true) (o2 : ds.all (pyOk 5) = true)
    (hj : SeqAt.dataPlace (ds.map (toPy 5)) (toPy 5 d) = some j) (hi00 : ∃ ds0, look δ i = .own (.lst ds0) ∨ look δ i = .par (.lst ds0))
    (hbase : attributeBase (.Name x p2) "remove" X.env (eval (.Name x p2) X.env) = eval (.Name x p2) X.env := by rfl)
    (hfew : ((backTo pos (starEach [e] X.env)).all (fun x => !x.1) && (backToKw pos (keywordEach [] X.env)).all (fun x => x.1.isSome) && decide (([e] : List Expr).length + ([] : List Keyword).length + (if ([] : List Keyword).isEmpty then 0 else 1) < 30)) = true := by rfl)
    (hline : (apos.endLine == pos.line) = true := by rfl) (hs : starEach [e] X.env = (false, eval e X.env) :: starEach [] X.env := by rfl) (hplain : (backTo pos (starEach [] X.env)).any (·.1) = false := by rfl)
    (hd : (x == ("__debug__" : Str)) = false := by decide) (hcd : (x == ("__classdict__" : Str)) = false := by decide) :
    EvD X δ (.Call (.Attribute (.Name x p2) "remove" apos) [e] [] pos) .non (put δ1 i (setC (look δ1 i) (.lst (ds.eraseIdx j)))) := by
  have ho := isOwn_of hi
  refine ⟨h.kd.trans (Kd.put (kd_setC ho _) (own_lt ho)), fun α σ H F Q st k => .of (pe_bm PySem.F.plainAttrs_list PySem.F.slot_list_remove PySem.F.type_list_remove (mt_removeP hu) (pe_var hN hv hd hcd) (pa_cons pe_tw pa_nil hs) hbase hfew hline hs hplain) ?_⟩
  obtain ⟨ds0, hi1⟩ := hi00
  obtain ⟨q1, vs0, q2, _, _⟩ := own_rep st hi1
  refine ⟨_, q1, tyV_own q2, h.run α σ H F _ st fun v F1 H1 s1 st1 r1 => ?_⟩
  obtain ⟨_, vs, q3, q4, q5⟩ := own_rep st1 hi
  refine ⟨_, vs, v, ds, d, j, rfl, rfl, q3, q4.mono st1.fh, r1.mono st1.fh, o1, o2, hj, ?_⟩
  exact k _ F1 _ (s1.trans ((step_write st1 ho).mono fun _ z => h.kd.ownA z)) (st1.write ho ⟨_, upd_same, q4.eraseIdx j⟩) .non
/-- own[i] = e, a list -/
theorem s_setIx {N : DE} {j : Int} {m : Nat} {spos tpos : Pos} (hN : X.N[i]? = some x) (hv : Vis X.env.scope x) (h : EvD X δ e d δ1) (hb : EvD X δ1 b (.int j) δ1) (hi : look δ1 i = .own (.lst ds) ∨ look δ1 i = .par (.lst ds)) (hm : ixN ds.length j = some m)
    (q : N.nx (put δ1 i (setC (look δ1 i) (.lst (ds.set m d)))))
    (hs : swapsWithSole [.Subscript (.Name x p2) b tpos] e spos.line X.env = pure false := by rfl) (hw : swappedStores [.Subscript (.Name x p2) b tpos] e X.env = pure none := by rfl)
    (h1 : (assignEach [.Subscript (.Name x p2) b tpos] X.env).map (·.2) = [assign (.Subscript (.Name x p2) b tpos) X.env] := by rfl)
    (ha : ∀ v, assign (.Subscript (.Name x p2) b tpos) X.env v = (do
      let ov ← holding [v] (eval (.Name x p2) X.env)
      let iv ← holding [v, ov] (eval b X.env)
      standAt tpos
      holding [v, ov, iv] (setItem ov iv v)
      release [v, ov, iv] []) := by intro _; rfl)
    (hd : (x == ("__debug__" : Str)) = false := by decide) (hcd : (x == ("__classdict__" : Str)) = false := by decide) : SvD X δ (.Assign [.Subscript (.Name x p2) b tpos] e spos) N := by
  have ho := isOwn_of hi
  refine ⟨fun α σ H F D s k r => .of (ps_asg pe_tw (pg_sub (pe_var hN hv hd hcd) pe_tw set_list ha) hs hw h1) ?_⟩
  refine h.run α σ H F _ s fun v F1 H1 s1 st1 r1 => ?_
  obtain ⟨q1, _⟩ := own_rep st1 hi
  refine ⟨_, q1, hb.run α σ H1 F1 _ st1 fun u F2 H2 s2 st2 r2 => ?_⟩
  cases r2
  obtain ⟨_, vs, q3, q4, q5⟩ := own_rep st2 hi
  refine ⟨_, vs, j, m, rfl, rfl, q3, by rw [q4.length]; exact hm, ?_⟩
  have kdp := Kd.put (kd_setC ho (.lst (ds.set m d))) (own_lt ho)
  refine k α σ _ F2 _ q (st2.write ho ⟨_, upd_same, q4.set (r1.mono s2.ff) m⟩) (.of ?_ (h.kd.trans kdp))
  exact (s1.trans (s2.mono fun _ z => h.kd.ownA z)).trans ((step_write st2 ho).mono fun _ z => h.kd.ownA z)
/-- own[k] = e, a dict, k new -/
theorem repK_valV {K : PySem.W.Frag} {F : Hp} {kvs : List (Key × V)} {ks : List (Str × ND.D)} {k : Str} (r : RepK K F kvs ks) (h : dlook ks k = none) : valV kvs (.inr k) = none := (valV_look r).2 h
theorem s_setDk {N : DE} {k0 : Str} {spos tpos : Pos} {ks : List (Str × ND.D)} (hu : X.A.units + 1 < cLine) (hN : X.N[i]? = some x) (hv : Vis X.env.scope x) (h : EvD X δ e d δ1) (hb : EvD X δ1 b (.str k0) δ1) (hi : look δ1 i = .own (.dct ks) ∨ look δ1 i = .par (.dct ks)) (hk : dlook ks k0 = none) (hl : ks.length < sizeLine)
    (q : N.nx (put δ1 i (setC (look δ1 i) (.dct (ks ++ [(k0, d)])))))
    (hs : swapsWith e (some (.Subscript (.Name x p2) b tpos)) spos.line X.env = pure false := by rfl)
    (hd : (x == ("__debug__" : Str)) = false := by decide) (hcd : (x == ("__classdict__" : Str)) = false := by decide) : SvD X δ (.Assign [.Subscript (.Name x p2) b tpos] e spos) N := by
  have ho := isOwn_of hi
  refine ⟨fun α σ H F D s k r => .of (ps_dput hu (pe_var hN hv hd hcd) pe_tw pe_tw hs) ?_⟩
  refine h.run α σ H F _ s fun v F1 H1 s1 st1 r1 => ?_
  obtain ⟨q1, _⟩ := dct_rep st1 hi
  refine ⟨_, q1, hb.run α σ H1 F1 _ st1 fun u F2 H2 s2 st2 r2 => ?_⟩
  cases r2
  obtain ⟨_, vs, q3, q4, q5⟩ := dct_rep st2 hi
  have kdp := Kd.put (kd_setC ho (.dct (ks ++ [(k0, d)]))) (own_lt ho)
  refine ⟨_, _, rfl, DPut.k (k := .inr k0) q3 (by rw [q4.length]; exact hl), ?_⟩
  refine k α σ _ F2 _ q (st2.write ho ⟨_, upd_same, ?_⟩) (.of ?_ (h.kd.trans kdp))
  · rw [putK_new _ (repK_valV q4 hk)]
    exact repK_app q4 (.cons (r1.mono s2.ff) .nil)
  · exact (s1.trans (s2.mono fun _ z => h.kd.ownA z)).trans ((step_write st2 ho).mono fun _ z => h.kd.ownA z)
end
end ND

/-! NDm -/
set_option Elab.async false
set_option linter.all false
set_option maxRecDepth 100000
set_option maxHeartbeats 4000000
namespace ND
open PySem PySem.Spec PyProof.Rows L2
/-! ### names and encodings -/
abbrev Nm := Fin 13
def nmT : List Str := ["a", "b", "c", "d", "e", "f", "pa", "pb", "pc", "pd", "pe", "t", "zz"]
def nm (x : Nm) : Str := nmT.getD x.val "zz"
theorem nm_inj : ∀ x y, nm x = nm y → x = y := by decide +kernel
theorem nm_dec (x y : Nm) : decide (nm x = nm y) = decide (x = y) := by
  by_cases h : x = y
  · subst h; simp
  · have : ¬ nm x = nm y := fun e => h (nm_inj _ _ e)
    simp [h, this]
abbrev eN (x : Nm) : D := .str (nm x)
abbrev eI (x : Int) : D := .int x
abbrev eB (x : Bool) : D := .bl x
def eO {A : Type} (f : A → D) : Option A → D
  | none => .non
  | some x => f x
abbrev eP {A B : Type} (f : A → D) (g : B → D) (x : A × B) : D := .tup [f x.1, g x.2]
/-- a pair that is only taken apart -/
abbrev eS {A B : Type} (f : A → D) (g : B → D) (x : A × B) : D := .sft [f x.1, g x.2]
abbrev eT {A : Type} (f : A → D) (l : List A) : D := .tup (l.map f)
abbrev eL {A : Type} (f : A → D) (l : List A) : D := .lst (l.map f)
abbrev eM {A : Type} (f : A → D) (l : List (Nm × A)) : D := .dct (l.map fun p => (nm p.1, f p.2))
abbrev ON := Option Nm
abbrev Job := List Nm × List (Nm × ON)
abbrev Sz := List (Nm × Int) × List (Nm × Int)
abbrev eJob : Job → D := eP (eT eN) (eT (eP eN (eO eN)))
abbrev eSz : Sz → D := eP (eT (eP eN eI)) (eT (eP eN eI))
abbrev eMv : Nm × ON → D := eP eN (eO eN)

theorem toPy_mono : ∀ (n : Nat) (d : D), pyOk n d = true → toPy (n + 1) d = toPy n d ∧ pyOk (n + 1) d = true := by
  intro n
  induction n with
  | zero => intro d h; cases d <;> first | exact ⟨rfl, rfl⟩ | cases h
  | succ n ih =>
    intro d h
    cases d with
    | tup ds =>
      have h' : ds.all (pyOk n) = true := h
      rw [List.all_eq_true] at h'
      refine ⟨?_, ?_⟩
      · show PyData.tuple (ds.map (toPy (n + 1))) = PyData.tuple (ds.map (toPy n))
        rw [List.map_congr_left fun d hd => (ih d (h' d hd)).1]
      · show ds.all (pyOk (n + 1)) = true
        rw [List.all_eq_true]; exact fun d hd => (ih d (h' d hd)).2
    | lst ds =>
      have h' : ds.all (pyOk n) = true := h
      rw [List.all_eq_true] at h'
      refine ⟨?_, ?_⟩
      · show PyData.list (ds.map (toPy (n + 1))) = PyData.list (ds.map (toPy n))
        rw [List.map_congr_left fun d hd => (ih d (h' d hd)).1]
      · show ds.all (pyOk (n + 1)) = true
        rw [List.all_eq_true]; exact fun d hd => (ih d (h' d hd)).2
    | non => exact ⟨rfl, rfl⟩
    | bl b => exact ⟨rfl, rfl⟩
    | int b => exact ⟨rfl, rfl⟩
    | str b => exact ⟨rfl, rfl⟩
    | dct b => cases h
    | rol b => cases h
    | ty b => cases h
    | sft b => cases h
/-- an encoding of plain data, nested n deep, that == tells apart -/
class Gd {A : Type} [DecidableEq A] (n : Nat) (f : A → D) : Prop where
  ok : ∀ x, pyOk n (f x) = true
  dq : ∀ x y, PyData.eqv (toPy n (f x)) (toPy n (f y)) = decide (x = y)
/-- .. never None -/
class Nn {A : Type} (f : A → D) : Prop where
  nn : ∀ x, isNon (f x) = false
instance {n : Nat} : Gd n eN := ⟨fun x => by cases n <;> rfl, fun x y => by
  have e : ∀ x, toPy n (eN x) = .str (nm x) := fun x => by cases n <;> rfl
  rw [e, e, ← nm_dec]; simp only [PyData.eqv]; rw [Bool.eq_iff_iff]; simp⟩
instance {n : Nat} : Gd n eI := ⟨fun x => by cases n <;> rfl, fun x y => by
  have e : ∀ x, toPy n (eI x) = .int x := fun x => by cases n <;> rfl
  rw [e, e]; simp only [PyData.eqv]; rw [Bool.eq_iff_iff]; simp⟩
instance {n : Nat} : Gd n eB := ⟨fun x => by cases n <;> rfl, fun x y => by
  have e : ∀ x, toPy n (eB x) = .bool x := fun x => by cases n <;> rfl
  rw [e, e]; cases x <;> cases y <;> simp [PyData.eqv]⟩
instance {A : Type} {f : A → D} [Nn f] : Nn (fun x : A => eO f (some x)) := ⟨fun x => Nn.nn (f := f) x⟩
instance : Nn eN := ⟨fun _ => rfl⟩
instance : Nn eI := ⟨fun _ => rfl⟩
instance : Nn eB := ⟨fun _ => rfl⟩
instance {A B : Type} {f : A → D} {g : B → D} : Nn (eP f g) := ⟨fun _ => rfl⟩
instance {A : Type} {f : A → D} : Nn (eT f) := ⟨fun _ => rfl⟩
instance {A : Type} {f : A → D} : Nn (eL f) := ⟨fun _ => rfl⟩
theorem eqv_non {n : Nat} {d : D} (h : pyOk n d = true) (q : isNon d = false) : PyData.eqv .none (toPy n d) = false ∧ PyData.eqv (toPy n d) .none = false := by
  cases n <;> cases d <;> first | (constructor <;> (simp only [toPy, PyData.eqv]; done)) | (simp [isNon] at q; done) | (simp [pyOk] at h; done)
instance {A : Type} [DecidableEq A] {n : Nat} {f : A → D} [Gd n f] [Nn f] : Gd n (eO f) := ⟨fun x => by
  cases x with
  | none => cases n <;> rfl
  | some x => exact Gd.ok x, fun x y => by
  have e0 : toPy n .non = .none := by cases n <;> rfl
  cases x with
  | none => cases y with
    | none => show PyData.eqv (toPy n .non) (toPy n .non) = _; rw [e0]; simp [PyData.eqv]
    | some y => show PyData.eqv (toPy n .non) (toPy n (f y)) = _; rw [e0, (eqv_non (Gd.ok y) (Nn.nn y)).1]; simp
  | some x => cases y with
    | none => show PyData.eqv (toPy n (f x)) (toPy n .non) = _; rw [e0, (eqv_non (Gd.ok x) (Nn.nn x)).2]; simp
    | some y => show PyData.eqv (toPy n (f x)) (toPy n (f y)) = _; rw [Gd.dq]; simp⟩
instance {A B : Type} [DecidableEq A] [DecidableEq B] {n : Nat} {f : A → D} {g : B → D} [Gd n f] [Gd n g] : Gd (n + 1) (eP f g) := ⟨fun x => by
  show ([f x.1, g x.2]).all (pyOk n) = true
  simp [Gd.ok], fun x y => by
  show PyData.eqv (.tuple [toPy n (f x.1), toPy n (g x.2)]) (.tuple [toPy n (f y.1), toPy n (g y.2)]) = _
  simp only [PyData.eqv, PyData.eqvAll, Gd.dq, Bool.and_true]
  rw [Bool.eq_iff_iff]; simp [Prod.ext_iff]⟩
theorem eqvAll_map {A : Type} [DecidableEq A] {n : Nat} {f : A → D} [Gd n f] : ∀ l r : List A, PyData.eqvAll ((l.map f).map (toPy n)) ((r.map f).map (toPy n)) = decide (l = r)
  | [], [] => by simp [PyData.eqvAll]
  | [], _ :: _ => by simp [PyData.eqvAll]
  | _ :: _, [] => by simp [PyData.eqvAll]
  | x :: l, y :: r => by
    simp only [List.map_cons, PyData.eqvAll, Gd.dq]
    rw [eqvAll_map l r, Bool.eq_iff_iff]; simp
instance {A : Type} [DecidableEq A] {n : Nat} {f : A → D} [Gd n f] : Gd (n + 1) (eT f) := ⟨fun x => by
  show (x.map f).all (pyOk n) = true
  simp [Gd.ok], fun x y => by
  show PyData.eqv (.tuple _) (.tuple _) = _
  simp only [PyData.eqv]; exact eqvAll_map x y⟩
instance {A : Type} [DecidableEq A] {n : Nat} {f : A → D} [Gd n f] : Gd (n + 1) (eL f) := ⟨fun x => by
  show (x.map f).all (pyOk n) = true
  simp [Gd.ok], fun x y => by
  show PyData.eqv (.list _) (.list _) = _
  simp only [PyData.eqv]; exact eqvAll_map x y⟩
theorem dmem_map {A : Type} [DecidableEq A] {f : A → D} [Gd 5 f] (x : A) : ∀ l : List A, dmem (f x) (l.map f) = l.contains x
  | [] => rfl
  | y :: l => by
    show (PyData.eqv (toPy 5 (f y)) (toPy 5 (f x)) || dmem (f x) (l.map f)) = _
    rw [dmem_map x l, Gd.dq, List.contains_cons]
    congr 1
    rw [Bool.eq_iff_iff, decide_eq_true_iff, beq_iff_eq]
    exact eq_comm
theorem all_map {A : Type} [DecidableEq A] {n : Nat} {f : A → D} [Gd n f] (l : List A) : (l.map f).all (pyOk n) = true := by simp [Gd.ok]
theorem deq_map {A : Type} [DecidableEq A] {f : A → D} [Gd 6 f] (x y : A) : deq (f x) (f y) = decide (x = y) := Gd.dq x y
theorem isNon_eO {A : Type} {f : A → D} [Nn f] (x : Option A) : isNon (eO f x) = x.isNone := by
  cases x with
  | none => rfl
  | some x => exact Nn.nn (f := f) x
theorem mapO (l : List Nm) : l.map eN = (l.map some).map (eO eN) := by rw [List.map_map]; rfl
/-! ### dicts -/
def lk {A : Type} (d : List (Nm × A)) (k : Nm) : Option A := (d.find? fun p => decide (p.1 = k)).map (·.2)
def hasK {A : Type} (d : List (Nm × A)) (k : Nm) : Bool := (lk d k).isSome
def hasO {A : Type} (d : List (Nm × A)) (k : ON) : Bool := match k with | none => false | some k => hasK d k
theorem dlook_map {A : Type} {f : A → D} (k : Nm) : ∀ d : List (Nm × A), dlook (d.map fun p => (nm p.1, f p.2)) (nm k) = (lk d k).map f
  | [] => rfl
  | p :: d => by
    have ih := dlook_map (f := f) k d
    unfold dlook lk at ih ⊢
    simp only [List.map_cons, List.find?_cons, nm_dec]
    cases h : decide (p.1 = k) with
    | true => rfl
    | false => exact ih
theorem dhas_map {A : Type} {f : A → D} (k : Nm) (d : List (Nm × A)) : dhas (d.map fun p => (nm p.1, f p.2)) (eN k) = hasK d k := by
  show (dlook (d.map fun p => (nm p.1, f p.2)) (nm k)).isSome = (lk d k).isSome
  rw [dlook_map]
  cases lk d k <;> rfl
theorem dhas_mapO {A : Type} {f : A → D} (k : ON) (d : List (Nm × A)) : dhas (d.map fun p => (nm p.1, f p.2)) (eO eN k) = hasO d k := by
  cases k with
  | none => rfl
  | some k => exact dhas_map k d
theorem keyD_eO (k : ON) : keyD (eO eN k) = true := by cases k <;> rfl
def lkO {A : Type} (d : List (Nm × A)) (k : ON) : Option A := match k with | none => none | some k => lk d k
/-! ### places -/
def at' {A : Type} (l : List A) (i : Int) : Option A := match ixN l.length i with | some j => l[j]? | none => none
theorem atI_map {A : Type} {f : A → D} {l : List A} {i : Int} {y : A} (h : at' l i = some y) : atI (l.map f) i = some (f y) := by
  unfold at' at h
  unfold atI
  rw [List.length_map]
  cases q : ixN l.length i with
  | none => rw [q] at h; cases h
  | some j => rw [q] at h; simp at h ⊢; exact ⟨y, h, rfl⟩
theorem bnd {A B : Type} {m : Option A} {k : A → Option B} {r : B} (h : m.bind k = some r) : ∃ x, m = some x ∧ k x = some r := by
  cases m with
  | none => cases h
  | some x => exact ⟨x, rfl, h⟩
def chk (b : Bool) : Option Unit := if b then some () else none
theorem chk_of {b : Bool} {u : Unit} (h : chk b = some u) : b = true := by cases b <;> first | rfl | cases h
end ND

/-! NDn -/
set_option Elab.async false
set_option linter.all false
set_option maxRecDepth 100000
set_option maxHeartbeats 4000000
namespace ND
open PySem PySem.Spec PyProof.Rows L2
/-- no name of the module hides these built-ins -/
structure Fre (mg : Str → Option Value) : Prop where
  len : mg "len" = none
  int : mg "int" = none
  bool : mg "bool" = none
  str : mg "str" = none
  isi : mg "isinstance" = none
  tuple : mg "tuple" = none
  list : mg "list" = none
  dict : mg "dict" = none
  set : mg "set" = none
  sorted : mg "sorted" = none
  min : mg "min" = none
  max : mg "max" = none
  all : mg "all" = none
  enum : mg "enumerate" = none
  range : mg "range" = none
  abs : mg "abs" = none
  zip : mg "zip" = none
  lt : ∃ t, mg "LETTERS" = some (.str "abcdefghijklmnopqrstuvwxyz" t)
  pm : ∃ t, mg "PAIR_moves" = some (.int 2 t)
  ps : ∃ t, mg "PAIR_sizes" = some (.int 2 t)
structure Cg (X : Cx) : Prop where
  calm : X.calm = true
  nd : X.N.Nodup
  hu : X.A.units + 64 < cLine
  fr : Fre X.mg
theorem Cg.hu1 {X : Cx} (G : Cg X) : X.A.units + 1 < cLine := Nat.lt_of_le_of_lt (Nat.add_le_add_left (by decide : 1 ≤ 64) _) G.hu
theorem Cg.blk {X : Cx} (G : Cg X) {scope : Scope} {z : Shared} {H : Hp} {C : Addr} {cl : List (Str × Addr)} {fp : List Addr} : Cg (Blk X scope z H C cl fp) := ⟨G.calm, G.nd, G.hu, G.fr⟩
theorem Cal.blk {X : Cx} {x : Str} {T : FT} (c : Cal X x T) {scope : Scope} {z : Shared} {H : Hp} {C : Addr} {cl : List (Str × Addr)} {fp : List Addr} : Cal (Blk X scope z H C cl fp) x T := ⟨c.ex⟩
section
variable {X : Cx} {δ δ1 δ2 : DEnv} {e a b c : Expr} {es : List Expr} {pos p2 : Pos} {d : D} {x : Str} {A B : Type} {f : A → D} {g : B → D}
theorem v_var (i : Nat) (h : look δ i = .dat d := by rfl) (hN : X.N[i]? = some x := by rfl) (hv : Vis X.env.scope x := by first | exact .inl rfl | exact .inr (.inl rfl) | exact .inr (.inr rfl)) (hd : (x == ("__debug__" : Str)) = false := by decide) (hcd : (x == ("__classdict__" : Str)) = false := by decide) : EvD X δ (.Name x pos) d δ := e_var hN hv h hd hcd
theorem v_nm {j} (y : Nm) (h : (x == nm y) = true := by decide) : EvD X δ (.Constant (.str x) j pos) (eN y) δ := by
  have : x = nm y := by simpa using h
  subst this; exact e_str
theorem v_glo {z : Int} (hm : ∃ t, X.mg x = some (.int z t)) (hg : Gl X x := by rfl) (hd : (x == ("__debug__" : Str)) = false := by decide) : EvD X δ (.Name x pos) (.int z) δ := let ⟨_, h⟩ := hm; e_globI hg h hd
/-! subscripts -/
theorem v_fst {y : A × B} {j} (ha : EvD X δ a (eP f g y) δ1) : EvD X δ (.Subscript a (.Constant (.int 0) j p2) pos) (f y.1) δ1 := e_ixT ha e_int rfl
theorem v_snd {y : A × B} {j} (ha : EvD X δ a (eP f g y) δ1) : EvD X δ (.Subscript a (.Constant (.int 1) j p2) pos) (g y.2) δ1 := e_ixT ha e_int rfl
theorem v_atT {l : List A} {i : Int} {y : A} (h : at' l i = some y) (ha : EvD X δ a (eT f l) δ1) (hb : EvD X δ1 b (.int i) δ2) (hs : PlainIx b := by exact fun _ _ => rfl) : EvD X δ (.Subscript a b pos) (f y) δ2 := e_ixT ha hb (atI_map h) hs
theorem v_atL {l : List A} {i : Int} {y : A} (h : at' l i = some y) (ha : EvD X δ a (eL f l) δ1) (hb : EvD X δ1 b (.int i) δ2) (hs : PlainIx b := by exact fun _ _ => rfl) : EvD X δ (.Subscript a b pos) (f y) δ2 := e_ixL ha hb (atI_map h) hs
theorem v_atO {l : List A} {i : Int} {y : A} (j : Nat) (h : at' l i = some y) (hi : look δ j = .own (eL f l) ∨ look δ j = .par (eL f l)) (hb : EvD X δ b (.int i) δ) (hs : PlainIx b := by exact fun _ _ => rfl) (hN : X.N[j]? = some x := by rfl) (hv : Vis X.env.scope x := by first | exact .inl rfl | exact .inr (.inl rfl) | exact .inr (.inr rfl))
    (hd : (x == ("__debug__" : Str)) = false := by decide) (hcd : (x == ("__classdict__" : Str)) = false := by decide) : EvD X δ (.Subscript (.Name x p2) b pos) (f y) δ := e_ixO hN hv hi hb (atI_map h) hs hd hcd
theorem v_lk {l : List (Nm × A)} {k : Nm} {y : A} (G : Cg X) (h : lk l k = some y) (ha : EvD X δ a (eM f l) δ1) (hb : EvD X δ1 b (eN k) δ2) (hs : NoSl b := by exact fun _ _ => rfl) : EvD X δ (.Subscript a b pos) (f y) δ2 := e_dget G.hu1 ha hb (by rw [dlook_map, h]; rfl) hs
theorem v_lkO {l : List (Nm × A)} {k : ON} {y : A} (G : Cg X) (h : lkO l k = some y) (ha : EvD X δ a (eM f l) δ1) (hb : EvD X δ1 b (eO eN k) δ2) (hs : NoSl b := by exact fun _ _ => rfl) : EvD X δ (.Subscript a b pos) (f y) δ2 := by
  cases k with
  | none => cases h
  | some k => exact v_lk G h ha hb hs
/-! len -/
theorem v_lenT {l : List A} (G : Cg X) (ha : EvD X δ e (eT f l) δ1) (hg : Gl X "len" := by rfl) (hs : starEach [e] X.env = (false, eval e X.env) :: starEach [] X.env := by rfl) : EvD X δ (.Call (.Name "len" p2) [e] [] pos) (.int (l.length : Nat)) δ1 := (e_lenT hg G.fr.len ha hs).cast (by rw [List.length_map])
theorem v_lenL {l : List A} (G : Cg X) (ha : EvD X δ e (eL f l) δ1) (hg : Gl X "len" := by rfl) (hs : starEach [e] X.env = (false, eval e X.env) :: starEach [] X.env := by rfl) : EvD X δ (.Call (.Name "len" p2) [e] [] pos) (.int (l.length : Nat)) δ1 := (e_lenL hg G.fr.len ha hs).cast (by rw [List.length_map])
theorem v_lenO {l : List A} (G : Cg X) (j : Nat) (hi : look δ j = .own (eL f l) ∨ look δ j = .par (eL f l)) (hN : X.N[j]? = some x := by rfl) (hv : Vis X.env.scope x := by first | exact .inl rfl | exact .inr (.inl rfl) | exact .inr (.inr rfl)) (hg : Gl X "len" := by rfl) (hs : starEach [.Name x pos] X.env = (false, eval (.Name x pos) X.env) :: starEach [] X.env := by rfl)
    (hd : (x == ("__debug__" : Str)) = false := by decide) (hcd : (x == ("__classdict__" : Str)) = false := by decide) {p3 : Pos} : EvD X δ (.Call (.Name "len" p3) [.Name x pos] [] p2) (.int (l.length : Nat)) δ := (e_lenO hg G.fr.len hN hv hi hs hd hcd).cast (by rw [List.length_map])
/-! tuple(..), list(..) -/
theorem v_tupL {l : List A} (G : Cg X) (ha : EvD X δ e (eL f l) δ1) (hg : Gl X "tuple" := by rfl) (hs : starEach [e] X.env = (false, eval e X.env) :: starEach [] X.env := by rfl) : EvD X δ (.Call (.Name "tuple" p2) [e] [] pos) (eT f l) δ1 := e_tupleL hg G.fr.tuple ha hs
theorem v_tupO {l : List A} (G : Cg X) (j : Nat) (hi : look δ j = .own (eL f l) ∨ look δ j = .par (eL f l)) (hN : X.N[j]? = some x := by rfl) (hv : Vis X.env.scope x := by first | exact .inl rfl | exact .inr (.inl rfl) | exact .inr (.inr rfl)) (hg : Gl X "tuple" := by rfl) (hs : starEach [.Name x pos] X.env = (false, eval (.Name x pos) X.env) :: starEach [] X.env := by rfl)
    (hd : (x == ("__debug__" : Str)) = false := by decide) (hcd : (x == ("__classdict__" : Str)) = false := by decide) {p3 : Pos} : EvD X δ (.Call (.Name "tuple" p3) [.Name x pos] [] p2) (eT f l) δ := e_tupleO hg G.fr.tuple hN hv hi hs hd hcd
theorem n_lisT {l : List A} (G : Cg X) (ha : EvD X δ e (eT f l) δ1) (hg : Gl X "list" := by rfl) (hs : starEach [e] X.env = (false, eval e X.env) :: starEach [] X.env := by rfl) : NvD X δ (.Call (.Name "list" p2) [e] [] pos) (l.map f) δ1 := n_listT hg G.fr.list ha hs
theorem n_lisL {l : List A} (G : Cg X) (ha : EvD X δ e (eL f l) δ1) (hg : Gl X "list" := by rfl) (hs : starEach [e] X.env = (false, eval e X.env) :: starEach [] X.env := by rfl) : NvD X δ (.Call (.Name "list" p2) [e] [] pos) (l.map f) δ1 := n_listL hg G.fr.list ha hs
theorem n_lisO {l : List A} (G : Cg X) (j : Nat) (hi : look δ j = .own (eL f l) ∨ look δ j = .par (eL f l)) (hN : X.N[j]? = some x := by rfl) (hv : Vis X.env.scope x := by first | exact .inl rfl | exact .inr (.inl rfl) | exact .inr (.inr rfl)) (hg : Gl X "list" := by rfl) (hs : starEach [.Name x pos] X.env = (false, eval (.Name x pos) X.env) :: starEach [] X.env := by rfl)
    (hd : (x == ("__debug__" : Str)) = false := by decide) (hcd : (x == ("__classdict__" : Str)) = false := by decide) {p3 : Pos} : NvD X δ (.Call (.Name "list" p3) [.Name x pos] [] p2) (l.map f) δ := n_listO hg G.fr.list hN hv hi hs hd hcd
/-! comparisons -/
def cont {A : Type} [DecidableEq A] (l : List A) (y : A) : Bool := @List.contains A instBEqOfDecidableEq l y
section
variable [DecidableEq A] {y z : A}
theorem v_eq [Gd 6 f] (G : Cg X) (ha : EvD X δ a (f y) δ1) (hb : EvD X δ1 b (f z) δ2) : EvD X δ (.Compare a [.Eq] [b] pos) (.bl (decide (y = z))) δ2 := (e_eq G.hu ha hb (Gd.ok y) (Gd.ok z)).cast (by rw [deq_map])
theorem v_ne [Gd 6 f] (G : Cg X) (ha : EvD X δ a (f y) δ1) (hb : EvD X δ1 b (f z) δ2) : EvD X δ (.Compare a [.NotEq] [b] pos) (.bl (!decide (y = z))) δ2 := (e_ne G.hu ha hb (Gd.ok y) (Gd.ok z)).cast (by rw [deq_map])
theorem vt_eq [Gd 6 f] (G : Cg X) (ha : EvD X δ a (f y) δ1) (hb : EvD X δ1 b (f z) δ2) : TvD X δ (.Compare a [.Eq] [b] pos) (decide (y = z)) δ2 := (t_eq G.hu ha hb (Gd.ok y) (Gd.ok z)).cast (by rw [deq_map])
theorem vt_ne [Gd 6 f] (G : Cg X) (ha : EvD X δ a (f y) δ1) (hb : EvD X δ1 b (f z) δ2) : TvD X δ (.Compare a [.NotEq] [b] pos) (!decide (y = z)) δ2 := (t_ne G.hu ha hb (Gd.ok y) (Gd.ok z)).cast (by rw [deq_map])
variable {l : List A}
theorem v_inL [Gd 5 f] (G : Cg X) (ha : EvD X δ a (f y) δ1) (hb : EvD X δ1 b (eL f l) δ2) (hm : behindInMarks .In b = false := by with_unfolding_all rfl) : EvD X δ (.Compare a [.In] [b] pos) (.bl (cont l y)) δ2 := (e_inL G.hu ha hb hm (Gd.ok y) (all_map l)).cast (by rw [dmem_map]; rfl)
theorem v_inT [Gd 5 f] (G : Cg X) (ha : EvD X δ a (f y) δ1) (hb : EvD X δ1 b (eT f l) δ2) (hm : behindInMarks .In b = false := by with_unfolding_all rfl) : EvD X δ (.Compare a [.In] [b] pos) (.bl (cont l y)) δ2 := (e_inT G.hu ha hb hm (Gd.ok y) (all_map l)).cast (by rw [dmem_map]; rfl)
theorem v_ninL [Gd 5 f] (G : Cg X) (ha : EvD X δ a (f y) δ1) (hb : EvD X δ1 b (eL f l) δ2) (hm : behindInMarks .NotIn b = false := by with_unfolding_all rfl) : EvD X δ (.Compare a [.NotIn] [b] pos) (.bl (!cont l y)) δ2 := (e_ninL G.hu ha hb hm (Gd.ok y) (all_map l)).cast (by rw [dmem_map]; rfl)
theorem v_ninT [Gd 5 f] (G : Cg X) (ha : EvD X δ a (f y) δ1) (hb : EvD X δ1 b (eT f l) δ2) (hm : behindInMarks .NotIn b = false := by with_unfolding_all rfl) : EvD X δ (.Compare a [.NotIn] [b] pos) (.bl (!cont l y)) δ2 := (e_ninT G.hu ha hb hm (Gd.ok y) (all_map l)).cast (by rw [dmem_map]; rfl)
theorem vt_inL [Gd 5 f] (G : Cg X) (ha : EvD X δ a (f y) δ1) (hb : EvD X δ1 b (eL f l) δ2) (hm : behindInMarks .In b = false := by with_unfolding_all rfl) : TvD X δ (.Compare a [.In] [b] pos) (cont l y) δ2 := (t_inL G.hu ha hb hm (Gd.ok y) (all_map l)).cast (by rw [dmem_map]; rfl)
theorem vt_inT [Gd 5 f] (G : Cg X) (ha : EvD X δ a (f y) δ1) (hb : EvD X δ1 b (eT f l) δ2) (hm : behindInMarks .In b = false := by with_unfolding_all rfl) : TvD X δ (.Compare a [.In] [b] pos) (cont l y) δ2 := (t_inT G.hu ha hb hm (Gd.ok y) (all_map l)).cast (by rw [dmem_map]; rfl)
theorem vt_ninL [Gd 5 f] (G : Cg X) (ha : EvD X δ a (f y) δ1) (hb : EvD X δ1 b (eL f l) δ2) (hm : behindInMarks .NotIn b = false := by with_unfolding_all rfl) : TvD X δ (.Compare a [.NotIn] [b] pos) (!cont l y) δ2 := (t_ninL G.hu ha hb hm (Gd.ok y) (all_map l)).cast (by rw [dmem_map]; rfl)
theorem vt_ninT [Gd 5 f] (G : Cg X) (ha : EvD X δ a (f y) δ1) (hb : EvD X δ1 b (eT f l) δ2) (hm : behindInMarks .NotIn b = false := by with_unfolding_all rfl) : TvD X δ (.Compare a [.NotIn] [b] pos) (!cont l y) δ2 := (t_ninT G.hu ha hb hm (Gd.ok y) (all_map l)).cast (by rw [dmem_map]; rfl)
/-- an own list on the right (a test) -/
theorem vt_inO [Gd 5 f] (G : Cg X) (j : Nat) (ha : EvD X δ a (f y) δ) (hi : look δ j = .own (eL f l) ∨ look δ j = .par (eL f l)) (hN : X.N[j]? = some x := by rfl) (hv : Vis X.env.scope x := by first | exact .inl rfl | exact .inr (.inl rfl) | exact .inr (.inr rfl)) (hm : behindInMarks .In (.Name x p2) = false := by with_unfolding_all rfl)
    (hd : (x == ("__debug__" : Str)) = false := by decide) (hcd : (x == ("__classdict__" : Str)) = false := by decide) : TvD X δ (.Compare a [.In] [.Name x p2] pos) (cont l y) δ := (t_inO G.hu hN hv ha hi hm (Gd.ok y) (all_map l) hd hcd).cast (by rw [dmem_map]; rfl)
theorem vt_ninO [Gd 5 f] (G : Cg X) (j : Nat) (ha : EvD X δ a (f y) δ) (hi : look δ j = .own (eL f l) ∨ look δ j = .par (eL f l)) (hN : X.N[j]? = some x := by rfl) (hv : Vis X.env.scope x := by first | exact .inl rfl | exact .inr (.inl rfl) | exact .inr (.inr rfl)) (hm : behindInMarks .NotIn (.Name x p2) = false := by with_unfolding_all rfl)
    (hd : (x == ("__debug__" : Str)) = false := by decide) (hcd : (x == ("__classdict__" : Str)) = false := by decide) : TvD X δ (.Compare a [.NotIn] [.Name x p2] pos) (!cont l y) δ := (t_ninO G.hu hN hv ha hi hm (Gd.ok y) (all_map l) hd hcd).cast (by rw [dmem_map]; rfl)
end
/-- a tuple of names as one of such -/
theorem v_TO {l : List Nm} (h : EvD X δ e (eT eN l) δ1) : EvD X δ e (eT (eO eN) (l.map some)) δ1 := h.cast (by show D.tup _ = D.tup _; rw [mapO])
theorem v_LO {l : List Nm} (h : EvD X δ e (eL eN l) δ1) : EvD X δ e (eL (eO eN) (l.map some)) δ1 := h.cast (by show D.lst _ = D.lst _; rw [mapO])
theorem lO {δ : DEnv} {j : Nat} {l : List Nm} (hi : look δ j = .own (eL eN l) ∨ look δ j = .par (eL eN l)) : look δ j = .own (eL (eO eN) (l.map some)) ∨ look δ j = .par (eL (eO eN) (l.map some)) := by
  have e : eL eN l = eL (eO eN) (l.map some) := by show D.lst _ = D.lst _; rw [mapO]
  rw [← e]; exact hi
/-! dicts -/
theorem v_din {l : List (Nm × A)} {k : Nm} (G : Cg X) (ha : EvD X δ a (eN k) δ1) (hb : EvD X δ1 b (eM f l) δ2) (hm : behindInMarks .In b = false := by with_unfolding_all rfl) : EvD X δ (.Compare a [.In] [b] pos) (.bl (hasK l k)) δ2 := (e_din G.hu1 ha hb rfl hm).cast (by rw [dhas_map])
theorem vt_din {l : List (Nm × A)} {k : Nm} (G : Cg X) (ha : EvD X δ a (eN k) δ1) (hb : EvD X δ1 b (eM f l) δ2) (hm : behindInMarks .In b = false := by with_unfolding_all rfl) : TvD X δ (.Compare a [.In] [b] pos) (hasK l k) δ2 := (t_din G.hu1 ha hb rfl hm).cast (by rw [dhas_map])
theorem v_dnin {l : List (Nm × A)} {k : Nm} (G : Cg X) (ha : EvD X δ a (eN k) δ1) (hb : EvD X δ1 b (eM f l) δ2) (hm : behindInMarks .NotIn b = false := by with_unfolding_all rfl) : EvD X δ (.Compare a [.NotIn] [b] pos) (.bl (!hasK l k)) δ2 := (e_dnin G.hu1 ha hb rfl hm).cast (by rw [dhas_map])
theorem vt_dnin {l : List (Nm × A)} {k : Nm} (G : Cg X) (ha : EvD X δ a (eN k) δ1) (hb : EvD X δ1 b (eM f l) δ2) (hm : behindInMarks .NotIn b = false := by with_unfolding_all rfl) : TvD X δ (.Compare a [.NotIn] [b] pos) (!hasK l k) δ2 := (t_dnin G.hu1 ha hb rfl hm).cast (by rw [dhas_map])
theorem v_dinO {l : List (Nm × A)} {k : ON} (G : Cg X) (ha : EvD X δ a (eO eN k) δ1) (hb : EvD X δ1 b (eM f l) δ2) (hm : behindInMarks .In b = false := by with_unfolding_all rfl) : EvD X δ (.Compare a [.In] [b] pos) (.bl (hasO l k)) δ2 := (e_din G.hu1 ha hb (keyD_eO k) hm).cast (by rw [dhas_mapO])
theorem vt_dinO {l : List (Nm × A)} {k : ON} (G : Cg X) (ha : EvD X δ a (eO eN k) δ1) (hb : EvD X δ1 b (eM f l) δ2) (hm : behindInMarks .In b = false := by with_unfolding_all rfl) : TvD X δ (.Compare a [.In] [b] pos) (hasO l k) δ2 := (t_din G.hu1 ha hb (keyD_eO k) hm).cast (by rw [dhas_mapO])
theorem v_dninO {l : List (Nm × A)} {k : ON} (G : Cg X) (ha : EvD X δ a (eO eN k) δ1) (hb : EvD X δ1 b (eM f l) δ2) (hm : behindInMarks .NotIn b = false := by with_unfolding_all rfl) : EvD X δ (.Compare a [.NotIn] [b] pos) (.bl (!hasO l k)) δ2 := (e_dnin G.hu1 ha hb (keyD_eO k) hm).cast (by rw [dhas_mapO])
theorem vt_dninO {l : List (Nm × A)} {k : ON} (G : Cg X) (ha : EvD X δ a (eO eN k) δ1) (hb : EvD X δ1 b (eM f l) δ2) (hm : behindInMarks .NotIn b = false := by with_unfolding_all rfl) : TvD X δ (.Compare a [.NotIn] [b] pos) (!hasO l k) δ2 := (t_dnin G.hu1 ha hb (keyD_eO k) hm).cast (by rw [dhas_mapO])
/-! is None -/
theorem v_isN [Nn f] {y : Option A} {j pos'} (ha : EvD X δ a (eO f y) δ1) : EvD X δ (.Compare a [.Is] [.Constant .none j pos'] pos) (.bl y.isNone) δ1 := (e_isN ha).cast (by rw [isNon_eO])
theorem v_notN [Nn f] {y : Option A} {j pos'} (ha : EvD X δ a (eO f y) δ1) : EvD X δ (.Compare a [.IsNot] [.Constant .none j pos'] pos) (.bl (!y.isNone)) δ1 := (e_notN ha).cast (by rw [isNon_eO])
theorem vt_isN [Nn f] {y : Option A} {j pos'} (ha : EvD X δ a (eO f y) δ1) : TvD X δ (.Compare a [.Is] [.Constant .none j pos'] pos) y.isNone δ1 := (t_isN ha).cast (by rw [isNon_eO])
theorem vt_notN [Nn f] {y : Option A} {j pos'} (ha : EvD X δ a (eO f y) δ1) : TvD X δ (.Compare a [.IsNot] [.Constant .none j pos'] pos) (!y.isNone) δ1 := (t_notN ha).cast (by rw [isNon_eO])
/-! displays -/
theorem v_pair {y : A} {z : B} {k} (ha : EvD X δ a (f y) δ1) (hb : EvD X δ1 b (g z) δ2) (hs : starEach (a :: [b]) X.env = (false, eval a X.env) :: starEach [b] X.env := by rfl) (hs2 : starEach (b :: []) X.env = (false, eval b X.env) :: starEach [] X.env := by rfl) : EvD X δ (.Tuple [a, b] k pos) (eP f g (y, z)) δ2 := e_tup (a_cons ha (a_cons hb a_nil hs2) hs) (show 2 ≤ sizeLine by decide)
theorem v_all {bs : List Bool} (G : Cg X) (ha : EvD X δ e (eL eB bs) δ1) (hg : Gl X "all" := by rfl) (hs : starEach [e] X.env = (false, eval e X.env) :: starEach [] X.env := by rfl) : EvD X δ (.Call (.Name "all" p2) [e] [] pos) (.bl (bs.all id)) δ1 := e_all G.calm hg G.fr.all ha hs
end

/-! ### comprehensions, with a mirror that may fail -/
def cmpM {A B : Type} (p : A → Option Bool) (h : A → Option B) : List A → Option (List B)
  | [] => some []
  | a :: l => (p a).bind fun b => bif b then (h a).bind fun y => (cmpM p h l).bind fun ys => some (y :: ys) else cmpM p h l
theorem cmpM_ok {A B : Type} {p : A → Option Bool} {h : A → Option B} {f : B → D} : ∀ {l : List A} {ys : List B}, cmpM p h l = some ys →
    (∀ a ∈ l, ∃ b, p a = some b ∧ (b = true → ∃ y, h a = some y)) ∧ (l.filter fun a => (p a).getD false).map (fun a => match h a with | some y => f y | none => .non) = ys.map f
  | [], ys, e => by
    cases e
    exact ⟨fun a h => absurd h (List.not_mem_nil), rfl⟩
  | a :: l, ys, e => by
    obtain ⟨b, hb, e⟩ := bnd e
    cases b with
    | false =>
      have e : cmpM p h l = some ys := e
      obtain ⟨h1, h2⟩ := cmpM_ok (f := f) e
      refine ⟨fun c hc => ?_, ?_⟩
      · rcases List.mem_cons.mp hc with rfl | hc
        · exact ⟨false, hb, fun z => by cases z⟩
        · exact h1 c hc
      · rw [List.filter_cons]; simp only [hb, Option.getD_some, Bool.false_eq_true, if_false]; exact h2
    | true =>
      obtain ⟨y, hy, e⟩ := bnd e
      obtain ⟨zs, hz, e⟩ := bnd e
      cases e
      obtain ⟨h1, h2⟩ := cmpM_ok (f := f) hz
      refine ⟨fun c hc => ?_, ?_⟩
      · rcases List.mem_cons.mp hc with rfl | hc
        · exact ⟨true, hb, fun _ => ⟨y, hy⟩⟩
        · exact h1 c hc
      · rw [List.filter_cons]; simp only [hb, Option.getD_some, if_true, List.map_cons, hy]; rw [h2]
def unS : SD → Bool
  | .un => true
  | _ => false
theorem unS_of {δ : DEnv} {is : List Nat} (h : is.all (fun i => unS (look δ i)) = true) : ∀ i ∈ is, look δ i = .un := fun i hi => by
  have q := List.all_eq_true.mp h i hi
  cases e : look δ i <;> rw [e] at q <;> first | rfl | cases q
section
variable {X : Cx} {δ δ1 δo : DEnv} {elt tg iter c : Expr} {pos : Pos} {scope : Scope} {own : List (Str × Nat)} {A B : Type} {l : List A} {g : A → D} {f : B → D} {ids : A → List (Nat × D)}
/-- [elt for tg in iter] -/
theorem k_lcD {h : A → Option B} {ys : List B} (own : List (Str × Nat)) (ids : A → List (Nat × D)) (G : Cg X) (hm : cmpM (fun _ => some true) h l = some ys) (hi : ItL X δ tg iter (l.map g) δ1 δo) (hδ : δo = [] ∨ δo = δ1)
    (hg : ∀ s H C cl fp b, b ∈ l → GtD (Blk X scope s H C cl fp) tg (g b) (ids b))
    (he : ∀ z H C cl fp b y, Cg (Blk X scope z H C cl fp) → b ∈ l → h b = some y → EvD (Blk X scope z H C cl fp) (putL δ1 (ids b)) elt (f y) (putL δ1 (ids b)))
    (ok : BlkOk X.N X.env.scope scope own := by exact blkOk_by (by rfl)) (hun : (own.map (·.2)).all (fun i => unS (look δ1 i)) = true := by rfl) (hids : ∀ b, ∀ q ∈ ids b, q.1 ∈ own.map (·.2) := by intro b q hq; simp at hq; first | (rcases hq with rfl | rfl <;> simp; done) | (rcases hq with rfl <;> simp; done) | (subst hq; simp; done))
    (hs : ∀ x, foldedSetIterable iter X.env x = pure x := by intro _; rfl) : LcD X δ elt tg iter [] scope own (ys.map f) δ1 := by
  obtain ⟨h1, h2⟩ := cmpM_ok (f := f) hm
  have q := (c_lc (f := fun a => match h a with | some y => f y | none => .non) G.calm G.nd hi ok hδ (unS_of hun) hids hg (fun z H C cl fp b hb => by
    obtain ⟨_, _, hy⟩ := h1 b hb
    obtain ⟨y, hy⟩ := hy (by rename_i e; cases e; rfl)
    have := he z H C cl fp b y G.blk hb hy
    simp only [hy]; exact this) hs)
  have e : (l.filter fun a => (some true : Option Bool).getD false) = l := filter_true l
  rw [e] at h2
  rw [h2] at q
  exact q
/-- [elt for tg in iter if c] -/
theorem k_lcTD {p : A → Option Bool} {h : A → Option B} {ys : List B} (own : List (Str × Nat)) (ids : A → List (Nat × D)) (G : Cg X) (hm : cmpM p h l = some ys) (hi : ItL X δ tg iter (l.map g) δ1 δo) (hδ : δo = [] ∨ δo = δ1)
    (hg : ∀ s H C cl fp b, b ∈ l → GtD (Blk X scope s H C cl fp) tg (g b) (ids b))
    (ht : ∀ z H C cl fp b y, Cg (Blk X scope z H C cl fp) → b ∈ l → p b = some y → TvD (Blk X scope z H C cl fp) (putL δ1 (ids b)) c y (putL δ1 (ids b)))
    (he : ∀ z H C cl fp b y, Cg (Blk X scope z H C cl fp) → b ∈ l → p b = some true → h b = some y → EvD (Blk X scope z H C cl fp) (putL δ1 (ids b)) elt (f y) (putL δ1 (ids b)))
    (ok : BlkOk X.N X.env.scope scope own := by exact blkOk_by (by rfl)) (hun : (own.map (·.2)).all (fun i => unS (look δ1 i)) = true := by rfl) (hids : ∀ b, ∀ q ∈ ids b, q.1 ∈ own.map (·.2) := by intro b q hq; simp at hq; first | (rcases hq with rfl | rfl <;> simp; done) | (rcases hq with rfl <;> simp; done) | (subst hq; simp; done))
    (hs : ∀ x, foldedSetIterable iter X.env x = pure x := by intro _; rfl) : LcD X δ elt tg iter [c] scope own (ys.map f) δ1 := by
  obtain ⟨h1, h2⟩ := cmpM_ok (f := f) hm
  have q := (c_lcT (p := fun a => (p a).getD false) (f := fun a => match h a with | some y => f y | none => .non) G.calm G.nd hi ok hδ (unS_of hun) hids hg (fun z H C cl fp b hb => by
    obtain ⟨y, hy, _⟩ := h1 b hb
    have := ht z H C cl fp b y G.blk hb hy
    simp only [hy]; exact this) (fun z H C cl fp b hb hp => by
    obtain ⟨y, hy, hz⟩ := h1 b hb
    rw [hy] at hp
    have hp : y = true := hp
    subst hp
    obtain ⟨y, hz⟩ := hz rfl
    have := he z H C cl fp b y G.blk hb hy hz
    simp only [hz]; exact this) hs)
  rw [h2] at q
  exact q
/-- [elt for tg in iter] -/
theorem k_lc {h : A → Option B} {ys : List B} (own : List (Str × Nat)) (ids : A → List (Nat × D)) (G : Cg X) (hm : cmpM (fun _ => some true) h l = some ys) (hi : ItL X δ tg iter (l.map g) δ1 δo) (hδ : δo = [] ∨ δo = δ1)
    (hg : ∀ s H C cl fp b, b ∈ l → GtD (Blk X scope s H C cl fp) tg (g b) (ids b))
    (he : ∀ z H C cl fp b y, Cg (Blk X scope z H C cl fp) → b ∈ l → h b = some y → EvD (Blk X scope z H C cl fp) (putL δ1 (ids b)) elt (f y) (putL δ1 (ids b)))
    (ok : BlkOk X.N X.env.scope scope own := by exact blkOk_by (by rfl)) (hun : (own.map (·.2)).all (fun i => unS (look δ1 i)) = true := by rfl) (hids : ∀ b, ∀ q ∈ ids b, q.1 ∈ own.map (·.2) := by intro b q hq; simp at hq; first | (rcases hq with rfl | rfl <;> simp; done) | (rcases hq with rfl <;> simp; done) | (subst hq; simp; done))
    (hs : ∀ x, foldedSetIterable iter X.env x = pure x := by intro _; rfl) : NvD X δ (.ListComp elt [⟨tg, iter, [], 0⟩] scope pos) (ys.map f) δ1 := (k_lcD own ids G hm hi hδ hg he ok hun hids hs).n G.calm G.nd
/-- [elt for tg in iter if c] -/
theorem k_lcT {p : A → Option Bool} {h : A → Option B} {ys : List B} (own : List (Str × Nat)) (ids : A → List (Nat × D)) (G : Cg X) (hm : cmpM p h l = some ys) (hi : ItL X δ tg iter (l.map g) δ1 δo) (hδ : δo = [] ∨ δo = δ1)
    (hg : ∀ s H C cl fp b, b ∈ l → GtD (Blk X scope s H C cl fp) tg (g b) (ids b))
    (ht : ∀ z H C cl fp b y, Cg (Blk X scope z H C cl fp) → b ∈ l → p b = some y → TvD (Blk X scope z H C cl fp) (putL δ1 (ids b)) c y (putL δ1 (ids b)))
    (he : ∀ z H C cl fp b y, Cg (Blk X scope z H C cl fp) → b ∈ l → p b = some true → h b = some y → EvD (Blk X scope z H C cl fp) (putL δ1 (ids b)) elt (f y) (putL δ1 (ids b)))
    (ok : BlkOk X.N X.env.scope scope own := by exact blkOk_by (by rfl)) (hun : (own.map (·.2)).all (fun i => unS (look δ1 i)) = true := by rfl) (hids : ∀ b, ∀ q ∈ ids b, q.1 ∈ own.map (·.2) := by intro b q hq; simp at hq; first | (rcases hq with rfl | rfl <;> simp; done) | (rcases hq with rfl <;> simp; done) | (subst hq; simp; done))
    (hs : ∀ x, foldedSetIterable iter X.env x = pure x := by intro _; rfl) : NvD X δ (.ListComp elt [⟨tg, iter, [c], 0⟩] scope pos) (ys.map f) δ1 := (k_lcTD own ids G hm hi hδ hg ht he ok hun hids hs).n G.calm G.nd
end
end ND

/-! NDo -/
set_option Elab.async false
set_option linter.all false
set_option maxRecDepth 100000
set_option maxHeartbeats 4000000
namespace ND
open PySem PySem.Spec PyProof.Rows L2
theorem Nx.imp {K : PySem.W.Frag} {α : Nat → Addr} {δ : DEnv} {F H : Hp} {P P' : DEnv → Prop} {R : Sl → Hp → Prop} (k : Nx K α δ F H P' R) (h : ∀ δ, P δ → P' δ) : Nx K α δ F H P R := fun a b c d e q => k a b c d e (h e q)
theorem Rt.imp {K : PySem.W.Frag} {α : Nat → Addr} {δ : DEnv} {F H : Hp} {P P' : D → DEnv → Prop} {R : VK} (k : Rt K α δ F H P' R) (h : ∀ d δ, P d δ → P' d δ) : Rt K α δ F H P R := fun v a b c d e f q => k v a b c d e f (h e f q)
section
variable {X : Cx} {δ δ1 : DEnv} {sts body : List Stmt} {st : Stmt} {N N' : DE} {tg iter c e : Expr} {pos p2 apos : Pos} {A S R : Type}
theorem SsD.imp (h : SsD X δ sts N) (h1 : ∀ δ, N.nx δ → N'.nx δ) (h2 : ∀ d δ, N.rt d δ → N'.rt d δ) : SsD X δ sts N' := ⟨fun α σ H F D s k r => h.run α σ H F D s (k.imp h1) (r.imp h2)⟩
theorem SvD.imp (h : SvD X δ st N) (h1 : ∀ δ, N.nx δ → N'.nx δ) (h2 : ∀ d δ, N.rt d δ → N'.rt d δ) : SvD X δ st N' := ⟨fun α σ H F D s k r => h.run α σ H F D s (k.imp h1) (r.imp h2)⟩
/-! targets -/
theorem tg1 (i : Nat) {x : Str} {d : D} (nd : X.N.Nodup) (hi : X.N[i]? = some x := by rfl) (hx : Loc X.env.scope x := by first | exact .inl rfl | exact .inr rfl) (hf : X.fn x = true ∨ X.env.scope.names.lookup x = some .local := by first | exact .inl rfl | exact .inr rfl) : GtD X (.Name x pos) d [(i, d)] := g_name nd hi hx hf
theorem tg2 (i j : Nat) {x y : Str} {d e : D} {p1 p2 : Pos} {k : Nat} (hc : X.calm = true) (nd : X.N.Nodup) (hi : X.N[i]? = some x := by rfl) (hj : X.N[j]? = some y := by rfl) (hx : Loc X.env.scope x := by first | exact .inl rfl | exact .inr rfl) (hy : Loc X.env.scope y := by first | exact .inl rfl | exact .inr rfl)
    (hf : X.fn x = true ∨ X.env.scope.names.lookup x = some .local := by first | exact .inl rfl | exact .inr rfl) (hf2 : X.fn y = true ∨ X.env.scope.names.lookup y = some .local := by first | exact .inl rfl | exact .inr rfl) : GtD X (.Tuple [.Name x p1, .Name y p2] k pos) (.tup [d, e]) [(i, d), (j, e)] := g_two hc nd hi hj hx hy hf hf2
theorem tg2S (i j : Nat) {x y : Str} {d e : D} {p1 p2 : Pos} {k : Nat} (hc : X.calm = true) (nd : X.N.Nodup) (hi : X.N[i]? = some x := by rfl) (hj : X.N[j]? = some y := by rfl) (hx : Loc X.env.scope x := by first | exact .inl rfl | exact .inr rfl) (hy : Loc X.env.scope y := by first | exact .inl rfl | exact .inr rfl)
    (hf : X.fn x = true ∨ X.env.scope.names.lookup x = some .local := by first | exact .inl rfl | exact .inr rfl) (hf2 : X.fn y = true ∨ X.env.scope.names.lookup y = some .local := by first | exact .inl rfl | exact .inr rfl) : GtD X (.Tuple [.Name x p1, .Name y p2] k pos) (.sft [d, e]) [(i, d), (j, e)] := g_twoS hc nd hi hj hx hy hf hf2
/-! stores -/
theorem w_set (i : Nat) {x : Str} {d : D} {pos' : Pos} (G : Cg X) (h : EvD X δ e d δ1) (q : N.nx (put δ1 i (.dat d))) (hi : X.N[i]? = some x := by rfl) (hx : Loc X.env.scope x := by first | exact .inl rfl | exact .inr rfl) (hp : isPar (look δ1 i) = false := by rfl) (hf : X.fn x = true ∨ X.env.scope.names.lookup x = some .local := by first | exact .inl rfl | exact .inr rfl)
    (hs : swapsWith e (some (.Name x pos')) pos.line X.env = pure false := by rfl) : SvD X δ (.Assign [.Name x pos'] e pos) N := s_set G.nd hi hx h q (hp := hp) (hs := hs)
/-! loops -/
def forM {A S R : Type} (step : S → A → Option (S ⊕ R)) : List A → S → Option (S ⊕ R)
  | [], s => some (.inl s)
  | a :: l, s => (step s a).bind fun o => match o with | .inl s' => forM step l s' | .inr r => some (.inr r)
theorem k_for {step : S → A → Option (S ⊕ R)} {l : List A} {g : A → D} {s0 : S} {out : S ⊕ R} (Δ : S → DEnv) (ids : A → List (Nat × D)) (Rr : R → D → DEnv → Prop) (G : Cg X) (hpass : PassesOwn (model X.prog X.w) X.A X.env X.xe) (hm : forM step l s0 = some out) (hi : ItD X δ tg iter (l.map g) (Δ s0))
    (hg : ∀ b, b ∈ l → GtD X tg (g b) (ids b)) (hno : ∀ s b, ∀ z ∈ ids b, isOwn (look (Δ s) z.1) = false)
    (hb : ∀ s b o, b ∈ l → step s b = some o → SsD X (putL (Δ s) (ids b)) body ⟨fun δ' => ∃ s', o = .inl s' ∧ δ' = Δ s', fun d δ' => ∃ r, o = .inr r ∧ Rr r d δ'⟩)
    (hnx : ∀ s, out = .inl s → N.nx (Δ s)) (hrt : ∀ r d δ', out = .inr r → Rr r d δ' → N.rt d δ') (hs : ∀ x, foldedSetIterable iter X.env x = pure x := by intro _; rfl) : SvD X δ (.For tg iter body [] pos) N := by
  refine s_for (Iv := fun i δ2 => ∃ s, δ2 = Δ s ∧ forM step (l.drop i) s = some out) G.calm hpass hi ⟨s0, rfl, hm⟩ ?_ ?_ hs
  · rintro i d δ2 hd ⟨s, rfl, hs'⟩
    rw [List.getElem?_map] at hd
    obtain ⟨b, hbi, rfl⟩ := Option.map_eq_some_iff.mp hd
    have hlt : i < l.length := (List.getElem?_eq_some_iff.mp hbi).1
    have hdr : l.drop i = b :: l.drop (i + 1) := by
      rw [List.drop_eq_getElem_cons hlt]
      rw [List.getElem?_eq_getElem hlt] at hbi
      rw [Option.some.inj hbi]
    have hmem : b ∈ l := List.mem_of_getElem? hbi
    rw [hdr] at hs'
    obtain ⟨o, ho, hs'⟩ := bnd hs'
    refine ⟨ids b, hg b hmem, hno s b, (hb s b o hmem ho).imp ?_ ?_⟩
    · rintro δ' ⟨s', rfl, rfl⟩
      exact ⟨s', rfl, hs'⟩
    · rintro d δ' ⟨r, rfl, hr⟩
      exact hrt r d δ' (Option.some.inj hs').symm hr
  · rintro δ2 ⟨s, rfl, hs'⟩
    rw [List.length_map, List.drop_length] at hs'
    exact hnx s (Option.some.inj hs').symm
/-- a walk with no way out -/
def forS {A S : Type} (step : S → A → Option S) : List A → S → Option S
  | [], s => some s
  | a :: l, s => (step s a).bind (forS step l)
theorem forS_M {A S : Type} {step : S → A → Option S} : ∀ (l : List A) (s t : S), forS step l s = some t → forM (R := Empty) (fun s a => (step s a).map .inl) l s = some (.inl t)
  | [], s, t, h => by cases h; rfl
  | a :: l, s, t, h => by
    obtain ⟨u, h1, h2⟩ := bnd h
    show ((step s a).map _).bind _ = _
    rw [h1]
    exact forS_M l u t h2
theorem k_forS {step : S → A → Option S} {l : List A} {g : A → D} {s0 t : S} (Δ : S → DEnv) (ids : A → List (Nat × D)) (G : Cg X) (hpass : PassesOwn (model X.prog X.w) X.A X.env X.xe) (hm : forS step l s0 = some t) (hi : ItD X δ tg iter (l.map g) (Δ s0))
    (hg : ∀ b, b ∈ l → GtD X tg (g b) (ids b)) 
    (hb : ∀ s b s', b ∈ l → step s b = some s' → SsD X (putL (Δ s) (ids b)) body ⟨fun δ' => δ' = Δ s', fun d δ' => False⟩)
    (hnx : N.nx (Δ t)) (hno : ∀ s b, (ids b).all (fun z => !isOwn (look (Δ s) z.1)) = true := by intros; rfl) (hs : ∀ x, foldedSetIterable iter X.env x = pure x := by intro _; rfl) : SvD X δ (.For tg iter body [] pos) N := by
  refine k_for Δ ids (fun r _ _ => nomatch r) G hpass (forS_M l s0 t hm) hi hg (fun s b z hz => ?_) (fun s b o hb' h => ?_) (fun s e => ?_) (fun r => nomatch r) hs
  · have := List.all_eq_true.mp (hno s b) z hz
    simpa using this
  · obtain ⟨s', h1, rfl⟩ := Option.map_eq_some_iff.mp h
    exact (hb s b s' hb' h1).imp (fun δ' e => ⟨s', rfl, e⟩) (fun _ _ e => e.elim)
  · cases e; exact hnx
def whileM {S R : Type} (c : S → Option Bool) (step : S → Option (S ⊕ R)) : Nat → S → Option (S ⊕ R)
  | 0, _ => none
  | n + 1, s => (c s).bind fun b => bif b then (step s).bind fun o => match o with | .inl s' => whileM c step n s' | .inr r => some (.inr r) else some (.inl s)
theorem k_while {cd : S → Option Bool} {step : S → Option (S ⊕ R)} {s0 : S} {n : Nat} {out : S ⊕ R} (Δ : S → DEnv) (Rr : R → D → DEnv → Prop) (hpass : PassesOwn (model X.prog X.w) X.A X.env X.xe) (hm : whileM cd step n s0 = some out)
    (ht : ∀ s b, cd s = some b → TvD X (Δ s) c b (Δ s))
    (hb : ∀ s o, cd s = some true → step s = some o → SsD X (Δ s) body ⟨fun δ' => ∃ s', o = .inl s' ∧ δ' = Δ s', fun d δ' => ∃ r, o = .inr r ∧ Rr r d δ'⟩)
    (hnx : ∀ s, out = .inl s → cd s = some false → N.nx (Δ s)) (hrt : ∀ r d δ', out = .inr r → Rr r d δ' → N.rt d δ') : SvD X (Δ s0) (.While c body [] pos) N := by
  refine s_while (Iv := fun m δ2 => ∃ s, δ2 = Δ s ∧ whileM cd step m s = some out) hpass ⟨s0, rfl, hm⟩ ?_
  rintro m δ2 ⟨s, rfl, hs⟩
  cases m with
  | zero => cases hs
  | succ m =>
    obtain ⟨b, hcb, hs⟩ := bnd hs
    refine ⟨b, _, ht s b hcb, fun hbt => ?_, fun hbf => ?_⟩
    · subst hbt
      obtain ⟨o, ho, hs⟩ := bnd (show (step s).bind _ = some out from hs)
      refine (hb s o hcb ho).imp ?_ ?_
      · rintro δ' ⟨s', rfl, rfl⟩
        exact ⟨m, Nat.lt_succ_self m, s', rfl, hs⟩
      · rintro d δ' ⟨r, rfl, hr⟩
        exact hrt r d δ' (Option.some.inj hs).symm hr
    · subst hbf
      exact hnx s (Option.some.inj (show some (Sum.inl s) = some out from hs)).symm hcb
/-! own lists -/
section
variable {x : Str} {f : A → D} {l : List A}
theorem v_app (i : Nat) {y : A} (h : EvD X δ e (f y) δ1) (hi : look δ1 i = .own (eL f l) ∨ look δ1 i = .par (eL f l)) (hl : (decide (l.length < 2000)) = true) (hi00 : ∃ ds0, look δ i = .own (.lst ds0) ∨ look δ i = .par (.lst ds0)) (hN : X.N[i]? = some x := by rfl) (hv : Vis X.env.scope x := by first | exact .inl rfl | exact .inr (.inl rfl) | exact .inr (.inr rfl))
    (hbase : attributeBase (.Name x p2) "append" X.env (eval (.Name x p2) X.env) = eval (.Name x p2) X.env := by rfl)
    (hfew : ((backTo pos (starEach [e] X.env)).all (fun x => !x.1) && (backToKw pos (keywordEach [] X.env)).all (fun x => x.1.isSome) && decide (([e] : List Expr).length + ([] : List Keyword).length + (if ([] : List Keyword).isEmpty then 0 else 1) < 30)) = true := by rfl)
    (hline : (apos.endLine == pos.line) = true := by rfl) (hs : starEach [e] X.env = (false, eval e X.env) :: starEach [] X.env := by rfl) (hplain : (backTo pos (starEach [] X.env)).any (·.1) = false := by rfl)
    (hd : (x == ("__debug__" : Str)) = false := by decide) (hcd : (x == ("__classdict__" : Str)) = false := by decide) :
    EvD X δ (.Call (.Attribute (.Name x p2) "append" apos) [e] [] pos) .non (put δ1 i (setC (look δ1 i) (eL f (l ++ [y])))) := by
  have hi0 : isOwn (look δ i) = true := by obtain ⟨_, z⟩ := hi00; exact isOwn_of z
  refine (e_append hN hv hi0 h hi ?_ hi00 hbase hfew hline hs hplain hd hcd).castS rfl ?_
  · have := of_decide_eq_true hl
    rw [List.length_map, sizeLine_eq]; omega
  · show _ = put δ1 i (setC (look δ1 i) (.lst ((l ++ [y]).map f)))
    rw [List.map_append]; rfl
theorem v_ext (i : Nat) {m : List A} (h : EvD X δ e (eL f m) δ1) (hi : look δ1 i = .own (eL f l) ∨ look δ1 i = .par (eL f l)) (hl : (decide (l.length + m.length < 2000)) = true) (hi00 : ∃ ds0, look δ i = .own (.lst ds0) ∨ look δ i = .par (.lst ds0)) (hN : X.N[i]? = some x := by rfl) (hv : Vis X.env.scope x := by first | exact .inl rfl | exact .inr (.inl rfl) | exact .inr (.inr rfl))
    (hbase : attributeBase (.Name x p2) "extend" X.env (eval (.Name x p2) X.env) = eval (.Name x p2) X.env := by rfl)
    (hfew : ((backTo pos (starEach [e] X.env)).all (fun x => !x.1) && (backToKw pos (keywordEach [] X.env)).all (fun x => x.1.isSome) && decide (([e] : List Expr).length + ([] : List Keyword).length + (if ([] : List Keyword).isEmpty then 0 else 1) < 30)) = true := by rfl)
    (hline : (apos.endLine == pos.line) = true := by rfl) (hs : starEach [e] X.env = (false, eval e X.env) :: starEach [] X.env := by rfl) (hplain : (backTo pos (starEach [] X.env)).any (·.1) = false := by rfl)
    (hd : (x == ("__debug__" : Str)) = false := by decide) (hcd : (x == ("__classdict__" : Str)) = false := by decide) :
    EvD X δ (.Call (.Attribute (.Name x p2) "extend" apos) [e] [] pos) .non (put δ1 i (setC (look δ1 i) (eL f (l ++ m)))) := by
  refine (e_extend hN hv h hi ?_ hi00 hbase hfew hline hs hplain hd hcd).castS rfl ?_
  · have := of_decide_eq_true hl
    rw [List.length_map, List.length_map, sizeLine_eq]; omega
  · show _ = put δ1 i (setC (look δ1 i) (.lst ((l ++ m).map f)))
    rw [List.map_append]
/-- the place of the first that is equal -/
def plc {A : Type} [DecidableEq A] (l : List A) (y : A) : Option Nat := l.findIdx? fun z => decide (z = y)
theorem plc_map [DecidableEq A] [Gd 5 f] (y : A) : SeqAt.dataPlace ((l.map f).map (toPy 5)) (toPy 5 (f y)) = plc l y := by
  unfold SeqAt.dataPlace plc
  rw [List.map_map, List.findIdx?_map]
  congr 1
  funext z
  exact Gd.dq z y
theorem map_erase : ∀ (l : List A) (i : Nat), (l.map f).eraseIdx i = (l.eraseIdx i).map f
  | [], _ => rfl
  | _ :: _, 0 => rfl
  | a :: l, i + 1 => by
    show f a :: (l.map f).eraseIdx i = f a :: (l.eraseIdx i).map f
    rw [map_erase l i]
theorem v_rem [DecidableEq A] [Gd 5 f] (G : Cg X) (i : Nat) {y : A} {j : Nat} (hj : plc l y = some j) (h : EvD X δ e (f y) δ1) (hi : look δ1 i = .own (eL f l) ∨ look δ1 i = .par (eL f l)) (hi00 : ∃ ds0, look δ i = .own (.lst ds0) ∨ look δ i = .par (.lst ds0)) (hN : X.N[i]? = some x := by rfl) (hv : Vis X.env.scope x := by first | exact .inl rfl | exact .inr (.inl rfl) | exact .inr (.inr rfl))
    (hbase : attributeBase (.Name x p2) "remove" X.env (eval (.Name x p2) X.env) = eval (.Name x p2) X.env := by rfl)
    (hfew : ((backTo pos (starEach [e] X.env)).all (fun x => !x.1) && (backToKw pos (keywordEach [] X.env)).all (fun x => x.1.isSome) && decide (([e] : List Expr).length + ([] : List Keyword).length + (if ([] : List Keyword).isEmpty then 0 else 1) < 30)) = true := by rfl)
    (hline : (apos.endLine == pos.line) = true := by rfl) (hs : starEach [e] X.env = (false, eval e X.env) :: starEach [] X.env := by rfl) (hplain : (backTo pos (starEach [] X.env)).any (·.1) = false := by rfl)
    (hd : (x == ("__debug__" : Str)) = false := by decide) (hcd : (x == ("__classdict__" : Str)) = false := by decide) :
    EvD X δ (.Call (.Attribute (.Name x p2) "remove" apos) [e] [] pos) .non (put δ1 i (setC (look δ1 i) (eL f (l.eraseIdx j)))) := by
  refine (e_remove G.hu hN hv h hi (Gd.ok y) (all_map l) (by rw [plc_map]; exact hj) hi00 hbase hfew hline hs hplain hd hcd).castS rfl ?_
  show _ = put δ1 i (setC (look δ1 i) (.lst ((l.eraseIdx j).map f)))
  rw [map_erase]
end
/-! lists joined -/
theorem n_catL {A : Type} {f : A → D} {l m : List A} {a b : Expr} {δ2 : DEnv} (hl : decide (l.length + m.length < 2000) = true) (ha : EvD X δ a (eL f l) δ1) (hb : EvD X δ1 b (eL f m) δ2) : NvD X δ (.BinOp a .Add b pos) ((l ++ m).map f) δ2 := by
  have q := n_cat (pos := pos) ha hb (by have := of_decide_eq_true hl; rw [List.length_map, List.length_map, sizeLine_eq]; omega)
  rw [← List.map_append] at q
  exact q
/-! calls -/
end
end ND

/-! NDp -/
set_option Elab.async false
set_option linter.all false
set_option maxRecDepth 100000
set_option maxHeartbeats 4000000
namespace ND
open PySem PySem.Spec PyProof.Rows L2
section
variable {X : Cx}
/-! ### dict(t), t a tuple of pairs -/
theorem pairsF {pins : List (Addr × Obj)} {σ : Sl} {H : Hp} {s : Shared} (I : Inv X pins σ H s) : ∀ {ps : List Addr} {kvs : List (Key × V)}, Paired (fun p kv => SqT X.K H p [kV kv.1, kv.2]) ps kvs →
    ∃ (prs : List (Key × Value)) (psv : List (Value × Value)), KV kvs prs ∧ prs.length = ps.length ∧ psv.length = ps.length ∧ ∀ (j : Nat) (k v : Value), psv[j]? = some (k, v) → ∃ (b : Addr) (key : Key), ps[j]? = some b ∧ s.heap.IsTuple b #[k, v] ∧ prs[j]? = some (key, v) ∧ keyIs key k = true
  | _, _, .nil => ⟨[], [], .nil, rfl, rfl, fun j k v e => by simp at e⟩
  | _, _, .cons (a := p) (b := kv) h t => by
    obtain ⟨prs, psv, r, hl, hl2, hp⟩ := pairsF I t
    obtain ⟨its, rv, ht, _⟩ := I.tuple h
    obtain ⟨u, y, ei, ru, ry⟩ := vals2 rv
    subst ei
    refine ⟨(kv.1, y) :: prs, (u, y) :: psv, .cons ⟨rfl, ry⟩ r, by rw [List.length_cons, List.length_cons, hl], by rw [List.length_cons, List.length_cons, hl2], fun j k v e => ?_⟩
    cases j with
    | zero =>
      have e' : (u, y) = (k, v) := Option.some.inj e
      cases e'
      exact ⟨p, kv.1, rfl, ht, rfl, kV_is (P := X.prog) (w := X.w) ru⟩
    | succ j =>
      obtain ⟨b, key, e1, e2, e3, e4⟩ := hp j k v (by simpa using e)
      exact ⟨b, key, by simpa using e1, e2, by simpa using e3, e4⟩
theorem call_dictF (hcalm : X.calm = true) : CallR X (.type "dict") (fun xs H Q => ∃ (a : Addr) (ps : List Addr) (kvs : List (Key × V)), xs = [.ref a] ∧ TupF H a (ps.map V.ref) ∧ Paired (fun p kv => SqT X.K H p [kV kv.1, kv.2]) ps kvs ∧
    ∀ p, H p = none → Q (.ref p) (upd H p (.dK (mergeK [] kvs)))) := by
  intro pins s σ H xs us Q I r q
  obtain ⟨a, ps, kvs, ex, ⟨o, ho, hod⟩, hp, q⟩ := q
  subst ex
  obtain ⟨u, eu, rx⟩ := vals1 r
  subst eu
  cases rx
  obtain ⟨hget, hz, its, rv, o', h1, hc, n, hd⟩ := (show ObjOk X.prog X.w H s.heap a (.frz o (.tup (ps.map V.ref))) from I.hok a _ ho)
  have eo : o' = o := Option.some.inj (h1.symm.trans hget)
  subst eo
  have ei := refs_at rv
  subst ei
  rw [List.length_map] at hz
  obtain ⟨prs, psv, rel, hl, hl2, hpr⟩ := pairsF I hp
  refine PySem.call_dict_pairs (knd := mixKind X.prog X.w) (kvs := prs) (PairArg.tuple a (ps.map Value.ref).toArray (fun j => ps.getD j 0) psv) (I.ok.hd hcalm) ⟨⟨o', n, hget, hc, hod, hd⟩, by rw [List.size_toArray, List.length_map, hl2], fun j k v e => ?_⟩ ⟨by rw [hl, hl2], fun j k v e => ?_⟩ (by rw [hl2]; exact hz) fun h' tk hd' k => ?_
  · obtain ⟨b, key, e1, e2, e3, e4⟩ := hpr j k v e
    have : ps.getD j 0 = b := by rw [List.getD_eq_getElem?_getD, e1]; rfl
    exact ⟨by simp [e1], .inl (by show s.heap.IsTuple (ps.getD j 0) _; rw [this]; exact e2)⟩
  · obtain ⟨b, key, e1, e2, e3, e4⟩ := hpr j k v e
    exact ⟨key, e3, e4⟩
  · have hm : (s.heap.objs.size == sysModules) = false := beq_eq_false_iff_ne.mpr (Nat.ne_of_gt I.big)
    have hlen : (mergeK [] kvs).length ≤ sizeLine := by
      refine Nat.le_trans (length_mergeK kvs []) ?_
      rw [List.length_nil, Nat.zero_add, rel.length, hl]
      exact hz
    exact ⟨.ref s.heap.objs.size, upd H s.heap.objs.size (.dK (mergeK [] kvs)), I.laid (t' := tk) (fun b o e => k b o (by simp) e) (Nat.le_refl _) (show ObjOk X.prog X.w _ _ _ (.dK (mergeK [] kvs)) from ⟨hlen, hm, merged [] prs, KV.merge rel .nil, hd'⟩), rfl, q _ (I.hok.fresh (Nat.le_refl _))⟩
/-- distinct keys: nothing is merged -/
theorem mergeK_nodup : ∀ (kvs acc : List (Key × V)), (kvs.map (·.1)).Nodup → (∀ k ∈ kvs.map (·.1), k ∉ acc.map (·.1)) → mergeK acc kvs = acc ++ kvs
  | [], acc, _, _ => (List.append_nil _).symm
  | kv :: r, acc, hn, hd => by
    rw [List.map_cons, List.nodup_cons] at hn
    show mergeK (putK acc kv.1 kv.2) r = _
    have e : putK acc kv.1 kv.2 = acc ++ [kv] := putK_new _ (valV_none (hd kv.1 (by simp)))
    rw [e, mergeK_nodup r (acc ++ [kv]) hn.2 (fun k hk => ?_), List.append_assoc]
    · rfl
    · rw [List.map_append, List.mem_append]
      rintro (h | h)
      · exact hd k (by rw [List.map_cons]; exact List.mem_cons_of_mem _ hk) h
      · have : k = kv.1 := by simpa using h
        subst this
        exact hn.1 hk
end
/-- the pairs of text and datum -/
abbrev prD (q : Str × D) : D := .tup [.str q.1, q.2]
theorem reps_pairs {K : PySem.W.Frag} {F : Hp} : ∀ {ks : List (Str × D)} {vs : List V}, Reps K F vs (ks.map prD) → ∃ (ps : List Addr) (kvs : List (Key × V)), vs = ps.map V.ref ∧ Paired (fun p kv => SqT K F p [kV kv.1, kv.2]) ps kvs ∧ RepK K F kvs ks
  | [], _, .nil => ⟨[], [], rfl, .nil, .nil⟩
  | q :: ks, _, .cons h r => by
    obtain ⟨ps, kvs, e1, e2, e3⟩ := reps_pairs r
    obtain ⟨a, vs, rfl, ha, rr⟩ := h.seqT
    cases rr with
    | cons r1 rr => cases rr with
      | cons r2 rr =>
        cases rr
        cases r1
        exact ⟨a :: ps, (.inr q.1, _) :: kvs, by rw [e1]; rfl, .cons (show SqT K F a [kV (.inr q.1), _] from ha.sq) e2, .cons r2 e3⟩
theorem sqT_up {K : PySem.W.Frag} {F H : Hp} (m : Same F H) {a : Addr} {xs : List V} (h : SqT K F a xs) : SqT K H a xs := by
  rcases h with h | h
  · exact .inl (m.rd h)
  · exact .inr h
theorem paired_up {K : PySem.W.Frag} {F H : Hp} (m : Same F H) {ps : List Addr} {kvs : List (Key × V)} (h : Paired (fun p kv => SqT K F p [kV kv.1, kv.2]) ps kvs) : Paired (fun p kv => SqT K H p [kV kv.1, kv.2]) ps kvs := by
  induction h with
  | nil => exact .nil
  | cons a b ih => exact .cons (sqT_up m a) ih
theorem repK_keysN {K : PySem.W.Frag} {F : Hp} {kvs : List (Key × V)} {ks : List (Str × D)} (r : RepK K F kvs ks) (h : (ks.map (·.1)).Nodup) : (kvs.map (·.1)).Nodup := by
  rw [repK_keys r]
  have : (ks.map fun q => (Sum.inr q.1 : Key)) = (ks.map (·.1)).map Sum.inr := by rw [List.map_map]; rfl
  rw [this]
  exact List.Pairwise.map _ (fun a b hab e => hab (Sum.inr.inj e)) h
section
variable {X : Cx} {δ δ1 : DEnv} {e : Expr} {p pos : Pos} {ks : List (Str × D)} {A : Type} {f : A → D}
theorem m_dictT (G : Cg X) (hn : (ks.map (·.1)).Nodup) (ha : EvD X δ e (.tup (ks.map prD)) δ1) (hg : Gl X "dict" := by rfl) (hs : starEach [e] X.env = (false, eval e X.env) :: starEach [] X.env := by rfl) : MvD X δ (.Call (.Name "dict" p) [e] [] pos) ks δ1 := by
  refine ⟨ha.kd, fun α σ H F Q st k => .of (pe_callTy (call_dictF G.calm) hg G.fr.dict (by decide +kernel) (pa_cons pe_tw pa_nil hs) (he := hs)) ?_⟩
  refine ha.run α σ H F _ st fun v F1 H1 s1 st1 r1 => ?_
  obtain ⟨a, vs, rfl, h1, q1⟩ := r1.seqT
  obtain ⟨ps, kvs, rfl, e2, e3⟩ := reps_pairs q1
  refine ⟨a, ps, kvs, rfl, h1.up st1.fh, paired_up st1.fh e2, fun l hl => ?_⟩
  have g : Grow F1 H1 F1 _ := Grow.newH (o := .dK (mergeK [] kvs)) st1.fh hl
  refine k l kvs F1 _ (none_back s1 hl) (Same.none st1.fh hl) (s1.trans g.step) (st1.grow g) ?_ e3
  rw [upd_same, mergeK_nodup kvs [] (repK_keysN e3 hn) (by simp)]
  rfl
theorem m_dictL (G : Cg X) (hn : (ks.map (·.1)).Nodup) (ha : EvD X δ e (.lst (ks.map prD)) δ1) (hg : Gl X "dict" := by rfl) (hs : starEach [e] X.env = (false, eval e X.env) :: starEach [] X.env := by rfl) : MvD X δ (.Call (.Name "dict" p) [e] [] pos) ks δ1 := by
  refine ⟨ha.kd, fun α σ H F Q st k => .of (pe_callTy (call_dictP G.calm) hg G.fr.dict (by decide +kernel) (pa_cons pe_tw pa_nil hs) (he := hs)) ?_⟩
  refine ha.run α σ H F _ st fun v F1 H1 s1 st1 r1 => ?_
  obtain ⟨a, vs, rfl, h1, q1⟩ := r1.seqL
  obtain ⟨ps, kvs, rfl, e2, e3⟩ := reps_pairs q1
  refine ⟨a, ps, kvs, rfl, SqL.of (st1.fh _ _ h1), paired_up st1.fh e2, fun l hl => ?_⟩
  have g : Grow F1 H1 F1 _ := Grow.newH (o := .dK (mergeK [] kvs)) st1.fh hl
  refine k l kvs F1 _ (none_back s1 hl) (Same.none st1.fh hl) (s1.trans g.step) (st1.grow g) ?_ e3
  rw [upd_same, mergeK_nodup kvs [] (repK_keysN e3 hn) (by simp)]
  rfl
/-- with names -/
def mkD {A : Type} (l : List (Nm × A)) : Option (List (Nm × A)) := if (l.map (·.1)).Nodup then some l else none
theorem mkD_ok {l m : List (Nm × A)} (h : mkD l = some m) : m = l ∧ ((l.map fun q => (nm q.1, f q.2)).map (·.1)).Nodup := by
  unfold mkD at h
  split at h
  · rename_i hn
    refine ⟨(Option.some.inj h).symm, ?_⟩
    have : (l.map fun q => (nm q.1, f q.2)).map (·.1) = (l.map (·.1)).map nm := by rw [List.map_map, List.map_map]; rfl
    rw [this]
    exact List.Pairwise.map _ (fun a b hab e => hab (nm_inj _ _ e)) hn
  · cases h
theorem map_pr (l : List (Nm × A)) : l.map (eP eN f) = (l.map fun q => (nm q.1, f q.2)).map prD := by rw [List.map_map]; rfl
theorem v_dictT {l m : List (Nm × A)} (G : Cg X) (h : mkD l = some m) (ha : EvD X δ e (eT (eP eN f) l) δ1) (hg : Gl X "dict" := by rfl) (hs : starEach [e] X.env = (false, eval e X.env) :: starEach [] X.env := by rfl) : EvD X δ (.Call (.Name "dict" p) [e] [] pos) (eM f m) δ1 := by
  obtain ⟨rfl, hn⟩ := mkD_ok (f := f) h
  exact (m_dictT G hn (ha.cast (by show D.tup _ = D.tup _; rw [map_pr])) hg hs).ev
theorem v_dictL {l m : List (Nm × A)} (G : Cg X) (h : mkD l = some m) (ha : EvD X δ e (eL (eP eN f) l) δ1) (hg : Gl X "dict" := by rfl) (hs : starEach [e] X.env = (false, eval e X.env) :: starEach [] X.env := by rfl) : EvD X δ (.Call (.Name "dict" p) [e] [] pos) (eM f m) δ1 := by
  obtain ⟨rfl, hn⟩ := mkD_ok (f := f) h
  exact (m_dictL G hn (ha.cast (by show D.lst _ = D.lst _; rw [map_pr])) hg hs).ev
end
end ND

/-! NDq -/
set_option Elab.async false
set_option linter.all false
set_option maxRecDepth 100000
set_option maxHeartbeats 4000000
namespace ND
open PySem PySem.Spec PyProof.Rows L2
/-! ### order -/
def ins {A : Type} (le : A → A → Bool) (x : A) : List A → List A
  | [] => [x]
  | y :: r => if le x y then x :: y :: r else y :: ins le x r
def isort {A : Type} (le : A → A → Bool) : List A → List A
  | [] => []
  | x :: r => ins le x (isort le r)
/-- a total order -/
structure Tot {A : Type} (le : A → A → Bool) : Prop where
  tr : ∀ a b c, le a b = true → le b c = true → le a c = true
  to : ∀ a b, (le a b || le b a) = true
  an : ∀ a b, le a b = true → le b a = true → a = b
section
variable {A : Type} {le : A → A → Bool}
theorem ins_perm (x : A) : ∀ l : List A, (ins le x l).Perm (x :: l)
  | [] => .refl _
  | y :: r => by
    unfold ins
    split
    · exact .refl _
    · exact ((ins_perm x r).cons y).trans (.swap x y r)
theorem isort_perm : ∀ l : List A, (isort le l).Perm l
  | [] => .refl _
  | x :: r => (ins_perm x _).trans ((isort_perm r).cons x)
theorem ins_sorted (T : Tot le) (x : A) : ∀ l : List A, l.Pairwise (fun a b => le a b = true) → (ins le x l).Pairwise (fun a b => le a b = true)
  | [], _ => by simp [ins]
  | y :: r, h => by
    unfold ins
    rw [List.pairwise_cons] at h
    split
    · rename_i hx
      rw [List.pairwise_cons]
      refine ⟨fun b hb => ?_, List.pairwise_cons.mpr h⟩
      rcases List.mem_cons.mp hb with rfl | hb
      · exact hx
      · exact T.tr _ _ _ hx (h.1 b hb)
    · rename_i hx
      rw [List.pairwise_cons]
      refine ⟨fun b hb => ?_, ins_sorted T x r h.2⟩
      rcases List.mem_cons.mp ((ins_perm x r).mem_iff.mp hb) with rfl | hb
      · have := T.to b y
        cases q : le b y
        · rw [q] at this; simpa using this
        · exact absurd q hx
      · exact h.1 b hb
theorem isort_sorted (T : Tot le) : ∀ l : List A, (isort le l).Pairwise (fun a b => le a b = true)
  | [] => .nil
  | x :: r => ins_sorted T x _ (isort_sorted T r)
theorem isort_eq (T : Tot le) {l m : List A} (hp : m.Perm l) (hs : m.Pairwise (fun a b => le a b = true)) : m = isort le l :=
  List.Perm.eq_of_pairwise (fun a b _ _ h1 h2 => T.an a b h1 h2) hs (isort_sorted T l) (hp.trans (isort_perm l).symm)
theorem merge_eq (T : Tot le) (l : List A) : l.mergeSort le = isort le l := isort_eq T (List.mergeSort_perm l le) (List.pairwise_mergeSort T.tr T.to l)
end
abbrev leN (a b : Nm) : Bool := decide (a ≤ b)
abbrev leI (a b : Int) : Bool := decide (a ≤ b)
def lePN (a b : Nm × Nm) : Bool := decide (a.1 < b.1 ∨ (a.1 = b.1 ∧ a.2 ≤ b.2))
def lePI (a b : Nm × Int) : Bool := decide (a.1 < b.1 ∨ (a.1 = b.1 ∧ a.2 ≤ b.2))
theorem totN : Tot leN := ⟨fun a b c h1 h2 => by simp only [leN, decide_eq_true_eq, Fin.le_def] at *; omega, fun a b => by simp only [leN, Bool.or_eq_true, decide_eq_true_eq, Fin.le_def]; omega, fun a b h1 h2 => by simp only [leN, decide_eq_true_eq, Fin.le_def] at *; exact Fin.ext (by omega)⟩
theorem totI : Tot leI := ⟨fun a b c h1 h2 => by simp only [leI, decide_eq_true_eq] at *; omega, fun a b => by simp only [leI, Bool.or_eq_true, decide_eq_true_eq]; omega, fun a b h1 h2 => by simp only [leI, decide_eq_true_eq] at *; omega⟩
theorem totPN : Tot lePN := ⟨fun a b c h1 h2 => by simp only [lePN, decide_eq_true_eq, Fin.le_def, Fin.lt_def, Fin.ext_iff] at *; omega, fun a b => by simp only [lePN, Bool.or_eq_true, decide_eq_true_eq, Fin.le_def, Fin.lt_def, Fin.ext_iff]; omega, fun a b h1 h2 => by simp only [lePN, decide_eq_true_eq, Fin.le_def, Fin.lt_def, Fin.ext_iff] at *; exact Prod.ext (Fin.ext (by omega)) (Fin.ext (by omega))⟩
theorem totPI : Tot lePI := ⟨fun a b c h1 h2 => by simp only [lePI, decide_eq_true_eq, Fin.lt_def, Fin.ext_iff] at *; omega, fun a b => by simp only [lePI, Bool.or_eq_true, decide_eq_true_eq, Fin.lt_def, Fin.ext_iff]; omega, fun a b h1 h2 => by simp only [lePI, decide_eq_true_eq, Fin.lt_def, Fin.ext_iff] at *; exact Prod.ext (Fin.ext (by omega)) (by omega)⟩
/-- data that sorted and min take, in their order le -/
class Sd {A : Type} (f : A → D) (le : outParam (A → A → Bool)) : Prop where
  ok : ∀ x, pyOk 4 (f x) = true
  al : ∀ x y, W.alike (toPy 4 (f x)) (toPy 4 (f y)) = true
  so : (∀ x, ∃ z r, toPy 4 (f x) = .tuple (z :: r)) ∨ ∀ x, toPy 4 (f x) ≠ .none ∧ ∀ xs, toPy 4 (f x) ≠ .tuple xs
  ord : W.dataLe false (fun x => toPy 4 (f x)) = le
  to : Tot le
theorem lt_nm : ∀ a b : Nm, decide ((nm a).cps.toList < (nm b).cps.toList) = decide (a < b) := by decide +kernel
theorem le_nm : ∀ a b : Nm, decide ((nm a).cps.toList ≤ (nm b).cps.toList) = decide (a ≤ b) := by decide +kernel
theorem dl_str (x y : Str) : W.dataLt (.str x) (.str y) = decide (x.cps.toList < y.cps.toList) := by
  have e := congrFun (congrFun (W.dataLe_eq false (fun z : Str => (.str z : PyData))) y) x
  have e2 := congrFun (congrFun (W.dataLe_str (fun z : Str => z)) y) x
  rw [e2] at e
  have e3 : decide (y.cps.toList ≤ x.cps.toList) = !W.dataLt (.str x) (.str y) := e
  rw [← W.not_lt_str] at e3
  exact (Bool.not_inj e3).symm
theorem dl_int (x y : Int) : W.dataLt (.int x) (.int y) = decide (x < y) := by
  have e := congrFun (congrFun (W.dataLe_eq false (fun z : Int => (.int z : PyData))) y) x
  have e2 := congrFun (congrFun (W.dataLe_int (fun z : Int => z)) y) x
  rw [e2] at e
  have e3 : decide (y ≤ x) = !W.dataLt (.int x) (.int y) := e
  rw [← W.not_lt_int] at e3
  exact (Bool.not_inj e3).symm
instance : Sd eN leN := ⟨fun _ => rfl, fun _ _ => rfl, .inr fun _ => ⟨fun e => (nomatch e), fun _ e => (nomatch e)⟩, by
  show W.dataLe false (fun x => .str (nm x)) = leN
  rw [W.dataLe_str]
  funext a b
  exact le_nm a b, totN⟩
instance : Sd eI leI := ⟨fun _ => rfl, fun _ _ => rfl, .inr fun _ => ⟨fun e => (nomatch e), fun _ e => (nomatch e)⟩, W.dataLe_int (fun x => x), totI⟩
theorem alikeP {a b c d : PyData} (h : W.alike a c = true) (h' : W.alike b d = true) : W.alike (.tuple [a, b]) (.tuple [c, d]) = true := by
  unfold W.alike
  unfold W.alikeAll
  unfold W.alikeAll
  unfold W.alikeAll
  rw [h, h']; rfl
theorem nm_eqv (a b : Nm) : PyData.eqv (.str (nm a)) (.str (nm b)) = decide (a = b) := (Gd.dq (n := 0) (f := eN) a b)
instance : Sd (eP eN eN) lePN := ⟨fun _ => rfl, fun x y => alikeP rfl rfl, .inl fun x => ⟨_, _, rfl⟩, by
  rw [W.dataLe_eq]
  funext x y
  show (!W.dataLt (.tuple [.str (nm y.1), .str (nm y.2)]) (.tuple [.str (nm x.1), .str (nm x.2)])) = lePN x y
  rw [W.dataLt_pair rfl rfl, nm_eqv, nm_eqv, dl_str, dl_str, lt_nm, lt_nm]
  unfold lePN
  rw [Bool.eq_iff_iff]
  by_cases h1 : y.1 = x.1
  · by_cases h2 : y.2 = x.2
    · simp [h1, h2]
    · simp [h1, h2]
  · have h2 : ¬ x.1 = y.1 := fun e => h1 e.symm
    have h3 : ¬ x.1.val = y.1.val := fun e => h2 (Fin.ext e)
    simp only [h1, h2, decide_false, Bool.false_eq_true, if_false, Bool.not_eq_true', decide_eq_false_iff_not, decide_eq_true_eq, Fin.lt_def, false_and, or_false]
    omega, totPN⟩
instance : Sd (eP eN eI) lePI := ⟨fun _ => rfl, fun x y => alikeP rfl rfl, .inl fun x => ⟨_, _, rfl⟩, by
  rw [W.dataLe_eq]
  funext x y
  show (!W.dataLt (.tuple [.str (nm y.1), .int y.2]) (.tuple [.str (nm x.1), .int x.2])) = lePI x y
  have e : PyData.eqv (.int y.2) (.int x.2) = decide (y.2 = x.2) := Gd.dq (n := 0) (f := eI) _ _
  rw [W.dataLt_pair rfl rfl, nm_eqv, e, dl_str, dl_int, lt_nm]
  unfold lePI
  rw [Bool.eq_iff_iff]
  by_cases h1 : y.1 = x.1
  · by_cases h2 : y.2 = x.2
    · simp [h1, h2]
    · simp [h1, h2]
  · have h2 : ¬ x.1 = y.1 := fun e => h1 e.symm
    have h3 : ¬ x.1.val = y.1.val := fun e => h2 (Fin.ext e)
    simp only [h1, h2, decide_false, Bool.false_eq_true, if_false, Bool.not_eq_true', decide_eq_false_iff_not, decide_eq_true_eq, Fin.lt_def, false_and, or_false]
    omega, totPI⟩
end ND

/-! NDr -/
set_option Elab.async false
set_option linter.all false
set_option maxRecDepth 100000
set_option maxHeartbeats 4000000
namespace ND
open PySem PySem.Spec PyProof.Rows L2
/-! ### sorted(..) of a list or tuple of data -/
section
variable {prog : Program} {w : World} {A : Around} {E : Value → Shared → Prop} {s : Shared}
theorem collect_tup {l : Addr} {vs : List Value} {Q : List Value → Shared → Prop} (hl : IsTup s.heap l vs.toArray)
    (h : Q vs { s with heap := (s.heap.push (seqObj "list" #[] 0)).update s.heap.objs.size (Obj.mapSeq (· ++ vs.toArray)) }) (hsz : vs.length ≤ sizeLine) :
    wpAny (model prog w) A (collect (.ref l)) Q E s := by
  obtain ⟨o, ho, hc, n, hd⟩ := id hl
  unfold collect
  refine wpAny_bind (wpAny_runValue (codeAny_builtin entry_proto_collect' ?_))
  show wpAny _ _ (do again (.builtin "list.__iadd__" ⟨[← newList [], .ref l], []⟩)) _ _ s
  refine wpAny_bind (wpAny_newList (wpAny_pure ⟨Code.quiet_builtin _ (by decide +kernel), codeAny_builtin entry_list_iadd' ?_⟩))
  show wpAny _ _ (Builtin.List.listExtendWith (.ref s.heap.objs.size) (.ref l) (.ref s.heap.objs.size)) _ _ { s with heap := s.heap.push (seqObj "list" #[] 0) }
  unfold Builtin.List.listExtendWith
  have ho' : (s.heap.push (seqObj "list" #[] 0)).get? l = some o := Heap.get?_push_of_some _ ho
  refine wpAny_bind (wpAny_typeOf (T := "tuple") ⟨o, ho', hc⟩ ?_)
  have ht : (Value.type "tuple" == Value.type "tuple") = true := by rfl
  rw [if_pos (by rw [ht]; simp)]
  refine wpAny_bind (listItems_at ho' hd ?_)
  refine wpAny_bind (listItems_at (xs := #[]) (n := 0) (Heap.get?_push_size _ rfl) rfl ?_)
  rw [if_neg (by simp)]
  refine wpAny_bind (listUpdate_at (xs := #[]) (n := 0) (Heap.get?_push_size _ rfl) rfl ?_ (Nat.zero_le _) (by show (#[] ++ vs.toArray).size ≤ sizeLine + 1; simp only [Array.size_append, List.size_toArray, List.length_nil]; omega))
  refine wpAny_pure ?_
  show wpAny (model prog w) A (do
      let o ← load s.heap.objs.size
      match o.data with
      | .seq xs _ => pure xs.toList
      | _ => unsupported "internal:collect") Q E { s with heap := (s.heap.push (seqObj "list" #[] 0)).update s.heap.objs.size (Obj.mapSeq (· ++ vs.toArray)) }
  refine wpAny_bind (wpAny_load (get?_update_seq (Heap.get?_push_size _ rfl) _) ?_)
  show wpAny _ _ (pure ((#[] : Array Value) ++ vs.toArray).toList) Q E _
  rw [show ((#[] : Array Value) ++ vs.toArray).toList = vs by simp]
  exact wpAny_pure h
theorem sorted_of_sortT {l : Addr} {vs : List Value} {kw : List (Str × Value)} {Q : Value → Shared → Prop} (hl : IsTup s.heap l vs.toArray) (hL : vs.length ≤ sizeLine) (ha1 : argsOk "sorted" ⟨[.ref l], kw⟩) (ha2 : ∀ x, argsOk "list.sort" ⟨[.ref x], kw⟩)
    (body : ∀ E' : Value → Shared → Prop, wpAny (model prog w) A.in1.in1 (Builtin.«list.sort» ⟨[.ref (s.heap.objs.size + 1)], kw⟩) (fun f s' => f = .done (.ret .none) ∧ Q (.ref (s.heap.objs.size + 1)) s') E' { s with heap := W.copyHeap s.heap vs }) :
    wpAny (model prog w) A (call (.builtin "sorted") [.ref l] kw) Q E s := by
  refine call_function_entry_kw kind_sorted plain_sorted entry_sorted ha1 ?_
  unfold Builtin.«sorted»
  refine wpAny_bind (m := checkCount "sorted" 1 1 _) (wpAny_pure ?_)
  refine wpAny_bind (collect_tup hl ?_ hL)
  refine wpAny_bind (wpAny_newList ?_ hL)
  have hsz : ((s.heap.push (seqObj "list" #[] 0)).update s.heap.objs.size (Obj.mapSeq (· ++ vs.toArray))).objs.size = s.heap.objs.size + 1 := by
    rw [Heap.size_update, size_push']
  show wpAny _ _ _ _ _ { s with heap := W.copyHeap s.heap vs }
  rw [hsz]
  refine wpAny_bind (wpAny_holding (wpAny_call_entry_kw slot_list_sort ⟨_, W.copyHeap_at s.heap vs, rfl⟩ entry_list_sort ?body (ha2 _)))
  case body =>
    show wpAny (model prog w) A.in1.in1 (Builtin.«list.sort» ⟨[.ref (s.heap.objs.size + 1)], kw⟩) _ _ _
    refine wpAny_mono (body _) (fun f s' hf => ?_) fun _ _ e => e
    obtain ⟨rfl, hq⟩ := hf
    exact ⟨_, rfl, wpAny_pure ⟨_, rfl, hq⟩⟩
theorem sorted_dataT {β : Type} {vs : List Value} {bs : List β} {enc : β → PyData} {R : Value → β → Prop} {l : Addr} {Q : Value → Shared → Prop} (hl : IsTup s.heap l vs.toArray) (e : W.EachIs R vs bs) (er : W.EachIs (fun v b => ∃ as, Reads s.heap v (enc b) as) vs bs) (hal : W.AllAlike (bs.map enc)) (hk : W.Sortable (bs.map enc)) (hL : bs.length ≤ sizeLine)
    (hu : ∀ b, b ∈ bs → A.units + 2 + (enc b).depth < cLine) (h : ∀ out, out.length = bs.length → W.EachIs R out (bs.mergeSort (W.dataLe false enc)) → Q (.ref (s.heap.objs.size + 1)) { s with heap := sortedAll s.heap vs (List.toArray out) }) :
    wpAny (model prog w) A (call (.builtin "sorted") [.ref l]) Q E s := by
  have er' : W.EachIs (fun v b => ∃ as, Reads (W.sortingHeap (W.copyHeap s.heap vs) (s.heap.objs.size + 1) vs) v (enc b) as) vs bs := er.mono fun _ _ ⟨as, r⟩ => ⟨as, PyProof.Rows.Reads.keeps (fun _ _ => W.sorting_copy_old) r⟩
  refine sorted_of_sortT hl (by rw [e.length]; exact hL) (args_sorted1 _) (fun _ => args_list_sort _) fun _ => ?_
  refine W.list_sort_vals (s := { s with heap := W.copyHeap s.heap vs }) (W.copyHeap_at s.heap vs) (W.SortsAt.data (s := { s with heap := W.sortingHeap (W.copyHeap s.heap vs) (s.heap.objs.size + 1) vs }) (W.each_map (R := fun v d => ∃ as, Reads (W.sortingHeap (W.copyHeap s.heap vs) (s.heap.objs.size + 1) vs) v d as) enc er') hal hk (W.bound_map hu)) (by rw [e.length]; exact hL) ⟨rfl, ?_⟩
  exact h _ (by rw [W.sortVals_length false rfl]; exact e.length) (W.sortVals_data false e er' hal)
end
section
variable {X : Cx} {A : Type} {f : A → D} {le : A → A → Bool}
/-- what a sort leaves, by the abstract values -/
theorem each_of {pins : List (Addr × Obj)} {σ : Sl} {F H : Hp} {s : Shared} (I : Inv X pins σ H s) (fh : Same F H) [Sd f le] : ∀ {l : List A} {vs : List V} {us : List Value}, Reps X.K F vs (l.map f) → Vals vs us →
    W.EachIs (fun v (b : V × A) => RelV b.1 v ∧ Rep X.K F b.1 (f b.2)) us (vs.zip l) ∧ W.EachIs (fun v (b : V × A) => ∃ as, Reads s.heap v (toPy 4 (f b.2)) as) us (vs.zip l) ∧ (vs.zip l).map (·.2) = l
  | [], _, _, .nil, .nil => ⟨.nil, .nil, rfl⟩
  | a :: l, _, _, .cons h r, .cons v rv => by
    obtain ⟨h1, h2, h3⟩ := each_of I fh r rv
    exact ⟨.cons ⟨v, h⟩ h1, .cons (reads_of I 4 _ _ _ (h.mono fh) (Sd.ok a) v) h2, by rw [List.zip_cons_cons, List.map_cons, h3]⟩
theorem each_back {K : PySem.W.Frag} {H : Hp} : ∀ {bs : List (V × A)} {us : List Value}, W.EachIs (fun v (b : V × A) => RelV b.1 v ∧ Rep K H b.1 (f b.2)) us bs → Vals (bs.map (·.1)) us ∧ Reps K H (bs.map (·.1)) ((bs.map (·.2)).map f)
  | [], _, .nil => ⟨.nil, .nil⟩
  | _ :: _, _, .cons h r => ⟨.cons h.1 (each_back r).1, .cons h.2 (each_back r).2⟩
def rSrt (K : PySem.W.Frag) (f : A → D) (le : A → A → Bool) : List V → Hp → VK → Prop := fun xs H Q => ∃ (F : Hp) (a : Addr) (vs : List V) (l : List A), xs = [.ref a] ∧ Same F H ∧ (SqL K H a vs ∨ SqT K H a vs) ∧ Reps K F vs (l.map f) ∧ ∀ p ws, H p = none → Reps K F ws ((isort le l).map f) → Q (.ref p) (upd H p (.lst ws))
theorem cr_srt [Sd f le] (hu : X.A.units + 64 < cLine) : CallR X (.builtin "sorted") (rSrt X.K f le) := by
  intro pins s σ H xs us Q I r h
  obtain ⟨F, a, vs, l, rfl, fh, hs, hr, q⟩ := h
  rw [Vals.ref1 r]
  have hal : W.AllAlike ((vs.zip l).map fun b => toPy 4 (f b.2)) := W.AllAlike.of fun b b' => Sd.al b.2 b'.2
  have hk : W.Sortable ((vs.zip l).map fun b => toPy 4 (f b.2)) := by
    rcases (Sd.so (f := f)) with z | z
    · exact W.Sortable.tuples fun b => z b.2
    · exact W.Sortable.others fun b => z b.2
  have hlen : (vs.zip l).length = vs.length := by rw [List.length_zip, hr.length, List.length_map]; simp
  have dep : ∀ b ∈ vs.zip l, X.A.units + 2 + (toPy 4 (f b.2)).depth < cLine := fun b _ => by have := toPy_depth 4 (f b.2); omega
  have fin : ∀ (its : List Value), Vals vs its → vs.length ≤ sizeLine → ∀ out : List Value, W.EachIs (fun v (b : V × A) => RelV b.1 v ∧ Rep X.K F b.1 (f b.2)) out ((vs.zip l).mergeSort (W.dataLe false fun b => toPy 4 (f b.2))) →
      EP X pins σ Q (.ref (s.heap.objs.size + 1)) { s with heap := sortedAll s.heap its (List.toArray out) } := by
    intro its rv hz out ho
    obtain ⟨b1, b2⟩ := each_back ho
    obtain ⟨ep, he'⟩ := PyProof.Rows.sortedAll_at s.heap its (List.toArray out)
    have hm : ((vs.zip l).mergeSort (W.dataLe false fun b => toPy 4 (f b.2))).map (·.2) = isort le l := by
      rw [List.map_mergeSort (s := le) (fun a _ b _ => congrFun (congrFun (Sd.ord (f := f)) a.2) b.2), (each_of I fh hr rv).2.2, merge_eq (Sd.to (f := f))]
    rw [hm] at b2
    have hl2 : (((vs.zip l).mergeSort (W.dataLe false fun b => toPy 4 (f b.2))).map (·.1)).length ≤ sizeLine := by
      rw [List.length_map, List.length_mergeSort, hlen]; exact hz
    exact ⟨.ref _, upd H (s.heap.objs.size + 1) (.lst _), I.laid (t' := s.toks) (fun _ _ => PyProof.Rows.sortedAll_old) (Nat.le_succ _) ⟨hl2, out, ep, b1, he'⟩, rfl, q _ _ (I.hok.fresh (Nat.le_succ _)) b2⟩
  rcases hs with hs | hs
  · obtain ⟨its, rv, hl, hz⟩ := I.list hs
    obtain ⟨e1, e2, _⟩ := each_of I fh hr rv
    exact W.sorted_data hl.isList e1 e2 hal hk (by rw [hlen]; exact hz) dep fun out _ ho => fin its rv hz out ho
  · obtain ⟨its, rv, hl, hz⟩ := I.tuple hs
    obtain ⟨e1, e2, _⟩ := each_of I fh hr rv
    exact sorted_dataT hl e1 e2 hal hk (by rw [hlen]; exact hz) dep fun out _ ho => fin its rv hz out ho
end
end ND

/-! NDs -/
set_option Elab.async false
set_option linter.all false
set_option maxRecDepth 100000
set_option maxHeartbeats 4000000
namespace ND
open PySem PySem.Spec PyProof.Rows L2
/-! ### typed sorts -/
section
variable {X : Cx} {δ δ1 : DEnv} {e : Expr} {p pos : Pos} {A : Type} {f : A → D} {le : A → A → Bool} {l : List A}
theorem n_srtL [Sd f le] (G : Cg X) (ha : EvD X δ e (eL f l) δ1) (hg : Gl X "sorted" := by rfl) (hs : starEach [e] X.env = (false, eval e X.env) :: starEach [] X.env := by rfl) : NvD X δ (.Call (.Name "sorted" p) [e] [] pos) ((isort le l).map f) δ1 :=
  n_callB (cr_srt (f := f) G.hu) hg G.fr.sorted (by decide +kernel) (a_cons ha a_nil hs) (fun vs F H Q fh rs k => by
    cases rs with
    | cons r1 rs =>
      cases rs
      obtain ⟨a, ws, rfl, h1, q1⟩ := r1.seqL
      exact ⟨F, a, ws, l, rfl, fh, .inl (SqL.of (fh _ _ h1)), q1, fun q us hq hr => k q us F _ hq (Same.none fh hq) (Grow.newH fh hq) upd_same hr⟩) (he := hs)
theorem n_srtT [Sd f le] (G : Cg X) (ha : EvD X δ e (eT f l) δ1) (hg : Gl X "sorted" := by rfl) (hs : starEach [e] X.env = (false, eval e X.env) :: starEach [] X.env := by rfl) : NvD X δ (.Call (.Name "sorted" p) [e] [] pos) ((isort le l).map f) δ1 :=
  n_callB (cr_srt (f := f) G.hu) hg G.fr.sorted (by decide +kernel) (a_cons ha a_nil hs) (fun vs F H Q fh rs k => by
    cases rs with
    | cons r1 rs =>
      cases rs
      obtain ⟨a, ws, rfl, h1, q1⟩ := r1.seqT
      exact ⟨F, a, ws, l, rfl, fh, .inr (h1.up fh).sq, q1, fun q us hq hr => k q us F _ hq (Same.none fh hq) (Grow.newH fh hq) upd_same hr⟩) (he := hs)
/-- of a dict's keys -/
theorem rising_nm : ∀ (x : Nm) (r : List Nm), risingS (nm x) (r.map nm) = true → (x :: r).Pairwise (fun a b => leN a b = true)
  | x, [], _ => by simp
  | x, y :: r, h => by
    have h' : (!ltCps (nm y).cps.toList (nm x).cps.toList && risingS (nm y) (r.map nm)) = true := h
    rw [Bool.and_eq_true] at h'
    have hr := rising_nm y r h'.2
    have hxy : leN x y = true := by
      have tab : ∀ x y : Nm, (!ltCps (nm y).cps.toList (nm x).cps.toList) = true → leN x y = true := by decide +kernel
      exact tab x y h'.1
    rw [List.pairwise_cons]
    refine ⟨fun b hb => ?_, hr⟩
    rcases List.mem_cons.mp hb with rfl | hb
    · exact hxy
    · exact totN.tr _ _ _ hxy ((List.pairwise_cons.mp hr).1 b hb)
theorem sorted_nm {ys : List Str} {ks : List Nm} (hp : ys.Perm (ks.map nm)) (hs : sortedS ys = true) : ys = (isort leN ks).map nm := by
  have ex : ∀ ys : List Str, (∀ y ∈ ys, y ∈ ks.map nm) → ∃ zs : List Nm, ys = zs.map nm := by
    intro ys
    induction ys with
    | nil => exact fun _ => ⟨[], rfl⟩
    | cons y r ih =>
      intro h
      obtain ⟨zs, rfl⟩ := ih fun y hy => h y (List.mem_cons_of_mem _ hy)
      obtain ⟨z, _, rfl⟩ := List.mem_map.mp (h y List.mem_cons_self)
      exact ⟨z :: zs, rfl⟩
  obtain ⟨zs, rfl⟩ := ex ys fun y hy => hp.mem_iff.mp hy
  have hz : zs.Perm ks := by
    have inj : ∀ (a b : List Nm), a.map nm = b.map nm → a = b := fun a b e => List.map_inj_right (fun x y h => nm_inj x y h) |>.mp e
    obtain ⟨l', h1, h2⟩ : ∃ l' : List Nm, l'.Perm ks ∧ l'.map nm = zs.map nm := by
      have gen : ∀ {a b : List Str}, a.Perm b → ∀ ks : List Nm, b = ks.map nm → ∃ l' : List Nm, l'.Perm ks ∧ l'.map nm = a := by
        intro a b h
        induction h with
        | nil => intro ks e; exact ⟨ks, .refl _, e.symm⟩
        | cons x _ ih =>
          intro ks e
          cases ks with
          | nil => cases e
          | cons k ks =>
            rw [List.map_cons] at e
            injection e with e1 e2
            obtain ⟨l', q1, q2⟩ := ih ks e2
            exact ⟨k :: l', q1.cons k, by rw [List.map_cons, q2, e1]⟩
        | swap x y l =>
          intro ks e
          match ks, e with
          | k1 :: k2 :: ks, e =>
            rw [List.map_cons, List.map_cons] at e
            injection e with e1 e2
            injection e2 with e2 e3
            exact ⟨k2 :: k1 :: ks, .swap _ _ _, by rw [List.map_cons, List.map_cons, e1, e2, e3]⟩
        | trans _ _ ih1 ih2 =>
          intro ks e
          obtain ⟨l1, q1, q2⟩ := ih2 ks e
          obtain ⟨l2, q3, q4⟩ := ih1 l1 q2.symm
          exact ⟨l2, q3.trans q1, q4⟩
      exact gen hp ks rfl
    rw [← inj _ _ h2]; exact h1
  have hw : zs.Pairwise (fun a b => leN a b = true) := by
    cases zs with
    | nil => exact .nil
    | cons z r => exact rising_nm z r hs
  rw [isort_eq totN hz hw]
theorem n_srtD {d : List (Nm × A)} (G : Cg X) (hl : decide (d.length < 64) = true) (ha : EvD X δ e (eM f d) δ1) (hg : Gl X "sorted" := by rfl) (hs : starEach [e] X.env = (false, eval e X.env) :: starEach [] X.env := by rfl) : NvD X δ (.Call (.Name "sorted" p) [e] [] pos) ((isort leN (d.map (·.1))).map eN) δ1 :=
  n_callB (call_sortedD G.calm) hg G.fr.sorted (by decide +kernel) (a_cons ha a_nil hs) (fun vs F H Q fh rs k => by
    cases rs with
    | cons r1 rs =>
      cases rs
      obtain ⟨a, kvs, rfl, h1, q1⟩ := r1.dict
      refine ⟨a, kvs, (d.map (·.1)).map nm, rfl, fh.rd h1, ?_, by rw [List.length_map, List.length_map]; exact of_decide_eq_true hl, fun ys q hp hso hq => ?_⟩
      · rw [repK_keys q1, List.map_map, List.map_map, List.map_map]; rfl
      · rw [sorted_nm hp hso]
        refine k q _ F _ hq (Same.none fh hq) (Grow.newH fh hq) upd_same ?_
        have all : ∀ ns : List Nm, Reps X.K F ((ns.map nm).map V.str) (ns.map eN) := fun ns => by
          induction ns with
          | nil => exact .nil
          | cons n r ih => exact .cons (.str _) ih
        exact all _) (he := hs)
end
/-! ### min, max -/
def mnL {A : Type} (le : A → A → Bool) : List A → Option A
  | [] => none
  | x :: r => some (r.foldl (fun a y => if le a y then a else y) x)
def mxL {A : Type} (le : A → A → Bool) : List A → Option A
  | [] => none
  | x :: r => some (r.foldl (fun a y => if le y a then a else y) x)
section
variable {X : Cx} {A : Type} {f : A → D} {le : A → A → Bool}
theorem dl_le [Sd f le] (a b : A) : W.dataLt (toPy 4 (f b)) (toPy 4 (f a)) = !le a b := by
  have e := congrFun (congrFun (Sd.ord (f := f)) a) b
  have e2 := congrFun (congrFun (W.dataLe_eq false (fun x => toPy 4 (f x))) a) b
  rw [e] at e2
  have e3 : le a b = !W.dataLt (toPy 4 (f b)) (toPy 4 (f a)) := e2
  rw [e3, Bool.not_not]
theorem minD_map [Sd f le] : ∀ (r : List A) (x : A), W.minD (toPy 4 (f x)) (r.map fun y => toPy 4 (f y)) = toPy 4 (f (r.foldl (fun a y => if le a y then a else y) x))
  | [], _ => rfl
  | y :: r, x => by
    show W.minD (if W.dataLt (toPy 4 (f y)) (toPy 4 (f x)) then toPy 4 (f y) else toPy 4 (f x)) (r.map fun y => toPy 4 (f y)) = _
    rw [dl_le, List.foldl_cons]
    cases le x y with
    | true => exact minD_map r x
    | false => exact minD_map r y
theorem maxD_map [Sd f le] : ∀ (r : List A) (x : A), W.maxD (toPy 4 (f x)) (r.map fun y => toPy 4 (f y)) = toPy 4 (f (r.foldl (fun a y => if le y a then a else y) x))
  | [], _ => rfl
  | y :: r, x => by
    show W.maxD (if W.dataLt (toPy 4 (f x)) (toPy 4 (f y)) then toPy 4 (f y) else toPy 4 (f x)) (r.map fun y => toPy 4 (f y)) = _
    rw [dl_le, List.foldl_cons]
    cases le y x with
    | true => exact maxD_map r x
    | false => exact maxD_map r y
theorem alikeAll_of [Sd f le] (l : List A) : W.AlikeAll (l.map fun y => toPy 4 (f y)) := by
  refine ⟨fun x hx y hy => ?_, fun x hx => ?_⟩
  · obtain ⟨a, _, rfl⟩ := List.mem_map.mp hx
    obtain ⟨b, _, rfl⟩ := List.mem_map.mp hy
    exact Sd.al a b
  · obtain ⟨a, _, rfl⟩ := List.mem_map.mp hx
    rcases (Sd.so (f := f)) with z | z
    · obtain ⟨y, r, e⟩ := z a
      rw [e]; exact fun e => (nomatch e)
    · exact (z a).1
def rMin (K : PySem.W.Frag) (f : A → D) (m : List A → Option A) : List V → Hp → VK → Prop := fun xs H Q => ∃ (F : Hp) (a : Addr) (vs : List V) (l : List A) (y : A), xs = [.ref a] ∧ Same F H ∧ SqL K H a vs ∧ Reps K F vs (l.map f) ∧ m l = some y ∧ ∀ v, Rep K F v (f y) → Q v H
theorem pick [DecidableEq A] [Gd 4 f] [Sd f le] {pins : List (Addr × Obj)} {σ : Sl} {F H : Hp} {s : Shared} (I : Inv X pins σ H s) (fh : Same F H) {vs : List V} {its : List Value} {l : List A} {y : A} {Q : VK} {i : Nat} {v : Value} {h' : Heap} {tk : Nat} {bs : List Addr} (rv : Vals vs its) (hr : Reps X.K F vs (l.map f))
    (hi : its.toArray[i]? = some v) (rd : Reads h' v (toPy 4 (f y)) bs) (kp : ∀ b o, s.heap.get? b = some o → h'.get? b = some o) (q : ∀ v, Rep X.K F v (f y) → Q v H) : EP X pins σ Q v { s with heap := h', toks := tk } := by
  rw [List.getElem?_toArray] at hi
  obtain ⟨x, hx, rx⟩ : ∃ x, vs[i]? = some x ∧ RelV x v := by
    have gen : ∀ {vs : List V} {its : List Value} {i : Nat}, Vals vs its → its[i]? = some v → ∃ x, vs[i]? = some x ∧ RelV x v := by
      intro vs its i rv
      induction rv generalizing i with
      | nil => intro h; simp at h
      | cons a b ih =>
        intro h
        cases i with
        | zero => simp at h; subst h; exact ⟨_, rfl, a⟩
        | succ i => simpa using ih (by simpa using h)
    exact gen rv hi
  obtain ⟨d, hd, rd2⟩ := hr.get' hx
  rw [List.getElem?_map] at hd
  obtain ⟨z, hz, rfl⟩ := Option.map_eq_some_iff.mp hd
  obtain ⟨as, r3⟩ := reads_of I 4 _ _ _ (rd2.mono fh) (Sd.ok z) rx
  have e := ((Reads.keeps kp r3).unique _ _ rd).1
  have ez : z = y := by
    have h1 := Gd.dq (n := 4) (f := f) z y
    have h2 := Gd.dq (n := 4) (f := f) y y
    rw [e, h2] at h1
    simpa using h1.symm
  subst ez
  exact ⟨x, H, I.kept kp, rx, q x rd2⟩
theorem readsL [Sd f le] {pins : List (Addr × Obj)} {σ : Sl} {F H : Hp} {s : Shared} (I : Inv X pins σ H s) (fh : Same F H) {vs : List V} {its : List Value} {l : List A} (rv : Vals vs its) (hr : Reps X.K F vs (l.map f)) : ∃ as, ReadsAll s.heap its (l.map fun y => toPy 4 (f y)) as := by
  obtain ⟨as, h⟩ := readsAll_of I 4 _ _ _ (hr.mono fh) (by rw [List.all_map]; exact List.all_eq_true.mpr fun x _ => Sd.ok x) rv
  rw [List.map_map] at h
  exact ⟨as, h⟩
theorem depL [Sd f le] (l : List A) : PyData.depthAll (l.map fun y => toPy 4 (f y)) ≤ 4 := by
  have := toPy_depthAll 4 (l.map f)
  rw [List.map_map] at this
  exact this
theorem cr_min [DecidableEq A] [Gd 4 f] [Sd f le] (hc : X.calm = true) (hu : X.A.units + 64 < cLine) : CallR X (.builtin "min") (rMin X.K f (mnL le)) := by
  intro pins s σ H xs us Q I r h
  obtain ⟨F, a, vs, l, y, rfl, fh, hs, hr, hy, q⟩ := h
  rw [Vals.ref1 r]
  obtain ⟨its, rv, hl, hz⟩ := I.list hs
  obtain ⟨as, ra⟩ := readsL I fh rv hr
  cases l with
  | nil => cases hy
  | cons x l =>
    have e := Option.some.inj hy
    have dp := depL (f := f) (x :: l)
    refine W.min_list_data (vs := its.toArray) (x := toPy 4 (f x)) (xs := l.map fun y => toPy 4 (f y)) (I.ok.hd hc) hl.isList (by simpa using ra) (alikeAll_of (x :: l)) (by rw [List.map_cons] at dp; omega) fun i v h' tk bs hi rd kp => ?_
    rw [minD_map, e] at rd
    exact pick I fh rv hr hi rd kp q
theorem cr_max [DecidableEq A] [Gd 4 f] [Sd f le] (hc : X.calm = true) (hu : X.A.units + 64 < cLine) : CallR X (.builtin "max") (rMin X.K f (mxL le)) := by
  intro pins s σ H xs us Q I r h
  obtain ⟨F, a, vs, l, y, rfl, fh, hs, hr, hy, q⟩ := h
  rw [Vals.ref1 r]
  obtain ⟨its, rv, hl, hz⟩ := I.list hs
  obtain ⟨as, ra⟩ := readsL I fh rv hr
  cases l with
  | nil => cases hy
  | cons x l =>
    have e := Option.some.inj hy
    have dp := depL (f := f) (x :: l)
    refine W.max_list_data (vs := its.toArray) (x := toPy 4 (f x)) (xs := l.map fun y => toPy 4 (f y)) (I.ok.hd hc) hl.isList (by simpa using ra) (alikeAll_of (x :: l)) (by rw [List.map_cons] at dp; omega) fun i v h' tk bs hi rd kp => ?_
    rw [maxD_map, e] at rd
    exact pick I fh rv hr hi rd kp q
/-- max(list, default=None) -/
def rMaxD (K : PySem.W.Frag) (f : A → D) (m : List A → Option A) : List V → List V → Hp → VK → Prop := fun xs zs H Q => ∃ (F : Hp) (a : Addr) (vs : List V) (l : List A), xs = [.ref a] ∧ zs = [.non] ∧ Same F H ∧ SqL K H a vs ∧ Reps K F vs (l.map f) ∧ ∀ v, Rep K F v (eO f (m l)) → Q v H
theorem cr_maxD [DecidableEq A] [Gd 4 f] [Sd f le] (hc : X.calm = true) (hu : X.A.units + 64 < cLine) : CallRK X (.builtin "max") ["default"] (rMaxD X.K f (mxL le)) := by
  intro pins s σ H xs zs us ws Q I r rz h
  obtain ⟨F, a, vs, l, rfl, rfl, fh, hs, hr, q⟩ := h
  rw [Vals.ref1 r]
  obtain ⟨z, rfl, rz2⟩ := vals1 rz
  have ez : z = .none := rz2
  subst ez
  obtain ⟨its, rv, hl, hz⟩ := I.list hs
  obtain ⟨as, ra⟩ := readsL I fh rv hr
  have dp := depL (f := f) l
  refine W.max_list_default (vs := its.toArray) (xs := l.map fun y => toPy 4 (f y)) (d := .none) (I.ok.hd hc) hl.isList (by simpa using ra) (alikeAll_of l) (by omega) (fun e h' tk kp => ?_) fun y ys i v h' tk bs e hi rd kp => ?_
  · have el : l = [] := List.map_eq_nil_iff.mp e
    subst el
    exact ⟨.non, H, I.kept kp, rfl, q _ .non⟩
  · cases l with
    | nil => cases e
    | cons x l =>
      rw [List.map_cons] at e
      injection e with e1 e2
      subst e1; subst e2
      rw [maxD_map] at rd
      exact pick I fh rv hr hi rd kp fun v rv => q v rv
end
section
variable {X : Cx} {δ δ1 : DEnv} {e : Expr} {p pos : Pos} {A : Type} {f : A → D} {le : A → A → Bool} {l : List A} {y : A} [DecidableEq A]
theorem v_min [Gd 4 f] [Sd f le] (G : Cg X) (hy : mnL le l = some y) (ha : EvD X δ e (eL f l) δ1) (hg : Gl X "min" := by rfl) (hs : starEach [e] X.env = (false, eval e X.env) :: starEach [] X.env := by rfl) : EvD X δ (.Call (.Name "min" p) [e] [] pos) (f y) δ1 :=
  e_callB (cr_min (f := f) G.calm G.hu) hg G.fr.min (by decide +kernel) (a_cons ha a_nil hs) (fun vs F H Q fh rs k => by
    cases rs with
    | cons r1 rs =>
      cases rs
      obtain ⟨a, ws, rfl, h1, q1⟩ := r1.seqL
      exact ⟨F, a, ws, l, y, rfl, fh, SqL.of (fh _ _ h1), q1, hy, fun v rv => k v F H (Grow.refl fh) rv⟩) (he := hs)
theorem v_max [Gd 4 f] [Sd f le] (G : Cg X) (hy : mxL le l = some y) (ha : EvD X δ e (eL f l) δ1) (hg : Gl X "max" := by rfl) (hs : starEach [e] X.env = (false, eval e X.env) :: starEach [] X.env := by rfl) : EvD X δ (.Call (.Name "max" p) [e] [] pos) (f y) δ1 :=
  e_callB (cr_max (f := f) G.calm G.hu) hg G.fr.max (by decide +kernel) (a_cons ha a_nil hs) (fun vs F H Q fh rs k => by
    cases rs with
    | cons r1 rs =>
      cases rs
      obtain ⟨a, ws, rfl, h1, q1⟩ := r1.seqL
      exact ⟨F, a, ws, l, y, rfl, fh, SqL.of (fh _ _ h1), q1, hy, fun v rv => k v F H (Grow.refl fh) rv⟩) (he := hs)
/-- of an own list -/
theorem v_minO {x : Str} (j : Nat) [Gd 4 f] [Sd f le] (G : Cg X) (hy : mnL le l = some y) (hi : look δ j = .own (eL f l) ∨ look δ j = .par (eL f l)) (hN : X.N[j]? = some x := by rfl) (hv : Vis X.env.scope x := by first | exact .inl rfl | exact .inr (.inl rfl) | exact .inr (.inr rfl)) (hg : Gl X "min" := by rfl) (hs : starEach [.Name x pos] X.env = (false, eval (.Name x pos) X.env) :: starEach [] X.env := by rfl)
    (hd : (x == ("__debug__" : Str)) = false := by decide) (hcd : (x == ("__classdict__" : Str)) = false := by decide) {p3 : Pos} : EvD X δ (.Call (.Name "min" p3) [.Name x pos] [] p) (f y) δ := by
  refine ⟨Kd.refl _, fun α σ H F Q st k => .of (pe_callB (cr_min (f := f) G.calm G.hu) hg G.fr.min (by decide +kernel) (pa_cons (pe_var hN hv hd hcd) pa_nil hs) (he := hs)) ?_⟩
  obtain ⟨q1, vs, q2, q3, _⟩ := own_rep st hi
  exact ⟨_, q1, F, _, vs, l, y, rfl, st.fh, SqL.of q2, q3, hy, fun v rv => k v F H .refl st rv⟩
theorem v_maxD {j} {kp p2 : Pos} [Gd 4 f] [Sd f le] (G : Cg X) (ha : EvD X δ e (eL f l) δ1) (hg : Gl X "max" := by rfl) (hs : starEach [e] X.env = (false, eval e X.env) :: starEach [] X.env := by rfl)
    (he : backTo pos (starEach (e :: []) X.env) = (false, eval e X.env) :: backTo pos (starEach [] X.env) := by rfl) (hpl : (backTo pos (starEach (e :: []) X.env)).any (·.1) = false := by rfl) : EvD X δ (.Call (.Name "max" p) [e] [⟨some "default", .Constant .none j p2, kp⟩] pos) (eO f (mxL le l)) δ1 := by
  refine ⟨ha.kd, fun α σ H F Q st k => .of (pe_callBK (cr_maxD (f := f) G.calm G.hu) hg G.fr.max (by decide +kernel) (pa_cons pe_tw pa_nil hs) (pk_cons pe_non pk_nil) (he := he) (hpl := hpl)) ?_⟩
  refine ha.run α σ H F _ st fun v F1 H1 s1 st1 r1 => ?_
  obtain ⟨a, ws, rfl, h1, q1⟩ := r1.seqL
  exact ⟨F1, a, ws, l, rfl, rfl, st1.fh, SqL.of (st1.fh _ _ h1), q1, fun v rv => k v F1 H1 s1 st1 rv⟩
end
end ND

/-! NDt -/
set_option Elab.async false
set_option linter.all false
set_option maxRecDepth 100000
set_option maxHeartbeats 4000000
namespace ND
open PySem PySem.Spec PyProof.Rows L2
section
variable (P : Program) (w : World) (K : PySem.W.Frag) (mg : Str → Option Value) (base : Heap)
/-- a def of the text under its name -/
def Def1 (x : Str) (st : Stmt) : Prop := ∃ f fd, mg x = some (.ref f) ∧ FunD K x x (defArgs st) (defBody st) (defScope st) [] [] f fd
structure Can (x : Str) (ps : List Str) (k : Nat) (T : FT) : Prop where
  ex : ∃ f fd, FnOk P w K mg base CX0 k f fd ps (spF K T) ∧ mg x = some (.ref f) ∧ PySem.W.keepIn K (.ref f) = true ∧ Binds K fd ps []
structure CanN (x : Str) (ps : List Str) (k : Nat) (T : List SD → List D → Prop) : Prop where
  ex : ∃ f fd, FnOk P w K mg base CX0 k f fd ps (spN K T) ∧ mg x = some (.ref f) ∧ PySem.W.keepIn K (.ref f) = true ∧ Binds K fd ps []
end
theorem FunD.fun {K : PySem.W.Frag} {x : Str} {st : Stmt} {f : Addr} {fd : FuncData} (F : FunD K x x (defArgs st) (defBody st) (defScope st) [] [] f fd) : Fun K x x st f fd := by
  obtain ⟨oc, od, dV, kV, doc, pm, an, cdv, ct, osl, e, lk, hc, hd, _⟩ := F.ex
  rcases hd with ⟨_, rfl⟩ | ⟨h, _⟩
  · exact ⟨⟨oc, od, kV, doc, pm, an, cdv, ct, osl, e, lk, hc⟩, F.kp⟩
  · exact absurd rfl h
section
variable {P : Program} {w : World} {K : PySem.W.Frag} {mg : Str → Option Value} {base : Heap}
theorem Can.cal {x : Str} {ps : List Str} {k : Nat} {T : FT} (c : Can P w K mg base x ps k T) {N : List Str} {q : Str} {st : Stmt} {f : Addr} {cdv : Value} {A : Around} {outer : List Env} {s : Shared} {H : Hp} {E : XK} (hr : Room k (A.deeper (envOfC q (defScope st) s.heap.objs.size f cdv))) :
    Cal (CxB P w K mg base N q st f cdv A outer s H E) x T := by
  obtain ⟨f', fd, h1, h2, h3, h4⟩ := c.ex
  exact ⟨⟨f', fd, k, ps, h1, hr, h2, h3, h4⟩⟩
theorem CanN.cal {x : Str} {ps : List Str} {k : Nat} {T : List SD → List D → Prop} (c : CanN P w K mg base x ps k T) {N : List Str} {q : Str} {st : Stmt} {f : Addr} {cdv : Value} {A : Around} {outer : List Env} {s : Shared} {H : Hp} {E : XK} (hr : Room k (A.deeper (envOfC q (defScope st) s.heap.objs.size f cdv))) :
    CalN (CxB P w K mg base N q st f cdv A outer s H E) x T := by
  obtain ⟨f', fd, h1, h2, h3, h4⟩ := c.ex
  exact ⟨⟨f', fd, k, ps, h1, hr, h2, h3, h4⟩⟩
theorem Can.mono {x : Str} {ps : List Str} {j k : Nat} {T : FT} (c : Can P w K mg base x ps j T) (h : j ≤ k) : Can P w K mg base x ps k T := by
  obtain ⟨f', fd, h1, h2⟩ := c.ex
  exact ⟨f', fd, h1.mono h, h2⟩
/-- the arguments' kinds stay -/
def shp : List SD → List SD → Bool
  | [], [] => true
  | .dat _ :: r, .dat _ :: s => shp r s
  | .par _ :: r, .par _ :: s => shp r s
  | _, _ => false
theorem can_of {x : Str} {st : Stmt} {N ps : List Str} {k : Nat} {T : FT} (F : Def1 K mg x st) (S : FnScope N ps (defScope st)) (hN : ps.length ≤ N.length) (fr : Fre mg)
    (hb : ∀ f fd, FunD K x x (defArgs st) (defBody st) (defScope st) [] [] f fd → Binds K fd ps [])
    (hT : ∀ as r as', T as r as' → as.length = ps.length ∧ as'.map kd = as.map kd ∧ ∀ i, isPar (look as i) = false → look as' i = look as i ∧ isOwn (look as i) = false)
    (hbody : ∀ (f : Addr) (cdv : Value) (A : Around) (outer : List Env) (s : Shared) (H : Hp) (E : XK) (as : List SD) (r : D) (as' : List SD), Room k (A.deeper (envOfC x (defScope st) s.heap.objs.size f cdv)) → Cg (CxB P w K mg base N x st f cdv A outer s H E) → T as r as' →
      SsD (CxB P w K mg base N x st f cdv A outer s H E) (starts N as) (defBody st) ⟨fun δ' => r = .non ∧ parsOk as' δ', fun d δ' => d = r ∧ parsOk as' δ'⟩) : Can P w K mg base x ps (k + 1) T := by
  obtain ⟨f, fd, hm, hf⟩ := F
  refine ⟨f, fd, fn_ok (FunD.fun hf) S hN hT (fun cdv A outer s H E as r as' hr ht => hbody f cdv A outer s H E as r as' hr ⟨rfl, S.nd, hr.units, fr⟩ ht), hm, hf.kp, hb f fd hf⟩
/-- all arguments data -/
theorem shp_dat {ps : List Str} {as as' : List SD} (ds : List D) (h : as = ds.map .dat) (h' : as' = as) (hl : ds.length = ps.length) : as.length = ps.length ∧ as'.map kd = as.map kd ∧ ∀ i, isPar (look as i) = false → look as' i = look as i ∧ isOwn (look as i) = false := by
  subst h'
  refine ⟨by rw [h, List.length_map, hl], rfl, fun i _ => ⟨rfl, ?_⟩⟩
  rw [h, look_dats]
  cases ds[i]? <;> rfl
theorem parsOk_dat : ∀ (ds : List D) (δ : DEnv), ds.length ≤ δ.length → parsOk (ds.map .dat) δ
  | [], _, _ => trivial
  | _ :: _, [], h => by simp at h
  | d :: ds, s :: δ, h => parsOk_dat ds δ (by simpa using h)
end
theorem cndT {A : Type} {c : Bool} {a b r : A} (h : (bif c then a else b) = r) (hc : c = true) : a = r := by subst hc; exact h
theorem cndF {A : Type} {c : Bool} {a b r : A} (h : (bif c then a else b) = r) (hc : c = false) : b = r := by subst hc; exact h
section
variable {X : Cx} {δ δ1 : DEnv} {a b c : Expr} {st : Stmt} {rest sts : List Stmt} {N : DE} {pos : Pos} {A : Type} {f : A → D} {v : A} {p : Bool}
theorem v_if (hc : TvD X δ c p δ1) (ha : p = true → EvD X δ1 a (f v) δ1) (hb : p = false → EvD X δ1 b (f v) δ1) : EvD X δ (.IfExp c a b pos) (f v) δ1 := by
  have q := e_ifExp (pos := pos) hc ha hb
  refine q.cast ?_
  cases p <;> rfl
theorem ss_join (h : SvD X δ st ⟨fun δ' => δ' = δ1, N.rt⟩) (k : SsD X δ1 rest N) : SsD X δ (st :: rest) N := ss_cons (h.imp (fun δ e => by subst e; exact k) (fun _ _ e => e))
end
end ND

/-! NDu -/
set_option Elab.async false
set_option linter.all false
set_option maxRecDepth 100000
set_option maxHeartbeats 4000000
namespace ND
open PySem PySem.Spec PyProof.Rows L2
section
variable {X : Cx} {δ δ1 δ2 : DEnv} {e a b c : Expr} {es : List Expr} {pos p2 apos : Pos} {A B : Type} {f : A → D} {g : B → D} {l xs : List A} {y : A} {x : Str}
/-! displays -/
theorem va_nil : AvD X δ [] (([] : List A).map f) δ := a_nil
theorem va_cons (ha : EvD X δ e (f y) δ1) (hb : AvD X δ1 es (l.map f) δ2) (hs : starEach (e :: es) X.env = (false, eval e X.env) :: starEach es X.env := by rfl) : AvD X δ (e :: es) ((y :: l).map f) δ2 := a_cons ha hb hs
theorem va_starT {p : Pos} (ha : EvD X δ e (eT f xs) δ1) (hb : AvD X δ1 es (l.map f) δ2) (hs : starEach (.Starred e p :: es) X.env = (true, eval e X.env) :: starEach es X.env := by rfl) : AvD X δ (.Starred e p :: es) ((xs ++ l).map f) δ2 := by
  rw [List.map_append]; exact a_starT ha hb hs
theorem va_starL {p : Pos} (ha : EvD X δ e (eL f xs) δ1) (hb : AvD X δ1 es (l.map f) δ2) (hs : starEach (.Starred e p :: es) X.env = (true, eval e X.env) :: starEach es X.env := by rfl) : AvD X δ (.Starred e p :: es) ((xs ++ l).map f) δ2 := by
  rw [List.map_append]; exact a_starL ha hb hs
theorem n_lstV (hl : decide (l.length < 2000) = true) (h : AvD X δ es (l.map f) δ1) : NvD X δ (.List es pos) (l.map f) δ1 := n_lst h (by have := of_decide_eq_true hl; rw [List.length_map, sizeLine_eq]; omega)
theorem e_tupV {k} (hl : decide (l.length < 2000) = true) (h : AvD X δ es (l.map f) δ1) : EvD X δ (.Tuple es k pos) (eT f l) δ1 := e_tup h (by have := of_decide_eq_true hl; rw [List.length_map, sizeLine_eq]; omega)
/-! slices -/
theorem cutD_map (l : List A) (lo hi : Option Int) : cutD (l.map f) lo hi = (cutD l lo hi).map f := by
  unfold cutD
  rw [List.length_map, ← List.map_drop, ← List.map_take]
theorem v_slT {lo hi : Option Expr} {m h : Option Int} (ha : EvD X δ a (eT f l) δ1) (hl : OvD X lo m δ1) (hh : OvD X hi h δ1) : EvD X δ (.Subscript a (.Slice lo hi none p2) pos) (eT f (cutD l m h)) δ1 := (e_sliceT ha hl hh).cast (by rw [cutD_map])
/-! join of tuples -/
theorem v_catT {m : List A} (h0 : (!l.isEmpty) = true) (hl : decide (l.length + m.length < 2000) = true) (ha : EvD X δ a (eT f l) δ1) (hb : EvD X δ1 b (eT f m) δ2) : EvD X δ (.BinOp a .Add b pos) (eT f (l ++ m)) δ2 := by
  refine (e_catT ha hb ?_ ?_).cast (by rw [← List.map_append])
  · cases l with
    | nil => cases h0
    | cons _ _ => simp
  · have := of_decide_eq_true hl
    rw [List.length_map, List.length_map, sizeLine_eq]; omega
/-! iterables -/
theorem it_T (h : EvD X δ e (eT f l) δ1) {tg : Expr} : ItD X δ tg e (l.map f) δ1 := i_tup h
theorem it_L (h : EvD X δ e (eL f l) δ1) {tg : Expr} : ItD X δ tg e (l.map f) δ1 := i_list h
theorem it_O (j : Nat) {tg : Expr} (h : look δ j = .own (eL f l) ∨ look δ j = .par (eL f l)) (hN : X.N[j]? = some x := by rfl) (hv : Vis X.env.scope x := by first | exact .inl rfl | exact .inr (.inl rfl) | exact .inr (.inr rfl)) (hd : (x == ("__debug__" : Str)) = false := by decide) (hcd : (x == ("__classdict__" : Str)) = false := by decide) : ItL X δ tg (.Name x pos) (l.map f) δ δ := i_own hN hv h hd hcd
theorem it_K {d : List (Nm × A)} {tg : Expr} (h : EvD X δ e (eM f d) δ1) : ItL X δ tg e ((d.map (·.1)).map eN) δ1 [] := by
  have q := i_keys (tg := tg) h
  rw [List.map_map] at q ⊢
  exact q
theorem it_V {d : List (Nm × A)} {tg : Expr} (h : EvD X δ e (eM f d) δ1) (hbase : attributeBase e "values" X.env (eval e X.env) = eval e X.env := by rfl) (hline : (apos.endLine == pos.line) = true := by rfl) :
    ItL X δ tg (.Call (.Attribute e "values" apos) [] [] pos) ((d.map (·.2)).map f) δ1 [] := by
  have q := i_values (tg := tg) h hbase hline
  rw [List.map_map] at q ⊢
  exact q
theorem it_I {d : List (Nm × A)} {elts : List Expr} {kk : Nat} {tpos : Pos} (h : EvD X δ e (eM f d) δ1) (hbase : attributeBase e "items" X.env (eval e X.env) = eval e X.env := by rfl) (hline : (apos.endLine == pos.line) = true := by rfl) :
    ItL X δ (.Tuple elts kk tpos) (.Call (.Attribute e "items" apos) [] [] pos) (d.map (eS eN f)) δ1 [] := by
  have q := i_items (tpos := tpos) (elts := elts) (kk := kk) h hbase hline
  rw [List.map_map] at q
  exact q
def rng (n : Int) : List Int := (List.range n.toNat).map fun (i : Nat) => (i : Int)
theorem it_R {p : Pos} {n : Int} {tg : Expr} (G : Cg X) (hn : decide (0 ≤ n ∧ n < 2000) = true) (h : EvD X δ a (.int n) δ1) (hg : Gl X "range" := by rfl) (hs : starEach [a] X.env = [(false, eval a X.env)] := by rfl) : ItD X δ tg (.Call (.Name "range" p) [a] [] pos) ((rng n).map eI) δ1 := by
  obtain ⟨h0, h1⟩ := of_decide_eq_true hn
  have e : n = ((n.toNat : Nat) : Int) := by omega
  have q := i_range (pos := pos) (tg := tg) (p := p) (n := n.toNat) hg G.fr.range (h.cast (by rw [← e])) (by rw [sizeLine_eq]; omega) hs
  unfold rng
  rw [List.map_map]
  exact q
/-! ints -/
theorem v_sub1 {i j : Int} (ha : EvD X δ a (.int i) δ1) (hb : EvD X δ1 b (.int j) δ2) : EvD X δ (.BinOp a .Sub b pos) (.int (i - j)) δ2 := e_sub ha hb
theorem v_max2 {i j : Int} (G : Cg X) (ha : EvD X δ a (.int i) δ1) (hb : EvD X δ1 b (.int j) δ2) (hg : Gl X "max" := by rfl) (hs : starEach (a :: [b]) X.env = (false, eval a X.env) :: starEach [b] X.env := by rfl) (hs2 : starEach (b :: []) X.env = (false, eval b X.env) :: starEach [] X.env := by rfl) (hpl : (backTo pos (starEach [b] X.env)).any (·.1) = false := by rfl) : EvD X δ (.Call (.Name "max" p2) [a, b] [] pos) (.int (if j > i then j else i)) δ2 := e_max2 G.calm hg G.fr.max (a_cons ha (a_cons hb a_nil hs2) hs) (he := hs) (hpl := hpl)
theorem v_min2 {i j : Int} (G : Cg X) (ha : EvD X δ a (.int i) δ1) (hb : EvD X δ1 b (.int j) δ2) (hg : Gl X "min" := by rfl) (hs : starEach (a :: [b]) X.env = (false, eval a X.env) :: starEach [b] X.env := by rfl) (hs2 : starEach (b :: []) X.env = (false, eval b X.env) :: starEach [] X.env := by rfl) (hpl : (backTo pos (starEach [b] X.env)).any (·.1) = false := by rfl) : EvD X δ (.Call (.Name "min" p2) [a, b] [] pos) (.int (if j < i then j else i)) δ2 := e_min2 G.calm hg G.fr.min (a_cons ha (a_cons hb a_nil hs2) hs) (he := hs) (hpl := hpl)
/-! dict comprehension, names to values -/
theorem k_dc {tg iter kx vx : Expr} {scope : Scope} {C : Type} {l : List C} {gg : C → D} {kf : C → Nm} {h : C → A} {m : List (Nm × A)} (own : List (Str × Nat)) (ids : C → List (Nat × D)) (G : Cg X) (hm : mkD (l.map fun b => (kf b, h b)) = some m) (hi : ItD X δ tg iter (l.map gg) δ1)
    (hg : ∀ s H C cl fp b, b ∈ l → GtD (Blk X scope s H C cl fp) tg (gg b) (ids b))
    (hk : ∀ z H C cl fp b, Cg (Blk X scope z H C cl fp) → b ∈ l → EvD (Blk X scope z H C cl fp) (putL δ1 (ids b)) kx (eN (kf b)) (putL δ1 (ids b)))
    (he : ∀ z H C cl fp b, Cg (Blk X scope z H C cl fp) → b ∈ l → EvD (Blk X scope z H C cl fp) (putL δ1 (ids b)) vx (f (h b)) (putL δ1 (ids b)))
    (ok : BlkOk X.N X.env.scope scope own := by exact blkOk_by (by rfl)) (hun : (own.map (·.2)).all (fun i => unS (look δ1 i)) = true := by rfl) (hids : ∀ b, ∀ q ∈ ids b, q.1 ∈ own.map (·.2) := by intro b q hq; simp at hq; first | (rcases hq with rfl | rfl <;> simp; done) | (rcases hq with rfl <;> simp; done) | (subst hq; simp; done))
    (hs : ∀ x, foldedSetIterable iter X.env x = pure x := by intro _; rfl) : EvD X δ (.DictComp kx vx [⟨tg, iter, [], 0⟩] scope pos) (eM f m) δ1 := by
  unfold mkD at hm
  split at hm
  · rename_i hn
    have em := Option.some.inj hm
    have q := (m_dc (pos := pos) (kf := fun b => nm (kf b)) (vf := fun b => f (h b)) G.calm G.nd hi ok (unS_of hun) hids (by
      have : (l.map fun b => nm (kf b)) = ((l.map fun b => (kf b, h b)).map (·.1)).map nm := by rw [List.map_map, List.map_map]; rfl
      rw [this]
      exact List.Pairwise.map _ (fun a b hab e => hab (nm_inj _ _ e)) hn) hg (fun z H C cl fp b hb => hk z H C cl fp b G.blk hb) (fun z H C cl fp b hb => he z H C cl fp b G.blk hb) hs).ev
    refine q.cast ?_
    rw [← em]
    show D.dct _ = D.dct _
    rw [List.map_map]
    rfl
  · cases hm
end
end ND

/-! Dd -/
set_option Elab.async false
set_option linter.all false
set_option maxRecDepth 100000
set_option maxHeartbeats 0
namespace NA
open PySem PySem.Spec PyProof.Rows L2
def top (i : Nat) : Stmt := PySem.Challenge.pw_namesalone_k11_whole_boxes_and_places_of.main.body.getD i (.Pass ⟨0, 0, 0, 0⟩)
abbrev s_is_number : Stmt := top 5
abbrev s_is_name : Stmt := top 6
abbrev s_tupled : Stmt := top 7
abbrev s_set_of : Stmt := top 8
abbrev s_goal_of : Stmt := top 10
abbrev s_boxes : Stmt := top 11
abbrev s_free_places : Stmt := top 12
abbrev s_staying : Stmt := top 13
abbrev s_thrown : Stmt := top 14
abbrev s_row_from : Stmt := top 15
abbrev s_rings : Stmt := top 16
abbrev s_row_from_safe : Stmt := top 17
abbrev s_chains : Stmt := top 18
abbrev s_first_stand : Stmt := top 21
abbrev s_is_end : Stmt := top 22
abbrev s_possible : Stmt := top 23
abbrev s_moved : Stmt := top 24
abbrev s_is_move : Stmt := top 25
abbrev s_is_plan : Stmt := top 26
abbrev s_are_numbers : Stmt := top 29
abbrev s_tables_of : Stmt := top 30
abbrev s_is_sizes : Stmt := top 31
abbrev s_fits : Stmt := top 32
abbrev s_hole_of : Stmt := top 33
abbrev s_opened_by : Stmt := top 34
abbrev s_shut_rings : Stmt := top 35
abbrev s_can_be_done_by : Stmt := top 36
abbrev s_ring_moves : Stmt := top 37
abbrev s_hole_moves : Stmt := top 38
abbrev s_a_plan_by_sizes : Stmt := top 39
abbrev s_is_plan_by_sizes : Stmt := top 40
abbrev s_place_needed : Stmt := top 41
abbrev s_can_be_done : Stmt := top 43
abbrev s_check_done : Stmt := top 44
abbrev s_fewest_moves : Stmt := top 45
abbrev s__law_box : Stmt := top 47
abbrev s__law_take : Stmt := top 48
abbrev s__law_cells : Stmt := top 49
abbrev s__law_pick : Stmt := top 50
abbrev s__law_same : Stmt := top 51
abbrev s__law_task : Stmt := top 52
abbrev s__law_yard : Stmt := top 53
abbrev s__law_goal : Stmt := top 54
abbrev s__law_can : Stmt := top 55
abbrev s__law_done : Stmt := top 56
abbrev s__law_right_end : Stmt := top 57
abbrev s__law_walk : Stmt := top 58
abbrev s__law_threads : Stmt := top 59
abbrev s__law_fits : Stmt := top 60
abbrev s__law_reach : Stmt := top 61
abbrev s__law_shut : Stmt := top 62
abbrev s__law_told : Stmt := top 63
abbrev s__law_case_right : Stmt := top 64
abbrev s__law_bulk : Stmt := top 65
abbrev s__law_hand_right : Stmt := top 66
abbrev s__law_right : Stmt := top 67
abbrev s_law : Stmt := top 68
end NA

/-! Hd3 -/
set_option Elab.async false
set_option linter.all false
set_option maxRecDepth 100000
set_option maxHeartbeats 0
namespace NAH
open PySem PySem.Spec PyProof.Rows L2 NA
abbrev dd (x : Str) (st : Stmt) : He.DefD := ⟨(x, none), x, x, defArgs st, defBody st, defScope st, [], []⟩
def fn : List He.DefD := [dd "is_number" s_is_number, dd "is_name" s_is_name, dd "tupled" s_tupled, dd "set_of" s_set_of, dd "goal_of" s_goal_of, dd "boxes" s_boxes, dd "free_places" s_free_places, dd "staying" s_staying, dd "thrown" s_thrown, dd "row_from" s_row_from, dd "rings" s_rings, dd "row_from_safe" s_row_from_safe, dd "chains" s_chains, dd "first_stand" s_first_stand, dd "is_end" s_is_end, dd "possible" s_possible, dd "moved" s_moved, dd "is_move" s_is_move, dd "is_plan" s_is_plan, dd "are_numbers" s_are_numbers, dd "tables_of" s_tables_of, dd "is_sizes" s_is_sizes, dd "fits" s_fits, dd "hole_of" s_hole_of, dd "opened_by" s_opened_by, dd "shut_rings" s_shut_rings, dd "can_be_done_by" s_can_be_done_by, dd "ring_moves" s_ring_moves, dd "hole_moves" s_hole_moves, dd "a_plan_by_sizes" s_a_plan_by_sizes, dd "is_plan_by_sizes" s_is_plan_by_sizes, dd "place_needed" s_place_needed, dd "can_be_done" s_can_be_done, dd "check_done" s_check_done, dd "fewest_moves" s_fewest_moves, dd "_law_box" s__law_box, dd "_law_take" s__law_take, dd "_law_cells" s__law_cells, dd "_law_pick" s__law_pick, dd "_law_same" s__law_same, dd "_law_task" s__law_task, dd "_law_yard" s__law_yard, dd "_law_goal" s__law_goal, dd "_law_can" s__law_can, dd "_law_done" s__law_done, dd "_law_right_end" s__law_right_end, dd "_law_walk" s__law_walk, dd "_law_threads" s__law_threads, dd "_law_fits" s__law_fits, dd "_law_reach" s__law_reach, dd "_law_shut" s__law_shut, dd "_law_told" s__law_told, dd "_law_case_right" s__law_case_right, dd "_law_bulk" s__law_bulk, dd "_law_hand_right" s__law_hand_right, dd "_law_right" s__law_right, dd "law" s_law]
def fa : List He.Fa := [.glo "is_number", .glo "is_name", .glo "tupled", .glo "set_of", .glo "goal_of", .glo "boxes", .glo "free_places", .glo "staying", .glo "thrown", .glo "row_from", .glo "rings", .glo "row_from_safe", .glo "chains", .glo "first_stand", .glo "is_end", .glo "possible", .glo "moved", .glo "is_move", .glo "is_plan", .glo "are_numbers", .glo "tables_of", .glo "is_sizes", .glo "fits", .glo "hole_of", .glo "opened_by", .glo "shut_rings", .glo "can_be_done_by", .glo "ring_moves", .glo "hole_moves", .glo "a_plan_by_sizes", .glo "is_plan_by_sizes", .glo "place_needed", .glo "can_be_done", .glo "check_done", .glo "fewest_moves", .glo "_law_box", .glo "_law_take", .glo "_law_cells", .glo "_law_pick", .glo "_law_same", .glo "_law_task", .glo "_law_yard", .glo "_law_goal", .glo "_law_can", .glo "_law_done", .glo "_law_right_end", .glo "_law_walk", .glo "_law_threads", .glo "_law_fits", .glo "_law_reach", .glo "_law_shut", .glo "_law_told", .glo "_law_case_right", .glo "_law_bulk", .glo "_law_hand_right", .glo "_law_right", .glo "law", .str "LETTERS" "abcdefghijklmnopqrstuvwxyz", .int "PAIR_moves" 2, .int "PAIR_sizes" 2, .exc "NoPlan", .exm "NoPlan" "NoPlan" true, .glo "NoPlan", .free "isinstance", .free "int", .free "bool", .free "str", .free "len", .free "all", .free "tuple", .free "list", .free "sorted", .free "set", .free "dict", .free "min", .free "max", .free "enumerate", .free "range", .free "abs", .free "zip", .free "super", .free "LookupError", .free "ValueError"]
def loose0 : List Str := ["NoName", "NoPlan", "LETTERS", "is_number", "is_name", "tupled", "set_of", "goal_of", "boxes", "free_places", "staying", "thrown", "row_from", "rings", "row_from_safe", "chains", "PAIR_moves", "first_stand", "is_end", "possible", "moved", "is_move", "is_plan", "PAIR_sizes", "are_numbers", "tables_of", "is_sizes", "fits", "hole_of", "opened_by"]
def loose1 : List Str := ["shut_rings", "can_be_done_by", "ring_moves", "hole_moves", "a_plan_by_sizes", "is_plan_by_sizes", "place_needed", "can_be_done", "check_done", "fewest_moves", "_law_box", "_law_take", "_law_cells", "_law_pick", "_law_same", "_law_task", "_law_yard", "_law_goal", "_law_can", "_law_done", "_law_right_end", "_law_walk", "_law_threads", "_law_fits", "_law_reach", "_law_shut", "_law_told", "_law_case_right", "_law_bulk", "_law_hand_right"]
def loose2 : List Str := ["_law_right"]
def loose : List Str := loose0 ++ loose1 ++ loose2
abbrev R : PySem.W.OpenRow := PySem.W.OpenLaw.row PySem.Challenge.rw_namesalone_k11_whole_boxes_and_places_of
abbrev hk : PySem.W.Hook := He.hookD 4 fa fn
def ob (s : PySem.W.SharedT) : He.AlD := He.obsDG 4 fa fn (HandSHeadRun.getT s)
theorem ob_eq (s : PySem.W.SharedT) : ob s = hk.obs s.abs := He.obsDG_eq (HandSHeadRun.getT_eq s)
theorem run (w : World) : HandSHeadRun.RunEq R (PySem.W.view R.prog [68]) hk ob 6000 loose w := by
  intro os
  kernel_rfl
end NAH

/-! NDv -/
set_option Elab.async false
set_option linter.all false
set_option maxRecDepth 100000
set_option maxHeartbeats 4000000
namespace ND
open PySem PySem.Spec PyProof.Rows L2 NA
/-- nested tuples of names, numbers and None -/
def tupOk : Nat → D → Bool
  | n + 1, .tup ds => ds.all (tupOk n)
  | _, .str _ => true
  | _, .int _ => true
  | _, .non => true
  | _, _ => false
def T_tupled : FT := fun as r as' => tupOk 3 r = true ∧ as = [.dat r] ∧ as' = as
class Tk {A : Type} (n : Nat) (f : A → D) : Prop where
  ok : ∀ x, tupOk n (f x) = true
instance {n : Nat} : Tk n eN := ⟨fun _ => by cases n <;> rfl⟩
instance {n : Nat} : Tk n eI := ⟨fun _ => by cases n <;> rfl⟩
instance {A : Type} {n : Nat} {f : A → D} [Tk n f] : Tk n (eO f) := ⟨fun x => by
  cases x with
  | none => cases n <;> rfl
  | some x => exact Tk.ok (f := f) x⟩
instance {A B : Type} {n : Nat} {f : A → D} {g : B → D} [Tk n f] [Tk n g] : Tk (n + 1) (eP f g) := ⟨fun x => by
  show ([f x.1, g x.2]).all (tupOk n) = true
  simp [Tk.ok]⟩
instance {A : Type} {n : Nat} {f : A → D} [Tk n f] : Tk (n + 1) (eT f) := ⟨fun x => by
  show (x.map f).all (tupOk n) = true
  simp [Tk.ok]⟩
theorem tupT {A : Type} (f : A → D) (x : A) [Tk 3 f] : T_tupled ([f x].map .dat) (f x) ([f x].map .dat) := ⟨Tk.ok x, rfl, rfl⟩
end ND

/-! NDw -/
set_option Elab.async false
set_option linter.all false
set_option maxRecDepth 100000
set_option maxHeartbeats 4000000
namespace ND
open PySem PySem.Spec PyProof.Rows L2
/-- a list of two, of two kinds -/
abbrev eQ {A B : Type} (f : A → D) (g : B → D) (x : A × B) : D := .lst [f x.1, g x.2]
abbrev eU (_ : Unit) : D := .non
/-- a plan, or the text that there is none -/
def eW {A : Type} (f : A → D) : Option A → D
  | none => .str "no plan"
  | some x => f x
section
variable {X : Cx} {δ δ1 δ2 : DEnv} {e a b c tg iter : Expr} {es : List Expr} {sts body : List Stmt} {N : DE} {pos p2 p3 apos spos tpos : Pos} {A B S : Type} {f : A → D} {g : B → D} {l xs : List A} {y : A} {x : Str}
/-- a walk by a test, with no way out -/
def whileS {S : Type} (c : S → Option Bool) (step : S → Option S) : Nat → S → Option S
  | 0, _ => none
  | n + 1, s => (c s).bind fun b => bif b then (step s).bind fun s' => whileS c step n s' else some s
theorem whileS_M {c : S → Option Bool} {step : S → Option S} : ∀ (n : Nat) (s t : S), whileS c step n s = some t → whileM (R := Empty) c (fun s => (step s).map .inl) n s = some (.inl t)
  | 0, _, _, h => by cases h
  | n + 1, s, t, h => by
    obtain ⟨b, hb, h⟩ := bnd h
    show (c s).bind _ = _
    rw [hb]
    cases b with
    | false => cases h; rfl
    | true =>
      obtain ⟨u, hu, h⟩ := bnd (show (step s).bind _ = some t from h)
      show (((step s).map _).bind _ : Option (S ⊕ Empty)) = _
      rw [hu]
      exact whileS_M n u t h
theorem k_whileS {cd : S → Option Bool} {step : S → Option S} {s0 t : S} {n : Nat} (Δ : S → DEnv) (hpass : PassesOwn (model X.prog X.w) X.A X.env X.xe) (hm : whileS cd step n s0 = some t)
    (ht : ∀ s b, cd s = some b → TvD X (Δ s) c b (Δ s))
    (hb : ∀ s s', cd s = some true → step s = some s' → SsD X (Δ s) body ⟨fun δ' => δ' = Δ s', fun d δ' => False⟩)
    (hnx : N.nx (Δ t)) : SvD X (Δ s0) (.While c body [] pos) N := by
  refine k_while Δ (fun r _ _ => nomatch r) hpass (whileS_M n s0 t hm) ht (fun s o hc h => ?_) (fun s e _ => ?_) (fun r => nomatch r)
  · obtain ⟨s', h1, rfl⟩ := Option.map_eq_some_iff.mp h
    exact (hb s s' hc h1).imp (fun δ' e => ⟨s', rfl, e⟩) (fun _ _ e => e.elim)
  · cases e; exact hnx
/-! targets -/
theorem tg2Q (i j : Nat) {x y : Str} {d e : D} {p1 p2 : Pos} {k : Nat} (hc : X.calm = true) (nd : X.N.Nodup) (hi : X.N[i]? = some x := by rfl) (hj : X.N[j]? = some y := by rfl) (hx : Loc X.env.scope x := by first | exact .inl rfl | exact .inr rfl) (hy : Loc X.env.scope y := by first | exact .inl rfl | exact .inr rfl)
    (hf : X.fn x = true ∨ X.env.scope.names.lookup x = some .local := by first | exact .inl rfl | exact .inr rfl) (hf2 : X.fn y = true ∨ X.env.scope.names.lookup y = some .local := by first | exact .inl rfl | exact .inr rfl) : GtD X (.Tuple [.Name x p1, .Name y p2] k pos) (.lst [d, e]) [(i, d), (j, e)] := fun σ H F v Q fh r kk => by
  obtain ⟨a, vs, rfl, ha, rr⟩ := r.seqL
  cases rr with
  | cons r1 rr => cases rr with
    | cons r2 rr =>
      cases rr
      refine .of (pg_unl hc (pgs_cons (pg_name nd hi hx hf) (pgs_cons (pg_name nd hj hy hf2) pgs_nil))) ?_
      exact ⟨a, _, rfl, SqL.of (fh _ _ ha), rfl, _, _, rfl, _, _, rfl, rfl, kk _ (.cons r1 (.cons r2 .nil))⟩
/-- (a, b), c = .. -/
theorem tg21 (i j m : Nat) {x y z : Str} {d e u : D} {p1 p2 p3 p4 : Pos} {k k2 : Nat} (hc : X.calm = true) (nd : X.N.Nodup) (hi : X.N[i]? = some x := by rfl) (hj : X.N[j]? = some y := by rfl) (hm : X.N[m]? = some z := by rfl) (hx : Loc X.env.scope x := by first | exact .inl rfl | exact .inr rfl) (hy : Loc X.env.scope y := by first | exact .inl rfl | exact .inr rfl) (hz : Loc X.env.scope z := by first | exact .inl rfl | exact .inr rfl)
    (hf : X.fn x = true ∨ X.env.scope.names.lookup x = some .local := by first | exact .inl rfl | exact .inr rfl) (hf2 : X.fn y = true ∨ X.env.scope.names.lookup y = some .local := by first | exact .inl rfl | exact .inr rfl) (hf3 : X.fn z = true ∨ X.env.scope.names.lookup z = some .local := by first | exact .inl rfl | exact .inr rfl) :
    GtD X (.Tuple [.Tuple [.Name x p1, .Name y p2] k p4, .Name z p3] k2 pos) (.tup [.tup [d, e], u]) [(i, d), (j, e), (m, u)] := fun σ H F v Q fh r kk => by
  obtain ⟨a, vs, rfl, ha, rr⟩ := r.seqT
  cases rr with
  | cons r1 rr => cases rr with
    | cons r2 rr =>
      cases rr
      obtain ⟨a', vs', rfl, ha', rr'⟩ := r1.seqT
      cases rr' with
      | cons r3 rr' => cases rr' with
        | cons r4 rr' =>
          cases rr'
          refine .of (pg_tup hc (pgs_cons (pg_tup hc (pgs_cons (pg_name nd hi hx hf) (pgs_cons (pg_name nd hj hy hf2) pgs_nil))) (pgs_cons (pg_name nd hm hz hf3) pgs_nil))) ?_
          exact ⟨a, _, rfl, (ha.up fh).sq, rfl, _, _, rfl, ⟨a', _, rfl, (ha'.up fh).sq, rfl, _, _, rfl, _, _, rfl, rfl, _, _, rfl, rfl, kk _ (.cons r3 (.cons r4 (.cons r2 .nil)))⟩⟩
/-! pairs -/
theorem v_lenP {z : A × B} (G : Cg X) (ha : EvD X δ e (eP f g z) δ1) (hg : Gl X "len" := by rfl) (hs : starEach [e] X.env = (false, eval e X.env) :: starEach [] X.env := by rfl) : EvD X δ (.Call (.Name "len" p2) [e] [] pos) (.int 2) δ1 := e_lenT hg G.fr.len ha hs
theorem v_isTup {d : D} (G : Cg X) (ha : EvD X δ e d δ) (hd : ∃ ds, d = .tup ds) (hg : Gl X "isinstance" := by rfl) (hg2 : Gl X "tuple" := by rfl) (hs : starEach (e :: [.Name "tuple" p2]) X.env = (false, eval e X.env) :: starEach [.Name "tuple" p2] X.env := by rfl) (hs2 : starEach (.Name "tuple" p2 :: []) X.env = (false, eval (.Name "tuple" p2) X.env) :: starEach [] X.env := by rfl) (hpl : (backTo pos (starEach [.Name "tuple" p2] X.env)).any (·.1) = false := by rfl) :
    EvD X δ (.Call (.Name "isinstance" p3) [e, .Name "tuple" p2] [] pos) (.bl true) δ := by
  obtain ⟨ds, rfl⟩ := hd
  exact e_isi hg G.fr.isi (a_cons ha (a_cons (e_ty (T := "tuple") hg2 G.fr.tuple (by decide +kernel)) a_nil hs2) hs) rfl rfl hs hpl
/-! slices of lists -/
theorem v_slL {lo hi : Option Expr} {m h : Option Int} (ha : EvD X δ a (eL f l) δ1) (hl : OvD X lo m δ1) (hh : OvD X hi h δ1) : NvD X δ (.Subscript a (.Slice lo hi none p2) pos) ((cutD l m h).map f) δ1 := by
  have q := n_slice (pos := pos) (p2 := p2) ha hl hh
  rw [cutD_map] at q
  exact q
/-! dicts of the frame -/
theorem m_dictTN {d m : List (Nm × A)} (G : Cg X) (h : mkD d = some m) (ha : EvD X δ e (eT (eP eN f) d) δ1) (hg : Gl X "dict" := by rfl) (hs : starEach [e] X.env = (false, eval e X.env) :: starEach [] X.env := by rfl) : MvD X δ (.Call (.Name "dict" p2) [e] [] pos) (m.map fun q => (nm q.1, f q.2)) δ1 := by
  obtain ⟨rfl, hn⟩ := mkD_ok (f := f) h
  exact m_dictT G hn (ha.cast (by show D.tup _ = D.tup _; rw [map_pr])) hg hs
theorem m_dictLN {d m : List (Nm × A)} (G : Cg X) (h : mkD d = some m) (ha : EvD X δ e (eL (eP eN f) d) δ1) (hg : Gl X "dict" := by rfl) (hs : starEach [e] X.env = (false, eval e X.env) :: starEach [] X.env := by rfl) : MvD X δ (.Call (.Name "dict" p2) [e] [] pos) (m.map fun q => (nm q.1, f q.2)) δ1 := by
  obtain ⟨rfl, hn⟩ := mkD_ok (f := f) h
  exact m_dictL G hn (ha.cast (by show D.lst _ = D.lst _; rw [map_pr])) hg hs
theorem v_setDk {d : List (Nm × A)} {k : Nm} (i : Nat) (G : Cg X) (hk : (!hasK d k && decide (d.length < 2000)) = true) (h : EvD X δ e (f y) δ1) (hb : EvD X δ1 b (eN k) δ1) (hi : look δ1 i = .own (eM f d) ∨ look δ1 i = .par (eM f d))
    (q : N.nx (put δ1 i (setC (look δ1 i) (eM f (d ++ [(k, y)]))))) (hN : X.N[i]? = some x := by rfl) (hv : Vis X.env.scope x := by first | exact .inl rfl | exact .inr (.inl rfl) | exact .inr (.inr rfl))
    (hs : swapsWith e (some (.Subscript (.Name x p2) b tpos)) spos.line X.env = pure false := by rfl)
    (hd : (x == ("__debug__" : Str)) = false := by decide) (hcd : (x == ("__classdict__" : Str)) = false := by decide) : SvD X δ (.Assign [.Subscript (.Name x p2) b tpos] e spos) N := by
  rw [Bool.and_eq_true] at hk
  refine s_setDk G.hu1 hN hv h hb hi ?_ ?_ ?_ hs hd hcd
  · rw [dlook_map]
    have := hk.1
    unfold hasK at this
    cases z : lk d k with
    | none => rfl
    | some v => rw [z] at this; cases this
  · have := of_decide_eq_true hk.2
    rw [List.length_map, sizeLine_eq]; omega
  · have e : (eM f (d ++ [(k, y)])) = D.dct ((d.map fun p => (nm p.1, f p.2)) ++ [(nm k, f y)]) := by
      show D.dct _ = D.dct _
      rw [List.map_append]; rfl
    rw [← e]
    exact q
/-! reversed -/
theorem rng_rev0 (n : Nat) : sliceRange (n : Int) 0 (-1) = (List.range n).map fun k => n - k := by
  unfold sliceRange
  have h1 : ¬ ((-1 : Int) > 0) := by decide
  by_cases h : (n : Int) > 0
  · have e : ((n : Int) - 0 - -1 - 1) / (- -1) = (n : Int) := by
      rw [show (- -1 : Int) = 1 by decide, Int.ediv_one]
      omega
    simp only [h1, if_false, h, if_true, e, Int.toNat_natCast]
    apply List.map_congr_left
    intro k hk
    have := List.mem_range.mp hk
    omega
  · have e : n = 0 := by omega
    subst e
    simp
theorem filterMap_get {A : Type} : ∀ (l : List A), (List.range l.length).filterMap (fun k => l[k]?) = l
  | [] => rfl
  | x :: l => by
    rw [List.length_cons, List.range_succ_eq_map, List.filterMap_cons]
    show x :: _ = _
    congr 1
    rw [List.filterMap_map]
    exact filterMap_get l
theorem range_rev : ∀ n, (List.range n).map (fun k => n - k) = ((List.range n).map fun k => k + 1).reverse := by
  intro n
  apply List.ext_getElem
  · simp
  · intro i h1 h2
    simp at h1 h2 ⊢
    omega
theorem pick_rev0 (x : Value) (l : List Value) : slicePick (x :: l).toArray none (some 0) (some (-1)) = l.reverse.toArray := by
  unfold slicePick
  have e : sliceBounds none (some 0) (some (-1)) (x :: l).toArray.size = ((l.length : Int), 0, -1) := by
    unfold sliceBounds
    simp
    omega
  rw [e]
  show ((sliceRange (l.length : Int) 0 (-1)).filterMap _).toArray = _
  rw [rng_rev0, range_rev, List.filterMap_reverse, List.filterMap_map]
  congr 2
  have : ((fun k => (x :: l).toArray[k]?) ∘ fun k => k + 1) = fun k => l[k]? := by funext k; simp
  rw [this]
  exact filterMap_get l
def tRev0 (K : PySem.W.Frag) (te : TE) : TE := fun σ H Q => te σ H fun x H1 => ∃ a z xs, x = .ref a ∧ SqL K H1 a (z :: xs) ∧ ∀ p, H1 p = none → Q (.ref p) (upd H1 p (.lst xs.reverse))
theorem pe_rev0 {e : Expr} {te : TE} {k k0 : Nat} {p0 p1 p2 p3 pos : Pos} (he : PE X e te) : PE X (.Subscript e (.Slice none (some (.Constant (.int 0) k0 p0)) (some (.UnaryOp .USub (.Constant (.int 1) k p1) p2)) p3) pos) (tRev0 X.K te) := by
  refine ⟨fun pins s σ H Q I h => ?_⟩
  refine Subscript_ (thn (he.run pins s σ H _ I h) fun v s1 ⟨x, H1, I1, r1, q1⟩ => ?_)
  obtain ⟨a, z, xs, ex, hx, q⟩ := q1
  subst ex
  cases r1
  have hst : PO X (some (.UnaryOp .USub (.Constant (.int 1) k p1) p2)) (tPart (tUn (rU fun i => .int (-i)) (tC (.int 1)))) := po_some (pe_un un_neg pe_int)
  have h0 : PO X (some (.Constant (.int 0) k0 p0)) (tPart (tC (.int 0))) := po_some pe_int
  refine wpAny_Slice (thn (po_none.run pins s1 σ H1 (fun o H2 => o = none ∧ H2 = H1) I1 ⟨rfl, rfl⟩) fun vl s2 ⟨l, H2, I2, pl, el, e2⟩ => ?_)
  subst el e2
  refine thn (h0.run pins s2 σ H2 (fun o H3 => o = some 0 ∧ H3 = H2) I2 ⟨0, rfl, rfl, rfl⟩) fun vu s3 ⟨u, H3, I3, pu, eu, e3⟩ => ?_
  subst eu e3
  refine thn (hst.run pins s3 σ H3 (fun o H4 => o = some (-1) ∧ H4 = H3) I3 ⟨1, rfl, -1, rfl, rfl, rfl⟩) fun vs s4 ⟨o, H4, I4, ps, eo, e4⟩ => ?_
  subst eo e4
  have I5 : Inv X pins σ H4 { s4 with heap := s4.heap.push { cls := .type "slice", data := .fields #[vl, vu, vs] } } := I4.kept (t' := s4.toks) fun b ob q => Heap.get?_push_of_some _ q
  obtain ⟨its, r, ht, hz⟩ := I5.list hx
  have hlen := r.length
  cases r with
  | cons r0 r =>
    have r : Vals xs _ := r
    show wpAny (model X.prog X.w) X.A (subscriptTail e (.Slice none (some (.Constant (.int 0) k0 p0)) (some (.UnaryOp .USub (.Constant (.int 1) k p1) p2)) p3) (.ref a) (.ref s4.heap.objs.size)) (EP X pins σ Q) X.xe { s4 with heap := s4.heap.push { cls := .type "slice", data := .fields #[vl, vu, vs] } }
    refine tail_any (ops := [.ref a, .ref s4.heap.objs.size]) ht.isList.typeIs (PySem.slot_list_getitem.lookup) ?_ (by with_unfolding_all rfl)
    refine wpAny_getItem_list_slice ht.isList (Heap.IsSliceOf.new _ vl vu vs) pl pu ps (by decide) ?_ (by rw [List.size_toArray]; omega)
    rw [pick_rev0]
    refine ⟨.ref _, _, I5.laid (t' := s4.toks) (o := .lst xs.reverse) (fun b ob q => Heap.get?_push_of_some _ q) (Nat.le_refl _) ?_, rfl, q _ (I5.hok.fresh (Nat.le_refl _))⟩
    exact ⟨by rw [List.length_reverse]; exact Nat.le_trans (Nat.le_succ _) hz, _, 0, r.reverse, Heap.get?_push_size _ rfl⟩
/-- list[:0:-1] -/
theorem v_revL0 {k k0 : Nat} {p0 p1 p4 : Pos} (h0 : (!l.isEmpty) = true) (ha : EvD X δ e (eL f l) δ1) : NvD X δ (.Subscript e (.Slice none (some (.Constant (.int 0) k0 p0)) (some (.UnaryOp .USub (.Constant (.int 1) k p1) p2)) p4) pos) (((l.drop 1).reverse).map f) δ1 := by
  refine ⟨ha.kd, fun α σ H F Q st kk => .of (pe_rev0 pe_tw) ?_⟩
  refine ha.run α σ H F _ st fun v F1 H1 s1 st1 r1 => ?_
  obtain ⟨a, vs, rfl, h1, q1⟩ := r1.seqL
  cases l with
  | nil => cases h0
  | cons y l =>
    cases q1 with
    | cons r0 q1 =>
      rename_i v0 vs0
      refine ⟨a, v0, vs0, rfl, SqL.of (st1.fh _ _ h1), fun p hp => ?_⟩
      have g : Grow F1 H1 F1 _ := Grow.newH (o := .lst vs0.reverse) st1.fh hp
      refine kk p _ F1 _ (none_back s1 hp) (Same.none st1.fh hp) (s1.trans g.step) (st1.grow g) upd_same ?_
      show Reps X.K F1 _ (l.reverse.map f)
      rw [List.map_reverse]
      exact q1.reverse
end
end ND

/-! NDr2 -/
set_option Elab.async false
set_option linter.all false
set_option maxRecDepth 100000
set_option maxHeartbeats 4000000
namespace ND
open PySem PySem.Spec PyProof.Rows L2
section
variable {prog : Program} {w : World} {A : Around} {E : Value → Shared → Prop} {s : Shared}
theorem sliceApplied_rev {sl : Addr} {vl vu vs : Value} {n : Nat} {Q : Int × Int × Nat → Shared → Prop} (hs : s.heap.IsSliceOf sl vl vu vs) (pl : IsPart vl none) (pu : IsPart vu none) (ps : IsPart vs (some (-1)))
    (h : Q ((n : Int) - 1, -1, n) s) : wpAny (model prog w) A (Builtin.Slice.sliceApplied (.ref sl) (pure (n : Int))) Q E s := by
  obtain ⟨os, hos, hcs, hds⟩ := id hs
  unfold Builtin.Slice.sliceApplied Builtin.Slice.sliceFields
  refine wpAny_bind (wpAny_bind (wpAny_field hos hds (x := vl) rfl (wpAny_bind (wpAny_field hos hds (x := vu) rfl (wpAny_bind (wpAny_field hos hds (x := vs) rfl (wpAny_pure ?_)))))))
  refine wpAny_bind (HT.slicePart_ ps ?_)
  show wpAny _ _ (if ((-1 : Int) == 0) = true then _ else _) _ _ s
  rw [if_neg (by decide)]
  refine wpAny_bind (HT.slicePart_ pl (wpAny_bind (HT.slicePart_ pu (wpAny_bind (wpAny_pure ?_)))))
  show wpAny _ _ (match Builtin.Slice.sliceAdjust none none (-1) (n : Int) with | (lo, hi) => pure (lo, (-1 : Int), Builtin.Slice.slicePlaces lo hi (-1))) _ _ s
  have e : Builtin.Slice.sliceAdjust none none (-1) (n : Int) = ((n : Int) - 1, -1) := by
    unfold Builtin.Slice.sliceAdjust; simp
  rw [e]
  show wpAny _ _ (pure ((n : Int) - 1, (-1 : Int), Builtin.Slice.slicePlaces ((n : Int) - 1) (-1) (-1))) _ _ s
  have e2 : Builtin.Slice.slicePlaces ((n : Int) - 1) (-1) (-1) = n := by
    unfold Builtin.Slice.slicePlaces
    have h1 : ¬ ((-1 : Int) > 0) := by decide
    simp only [h1, if_false]
    rw [show (- -1 : Int) = 1 by decide, Int.ediv_one]
    split <;> omega
  rw [e2]
  exact wpAny_pure h
theorem fmap_congr {A B : Type} {f g : A → Option B} : ∀ {l : List A}, (∀ x ∈ l, f x = g x) → l.filterMap f = l.filterMap g
  | [], _ => rfl
  | a :: l, h => by
    rw [List.filterMap_cons, List.filterMap_cons, h a List.mem_cons_self, fmap_congr fun x hx => h x (List.mem_cons_of_mem _ hx)]
theorem pick_revT (xs : Array Value) : ((List.range xs.size).filterMap fun (m : Nat) => xs[((xs.size : Int) - 1 + (m : Int) * -1).toNat]?).toArray = xs.toList.reverse.toArray := by
  have q := W.krv_pick xs
  unfold slicePick at q
  rw [W.krv_bounds] at q
  rw [← q]
  show _ = ((sliceRange ((xs.size : Int) - 1) (-1) (-1)).filterMap (xs[·]?)).toArray
  rw [W.krv_sliceRange, List.filterMap_map]
  congr 1
  apply fmap_congr
  intro m hm
  have : ((xs.size : Int) - 1 + (m : Int) * -1).toNat = xs.size - 1 - m := by
    have := List.mem_range.mp hm
    omega
  rw [this]; rfl
theorem getItem_tuple_rev {t sl : Addr} {items : Array Value} {vl vu vs : Value} {Q : Value → Shared → Prop} (ht : IsTup s.heap t items) (hs : s.heap.IsSliceOf sl vl vu vs) (pl : IsPart vl none) (pu : IsPart vu none) (ps : IsPart vs (some (-1)))
    (h : Q (.ref s.heap.objs.size) { s with heap := s.heap.push { cls := .type "tuple", data := .seq items.toList.reverse.toArray } })
    (hsz : items.size ≤ sizeLine) : wpAny (model prog w) A (getItem (.ref t) (.ref sl)) Q E s := by
  have htake : sizeOk (.seq items.toList.reverse.toArray) := by
    show items.toList.reverse.toArray.size ≤ sizeLine
    rw [List.size_toArray, List.length_reverse, Array.length_toList]
    omega
  obtain ⟨os, hos, hcs, hds⟩ := id hs
  have hTs : s.TypeIs (.ref sl) "slice" := ⟨os, hos, hcs⟩
  unfold getItem
  try with_reducible refine wpAny_holding ?_
  first | refine wpAny_bind (wpAny_pure ?_) | skip
  refine wpAny_bind (wpAny_sequenceKey ht.typeIs (by decide) ?_)
  refine wpAny_bind (wpAny_callSpecial?_slot (name := Str.ofString "__getitem__") ht.typeIs PyProof.Rows.slot_tuple_getitem
    (wpAny_call_entry PyProof.Rows.slot_tuple_getitem ht.typeIs entry_tuple_getitem ?_ (args_tuple_getitem _ _)))
  show wpAny _ _ (Builtin.Tuple.tupleItemsOf (.ref t) >>= _) _ _ s
  refine wpAny_bind (tupleItemsOf_ ht ?_)
  refine wpAny_bind (wpAny_typeOf hTs ?_)
  rw [if_pos (by decide)]
  refine wpAny_bind (sliceApplied_rev hs pl pu ps ?_)
  have hno : ¬ ((((items.size : Int) - 1) == 0 && (-1 : Int) == 1 && items.size == items.size) = true) := by
    intro q
    rw [Bool.and_eq_true, Bool.and_eq_true] at q
    exact absurd q.1.2 (by decide)
  show wpAny _ _ (if (((items.size : Int) - 1) == 0 && (-1 : Int) == 1 && items.size == items.size) = true then _ else _) _ _ s
  rw [if_neg hno, pick_revT]
  first
    | exact wpAny_bind (m := Builtin.Tuple.tupleExact _) (wpAny_newObj_type (wpAny_pure ⟨_, rfl, wpAny_pure h⟩) htake)
    | exact wpAny_bind (m := Builtin.Tuple.tupleExact _) (wpAny_newObj_type (wpAny_bind (wpAny_pure (wpAny_pure ⟨_, rfl, wpAny_pure h⟩))) htake)
    | exact wpAny_bind (wpAny_bind (m := Builtin.Tuple.tupleExact _) (wpAny_newObj_type (wpAny_pure (wpAny_pure ⟨_, rfl, wpAny_pure h⟩)) htake))
    | exact wpAny_bind (wpAny_bind (m := Builtin.Tuple.tupleExact _) (wpAny_newObj_type (wpAny_pure ⟨_, rfl, wpAny_pure h⟩) htake))
end
section
variable {X : Cx} {δ δ1 : DEnv} {pos p2 : Pos} {A : Type} {f : A → D} {l : List A}
def tRevT (K : PySem.W.Frag) (te : TE) : TE := fun σ H Q => te σ H fun x H1 => ∃ a xs, x = .ref a ∧ SqT K H1 a xs ∧ ∀ p ob, H1 p = none → ob.dict = none → Q (.ref p) (upd H1 p (.frz ob (.tup xs.reverse)))
theorem pe_revT {e : Expr} {te : TE} {k : Nat} {p1 p2 p3 pos : Pos} (he : PE X e te) : PE X (.Subscript e (.Slice none none (some (.UnaryOp .USub (.Constant (.int 1) k p1) p2)) p3) pos) (tRevT X.K te) := by
  refine ⟨fun pins s σ H Q I h => ?_⟩
  refine Subscript_ (thn (he.run pins s σ H _ I h) fun v s1 ⟨x, H1, I1, r1, q1⟩ => ?_)
  obtain ⟨a, xs, ex, hx, q⟩ := q1
  subst ex
  cases r1
  have hst : PO X (some (.UnaryOp .USub (.Constant (.int 1) k p1) p2)) (tPart (tUn (rU fun i => .int (-i)) (tC (.int 1)))) := po_some (pe_un un_neg pe_int)
  refine wpAny_Slice (thn (po_none.run pins s1 σ H1 (fun o H2 => o = none ∧ H2 = H1) I1 ⟨rfl, rfl⟩) fun vl s2 ⟨l, H2, I2, pl, el, e2⟩ => ?_)
  subst el e2
  refine thn (po_none.run pins s2 σ H2 (fun o H3 => o = none ∧ H3 = H2) I2 ⟨rfl, rfl⟩) fun vu s3 ⟨u, H3, I3, pu, eu, e3⟩ => ?_
  subst eu e3
  refine thn (hst.run pins s3 σ H3 (fun o H4 => o = some (-1) ∧ H4 = H3) I3 ⟨1, rfl, -1, rfl, rfl, rfl⟩) fun vs s4 ⟨o, H4, I4, ps, eo, e4⟩ => ?_
  subst eo e4
  have I5 : Inv X pins σ H4 { s4 with heap := s4.heap.push { cls := .type "slice", data := .fields #[vl, vu, vs] } } := I4.kept (t' := s4.toks) fun b ob q => Heap.get?_push_of_some _ q
  obtain ⟨its, r, ht, hz⟩ := I5.tuple hx
  have hlen := r.length
  show wpAny (model X.prog X.w) X.A (subscriptTail e (.Slice none none (some (.UnaryOp .USub (.Constant (.int 1) k p1) p2)) p3) (.ref a) (.ref s4.heap.objs.size)) (EP X pins σ Q) X.xe { s4 with heap := s4.heap.push { cls := .type "slice", data := .fields #[vl, vu, vs] } }
  refine tail_any (ops := [.ref a, .ref s4.heap.objs.size]) ht.typeIs (PyProof.Rows.slot_tuple_getitem.lookup) ?_ (by with_unfolding_all rfl)
  refine getItem_tuple_rev ht (Heap.IsSliceOf.new _ vl vu vs) pl pu ps ?_ (by rw [List.size_toArray]; omega)
  refine ⟨.ref _, _, I5.laid (t' := s4.toks) (o := .frz { cls := .type "tuple", data := .seq its.toArray.toList.reverse.toArray } (.tup xs.reverse)) (fun b ob q => Heap.get?_push_of_some _ q) (Nat.le_refl _) ?_, rfl, q _ _ (I5.hok.fresh (Nat.le_refl _)) rfl⟩
  exact ⟨Heap.get?_push_size _ rfl, by rw [List.length_reverse]; exact hz, _, r.reverse, IsTup.new _ _⟩
/-- tuple[::-1] -/
theorem v_revT {e : Expr} {k : Nat} {p1 p4 : Pos} (ha : EvD X δ e (eT f l) δ1) : EvD X δ (.Subscript e (.Slice none none (some (.UnaryOp .USub (.Constant (.int 1) k p1) p2)) p4) pos) (eT f l.reverse) δ1 := by
  refine ⟨ha.kd, fun α σ H F Q st kk => .of (pe_revT pe_tw) ?_⟩
  refine ha.run α σ H F _ st fun v F1 H1 s1 st1 r1 => ?_
  obtain ⟨a, vs, rfl, h1, q1⟩ := r1.seqT
  refine ⟨a, vs, rfl, (h1.up st1.fh).sq, fun p ob hp hob => ?_⟩
  have g : Grow F1 H1 _ _ := Grow.new (o := .frz ob (.tup vs.reverse)) st1.fh hp
  refine kk _ _ _ (s1.trans g.step) (st1.grow g) (.tup (.nw hob) ?_)
  rw [List.map_reverse]
  exact (q1.reverse).mono g.ff
end
end ND

/-! NDr3 -/
set_option Elab.async false
set_option linter.all false
set_option maxRecDepth 100000
set_option maxHeartbeats 4000000
namespace PySem
open Sem (wp)
open AutoSeq1 (wpAny_loadPart')
theorem nd_enum_new {v : Value} {o : Obj} {H : Heap → Prop} (B : Begins v o H) :
    Meets (Builtin.«enumerate.__new__» ⟨[.type "enumerate", v], []⟩) (fun _ R s => H s.heap ∧
      R (.ok (.ret (.ref (s.heap.push o).objs.size))) { s with heap := (s.heap.push o).push { cls := .type "enumerate", data := .fields #[.none, .bool false, .ref s.heap.objs.size, rawInt 0, .none, .none] } }) :=
  .of_wp fun prog w A R s h => by
    obtain ⟨hp, g, d, tk, os⟩ := s; obtain ⟨h1, h⟩ := h
    have hsub := sub_enumerate
    have q1 : ∀ {A' : Around} {E : Value → Shared → Prop} {Q : Value → Shared → Prop}, Q (.ref hp.objs.size) ⟨hp.push o, g, d, tk, os⟩ → wpAny (model prog w) A' (pyIter v) Q E ⟨hp, g, d, tk, os⟩ :=
      fun q => B.iter prog w _ _ ⟨hp, g, d, tk, os⟩ _ h1 q
    wp_walk using q1
    refine wpAny_stack_any fun st => wpAny_pure ?_
    split
    · rename_i c _ _ _ _ _
      cases (c == Value.type "enumerate")
      · wp_walk using q1
        exact ⟨_, rfl, h⟩
      · wp_walk using q1
        exact ⟨_, rfl, h⟩
    · wp_walk using q1
      exact ⟨_, rfl, h⟩
theorem nd_enum_begins {prog : Program} {w : World} {A : Around} {E : Value → Shared → Prop} {s : Shared} {v : Value} {o : Obj} {H : Heap → Prop} {Q : Value → Shared → Prop} (B : Begins v o H) (h1 : H s.heap)
    (h : ∀ h', IsEnum h' (s.heap.objs.size + 1) s.heap.objs.size 0 .none → h'.get? s.heap.objs.size = some o → h'.objs.size = s.heap.objs.size + 2 →
      (∀ b o, s.heap.get? b = some o → h'.get? b = some o) → Q (.ref (s.heap.objs.size + 1)) { s with heap := h' }) :
    wpAny (model prog w) A (call (.type "enumerate") [v]) Q E s := by
  refine callType_new F.called_enumerate (by decide) (F.typeCall_enumerate_1 _) (F.newCall_enumerate_1 _) (fun obj => F.args_object_init_2 obj _) F.entry_enumerate_new
    (nd_enum_new B) ⟨h1, ?_⟩
  have hz : (s.heap.push o).objs.size = s.heap.objs.size + 1 := Heap.size_push ..
  show _ ∧ _
  rw [hz]
  have he : IsEnum ((s.heap.push o).push { cls := .type "enumerate", data := .fields #[.none, .bool false, .ref s.heap.objs.size, rawInt 0, .none, .none] }) (s.heap.objs.size + 1) s.heap.objs.size 0 .none := by
    have := Heap.get?_push_size (s.heap.push o) (o := { cls := .type "enumerate", data := .fields #[.none, .bool false, .ref s.heap.objs.size, rawInt 0, .none, .none] }) rfl
    rw [hz] at this; exact this
  refine ⟨⟨_, he, rfl⟩, h _ he (Heap.get?_push_of_some _ (Heap.get?_push_size _ B.free)) (by rw [Heap.size_push, hz]) fun b o x => Heap.get?_push_of_some _ (Heap.get?_push_of_some _ x)⟩
end PySem
namespace ND
open PySem PySem.Spec PyProof.Rows L2
/-- the tuple at a, each item in a new pair -/
def IteT (K : PySem.W.Frag) (a : Addr) : It :=
  ⟨fun i H => ∃ (xs : List V) (x : V), SqT K H a xs ∧ xs[i]? = some x, fun i H v H' => ∃ T x, v = .ref T ∧ H T = none ∧ H' = upd H T (.tup [.int (i : Nat), x]) ∧ ∀ xs, SqT K H a xs → xs[i]? = some x, fun i H => ∃ xs : List V, SqT K H a xs ∧ xs.length ≤ i⟩
theorem turn_enumT {P : Program} {w : World} {K : PySem.W.Frag} {elts : List Expr} {kk : Nat} {tpos : Pos} (a e it : Addr) :
    Turn P w K (.Tuple elts kk tpos) (IteT K a) [e, it] e (fun i h => (∃ old, IsEnum h e it ((i : Nat) : Int) old) ∧ h.IsTupleIter it a i ∧ e ≠ it ∧ a ≠ it ∧ a ≠ e) where
  mem := by simp
  obj := fun i h st b hb => by
    obtain ⟨⟨old, he⟩, ⟨o, ho, hc, hd⟩, _⟩ := st
    have e' : b = e ∨ b = it := by simpa using hb
    rcases e' with z | z
    · rw [z]; exact ⟨_, he, fun v q => nomatch q⟩
    · rw [z]; exact ⟨o, ho, fun v q => by rw [hd] at q; cases q⟩
  keep := fun i h h' st k => let ⟨⟨old, he⟩, hi, hne⟩ := st; ⟨⟨old, k e (by simp) _ he⟩, hi.at fun o q => k it (by simp) o q, hne⟩
  item := by
    intro X hP hw hK hc i pins s σ H E I hf st hg
    subst hP hw hK
    obtain ⟨⟨old, he⟩, hit, hne, hai, hae⟩ := st
    obtain ⟨xs, x, hq, hx⟩ := hg
    obtain ⟨its, rv, p, hz⟩ := I.tuple hq
    obtain ⟨u, hu, ru⟩ := rv.get hx
    have hel : e < s.heap.objs.size := Heap.lt_size he
    have hil : it < s.heap.objs.size := by obtain ⟨_, q, _⟩ := hit; exact Heap.lt_size q
    have hlt : i < its.toArray.size := by
      rw [List.size_toArray]
      exact (List.getElem?_eq_some_iff.mp hu).1
    refine wpAny_pyNext_enum_itemD (Draws.tuple (A := X.A.in1) (I.ok.hd hc) it a hai its.toArray) he ⟨hit, p⟩ hlt hne (by simp [hne, Ne.symm hae]) fun u' h' tk hP' ho hst' hT hsz hk => ?_
    have eu : u' = u := by
      have h1 : its.toArray[i]? = some u' := hP'
      rw [List.getElem?_toArray] at h1
      exact Option.some.inj (h1.symm.trans hu)
    subst eu
    refine ⟨_, rfl, wpAny_letOwnedTupleGo_enum (s := { s with heap := h', toks := tk + 1 }) ho fun h'' he' sb => ?_⟩
    have hT2 : h''.get? s.heap.objs.size = some { cls := .type "tuple", data := .seq #[.int i tk, u'] } := (sb.2 _ (Nat.ne_of_gt hel)).trans hT
    have new : ObjOk X.prog X.w (upd H s.heap.objs.size (.tup [.int (i : Nat), x])) h'' s.heap.objs.size (.tup [.int (i : Nat), x]) :=
      ⟨by show 2 ≤ sizeLine; decide, [.int i tk, u'], .cons ⟨_, rfl⟩ (.cons ru .nil), ⟨_, hT2, rfl, _, rfl⟩⟩
    have I1 : Inv X pins σ (upd H s.heap.objs.size (.tup [.int (i : Nat), x])) { s with heap := h'', toks := tk + 1 } :=
      I.turnedNew (ch := [e, it]) (fun b ob hb q => (sb.2 b (fun z => hb (by simp [z]))).trans (hk b ob (fun z => hb (by simp [z])) (fun z => hb (by simp [z])) q)) hf (Nat.le_refl _) new
    refine ⟨.ref s.heap.objs.size, _, I1, rfl, ⟨_, x, rfl, I.hok.fresh (Nat.le_refl _), rfl, fun ys hy => by rw [I.tuple_inj hy hq]; exact hx⟩, ⟨⟨u', ?_⟩, hst'.1.at fun o q => (sb.2 it (Ne.symm hne)).trans q, hne, hai, hae⟩, fun b hb => ?_⟩
    · have e1 : ((i + 1 : Nat) : Int) = (i : Int) + 1 := by omega
      rw [e1]; exact he'
    · have hb' : b < s.heap.objs.size := by
        have e' : b = e ∨ b = it := by simpa using hb
        rcases e' with z | z
        · rw [z]; exact hel
        · rw [z]; exact hil
      rw [upd_ne (Nat.ne_of_lt hb')]
      exact (hf b hb).1
  done := by
    intro X hP hw hK hc i pins s σ H E I hf st hg
    subst hP hw hK
    obtain ⟨⟨old, he⟩, hit, hne, hai, hae⟩ := st
    obtain ⟨xs, hq, hx⟩ := hg
    obtain ⟨its, rv, p, hz⟩ := I.tuple hq
    obtain ⟨f0, f1, f2, f3, f4, f5⟩ := hf it (by simp)
    have hl := rv.length
    have hT : s.TypeIs (.ref e) "enumerate" := ⟨_, he, rfl⟩
    unfold pyNext
    refine wpAny_bind (wpAny_attempt (wpAny_callSpecial?_slot (name := Str.ofString "__next__") hT F.slot_enumerate_next
      (wpAny_call_entry F.slot_enumerate_next hT F.entry_enumerate_next ?_ (F.args_enumerate_next_1 _))))
    show wpAny _ _ (field (.ref e) 2 >>= _) _ _ _
    refine wpAny_bind (wpAny_field he rfl (x := .ref it) rfl ?_)
    refine wpAny_bind (wpAny_nextOf_tuple_end (A := X.A.in1) (I.ok.hd hc) hit p (by rw [List.getElem?_toArray]; exact List.getElem?_eq_none (by omega)) fun h' x he' hx' => ?_)
    obtain ⟨o, ho, hc'⟩ := hx'
    refine wpAny_bind (wpAny_isInstance (T := "StopIteration") (b := true) ⟨o, ho, hc'⟩ isSubtype_stop ?_)
    exact wpAny_pure ⟨rfl, I.turned (t' := s.toks) (fun b o hb q => he' b o hb q) f0 f1 f3 f4 f5⟩
  self := fun A i s Q E st h => let ⟨⟨_, he⟩, _⟩ := st; wpAny_pyIter_enum he h
def iEnumT (K : PySem.W.Frag) (ta : TA) : TI := fun σ H R => ta σ H fun vs H1 => ∃ a xs, vs = [.ref a] ∧ SqT K H1 a xs ∧ R (IteT K a) H1
theorem pi_enumT {X : Cx} {e : Expr} {ta : TA} {p pos tpos : Pos} {elts : List Expr} {kk : Nat} (hg : Gl X "enumerate") (hm : X.mg "enumerate" = none) (ha : PA X [e] ta) (hs : starEach [e] X.env = [(false, eval e X.env)] := by rfl) :
    PI X (.Tuple elts kk tpos) (.Call (.Name "enumerate" p) [e] [] pos) (iEnumT X.K ta) := by
  refine ⟨fun pins s σ H R I h => ?_⟩
  refine Call_ (ld_blt I hg hm boot_enumerate (PyProof.Rows.callWith_type1 (thn (ha.run pos pins s σ H _ I h) fun us s1 ⟨vs, H1, I1, r1, q1⟩ => ?_) hs rfl))
  obtain ⟨a, xs, ex, hq, q⟩ := q1
  subst ex
  cases r1 with
  | cons r rr =>
    cases rr
    cases r
    obtain ⟨its, rv, p', hz⟩ := I1.tuple hq
    have hal : a < s1.heap.objs.size := by obtain ⟨_, z, _⟩ := p'; exact Heap.lt_size z
    refine nd_enum_begins (begins_tuple a its.toArray) p' fun h' he hit hsz hk => wpAny_pyIter_enum he ?_
    have I2 : Inv X pins σ H1 { s1 with heap := h' } := I1.kept (t' := s1.toks) hk
    refine ⟨s1.heap.objs.size + 1, [s1.heap.objs.size + 1, s1.heap.objs.size], _, _, H1, rfl, I2, turn_enumT a (s1.heap.objs.size + 1) s1.heap.objs.size, ⟨⟨.none, he⟩, ⟨_, hit, rfl, rfl⟩, Nat.succ_ne_self _, Nat.ne_of_lt hal, Nat.ne_of_lt (Nat.lt_succ_of_lt hal)⟩, fun b hb => ?_, q⟩
    have e' : b = s1.heap.objs.size + 1 ∨ b = s1.heap.objs.size := by simpa using hb
    have hle : s1.heap.objs.size ≤ b := by
      rcases e' with z | z
      · rw [z]; exact Nat.le_add_right _ _
      · rw [z]; exact Nat.le_refl _
    exact I1.fpOk hle (I1.hok.fresh hle)
section
variable {X : Cx} {δ δ1 : DEnv} {ds es : List D} {pos : Pos}
theorem i_enumT {a : Expr} {p tpos : Pos} {elts : List Expr} {kk : Nat} (hg : Gl X "enumerate") (hm : X.mg "enumerate" = none) (h : EvD X δ a (.tup ds) δ1) (hs : starEach [a] X.env = [(false, eval a X.env)] := by rfl) :
    ItD X δ (.Tuple elts kk tpos) (.Call (.Name "enumerate" p) [a] [] pos) (ds.mapIdx fun i d => .sft [.int (i : Nat), d]) δ1 := by
  refine ⟨h.kd, fun α σ H F R st k => .of (pi_enumT hg hm (pa_cons pe_tw pa_nil (by rw [hs] <;> rfl)) hs) ?_⟩
  refine twE.and (h.run α σ H F _ st fun v F1 H1 s1 st1 r1 => ?_)
  rintro ⟨pins, s, I⟩
  obtain ⟨a, vs, rfl, ha, rr⟩ := r1.seqT
  have hs := (ha.up st1.fh).sq (K := X.K)
  obtain ⟨_, _, _, hz⟩ := I.tuple hs
  have up : ∀ {F H : Hp}, Same F1 F ∧ Same F H → SqT X.K H a vs := fun g => ((ha.up g.1).up g.2).sq
  refine ⟨a, vs, rfl, hs, k _ F1 H1 s1 st1 ⟨by rw [List.length_mapIdx, ← rr.length]; exact hz, fun i F H g hi => ?_, fun i F H x H' d g fh hd hy => ?_, fun i F H g hi => ?_⟩⟩
  · rw [List.length_mapIdx, ← rr.length] at hi
    exact ⟨vs, vs[i], up g, List.getElem?_eq_getElem _⟩
  · obtain ⟨T, x', rfl, nT, rfl, hy⟩ := hy
    rw [List.getElem?_mapIdx] at hd
    cases q : ds[i]? with
    | none => rw [q] at hd; cases hd
    | some d' =>
      rw [q] at hd; cases hd
      obtain ⟨v, h1, h2⟩ := rr.get q
      have e2 : v = x' := Option.some.inj (h1.symm.trans (hy vs (up g)))
      subst e2
      have gr : Grow F H _ _ := Grow.new (o := .tup [.int (i : Nat), v]) fh nT
      exact ⟨_, gr, .sft upd_same (.cons (.int _) (.cons ((h2.mono g.1).mono gr.ff) .nil))⟩
  · rw [List.length_mapIdx, ← rr.length] at hi
    exact ⟨vs, up g, hi⟩
end
end ND
namespace ND
open PySem PySem.Spec PyProof.Rows L2
section
variable {X : Cx} {δ δ1 : DEnv} {ds es : List D} {pos : Pos}
/-- zip(tuple, tuple) -/
theorem i_zipT {a b : Expr} {p tpos : Pos} {elts : List Expr} {kk : Nat} (hg : Gl X "zip") (hm : X.mg "zip" = none) (h : AvD X δ [a, b] [.tup ds, .tup es] δ1)
    (hs : starEach [a, b] X.env = (false, eval a X.env) :: starEach [b] X.env := by rfl) (hpl : (backTo pos (starEach [b] X.env)).any (·.1) = false := by rfl) :
    ItD X δ (.Tuple elts kk tpos) (.Call (.Name "zip" p) [a, b] [] pos) ((ds.zip es).map fun q => .sft [q.1, q.2]) δ1 := by
  refine ⟨h.kd, fun α σ H F R st k pins s I => ?_⟩
  refine (RZ.pi_zipA hg hm pa_tw hs hpl).run pins s σ H R I ?_
  refine twA.and (h.run α σ H F _ st fun us F1 H1 s1 st1 r1 => ?_)
  rintro ⟨pins2, s2, I2⟩
  cases r1 with
  | cons q1 r1 => cases r1 with
    | cons q2 r1 =>
      cases r1
      obtain ⟨a, vs, rfl, ha, rr⟩ := q1.seqT
      obtain ⟨b, ws, rfl, hb, rs⟩ := q2.seqT
      have upA : ∀ {F H : Hp}, Same F1 F ∧ Same F H → SqT X.K H a vs := fun g => ((ha.up g.1).up g.2).sq
      have upB : ∀ {F H : Hp}, Same F1 F ∧ Same F H → SqT X.K H b ws := fun g => ((hb.up g.1).up g.2).sq
      refine ⟨a, b, vs, ws, rfl, .inr ⟨(ha.up st1.fh).sq, (hb.up st1.fh).sq, k _ F1 H1 s1 st1 ⟨?_, fun i F H g hi => ?_, fun i F H x H' d g fh hd hy => ?_, fun i F H g hi => ?_⟩⟩⟩
      · obtain ⟨_, _, _, hz⟩ := I2.tuple ((ha.up st1.fh).sq (K := X.K))
        have l1 := rr.length
        rw [List.length_map, List.length_zip]
        omega
      · rw [List.length_map, List.length_zip] at hi
        have l1 := rr.length
        have l2 := rs.length
        exact ⟨vs, ws, vs[i]'(by omega), ws[i]'(by omega), upA g, upB g, List.getElem?_eq_getElem _, List.getElem?_eq_getElem _⟩
      · obtain ⟨T, x1, x2, rfl, nT, rfl, hy1, hy2⟩ := hy
        rw [List.getElem?_map] at hd
        cases q : (ds.zip es)[i]? with
        | none => rw [q] at hd; cases hd
        | some d' =>
          rw [q] at hd; cases hd
          obtain ⟨d1, d2⟩ := d'
          obtain ⟨e1, e2⟩ := List.getElem?_zip_eq_some.mp q
          obtain ⟨v, h1, h2⟩ := rr.get e1
          obtain ⟨w, h3, h4⟩ := rs.get e2
          have k1 : v = x1 := Option.some.inj (h1.symm.trans (hy1 vs (upA g)))
          have k2 : w = x2 := Option.some.inj (h3.symm.trans (hy2 ws (upB g)))
          subst k1 k2
          have gr : Grow F H _ _ := Grow.new (o := .tup [v, w]) fh nT
          exact ⟨_, gr, .sft upd_same (.cons ((h2.mono g.1).mono gr.ff) (.cons ((h4.mono g.1).mono gr.ff) .nil))⟩
      · rw [List.length_map, List.length_zip] at hi
        have l1 := rr.length
        have l2 := rs.length
        exact ⟨vs, ws, upA g, upB g, by omega⟩
end
end ND

/-! NDx -/
set_option Elab.async false
set_option linter.all false
set_option maxRecDepth 100000
set_option maxHeartbeats 4000000
namespace ND
open PySem PySem.Spec PyProof.Rows L2 NA
/-- the first of each kind -/
def nub : List Nm → List Nm
  | [] => []
  | x :: r => x :: (nub r).filter fun y => !decide (y = x)
def m_set_of (l : List Nm) : Option (List Nm) := (chk (decide (l.length < 1000))).bind fun _ => some (isort leN (nub l))
def T_set_of : FT := fun as r as' => ∃ (l : List Nm) (y : List Nm), m_set_of l = some y ∧ as = [.dat (eL eN l)] ∧ r = eT eN y ∧ as' = as
def m_is_number (_ : Int) : Option Bool := some true
def T_is_number : FT := fun as r as' => ∃ (x : Int) (y : Bool), m_is_number x = some y ∧ as = [.dat (eI x)] ∧ r = eB y ∧ as' = as
def m_is_name (_ : Nm) : Option Bool := some true
def T_is_name : FT := fun as r as' => ∃ (x : Nm) (y : Bool), m_is_name x = some y ∧ as = [.dat (eN x)] ∧ r = eB y ∧ as' = as
section
variable {X : Cx} {δ δ1 δ2 : DEnv} {e a b c tg iter : Expr} {pos p2 p3 apos spos tpos : Pos} {A B S : Type} {f : A → D} {g : B → D} {l xs : List A} {y : A} {x : Str}
def enm {A : Type} (l : List A) : List (Int × A) := l.mapIdx fun i x => ((i : Int), x)
theorem it_EL {elts : List Expr} {kk : Nat} {p : Pos} (G : Cg X) (h : EvD X δ a (eL f l) δ1) (hg : Gl X "enumerate" := by rfl) (hs : starEach [a] X.env = [(false, eval a X.env)] := by rfl) :
    ItD X δ (.Tuple elts kk tpos) (.Call (.Name "enumerate" p) [a] [] pos) ((enm l).map (eS eI f)) δ1 := by
  have q := i_enum (p := p) (pos := pos) (tpos := tpos) (elts := elts) (kk := kk) hg G.fr.enum h hs
  have e : ((l.map f).mapIdx fun i d => D.sft [.int (i : Nat), d]) = (enm l).map (eS eI f) := by
    unfold enm
    apply List.ext_getElem?
    intro i
    simp only [List.getElem?_mapIdx, List.getElem?_map]
    cases l[i]? <;> rfl
  rw [e] at q
  exact q
theorem it_ET {elts : List Expr} {kk : Nat} {p : Pos} (G : Cg X) (h : EvD X δ a (eT f l) δ1) (hg : Gl X "enumerate" := by rfl) (hs : starEach [a] X.env = [(false, eval a X.env)] := by rfl) :
    ItD X δ (.Tuple elts kk tpos) (.Call (.Name "enumerate" p) [a] [] pos) ((enm l).map (eS eI f)) δ1 := by
  have q := i_enumT (p := p) (pos := pos) (tpos := tpos) (elts := elts) (kk := kk) hg G.fr.enum h hs
  have e : ((l.map f).mapIdx fun i d => D.sft [.int (i : Nat), d]) = (enm l).map (eS eI f) := by
    unfold enm
    apply List.ext_getElem?
    intro i
    simp only [List.getElem?_mapIdx, List.getElem?_map]
    cases l[i]? <;> rfl
  rw [e] at q
  exact q
def lePII (a b : Int × Int) : Bool := decide (a.1 < b.1 ∨ (a.1 = b.1 ∧ a.2 ≤ b.2))
theorem totPII : Tot lePII := ⟨fun a b c h1 h2 => by simp only [lePII, decide_eq_true_eq] at *; omega, fun a b => by simp only [lePII, Bool.or_eq_true, decide_eq_true_eq]; omega, fun a b h1 h2 => by simp only [lePII, decide_eq_true_eq] at *; exact Prod.ext (by omega) (by omega)⟩
instance : Sd (eP eI eI) lePII := ⟨fun _ => rfl, fun x y => alikeP rfl rfl, .inl fun x => ⟨_, _, rfl⟩, W.dataLe_ii (fun x : Int × Int => x.1) (fun x => x.2), totPII⟩
theorem eqv_ts {ds : List D} {x : Str} : deq (.tup ds) (.str x) = false := by
  show PyData.eqv (.tuple _) (.str x) = false
  simp only [PyData.eqv]
theorem eqv_ss {x : Str} : deq (.str x) (.str x) = true := by
  show PyData.eqv (.str x) (.str x) = true
  simp only [PyData.eqv, beq_self_eq_true]
theorem v_neW {B : Type} [DecidableEq B] {h : B → D} [Gd 5 h] (G : Cg X) {y : Option (List B)} {j} (ha : EvD X δ a (eW (eT h) y) δ1) : EvD X δ (.Compare a [.NotEq] [.Constant (.str "no plan") j p2] pos) (.bl (!y.isNone)) δ1 := by
  refine (e_ne G.hu ha e_str ?_ rfl).cast ?_
  · cases y with
    | none => rfl
    | some l => exact Gd.ok (n := 6) (f := eT h) l
  · cases y with
    | none => show D.bl (!deq (.str "no plan") (.str "no plan")) = _; rw [eqv_ss]; rfl
    | some l => show D.bl (!deq (.tup (l.map h)) (.str "no plan")) = _; rw [eqv_ts]; rfl
end
end ND

/-! NDz -/
set_option Elab.async false
set_option linter.all false
set_option maxRecDepth 100000
set_option maxHeartbeats 4000000
namespace ND
open PySem PySem.Spec PyProof.Rows L2 NA
section
variable {P : Program} {w : World} {K : PySem.W.Frag} {mg : Str → Option Value} {base : Heap}
theorem sc_is_number : FnScope ["thing"] ["thing"] (defScope s_is_number) := ⟨rfl, rfl, rfl, by decide +kernel, rfl, by decide +kernel, by decide +kernel⟩
theorem can_is_number (F : Def1 K mg "is_number" s_is_number) (fr : Fre mg) : Can P w K mg base "is_number" ["thing"] 1 T_is_number := by
  refine can_of F sc_is_number (by decide) fr (fun f fd h => h.bindsN fun _ _ _ _ _ _ us hl => match us, hl with | [_], _ => rfl) ?_ ?_
  · rintro as r as' ⟨x, y, h, rfl, rfl, rfl⟩
    exact shp_dat [eI x] rfl rfl rfl
  · rintro f cdv A outer s0 H E as r as' hr G ⟨x, y, h, rfl, rfl, rfl⟩
    cases h
    show SsD _ [.dat (eI x)] _ _
    refine ss_cons (s_ret (d := .bl (true && !false)) (δ1 := [.dat (eI x)]) ?_ ⟨rfl, trivial⟩)
    refine e_and (e_isi (d := eI x) rfl G.fr.isi (a_cons (v_var 0) (a_cons (e_ty (T := "int") rfl G.fr.int (by decide +kernel)) a_nil)) rfl) fun _ => ?_
    refine e_one (e_not ?_)
    exact (e_isi (d := eI x) rfl G.fr.isi (a_cons (v_var 0) (a_cons (e_ty (T := "bool") rfl G.fr.bool (by decide +kernel)) a_nil)) rfl)
/-! is_name -/
theorem e_inS {X : Cx} {δ δ1 δ2 : DEnv} {a b : Expr} {pos : Pos} {c : Nat} {z : Str} (ha : EvD X δ a (.str ⟨#[c]⟩) δ1) (hb : EvD X δ1 b (.str z) δ2) (hm : behindInMarks .In b = false := by with_unfolding_all rfl) : EvD X δ (.Compare a [.In] [b] pos) (.bl (decide (c ∈ z.cps.toList))) δ2 :=
  e_cmp2 op_inS hm ha hb fun v u F H Q fh r1 r2 k => by
    cases r1; cases r2
    exact ⟨c, z, rfl, rfl, k _ F H (Grow.refl fh) (.bl _)⟩
theorem nm_ok : ∀ x : Nm, ((nm x).cps.toList.all fun c => decide (c ∈ ("abcdefghijklmnopqrstuvwxyz" : Str).cps.toList)) = true ∧ decide ((1 : Int) ≤ ((nm x).length : Nat)) = true ∧ decide (((nm x).length : Nat) ≤ (8 : Int)) = true ∧ (nm x).cps.size ≤ 8 := by decide +kernel
theorem sc_is_name : FnScope ["thing", "letter"] ["thing"] (defScope s_is_name) := ⟨rfl, rfl, rfl, by decide +kernel, rfl, by decide +kernel, by decide +kernel⟩
theorem can_is_name (F : Def1 K mg "is_name" s_is_name) (fr : Fre mg) : Can P w K mg base "is_name" ["thing"] 1 T_is_name := by
  refine can_of F sc_is_name (by decide) fr (fun f fd h => h.bindsN fun _ _ _ _ _ _ us hl => match us, hl with | [_], _ => rfl) ?_ ?_
  · rintro as r as' ⟨x, y, h, rfl, rfl, rfl⟩
    exact shp_dat [eN x] rfl rfl rfl
  · rintro f cdv A outer s0 H E as r as' hr G ⟨x, y, h, rfl, rfl, rfl⟩
    cases h
    obtain ⟨h1, h2, h3, h4⟩ := nm_ok x
    obtain ⟨t, hlt⟩ := G.fr.lt
    show SsD _ [.dat (.str (nm x)), .un] _ _
    refine ss_cons (s_ret (d := .bl (true && (true && true && true))) (δ1 := [.dat (.str (nm x)), .un]) ?_ ⟨rfl, trivial⟩)
    refine e_and (e_isi (d := .str (nm x)) rfl G.fr.isi (a_cons (v_var 0) (a_cons (e_ty (T := "str") rfl G.fr.str (by decide +kernel)) a_nil)) rfl) fun _ => ?_
    have hsz : (nm x).cps.size ≤ sizeLine := Nat.le_trans h4 (by decide)
    refine e_and ?_ fun _ => e_one ?_
    · refine (e_chain (p := decide ((1 : Int) ≤ ((nm x).length : Nat))) (q := decide (((nm x).length : Nat) ≤ (8 : Int))) op_le op_le e_int (e_lenS (by rfl) G.fr.len (v_var 0) hsz) e_int o2_intB o2_intB).cast ?_
      rw [h2, h3]
    · have hcm : cmpM (fun _ => some true) (fun c : Nat => some (decide (c ∈ ("abcdefghijklmnopqrstuvwxyz" : Str).cps.toList))) (nm x).cps.toList = some ((nm x).cps.toList.map fun c => decide (c ∈ ("abcdefghijklmnopqrstuvwxyz" : Str).cps.toList)) := by
        generalize (nm x).cps.toList = l
        induction l with
        | nil => rfl
        | cons c l ih => show (cmpM _ _ l).bind _ = _; rw [ih]; rfl
      refine (v_all (bs := (nm x).cps.toList.map fun c => decide (c ∈ ("abcdefghijklmnopqrstuvwxyz" : Str).cps.toList)) G (k_lc (f := eB) (g := fun c : Nat => D.str ⟨#[c]⟩) [("letter", 1)] (fun c => [(1, D.str ⟨#[c]⟩)]) G hcm (i_str (v_var 0) hsz).l (.inl rfl) (fun s H C cl fp b hb => tg1 1 G.nd) (fun z H C cl fp b y G hb h => ?_)).ev).cast ?_
      · cases h
        show EvD _ [.dat (.str (nm x)), .dat (.str ⟨#[b]⟩)] _ _ [.dat (.str (nm x)), .dat (.str ⟨#[b]⟩)]
        exact e_inS (v_var 1) (e_globS rfl hlt)
      · rw [List.all_map]
        show D.bl ((nm x).cps.toList.all fun c => decide (c ∈ ("abcdefghijklmnopqrstuvwxyz" : Str).cps.toList)) = _
        rw [h1]
/-! tupled -/
def T_tn (n : Nat) : FT := fun as r as' => tupOk n r = true ∧ as = [.dat r] ∧ as' = as
theorem sc_tupled : FnScope ["thing", "part"] ["thing"] (defScope s_tupled) := ⟨rfl, rfl, rfl, by decide +kernel, rfl, by decide +kernel, by decide +kernel⟩
theorem cmp_id {A : Type} : ∀ l : List A, cmpM (fun _ => some true) some l = some l
  | [] => rfl
  | a :: l => by show (cmpM _ _ l).bind _ = _; rw [cmp_id l]; rfl
theorem isi_no {X : Cx} {δ : DEnv} {e : Expr} {pos p p1 p2 p3 : Pos} {k : Nat} {d : D} {r q : Bool} (G : Cg X) (ha : EvD X δ e d δ) (hk : kitB (tyD d) "list" = some r) (hk2 : kitB (tyD d) "tuple" = some q) (ht : tyKnown d = true)
    (hg : Gl X "isinstance" := by rfl) (hg1 : Gl X "list" := by rfl) (hg2 : Gl X "tuple" := by rfl) (hs0 : starEach (.Name "list" p1 :: [.Name "tuple" p2]) X.env = (false, eval (.Name "list" p1) X.env) :: starEach [.Name "tuple" p2] X.env := by rfl) (hs1 : starEach (.Name "tuple" p2 :: []) X.env = (false, eval (.Name "tuple" p2) X.env) :: starEach [] X.env := by rfl)
    (hs2 : starEach (.Tuple [.Name "list" p1, .Name "tuple" p2] k p3 :: []) X.env = (false, eval (.Tuple [.Name "list" p1, .Name "tuple" p2] k p3) X.env) :: starEach [] X.env := by rfl) (hs : starEach (e :: [.Tuple [.Name "list" p1, .Name "tuple" p2] k p3]) X.env = (false, eval e X.env) :: starEach [.Tuple [.Name "list" p1, .Name "tuple" p2] k p3] X.env := by rfl)
    (hpl : (backTo pos (starEach [.Tuple [.Name "list" p1, .Name "tuple" p2] k p3] X.env)).any (·.1) = false := by rfl) :
    EvD X δ (.Call (.Name "isinstance" p) [e, .Tuple [.Name "list" p1, .Name "tuple" p2] k p3] [] pos) (.bl (r || q)) δ :=
  e_isiT hg G.fr.isi (a_cons ha (a_cons (e_tup (a_cons (e_ty (T := "list") hg1 G.fr.list (by decide +kernel)) (a_cons (e_ty (T := "tuple") hg2 G.fr.tuple (by decide +kernel)) a_nil hs1) hs0) (show 2 ≤ sizeLine by decide)) a_nil hs2) hs) hk hk2 ht hs hpl
theorem can_tn (F : Def1 K mg "tupled" s_tupled) (fr : Fre mg) (n : Nat) : Can P w K mg base "tupled" ["thing"] (n + 1) (T_tn n) := by
  induction n with
  | zero =>
    refine can_of F sc_tupled (by decide) fr (fun f fd h => h.bindsN fun _ _ _ _ _ _ us hl => match us, hl with | [_], _ => rfl) ?_ ?_
    · rintro as r as' ⟨h, rfl, rfl⟩
      exact shp_dat [r] rfl rfl rfl
    · rintro f cdv A outer s0 H E as r as' hr G ⟨h, rfl, rfl⟩
      show SsD _ [.dat r, .un] _ _
      refine ss_cons (s_ret (d := bif false then .non else r) (δ1 := [.dat r, .un]) (e_ifExp (p := false) (t_val ?_) (fun e => by cases e) (fun _ => v_var 0)) ⟨rfl, trivial⟩)
      cases r with
      | non => exact isi_no G (v_var 0) (r := false) (q := false) rfl rfl rfl
      | str x => exact isi_no G (v_var 0) (r := false) (q := false) rfl rfl rfl
      | int i => exact isi_no G (v_var 0) (r := false) (q := false) rfl rfl rfl
      | _ => cases h
  | succ n ih =>
    refine can_of F sc_tupled (by decide) fr (fun f fd h => h.bindsN fun _ _ _ _ _ _ us hl => match us, hl with | [_], _ => rfl) ?_ ?_
    · rintro as r as' ⟨h, rfl, rfl⟩
      exact shp_dat [r] rfl rfl rfl
    · rintro f cdv A outer s0 H E as r as' hr G ⟨h, rfl, rfl⟩
      replace ih := ih.cal hr (N := ["thing", "part"]) (cdv := cdv) (outer := outer) (H := H) (E := E)
      show SsD _ [.dat r, .un] _ _
      have simple : ∀ {r : D} {N : DE}, N.rt r [.dat r, .un] → kitB (tyD r) "list" = some false → kitB (tyD r) "tuple" = some false → tyKnown r = true → SsD (CxB P w K mg base ["thing", "part"] "tupled" s_tupled f cdv A outer s0 H E) [.dat r, .un] (defBody s_tupled) N := fun {r N} hN h1 h2 h3 =>
        ss_cons (s_ret (d := bif false then .non else r) (δ1 := [.dat r, .un]) (e_ifExp (p := false) (t_val (isi_no G (v_var 0) (r := false) (q := false) h1 h2 h3)) (fun e => by cases e) (fun _ => v_var 0)) hN)
      cases r with
      | non => exact simple ⟨rfl, trivial⟩ rfl rfl rfl
      | str x => exact simple ⟨rfl, trivial⟩ rfl rfl rfl
      | int i => exact simple ⟨rfl, trivial⟩ rfl rfl rfl
      | tup ds =>
        have hall : ∀ b ∈ ds, tupOk n b = true := fun b hb => List.all_eq_true.mp (show ds.all (tupOk n) = true from h) b hb
        have em : D.tup (ds.map fun d => d) = .tup ds := by rw [List.map_id']
        refine ss_cons (s_ret (d := bif true then .tup (ds.map fun d => d) else .non) (δ1 := [.dat (.tup ds), .un]) (e_ifExp (p := true) (t_val (isi_no G (v_var 0) (r := false) (q := true) rfl rfl rfl)) (fun _ => ?_) (fun e => by cases e)) ⟨by rw [List.map_id']; rfl, trivial⟩)
        refine v_tupL (f := fun d : D => d) (l := ds) G ((k_lc (f := fun d : D => d) (g := fun d : D => d) (l := ds) [("part", 1)] (fun d => [(1, d)]) G (cmp_id ds) (it_T (f := fun d : D => d) (l := ds) (EvD.cast (v_var 0) em.symm)).l (.inl rfl) (fun s H C cl fp b hb => tg1 1 G.nd) (fun z H C cl fp b y G hb h => ?_)).ev)
        cases h
        show EvD _ [.dat (.tup ds), .dat b] _ _ [.dat (.tup ds), .dat b]
        exact e_call ih.blk rfl (a_cons (v_var 1) a_nil) ⟨hall b hb, rfl, rfl⟩
      | _ => cases h
theorem can_tupled (F : Def1 K mg "tupled" s_tupled) (fr : Fre mg) : Can P w K mg base "tupled" ["thing"] 4 T_tupled := can_tn F fr 3
end
end ND

/-! NDset -/
set_option Elab.async false
set_option linter.all false
set_option maxRecDepth 100000
set_option maxHeartbeats 4000000
/-! sets of texts, of any number: laid by set(list), taken by sorted -/
namespace ND
open PySem PySem.Spec PyProof.Rows L2
def keyX (e : Int × Value) : Str := match e.2 with | .str k _ => k | _ => Str.empty
def GoodX (w : World) (e : Int × Value) : Prop := ∃ k tk, e.2 = Value.str k tk ∧ e.1 = hashStr w k
/-- the set of texts at a: S its members, n their number -/
def SetX (w : World) (h : Heap) (a : Addr) (S : Str → Bool) (n : Nat) : Prop :=
  ∃ o es ep t, h.get? a = some o ∧ o.ExactSet ∧ o.data = .set es ep t ∧ (∀ e ∈ es.toList, GoodX w e) ∧ (es.toList.map keyX).Nodup ∧ (∀ k, S k = true ↔ k ∈ es.toList.map keyX) ∧
    es.size < scanBound ∧ t.fits es.size = true ∧ es.size = n ∧ Ris t.place.toList ∧ (w.params.followText "set-order" = true ∨ t.led = true)
section
variable {P : Program} {w : World} {h h' : Heap} {a : Addr} {S : Str → Bool} {n : Nat}
theorem SetX.at (R : SetX w h a S n) (k : ∀ o, h.get? a = some o → h'.get? a = some o) : SetX w h' a S n := by
  obtain ⟨o, es, ep, t, ho, r⟩ := R
  exact ⟨o, es, ep, t, k o ho, r⟩
theorem SetX.congr {S' : Str → Bool} (R : SetX w h a S n) (e : ∀ k, S' k = S k) : SetX w h a S' n := by
  have q : S' = S := funext e
  rw [q]; exact R
theorem goodx_elems {l : List (Int × Value)} (g : ∀ e ∈ l, GoodX w e) : ElemsOf (strKind P w) l := fun e he => by
  obtain ⟨k, tk, h1, h2⟩ := g e he
  exact ⟨⟨k, by rw [h1]; exact strKind_is P w k tk, h2⟩, by rw [h1] <;> rfl⟩
theorem goodx_is {e : Int × Value} (g : GoodX w e) (k : Str) : (strKind P w).is k e.2 = true ↔ keyX e = k := by
  obtain ⟨k0, tk, h1, _⟩ := g
  unfold keyX
  rw [h1]
  show ((k0 == k) = true) ↔ k0 = k
  exact beq_iff_eq
theorem goodx_mem {l : List (Int × Value)} (g : ∀ e ∈ l, GoodX w e) (k : Str) : k ∈ l.map keyX ↔ ∃ e ∈ l, (strKind P w).is k e.2 = true := by
  rw [List.mem_map]
  constructor
  · rintro ⟨e, he, q⟩
    exact ⟨e, he, (goodx_is (g e he) k).2 q⟩
  · rintro ⟨e, he, q⟩
    exact ⟨e, he, (goodx_is (g e he) k).1 q⟩
end
section
variable {P : Program} {w : World} {A : Around} {E : Value → Shared → Prop} {s : Shared} {a : Addr} {S : Str → Bool} {n : Nat}
theorem setX_add_tail {g : Bool → Sem Unit} (hg : ∀ (b : Bool) (s₁ : Shared) (Q' : Unit → Shared → Prop), Q' () s₁ → wpAny (model P w) A (g b) Q' E s₁)
    {o : Obj} {es : Array (Int × Value)} {ep : Nat} {t : SetTable} (ho : s.heap.get? a = some o) (hex : o.ExactSet) (hd : o.data = .set es ep t)
    {es1 : Array (Int × Value)} {t2 : SetTable} {S' : Str → Bool} (g1 : ∀ e ∈ es1.toList, (GoodX w) e) (nd1 : (es1.toList.map keyX).Nodup) (m1 : ∀ k, S' k = true ↔ k ∈ es1.toList.map keyX)
    (hb1 : es1.size < scanBound) (hf2 : t2.fits es1.size = true) (hr : Ris t2.place.toList) (hl : w.params.followText "set-order" = true ∨ t2.led = true) {wasDummy : Bool} {R : Option Bool → Shared → Prop}
    (hR : ∀ h', Heap.SameBut a s.heap h' → SetX w h' a S' es1.size → R (some true) { s with heap := h' }) :
    wpAny (model P w) A (do
        storeSet a es1 t2
        if (!wasDummy && t2.tooFull) = true then do
            g (relayAll t2 es1 (SetTable.grown es1.size)).2.2
            storeSet a (relayAll t2 es1 (SetTable.grown es1.size)).1 (relayAll t2 es1 (SetTable.grown es1.size)).2.1
            pure (some true)
          else pure (some true)) R E s := by
  refine wpAny_bind (wpAny_storeSet_of ho hd ?_ (fits_of_scanBound hb1))
  have ho1 := store_at (es' := es1) (t' := t2) ho hd
  have sb1 := Heap.SameBut.update s.heap a (Obj.putSet es1 t2)
  split
  · have pm := relayAll_perm t2 es1 (SetTable.grown es1.size)
    have hf3 := relayAll_fits t2 es1 (SetTable.grown es1.size)
    have hr3 := relayAll_ris t2 es1 (SetTable.grown es1.size)
    have hl3 := relayAll_led t2 es1 (SetTable.grown es1.size)
    generalize relayAll t2 es1 (SetTable.grown es1.size) = Z at pm hf3 hr3 hl3 ⊢
    obtain ⟨es2, t3, gave⟩ := Z
    dsimp only at pm hf3 hr3 hl3 ⊢
    have hsz : es2.size = es1.size := by rw [← Array.length_toList, pm.length_eq, Array.length_toList]
    have hb2 : es2.size < scanBound := by rw [hsz]; exact hb1
    refine wpAny_bind (hg _ _ _ ?_)
    refine wpAny_bind (wpAny_storeSet_of ho1 rfl ?_ (fits_of_scanBound hb2))
    have ho2 := store_at (es' := es2) (t' := t3) ho1 rfl
    refine wpAny_pure (hR _ (sb1.trans (Heap.SameBut.update _ a _)) ?_)
    exact ⟨_, es2, _, t3, ho2, hex, rfl, fun e he => g1 e (pm.mem_iff.mp he), (pm.map keyX).nodup_iff.mpr nd1, fun k => (m1 k).trans (pm.map keyX).mem_iff.symm, hb2, hf3, hsz, hr3,
      hl.imp id fun z => by rw [hl3]; exact z⟩
  · exact wpAny_pure (hR _ sb1 ⟨_, es1, _, t2, ho1, hex, rfl, g1, nd1, m1, hb1, hf2, rfl, hr, hl⟩)

theorem setX_add_hashed {k : Str} {tk : Tok} {Q : Bool → Shared → Prop} (R : SetX w s.heap a S n) (room : n + 1 < scanBound)
    (hQ : ∀ h', Heap.SameBut a s.heap h' → SetX w h' a (fun j => S j || decide (j = k)) (if S k = true then n else n + 1) → Q (!S k) { s with heap := h' }) :
    wpAny (model P w) A (setAddHashed a (.str k tk) ((strKind P w).hash k)) Q E s := by
  obtain ⟨o, es, ep, t, ho, hex, hd, g, nd, hm, hb, hf, hn, hr, hl⟩ := R
  have hkey : (strKind P w).is k (.str k tk) = true := strKind_is P w k tk
  have hsc : (Value.str k tk).scannable = true := rfl
  have hel : ElemsOf (strKind P w) es.toList := goodx_elems g
  unfold setAddHashed setAddHashedIn
  refine wpAny_holding (wpAny_bind (wpAny_setState_of ho hd hf ?_))
  dsimp only
  rw [byScan_of hsc hb hel]
  simp only [↓reduceIte]
  unfold setAddByScan
  refine wpAny_bind ?_
  refine wpAny_bind (wpAny_rule ?_)
  refine wpAny_bind (wpAny_setScan_of hkey ho hd hf hel ?_)
  cases hfi : List.findIdx? (fun e => (strKind P w).is k e.2) es.toList with
  | some j =>
    dsimp only
    obtain ⟨hj, pj, _⟩ := List.findIdx?_eq_some_iff_getElem.mp hfi
    have hSk : S k = true := (hm k).2 ((goodx_mem (P := P) (w := w) g k).2 ⟨es.toList[j], List.getElem_mem hj, pj⟩)
    refine wpAny_pure (wpAny_pure ?_)
    have q := hQ s.heap (Heap.SameBut.refl a s.heap) ⟨o, es, ep, t, ho, hex, hd, g, nd, fun i => by
      rw [Bool.or_eq_true, decide_eq_true_eq, ← hm i]
      exact ⟨fun z => z.elim id (fun e => e ▸ hSk), .inl⟩, hb, hf, by rw [if_pos hSk]; exact hn, hr, hl⟩
    rw [hSk] at q
    exact q
  | none =>
    dsimp only
    have hnk : k ∉ es.toList.map keyX := fun z => by
      obtain ⟨e, he, q⟩ := (goodx_mem (P := P) (w := w) g k).1 z
      have c := List.findIdx?_eq_none_iff.mp hfi e he
      rw [q] at c
      cases c
    have hSk : S k = false := by
      cases q : S k with
      | false => rfl
      | true => exact absurd ((hm k).1 q) hnk
    have hgw : ∀ (b : Bool) {s₁ : Shared} {Q' : Unit → Shared → Prop}, Q' () s₁ → wpAny (model P w) A (match b with | true => rule "set.scan.the-table-gave-way" | false => pure ()) Q' E s₁ :=
      fun b s₁ Q' q => by cases b <;> first | exact wpAny_pure q | exact wpAny_rule q
    have pm := layNew_perm t es ((strKind P w).hash k) (.str k tk)
    have hf1 := layNew_fits t es ((strKind P w).hash k) (.str k tk)
    have hr1 := layNew_ris t es ((strKind P w).hash k) (.str k tk) hr
    have hl1 := layNew_led t es ((strKind P w).hash k) (.str k tk)
    generalize layNew t es ((strKind P w).hash k) (.str k tk) = Z at pm hf1 hr1 hl1 ⊢
    obtain ⟨es1, t1, wasDummy, gave⟩ := Z
    dsimp only at pm hf1 hr1 hl1 ⊢
    rw [Array.toList_push] at pm
    have pc : es1.toList.Perm (((strKind P w).hash k, Value.str k tk) :: es.toList) := pm.trans (List.perm_append_singleton _ _)
    have pk : (es1.toList.map keyX).Perm (k :: es.toList.map keyX) := pc.map keyX
    have g1 : ∀ e ∈ es1.toList, (GoodX w) e := fun e he => by
      rcases List.mem_cons.mp (pc.mem_iff.mp he) with z | z
      · rw [z]; exact ⟨k, tk, rfl, rfl⟩
      · exact g e z
    have nd1 : (es1.toList.map keyX).Nodup := pk.nodup_iff.mpr (List.nodup_cons.mpr ⟨hnk, nd⟩)
    have m1 : ∀ i, (S i || decide (i = k)) = true ↔ i ∈ es1.toList.map keyX := fun i => by
      rw [Bool.or_eq_true, decide_eq_true_eq, hm i, pk.mem_iff, List.mem_cons]
      exact Or.comm
    have hsz : es1.size = n + 1 := by rw [← Array.length_toList, pc.length_eq, List.length_cons, Array.length_toList, hn]
    have hb1 : es1.size < scanBound := by rw [hsz]; exact room
    have hled : w.params.followText "set-order" = true ∨ t1.led = true := hl.imp id fun z => by rw [hl1]; exact z
    have fin : ∀ h', Heap.SameBut a s.heap h' → SetX w h' a (fun j => S j || decide (j = k)) es1.size → Q true { s with heap := h' } := fun h' sb r => by
      have q := hQ h' sb
      rw [hSk] at q
      rw [hsz] at r
      exact q r
    refine wpAny_bind (hgw _ ?_)
    split
    · refine wpAny_bind ?_
      rw [hashByValue_scannable 8 hsc]
      refine wpAny_pure ?_
      refine setX_add_tail ?_ ho hex hd g1 nd1 m1 hb1 ?_ ?_ ?_ ?_
      · intro b s₁ Q' q; cases b <;> first | exact wpAny_pure q | exact wpAny_rule q
      · first | (split <;> first | exact hf1 | exact SetTable.fits_plain_off hf1) | exact hf1
      · first | (split <;> exact hr1) | exact hr1
      · first | (split <;> exact hled) | exact hled
      · intro h' sb r; dsimp only; exact wpAny_pure (fin h' sb r)
    · refine wpAny_bind (wpAny_pure ?_)
      simp only [↓reduceIte]
      refine setX_add_tail ?_ ho hex hd g1 nd1 m1 hb1 hf1 hr1 hled ?_
      · intro b s₁ Q' q; cases b <;> first | exact wpAny_pure q | exact wpAny_rule q
      · intro h' sb r; dsimp only; exact wpAny_pure (fin h' sb r)
end
theorem setX_new_at {w : World} {h : Heap} {a : Addr} {ns : List Str} (ho : h.get? a = some { cls := .type "set", dict := none, data := .set #[] 0 (.fresh 0 0 (!w.params.followText "set-order")) }) : SetX w h a (fun j => decide (j ∈ ns.take 0)) 0 :=
  ⟨_, #[], 0, _, ho, ⟨rfl, rfl, rfl⟩, rfl, (fun e he => by simp at he), (by simp), (fun k => by simp), (by decide), (by rfl), rfl, List.Pairwise.nil, by
    show _ ∨ (!w.params.followText "set-order") = true
    cases w.params.followText "set-order"
    · exact .inr rfl
    · exact .inl rfl⟩
section
variable {P : Program} {w : World} {A : Around} {E : Value → Shared → Prop} {s : Shared}
theorem set_update_txts {I : Addr} {fp wr : List Addr} {G : Array GenState → Array GenState → Prop} {n : Nat} {Pv : Nat → Value → Prop} {St : Nat → Shared → Prop} {R : Result → Shared → Prop}
    (W : WalksS P w A.in1 I fp wr G n Pv St) (S : Addr) (hSf : S ∉ fp) (ns : List Str) (hn : n = ns.length) (hb : ns.length + 1 < scanBound) (hval : ∀ i v, Pv i v → ∃ k t, ns[i]? = some k ∧ v = .str k t) :
    ∀ (k i : Nat) (s : Shared), n - i = k → i ≤ n → St i s → (∃ c, c ≤ i ∧ SetX w s.heap S (fun j => decide (j ∈ ns.take i)) c) →
      (∀ s' c, Moved (S :: wr) G s s' → c ≤ n → SetX w s'.heap S (fun j => decide (j ∈ ns)) c → R (.ok (.ret .none)) s') →
      codeAny (model P w) A (.builtin "set.update.loop" ⟨[.ref S, .ref I], []⟩) R s := by
  have hSw : S ∉ wr := fun h => hSf (W.sub _ h)
  have hsub : ∀ b ∈ wr, b ∈ S :: wr := fun b hb => List.mem_cons_of_mem _ hb
  intro k
  induction k with
  | zero =>
    intro i s hk' hi hst ⟨c, hc, hS⟩ hR
    have hin : i = n := by omega
    subst hin
    refine codeAny_builtin F.entry_set_update_loop ?_
    rw [Around.under_plainId F.plain_set_update_loop _]
    show wpAny _ A.in1 (pyNext (.ref I) >>= _) _ _ s
    refine wpAny_bind (W.done s _ _ hst fun s' hm => ?_)
    show wpAny _ A.in1 (ret Value.none) _ _ s'
    have e : ns.take i = ns := List.take_of_length_le (by omega)
    rw [e] at hS
    exact wpAny_pure (hR s' c (hm.mono hsub) hc (hS.at fun o e => hm.heap S o hSw e))
  | succ k ih =>
    intro i s hk' hi hst ⟨c, hc, hS⟩ hR
    have hlt : i < n := by omega
    refine codeAny_builtin F.entry_set_update_loop ?_
    rw [Around.under_plainId F.plain_set_update_loop _]
    show wpAny _ A.in1 (pyNext (.ref I) >>= _) _ _ s
    refine wpAny_bind (W.item i s _ _ hlt hst fun v s' hP hst' hm => ?_)
    obtain ⟨z, t, hz, rfl⟩ := hval i v hP
    have hS' : SetX w s'.heap S (fun j => decide (j ∈ ns.take i)) c := hS.at fun o e => hm.heap S o hSw e
    show wpAny _ A.in1 (holding [Value.str z t] (setAdd S (.str z t)) >>= _) _ _ s'
    refine wpAny_bind (wpAny_holding ?_)
    unfold setAdd
    refine wpAny_holding ?_
    refine wpAny_bind ((strKind P w).pyHash (k := z) (strKind_is _ _ _ _) ?_)
    refine setX_add_hashed (s := { s' with toks := s'.toks + 1 }) hS' (by omega) fun h' hsb hS2 => ?_
    have hS3 : SetX w h' S (fun j => decide (j ∈ ns.take (i + 1))) (if decide (z ∈ ns.take i) = true then c else c + 1) := hS2.congr fun j => by
      rw [List.take_add_one, hz]
      simp [List.mem_append]
    have hc3 : (if decide (z ∈ ns.take i) = true then c else c + 1) ≤ i + 1 := by
      split <;> omega
    refine wpAny_pure ⟨plainId_quiet F.plain_set_update_loop _, ih (i + 1) _ (by omega) hlt (W.frame _ s' _ _ hst' (Nat.le_succ _) fun b hb o e => ?_) ⟨_, hc3, hS3⟩ fun s'' c2 hm'' hc'' hS'' => ?_⟩
    · rw [hsb.2 b (fun h : b = S => hSf (by rw [← h]; exact hb))]; exact e
    · refine hR s'' c2 (Moved.trans W.gtrans ((hm.mono hsub).then_heap (Nat.le_succ _) fun b o hb e => ?_) hm'') hc'' hS''
      rw [hsb.2 b (fun h : b = S => hb (by rw [h]; exact List.mem_cons_self))]; exact e
set_option maxRecDepth 100000 in
set_option maxHeartbeats 3200000 in
theorem call_set_txts {l : Addr} {items : Array Value} (ns : List Str) {Q : Value → Shared → Prop} (hh : A.handled = none) (hl : s.heap.IsList l items) (hit : PyProof.Rows.StrsAre items.toList ns) (hb : ns.length + 1 < scanBound)
    (h : ∀ (h' : Heap) (tk c : Nat), SetX w h' s.heap.objs.size (fun j => decide (j ∈ ns)) c → c ≤ ns.length → (∀ b o, s.heap.get? b = some o → h'.get? b = some o) → Q (.ref s.heap.objs.size) { s with heap := h', toks := tk }) :
    wpAny (model P w) A (call (.type "set") [.ref l]) Q E s := by
  have hisz : items.size = ns.length := by
    have q := PyProof.Rows.StrsAre.length hit
    rw [Array.length_toList] at q
    exact q
  obtain ⟨c, tl, hmro⟩ := F.called_set.mro
  have hmade := F.called_set.made
  have hsub := F.called_set.sub
  refine wpAny_call (codeAny_of_tree ?_)
  show wpAny _ _ (callAny (.type "set") _) _ _ _
  refine wpAny_pure ⟨Code.quiet_builtin _ (by decide +kernel), codeAny_builtin F.entry_type_call ?_⟩
  rw [Around.under_plain (weight_type_call_type "set" [.ref l] []) rfl]
  have h1 := F.called_set.notType
  have h2 := F.called_set.canCreate
  have hct := F.typeCall_set_1 (.ref l)
  repeat (any_goals (first | assumption | wp_step))

  refine codeAny_mono (code_set_led1 (.ref l) (E := E) (Q₁ := fun obj s₁ => obj = .ref s.heap.objs.size ∧ s₁ = { s with heap := s.heap.push { cls := .type "set", dict := none, data := .set #[] 0 (.fresh 0 0 (!w.params.followText "set-order")) } }) ⟨rfl, rfl⟩) fun r s₁ hr => ?_
  cases r with
  | error e => exact hr
  | ok fl =>
    cases fl with
    | ret obj =>
      obtain ⟨rfl, rfl⟩ := hr
      have hS : (s.heap.push { cls := .type "set", dict := none, data := .set #[] 0 (.fresh 0 0 (!w.params.followText "set-order")) }).get? s.heap.objs.size = some { cls := .type "set", dict := none, data := .set #[] 0 (.fresh 0 0 (!w.params.followText "set-order")) } := Heap.get?_push_size _ rfl
      have hT : Shared.TypeIs { s with heap := s.heap.push { cls := .type "set", dict := none, data := .set #[] 0 (.fresh 0 0 (!w.params.followText "set-order")) } } (.ref s.heap.objs.size) "set" := ⟨_, hS, rfl⟩
      have hli := F.called_set.init.lookup
      have hbi := F.called_set.init.bind (.ref s.heap.objs.size)
      repeat (any_goals (first | assumption | wp_step))

      refine codeAny_mono (codeAny_call_builtin (R := wants (fun r s₂ => r = .none ∧ ∃ h' tk c, s₂ = { s with heap := h', toks := tk } ∧ SetX w h' s.heap.objs.size (fun j => decide (j ∈ ns)) c ∧ c ≤ ns.length ∧
          (∀ b o, s.heap.get? b = some o → h'.get? b = some o)) E) F.called_set.init.plain F.entry_set_init (check_set_init_1 hT ?_)) fun r₂ s₂ hr₂ => ?_
      · obtain ⟨ol, hol, hcl, nl, hdl⟩ := hl
        obtain ⟨ocls, odict, odata, oslots⟩ := ol
        simp only at hcl hdl
        subst hcl; subst hdl
        have hol' : (s.heap.push { cls := .type "set", dict := none, data := .set #[] 0 (.fresh 0 0 (!w.params.followText "set-order")) }).get? l = some { cls := .type "list", dict := odict, data := .seq items nl, slots := oslots } := Heap.get?_push_of_some _ hol
        have hsls := F.sub_list_set
        have hslf := F.sub_list_frozenset
        have hne : (Value.type "list" == Value.type "dict") = false := by decide
        have hl1 : (s.heap.push { cls := .type "set", dict := none, data := .set #[] 0 (.fresh 0 0 (!w.params.followText "set-order")) }).IsList l items := ⟨_, hol', rfl, nl, rfl⟩
        unfold Builtin.«set.__init__» noKeywords Builtin.Frozenset.updateFrom
        generalize hPI : pyIter = PI
        wp_walk
        subst hPI

        refine wpAny_pyIter_list hl1 ?_
        refine wpAny_bind (wpAny_runValue ?_)
        have hlS : l < s.heap.objs.size := Heap.lt_size hol
        have hh3 : A.in1.in1.in1.handled = none := by simp [hh]
        have hz1 : (s.heap.push { cls := .type "set", dict := none, data := .set #[] 0 (.fresh 0 0 (!w.params.followText "set-order")) }).objs.size = s.heap.objs.size + 1 := Heap.size_push ..
        have hneI : l ≠ (s.heap.push { cls := .type "set", dict := none, data := .set #[] 0 (.fresh 0 0 (!w.params.followText "set-order")) }).objs.size := by
          rw [Heap.size_push]; exact Nat.ne_of_lt (Nat.lt_succ_of_lt hlS)
        have hSf : s.heap.objs.size ∉ [(s.heap.push { cls := .type "set", dict := none, data := .set #[] 0 (.fresh 0 0 (!w.params.followText "set-order")) }).objs.size, l] := by
          rw [Heap.size_push]; simp only [List.mem_cons, List.mem_singleton, List.not_mem_nil, or_false, not_or]
          exact ⟨Nat.ne_of_lt (Nat.lt_succ_self _), Nat.ne_of_gt hlS⟩
        have hval : ∀ (i : Nat) (v : Value), items[i]? = some v → ∃ k t, ns[i]? = some k ∧ v = .str k t := fun i v hv => by
          have hi : i < ns.length := by rw [← hisz]; exact (Array.getElem?_eq_some_iff.mp hv).1
          obtain ⟨y, t, e, ey⟩ := PyProof.Rows.StrsAre.item hit i v (by rw [Array.getElem?_toList]; exact hv)
          exact ⟨y, t, ey, e⟩
        refine set_update_txts ((Walks.list hh3 _ l hneI items).toS) s.heap.objs.size
          hSf ns hisz hb hval (items.size - 0) 0 _ (by omega) (Nat.zero_le _)
          ⟨⟨_, Heap.get?_push_size _ rfl, rfl, rfl⟩, (hl1.push _)⟩ ?hS0 ?hR
        case hS0 =>
          have hget : ((s.heap.push { cls := .type "set", dict := none, data := .set #[] 0 (.fresh 0 0 (!w.params.followText "set-order")) }).push { cls := .type "list_iterator", data := .fields #[.ref l, .int 0 0] }).get? s.heap.objs.size
              = some { cls := .type "set", dict := none, data := .set #[] 0 (.fresh 0 0 (!w.params.followText "set-order")) } := Heap.get?_push_of_some _ hS
          exact ⟨0, Nat.le_refl 0, setX_new_at hget⟩
        case hR =>
          intro s' c' hm hc' hS'
          obtain ⟨h', g2, d', tk', os'⟩ := s'
          have eg : g2 = s.gens := hm.gens
          have ed : d' = s.drawn := hm.drawn
          have eo : os' = s.os := hm.os
          subst eg; subst ed; subst eo
          show wpAny _ _ _ _ _ _
          refine wpAny_pure ?_
          show wpAny _ _ (ret Value.none) _ _ _
          rw [hisz] at hc'
          refine wpAny_pure ⟨rfl, h', tk', c', rfl, hS', hc', fun b o e => ?_⟩
          have hb0 : b < s.heap.objs.size := Heap.lt_size e
          have hb1 : b ≠ s.heap.objs.size := Nat.ne_of_lt hb0
          have hb2 : b ≠ (s.heap.push { cls := .type "set", dict := none, data := .set #[] 0 (.fresh 0 0 (!w.params.followText "set-order")) }).objs.size := by
            rw [Heap.size_push]; exact Nat.ne_of_lt (Nat.lt_succ_of_lt hb0)
          exact hm.heap b o (by simp only [List.mem_cons, List.mem_singleton, List.not_mem_nil, or_false, not_or]; exact ⟨hb1, hb2⟩) (Heap.get?_push_of_some _ (Heap.get?_push_of_some _ e))

      · cases r₂ with
        | error e => exact hr₂
        | ok fl₂ =>
          cases fl₂ with
          | ret r =>
            obtain ⟨rfl, h', tk, c', rfl, hS', hc', hk'⟩ := hr₂
            repeat (any_goals (first | assumption | wp_step))
            exact h _ _ _ hS' hc' hk'
          | _ => exact hr₂.elim
    | _ => exact hr.elim
end
end ND

/-! NDset2 -/
set_option Elab.async false
set_option linter.all false
set_option maxRecDepth 100000
set_option maxHeartbeats 4000000
namespace ND
open PySem PySem.Spec PyProof.Rows L2
section
variable {P : Program} {w : World} {A : Around} {E : Value → Shared → Prop} {s : Shared}
theorem strs_vals {l : List Value} (h : ∀ v ∈ l, ∃ k tk, v = Value.str k tk) : l = l.map fun v => match v with | .str k tk => .str k tk | v => v := by
  induction l with
  | nil => rfl
  | cons v l ih =>
    obtain ⟨k, tk, rfl⟩ := h v List.mem_cons_self
    rw [List.map_cons, ← ih fun u hu => h u (List.mem_cons_of_mem _ hu)]
/-- sorted(the set) -/
theorem sorted_setX {a : Addr} {S : Str → Bool} {n : Nat} {Q : Value → Shared → Prop} (ks : List Nm) (R : SetX w s.heap a S n) (hh : A.handled = none) (hu : A.units + 32 < cLine) (hks : ks.Nodup) (hS : ∀ k, S k = true ↔ k ∈ ks.map nm)
    (hQ : ∀ s' p (out : List Value) (c : Nat), (∀ b o, s.heap.get? b = some o → s'.heap.get? b = some o) → s'.gens = s.gens → s'.os = s.os → s.heap.objs.size ≤ p →
      s'.heap.get? p = some (seqObj "list" out.toArray c) → Vals ((isort leN ks).map fun k => V.str (nm k)) out → Q (.ref p) s') :
    wpAny (model P w) A (call (.builtin "sorted") [.ref a]) Q E s := by
  obtain ⟨o, es, ep, t, ho, hex, hd, g, nd, hm, hb, hf, hn, hr, hl⟩ := R
  refine Calls.call_function_entry kind_sorted plain_sorted entry_sorted (args_sorted1 _) ?_
  unfold Builtin.«sorted»
  refine wpAny_bind (m := checkCount "sorted" 1 1 _) (wpAny_pure ?_)
  refine wpAny_bind (collect_set (A := A.in1) hh ⟨o, ho, hex.1, hd⟩ hf hb hr hl fun s1 vs k1 hz g1 o1 pm => ?_)
  have hvs : ∀ v ∈ vs, ∃ k tk, v = Value.str k tk := fun v hv => by
    obtain ⟨e, he, q⟩ := List.mem_map.mp (pm.mem_iff.mp hv)
    obtain ⟨k, tk, h1, _⟩ := g e he
    exact ⟨k, tk, by rw [← q]; exact h1⟩
  have ex : ∃ ns : List Nm, ns.Perm ks ∧ Vals (ns.map fun k => V.str (nm k)) vs := by
    have keys : ∀ v, (∃ k tk, v = Value.str k tk) → True := fun _ _ => trivial
    have gen : ∀ vs : List Value, (∀ v ∈ vs, ∃ k tk, v = Value.str k tk ∧ k ∈ ks.map nm) → ∃ ns : List Nm, Vals (ns.map fun k => V.str (nm k)) vs ∧ ns.map nm = vs.map fun v => keyX (0, v) := by
      intro vs
      induction vs with
      | nil => exact fun _ => ⟨[], .nil, rfl⟩
      | cons v vs ih =>
        intro h
        obtain ⟨ns, h1, h2⟩ := ih fun u hu => h u (List.mem_cons_of_mem _ hu)
        obtain ⟨k, tk, rfl, hk⟩ := h v List.mem_cons_self
        obtain ⟨z, _, rfl⟩ := List.mem_map.mp hk
        exact ⟨z :: ns, .cons ⟨tk, rfl⟩ h1, by rw [List.map_cons, List.map_cons, h2]; rfl⟩
    have pk : (vs.map fun v => keyX (0, v)).Perm (es.toList.map keyX) := by
      have q := pm.map fun v => keyX (0, v)
      rw [List.map_map] at q
      exact q
    obtain ⟨ns, h1, h2⟩ := gen vs fun v hv => by
      obtain ⟨k, tk, rfl⟩ := hvs v hv
      refine ⟨k, tk, rfl, (hS k).mp ((hm k).mpr (pk.mem_iff.mp ?_))⟩
      exact List.mem_map.mpr ⟨_, hv, rfl⟩
    refine ⟨ns, ?_, h1⟩
    rw [← h2] at pk
    have nd1 : (ns.map nm).Nodup := pk.nodup_iff.mpr nd
    have nd2 : ns.Nodup := List.Pairwise.of_map nm (fun a b hne e => hne (congrArg nm e)) nd1
    refine (List.perm_ext_iff_of_nodup nd2 hks).mpr fun k => ?_
    have a1 : k ∈ ns ↔ nm k ∈ ns.map nm := ⟨fun h => List.mem_map.mpr ⟨k, h, rfl⟩, fun h => by
      obtain ⟨z, hz, e⟩ := List.mem_map.mp h
      rw [← nm_inj _ _ e]; exact hz⟩
    have a2 : k ∈ ks ↔ nm k ∈ ks.map nm := ⟨fun h => List.mem_map.mpr ⟨k, h, rfl⟩, fun h => by
      obtain ⟨z, hz, e⟩ := List.mem_map.mp h
      rw [← nm_inj _ _ e]; exact hz⟩
    rw [a1, a2, pk.mem_iff, ← hm, hS]
  obtain ⟨ns, pn, rv⟩ := ex
  have hvl : vs.length = n := by rw [pm.length_eq, List.length_map, Array.length_toList]; exact hn
  have hzl : vs.length ≤ sizeLine := by
    rw [hvl, ← hn]
    exact fits_of_scanBound hb
  refine wpAny_bind (wpAny_newList ?_ hzl)
  have hoL : (s1.heap.push (seqObj "list" vs.toArray 0)).get? s1.heap.objs.size = some (seqObj "list" vs.toArray 0) := Heap.get?_push_size _ rfl
  have each : ∀ {ns : List Nm} {vs : List Value}, Vals (ns.map fun k => V.str (nm k)) vs → W.EachIs (fun v (k : Nm) => RelV (.str (nm k)) v) vs ns := by
    intro ns
    induction ns with
    | nil => intro vs r; cases r; exact .nil
    | cons k ns ih => intro vs r; cases r with | cons a b => exact .cons a (ih b)
  have back : ∀ {ns : List Nm} {vs : List Value}, W.EachIs (fun v (k : Nm) => RelV (.str (nm k)) v) vs ns → Vals (ns.map fun k => V.str (nm k)) vs := by
    intro ns vs h
    induction h with
    | nil => exact .nil
    | cons a _ ih => exact .cons a ih
  have e1 := each rv
  have er : W.EachIs (fun v (k : Nm) => ∃ as, Reads (W.sortingHeap (s1.heap.push (seqObj "list" vs.toArray 0)) s1.heap.objs.size vs) v (toPy 4 (eN k)) as) vs ns := e1.mono fun v k r => by
    obtain ⟨t, rfl⟩ := (show ∃ t, v = Value.str (nm k) t from r)
    exact ⟨_, Reads.str (nm k) t⟩
  have hal : W.AllAlike (ns.map fun k => toPy 4 (eN k)) := W.AllAlike.of fun b b' => Sd.al b b'
  have hk : W.Sortable (ns.map fun k => toPy 4 (eN k)) := by
    rcases (Sd.so (f := eN)) with z | z
    · exact W.Sortable.tuples fun b => z b
    · exact W.Sortable.others fun b => z b
  refine wpAny_bind (wpAny_holding (wpAny_call_entry slot_list_sort ⟨_, hoL, rfl⟩ entry_list_sort ?_ (args_list_sort _)))
  show wpAny (model P w) A.in1.in1 (Builtin.«list.sort» ⟨[.ref s1.heap.objs.size], []⟩) _ _ _
  refine wpAny_mono (W.list_sort_vals (s := { s1 with heap := s1.heap.push (seqObj "list" vs.toArray 0) }) (P := fun f s' => f = .done (.ret .none) ∧ s' = _) hoL (W.SortsAt.data (s := { s1 with heap := W.sortingHeap (s1.heap.push (seqObj "list" vs.toArray 0)) s1.heap.objs.size vs }) (W.each_map (R := fun v d => ∃ as, Reads (W.sortingHeap (s1.heap.push (seqObj "list" vs.toArray 0)) s1.heap.objs.size vs) v d as) (fun k => toPy 4 (eN k)) er) hal hk (fun d hd => ?_)) hzl ⟨rfl, rfl⟩) (fun f s' hf => ?_) fun _ _ e => e
  · obtain ⟨k, _, rfl⟩ := List.mem_map.mp hd
    have := toPy_depth 4 (eN k)
    show A.in1.in1.units + _ < _
    have eu : A.in1.in1.units = A.units + 2 := rfl
    omega
  · obtain ⟨rfl, rfl⟩ := hf
    refine ⟨_, rfl, wpAny_pure ⟨_, rfl, ?_⟩⟩
    have so := W.sortVals_data false e1 er hal
    obtain ⟨c, hc⟩ := sortedHeap_at (vs := vs) (out := (W.sortVals (W.dataKind (W.sortingHeap (s1.heap.push (seqObj "list" vs.toArray 0)) s1.heap.objs.size vs) (ns.map fun k => toPy 4 (eN k))) false vs vs).toArray) hoL
    refine hQ _ s1.heap.objs.size _ c (fun b u e => ?_) g1 o1 hz hc ?_
    · have q := k1 b u e
      have hlt := Heap.lt_size q
      refine (sortedHeap_old (Nat.ne_of_lt hlt) (by rw [size_push']; exact Nat.lt_succ_of_lt hlt)).trans ?_
      exact Heap.get?_push_of_some _ q
    · have q := back so
      have em : ns.mergeSort (W.dataLe false fun k => toPy 4 (eN k)) = isort leN ks := by
        rw [Sd.ord (f := eN), merge_eq totN]
        exact isort_eq totN ((isort_perm ns).trans pn) (isort_sorted totN ns)
      rw [em] at q
      exact q
end
end ND

/-! NDset3 -/
set_option Elab.async false
set_option linter.all false
set_option maxRecDepth 100000
set_option maxHeartbeats 4000000
namespace ND
open PySem PySem.Spec PyProof.Rows L2 NA
theorem mem_nub (k : Nm) : ∀ l : List Nm, k ∈ nub l ↔ k ∈ l
  | [] => by simp [nub]
  | x :: r => by
    unfold nub
    rw [List.mem_cons, List.mem_cons, List.mem_filter, mem_nub k r]
    by_cases h : k = x <;> simp [h]
theorem nub_nodup : ∀ l : List Nm, (nub l).Nodup
  | [] => by simp [nub]
  | x :: r => by
    unfold nub
    rw [List.nodup_cons]
    refine ⟨fun h => ?_, (nub_nodup r).filter _⟩
    have := (List.mem_filter.mp h).2
    simp at this
def SetXO (w : World) (a : Addr) (S : Str → Bool) (n : Nat) : HO := .ext fun h => SetX w h a S n
section
variable {X : Cx}
theorem setXO_new {w : World} {P : Program} {H : Hp} {h : Heap} {a : Addr} {S : Str → Bool} {n : Nat} (R : SetX w h a S n) : ObjOk P w H h a (SetXO w a S n) := by
  have ⟨o, _, _, _, ho, _⟩ := R
  exact ⟨R, ⟨o, ho⟩, fun h1 h2 p k => SetX.at p k⟩
theorem strs_nm : ∀ {ks : List Nm} {us : List Value}, Vals (ks.map fun k => V.str (nm k)) us → PyProof.Rows.StrsAre us (ks.map nm)
  | [], _, .nil => .nil
  | k :: ks, _, .cons r t => by
    obtain ⟨t', rfl⟩ := r
    exact .cons (nm k) t' (strs_nm t)
theorem cr_setX (hc : X.calm = true) : CallR X (.type "set") (fun xs H Q => ∃ (l : Addr) (ks : List Nm), xs = [.ref l] ∧ SqL X.K H l (ks.map fun k => V.str (nm k)) ∧ ks.length + 1 < scanBound ∧
    ∀ p n, H p = none → Q (.ref p) (upd H p (SetXO X.w p (fun j => decide (j ∈ ks.map nm)) n))) := by
  intro pins s σ H xs us Q I r h
  obtain ⟨l, ks, rfl, hq, hb, q⟩ := h
  rw [Vals.ref1 r]
  obtain ⟨its, rv, hl, hz⟩ := I.list hq
  refine call_set_txts (ks.map nm) (I.ok.hd hc) hl.isList (by simpa using strs_nm rv) (by rw [List.length_map]; exact hb) fun h' tk c hS hc' hk => ?_
  exact ⟨.ref s.heap.objs.size, upd H s.heap.objs.size (SetXO X.w s.heap.objs.size _ c), I.laid (t' := tk) hk (Nat.le_refl _) (setXO_new hS), rfl, q _ _ (I.hok.fresh (Nat.le_refl _))⟩
theorem cr_srtX (hc : X.calm = true) (hu : X.A.units + 64 < cLine) : CallR X (.builtin "sorted") (fun xs H Q => ∃ (a : Addr) (ks : List Nm) (n : Nat), xs = [.ref a] ∧ H a = some (SetXO X.w a (fun j => decide (j ∈ ks.map nm)) n) ∧
    ∀ p, H p = none → Q (.ref p) (upd H p (.lst ((isort leN (nub ks)).map fun k => V.str (nm k))))) := by
  intro pins s σ H vs us Q I r h
  obtain ⟨a, ks, n, rfl, ha, q⟩ := h
  have R : SetX X.w s.heap a (fun j => decide (j ∈ ks.map nm)) n := (I.hok a _ ha).1
  rw [Vals.ref1 r]
  refine sorted_setX (nub ks) R (I.ok.hd hc) (by omega) (nub_nodup ks) (fun k => ?_) fun s' p out c k g o hp hg rv => ?_
  · rw [decide_eq_true_eq, List.mem_map, List.mem_map]
    exact ⟨fun ⟨z, hz, e⟩ => ⟨z, (mem_nub z ks).mpr hz, e⟩, fun ⟨z, hz, e⟩ => ⟨z, (mem_nub z ks).mp hz, e⟩⟩
  · have hn : H p = none := I.hok.fresh hp
    have hlen : ((isort leN (nub ks)).map fun k => V.str (nm k)).length ≤ sizeLine := by
      obtain ⟨o', es, ep, t, _, _, hd, _, _, _, hb, _, hnn, _⟩ := R
      have e : (isort leN (nub ks)).length = (nub ks).length := (isort_perm _).length_eq
      have small : (nub ks).length ≤ 13 := by
        have nd := nub_nodup ks
        have nd2 : ((nub ks).map Fin.val).Nodup := List.Pairwise.map _ (fun a b hab e => hab (Fin.ext e)) nd
        have := nat_nodup_len _ (List.range 13) nd2 fun x hx => by
          obtain ⟨y, _, rfl⟩ := List.mem_map.mp hx
          exact List.mem_range.mpr y.isLt
        simpa using this
      rw [List.length_map, e, sizeLine_eq]; omega
    have J : Inv X pins σ (upd H p (.lst ((isort leN (nub ks)).map fun k => V.str (nm k)))) { s with heap := s'.heap, gens := s'.gens, drawn := s'.drawn, toks := s'.toks } :=
      I.call (ch := []) (Un.laid k hp hn) (I.hok.laid k hp ⟨hlen, out, c, rv, hg⟩) (by rw [g]; exact I.bare) (fun _ z => nomatch z)
    have e : s' = { s with heap := s'.heap, gens := s'.gens, drawn := s'.drawn, toks := s'.toks } := by
      cases s'
      cases s
      cases o
      rfl
    rw [e]
    exact ⟨.ref p, _, J, rfl, q p hn⟩
theorem n_srtSet {δ δ1 : DEnv} {e : Expr} {p p2 q pos : Pos} {l : List Nm} (G : Cg X) (hl : decide (l.length < 1000) = true) (ha : EvD X δ e (eL eN l) δ1) (hg : Gl X "sorted" := by rfl) (hg2 : Gl X "set" := by rfl)
    (hs : starEach [e] X.env = (false, eval e X.env) :: starEach [] X.env := by rfl) (hs2 : starEach [.Call (.Name "set" p2) [e] [] q] X.env = (false, eval (.Call (.Name "set" p2) [e] [] q) X.env) :: starEach [] X.env := by rfl) :
    NvD X δ (.Call (.Name "sorted" p) [.Call (.Name "set" p2) [e] [] q] [] pos) ((isort leN (nub l)).map eN) δ1 := by
  refine ⟨ha.kd, fun α σ H F Q st kk => .of (pe_callB (cr_srtX G.calm G.hu) hg G.fr.sorted (by decide +kernel) (pa_cons (pe_callTy (cr_setX G.calm) hg2 G.fr.set (by decide +kernel) (pa_cons pe_tw pa_nil hs) (he := hs)) pa_nil hs2) (he := hs2)) ?_⟩
  refine ha.run α σ H F _ st fun v F1 H1 s1 st1 r1 => ?_
  obtain ⟨a, vs, rfl, h1, q1⟩ := r1.seqL
  have ev : vs = l.map fun k => V.str (nm k) := by
    have gen : ∀ (l : List Nm) (vs : List V), Reps X.K F1 vs (l.map eN) → vs = l.map fun k => V.str (nm k) := by
      intro l
      induction l with
      | nil => intro vs r; cases r; rfl
      | cons k l ih => intro vs r; cases r with
        | cons a b => cases a; rw [ih _ b]; rfl
    exact gen l vs q1
  subst ev
  refine ⟨a, l, rfl, SqL.of (st1.fh _ _ h1), by have := of_decide_eq_true hl; unfold scanBound; omega, fun b n hb => ?_⟩
  refine ⟨b, l, n, rfl, upd_same, fun c hc => ?_⟩
  have g1 : Grow F1 H1 F1 _ := Grow.newH (o := SetXO X.w b (fun j => decide (j ∈ l.map nm)) n) st1.fh hb
  have g2 : Grow F1 (upd H1 b (SetXO X.w b (fun j => decide (j ∈ l.map nm)) n)) F1 _ := Grow.newH (o := .lst ((isort leN (nub l)).map fun k => V.str (nm k))) g1.fh hc
  have g := g1.trans g2
  have hc1 : H1 c = none := Same.none g1.hh hc
  refine kk c _ F1 _ (none_back s1 hc1) (Same.none st1.fh hc1) (s1.trans g.step) (st1.grow g) upd_same ?_
  have all : ∀ ns : List Nm, Reps X.K F1 (ns.map fun k => V.str (nm k)) (ns.map eN) := fun ns => by
    induction ns with
    | nil => exact .nil
    | cons n r ih => exact .cons (.str _) ih
  exact all _
end
section
variable {P : Program} {w : World} {K : PySem.W.Frag} {mg : Str → Option Value} {base : Heap}
theorem sc_set_of : FnScope ["things"] ["things"] (defScope s_set_of) := ⟨rfl, rfl, rfl, by decide +kernel, rfl, by decide +kernel, by decide +kernel⟩
theorem can_set_of (F : Def1 K mg "set_of" s_set_of) (fr : Fre mg) : Can P w K mg base "set_of" ["things"] 1 T_set_of := by
  refine can_of F sc_set_of (by decide) fr (fun f fd h => h.bindsN fun _ _ _ _ _ _ us hl => match us, hl with | [_], _ => rfl) ?_ ?_
  · rintro as r as' ⟨l, y, h, rfl, rfl, rfl⟩
    exact shp_dat [eL eN l] rfl rfl rfl
  · rintro f cdv A outer s0 H E as r as' hr G ⟨l, y, h, rfl, rfl, rfl⟩
    obtain ⟨u, hu, h⟩ := bnd h
    cases h
    show SsD _ [.dat (eL eN l)] _ _
    exact ss_cons (s_ret (v_tupL (f := eN) G (n_srtSet G (chk_of hu) (v_var 0)).ev) ⟨rfl, trivial⟩)
end
end ND

/-! NDk3 -/
set_option Elab.async false
set_option linter.all false
set_option maxRecDepth 100000
set_option maxHeartbeats 4000000
namespace ND
open PySem PySem.Spec PyProof.Rows L2 NA
/-- a list of three ints -/
abbrev eK (t : Int × Int × Int) : D := .lst [.int t.1, .int t.2.1, .int t.2.2]
section
variable {X : Cx} {δ δ1 δ2 : DEnv} {e a b c : Expr} {es : List Expr} {N : DE} {pos p2 p3 apos spos tpos : Pos} {x : Str} {t : Int × Int × Int} {i j : Int}
theorem v_k0 {q} (m : Nat) (hi : look δ m = .own (eK t) ∨ look δ m = .par (eK t)) (hN : X.N[m]? = some x := by rfl) (hv : Vis X.env.scope x := by first | exact .inl rfl | exact .inr (.inl rfl) | exact .inr (.inr rfl)) (hd : (x == ("__debug__" : Str)) = false := by decide) (hcd : (x == ("__classdict__" : Str)) = false := by decide) : EvD X δ (.Subscript (.Name x p2) (.Constant (.int 0) q p3) pos) (.int t.1) δ := e_ixO hN hv hi e_int rfl (fun _ _ => rfl) hd hcd
theorem v_k1 {q} (m : Nat) (hi : look δ m = .own (eK t) ∨ look δ m = .par (eK t)) (hN : X.N[m]? = some x := by rfl) (hv : Vis X.env.scope x := by first | exact .inl rfl | exact .inr (.inl rfl) | exact .inr (.inr rfl)) (hd : (x == ("__debug__" : Str)) = false := by decide) (hcd : (x == ("__classdict__" : Str)) = false := by decide) : EvD X δ (.Subscript (.Name x p2) (.Constant (.int 1) q p3) pos) (.int t.2.1) δ := e_ixO hN hv hi e_int rfl (fun _ _ => rfl) hd hcd
theorem v_k2 {q} (m : Nat) (hi : look δ m = .own (eK t) ∨ look δ m = .par (eK t)) (hN : X.N[m]? = some x := by rfl) (hv : Vis X.env.scope x := by first | exact .inl rfl | exact .inr (.inl rfl) | exact .inr (.inr rfl)) (hd : (x == ("__debug__" : Str)) = false := by decide) (hcd : (x == ("__classdict__" : Str)) = false := by decide) : EvD X δ (.Subscript (.Name x p2) (.Constant (.int 2) q p3) pos) (.int t.2.2) δ := e_ixO hN hv hi e_int rfl (fun _ _ => rfl) hd hcd
theorem v_sk0 {q} (m : Nat) (h : EvD X δ e (.int i) δ) (hi : look δ m = .own (eK t) ∨ look δ m = .par (eK t)) (h1 : N.nx (put δ m (setC (look δ m) (eK (i, t.2.1, t.2.2))))) (hN : X.N[m]? = some x := by rfl) (hv : Vis X.env.scope x := by first | exact .inl rfl | exact .inr (.inl rfl) | exact .inr (.inr rfl))
    (hs : swapsWithSole [.Subscript (.Name x p2) (.Constant (.int 0) q p3) tpos] e spos.line X.env = pure false := by rfl) (hw : swappedStores [.Subscript (.Name x p2) (.Constant (.int 0) q p3) tpos] e X.env = pure none := by rfl)
    (hd : (x == ("__debug__" : Str)) = false := by decide) (hcd : (x == ("__classdict__" : Str)) = false := by decide) : SvD X δ (.Assign [.Subscript (.Name x p2) (.Constant (.int 0) q p3) tpos] e spos) N :=
  s_setIx (m := 0) hN hv h e_int hi rfl h1 hs hw rfl (fun _ => rfl) hd hcd
theorem v_sk2 {q} (m : Nat) (h : EvD X δ e (.int i) δ) (hi : look δ m = .own (eK t) ∨ look δ m = .par (eK t)) (h1 : N.nx (put δ m (setC (look δ m) (eK (t.1, t.2.1, i))))) (hN : X.N[m]? = some x := by rfl) (hv : Vis X.env.scope x := by first | exact .inl rfl | exact .inr (.inl rfl) | exact .inr (.inr rfl))
    (hs : swapsWithSole [.Subscript (.Name x p2) (.Constant (.int 2) q p3) tpos] e spos.line X.env = pure false := by rfl) (hw : swappedStores [.Subscript (.Name x p2) (.Constant (.int 2) q p3) tpos] e X.env = pure none := by rfl)
    (hd : (x == ("__debug__" : Str)) = false := by decide) (hcd : (x == ("__classdict__" : Str)) = false := by decide) : SvD X δ (.Assign [.Subscript (.Name x p2) (.Constant (.int 2) q p3) tpos] e spos) N :=
  s_setIx (m := 2) hN hv h e_int hi rfl h1 hs hw rfl (fun _ => rfl) hd hcd
theorem v_mul (hc : decide (-(2 : Int) ^ 64 < j ∧ j < (2 : Int) ^ 64) = true) (ha : EvD X δ a (.int i) δ1) (hb : EvD X δ1 b (.int j) δ2) : EvD X δ (.BinOp a .Mult b pos) (.int (i * j)) δ2 := e_mul ha hb (.inr (of_decide_eq_true hc))
theorem v_mulL (hc : decide (-(2 : Int) ^ 64 < i ∧ i < (2 : Int) ^ 64) = true) (ha : EvD X δ a (.int i) δ1) (hb : EvD X δ1 b (.int j) δ2) : EvD X δ (.BinOp a .Mult b pos) (.int (i * j)) δ2 := e_mul ha hb (.inl (of_decide_eq_true hc))
theorem v_fdiv (hc : decide (0 < j ∧ j < 1073741824) = true) (ha : EvD X δ a (.int i) δ1) (hb : EvD X δ1 b (.int j) δ2) : EvD X δ (.BinOp a .FloorDiv b pos) (.int (i / j)) δ2 := e_fdiv ha hb (show 0 < j ∧ j < 1073741824 from of_decide_eq_true hc)
theorem v_mod (hc : decide (0 < j) = true) (ha : EvD X δ a (.int i) δ1) (hb : EvD X δ1 b (.int j) δ2) : EvD X δ (.BinOp a .Mod b pos) (.int (i % j)) δ2 := e_mod ha hb (of_decide_eq_true hc)
theorem v_int (G : Cg X) (ha : EvD X δ e (.int i) δ1) (hg : Gl X "int" := by rfl) (hs : starEach [e] X.env = (false, eval e X.env) :: starEach [] X.env := by rfl) : EvD X δ (.Call (.Name "int" p2) [e] [] pos) (.int i) δ1 := e_intI hg G.fr.int ha hs
theorem v_intB {q : Bool} (G : Cg X) (ha : EvD X δ e (.bl q) δ1) (hg : Gl X "int" := by rfl) (hs : starEach [e] X.env = (false, eval e X.env) :: starEach [] X.env := by rfl) : EvD X δ (.Call (.Name "int" p2) [e] [] pos) (.int (if q then 1 else 0)) δ1 := e_intB hg G.fr.int ha hs
theorem v_abs (G : Cg X) (ha : EvD X δ e (.int i) δ1) (hg : Gl X "abs" := by rfl) (hs : starEach [e] X.env = (false, eval e X.env) :: starEach [] X.env := by rfl) : EvD X δ (.Call (.Name "abs" p2) [e] [] pos) (.int (if i < 0 then -i else i)) δ1 := e_abs hg G.fr.abs ha hs
theorem v_pow18 {q q2} : EvD X δ (.BinOp (.Constant (.int 10) q p2) .Pow (.Constant (.int 18) q2 p3) pos) (.int (10 ^ 18)) δ := e_pow e_int e_int ⟨by decide, by decide, by decide⟩
end
end ND

/-! NDk4 -/
set_option Elab.async false
set_option linter.all false
set_option maxRecDepth 100000
set_option maxHeartbeats 4000000
namespace ND
open PySem PySem.Spec PyProof.Rows L2 NA
section
variable {X : Cx} {δ δ1 δ2 : DEnv} {a e : Expr} {pos p2 apos : Pos} {x : Str} {A B S : Type} {f : A → D} {l : List A} {y : A}
def popM {A : Type} (l : List A) (j : Int) : Option A := if 0 ≤ j then l[j.toNat]? else none
theorem v_pop (i : Nat) {j : Int} (hj : popM l j = some y) (h : EvD X δ e (.int j) δ1) (hi : look δ1 i = .own (eL f l) ∨ look δ1 i = .par (eL f l)) (hi00 : ∃ ds0, look δ i = .own (.lst ds0) ∨ look δ i = .par (.lst ds0)) (hN : X.N[i]? = some x := by rfl) (hv : Vis X.env.scope x := by first | exact .inl rfl | exact .inr (.inl rfl) | exact .inr (.inr rfl))
    (hbase : attributeBase (.Name x p2) "pop" X.env (eval (.Name x p2) X.env) = eval (.Name x p2) X.env := by rfl)
    (hfew : ((backTo pos (starEach [e] X.env)).all (fun x => !x.1) && (backToKw pos (keywordEach [] X.env)).all (fun x => x.1.isSome) && decide (([e] : List Expr).length + ([] : List Keyword).length + (if ([] : List Keyword).isEmpty then 0 else 1) < 30)) = true := by rfl)
    (hline : (apos.endLine == pos.line) = true := by rfl) (hs : starEach [e] X.env = (false, eval e X.env) :: starEach [] X.env := by rfl) (hplain : (backTo pos (starEach [] X.env)).any (·.1) = false := by rfl)
    (hd : (x == ("__debug__" : Str)) = false := by decide) (hcd : (x == ("__classdict__" : Str)) = false := by decide) :
    EvD X δ (.Call (.Attribute (.Name x p2) "pop" apos) [e] [] pos) (f y) (put δ1 i (setC (look δ1 i) (eL f (l.eraseIdx j.toNat)))) := by
  unfold popM at hj
  split at hj
  · rename_i h0
    refine (e_popAt hN hv h hi h0 rfl (by rw [List.getElem?_map, hj]; rfl) hi00 hbase hfew hline hs hplain hd hcd).castS rfl ?_
    show _ = put δ1 i (setC (look δ1 i) (.lst ((l.eraseIdx j.toNat).map f)))
    rw [map_erase]
  · cases hj
/-- list[:hi], hi changes the frame's own objects -/
theorem n_sliceS {hi : Expr} {h : Int} (ha : EvD X δ a (eL f l) δ1) (hh : EvD X δ1 hi (.int h) δ2) : NvD X δ (.Subscript a (.Slice none (some hi) none p2) pos) ((cutD l none (some h)).map f) δ2 := by
  refine ⟨ha.kd.trans hh.kd, fun α σ H F Q st k => .of (pe_slice sl_list pe_tw po_none (po_some pe_tw)) ?_⟩
  refine ha.run α σ H F _ st fun v F1 H1 s1 st1 r1 => ?_
  refine hh.run α σ H1 F1 _ st1 fun u F2 H2 s2 st2 r2 => ?_
  obtain ⟨a, vs, rfl, h1, q1⟩ := r1.seqL
  cases r2
  have sp := s1.trans (s2.mono fun _ z => ha.kd.ownA z)
  refine ⟨h, rfl, a, vs, rfl, SqL.of (st2.fh _ _ (s2.ff _ _ h1)), fun p hp => ?_⟩
  have g : Grow F2 H2 F2 _ := Grow.newH (o := .lst (cutV vs none (some h))) st2.fh hp
  refine k p _ F2 _ (none_back sp hp) (Same.none st2.fh hp) (sp.trans g.step) (st2.grow g) upd_same ?_
  have q := reps_cut (q1.mono s2.ff) none (some h)
  rw [cutD_map] at q
  exact q
/-- a comprehension whose elements change the frame's own objects -/
def cmpS {A B S : Type} (step : S → A → Option (B × S)) : List A → S → Option (List B × S)
  | [], s => some ([], s)
  | a :: l, s => (step s a).bind fun p => (cmpS step l p.2).bind fun q => some (p.1 :: q.1, q.2)
theorem k_lcSD {tg iter elt : Expr} {scope : Scope} {g : A → D} {fb : B → D} {step : S → A → Option (B × S)} {out : List B × S} {s0 : S} (Δ : S → DEnv) (own : List (Str × Nat)) (ids : A → List (Nat × D)) (G : Cg X) (hm : cmpS step l s0 = some out) (hi : ItD X δ tg iter (l.map g) (Δ s0))
    (hK : ∀ s s', Kd (Δ s) (Δ s'))
    (hg : ∀ s H C cl fp b, b ∈ l → GtD (Blk X scope s H C cl fp) tg (g b) (ids b))
    (he : ∀ z H C cl fp b s p, Cg (Blk X scope z H C cl fp) → b ∈ l → step s b = some p → EvD (Blk X scope z H C cl fp) (putL (Δ s) (ids b)) elt (fb p.1) (putL (Δ p.2) (ids b)))
    (ok : BlkOk X.N X.env.scope scope own := by exact blkOk_by (by rfl)) (hun : ∀ s, (own.map (·.2)).all (fun i => unS (look (Δ s) i)) = true := by intro _; rfl) (hids : ∀ b, ∀ q ∈ ids b, q.1 ∈ own.map (·.2) := by intro b q hq; simp at hq; first | (rcases hq with rfl | rfl <;> simp; done) | (rcases hq with rfl <;> simp; done) | (subst hq; simp; done))
    (hs : ∀ x, foldedSetIterable iter X.env x = pure x := by intro _; rfl) : LcD X δ elt tg iter [] scope own (out.1.map fb) (Δ out.2) := by
  let f : A → S → D := fun b s => match step s b with | some p => fb p.1 | none => .non
  let nxt : A → S → S := fun b s => match step s b with | some p => p.2 | none => s
  have q := c_lcS (X := X) (δ := δ) (elt := elt) (f := f) (nxt := nxt) (P := fun i s => ∃ zs, cmpS step (l.drop i) s = some (zs, out.2)) (s0 := s0) G.calm G.nd hi ok hK (fun s => unS_of (hun s)) hids ⟨out.1, hm⟩ hg (fun b hb i s ⟨zs, hz⟩ hlt hbi => ?_) (fun z H C cl fp b hb i s ⟨zs, hz⟩ hlt hbi => ?_) hs
  · have gen : ∀ (l : List A) (s : S) (o : List B × S), cmpS step l s = some o → lcOut f nxt (fun _ => true) l s = o.1.map fb ∧ lcEnd nxt (fun _ => true) l s = o.2 := by
      intro l
      induction l with
      | nil => intro s o h; cases h; exact ⟨rfl, rfl⟩
      | cons a l ih =>
        intro s o h
        obtain ⟨p, hp, h⟩ := bnd h
        obtain ⟨q, hq, h⟩ := bnd h
        cases h
        obtain ⟨h1, h2⟩ := ih p.2 q hq
        have e1 : f a s = fb p.1 := by show (match step s a with | some p => fb p.1 | none => D.non) = _; rw [hp]
        have e2 : nxt a s = p.2 := by show (match step s a with | some p => p.2 | none => s) = _; rw [hp]
        refine ⟨?_, ?_⟩
        · show f a s :: lcOut f nxt (fun _ => true) l (nxt a s) = _
          rw [e1, e2, h1]; rfl
        · show lcEnd nxt (fun _ => true) l (nxt a s) = _
          rw [e2, h2]
    obtain ⟨h1, h2⟩ := gen l s0 out hm
    rw [h1, h2] at q
    exact q
  · have hdr : l.drop i = b :: l.drop (i + 1) := by
      rw [List.drop_eq_getElem_cons hlt]
      rw [List.getElem?_eq_getElem hlt] at hbi
      rw [Option.some.inj hbi]
    rw [hdr] at hz
    obtain ⟨p, hp, hz⟩ := bnd hz
    obtain ⟨q, hq, hz⟩ := bnd hz
    have e3 : q.2 = out.2 := (Prod.mk.inj (Option.some.inj hz)).2
    have e2 : nxt b s = p.2 := by show (match step s b with | some p => p.2 | none => s) = _; rw [hp]
    rw [e2]
    exact ⟨q.1, by rw [hq, ← e3]⟩
  · have hdr : l.drop i = b :: l.drop (i + 1) := by
      rw [List.drop_eq_getElem_cons hlt]
      rw [List.getElem?_eq_getElem hlt] at hbi
      rw [Option.some.inj hbi]
    rw [hdr] at hz
    obtain ⟨p, hp, hz⟩ := bnd hz
    have e1 : f b s = fb p.1 := by show (match step s b with | some p => fb p.1 | none => D.non) = _; rw [hp]
    have e2 : nxt b s = p.2 := by show (match step s b with | some p => p.2 | none => s) = _; rw [hp]
    rw [e1, e2]
    exact he z H C cl fp b s p G.blk hb hp
end
end ND
namespace ND
open PySem PySem.Spec PyProof.Rows L2 NA
abbrev eY (x : Str) : D := .str x
def nmOf (x : Str) : Option Nm := (List.finRange 13).find? fun k => decide (nm k = x)
def nmsOf : List Str → Option (List Nm)
  | [] => some []
  | x :: l => (nmOf x).bind fun k => (nmsOf l).bind fun r => some (k :: r)
theorem nmsOf_map : ∀ {l : List Str} {v : List Nm}, nmsOf l = some v → l.map eY = v.map eN
  | [], _, h => by cases h; rfl
  | x :: l, v, h => by
    obtain ⟨k, hk, h⟩ := bnd h
    obtain ⟨r, hr, h⟩ := bnd h
    cases h
    have e : nm k = x := by simpa using List.find?_some hk
    rw [List.map_cons, List.map_cons, nmsOf_map hr]
    show D.str x :: _ = D.str (nm k) :: _
    rw [e]
theorem nmsOf_eq {l : List Str} {v : List Nm} (h : nmsOf l = some v) : eL eY l = eL eN v := by
  show D.lst _ = D.lst _
  rw [nmsOf_map h]
def chars (x : Str) : List Str := x.cps.toList.map fun c => ⟨#[c]⟩
section
variable {X : Cx} {δ δ1 δ2 : DEnv} {a b e : Expr} {pos : Pos} {x i j : Str}
theorem it_S {tg : Expr} (hl : x.cps.size ≤ 200) (h : EvD X δ e (.str x) δ1) : ItD X δ tg e ((chars x).map eY) δ1 := by
  have q := i_str (tg := tg) h (Nat.le_trans hl (by decide))
  unfold chars
  rw [List.map_map]
  exact q
theorem v_addS (hc : decide (i.length + j.length < 2000) = true) (ha : EvD X δ a (.str i) δ1) (hb : EvD X δ1 b (.str j) δ2) : EvD X δ (.BinOp a .Add b pos) (.str (i ++ j)) δ2 := e_addS ha hb (by have := of_decide_eq_true hc; rw [sizeLine_eq]; omega)
end
end ND
namespace ND
open PySem PySem.Spec PyProof.Rows L2 NA
theorem e_callO2 {X : Cx} {δ δ1 δ' : DEnv} {e : Expr} {es : List Expr} {p pos : Pos} {x : Str} {T : FT} {r d d' : D} (c : Cal X x T) (hg : Gl X x) (pre post : List D) {i : Nat} (ha : AmD X δ (e :: es) (pre.map .dat ++ .own i :: post.map .dat) δ1) (hi : look δ1 i = .own d ∨ look δ1 i = .par d)
    (hT : T (pre.map .dat ++ .par d :: post.map .dat) r (pre.map .dat ++ .par d' :: post.map .dat)) (hδ : put δ1 i (setC (look δ1 i) d') = δ') (hdb : (x == ("__debug__" : Str)) = false := by decide)
    (he : starEach (e :: es) X.env = (false, eval e X.env) :: starEach es X.env := by rfl) (hpl : (backTo pos (starEach es X.env)).any (·.1) = false := by rfl) : EvD X δ (.Call (.Name x p) (e :: es) [] pos) r δ' := by
  subst hδ
  exact e_callO c hg pre post ha hi hT hdb he hpl
end ND

/-! G0 -/
set_option Elab.async false
set_option linter.all false
set_option maxRecDepth 100000
set_option maxHeartbeats 4000000
namespace ND
open PySem PySem.Spec PyProof.Rows L2 NA
section
variable {P : Program} {w : World} {K : PySem.W.Frag} {mg : Str → Option Value} {base : Heap}

def m__law_take (x_tin : (Int × Int × Int)) (x_top_so : Int) : Option (Int × (Int × Int × Int)) :=
  bif (decide ((0 : Int) < x_tin.1)) then ((chk (decide (0 < x_top_so))).bind fun u1 =>
  (chk (decide (0 < x_top_so ∧ x_top_so < 1073741824))).bind fun u2 =>
  some ((x_tin.1 % x_top_so), ((x_tin.1 / x_top_so), x_tin.2.1, x_tin.2.2))) else ((chk (decide (-(2 : Int) ^ 64 < (48271 : Int) ∧ (48271 : Int) < (2 : Int) ^ 64))).bind fun u3 =>
  (chk (decide (-(2 : Int) ^ 64 < ((39373 : Int) + (x_tin.1, x_tin.2.1, (x_tin.2.2 + (1 : Int))).2.2) ∧ ((39373 : Int) + (x_tin.1, x_tin.2.1, (x_tin.2.2 + (1 : Int))).2.2) < (2 : Int) ^ 64))).bind fun u4 =>
  (chk (decide (0 < (2147483647 : Int)))).bind fun u5 =>
  (chk (decide (0 < (40009 : Int)))).bind fun u6 =>
  (chk (decide (0 < (1000003 : Int) ∧ (1000003 : Int) < 1073741824))).bind fun u7 =>
  (chk (decide (-(2 : Int) ^ 64 < ((((((x_tin.1, x_tin.2.1, (x_tin.2.2 + (1 : Int))).2.1 + ((48271 : Int) * (x_tin.1, x_tin.2.1, (x_tin.2.2 + (1 : Int))).2.2)) * ((39373 : Int) + (x_tin.1, x_tin.2.1, (x_tin.2.2 + (1 : Int))).2.2)) % (2147483647 : Int)) % (40009 : Int)) + (7 : Int)) ∧ ((((((x_tin.1, x_tin.2.1, (x_tin.2.2 + (1 : Int))).2.1 + ((48271 : Int) * (x_tin.1, x_tin.2.1, (x_tin.2.2 + (1 : Int))).2.2)) * ((39373 : Int) + (x_tin.1, x_tin.2.1, (x_tin.2.2 + (1 : Int))).2.2)) % (2147483647 : Int)) % (40009 : Int)) + (7 : Int)) < (2 : Int) ^ 64))).bind fun u8 =>
  (chk (decide (0 < (2147483629 : Int)))).bind fun u9 =>
  (chk (decide (-(2 : Int) ^ 64 < (48271 : Int) ∧ (48271 : Int) < (2 : Int) ^ 64))).bind fun u10 =>
  (chk (decide (0 < (2147483587 : Int)))).bind fun u11 =>
  (chk (decide (0 < (64 : Int) ∧ (64 : Int) < 1073741824))).bind fun u12 =>
  (chk (decide (0 < x_top_so))).bind fun u13 =>
  some ((((((((((((((x_tin.1, x_tin.2.1, (x_tin.2.2 + (1 : Int))).2.1 + ((48271 : Int) * (x_tin.1, x_tin.2.1, (x_tin.2.2 + (1 : Int))).2.2)) * ((39373 : Int) + (x_tin.1, x_tin.2.1, (x_tin.2.2 + (1 : Int))).2.2)) % (2147483647 : Int)) + (x_tin.1, x_tin.2.1, (x_tin.2.2 + (1 : Int))).2.2) + ((x_tin.1, x_tin.2.1, (x_tin.2.2 + (1 : Int))).2.1 / (1000003 : Int))) * ((((((x_tin.1, x_tin.2.1, (x_tin.2.2 + (1 : Int))).2.1 + ((48271 : Int) * (x_tin.1, x_tin.2.1, (x_tin.2.2 + (1 : Int))).2.2)) * ((39373 : Int) + (x_tin.1, x_tin.2.1, (x_tin.2.2 + (1 : Int))).2.2)) % (2147483647 : Int)) % (40009 : Int)) + (7 : Int))) % (2147483629 : Int)) * (48271 : Int)) + ((((x_tin.1, x_tin.2.1, (x_tin.2.2 + (1 : Int))).2.1 + ((48271 : Int) * (x_tin.1, x_tin.2.1, (x_tin.2.2 + (1 : Int))).2.2)) * ((39373 : Int) + (x_tin.1, x_tin.2.1, (x_tin.2.2 + (1 : Int))).2.2)) % (2147483647 : Int))) % (2147483587 : Int)) / (64 : Int)) % x_top_so), (x_tin.1, x_tin.2.1, (x_tin.2.2 + (1 : Int)))))
def T__law_take : FT := fun as r as' => ∃ (x_tin : (Int × Int × Int)) (x_top_so : Int) (y : (Int × (Int × Int × Int))), m__law_take x_tin x_top_so = some y ∧ as = [.par (eK x_tin), .dat (eI x_top_so)] ∧ r = eI y.1 ∧ as' = [.par (eK y.2), .dat (eI x_top_so)]
def m__law_pick (x_tin : (Int × Int × Int)) (x_pool : (List Nm)) (x_size_so : Int) : Option ((List Nm) × (Int × Int × Int)) :=
  (chk (decide (0 ≤ (if (x_pool.length : Int) < x_size_so then (x_pool.length : Int) else x_size_so) ∧ (if (x_pool.length : Int) < x_size_so then (x_pool.length : Int) else x_size_so) < 2000))).bind fun u1 =>
  (forS (fun (s2 : (List Nm) × (List Nm) × (Int × Int × Int)) (b3 : Int) => (m__law_take s2.2.2 (s2.2.1.length : Int)).bind fun v4 =>
  (popM s2.2.1 v4.1).bind fun v5 =>
  (chk (decide (s2.1.length < 2000))).bind fun u6 =>
  some ((s2.1 ++ [v5]), (s2.2.1.eraseIdx v4.1.toNat), v4.2)) (rng (if (x_pool.length : Int) < x_size_so then (x_pool.length : Int) else x_size_so)) (([] : List Nm), x_pool, x_tin)).bind fun o7 =>
  some (o7.1, o7.2.2)
def T__law_pick : FT := fun as r as' => ∃ (x_tin : (Int × Int × Int)) (x_pool : (List Nm)) (x_size_so : Int) (y : ((List Nm) × (Int × Int × Int))), m__law_pick x_tin x_pool x_size_so = some y ∧ as = [.par (eK x_tin), .dat ((eL eN) x_pool), .dat (eI x_size_so)] ∧ r = (eL eN) y.1 ∧ as' = [.par (eK y.2), .dat ((eL eN) x_pool), .dat (eI x_size_so)]
def m__law_task (x_tin : (Int × Int × Int)) (x_many : Int) (x_full : Int) : Option (((List Nm) × (List (Nm × (Option Nm)))) × (Int × Int × Int)) :=
  (cmpM (fun _ => some true) (fun (b1 : Str) => (chk (decide (("p" : Str).length + b1.length < 2000))).bind fun u2 =>
  some (("p" : Str) ++ b1)) (chars ("abcdefghijklmnopqrstuvwxyz" : Str))).bind fun v3 =>
  (cmpM (fun _ => some true) (fun (b5 : Str) => (chk (decide (("q" : Str).length + b5.length < 2000))).bind fun u6 =>
  some (("q" : Str) ++ b5)) (chars ("abcdefghijklmn" : Str))).bind fun v7 =>
  (chk (decide (v3.length + v7.length < 2000))).bind fun u9 =>
  (m__law_take x_tin x_many).bind fun v10 =>
  (nmsOf (cutD (v3 ++ v7) none (some ((1 : Int) + v10.1)))).bind fun v11 =>
  (m__law_take v10.2 (x_full + (1 : Int))).bind fun v12 =>
  (m__law_pick v12.2 v11 (if v12.1 < (v11.length : Int) then v12.1 else (v11.length : Int))).bind fun v13 =>
  (m__law_pick v13.2 v11 ((isort leN v13.1).length : Int)).bind fun v14 =>
  (m__law_take v14.2 (3 : Int)).bind fun v15 =>
  (bif ((decide (v15.1 = (0 : Int))) && (decide ((1 : Int) < ((isort leN v13.1).length : Int)))) then ((m__law_pick v15.2 (isort leN v13.1) ((isort leN v13.1).length : Int)).bind fun v17 =>
  some (v17.1, v17.2)) else (some (v14.1, v15.2))).bind fun s16 =>
  (chk (decide (0 ≤ ((isort leN v13.1).length : Int) ∧ ((isort leN v13.1).length : Int) < 2000))).bind fun u18 =>
  (cmpS (fun (s20 : (Int × Int × Int)) (b19 : Int) => (at' (isort leN v13.1) b19).bind fun v21 =>
  (m__law_take s20 (8 : Int)).bind fun v22 =>
  (bif (decide ((0 : Int) < v22.1)) then ((at' s16.1 b19).bind fun v23 =>
  some (some v23)) else (some none)).bind fun v24 =>
  some ((v21, v24), v22.2)) (rng ((isort leN v13.1).length : Int)) s16.2).bind fun v25 =>
  some ((v11, v25.1), v25.2)
def T__law_task : FT := fun as r as' => ∃ (x_tin : (Int × Int × Int)) (x_many : Int) (x_full : Int) (y : (((List Nm) × (List (Nm × (Option Nm)))) × (Int × Int × Int))), m__law_task x_tin x_many x_full = some y ∧ as = [.par (eK x_tin), .dat (eI x_many), .dat (eI x_full)] ∧ r = (eP (eT eN) (eT (eP eN (eO eN)))) y.1 ∧ as' = [.par (eK y.2), .dat (eI x_many), .dat (eI x_full)]
def m__law_bulk (x_tin : (Int × Int × Int)) (x_task_here : ((List Nm) × (List (Nm × (Option Nm))))) : Option (((List (Nm × Int)) × (List (Nm × Int))) × (Int × Int × Int)) :=
  (cmpS (fun (s2 : (Int × Int × Int)) (b1 : Nm) => (m__law_take s2 (5 : Int)).bind fun v3 =>
  some ((b1, ((1 : Int) + v3.1)), v3.2)) x_task_here.1 x_tin).bind fun v4 =>
  (mkD v4.1).bind fun v5 =>
  (forS (fun (s6 : (List (Nm × Int)) × (Int × Int × Int)) (b7 : (Nm × (Option Nm))) => (bif b7.2.isNone then ((lk v5 b7.1).bind fun v8 =>
  some v8) else ((lk v5 b7.1).bind fun v9 =>
  (lkO v5 b7.2).bind fun v10 =>
  some (if v10 < v9 then v10 else v9))).bind fun v11 =>
  (m__law_take s6.2 (2 : Int)).bind fun v12 =>
  (m__law_take v12.2 v11).bind fun v13 =>
  (chk (decide (-(2 : Int) ^ 64 < v13.1 ∧ v13.1 < (2 : Int) ^ 64))).bind fun u14 =>
  (chk (decide (s6.1.length < 2000))).bind fun u15 =>
  some ((s6.1 ++ [(b7.1, (v11 - (v12.1 * v13.1)))]), v13.2)) x_task_here.2 (([] : List (Nm × Int)), v4.2)).bind fun o16 =>
  some ((v4.1, o16.1), o16.2)
def T__law_bulk : FT := fun as r as' => ∃ (x_tin : (Int × Int × Int)) (x_task_here : ((List Nm) × (List (Nm × (Option Nm))))) (y : (((List (Nm × Int)) × (List (Nm × Int))) × (Int × Int × Int))), m__law_bulk x_tin x_task_here = some y ∧ as = [.par (eK x_tin), .dat ((eP (eT eN) (eT (eP eN (eO eN)))) x_task_here)] ∧ r = (eP (eT (eP eN eI)) (eT (eP eN eI))) y.1 ∧ as' = [.par (eK y.2), .dat ((eP (eT eN) (eT (eP eN (eO eN)))) x_task_here)]
theorem sc__law_take : FnScope ["_law_tin", "_law_top_so", "_law_digit_so", "_law_once", "_law_far", "_law_twice"] ["_law_tin", "_law_top_so"] (defScope s__law_take) := ⟨rfl, rfl, rfl, by decide +kernel, rfl, by decide +kernel, by decide +kernel⟩
theorem can__law_take (F : Def1 K mg "_law_take" s__law_take) (fr : Fre mg) : Can P w K mg base "_law_take" ["_law_tin", "_law_top_so"] 1 (T__law_take) := by
  refine can_of F sc__law_take (by decide) fr (fun f fd h => h.bindsN fun _ _ _ _ _ _ us hl => match us, hl with | [_, _], _ => rfl) ?_ ?_
  · rintro as r as' ⟨x_tin, x_top_so, y, h, rfl, rfl, rfl⟩
    refine ⟨rfl, rfl, fun i hi => ?_⟩
    match i, hi with
    | 0, hi => cases hi
    | 1, hi => exact ⟨rfl, rfl⟩
    | _ + 2, _ => exact ⟨rfl, rfl⟩
  · rintro f cdv A outer s0 H E as r as' hr G ⟨x_tin, x_top_so, y, h, rfl, rfl, rfl⟩
    show SsD _ [.par (eK x_tin), .dat (eI x_top_so), .un, .un, .un, .un] _ _
    refine ss_cons (s_if (t_gt (i := x_tin.1) (j := (0 : Int)) (v_k0 (t := x_tin) 0 (.inr rfl)) e_int) (fun hc => ?_) (fun hc => ?_))
    · have h := cndT h hc
      obtain ⟨u1, hu1, h⟩ := bnd h
      refine ss_cons (w_set 2 G (v_mod (i := x_tin.1) (j := x_top_so) (chk_of hu1) (v_int (i := x_tin.1) G (v_k0 (t := x_tin) 0 (.inr rfl))) (v_var 1)) ?_)
      show SsD _ [.par (eK x_tin), .dat (eI x_top_so), .dat (eI (x_tin.1 % x_top_so)), .un, .un, .un] _ _
      obtain ⟨u2, hu2, h⟩ := bnd h
      refine ss_cons (v_sk0 (t := x_tin) (i := (x_tin.1 / x_top_so)) 0 (v_fdiv (i := x_tin.1) (j := x_top_so) (chk_of hu2) (v_k0 (t := x_tin) 0 (.inr rfl)) (v_var 1)) (.inr rfl) ?_)
      show SsD _ [.par (eK ((x_tin.1 / x_top_so), x_tin.2.1, x_tin.2.2)), .dat (eI x_top_so), .dat (eI (x_tin.1 % x_top_so)), .un, .un, .un] _ _
      obtain rfl := Option.some.inj h
      exact ss_cons (s_ret (v_var 2) ⟨rfl, (by first | exact trivial | exact ⟨rfl, trivial⟩)⟩)
    · have h := cndF h hc
      refine ss_nil ?_
      show SsD _ [.par (eK x_tin), .dat (eI x_top_so), .un, .un, .un, .un] _ _
      refine ss_cons (v_sk2 (t := x_tin) (i := (x_tin.2.2 + (1 : Int))) 0 (e_add (v_k2 (t := x_tin) 0 (.inr rfl)) e_int) (.inr rfl) ?_)
      show SsD _ [.par (eK (x_tin.1, x_tin.2.1, (x_tin.2.2 + (1 : Int)))), .dat (eI x_top_so), .un, .un, .un, .un] _ _
      obtain ⟨u3, hu3, h⟩ := bnd h
      obtain ⟨u4, hu4, h⟩ := bnd h
      obtain ⟨u5, hu5, h⟩ := bnd h
      refine ss_cons (w_set 3 G (v_mod (i := (((x_tin.1, x_tin.2.1, (x_tin.2.2 + (1 : Int))).2.1 + ((48271 : Int) * (x_tin.1, x_tin.2.1, (x_tin.2.2 + (1 : Int))).2.2)) * ((39373 : Int) + (x_tin.1, x_tin.2.1, (x_tin.2.2 + (1 : Int))).2.2))) (j := (2147483647 : Int)) (chk_of hu5) (v_int (i := (((x_tin.1, x_tin.2.1, (x_tin.2.2 + (1 : Int))).2.1 + ((48271 : Int) * (x_tin.1, x_tin.2.1, (x_tin.2.2 + (1 : Int))).2.2)) * ((39373 : Int) + (x_tin.1, x_tin.2.1, (x_tin.2.2 + (1 : Int))).2.2))) G (v_mul (i := ((x_tin.1, x_tin.2.1, (x_tin.2.2 + (1 : Int))).2.1 + ((48271 : Int) * (x_tin.1, x_tin.2.1, (x_tin.2.2 + (1 : Int))).2.2))) (j := ((39373 : Int) + (x_tin.1, x_tin.2.1, (x_tin.2.2 + (1 : Int))).2.2)) (chk_of hu4) (e_add (v_k1 (t := (x_tin.1, x_tin.2.1, (x_tin.2.2 + (1 : Int)))) 0 (.inr rfl)) (v_mulL (i := (48271 : Int)) (j := (x_tin.1, x_tin.2.1, (x_tin.2.2 + (1 : Int))).2.2) (chk_of hu3) e_int (v_k2 (t := (x_tin.1, x_tin.2.1, (x_tin.2.2 + (1 : Int)))) 0 (.inr rfl)))) (e_add e_int (v_k2 (t := (x_tin.1, x_tin.2.1, (x_tin.2.2 + (1 : Int)))) 0 (.inr rfl))))) e_int) ?_)
      show SsD _ [.par (eK (x_tin.1, x_tin.2.1, (x_tin.2.2 + (1 : Int)))), .dat (eI x_top_so), .un, .dat (eI ((((x_tin.1, x_tin.2.1, (x_tin.2.2 + (1 : Int))).2.1 + ((48271 : Int) * (x_tin.1, x_tin.2.1, (x_tin.2.2 + (1 : Int))).2.2)) * ((39373 : Int) + (x_tin.1, x_tin.2.1, (x_tin.2.2 + (1 : Int))).2.2)) % (2147483647 : Int))), .un, .un] _ _
      obtain ⟨u6, hu6, h⟩ := bnd h
      refine ss_cons (w_set 4 G (e_add (v_mod (i := ((((x_tin.1, x_tin.2.1, (x_tin.2.2 + (1 : Int))).2.1 + ((48271 : Int) * (x_tin.1, x_tin.2.1, (x_tin.2.2 + (1 : Int))).2.2)) * ((39373 : Int) + (x_tin.1, x_tin.2.1, (x_tin.2.2 + (1 : Int))).2.2)) % (2147483647 : Int))) (j := (40009 : Int)) (chk_of hu6) (v_int (i := ((((x_tin.1, x_tin.2.1, (x_tin.2.2 + (1 : Int))).2.1 + ((48271 : Int) * (x_tin.1, x_tin.2.1, (x_tin.2.2 + (1 : Int))).2.2)) * ((39373 : Int) + (x_tin.1, x_tin.2.1, (x_tin.2.2 + (1 : Int))).2.2)) % (2147483647 : Int))) G (v_var 3)) e_int) e_int) ?_)
      show SsD _ [.par (eK (x_tin.1, x_tin.2.1, (x_tin.2.2 + (1 : Int)))), .dat (eI x_top_so), .un, .dat (eI ((((x_tin.1, x_tin.2.1, (x_tin.2.2 + (1 : Int))).2.1 + ((48271 : Int) * (x_tin.1, x_tin.2.1, (x_tin.2.2 + (1 : Int))).2.2)) * ((39373 : Int) + (x_tin.1, x_tin.2.1, (x_tin.2.2 + (1 : Int))).2.2)) % (2147483647 : Int))), .dat (eI ((((((x_tin.1, x_tin.2.1, (x_tin.2.2 + (1 : Int))).2.1 + ((48271 : Int) * (x_tin.1, x_tin.2.1, (x_tin.2.2 + (1 : Int))).2.2)) * ((39373 : Int) + (x_tin.1, x_tin.2.1, (x_tin.2.2 + (1 : Int))).2.2)) % (2147483647 : Int)) % (40009 : Int)) + (7 : Int))), .un] _ _
      obtain ⟨u7, hu7, h⟩ := bnd h
      obtain ⟨u8, hu8, h⟩ := bnd h
      obtain ⟨u9, hu9, h⟩ := bnd h
      refine ss_cons (w_set 5 G (v_mod (i := (((((((x_tin.1, x_tin.2.1, (x_tin.2.2 + (1 : Int))).2.1 + ((48271 : Int) * (x_tin.1, x_tin.2.1, (x_tin.2.2 + (1 : Int))).2.2)) * ((39373 : Int) + (x_tin.1, x_tin.2.1, (x_tin.2.2 + (1 : Int))).2.2)) % (2147483647 : Int)) + (x_tin.1, x_tin.2.1, (x_tin.2.2 + (1 : Int))).2.2) + ((x_tin.1, x_tin.2.1, (x_tin.2.2 + (1 : Int))).2.1 / (1000003 : Int))) * ((((((x_tin.1, x_tin.2.1, (x_tin.2.2 + (1 : Int))).2.1 + ((48271 : Int) * (x_tin.1, x_tin.2.1, (x_tin.2.2 + (1 : Int))).2.2)) * ((39373 : Int) + (x_tin.1, x_tin.2.1, (x_tin.2.2 + (1 : Int))).2.2)) % (2147483647 : Int)) % (40009 : Int)) + (7 : Int)))) (j := (2147483629 : Int)) (chk_of hu9) (v_int (i := (((((((x_tin.1, x_tin.2.1, (x_tin.2.2 + (1 : Int))).2.1 + ((48271 : Int) * (x_tin.1, x_tin.2.1, (x_tin.2.2 + (1 : Int))).2.2)) * ((39373 : Int) + (x_tin.1, x_tin.2.1, (x_tin.2.2 + (1 : Int))).2.2)) % (2147483647 : Int)) + (x_tin.1, x_tin.2.1, (x_tin.2.2 + (1 : Int))).2.2) + ((x_tin.1, x_tin.2.1, (x_tin.2.2 + (1 : Int))).2.1 / (1000003 : Int))) * ((((((x_tin.1, x_tin.2.1, (x_tin.2.2 + (1 : Int))).2.1 + ((48271 : Int) * (x_tin.1, x_tin.2.1, (x_tin.2.2 + (1 : Int))).2.2)) * ((39373 : Int) + (x_tin.1, x_tin.2.1, (x_tin.2.2 + (1 : Int))).2.2)) % (2147483647 : Int)) % (40009 : Int)) + (7 : Int)))) G (v_mul (i := ((((((x_tin.1, x_tin.2.1, (x_tin.2.2 + (1 : Int))).2.1 + ((48271 : Int) * (x_tin.1, x_tin.2.1, (x_tin.2.2 + (1 : Int))).2.2)) * ((39373 : Int) + (x_tin.1, x_tin.2.1, (x_tin.2.2 + (1 : Int))).2.2)) % (2147483647 : Int)) + (x_tin.1, x_tin.2.1, (x_tin.2.2 + (1 : Int))).2.2) + ((x_tin.1, x_tin.2.1, (x_tin.2.2 + (1 : Int))).2.1 / (1000003 : Int)))) (j := ((((((x_tin.1, x_tin.2.1, (x_tin.2.2 + (1 : Int))).2.1 + ((48271 : Int) * (x_tin.1, x_tin.2.1, (x_tin.2.2 + (1 : Int))).2.2)) * ((39373 : Int) + (x_tin.1, x_tin.2.1, (x_tin.2.2 + (1 : Int))).2.2)) % (2147483647 : Int)) % (40009 : Int)) + (7 : Int))) (chk_of hu8) (e_add (e_add (v_var 3) (v_k2 (t := (x_tin.1, x_tin.2.1, (x_tin.2.2 + (1 : Int)))) 0 (.inr rfl))) (v_fdiv (i := (x_tin.1, x_tin.2.1, (x_tin.2.2 + (1 : Int))).2.1) (j := (1000003 : Int)) (chk_of hu7) (v_k1 (t := (x_tin.1, x_tin.2.1, (x_tin.2.2 + (1 : Int)))) 0 (.inr rfl)) e_int)) (v_var 4))) e_int) ?_)
      show SsD _ [.par (eK (x_tin.1, x_tin.2.1, (x_tin.2.2 + (1 : Int)))), .dat (eI x_top_so), .un, .dat (eI ((((x_tin.1, x_tin.2.1, (x_tin.2.2 + (1 : Int))).2.1 + ((48271 : Int) * (x_tin.1, x_tin.2.1, (x_tin.2.2 + (1 : Int))).2.2)) * ((39373 : Int) + (x_tin.1, x_tin.2.1, (x_tin.2.2 + (1 : Int))).2.2)) % (2147483647 : Int))), .dat (eI ((((((x_tin.1, x_tin.2.1, (x_tin.2.2 + (1 : Int))).2.1 + ((48271 : Int) * (x_tin.1, x_tin.2.1, (x_tin.2.2 + (1 : Int))).2.2)) * ((39373 : Int) + (x_tin.1, x_tin.2.1, (x_tin.2.2 + (1 : Int))).2.2)) % (2147483647 : Int)) % (40009 : Int)) + (7 : Int))), .dat (eI ((((((((x_tin.1, x_tin.2.1, (x_tin.2.2 + (1 : Int))).2.1 + ((48271 : Int) * (x_tin.1, x_tin.2.1, (x_tin.2.2 + (1 : Int))).2.2)) * ((39373 : Int) + (x_tin.1, x_tin.2.1, (x_tin.2.2 + (1 : Int))).2.2)) % (2147483647 : Int)) + (x_tin.1, x_tin.2.1, (x_tin.2.2 + (1 : Int))).2.2) + ((x_tin.1, x_tin.2.1, (x_tin.2.2 + (1 : Int))).2.1 / (1000003 : Int))) * ((((((x_tin.1, x_tin.2.1, (x_tin.2.2 + (1 : Int))).2.1 + ((48271 : Int) * (x_tin.1, x_tin.2.1, (x_tin.2.2 + (1 : Int))).2.2)) * ((39373 : Int) + (x_tin.1, x_tin.2.1, (x_tin.2.2 + (1 : Int))).2.2)) % (2147483647 : Int)) % (40009 : Int)) + (7 : Int))) % (2147483629 : Int)))] _ _
      obtain ⟨u10, hu10, h⟩ := bnd h
      obtain ⟨u11, hu11, h⟩ := bnd h
      obtain ⟨u12, hu12, h⟩ := bnd h
      obtain ⟨u13, hu13, h⟩ := bnd h
      obtain rfl := Option.some.inj h
      exact ss_cons (s_ret (v_mod (i := ((((((((((((x_tin.1, x_tin.2.1, (x_tin.2.2 + (1 : Int))).2.1 + ((48271 : Int) * (x_tin.1, x_tin.2.1, (x_tin.2.2 + (1 : Int))).2.2)) * ((39373 : Int) + (x_tin.1, x_tin.2.1, (x_tin.2.2 + (1 : Int))).2.2)) % (2147483647 : Int)) + (x_tin.1, x_tin.2.1, (x_tin.2.2 + (1 : Int))).2.2) + ((x_tin.1, x_tin.2.1, (x_tin.2.2 + (1 : Int))).2.1 / (1000003 : Int))) * ((((((x_tin.1, x_tin.2.1, (x_tin.2.2 + (1 : Int))).2.1 + ((48271 : Int) * (x_tin.1, x_tin.2.1, (x_tin.2.2 + (1 : Int))).2.2)) * ((39373 : Int) + (x_tin.1, x_tin.2.1, (x_tin.2.2 + (1 : Int))).2.2)) % (2147483647 : Int)) % (40009 : Int)) + (7 : Int))) % (2147483629 : Int)) * (48271 : Int)) + ((((x_tin.1, x_tin.2.1, (x_tin.2.2 + (1 : Int))).2.1 + ((48271 : Int) * (x_tin.1, x_tin.2.1, (x_tin.2.2 + (1 : Int))).2.2)) * ((39373 : Int) + (x_tin.1, x_tin.2.1, (x_tin.2.2 + (1 : Int))).2.2)) % (2147483647 : Int))) % (2147483587 : Int)) / (64 : Int))) (j := x_top_so) (chk_of hu13) (v_int (i := ((((((((((((x_tin.1, x_tin.2.1, (x_tin.2.2 + (1 : Int))).2.1 + ((48271 : Int) * (x_tin.1, x_tin.2.1, (x_tin.2.2 + (1 : Int))).2.2)) * ((39373 : Int) + (x_tin.1, x_tin.2.1, (x_tin.2.2 + (1 : Int))).2.2)) % (2147483647 : Int)) + (x_tin.1, x_tin.2.1, (x_tin.2.2 + (1 : Int))).2.2) + ((x_tin.1, x_tin.2.1, (x_tin.2.2 + (1 : Int))).2.1 / (1000003 : Int))) * ((((((x_tin.1, x_tin.2.1, (x_tin.2.2 + (1 : Int))).2.1 + ((48271 : Int) * (x_tin.1, x_tin.2.1, (x_tin.2.2 + (1 : Int))).2.2)) * ((39373 : Int) + (x_tin.1, x_tin.2.1, (x_tin.2.2 + (1 : Int))).2.2)) % (2147483647 : Int)) % (40009 : Int)) + (7 : Int))) % (2147483629 : Int)) * (48271 : Int)) + ((((x_tin.1, x_tin.2.1, (x_tin.2.2 + (1 : Int))).2.1 + ((48271 : Int) * (x_tin.1, x_tin.2.1, (x_tin.2.2 + (1 : Int))).2.2)) * ((39373 : Int) + (x_tin.1, x_tin.2.1, (x_tin.2.2 + (1 : Int))).2.2)) % (2147483647 : Int))) % (2147483587 : Int)) / (64 : Int))) G (v_fdiv (i := (((((((((((x_tin.1, x_tin.2.1, (x_tin.2.2 + (1 : Int))).2.1 + ((48271 : Int) * (x_tin.1, x_tin.2.1, (x_tin.2.2 + (1 : Int))).2.2)) * ((39373 : Int) + (x_tin.1, x_tin.2.1, (x_tin.2.2 + (1 : Int))).2.2)) % (2147483647 : Int)) + (x_tin.1, x_tin.2.1, (x_tin.2.2 + (1 : Int))).2.2) + ((x_tin.1, x_tin.2.1, (x_tin.2.2 + (1 : Int))).2.1 / (1000003 : Int))) * ((((((x_tin.1, x_tin.2.1, (x_tin.2.2 + (1 : Int))).2.1 + ((48271 : Int) * (x_tin.1, x_tin.2.1, (x_tin.2.2 + (1 : Int))).2.2)) * ((39373 : Int) + (x_tin.1, x_tin.2.1, (x_tin.2.2 + (1 : Int))).2.2)) % (2147483647 : Int)) % (40009 : Int)) + (7 : Int))) % (2147483629 : Int)) * (48271 : Int)) + ((((x_tin.1, x_tin.2.1, (x_tin.2.2 + (1 : Int))).2.1 + ((48271 : Int) * (x_tin.1, x_tin.2.1, (x_tin.2.2 + (1 : Int))).2.2)) * ((39373 : Int) + (x_tin.1, x_tin.2.1, (x_tin.2.2 + (1 : Int))).2.2)) % (2147483647 : Int))) % (2147483587 : Int))) (j := (64 : Int)) (chk_of hu12) (v_mod (i := ((((((((((x_tin.1, x_tin.2.1, (x_tin.2.2 + (1 : Int))).2.1 + ((48271 : Int) * (x_tin.1, x_tin.2.1, (x_tin.2.2 + (1 : Int))).2.2)) * ((39373 : Int) + (x_tin.1, x_tin.2.1, (x_tin.2.2 + (1 : Int))).2.2)) % (2147483647 : Int)) + (x_tin.1, x_tin.2.1, (x_tin.2.2 + (1 : Int))).2.2) + ((x_tin.1, x_tin.2.1, (x_tin.2.2 + (1 : Int))).2.1 / (1000003 : Int))) * ((((((x_tin.1, x_tin.2.1, (x_tin.2.2 + (1 : Int))).2.1 + ((48271 : Int) * (x_tin.1, x_tin.2.1, (x_tin.2.2 + (1 : Int))).2.2)) * ((39373 : Int) + (x_tin.1, x_tin.2.1, (x_tin.2.2 + (1 : Int))).2.2)) % (2147483647 : Int)) % (40009 : Int)) + (7 : Int))) % (2147483629 : Int)) * (48271 : Int)) + ((((x_tin.1, x_tin.2.1, (x_tin.2.2 + (1 : Int))).2.1 + ((48271 : Int) * (x_tin.1, x_tin.2.1, (x_tin.2.2 + (1 : Int))).2.2)) * ((39373 : Int) + (x_tin.1, x_tin.2.1, (x_tin.2.2 + (1 : Int))).2.2)) % (2147483647 : Int)))) (j := (2147483587 : Int)) (chk_of hu11) (v_int (i := ((((((((((x_tin.1, x_tin.2.1, (x_tin.2.2 + (1 : Int))).2.1 + ((48271 : Int) * (x_tin.1, x_tin.2.1, (x_tin.2.2 + (1 : Int))).2.2)) * ((39373 : Int) + (x_tin.1, x_tin.2.1, (x_tin.2.2 + (1 : Int))).2.2)) % (2147483647 : Int)) + (x_tin.1, x_tin.2.1, (x_tin.2.2 + (1 : Int))).2.2) + ((x_tin.1, x_tin.2.1, (x_tin.2.2 + (1 : Int))).2.1 / (1000003 : Int))) * ((((((x_tin.1, x_tin.2.1, (x_tin.2.2 + (1 : Int))).2.1 + ((48271 : Int) * (x_tin.1, x_tin.2.1, (x_tin.2.2 + (1 : Int))).2.2)) * ((39373 : Int) + (x_tin.1, x_tin.2.1, (x_tin.2.2 + (1 : Int))).2.2)) % (2147483647 : Int)) % (40009 : Int)) + (7 : Int))) % (2147483629 : Int)) * (48271 : Int)) + ((((x_tin.1, x_tin.2.1, (x_tin.2.2 + (1 : Int))).2.1 + ((48271 : Int) * (x_tin.1, x_tin.2.1, (x_tin.2.2 + (1 : Int))).2.2)) * ((39373 : Int) + (x_tin.1, x_tin.2.1, (x_tin.2.2 + (1 : Int))).2.2)) % (2147483647 : Int)))) G (e_add (v_mul (i := ((((((((x_tin.1, x_tin.2.1, (x_tin.2.2 + (1 : Int))).2.1 + ((48271 : Int) * (x_tin.1, x_tin.2.1, (x_tin.2.2 + (1 : Int))).2.2)) * ((39373 : Int) + (x_tin.1, x_tin.2.1, (x_tin.2.2 + (1 : Int))).2.2)) % (2147483647 : Int)) + (x_tin.1, x_tin.2.1, (x_tin.2.2 + (1 : Int))).2.2) + ((x_tin.1, x_tin.2.1, (x_tin.2.2 + (1 : Int))).2.1 / (1000003 : Int))) * ((((((x_tin.1, x_tin.2.1, (x_tin.2.2 + (1 : Int))).2.1 + ((48271 : Int) * (x_tin.1, x_tin.2.1, (x_tin.2.2 + (1 : Int))).2.2)) * ((39373 : Int) + (x_tin.1, x_tin.2.1, (x_tin.2.2 + (1 : Int))).2.2)) % (2147483647 : Int)) % (40009 : Int)) + (7 : Int))) % (2147483629 : Int))) (j := (48271 : Int)) (chk_of hu10) (v_var 5) e_int) (v_var 3))) e_int) e_int)) (v_var 1)) ⟨rfl, (by first | exact trivial | exact ⟨rfl, trivial⟩)⟩)
theorem sc__law_pick : FnScope ["_law_tin", "_law_pool", "_law_size_so", "_law_rest", "_law_some", "_law_turn"] ["_law_tin", "_law_pool", "_law_size_so"] (defScope s__law_pick) := ⟨rfl, rfl, rfl, by decide +kernel, rfl, by decide +kernel, by decide +kernel⟩
theorem can__law_pick (F : Def1 K mg "_law_pick" s__law_pick) (fr : Fre mg) (c__law_take : Can P w K mg base "_law_take" ["_law_tin", "_law_top_so"] 1 T__law_take) : Can P w K mg base "_law_pick" ["_law_tin", "_law_pool", "_law_size_so"] 2 (T__law_pick) := by
  refine can_of F sc__law_pick (by decide) fr (fun f fd h => h.bindsN fun _ _ _ _ _ _ us hl => match us, hl with | [_, _, _], _ => rfl) ?_ ?_
  · rintro as r as' ⟨x_tin, x_pool, x_size_so, y, h, rfl, rfl, rfl⟩
    refine ⟨rfl, rfl, fun i hi => ?_⟩
    match i, hi with
    | 0, hi => cases hi
    | 1, hi => exact ⟨rfl, rfl⟩
    | 2, hi => exact ⟨rfl, rfl⟩
    | _ + 3, _ => exact ⟨rfl, rfl⟩
  · rintro f cdv A outer s0 H E as r as' hr G ⟨x_tin, x_pool, x_size_so, y, h, rfl, rfl, rfl⟩
    replace c__law_take := c__law_take.cal (hr.mono (by omega)) (N := ["_law_tin", "_law_pool", "_law_size_so", "_law_rest", "_law_some", "_law_turn"]) (cdv := cdv) (outer := outer) (H := H) (E := E)
    show SsD _ [.par (eK x_tin), .dat ((eL eN) x_pool), .dat (eI x_size_so), .un, .un, .un] _ _
    refine ss_cons (s_par (i := 3) (j := 4) G.calm G.nd rfl rfl (by decide) rfl rfl (x_new (n_lisL (f := eN) (l := x_pool) G (v_var 1)) (x_new (n_lstV (f := eN) (l := ([] : List Nm)) rfl va_nil) x_nil)) ?_ rfl)
    show SsD _ [.par (eK x_tin), .dat ((eL eN) x_pool), .dat (eI x_size_so), .own ((eL eN) x_pool), .own ((eL eN) ([] : List Nm)), .un] _ _
    obtain ⟨u1, hu1, h⟩ := bnd h
    obtain ⟨o7, ho7, h⟩ := bnd h
    refine ss_cons (k_forS (g := eI) (fun (s2 : (List Nm) × (List Nm) × (Int × Int × Int)) => [.par (eK s2.2.2), .dat ((eL eN) x_pool), .dat (eI x_size_so), .own ((eL eN) s2.2.1), .own ((eL eN) s2.1), .un]) (fun (b3 : Int) => [(5, eI b3)]) G PassesOwn.never ho7 (it_R (n := (if (x_pool.length : Int) < x_size_so then (x_pool.length : Int) else x_size_so)) G (chk_of hu1) (v_min2 (i := x_size_so) (j := (x_pool.length : Int)) G (v_var 2) (v_lenO (f := eN) (l := x_pool) G 3 (.inl rfl)))) (fun b3 hb => tg1 5 G.nd) (fun s2 b3 t hb h => ?_) ?_)
    · show SsD _ [.par (eK s2.2.2), .dat ((eL eN) x_pool), .dat (eI x_size_so), .own ((eL eN) s2.2.1), .own ((eL eN) s2.1), .dat (eI b3)] _ _
      obtain ⟨v4, hv4, h⟩ := bnd h
      obtain ⟨v5, hv5, h⟩ := bnd h
      obtain ⟨u6, hu6, h⟩ := bnd h
      refine ss_cons (s_expr (v_app (f := eN) (l := s2.1) (y := v5) 4 (v_pop (f := eN) (l := s2.2.1) (y := v5) (j := v4.1) 3 hv5 (e_callO (d := eK s2.2.2) (d' := eK v4.2) c__law_take rfl [] [eI (s2.2.1.length : Int)] (m_own (i := 0) rfl (by first | exact .inl rfl | exact .inr (.inl rfl)) rfl (m_dat (v_lenO (f := eN) (l := s2.2.1) G 3 (.inl rfl)) m_nil)) (.inr rfl) ⟨s2.2.2, (s2.2.1.length : Int), v4, hv4, rfl, rfl, rfl⟩) (.inl rfl) ⟨_, .inl rfl⟩) (.inl rfl) (chk_of hu6) ⟨_, .inl rfl⟩) ?_)
      show SsD _ [.par (eK v4.2), .dat ((eL eN) x_pool), .dat (eI x_size_so), .own ((eL eN) (s2.2.1.eraseIdx v4.1.toNat)), .own ((eL eN) (s2.1 ++ [v5])), .dat (eI b3)] _ _
      refine ss_forget 5 ?_
      obtain rfl := Option.some.inj h
      exact ss_nil rfl
    show SsD _ [.par (eK o7.2.2), .dat ((eL eN) x_pool), .dat (eI x_size_so), .own ((eL eN) o7.2.1), .own ((eL eN) o7.1), .un] _ _
    refine ss_freezeL 4 rfl ?_
    show SsD _ [.par (eK o7.2.2), .dat ((eL eN) x_pool), .dat (eI x_size_so), .own ((eL eN) o7.2.1), .dat ((eL eN) o7.1), .un] _ _
    obtain rfl := Option.some.inj h
    exact ss_cons (s_ret (v_var 4) ⟨rfl, (by first | exact trivial | exact ⟨rfl, trivial⟩)⟩)
theorem sc__law_task : FnScope ["_law_tin", "_law_many", "_law_full", "_law_tags", "_law_spots", "_law_first", "_law_ends", "_law_way_so", "_law_ways", "_law_letter", "_law_k"] ["_law_tin", "_law_many", "_law_full"] (defScope s__law_task) := ⟨rfl, rfl, rfl, by decide +kernel, rfl, by decide +kernel, by decide +kernel⟩
theorem can__law_task (F : Def1 K mg "_law_task" s__law_task) (fr : Fre mg) (c__law_take : Can P w K mg base "_law_take" ["_law_tin", "_law_top_so"] 1 T__law_take) (c__law_pick : Can P w K mg base "_law_pick" ["_law_tin", "_law_pool", "_law_size_so"] 2 T__law_pick) : Can P w K mg base "_law_task" ["_law_tin", "_law_many", "_law_full"] 3 (T__law_task) := by
  refine can_of F sc__law_task (by decide) fr (fun f fd h => h.bindsN fun _ _ _ _ _ _ us hl => match us, hl with | [_, _, _], _ => rfl) ?_ ?_
  · rintro as r as' ⟨x_tin, x_many, x_full, y, h, rfl, rfl, rfl⟩
    refine ⟨rfl, rfl, fun i hi => ?_⟩
    match i, hi with
    | 0, hi => cases hi
    | 1, hi => exact ⟨rfl, rfl⟩
    | 2, hi => exact ⟨rfl, rfl⟩
    | _ + 3, _ => exact ⟨rfl, rfl⟩
  · rintro f cdv A outer s0 H E as r as' hr G ⟨x_tin, x_many, x_full, y, h, rfl, rfl, rfl⟩
    replace c__law_take := c__law_take.cal (hr.mono (by omega)) (N := ["_law_tin", "_law_many", "_law_full", "_law_tags", "_law_spots", "_law_first", "_law_ends", "_law_way_so", "_law_ways", "_law_letter", "_law_k"]) (cdv := cdv) (outer := outer) (H := H) (E := E)
    replace c__law_pick := c__law_pick.cal (hr.mono (by omega)) (N := ["_law_tin", "_law_many", "_law_full", "_law_tags", "_law_spots", "_law_first", "_law_ends", "_law_way_so", "_law_ways", "_law_letter", "_law_k"]) (cdv := cdv) (outer := outer) (H := H) (E := E)
    show SsD _ [.par (eK x_tin), .dat (eI x_many), .dat (eI x_full), .un, .un, .un, .un, .un, .un, .un, .un] _ _
    obtain ⟨v3, hv3, h⟩ := bnd h
    refine ss_cons (s_setLc (i := 3) G.calm G.nd rfl rfl (k_lcD (g := eY) (f := eY) [("_law_letter", 9)] (fun (b1 : Str) => [(9, eY b1)]) G hv3 ((it_S (x := ("abcdefghijklmnopqrstuvwxyz" : Str)) (by decide) e_str)).l (.inl rfl) (fun s H C cl fp b1 hb => tg1 9 G.nd) (fun z H C cl fp b1 y4 G hb h => by show EvD _ [.par (eK x_tin), .dat (eI x_many), .dat (eI x_full), .un, .un, .un, .un, .un, .un, .dat (eY b1), .un] _ _ [.par (eK x_tin), .dat (eI x_many), .dat (eI x_full), .un, .un, .un, .un, .un, .un, .dat (eY b1), .un]; obtain ⟨u2, hu2, h⟩ := bnd h; obtain rfl := Option.some.inj h; exact (v_addS (i := ("p" : Str)) (j := b1) (chk_of hu2) e_str (v_var 9)))) ?_ (by first | exact sw_true | rfl))
    show SsD _ [.par (eK x_tin), .dat (eI x_many), .dat (eI x_full), .own ((eL eY) v3), .un, .un, .un, .un, .un, .un, .un] _ _
    refine ss_freezeL 3 rfl ?_
    show SsD _ [.par (eK x_tin), .dat (eI x_many), .dat (eI x_full), .dat ((eL eY) v3), .un, .un, .un, .un, .un, .un, .un] _ _
    obtain ⟨v7, hv7, h⟩ := bnd h
    obtain ⟨u9, hu9, h⟩ := bnd h
    refine ss_cons (w_set 3 G ((n_catL (f := eY) (l := v3) (m := v7) (chk_of hu9) (v_var 3) (((k_lcD (g := eY) (f := eY) [("_law_letter", 9)] (fun (b5 : Str) => [(9, eY b5)]) G hv7 ((it_S (x := ("abcdefghijklmn" : Str)) (by decide) e_str)).l (.inl rfl) (fun s H C cl fp b5 hb => tg1 9 G.nd) (fun z H C cl fp b5 y8 G hb h => by show EvD _ [.par (eK x_tin), .dat (eI x_many), .dat (eI x_full), .dat ((eL eY) v3), .un, .un, .un, .un, .un, .dat (eY b5), .un] _ _ [.par (eK x_tin), .dat (eI x_many), .dat (eI x_full), .dat ((eL eY) v3), .un, .un, .un, .un, .un, .dat (eY b5), .un]; obtain ⟨u6, hu6, h⟩ := bnd h; obtain rfl := Option.some.inj h; exact (v_addS (i := ("q" : Str)) (j := b5) (chk_of hu6) e_str (v_var 9))))).n G.calm G.nd).ev)).ev ?_)
    show SsD _ [.par (eK x_tin), .dat (eI x_many), .dat (eI x_full), .dat ((eL eY) (v3 ++ v7)), .un, .un, .un, .un, .un, .un, .un] _ _
    obtain ⟨v10, hv10, h⟩ := bnd h
    obtain ⟨v11, hv11, h⟩ := bnd h
    refine ss_cons (w_set 4 G (EvD.cast (((n_sliceS (f := eY) (l := (v3 ++ v7)) (h := ((1 : Int) + v10.1)) (v_var 3) (e_add e_int (e_callO (d := eK x_tin) (d' := eK v10.2) c__law_take rfl [] [eI x_many] (m_own (i := 0) rfl (by first | exact .inl rfl | exact .inr (.inl rfl)) rfl (m_dat (v_var 1) m_nil)) (.inr rfl) ⟨x_tin, x_many, v10, hv10, rfl, rfl, rfl⟩)))).ev) (nmsOf_eq hv11)) ?_)
    show SsD _ [.par (eK v10.2), .dat (eI x_many), .dat (eI x_full), .dat ((eL eY) (v3 ++ v7)), .dat ((eL eN) v11), .un, .un, .un, .un, .un, .un] _ _
    obtain ⟨v12, hv12, h⟩ := bnd h
    obtain ⟨v13, hv13, h⟩ := bnd h
    refine ss_cons (w_set 5 G ((n_srtL (f := eN) (l := v13.1) G (e_callO (d := eK v12.2) (d' := eK v13.2) c__law_pick rfl [] [(eL eN) v11, eI (if v12.1 < (v11.length : Int) then v12.1 else (v11.length : Int))] (m_own (i := 0) rfl (by first | exact .inl rfl | exact .inr (.inl rfl)) rfl (m_dat (v_var 4) (m_dat (v_min2 (i := (v11.length : Int)) (j := v12.1) G (v_lenL (f := eN) (l := v11) G (v_var 4)) (e_callO (d := eK v10.2) (d' := eK v12.2) c__law_take rfl [] [eI (x_full + (1 : Int))] (m_own (i := 0) rfl (by first | exact .inl rfl | exact .inr (.inl rfl)) rfl (m_dat (e_add (v_var 2) e_int) m_nil)) (.inr rfl) ⟨v10.2, (x_full + (1 : Int)), v12, hv12, rfl, rfl, rfl⟩)) m_nil))) (.inr rfl) ⟨v12.2, v11, (if v12.1 < (v11.length : Int) then v12.1 else (v11.length : Int)), v13, hv13, rfl, rfl, rfl⟩))).ev ?_)
    show SsD _ [.par (eK v13.2), .dat (eI x_many), .dat (eI x_full), .dat ((eL eY) (v3 ++ v7)), .dat ((eL eN) v11), .dat ((eL eN) (isort leN v13.1)), .un, .un, .un, .un, .un] _ _
    obtain ⟨v14, hv14, h⟩ := bnd h
    refine ss_cons (w_set 6 G (e_callO (d := eK v13.2) (d' := eK v14.2) c__law_pick rfl [] [(eL eN) v11, eI ((isort leN v13.1).length : Int)] (m_own (i := 0) rfl (by first | exact .inl rfl | exact .inr (.inl rfl)) rfl (m_dat (v_var 4) (m_dat (v_lenL (f := eN) (l := (isort leN v13.1)) G (v_var 5)) m_nil))) (.inr rfl) ⟨v13.2, v11, ((isort leN v13.1).length : Int), v14, hv14, rfl, rfl, rfl⟩) ?_)
    show SsD _ [.par (eK v14.2), .dat (eI x_many), .dat (eI x_full), .dat ((eL eY) (v3 ++ v7)), .dat ((eL eN) v11), .dat ((eL eN) (isort leN v13.1)), .dat ((eL eN) v14.1), .un, .un, .un, .un] _ _
    obtain ⟨v15, hv15, h⟩ := bnd h
    refine ss_cons (w_set 7 G (e_callO (d := eK v14.2) (d' := eK v15.2) c__law_take rfl [] [eI (3 : Int)] (m_own (i := 0) rfl (by first | exact .inl rfl | exact .inr (.inl rfl)) rfl (m_dat e_int m_nil)) (.inr rfl) ⟨v14.2, (3 : Int), v15, hv15, rfl, rfl, rfl⟩) ?_)
    show SsD _ [.par (eK v15.2), .dat (eI x_many), .dat (eI x_full), .dat ((eL eY) (v3 ++ v7)), .dat ((eL eN) v11), .dat ((eL eN) (isort leN v13.1)), .dat ((eL eN) v14.1), .dat (eI v15.1), .un, .un, .un] _ _
    obtain ⟨s16, hs16, h⟩ := bnd h
    refine ss_join (δ1 := [.par (eK s16.2), .dat (eI x_many), .dat (eI x_full), .dat ((eL eY) (v3 ++ v7)), .dat ((eL eN) v11), .dat ((eL eN) (isort leN v13.1)), .dat ((eL eN) s16.1), .dat (eI v15.1), .un, .un, .un]) (s_if (t_w (w_and (p := (decide (v15.1 = (0 : Int)))) (q := (decide ((1 : Int) < ((isort leN v13.1).length : Int)))) (vt_eq (f := eI) (y := v15.1) (z := (0 : Int)) G (v_var 7) e_int) (fun _ => (w_and1 (t_gt (i := ((isort leN v13.1).length : Int)) (j := (1 : Int)) (v_lenL (f := eN) (l := (isort leN v13.1)) G (v_var 5)) e_int))))) (fun hc => ?_) (fun hc => ?_)) ?_
    · have h := cndT hs16 hc
      obtain ⟨v17, hv17, h⟩ := bnd h
      refine ss_cons (w_set 6 G (e_callO (d := eK v15.2) (d' := eK v17.2) c__law_pick rfl [] [(eL eN) (isort leN v13.1), eI ((isort leN v13.1).length : Int)] (m_own (i := 0) rfl (by first | exact .inl rfl | exact .inr (.inl rfl)) rfl (m_dat (v_var 5) (m_dat (v_lenL (f := eN) (l := (isort leN v13.1)) G (v_var 5)) m_nil))) (.inr rfl) ⟨v15.2, (isort leN v13.1), ((isort leN v13.1).length : Int), v17, hv17, rfl, rfl, rfl⟩) ?_)
      show SsD _ [.par (eK v17.2), .dat (eI x_many), .dat (eI x_full), .dat ((eL eY) (v3 ++ v7)), .dat ((eL eN) v11), .dat ((eL eN) (isort leN v13.1)), .dat ((eL eN) v17.1), .dat (eI v15.1), .un, .un, .un] _ _
      obtain rfl := Option.some.inj h
      exact ss_nil rfl
    · have h := cndF hs16 hc
      obtain rfl := Option.some.inj h
      exact ss_nil rfl
    obtain ⟨u18, hu18, h⟩ := bnd h
    obtain ⟨v25, hv25, h⟩ := bnd h
    refine ss_cons (s_setLc (i := 8) G.calm G.nd rfl rfl (k_lcSD (g := eI) (fb := (eP eN (eO eN))) (fun (s20 : (Int × Int × Int)) => [.par (eK s20), .dat (eI x_many), .dat (eI x_full), .dat ((eL eY) (v3 ++ v7)), .dat ((eL eN) v11), .dat ((eL eN) (isort leN v13.1)), .dat ((eL eN) s16.1), .dat (eI v15.1), .un, .un, .un]) [("_law_k", 10)] (fun (b19 : Int) => [(10, eI b19)]) G hv25 (it_R (n := ((isort leN v13.1).length : Int)) G (chk_of hu18) (v_lenL (f := eN) (l := (isort leN v13.1)) G (v_var 5))) (fun _ _ => Kd.of_map rfl) (fun s H C cl fp b19 hb => tg1 10 G.nd) (fun z H C cl fp b19 s20 p G hb h => by show EvD _ [.par (eK s20), .dat (eI x_many), .dat (eI x_full), .dat ((eL eY) (v3 ++ v7)), .dat ((eL eN) v11), .dat ((eL eN) (isort leN v13.1)), .dat ((eL eN) s16.1), .dat (eI v15.1), .un, .un, .dat (eI b19)] _ _ _; obtain ⟨v21, hv21, h⟩ := bnd h; obtain ⟨v22, hv22, h⟩ := bnd h; obtain ⟨v24, hv24, h⟩ := bnd h; obtain rfl := Option.some.inj h; exact EvD.castS ((v_pair (f := eN) (g := (eO eN)) (y := v21) (z := v24) (v_atL (f := eN) (l := (isort leN v13.1)) (y := v21) hv21 (v_var 5) (v_var 10)) (v_if (f := (eO eN)) (v := v24) (t_gt (i := v22.1) (j := (0 : Int)) (e_callO2 (d := eK s20) (d' := eK v22.2) c__law_take.blk rfl [] [eI (8 : Int)] (m_own (i := 0) rfl (by first | exact .inl rfl | exact .inr (.inl rfl)) rfl (m_dat e_int m_nil)) (.inr rfl) ⟨s20, (8 : Int), v22, hv22, rfl, rfl, rfl⟩ (by rfl)) e_int) (fun hc => by have h := cndT hv24 hc; obtain ⟨v23, hv23, h⟩ := bnd h; obtain rfl := Option.some.inj h; exact (v_atL (f := eN) (l := s16.1) (y := v23) hv23 (v_var 6) (v_var 10))) (fun hc => by have h := cndF hv24 hc; skip; obtain rfl := Option.some.inj h; exact e_non)))) rfl rfl)) ?_ (by first | exact sw_true | rfl))
    show SsD _ [.par (eK v25.2), .dat (eI x_many), .dat (eI x_full), .dat ((eL eY) (v3 ++ v7)), .dat ((eL eN) v11), .dat ((eL eN) (isort leN v13.1)), .dat ((eL eN) s16.1), .dat (eI v15.1), .own ((eL (eP eN (eO eN))) v25.1), .un, .un] _ _
    refine ss_freezeL 8 rfl ?_
    show SsD _ [.par (eK v25.2), .dat (eI x_many), .dat (eI x_full), .dat ((eL eY) (v3 ++ v7)), .dat ((eL eN) v11), .dat ((eL eN) (isort leN v13.1)), .dat ((eL eN) s16.1), .dat (eI v15.1), .dat ((eL (eP eN (eO eN))) v25.1), .un, .un] _ _
    obtain rfl := Option.some.inj h
    exact ss_cons (s_ret (v_pair (f := (eT eN)) (g := (eT (eP eN (eO eN)))) (y := v11) (z := v25.1) (v_tupL (f := eN) (l := v11) G (v_var 4)) (v_tupL (f := (eP eN (eO eN))) (l := v25.1) G (v_var 8))) ⟨rfl, (by first | exact trivial | exact ⟨rfl, trivial⟩)⟩)
theorem sc__law_bulk : FnScope ["_law_tin", "_law_task_here", "_law_wide", "_law_told_here", "_law_thick", "_law_spot", "_law_near", "_law_most"] ["_law_tin", "_law_task_here"] (defScope s__law_bulk) := ⟨rfl, rfl, rfl, by decide +kernel, rfl, by decide +kernel, by decide +kernel⟩
theorem can__law_bulk (F : Def1 K mg "_law_bulk" s__law_bulk) (fr : Fre mg) (c__law_take : Can P w K mg base "_law_take" ["_law_tin", "_law_top_so"] 1 T__law_take) : Can P w K mg base "_law_bulk" ["_law_tin", "_law_task_here"] 2 (T__law_bulk) := by
  refine can_of F sc__law_bulk (by decide) fr (fun f fd h => h.bindsN fun _ _ _ _ _ _ us hl => match us, hl with | [_, _], _ => rfl) ?_ ?_
  · rintro as r as' ⟨x_tin, x_task_here, y, h, rfl, rfl, rfl⟩
    refine ⟨rfl, rfl, fun i hi => ?_⟩
    match i, hi with
    | 0, hi => cases hi
    | 1, hi => exact ⟨rfl, rfl⟩
    | _ + 2, _ => exact ⟨rfl, rfl⟩
  · rintro f cdv A outer s0 H E as r as' hr G ⟨x_tin, x_task_here, y, h, rfl, rfl, rfl⟩
    replace c__law_take := c__law_take.cal (hr.mono (by omega)) (N := ["_law_tin", "_law_task_here", "_law_wide", "_law_told_here", "_law_thick", "_law_spot", "_law_near", "_law_most"]) (cdv := cdv) (outer := outer) (H := H) (E := E)
    show SsD _ [.par (eK x_tin), .dat ((eP (eT eN) (eT (eP eN (eO eN)))) x_task_here), .un, .un, .un, .un, .un, .un] _ _
    obtain ⟨v4, hv4, h⟩ := bnd h
    refine ss_cons (w_set 2 G (v_tupL (f := (eP eN eI)) (l := v4.1) G (((k_lcSD (g := eN) (fb := (eP eN eI)) (fun (s2 : (Int × Int × Int)) => [.par (eK s2), .dat ((eP (eT eN) (eT (eP eN (eO eN)))) x_task_here), .un, .un, .un, .un, .un, .un]) [("_law_spot", 5)] (fun (b1 : Nm) => [(5, eN b1)]) G hv4 (it_T (f := eN) (l := x_task_here.1) (v_fst (f := (eT eN)) (g := (eT (eP eN (eO eN)))) (y := x_task_here) (v_var 1))) (fun _ _ => Kd.of_map rfl) (fun s H C cl fp b1 hb => tg1 5 G.nd) (fun z H C cl fp b1 s2 p G hb h => by show EvD _ [.par (eK s2), .dat ((eP (eT eN) (eT (eP eN (eO eN)))) x_task_here), .un, .un, .un, .dat (eN b1), .un, .un] _ _ _; obtain ⟨v3, hv3, h⟩ := bnd h; obtain rfl := Option.some.inj h; exact EvD.castS ((v_pair (f := eN) (g := eI) (y := b1) (z := ((1 : Int) + v3.1)) (v_var 5) (e_add e_int (e_callO2 (d := eK s2) (d' := eK v3.2) c__law_take.blk rfl [] [eI (5 : Int)] (m_own (i := 0) rfl (by first | exact .inl rfl | exact .inr (.inl rfl)) rfl (m_dat e_int m_nil)) (.inr rfl) ⟨s2, (5 : Int), v3, hv3, rfl, rfl, rfl⟩ (by rfl))))) rfl rfl))).n G.calm G.nd).ev) ?_)
    show SsD _ [.par (eK v4.2), .dat ((eP (eT eN) (eT (eP eN (eO eN)))) x_task_here), .dat ((eT (eP eN eI)) v4.1), .un, .un, .un, .un, .un] _ _
    obtain ⟨v5, hv5, h⟩ := bnd h
    refine ss_cons (s_par (i := 3) (j := 4) G.calm G.nd rfl rfl (by decide) rfl rfl (x_dat (v_dictT (f := eI) (l := v4.1) (m := v5) G hv5 (v_var 2)) (x_new (n_lstV (f := (eP eN eI)) (l := ([] : List (Nm × Int))) rfl va_nil) x_nil)) ?_ rfl)
    show SsD _ [.par (eK v4.2), .dat ((eP (eT eN) (eT (eP eN (eO eN)))) x_task_here), .dat ((eT (eP eN eI)) v4.1), .dat ((eM eI) v5), .own ((eL (eP eN eI)) ([] : List (Nm × Int))), .un, .un, .un] _ _
    obtain ⟨o16, ho16, h⟩ := bnd h
    refine ss_cons (k_forS (g := (eP eN (eO eN))) (fun (s6 : (List (Nm × Int)) × (Int × Int × Int)) => [.par (eK s6.2), .dat ((eP (eT eN) (eT (eP eN (eO eN)))) x_task_here), .dat ((eT (eP eN eI)) v4.1), .dat ((eM eI) v5), .own ((eL (eP eN eI)) s6.1), .un, .un, .un]) (fun (b7 : (Nm × (Option Nm))) => [(5, eN b7.1), (6, (eO eN) b7.2)]) G PassesOwn.never ho16 (it_T (f := (eP eN (eO eN))) (l := x_task_here.2) (v_snd (f := (eT eN)) (g := (eT (eP eN (eO eN)))) (y := x_task_here) (v_var 1))) (fun b7 hb => tg2 5 6 G.calm G.nd) (fun s6 b7 t hb h => ?_) ?_)
    · show SsD _ [.par (eK s6.2), .dat ((eP (eT eN) (eT (eP eN (eO eN)))) x_task_here), .dat ((eT (eP eN eI)) v4.1), .dat ((eM eI) v5), .own ((eL (eP eN eI)) s6.1), .dat (eN b7.1), .dat ((eO eN) b7.2), .un] _ _
      obtain ⟨v11, hv11, h⟩ := bnd h
      refine ss_cons (w_set 7 G (v_if (f := eI) (v := v11) (vt_isN (f := eN) (y := b7.2) (v_var 6)) (fun hc => by have h := cndT hv11 hc; obtain ⟨v8, hv8, h⟩ := bnd h; obtain rfl := Option.some.inj h; exact (v_lk (f := eI) (l := v5) (k := b7.1) (y := v8) G hv8 (v_var 3) (v_var 5))) (fun hc => by have h := cndF hv11 hc; obtain ⟨v9, hv9, h⟩ := bnd h; obtain ⟨v10, hv10, h⟩ := bnd h; obtain rfl := Option.some.inj h; exact (v_min2 (i := v9) (j := v10) G (v_lk (f := eI) (l := v5) (k := b7.1) (y := v9) G hv9 (v_var 3) (v_var 5)) (v_lkO (f := eI) (l := v5) (k := b7.2) (y := v10) G hv10 (v_var 3) (v_var 6))))) ?_)
      show SsD _ [.par (eK s6.2), .dat ((eP (eT eN) (eT (eP eN (eO eN)))) x_task_here), .dat ((eT (eP eN eI)) v4.1), .dat ((eM eI) v5), .own ((eL (eP eN eI)) s6.1), .dat (eN b7.1), .dat ((eO eN) b7.2), .dat (eI v11)] _ _
      obtain ⟨v12, hv12, h⟩ := bnd h
      obtain ⟨v13, hv13, h⟩ := bnd h
      obtain ⟨u14, hu14, h⟩ := bnd h
      obtain ⟨u15, hu15, h⟩ := bnd h
      refine ss_cons (s_expr (v_app (f := (eP eN eI)) (l := s6.1) (y := (b7.1, (v11 - (v12.1 * v13.1)))) 4 (v_pair (f := eN) (g := eI) (y := b7.1) (z := (v11 - (v12.1 * v13.1))) (v_var 5) (e_sub (v_var 7) (v_mul (i := v12.1) (j := v13.1) (chk_of hu14) (e_callO (d := eK s6.2) (d' := eK v12.2) c__law_take rfl [] [eI (2 : Int)] (m_own (i := 0) rfl (by first | exact .inl rfl | exact .inr (.inl rfl)) rfl (m_dat e_int m_nil)) (.inr rfl) ⟨s6.2, (2 : Int), v12, hv12, rfl, rfl, rfl⟩) (e_callO (d := eK v12.2) (d' := eK v13.2) c__law_take rfl [] [eI v11] (m_own (i := 0) rfl (by first | exact .inl rfl | exact .inr (.inl rfl)) rfl (m_dat (v_var 7) m_nil)) (.inr rfl) ⟨v12.2, v11, v13, hv13, rfl, rfl, rfl⟩)))) (.inl rfl) (chk_of hu15) ⟨_, .inl rfl⟩) ?_)
      show SsD _ [.par (eK v13.2), .dat ((eP (eT eN) (eT (eP eN (eO eN)))) x_task_here), .dat ((eT (eP eN eI)) v4.1), .dat ((eM eI) v5), .own ((eL (eP eN eI)) (s6.1 ++ [(b7.1, (v11 - (v12.1 * v13.1)))])), .dat (eN b7.1), .dat ((eO eN) b7.2), .dat (eI v11)] _ _
      refine ss_forget 5 ?_
      refine ss_forget 6 ?_
      refine ss_forget 7 ?_
      obtain rfl := Option.some.inj h
      exact ss_nil rfl
    show SsD _ [.par (eK o16.2), .dat ((eP (eT eN) (eT (eP eN (eO eN)))) x_task_here), .dat ((eT (eP eN eI)) v4.1), .dat ((eM eI) v5), .own ((eL (eP eN eI)) o16.1), .un, .un, .un] _ _
    refine ss_freezeL 4 rfl ?_
    show SsD _ [.par (eK o16.2), .dat ((eP (eT eN) (eT (eP eN (eO eN)))) x_task_here), .dat ((eT (eP eN eI)) v4.1), .dat ((eM eI) v5), .dat ((eL (eP eN eI)) o16.1), .un, .un, .un] _ _
    obtain rfl := Option.some.inj h
    exact ss_cons (s_ret (v_pair (f := (eT (eP eN eI))) (g := (eT (eP eN eI))) (y := v4.1) (z := o16.1) (v_var 2) (v_tupL (f := (eP eN eI)) (l := o16.1) G (v_var 4))) ⟨rfl, (by first | exact trivial | exact ⟨rfl, trivial⟩)⟩)
end
end ND

/-! G1 -/
set_option Elab.async false
set_option linter.all false
set_option maxRecDepth 100000
set_option maxHeartbeats 4000000
namespace ND
open PySem PySem.Spec PyProof.Rows L2 NA
section
variable {P : Program} {w : World} {K : PySem.W.Frag} {mg : Str → Option Value} {base : Heap}

def m_goal_of (x_job : ((List Nm) × (List (Nm × (Option Nm))))) : Option (List (Nm × (Option Nm))) :=
  (mkD (x_job.2.map fun (b1 : (Nm × (Option Nm))) => (b1.1, b1.2))).bind fun v2 =>
  some v2
def T_goal_of : FT := fun as r as' => ∃ (x_job : ((List Nm) × (List (Nm × (Option Nm))))) (y : (List (Nm × (Option Nm)))), m_goal_of x_job = some y ∧ as = [.dat ((eP (eT eN) (eT (eP eN (eO eN)))) x_job)] ∧ r = (eM (eO eN)) y ∧ as' = as
def m_boxes (x_job : ((List Nm) × (List (Nm × (Option Nm))))) : Option (List Nm) :=
  (cmpM (fun _ => some true) (fun (b1 : (Nm × (Option Nm))) => some b1.1) x_job.2).bind fun v2 =>
  some v2
def T_boxes : FT := fun as r as' => ∃ (x_job : ((List Nm) × (List (Nm × (Option Nm))))) (y : (List Nm)), m_boxes x_job = some y ∧ as = [.dat ((eP (eT eN) (eT (eP eN (eO eN)))) x_job)] ∧ r = (eT eN) y ∧ as' = as
def m_free_places (x_job : ((List Nm) × (List (Nm × (Option Nm))))) : Option (List Nm) :=
  (cmpM (fun _ => some true) (fun (b1 : (Nm × (Option Nm))) => some b1.1) x_job.2).bind fun v2 =>
  (cmpM (fun (b4 : Nm) => some (!(cont v2 b4))) (fun (b4 : Nm) => some b4) x_job.1).bind fun v5 =>
  some v5
def T_free_places : FT := fun as r as' => ∃ (x_job : ((List Nm) × (List (Nm × (Option Nm))))) (y : (List Nm)), m_free_places x_job = some y ∧ as = [.dat ((eP (eT eN) (eT (eP eN (eO eN)))) x_job)] ∧ r = (eT eN) y ∧ as' = as
def m_staying (x_job : ((List Nm) × (List (Nm × (Option Nm))))) : Option (List Nm) :=
  (cmpM (fun (b1 : (Nm × (Option Nm))) => some (decide ((some b1.1) = b1.2))) (fun (b1 : (Nm × (Option Nm))) => some b1.1) x_job.2).bind fun v2 =>
  some v2
def T_staying : FT := fun as r as' => ∃ (x_job : ((List Nm) × (List (Nm × (Option Nm))))) (y : (List Nm)), m_staying x_job = some y ∧ as = [.dat ((eP (eT eN) (eT (eP eN (eO eN)))) x_job)] ∧ r = (eT eN) y ∧ as' = as
def m_thrown (x_job : ((List Nm) × (List (Nm × (Option Nm))))) : Option (List Nm) :=
  (cmpM (fun (b1 : (Nm × (Option Nm))) => some b1.2.isNone) (fun (b1 : (Nm × (Option Nm))) => some b1.1) x_job.2).bind fun v2 =>
  some v2
def T_thrown : FT := fun as r as' => ∃ (x_job : ((List Nm) × (List (Nm × (Option Nm))))) (y : (List Nm)), m_thrown x_job = some y ∧ as = [.dat ((eP (eT eN) (eT (eP eN (eO eN)))) x_job)] ∧ r = (eT eN) y ∧ as' = as
theorem sc_goal_of : FnScope ["job", "place", "other"] ["job"] (defScope s_goal_of) := ⟨rfl, rfl, rfl, by decide +kernel, rfl, by decide +kernel, by decide +kernel⟩
theorem can_goal_of (F : Def1 K mg "goal_of" s_goal_of) (fr : Fre mg) (c_tupled : Can P w K mg base "tupled" ["thing"] 4 T_tupled) : Can P w K mg base "goal_of" ["job"] 5 (T_goal_of) := by
  refine can_of F sc_goal_of (by decide) fr (fun f fd h => h.bindsN fun _ _ _ _ _ _ us hl => match us, hl with | [_], _ => rfl) ?_ ?_
  · rintro as r as' ⟨x_job, y, h, rfl, rfl, rfl⟩
    exact shp_dat [(eP (eT eN) (eT (eP eN (eO eN)))) x_job] rfl rfl rfl
  · rintro f cdv A outer s0 H E as r as' hr G ⟨x_job, y, h, rfl, rfl, rfl⟩
    replace c_tupled := c_tupled.cal (hr.mono (by omega)) (N := ["job", "place", "other"]) (cdv := cdv) (outer := outer) (H := H) (E := E)
    show SsD _ [.dat ((eP (eT eN) (eT (eP eN (eO eN)))) x_job), .un, .un] _ _
    obtain ⟨v2, hv2, h⟩ := bnd h
    obtain rfl := Option.some.inj h
    exact ss_cons (s_ret (k_dc (gg := (eP eN (eO eN))) (f := (eO eN)) (kf := (fun (b1 : (Nm × (Option Nm))) => b1.1)) (h := (fun (b1 : (Nm × (Option Nm))) => b1.2)) [("place", 1), ("other", 2)] (fun (b1 : (Nm × (Option Nm))) => [(1, eN b1.1), (2, (eO eN) b1.2)]) G hv2 (it_T (f := (eP eN (eO eN))) (l := x_job.2) (v_snd (f := (eT eN)) (g := (eT (eP eN (eO eN)))) (y := x_job) (e_call c_tupled rfl (a_cons (v_var 0) a_nil) (tupT (eP (eT eN) (eT (eP eN (eO eN)))) x_job)))) (fun s H C cl fp b1 hb => tg2 1 2 G.calm G.nd) (fun z H C cl fp b1 G hb => by show EvD _ [.dat ((eP (eT eN) (eT (eP eN (eO eN)))) x_job), .dat (eN b1.1), .dat ((eO eN) b1.2)] _ _ [.dat ((eP (eT eN) (eT (eP eN (eO eN)))) x_job), .dat (eN b1.1), .dat ((eO eN) b1.2)]; exact (v_var 1)) (fun z H C cl fp b1 G hb => by show EvD _ [.dat ((eP (eT eN) (eT (eP eN (eO eN)))) x_job), .dat (eN b1.1), .dat ((eO eN) b1.2)] _ _ [.dat ((eP (eT eN) (eT (eP eN (eO eN)))) x_job), .dat (eN b1.1), .dat ((eO eN) b1.2)]; exact (v_var 2))) ⟨rfl, (by first | exact trivial | exact ⟨rfl, trivial⟩)⟩)
theorem sc_boxes : FnScope ["job", "place", "other"] ["job"] (defScope s_boxes) := ⟨rfl, rfl, rfl, by decide +kernel, rfl, by decide +kernel, by decide +kernel⟩
theorem can_boxes (F : Def1 K mg "boxes" s_boxes) (fr : Fre mg) (c_tupled : Can P w K mg base "tupled" ["thing"] 4 T_tupled) : Can P w K mg base "boxes" ["job"] 5 (T_boxes) := by
  refine can_of F sc_boxes (by decide) fr (fun f fd h => h.bindsN fun _ _ _ _ _ _ us hl => match us, hl with | [_], _ => rfl) ?_ ?_
  · rintro as r as' ⟨x_job, y, h, rfl, rfl, rfl⟩
    exact shp_dat [(eP (eT eN) (eT (eP eN (eO eN)))) x_job] rfl rfl rfl
  · rintro f cdv A outer s0 H E as r as' hr G ⟨x_job, y, h, rfl, rfl, rfl⟩
    replace c_tupled := c_tupled.cal (hr.mono (by omega)) (N := ["job", "place", "other"]) (cdv := cdv) (outer := outer) (H := H) (E := E)
    show SsD _ [.dat ((eP (eT eN) (eT (eP eN (eO eN)))) x_job), .un, .un] _ _
    obtain ⟨v2, hv2, h⟩ := bnd h
    obtain rfl := Option.some.inj h
    exact ss_cons (s_ret (v_tupL (f := eN) (l := v2) G (((k_lcD (g := (eP eN (eO eN))) (f := eN) [("place", 1), ("other", 2)] (fun (b1 : (Nm × (Option Nm))) => [(1, eN b1.1), (2, (eO eN) b1.2)]) G hv2 ((it_T (f := (eP eN (eO eN))) (l := x_job.2) (v_snd (f := (eT eN)) (g := (eT (eP eN (eO eN)))) (y := x_job) (e_call c_tupled rfl (a_cons (v_var 0) a_nil) (tupT (eP (eT eN) (eT (eP eN (eO eN)))) x_job))))).l (.inl rfl) (fun s H C cl fp b1 hb => tg2 1 2 G.calm G.nd) (fun z H C cl fp b1 y3 G hb h => by show EvD _ [.dat ((eP (eT eN) (eT (eP eN (eO eN)))) x_job), .dat (eN b1.1), .dat ((eO eN) b1.2)] _ _ [.dat ((eP (eT eN) (eT (eP eN (eO eN)))) x_job), .dat (eN b1.1), .dat ((eO eN) b1.2)]; obtain rfl := Option.some.inj h; exact (v_var 1)))).n G.calm G.nd).ev) ⟨rfl, (by first | exact trivial | exact ⟨rfl, trivial⟩)⟩)
theorem sc_free_places : FnScope ["job", "places", "goal", "full", "place", "other"] ["job"] (defScope s_free_places) := ⟨rfl, rfl, rfl, by decide +kernel, rfl, by decide +kernel, by decide +kernel⟩
theorem can_free_places (F : Def1 K mg "free_places" s_free_places) (fr : Fre mg) (c_tupled : Can P w K mg base "tupled" ["thing"] 4 T_tupled) : Can P w K mg base "free_places" ["job"] 5 (T_free_places) := by
  refine can_of F sc_free_places (by decide) fr (fun f fd h => h.bindsN fun _ _ _ _ _ _ us hl => match us, hl with | [_], _ => rfl) ?_ ?_
  · rintro as r as' ⟨x_job, y, h, rfl, rfl, rfl⟩
    exact shp_dat [(eP (eT eN) (eT (eP eN (eO eN)))) x_job] rfl rfl rfl
  · rintro f cdv A outer s0 H E as r as' hr G ⟨x_job, y, h, rfl, rfl, rfl⟩
    replace c_tupled := c_tupled.cal (hr.mono (by omega)) (N := ["job", "places", "goal", "full", "place", "other"]) (cdv := cdv) (outer := outer) (H := H) (E := E)
    show SsD _ [.dat ((eP (eT eN) (eT (eP eN (eO eN)))) x_job), .un, .un, .un, .un, .un] _ _
    refine ss_cons (s_asg (d := (eP (eT eN) (eT (eP eN (eO eN)))) x_job) (ps := [(1, (eT eN) x_job.1), (2, (eT (eP eN (eO eN))) x_job.2)]) (e_call c_tupled rfl (a_cons (v_var 0) a_nil) (tupT (eP (eT eN) (eT (eP eN (eO eN)))) x_job)) (tg2 1 2 G.calm G.nd) ?_ (by intro z hz; simp at hz; rcases hz with rfl | rfl <;> rfl))
    show SsD _ [.dat ((eP (eT eN) (eT (eP eN (eO eN)))) x_job), .dat ((eT eN) x_job.1), .dat ((eT (eP eN (eO eN))) x_job.2), .un, .un, .un] _ _
    obtain ⟨v2, hv2, h⟩ := bnd h
    refine ss_cons (w_set 3 G (((k_lcD (g := (eP eN (eO eN))) (f := eN) [("place", 4), ("other", 5)] (fun (b1 : (Nm × (Option Nm))) => [(4, eN b1.1), (5, (eO eN) b1.2)]) G hv2 ((it_T (f := (eP eN (eO eN))) (l := x_job.2) (v_var 2))).l (.inl rfl) (fun s H C cl fp b1 hb => tg2 4 5 G.calm G.nd) (fun z H C cl fp b1 y3 G hb h => by show EvD _ [.dat ((eP (eT eN) (eT (eP eN (eO eN)))) x_job), .dat ((eT eN) x_job.1), .dat ((eT (eP eN (eO eN))) x_job.2), .un, .dat (eN b1.1), .dat ((eO eN) b1.2)] _ _ [.dat ((eP (eT eN) (eT (eP eN (eO eN)))) x_job), .dat ((eT eN) x_job.1), .dat ((eT (eP eN (eO eN))) x_job.2), .un, .dat (eN b1.1), .dat ((eO eN) b1.2)]; obtain rfl := Option.some.inj h; exact (v_var 4)))).n G.calm G.nd).ev ?_)
    show SsD _ [.dat ((eP (eT eN) (eT (eP eN (eO eN)))) x_job), .dat ((eT eN) x_job.1), .dat ((eT (eP eN (eO eN))) x_job.2), .dat ((eL eN) v2), .un, .un] _ _
    obtain ⟨v5, hv5, h⟩ := bnd h
    obtain rfl := Option.some.inj h
    exact ss_cons (s_ret (v_tupL (f := eN) (l := v5) G (((k_lcTD (g := eN) (f := eN) [("place", 4)] (fun (b4 : Nm) => [(4, eN b4)]) G hv5 ((it_T (f := eN) (l := x_job.1) (v_var 1))).l (.inl rfl) (fun s H C cl fp b4 hb => tg1 4 G.nd) (fun z H C cl fp b4 y6 G hb h => by show TvD _ [.dat ((eP (eT eN) (eT (eP eN (eO eN)))) x_job), .dat ((eT eN) x_job.1), .dat ((eT (eP eN (eO eN))) x_job.2), .dat ((eL eN) v2), .dat (eN b4), .un] _ _ [.dat ((eP (eT eN) (eT (eP eN (eO eN)))) x_job), .dat ((eT eN) x_job.1), .dat ((eT (eP eN (eO eN))) x_job.2), .dat ((eL eN) v2), .dat (eN b4), .un]; obtain rfl := Option.some.inj h; exact (vt_ninL (f := eN) (l := v2) (y := b4) G (v_var 4) (v_var 3))) (fun z H C cl fp b4 y6 G hb _ h => by show EvD _ [.dat ((eP (eT eN) (eT (eP eN (eO eN)))) x_job), .dat ((eT eN) x_job.1), .dat ((eT (eP eN (eO eN))) x_job.2), .dat ((eL eN) v2), .dat (eN b4), .un] _ _ [.dat ((eP (eT eN) (eT (eP eN (eO eN)))) x_job), .dat ((eT eN) x_job.1), .dat ((eT (eP eN (eO eN))) x_job.2), .dat ((eL eN) v2), .dat (eN b4), .un]; obtain rfl := Option.some.inj h; exact (v_var 4)))).n G.calm G.nd).ev) ⟨rfl, (by first | exact trivial | exact ⟨rfl, trivial⟩)⟩)
theorem sc_staying : FnScope ["job", "place", "other"] ["job"] (defScope s_staying) := ⟨rfl, rfl, rfl, by decide +kernel, rfl, by decide +kernel, by decide +kernel⟩
theorem can_staying (F : Def1 K mg "staying" s_staying) (fr : Fre mg) (c_tupled : Can P w K mg base "tupled" ["thing"] 4 T_tupled) : Can P w K mg base "staying" ["job"] 5 (T_staying) := by
  refine can_of F sc_staying (by decide) fr (fun f fd h => h.bindsN fun _ _ _ _ _ _ us hl => match us, hl with | [_], _ => rfl) ?_ ?_
  · rintro as r as' ⟨x_job, y, h, rfl, rfl, rfl⟩
    exact shp_dat [(eP (eT eN) (eT (eP eN (eO eN)))) x_job] rfl rfl rfl
  · rintro f cdv A outer s0 H E as r as' hr G ⟨x_job, y, h, rfl, rfl, rfl⟩
    replace c_tupled := c_tupled.cal (hr.mono (by omega)) (N := ["job", "place", "other"]) (cdv := cdv) (outer := outer) (H := H) (E := E)
    show SsD _ [.dat ((eP (eT eN) (eT (eP eN (eO eN)))) x_job), .un, .un] _ _
    obtain ⟨v2, hv2, h⟩ := bnd h
    obtain rfl := Option.some.inj h
    exact ss_cons (s_ret (v_tupL (f := eN) (l := v2) G (((k_lcTD (g := (eP eN (eO eN))) (f := eN) [("place", 1), ("other", 2)] (fun (b1 : (Nm × (Option Nm))) => [(1, eN b1.1), (2, (eO eN) b1.2)]) G hv2 ((it_T (f := (eP eN (eO eN))) (l := x_job.2) (v_snd (f := (eT eN)) (g := (eT (eP eN (eO eN)))) (y := x_job) (e_call c_tupled rfl (a_cons (v_var 0) a_nil) (tupT (eP (eT eN) (eT (eP eN (eO eN)))) x_job))))).l (.inl rfl) (fun s H C cl fp b1 hb => tg2 1 2 G.calm G.nd) (fun z H C cl fp b1 y3 G hb h => by show TvD _ [.dat ((eP (eT eN) (eT (eP eN (eO eN)))) x_job), .dat (eN b1.1), .dat ((eO eN) b1.2)] _ _ [.dat ((eP (eT eN) (eT (eP eN (eO eN)))) x_job), .dat (eN b1.1), .dat ((eO eN) b1.2)]; obtain rfl := Option.some.inj h; exact (vt_eq (f := (eO eN)) (y := (some b1.1)) (z := b1.2) G (v_var 1) (v_var 2))) (fun z H C cl fp b1 y3 G hb _ h => by show EvD _ [.dat ((eP (eT eN) (eT (eP eN (eO eN)))) x_job), .dat (eN b1.1), .dat ((eO eN) b1.2)] _ _ [.dat ((eP (eT eN) (eT (eP eN (eO eN)))) x_job), .dat (eN b1.1), .dat ((eO eN) b1.2)]; obtain rfl := Option.some.inj h; exact (v_var 1)))).n G.calm G.nd).ev) ⟨rfl, (by first | exact trivial | exact ⟨rfl, trivial⟩)⟩)
theorem sc_thrown : FnScope ["job", "place", "other"] ["job"] (defScope s_thrown) := ⟨rfl, rfl, rfl, by decide +kernel, rfl, by decide +kernel, by decide +kernel⟩
theorem can_thrown (F : Def1 K mg "thrown" s_thrown) (fr : Fre mg) (c_tupled : Can P w K mg base "tupled" ["thing"] 4 T_tupled) : Can P w K mg base "thrown" ["job"] 5 (T_thrown) := by
  refine can_of F sc_thrown (by decide) fr (fun f fd h => h.bindsN fun _ _ _ _ _ _ us hl => match us, hl with | [_], _ => rfl) ?_ ?_
  · rintro as r as' ⟨x_job, y, h, rfl, rfl, rfl⟩
    exact shp_dat [(eP (eT eN) (eT (eP eN (eO eN)))) x_job] rfl rfl rfl
  · rintro f cdv A outer s0 H E as r as' hr G ⟨x_job, y, h, rfl, rfl, rfl⟩
    replace c_tupled := c_tupled.cal (hr.mono (by omega)) (N := ["job", "place", "other"]) (cdv := cdv) (outer := outer) (H := H) (E := E)
    show SsD _ [.dat ((eP (eT eN) (eT (eP eN (eO eN)))) x_job), .un, .un] _ _
    obtain ⟨v2, hv2, h⟩ := bnd h
    obtain rfl := Option.some.inj h
    exact ss_cons (s_ret (v_tupL (f := eN) (l := v2) G (((k_lcTD (g := (eP eN (eO eN))) (f := eN) [("place", 1), ("other", 2)] (fun (b1 : (Nm × (Option Nm))) => [(1, eN b1.1), (2, (eO eN) b1.2)]) G hv2 ((it_T (f := (eP eN (eO eN))) (l := x_job.2) (v_snd (f := (eT eN)) (g := (eT (eP eN (eO eN)))) (y := x_job) (e_call c_tupled rfl (a_cons (v_var 0) a_nil) (tupT (eP (eT eN) (eT (eP eN (eO eN)))) x_job))))).l (.inl rfl) (fun s H C cl fp b1 hb => tg2 1 2 G.calm G.nd) (fun z H C cl fp b1 y3 G hb h => by show TvD _ [.dat ((eP (eT eN) (eT (eP eN (eO eN)))) x_job), .dat (eN b1.1), .dat ((eO eN) b1.2)] _ _ [.dat ((eP (eT eN) (eT (eP eN (eO eN)))) x_job), .dat (eN b1.1), .dat ((eO eN) b1.2)]; obtain rfl := Option.some.inj h; exact (vt_isN (f := eN) (y := b1.2) (v_var 2))) (fun z H C cl fp b1 y3 G hb _ h => by show EvD _ [.dat ((eP (eT eN) (eT (eP eN (eO eN)))) x_job), .dat (eN b1.1), .dat ((eO eN) b1.2)] _ _ [.dat ((eP (eT eN) (eT (eP eN (eO eN)))) x_job), .dat (eN b1.1), .dat ((eO eN) b1.2)]; obtain rfl := Option.some.inj h; exact (v_var 1)))).n G.calm G.nd).ev) ⟨rfl, (by first | exact trivial | exact ⟨rfl, trivial⟩)⟩)
end
end ND

/-! G2 -/
set_option Elab.async false
set_option linter.all false
set_option maxRecDepth 100000
set_option maxHeartbeats 4000000
namespace ND
open PySem PySem.Spec PyProof.Rows L2 NA
section
variable {P : Program} {w : World} {K : PySem.W.Frag} {mg : Str → Option Value} {base : Heap}

def m_row_from (x_goal : (List (Nm × (Option Nm)))) (x_box : Nm) : Option (List Nm) :=
  (whileS (fun (s1 : (List Nm)) => (at' s1 (-(1 : Int))).bind fun v2 =>
  (lk x_goal v2).bind fun v3 =>
  (bif (hasO x_goal v3) then ((at' s1 (-(1 : Int))).bind fun v4 =>
  (lk x_goal v4).bind fun v5 =>
  some (!decide (v5 = (some x_box)))) else some true).bind fun v6 =>
  some ((hasO x_goal v3) && v6)) (fun (s1 : (List Nm)) => (at' s1 (-(1 : Int))).bind fun v7 =>
  (lk x_goal v7).bind fun v8 =>
  (v8).bind fun v9 =>
  (chk (decide (s1.length < 2000))).bind fun u10 =>
  some (s1 ++ [v9])) 40 (x_box :: ([] : List Nm))).bind fun o11 =>
  some o11
def T_row_from : FT := fun as r as' => ∃ (x_goal : (List (Nm × (Option Nm)))) (x_box : Nm) (y : (List Nm)), m_row_from x_goal x_box = some y ∧ as = [.dat ((eM (eO eN)) x_goal), .dat (eN x_box)] ∧ r = (eL eN) y ∧ as' = as
def m_row_from_safe (x_goal : (List (Nm × (Option Nm)))) (x_box : Nm) : Option (Option (List Nm)) :=
  (whileM (R := (Option (List Nm))) (fun (s1 : (List Nm)) => (at' s1 (-(1 : Int))).bind fun v2 =>
  (lk x_goal v2).bind fun v3 =>
  some (!decide (v3 = (some x_box)))) (fun (s1 : (List Nm)) => (at' s1 (-(1 : Int))).bind fun v4 =>
  (lk x_goal v4).bind fun v5 =>
  bif (!(hasO x_goal v5)) then (some (.inr none)) else ((at' s1 (-(1 : Int))).bind fun v6 =>
  (lk x_goal v6).bind fun v7 =>
  (v7).bind fun v8 =>
  (chk (decide (s1.length < 2000))).bind fun u9 =>
  some (.inl (s1 ++ [v8])))) 40 (x_box :: ([] : List Nm))).bind fun o10 => match o10 with
  | .inl s1 => (some (some s1))
  | .inr r => some r
def T_row_from_safe : FT := fun as r as' => ∃ (x_goal : (List (Nm × (Option Nm)))) (x_box : Nm) (y : (Option (List Nm))), m_row_from_safe x_goal x_box = some y ∧ as = [.dat ((eM (eO eN)) x_goal), .dat (eN x_box)] ∧ r = (eO (eL eN)) y ∧ as' = as
def m_rings (x_job : ((List Nm) × (List (Nm × (Option Nm))))) : Option (List (List Nm)) :=
  (m_goal_of x_job).bind fun v1 =>
  (chk (decide (v1.length < 64))).bind fun u2 =>
  (forS (fun (s3 : (List (List Nm))) (b4 : Nm) => (m_row_from_safe v1 b4).bind fun v5 =>
  (bif (!v5.isNone) then ((v5).bind fun v6 =>
  (bif (decide ((1 : Int) < (v6.length : Int))) then ((v5).bind fun v7 =>
  (mnL leN v7).bind fun v8 =>
  some (decide (b4 = v8))) else some true).bind fun v9 =>
  some ((decide ((1 : Int) < (v6.length : Int))) && v9)) else some true).bind fun v10 =>
  (bif ((!v5.isNone) && v10) then ((v5).bind fun v12 =>
  (chk (decide (s3.length < 2000))).bind fun u13 =>
  some (s3 ++ [v12])) else (some s3)).bind fun s11 =>
  some s11) (isort leN (v1.map (·.1))) ([] : List (List Nm))).bind fun o14 =>
  some o14
def T_rings : FT := fun as r as' => ∃ (x_job : ((List Nm) × (List (Nm × (Option Nm))))) (y : (List (List Nm))), m_rings x_job = some y ∧ as = [.dat ((eP (eT eN) (eT (eP eN (eO eN)))) x_job)] ∧ r = (eT (eT eN)) y ∧ as' = as
def m_chains (x_job : ((List Nm) × (List (Nm × (Option Nm))))) : Option (List (List Nm)) :=
  (m_goal_of x_job).bind fun v1 =>
  (cmpM (fun (b2 : (Option Nm)) => some (!b2.isNone)) (fun (b2 : (Option Nm)) => (b2).bind fun v3 =>
  some v3) (v1.map (·.2))).bind fun v4 =>
  (m_set_of v4).bind fun v6 =>
  (chk (decide (v1.length < 64))).bind fun u7 =>
  (forS (fun (s8 : (List (List Nm))) (b9 : Nm) => (bif (!(cont v6 b9)) then ((m_row_from v1 b9).bind fun v11 =>
  (chk (decide (s8.length < 2000))).bind fun u12 =>
  some (s8 ++ [v11])) else (some s8)).bind fun s10 =>
  some s10) (isort leN (v1.map (·.1))) ([] : List (List Nm))).bind fun o13 =>
  some o13
def T_chains : FT := fun as r as' => ∃ (x_job : ((List Nm) × (List (Nm × (Option Nm))))) (y : (List (List Nm))), m_chains x_job = some y ∧ as = [.dat ((eP (eT eN) (eT (eP eN (eO eN)))) x_job)] ∧ r = (eT (eT eN)) y ∧ as' = as
def m_first_stand (x_job : ((List Nm) × (List (Nm × (Option Nm))))) : Option (List (Nm × Nm)) :=
  (m_boxes x_job).bind fun v1 =>
  (cmpM (fun _ => some true) (fun (b2 : Nm) => some (b2, b2)) v1).bind fun v3 =>
  some v3
def T_first_stand : FT := fun as r as' => ∃ (x_job : ((List Nm) × (List (Nm × (Option Nm))))) (y : (List (Nm × Nm))), m_first_stand x_job = some y ∧ as = [.dat ((eP (eT eN) (eT (eP eN (eO eN)))) x_job)] ∧ r = (eT (eP eN eN)) y ∧ as' = as
def m_is_end (x_job : ((List Nm) × (List (Nm × (Option Nm))))) (x_stand : (List (Nm × Nm))) : Option Bool :=
  (m_goal_of x_job).bind fun v1 =>
  (cmpM (fun (b2 : (Nm × (Option Nm))) => some (!b2.2.isNone)) (fun (b2 : (Nm × (Option Nm))) => (b2.2).bind fun v3 =>
  some (v3, b2.1)) v1).bind fun v4 =>
  some (decide ((isort lePN x_stand) = (isort lePN v4)))
def T_is_end : FT := fun as r as' => ∃ (x_job : ((List Nm) × (List (Nm × (Option Nm))))) (x_stand : (List (Nm × Nm))) (y : Bool), m_is_end x_job x_stand = some y ∧ as = [.dat ((eP (eT eN) (eT (eP eN (eO eN)))) x_job), .dat ((eT (eP eN eN)) x_stand)] ∧ r = eB y ∧ as' = as
theorem sc_row_from : FnScope ["goal", "box", "row"] ["goal", "box"] (defScope s_row_from) := ⟨rfl, rfl, rfl, by decide +kernel, rfl, by decide +kernel, by decide +kernel⟩
theorem can_row_from (F : Def1 K mg "row_from" s_row_from) (fr : Fre mg) : Can P w K mg base "row_from" ["goal", "box"] 1 (T_row_from) := by
  refine can_of F sc_row_from (by decide) fr (fun f fd h => h.bindsN fun _ _ _ _ _ _ us hl => match us, hl with | [_, _], _ => rfl) ?_ ?_
  · rintro as r as' ⟨x_goal, x_box, y, h, rfl, rfl, rfl⟩
    exact shp_dat [(eM (eO eN)) x_goal, eN x_box] rfl rfl rfl
  · rintro f cdv A outer s0 H E as r as' hr G ⟨x_goal, x_box, y, h, rfl, rfl, rfl⟩
    show SsD _ [.dat ((eM (eO eN)) x_goal), .dat (eN x_box), .un] _ _
    refine ss_cons (s_setN (i := 2) G.nd rfl (by first | exact .inl rfl | exact .inr rfl) (n_lstV (f := eN) (l := (x_box :: ([] : List Nm))) rfl (va_cons (f := eN) (y := x_box) (v_var 1) va_nil)) ?_)
    show SsD _ [.dat ((eM (eO eN)) x_goal), .dat (eN x_box), .own ((eL eN) (x_box :: ([] : List Nm)))] _ _
    obtain ⟨o11, ho11, h⟩ := bnd h
    refine ss_cons (k_whileS (s0 := (x_box :: ([] : List Nm))) (fun (s1 : (List Nm)) => [.dat ((eM (eO eN)) x_goal), .dat (eN x_box), .own ((eL eN) s1)]) PassesOwn.never ho11 (fun s1 b h => ?_) (fun s1 t hc h => ?_) ?_)
    · show TvD _ [.dat ((eM (eO eN)) x_goal), .dat (eN x_box), .own ((eL eN) s1)] _ _ [.dat ((eM (eO eN)) x_goal), .dat (eN x_box), .own ((eL eN) s1)]
      obtain ⟨v2, hv2, h⟩ := bnd h
      obtain ⟨v3, hv3, h⟩ := bnd h
      obtain ⟨v6, hv6, h⟩ := bnd h
      obtain rfl := Option.some.inj h
      exact (t_w (w_and (p := (hasO x_goal v3)) (q := v6) (vt_dinO (f := (eO eN)) (l := x_goal) (k := v3) G (v_lk (f := (eO eN)) (l := x_goal) (k := v2) (y := v3) G hv3 (v_var 0) (v_atO (f := eN) (l := s1) (y := v2) 2 hv2 (.inl rfl) (e_neg e_int))) (v_var 0)) (fun hc => by have h := cndT hv6 hc; obtain ⟨v4, hv4, h⟩ := bnd h; obtain ⟨v5, hv5, h⟩ := bnd h; obtain rfl := Option.some.inj h; exact (w_and1 (vt_ne (f := (eO eN)) (y := v5) (z := (some x_box)) G (v_lk (f := (eO eN)) (l := x_goal) (k := v4) (y := v5) G hv5 (v_var 0) (v_atO (f := eN) (l := s1) (y := v4) 2 hv4 (.inl rfl) (e_neg e_int))) (v_var 1))))))
    · show SsD _ [.dat ((eM (eO eN)) x_goal), .dat (eN x_box), .own ((eL eN) s1)] _ _
      obtain ⟨v7, hv7, h⟩ := bnd h
      obtain ⟨v8, hv8, h⟩ := bnd h
      obtain ⟨v9, hv9, h⟩ := bnd h
      obtain ⟨u10, hu10, h⟩ := bnd h
      refine ss_cons (s_expr (v_app (f := eN) (l := s1) (y := v9) 2 (EvD.cast ((v_lk (f := (eO eN)) (l := x_goal) (k := v7) (y := v8) G hv8 (v_var 0) (v_atO (f := eN) (l := s1) (y := v7) 2 hv7 (.inl rfl) (e_neg e_int)))) (show eO eN v8 = eN v9 from congrArg (eO eN) hv9)) (.inl rfl) (chk_of hu10) ⟨_, .inl rfl⟩) ?_)
      show SsD _ [.dat ((eM (eO eN)) x_goal), .dat (eN x_box), .own ((eL eN) (s1 ++ [v9]))] _ _
      obtain rfl := Option.some.inj h
      exact ss_nil rfl
    show SsD _ [.dat ((eM (eO eN)) x_goal), .dat (eN x_box), .own ((eL eN) o11)] _ _
    refine ss_freezeL 2 rfl ?_
    show SsD _ [.dat ((eM (eO eN)) x_goal), .dat (eN x_box), .dat ((eL eN) o11)] _ _
    obtain rfl := Option.some.inj h
    exact ss_cons (s_ret (v_var 2) ⟨rfl, (by first | exact trivial | exact ⟨rfl, trivial⟩)⟩)
theorem sc_row_from_safe : FnScope ["goal", "box", "row"] ["goal", "box"] (defScope s_row_from_safe) := ⟨rfl, rfl, rfl, by decide +kernel, rfl, by decide +kernel, by decide +kernel⟩
theorem can_row_from_safe (F : Def1 K mg "row_from_safe" s_row_from_safe) (fr : Fre mg) : Can P w K mg base "row_from_safe" ["goal", "box"] 1 (T_row_from_safe) := by
  refine can_of F sc_row_from_safe (by decide) fr (fun f fd h => h.bindsN fun _ _ _ _ _ _ us hl => match us, hl with | [_, _], _ => rfl) ?_ ?_
  · rintro as r as' ⟨x_goal, x_box, y, h, rfl, rfl, rfl⟩
    exact shp_dat [(eM (eO eN)) x_goal, eN x_box] rfl rfl rfl
  · rintro f cdv A outer s0 H E as r as' hr G ⟨x_goal, x_box, y, h, rfl, rfl, rfl⟩
    show SsD _ [.dat ((eM (eO eN)) x_goal), .dat (eN x_box), .un] _ _
    refine ss_cons (s_setN (i := 2) G.nd rfl (by first | exact .inl rfl | exact .inr rfl) (n_lstV (f := eN) (l := (x_box :: ([] : List Nm))) rfl (va_cons (f := eN) (y := x_box) (v_var 1) va_nil)) ?_)
    show SsD _ [.dat ((eM (eO eN)) x_goal), .dat (eN x_box), .own ((eL eN) (x_box :: ([] : List Nm)))] _ _
    obtain ⟨o10, ho10, h⟩ := bnd h
    refine ss_cons (k_while (s0 := (x_box :: ([] : List Nm))) (fun (s1 : (List Nm)) => [.dat ((eM (eO eN)) x_goal), .dat (eN x_box), .own ((eL eN) s1)]) (fun r d δ' => d = (eO (eL eN)) r ∧ parsOk [.dat ((eM (eO eN)) x_goal), .dat (eN x_box)] δ') PassesOwn.never ho10 (fun s1 b h => ?_) (fun s1 t hc h => ?_) (fun s1 e hc => ?_) (fun r d δ' e hr => ?_))
    · show TvD _ [.dat ((eM (eO eN)) x_goal), .dat (eN x_box), .own ((eL eN) s1)] _ _ [.dat ((eM (eO eN)) x_goal), .dat (eN x_box), .own ((eL eN) s1)]
      obtain ⟨v2, hv2, h⟩ := bnd h
      obtain ⟨v3, hv3, h⟩ := bnd h
      obtain rfl := Option.some.inj h
      exact (vt_ne (f := (eO eN)) (y := v3) (z := (some x_box)) G (v_lk (f := (eO eN)) (l := x_goal) (k := v2) (y := v3) G hv3 (v_var 0) (v_atO (f := eN) (l := s1) (y := v2) 2 hv2 (.inl rfl) (e_neg e_int))) (v_var 1))
    · show SsD _ [.dat ((eM (eO eN)) x_goal), .dat (eN x_box), .own ((eL eN) s1)] _ _
      obtain ⟨v4, hv4, h⟩ := bnd h
      obtain ⟨v5, hv5, h⟩ := bnd h
      refine ss_cons (s_if (vt_dninO (f := (eO eN)) (l := x_goal) (k := v5) G (v_lk (f := (eO eN)) (l := x_goal) (k := v4) (y := v5) G hv5 (v_var 0) (v_atO (f := eN) (l := s1) (y := v4) 2 hv4 (.inl rfl) (e_neg e_int))) (v_var 0)) (fun hc => ?_) (fun hc => ?_))
      · have h := cndT h hc
        exact ss_cons (s_ret e_non ⟨_, (Option.some.inj h).symm, rfl, (by first | exact trivial | exact ⟨rfl, trivial⟩)⟩)
      · have h := cndF h hc
        refine ss_nil ?_
        show SsD _ [.dat ((eM (eO eN)) x_goal), .dat (eN x_box), .own ((eL eN) s1)] _ _
        obtain ⟨v6, hv6, h⟩ := bnd h
        obtain ⟨v7, hv7, h⟩ := bnd h
        obtain ⟨v8, hv8, h⟩ := bnd h
        obtain ⟨u9, hu9, h⟩ := bnd h
        refine ss_cons (s_expr (v_app (f := eN) (l := s1) (y := v8) 2 (EvD.cast ((v_lk (f := (eO eN)) (l := x_goal) (k := v6) (y := v7) G hv7 (v_var 0) (v_atO (f := eN) (l := s1) (y := v6) 2 hv6 (.inl rfl) (e_neg e_int)))) (show eO eN v7 = eN v8 from congrArg (eO eN) hv8)) (.inl rfl) (chk_of hu9) ⟨_, .inl rfl⟩) ?_)
        show SsD _ [.dat ((eM (eO eN)) x_goal), .dat (eN x_box), .own ((eL eN) (s1 ++ [v8]))] _ _
        exact ss_nil ⟨_, (Option.some.inj h).symm, rfl⟩
    · subst e
      have h : _ = some _ := h
      show SsD _ [.dat ((eM (eO eN)) x_goal), .dat (eN x_box), .own ((eL eN) s1)] _ _
      refine ss_freezeL 2 rfl ?_
      show SsD _ [.dat ((eM (eO eN)) x_goal), .dat (eN x_box), .dat ((eL eN) s1)] _ _
      obtain rfl := Option.some.inj h
      exact ss_cons (s_ret (v_var 2) ⟨rfl, (by first | exact trivial | exact ⟨rfl, trivial⟩)⟩)
    · subst e
      obtain rfl := Option.some.inj h
      exact hr
theorem sc_rings : FnScope ["job", "goal", "found", "box", "row"] ["job"] (defScope s_rings) := ⟨rfl, rfl, rfl, by decide +kernel, rfl, by decide +kernel, by decide +kernel⟩
theorem can_rings (F : Def1 K mg "rings" s_rings) (fr : Fre mg) (c_goal_of : Can P w K mg base "goal_of" ["job"] 5 T_goal_of) (c_row_from_safe : Can P w K mg base "row_from_safe" ["goal", "box"] 1 T_row_from_safe) : Can P w K mg base "rings" ["job"] 6 (T_rings) := by
  refine can_of F sc_rings (by decide) fr (fun f fd h => h.bindsN fun _ _ _ _ _ _ us hl => match us, hl with | [_], _ => rfl) ?_ ?_
  · rintro as r as' ⟨x_job, y, h, rfl, rfl, rfl⟩
    exact shp_dat [(eP (eT eN) (eT (eP eN (eO eN)))) x_job] rfl rfl rfl
  · rintro f cdv A outer s0 H E as r as' hr G ⟨x_job, y, h, rfl, rfl, rfl⟩
    replace c_goal_of := c_goal_of.cal (hr.mono (by omega)) (N := ["job", "goal", "found", "box", "row"]) (cdv := cdv) (outer := outer) (H := H) (E := E)
    replace c_row_from_safe := c_row_from_safe.cal (hr.mono (by omega)) (N := ["job", "goal", "found", "box", "row"]) (cdv := cdv) (outer := outer) (H := H) (E := E)
    show SsD _ [.dat ((eP (eT eN) (eT (eP eN (eO eN)))) x_job), .un, .un, .un, .un] _ _
    obtain ⟨v1, hv1, h⟩ := bnd h
    refine ss_cons (s_par (i := 1) (j := 2) G.calm G.nd rfl rfl (by decide) rfl rfl (x_dat (e_call c_goal_of rfl (a_cons (v_var 0) a_nil) ⟨x_job, v1, hv1, rfl, rfl, rfl⟩) (x_new (n_lstV (f := (eT eN)) (l := ([] : List (List Nm))) rfl va_nil) x_nil)) ?_ rfl)
    show SsD _ [.dat ((eP (eT eN) (eT (eP eN (eO eN)))) x_job), .dat ((eM (eO eN)) v1), .own ((eL (eT eN)) ([] : List (List Nm))), .un, .un] _ _
    obtain ⟨u2, hu2, h⟩ := bnd h
    obtain ⟨o14, ho14, h⟩ := bnd h
    refine ss_cons (k_forS (g := eN) (fun (s3 : (List (List Nm))) => [.dat ((eP (eT eN) (eT (eP eN (eO eN)))) x_job), .dat ((eM (eO eN)) v1), .own ((eL (eT eN)) s3), .un, .un]) (fun (b4 : Nm) => [(3, eN b4)]) G PassesOwn.never ho14 (it_L (f := eN) (l := (isort leN (v1.map (·.1)))) ((n_srtD (f := (eO eN)) (d := v1) G (chk_of hu2) (v_var 1))).ev) (fun b4 hb => tg1 3 G.nd) (fun s3 b4 t hb h => ?_) ?_)
    · show SsD _ [.dat ((eP (eT eN) (eT (eP eN (eO eN)))) x_job), .dat ((eM (eO eN)) v1), .own ((eL (eT eN)) s3), .dat (eN b4), .un] _ _
      obtain ⟨v5, hv5, h⟩ := bnd h
      refine ss_cons (w_set 4 G (e_call c_row_from_safe rfl (a_cons (v_var 1) (a_cons (v_var 3) a_nil)) ⟨v1, b4, v5, hv5, rfl, rfl, rfl⟩) ?_)
      show SsD _ [.dat ((eP (eT eN) (eT (eP eN (eO eN)))) x_job), .dat ((eM (eO eN)) v1), .own ((eL (eT eN)) s3), .dat (eN b4), .dat ((eO (eL eN)) v5)] _ _
      obtain ⟨v10, hv10, h⟩ := bnd h
      obtain ⟨s11, hs11, h⟩ := bnd h
      refine ss_join (δ1 := [.dat ((eP (eT eN) (eT (eP eN (eO eN)))) x_job), .dat ((eM (eO eN)) v1), .own ((eL (eT eN)) s11), .dat (eN b4), .dat ((eO (eL eN)) v5)]) (s_if (t_w (w_and (p := (!v5.isNone)) (q := v10) (vt_notN (f := (eL eN)) (y := v5) (v_var 4)) (fun hc => by have h := cndT hv10 hc; obtain ⟨v6, hv6, h⟩ := bnd h; obtain ⟨v9, hv9, h⟩ := bnd h; obtain rfl := Option.some.inj h; exact (w_and (p := (decide ((1 : Int) < (v6.length : Int)))) (q := v9) (t_gt (i := (v6.length : Int)) (j := (1 : Int)) (v_lenL (f := eN) (l := v6) G (EvD.cast ((v_var 4)) (show eO (eL eN) v5 = (eL eN) v6 from congrArg (eO (eL eN)) hv6))) e_int) (fun hc => by have h := cndT hv9 hc; obtain ⟨v7, hv7, h⟩ := bnd h; obtain ⟨v8, hv8, h⟩ := bnd h; obtain rfl := Option.some.inj h; exact (w_and1 (vt_eq (f := eN) (y := b4) (z := v8) G (v_var 3) (v_min (f := eN) (l := v7) (y := v8) G hv8 (EvD.cast ((v_var 4)) (show eO (eL eN) v5 = (eL eN) v7 from congrArg (eO (eL eN)) hv7)))))))))) (fun hc => ?_) (fun hc => ?_)) ?_
      · have h := cndT hs11 hc
        obtain ⟨v12, hv12, h⟩ := bnd h
        obtain ⟨u13, hu13, h⟩ := bnd h
        refine ss_cons (s_expr (v_app (f := (eT eN)) (l := s3) (y := v12) 2 (v_tupL (f := eN) (l := v12) G (EvD.cast ((v_var 4)) (show eO (eL eN) v5 = (eL eN) v12 from congrArg (eO (eL eN)) hv12))) (.inl rfl) (chk_of hu13) ⟨_, .inl rfl⟩) ?_)
        show SsD _ [.dat ((eP (eT eN) (eT (eP eN (eO eN)))) x_job), .dat ((eM (eO eN)) v1), .own ((eL (eT eN)) (s3 ++ [v12])), .dat (eN b4), .dat ((eO (eL eN)) v5)] _ _
        obtain rfl := Option.some.inj h
        exact ss_nil rfl
      · have h := cndF hs11 hc
        obtain rfl := Option.some.inj h
        exact ss_nil rfl
      refine ss_forget 3 ?_
      refine ss_forget 4 ?_
      obtain rfl := Option.some.inj h
      exact ss_nil rfl
    show SsD _ [.dat ((eP (eT eN) (eT (eP eN (eO eN)))) x_job), .dat ((eM (eO eN)) v1), .own ((eL (eT eN)) o14), .un, .un] _ _
    refine ss_freezeL 2 rfl ?_
    show SsD _ [.dat ((eP (eT eN) (eT (eP eN (eO eN)))) x_job), .dat ((eM (eO eN)) v1), .dat ((eL (eT eN)) o14), .un, .un] _ _
    obtain rfl := Option.some.inj h
    exact ss_cons (s_ret (v_tupL (f := (eT eN)) (l := o14) G (v_var 2)) ⟨rfl, (by first | exact trivial | exact ⟨rfl, trivial⟩)⟩)
theorem sc_chains : FnScope ["job", "goal", "found", "ends", "box", "other"] ["job"] (defScope s_chains) := ⟨rfl, rfl, rfl, by decide +kernel, rfl, by decide +kernel, by decide +kernel⟩
theorem can_chains (F : Def1 K mg "chains" s_chains) (fr : Fre mg) (c_goal_of : Can P w K mg base "goal_of" ["job"] 5 T_goal_of) (c_set_of : Can P w K mg base "set_of" ["things"] 1 T_set_of) (c_row_from : Can P w K mg base "row_from" ["goal", "box"] 1 T_row_from) : Can P w K mg base "chains" ["job"] 6 (T_chains) := by
  refine can_of F sc_chains (by decide) fr (fun f fd h => h.bindsN fun _ _ _ _ _ _ us hl => match us, hl with | [_], _ => rfl) ?_ ?_
  · rintro as r as' ⟨x_job, y, h, rfl, rfl, rfl⟩
    exact shp_dat [(eP (eT eN) (eT (eP eN (eO eN)))) x_job] rfl rfl rfl
  · rintro f cdv A outer s0 H E as r as' hr G ⟨x_job, y, h, rfl, rfl, rfl⟩
    replace c_goal_of := c_goal_of.cal (hr.mono (by omega)) (N := ["job", "goal", "found", "ends", "box", "other"]) (cdv := cdv) (outer := outer) (H := H) (E := E)
    replace c_set_of := c_set_of.cal (hr.mono (by omega)) (N := ["job", "goal", "found", "ends", "box", "other"]) (cdv := cdv) (outer := outer) (H := H) (E := E)
    replace c_row_from := c_row_from.cal (hr.mono (by omega)) (N := ["job", "goal", "found", "ends", "box", "other"]) (cdv := cdv) (outer := outer) (H := H) (E := E)
    show SsD _ [.dat ((eP (eT eN) (eT (eP eN (eO eN)))) x_job), .un, .un, .un, .un, .un] _ _
    obtain ⟨v1, hv1, h⟩ := bnd h
    refine ss_cons (s_par (i := 1) (j := 2) G.calm G.nd rfl rfl (by decide) rfl rfl (x_dat (e_call c_goal_of rfl (a_cons (v_var 0) a_nil) ⟨x_job, v1, hv1, rfl, rfl, rfl⟩) (x_new (n_lstV (f := (eT eN)) (l := ([] : List (List Nm))) rfl va_nil) x_nil)) ?_ rfl)
    show SsD _ [.dat ((eP (eT eN) (eT (eP eN (eO eN)))) x_job), .dat ((eM (eO eN)) v1), .own ((eL (eT eN)) ([] : List (List Nm))), .un, .un, .un] _ _
    obtain ⟨v4, hv4, h⟩ := bnd h
    obtain ⟨v6, hv6, h⟩ := bnd h
    refine ss_cons (w_set 3 G (e_call c_set_of rfl (a_cons (((k_lcTD (g := (eO eN)) (f := eN) [("other", 5)] (fun (b2 : (Option Nm)) => [(5, (eO eN) b2)]) G hv4 (it_V (f := (eO eN)) (d := v1) (v_var 1)) (.inl rfl) (fun s H C cl fp b2 hb => tg1 5 G.nd) (fun z H C cl fp b2 y5 G hb h => by show TvD _ [.dat ((eP (eT eN) (eT (eP eN (eO eN)))) x_job), .dat ((eM (eO eN)) v1), .own ((eL (eT eN)) ([] : List (List Nm))), .un, .un, .dat ((eO eN) b2)] _ _ [.dat ((eP (eT eN) (eT (eP eN (eO eN)))) x_job), .dat ((eM (eO eN)) v1), .own ((eL (eT eN)) ([] : List (List Nm))), .un, .un, .dat ((eO eN) b2)]; obtain rfl := Option.some.inj h; exact (vt_notN (f := eN) (y := b2) (v_var 5))) (fun z H C cl fp b2 y5 G hb _ h => by show EvD _ [.dat ((eP (eT eN) (eT (eP eN (eO eN)))) x_job), .dat ((eM (eO eN)) v1), .own ((eL (eT eN)) ([] : List (List Nm))), .un, .un, .dat ((eO eN) b2)] _ _ [.dat ((eP (eT eN) (eT (eP eN (eO eN)))) x_job), .dat ((eM (eO eN)) v1), .own ((eL (eT eN)) ([] : List (List Nm))), .un, .un, .dat ((eO eN) b2)]; obtain ⟨v3, hv3, h⟩ := bnd h; obtain rfl := Option.some.inj h; exact (EvD.cast ((v_var 5)) (show eO eN b2 = eN v3 from congrArg (eO eN) hv3))))).n G.calm G.nd).ev a_nil) ⟨v4, v6, hv6, rfl, rfl, rfl⟩) ?_)
    show SsD _ [.dat ((eP (eT eN) (eT (eP eN (eO eN)))) x_job), .dat ((eM (eO eN)) v1), .own ((eL (eT eN)) ([] : List (List Nm))), .dat ((eT eN) v6), .un, .un] _ _
    obtain ⟨u7, hu7, h⟩ := bnd h
    obtain ⟨o13, ho13, h⟩ := bnd h
    refine ss_cons (k_forS (g := eN) (fun (s8 : (List (List Nm))) => [.dat ((eP (eT eN) (eT (eP eN (eO eN)))) x_job), .dat ((eM (eO eN)) v1), .own ((eL (eT eN)) s8), .dat ((eT eN) v6), .un, .un]) (fun (b9 : Nm) => [(4, eN b9)]) G PassesOwn.never ho13 (it_L (f := eN) (l := (isort leN (v1.map (·.1)))) ((n_srtD (f := (eO eN)) (d := v1) G (chk_of hu7) (v_var 1))).ev) (fun b9 hb => tg1 4 G.nd) (fun s8 b9 t hb h => ?_) ?_)
    · show SsD _ [.dat ((eP (eT eN) (eT (eP eN (eO eN)))) x_job), .dat ((eM (eO eN)) v1), .own ((eL (eT eN)) s8), .dat ((eT eN) v6), .dat (eN b9), .un] _ _
      obtain ⟨s10, hs10, h⟩ := bnd h
      refine ss_join (δ1 := [.dat ((eP (eT eN) (eT (eP eN (eO eN)))) x_job), .dat ((eM (eO eN)) v1), .own ((eL (eT eN)) s10), .dat ((eT eN) v6), .dat (eN b9), .un]) (s_if (vt_ninT (f := eN) (l := v6) (y := b9) G (v_var 4) (v_var 3)) (fun hc => ?_) (fun hc => ?_)) ?_
      · have h := cndT hs10 hc
        obtain ⟨v11, hv11, h⟩ := bnd h
        obtain ⟨u12, hu12, h⟩ := bnd h
        refine ss_cons (s_expr (v_app (f := (eT eN)) (l := s8) (y := v11) 2 (v_tupL (f := eN) (l := v11) G (e_call c_row_from rfl (a_cons (v_var 1) (a_cons (v_var 4) a_nil)) ⟨v1, b9, v11, hv11, rfl, rfl, rfl⟩)) (.inl rfl) (chk_of hu12) ⟨_, .inl rfl⟩) ?_)
        show SsD _ [.dat ((eP (eT eN) (eT (eP eN (eO eN)))) x_job), .dat ((eM (eO eN)) v1), .own ((eL (eT eN)) (s8 ++ [v11])), .dat ((eT eN) v6), .dat (eN b9), .un] _ _
        obtain rfl := Option.some.inj h
        exact ss_nil rfl
      · have h := cndF hs10 hc
        obtain rfl := Option.some.inj h
        exact ss_nil rfl
      refine ss_forget 4 ?_
      obtain rfl := Option.some.inj h
      exact ss_nil rfl
    show SsD _ [.dat ((eP (eT eN) (eT (eP eN (eO eN)))) x_job), .dat ((eM (eO eN)) v1), .own ((eL (eT eN)) o13), .dat ((eT eN) v6), .un, .un] _ _
    refine ss_freezeL 2 rfl ?_
    show SsD _ [.dat ((eP (eT eN) (eT (eP eN (eO eN)))) x_job), .dat ((eM (eO eN)) v1), .dat ((eL (eT eN)) o13), .dat ((eT eN) v6), .un, .un] _ _
    obtain rfl := Option.some.inj h
    exact ss_cons (s_ret (v_tupL (f := (eT eN)) (l := o13) G (v_var 2)) ⟨rfl, (by first | exact trivial | exact ⟨rfl, trivial⟩)⟩)
theorem sc_first_stand : FnScope ["job", "box"] ["job"] (defScope s_first_stand) := ⟨rfl, rfl, rfl, by decide +kernel, rfl, by decide +kernel, by decide +kernel⟩
theorem can_first_stand (F : Def1 K mg "first_stand" s_first_stand) (fr : Fre mg) (c_boxes : Can P w K mg base "boxes" ["job"] 5 T_boxes) : Can P w K mg base "first_stand" ["job"] 6 (T_first_stand) := by
  refine can_of F sc_first_stand (by decide) fr (fun f fd h => h.bindsN fun _ _ _ _ _ _ us hl => match us, hl with | [_], _ => rfl) ?_ ?_
  · rintro as r as' ⟨x_job, y, h, rfl, rfl, rfl⟩
    exact shp_dat [(eP (eT eN) (eT (eP eN (eO eN)))) x_job] rfl rfl rfl
  · rintro f cdv A outer s0 H E as r as' hr G ⟨x_job, y, h, rfl, rfl, rfl⟩
    replace c_boxes := c_boxes.cal (hr.mono (by omega)) (N := ["job", "box"]) (cdv := cdv) (outer := outer) (H := H) (E := E)
    show SsD _ [.dat ((eP (eT eN) (eT (eP eN (eO eN)))) x_job), .un] _ _
    obtain ⟨v1, hv1, h⟩ := bnd h
    obtain ⟨v3, hv3, h⟩ := bnd h
    obtain rfl := Option.some.inj h
    exact ss_cons (s_ret (v_tupL (f := (eP eN eN)) (l := v3) G (((k_lcD (g := eN) (f := (eP eN eN)) [("box", 1)] (fun (b2 : Nm) => [(1, eN b2)]) G hv3 ((it_T (f := eN) (l := v1) (e_call c_boxes rfl (a_cons (v_var 0) a_nil) ⟨x_job, v1, hv1, rfl, rfl, rfl⟩))).l (.inl rfl) (fun s H C cl fp b2 hb => tg1 1 G.nd) (fun z H C cl fp b2 y4 G hb h => by show EvD _ [.dat ((eP (eT eN) (eT (eP eN (eO eN)))) x_job), .dat (eN b2)] _ _ [.dat ((eP (eT eN) (eT (eP eN (eO eN)))) x_job), .dat (eN b2)]; obtain rfl := Option.some.inj h; exact (v_pair (f := eN) (g := eN) (y := b2) (z := b2) (v_var 1) (v_var 1))))).n G.calm G.nd).ev) ⟨rfl, (by first | exact trivial | exact ⟨rfl, trivial⟩)⟩)
theorem sc_is_end : FnScope ["job", "stand", "ends", "box", "other"] ["job", "stand"] (defScope s_is_end) := ⟨rfl, rfl, rfl, by decide +kernel, rfl, by decide +kernel, by decide +kernel⟩
theorem can_is_end (F : Def1 K mg "is_end" s_is_end) (fr : Fre mg) (c_goal_of : Can P w K mg base "goal_of" ["job"] 5 T_goal_of) (c_tupled : Can P w K mg base "tupled" ["thing"] 4 T_tupled) : Can P w K mg base "is_end" ["job", "stand"] 6 (T_is_end) := by
  refine can_of F sc_is_end (by decide) fr (fun f fd h => h.bindsN fun _ _ _ _ _ _ us hl => match us, hl with | [_, _], _ => rfl) ?_ ?_
  · rintro as r as' ⟨x_job, x_stand, y, h, rfl, rfl, rfl⟩
    exact shp_dat [(eP (eT eN) (eT (eP eN (eO eN)))) x_job, (eT (eP eN eN)) x_stand] rfl rfl rfl
  · rintro f cdv A outer s0 H E as r as' hr G ⟨x_job, x_stand, y, h, rfl, rfl, rfl⟩
    replace c_goal_of := c_goal_of.cal (hr.mono (by omega)) (N := ["job", "stand", "ends", "box", "other"]) (cdv := cdv) (outer := outer) (H := H) (E := E)
    replace c_tupled := c_tupled.cal (hr.mono (by omega)) (N := ["job", "stand", "ends", "box", "other"]) (cdv := cdv) (outer := outer) (H := H) (E := E)
    show SsD _ [.dat ((eP (eT eN) (eT (eP eN (eO eN)))) x_job), .dat ((eT (eP eN eN)) x_stand), .un, .un, .un] _ _
    obtain ⟨v1, hv1, h⟩ := bnd h
    obtain ⟨v4, hv4, h⟩ := bnd h
    refine ss_cons (s_setLc (i := 2) G.calm G.nd rfl rfl (k_lcTD (g := (eS eN (eO eN))) (f := (eP eN eN)) [("box", 3), ("other", 4)] (fun (b2 : (Nm × (Option Nm))) => [(3, eN b2.1), (4, (eO eN) b2.2)]) G hv4 (it_I (f := (eO eN)) (d := v1) (e_call c_goal_of rfl (a_cons (v_var 0) a_nil) ⟨x_job, v1, hv1, rfl, rfl, rfl⟩)) (.inl rfl) (fun s H C cl fp b2 hb => tg2S 3 4 G.calm G.nd) (fun z H C cl fp b2 y5 G hb h => by show TvD _ [.dat ((eP (eT eN) (eT (eP eN (eO eN)))) x_job), .dat ((eT (eP eN eN)) x_stand), .un, .dat (eN b2.1), .dat ((eO eN) b2.2)] _ _ [.dat ((eP (eT eN) (eT (eP eN (eO eN)))) x_job), .dat ((eT (eP eN eN)) x_stand), .un, .dat (eN b2.1), .dat ((eO eN) b2.2)]; obtain rfl := Option.some.inj h; exact (vt_notN (f := eN) (y := b2.2) (v_var 4))) (fun z H C cl fp b2 y5 G hb _ h => by show EvD _ [.dat ((eP (eT eN) (eT (eP eN (eO eN)))) x_job), .dat ((eT (eP eN eN)) x_stand), .un, .dat (eN b2.1), .dat ((eO eN) b2.2)] _ _ [.dat ((eP (eT eN) (eT (eP eN (eO eN)))) x_job), .dat ((eT (eP eN eN)) x_stand), .un, .dat (eN b2.1), .dat ((eO eN) b2.2)]; obtain ⟨v3, hv3, h⟩ := bnd h; obtain rfl := Option.some.inj h; exact (v_pair (f := eN) (g := eN) (y := v3) (z := b2.1) (EvD.cast ((v_var 4)) (show eO eN b2.2 = eN v3 from congrArg (eO eN) hv3)) (v_var 3)))) ?_ (by first | exact sw_true | rfl))
    show SsD _ [.dat ((eP (eT eN) (eT (eP eN (eO eN)))) x_job), .dat ((eT (eP eN eN)) x_stand), .own ((eL (eP eN eN)) v4), .un, .un] _ _
    refine ss_freezeL 2 rfl ?_
    show SsD _ [.dat ((eP (eT eN) (eT (eP eN (eO eN)))) x_job), .dat ((eT (eP eN eN)) x_stand), .dat ((eL (eP eN eN)) v4), .un, .un] _ _
    obtain rfl := Option.some.inj h
    exact ss_cons (s_ret (v_eq (f := (eL (eP eN eN))) (y := (isort lePN x_stand)) (z := (isort lePN v4)) G ((n_srtT (f := (eP eN eN)) (l := x_stand) G (e_call c_tupled rfl (a_cons (v_var 1) a_nil) (tupT (eT (eP eN eN)) x_stand)))).ev ((n_srtL (f := (eP eN eN)) (l := v4) G (v_var 2))).ev) ⟨rfl, (by first | exact trivial | exact ⟨rfl, trivial⟩)⟩)
end
end ND

/-! G3 -/
set_option Elab.async false
set_option linter.all false
set_option maxRecDepth 100000
set_option maxHeartbeats 4000000
namespace ND
open PySem PySem.Spec PyProof.Rows L2 NA
section
variable {P : Program} {w : World} {K : PySem.W.Frag} {mg : Str → Option Value} {base : Heap}

def m_possible (x_job : ((List Nm) × (List (Nm × (Option Nm))))) (x_stand : (List (Nm × Nm))) (x_move : (Nm × (Option Nm))) : Option Bool :=
  (mkD (x_stand.map fun (b1 : (Nm × Nm)) => (b1.1, b1.2))).bind fun v2 =>
  bif (!(hasK v2 x_move.1)) then (some false) else (bif x_move.2.isNone then ((m_goal_of x_job).bind fun v3 =>
  (lk v2 x_move.1).bind fun v4 =>
  (lk v3 v4).bind fun v5 =>
  some v5.isNone) else (some ((cont (x_job.1.map some) x_move.2) && (!(hasO v2 x_move.2)))))
def T_possible : FT := fun as r as' => ∃ (x_job : ((List Nm) × (List (Nm × (Option Nm))))) (x_stand : (List (Nm × Nm))) (x_move : (Nm × (Option Nm))) (y : Bool), m_possible x_job x_stand x_move = some y ∧ as = [.dat ((eP (eT eN) (eT (eP eN (eO eN)))) x_job), .dat ((eT (eP eN eN)) x_stand), .dat ((eP eN (eO eN)) x_move)] ∧ r = eB y ∧ as' = as
def m_moved (x_stand : (List (Nm × Nm))) (x_move : (Nm × (Option Nm))) : Option (List (Nm × Nm)) :=
  (cmpM (fun (b1 : (Nm × Nm)) => some (decide (b1.1 = x_move.1))) (fun (b1 : (Nm × Nm)) => some b1.2) x_stand).bind fun v2 =>
  (at' v2 (0 : Int)).bind fun v4 =>
  (cmpM (fun (b5 : (Nm × Nm)) => some (!decide (b5.1 = x_move.1))) (fun (b5 : (Nm × Nm)) => some b5) x_stand).bind fun v6 =>
  (bif x_move.2.isNone then (some v6) else ((x_move.2).bind fun v8 =>
  (chk (decide (((v6 ++ ((v8, v4) :: ([] : List (Nm × Nm))))).length < 2000))).bind fun u9 =>
  some (isort lePN (v6 ++ ((v8, v4) :: ([] : List (Nm × Nm))))))).bind fun v10 =>
  some v10
def T_moved : FT := fun as r as' => ∃ (x_stand : (List (Nm × Nm))) (x_move : (Nm × (Option Nm))) (y : (List (Nm × Nm))), m_moved x_stand x_move = some y ∧ as = [.dat ((eT (eP eN eN)) x_stand), .dat ((eP eN (eO eN)) x_move)] ∧ r = (eT (eP eN eN)) y ∧ as' = as
def m_is_move (x_thing : (Nm × (Option Nm))) : Option Bool :=
  bif ((!true) || (!decide ((2 : Int) = (2 : Int)))) then (some false) else ((m_is_name x_thing.1).bind fun v1 =>
  (bif v1 then ((bif x_thing.2.isNone then some true else ((x_thing.2).bind fun v2 =>
  (m_is_name v2).bind fun v3 =>
  some v3)).bind fun v4 =>
  some (x_thing.2.isNone || v4)) else some true).bind fun v5 =>
  some (v1 && v5))
def T_is_move : FT := fun as r as' => ∃ (x_thing : (Nm × (Option Nm))) (y : Bool), m_is_move x_thing = some y ∧ as = [.dat ((eP eN (eO eN)) x_thing)] ∧ r = eB y ∧ as' = as
def m_is_plan (x_job : ((List Nm) × (List (Nm × (Option Nm))))) (x_thing : (List (Nm × (Option Nm)))) : Option Bool :=
  (bif (!true) then some true else ((cmpM (fun _ => some true) (fun (b1 : (Nm × (Option Nm))) => (m_is_move b1).bind fun v2 =>
  some v2) x_thing).bind fun v3 =>
  some (!(v3.all id)))).bind fun v5 =>
  bif ((!true) || v5) then (some false) else ((m_first_stand x_job).bind fun v6 =>
  (forM (R := Bool) (fun (s7 : (List (Nm × Nm))) (b8 : (Nm × (Option Nm))) => (m_possible x_job s7 b8).bind fun v9 =>
  bif (!v9) then (some (.inr false)) else ((m_moved s7 b8).bind fun v10 =>
  some (.inl v10))) x_thing v6).bind fun o11 => match o11 with
  | .inl s7 => ((m_is_end x_job s7).bind fun v12 =>
  some v12)
  | .inr r => some r
  )
def T_is_plan : FT := fun as r as' => ∃ (x_job : ((List Nm) × (List (Nm × (Option Nm))))) (x_thing : (List (Nm × (Option Nm)))) (y : Bool), m_is_plan x_job x_thing = some y ∧ as = [.dat ((eP (eT eN) (eT (eP eN (eO eN)))) x_job), .dat ((eT (eP eN (eO eN))) x_thing)] ∧ r = eB y ∧ as' = as
def m_are_numbers (x_names : (List Nm)) (x_thing : (List (Nm × Int))) : Option Bool :=
  (bif (!true) then some true else ((cmpM (fun _ => some true) (fun (b1 : (Nm × Int)) => some (true && (decide ((2 : Int) = (2 : Int))))) x_thing).bind fun v2 =>
  some (!(v2.all id)))).bind fun v4 =>
  bif ((!true) || v4) then (some false) else ((cmpM (fun _ => some true) (fun (b5 : (Nm × Int)) => (m_is_name b5.1).bind fun v6 =>
  (bif v6 then ((m_is_number b5.2).bind fun v7 =>
  some (v7 && (decide ((0 : Int) ≤ b5.2)))) else some true).bind fun v8 =>
  some (v6 && v8)) x_thing).bind fun v9 =>
  bif (!(v9.all id)) then (some false) else ((cmpM (fun _ => some true) (fun (b11 : (Nm × Int)) => some b11.1) x_thing).bind fun v12 =>
  some (decide (v12 = x_names))))
def T_are_numbers : FT := fun as r as' => ∃ (x_names : (List Nm)) (x_thing : (List (Nm × Int))) (y : Bool), m_are_numbers x_names x_thing = some y ∧ as = [.dat ((eT eN) x_names), .dat ((eT (eP eN eI)) x_thing)] ∧ r = eB y ∧ as' = as
def m_tables_of (x_sizes : ((List (Nm × Int)) × (List (Nm × Int)))) : Option ((List (Nm × Int)) × (List (Nm × Int))) :=
  (mkD x_sizes.1).bind fun v1 =>
  (mkD x_sizes.2).bind fun v2 =>
  some (v1, v2)
def T_tables_of : FT := fun as r as' => ∃ (x_sizes : ((List (Nm × Int)) × (List (Nm × Int)))) (y : ((List (Nm × Int)) × (List (Nm × Int)))), m_tables_of x_sizes = some y ∧ as = [.dat ((eP (eT (eP eN eI)) (eT (eP eN eI))) x_sizes)] ∧ r = (eP (eM eI) (eM eI)) y ∧ as' = as
def m_is_sizes (x_job : ((List Nm) × (List (Nm × (Option Nm))))) (x_thing : ((List (Nm × Int)) × (List (Nm × Int)))) : Option Bool :=
  bif ((!true) || (!decide ((2 : Int) = (2 : Int)))) then (some false) else ((m_are_numbers x_job.1 x_thing.1).bind fun v1 =>
  (bif (!v1) then some true else ((m_boxes x_job).bind fun v2 =>
  (m_are_numbers v2 x_thing.2).bind fun v3 =>
  some (!v3))).bind fun v4 =>
  bif ((!v1) || v4) then (some false) else ((m_tables_of x_thing).bind fun v5 =>
  (m_goal_of x_job).bind fun v6 =>
  (cmpM (fun _ => some true) (fun (b7 : Nm) => (lk v5.2 b7).bind fun v8 =>
  (lk v5.1 b7).bind fun v9 =>
  some (decide (v8 ≤ v9))) (v6.map (·.1))).bind fun v10 =>
  bif (!(v10.all id)) then (some false) else ((cmpM (fun _ => some true) (fun (b12 : (Nm × (Option Nm))) => (bif b12.2.isNone then some true else ((lk v5.2 b12.1).bind fun v13 =>
  (lkO v5.1 b12.2).bind fun v14 =>
  some (decide (v13 ≤ v14)))).bind fun v15 =>
  some (b12.2.isNone || v15)) v6).bind fun v16 =>
  some (v16.all id))))
def T_is_sizes : FT := fun as r as' => ∃ (x_job : ((List Nm) × (List (Nm × (Option Nm))))) (x_thing : ((List (Nm × Int)) × (List (Nm × Int)))) (y : Bool), m_is_sizes x_job x_thing = some y ∧ as = [.dat ((eP (eT eN) (eT (eP eN (eO eN)))) x_job), .dat ((eP (eT (eP eN eI)) (eT (eP eN eI))) x_thing)] ∧ r = eB y ∧ as' = as
def m_fits (x_job : ((List Nm) × (List (Nm × (Option Nm))))) (x_sizes : ((List (Nm × Int)) × (List (Nm × Int)))) (x_box : Nm) (x_place : Nm) : Option Bool :=
  (m_tables_of x_sizes).bind fun v1 =>
  bif (!(hasK v1.2 x_box)) then (none) else (bif (!(hasK v1.1 x_place)) then (none) else ((lk v1.2 x_box).bind fun v2 =>
  (lk v1.1 x_place).bind fun v3 =>
  some (decide (v2 ≤ v3))))
def T_fits : FT := fun as r as' => ∃ (x_job : ((List Nm) × (List (Nm × (Option Nm))))) (x_sizes : ((List (Nm × Int)) × (List (Nm × Int)))) (x_box : Nm) (x_place : Nm) (y : Bool), m_fits x_job x_sizes x_box x_place = some y ∧ as = [.dat ((eP (eT eN) (eT (eP eN (eO eN)))) x_job), .dat ((eP (eT (eP eN eI)) (eT (eP eN eI))) x_sizes), .dat (eN x_box), .dat (eN x_place)] ∧ r = eB y ∧ as' = as
theorem sc_possible : FnScope ["job", "stand", "move", "place", "other", "here", "spot", "box"] ["job", "stand", "move"] (defScope s_possible) := ⟨rfl, rfl, rfl, by decide +kernel, rfl, by decide +kernel, by decide +kernel⟩
theorem can_possible (F : Def1 K mg "possible" s_possible) (fr : Fre mg) (c_tupled : Can P w K mg base "tupled" ["thing"] 4 T_tupled) (c_goal_of : Can P w K mg base "goal_of" ["job"] 5 T_goal_of) : Can P w K mg base "possible" ["job", "stand", "move"] 6 (T_possible) := by
  refine can_of F sc_possible (by decide) fr (fun f fd h => h.bindsN fun _ _ _ _ _ _ us hl => match us, hl with | [_, _, _], _ => rfl) ?_ ?_
  · rintro as r as' ⟨x_job, x_stand, x_move, y, h, rfl, rfl, rfl⟩
    exact shp_dat [(eP (eT eN) (eT (eP eN (eO eN)))) x_job, (eT (eP eN eN)) x_stand, (eP eN (eO eN)) x_move] rfl rfl rfl
  · rintro f cdv A outer s0 H E as r as' hr G ⟨x_job, x_stand, x_move, y, h, rfl, rfl, rfl⟩
    replace c_tupled := c_tupled.cal (hr.mono (by omega)) (N := ["job", "stand", "move", "place", "other", "here", "spot", "box"]) (cdv := cdv) (outer := outer) (H := H) (E := E)
    replace c_goal_of := c_goal_of.cal (hr.mono (by omega)) (N := ["job", "stand", "move", "place", "other", "here", "spot", "box"]) (cdv := cdv) (outer := outer) (H := H) (E := E)
    show SsD _ [.dat ((eP (eT eN) (eT (eP eN (eO eN)))) x_job), .dat ((eT (eP eN eN)) x_stand), .dat ((eP eN (eO eN)) x_move), .un, .un, .un, .un, .un] _ _
    obtain ⟨v2, hv2, h⟩ := bnd h
    refine ss_cons (s_asg (d := .tup [(eP eN (eO eN)) x_move, (eM eN) v2]) (ps := [(3, eN x_move.1), (4, (eO eN) x_move.2), (5, (eM eN) v2)]) (e_tup (a_cons (e_call c_tupled rfl (a_cons (v_var 2) a_nil) (tupT (eP eN (eO eN)) x_move)) (a_cons (k_dc (gg := (eP eN eN)) (f := eN) (kf := (fun (b1 : (Nm × Nm)) => b1.1)) (h := (fun (b1 : (Nm × Nm)) => b1.2)) [("spot", 6), ("box", 7)] (fun (b1 : (Nm × Nm)) => [(6, eN b1.1), (7, eN b1.2)]) G hv2 (it_T (f := (eP eN eN)) (l := x_stand) (v_var 1)) (fun s H C cl fp b1 hb => tg2 6 7 G.calm G.nd) (fun z H C cl fp b1 G hb => by show EvD _ [.dat ((eP (eT eN) (eT (eP eN (eO eN)))) x_job), .dat ((eT (eP eN eN)) x_stand), .dat ((eP eN (eO eN)) x_move), .un, .un, .un, .dat (eN b1.1), .dat (eN b1.2)] _ _ [.dat ((eP (eT eN) (eT (eP eN (eO eN)))) x_job), .dat ((eT (eP eN eN)) x_stand), .dat ((eP eN (eO eN)) x_move), .un, .un, .un, .dat (eN b1.1), .dat (eN b1.2)]; exact (v_var 6)) (fun z H C cl fp b1 G hb => by show EvD _ [.dat ((eP (eT eN) (eT (eP eN (eO eN)))) x_job), .dat ((eT (eP eN eN)) x_stand), .dat ((eP eN (eO eN)) x_move), .un, .un, .un, .dat (eN b1.1), .dat (eN b1.2)] _ _ [.dat ((eP (eT eN) (eT (eP eN (eO eN)))) x_job), .dat ((eT (eP eN eN)) x_stand), .dat ((eP eN (eO eN)) x_move), .un, .un, .un, .dat (eN b1.1), .dat (eN b1.2)]; exact (v_var 7))) a_nil)) (show 2 ≤ sizeLine by decide)) (tg21 3 4 5 G.calm G.nd) ?_ (by intro z hz; simp at hz; rcases hz with rfl | rfl | rfl <;> rfl))
    show SsD _ [.dat ((eP (eT eN) (eT (eP eN (eO eN)))) x_job), .dat ((eT (eP eN eN)) x_stand), .dat ((eP eN (eO eN)) x_move), .dat (eN x_move.1), .dat ((eO eN) x_move.2), .dat ((eM eN) v2), .un, .un] _ _
    refine ss_cons (s_if (vt_dnin (f := eN) (l := v2) (k := x_move.1) G (v_var 3) (v_var 5)) (fun hc => ?_) (fun hc => ?_))
    · have h := cndT h hc
      obtain rfl := Option.some.inj h
      exact ss_cons (s_ret e_bl ⟨rfl, (by first | exact trivial | exact ⟨rfl, trivial⟩)⟩)
    · have h := cndF h hc
      refine ss_nil ?_
      show SsD _ [.dat ((eP (eT eN) (eT (eP eN (eO eN)))) x_job), .dat ((eT (eP eN eN)) x_stand), .dat ((eP eN (eO eN)) x_move), .dat (eN x_move.1), .dat ((eO eN) x_move.2), .dat ((eM eN) v2), .un, .un] _ _
      refine ss_cons (s_if (vt_isN (f := eN) (y := x_move.2) (v_var 4)) (fun hc => ?_) (fun hc => ?_))
      · have h := cndT h hc
        obtain ⟨v3, hv3, h⟩ := bnd h
        obtain ⟨v4, hv4, h⟩ := bnd h
        obtain ⟨v5, hv5, h⟩ := bnd h
        obtain rfl := Option.some.inj h
        exact ss_cons (s_ret (v_isN (f := eN) (y := v5) (v_lk (f := (eO eN)) (l := v3) (k := v4) (y := v5) G hv5 (e_call c_goal_of rfl (a_cons (v_var 0) a_nil) ⟨x_job, v3, hv3, rfl, rfl, rfl⟩) (v_lk (f := eN) (l := v2) (k := x_move.1) (y := v4) G hv4 (v_var 5) (v_var 3)))) ⟨rfl, (by first | exact trivial | exact ⟨rfl, trivial⟩)⟩)
      · have h := cndF h hc
        refine ss_nil ?_
        show SsD _ [.dat ((eP (eT eN) (eT (eP eN (eO eN)))) x_job), .dat ((eT (eP eN eN)) x_stand), .dat ((eP eN (eO eN)) x_move), .dat (eN x_move.1), .dat ((eO eN) x_move.2), .dat ((eM eN) v2), .un, .un] _ _
        obtain rfl := Option.some.inj h
        exact ss_cons (s_ret (e_and (p := (cont (x_job.1.map some) x_move.2)) (q := (!(hasO v2 x_move.2))) (v_inT (f := (eO eN)) (l := (x_job.1.map some)) (y := x_move.2) G (v_var 4) (v_TO (v_fst (f := (eT eN)) (g := (eT (eP eN (eO eN)))) (y := x_job) (e_call c_tupled rfl (a_cons (v_var 0) a_nil) (tupT (eP (eT eN) (eT (eP eN (eO eN)))) x_job))))) (fun _ => (e_one (v_dninO (f := eN) (l := v2) (k := x_move.2) G (v_var 4) (v_var 5))))) ⟨rfl, (by first | exact trivial | exact ⟨rfl, trivial⟩)⟩)
theorem sc_moved : FnScope ["stand", "move", "place", "other", "box", "rest", "spot", "own", "pair"] ["stand", "move"] (defScope s_moved) := ⟨rfl, rfl, rfl, by decide +kernel, rfl, by decide +kernel, by decide +kernel⟩
theorem can_moved (F : Def1 K mg "moved" s_moved) (fr : Fre mg) (c_tupled : Can P w K mg base "tupled" ["thing"] 4 T_tupled) : Can P w K mg base "moved" ["stand", "move"] 5 (T_moved) := by
  refine can_of F sc_moved (by decide) fr (fun f fd h => h.bindsN fun _ _ _ _ _ _ us hl => match us, hl with | [_, _], _ => rfl) ?_ ?_
  · rintro as r as' ⟨x_stand, x_move, y, h, rfl, rfl, rfl⟩
    exact shp_dat [(eT (eP eN eN)) x_stand, (eP eN (eO eN)) x_move] rfl rfl rfl
  · rintro f cdv A outer s0 H E as r as' hr G ⟨x_stand, x_move, y, h, rfl, rfl, rfl⟩
    replace c_tupled := c_tupled.cal (hr.mono (by omega)) (N := ["stand", "move", "place", "other", "box", "rest", "spot", "own", "pair"]) (cdv := cdv) (outer := outer) (H := H) (E := E)
    show SsD _ [.dat ((eT (eP eN eN)) x_stand), .dat ((eP eN (eO eN)) x_move), .un, .un, .un, .un, .un, .un, .un] _ _
    refine ss_cons (s_asg (d := (eP eN (eO eN)) x_move) (ps := [(2, eN x_move.1), (3, (eO eN) x_move.2)]) (v_var 1) (tg2 2 3 G.calm G.nd) ?_ (by intro z hz; simp at hz; rcases hz with rfl | rfl <;> rfl))
    show SsD _ [.dat ((eT (eP eN eN)) x_stand), .dat ((eP eN (eO eN)) x_move), .dat (eN x_move.1), .dat ((eO eN) x_move.2), .un, .un, .un, .un, .un] _ _
    obtain ⟨v2, hv2, h⟩ := bnd h
    obtain ⟨v4, hv4, h⟩ := bnd h
    refine ss_cons (w_set 4 G (v_atL (f := eN) (l := v2) (y := v4) hv4 (((k_lcTD (g := (eP eN eN)) (f := eN) [("spot", 6), ("own", 7)] (fun (b1 : (Nm × Nm)) => [(6, eN b1.1), (7, eN b1.2)]) G hv2 ((it_T (f := (eP eN eN)) (l := x_stand) (v_var 0))).l (.inl rfl) (fun s H C cl fp b1 hb => tg2 6 7 G.calm G.nd) (fun z H C cl fp b1 y3 G hb h => by show TvD _ [.dat ((eT (eP eN eN)) x_stand), .dat ((eP eN (eO eN)) x_move), .dat (eN x_move.1), .dat ((eO eN) x_move.2), .un, .un, .dat (eN b1.1), .dat (eN b1.2), .un] _ _ [.dat ((eT (eP eN eN)) x_stand), .dat ((eP eN (eO eN)) x_move), .dat (eN x_move.1), .dat ((eO eN) x_move.2), .un, .un, .dat (eN b1.1), .dat (eN b1.2), .un]; obtain rfl := Option.some.inj h; exact (vt_eq (f := eN) (y := b1.1) (z := x_move.1) G (v_var 6) (v_var 2))) (fun z H C cl fp b1 y3 G hb _ h => by show EvD _ [.dat ((eT (eP eN eN)) x_stand), .dat ((eP eN (eO eN)) x_move), .dat (eN x_move.1), .dat ((eO eN) x_move.2), .un, .un, .dat (eN b1.1), .dat (eN b1.2), .un] _ _ [.dat ((eT (eP eN eN)) x_stand), .dat ((eP eN (eO eN)) x_move), .dat (eN x_move.1), .dat ((eO eN) x_move.2), .un, .un, .dat (eN b1.1), .dat (eN b1.2), .un]; obtain rfl := Option.some.inj h; exact (v_var 7)))).n G.calm G.nd).ev e_int) ?_)
    show SsD _ [.dat ((eT (eP eN eN)) x_stand), .dat ((eP eN (eO eN)) x_move), .dat (eN x_move.1), .dat ((eO eN) x_move.2), .dat (eN v4), .un, .un, .un, .un] _ _
    obtain ⟨v6, hv6, h⟩ := bnd h
    refine ss_cons (s_setLc (i := 5) G.calm G.nd rfl rfl (k_lcTD (g := (eP eN eN)) (f := (eP eN eN)) [("pair", 8)] (fun (b5 : (Nm × Nm)) => [(8, (eP eN eN) b5)]) G hv6 ((it_T (f := (eP eN eN)) (l := x_stand) (e_call c_tupled rfl (a_cons (v_var 0) a_nil) (tupT (eT (eP eN eN)) x_stand)))).l (.inl rfl) (fun s H C cl fp b5 hb => tg1 8 G.nd) (fun z H C cl fp b5 y7 G hb h => by show TvD _ [.dat ((eT (eP eN eN)) x_stand), .dat ((eP eN (eO eN)) x_move), .dat (eN x_move.1), .dat ((eO eN) x_move.2), .dat (eN v4), .un, .un, .un, .dat ((eP eN eN) b5)] _ _ [.dat ((eT (eP eN eN)) x_stand), .dat ((eP eN (eO eN)) x_move), .dat (eN x_move.1), .dat ((eO eN) x_move.2), .dat (eN v4), .un, .un, .un, .dat ((eP eN eN) b5)]; obtain rfl := Option.some.inj h; exact (vt_ne (f := eN) (y := b5.1) (z := x_move.1) G (v_fst (f := eN) (g := eN) (y := b5) (v_var 8)) (v_var 2))) (fun z H C cl fp b5 y7 G hb _ h => by show EvD _ [.dat ((eT (eP eN eN)) x_stand), .dat ((eP eN (eO eN)) x_move), .dat (eN x_move.1), .dat ((eO eN) x_move.2), .dat (eN v4), .un, .un, .un, .dat ((eP eN eN) b5)] _ _ [.dat ((eT (eP eN eN)) x_stand), .dat ((eP eN (eO eN)) x_move), .dat (eN x_move.1), .dat ((eO eN) x_move.2), .dat (eN v4), .un, .un, .un, .dat ((eP eN eN) b5)]; obtain rfl := Option.some.inj h; exact (v_var 8))) ?_ (by first | exact sw_true | rfl))
    show SsD _ [.dat ((eT (eP eN eN)) x_stand), .dat ((eP eN (eO eN)) x_move), .dat (eN x_move.1), .dat ((eO eN) x_move.2), .dat (eN v4), .own ((eL (eP eN eN)) v6), .un, .un, .un] _ _
    refine ss_freezeL 5 rfl ?_
    show SsD _ [.dat ((eT (eP eN eN)) x_stand), .dat ((eP eN (eO eN)) x_move), .dat (eN x_move.1), .dat ((eO eN) x_move.2), .dat (eN v4), .dat ((eL (eP eN eN)) v6), .un, .un, .un] _ _
    obtain ⟨v10, hv10, h⟩ := bnd h
    obtain rfl := Option.some.inj h
    exact ss_cons (s_ret (v_if (f := (eT (eP eN eN))) (v := v10) (vt_isN (f := eN) (y := x_move.2) (v_var 3)) (fun hc => by have h := cndT hv10 hc; skip; obtain rfl := Option.some.inj h; exact (v_tupL (f := (eP eN eN)) (l := v6) G (v_var 5))) (fun hc => by have h := cndF hv10 hc; obtain ⟨v8, hv8, h⟩ := bnd h; obtain ⟨u9, hu9, h⟩ := bnd h; obtain rfl := Option.some.inj h; exact (v_tupL (f := (eP eN eN)) (l := (isort lePN (v6 ++ ((v8, v4) :: ([] : List (Nm × Nm)))))) G ((n_srtL (f := (eP eN eN)) (l := (v6 ++ ((v8, v4) :: ([] : List (Nm × Nm))))) G ((n_lstV (f := (eP eN eN)) (l := (v6 ++ ((v8, v4) :: ([] : List (Nm × Nm))))) (chk_of hu9) (va_starL (f := (eP eN eN)) (xs := v6) (v_var 5) (va_cons (f := (eP eN eN)) (y := (v8, v4)) (v_pair (f := eN) (g := eN) (y := v8) (z := v4) (EvD.cast ((v_var 3)) (show eO eN x_move.2 = eN v8 from congrArg (eO eN) hv8)) (v_var 4)) va_nil)))).ev)).ev))) ⟨rfl, (by first | exact trivial | exact ⟨rfl, trivial⟩)⟩)
theorem sc_is_move : FnScope ["thing"] ["thing"] (defScope s_is_move) := ⟨rfl, rfl, rfl, by decide +kernel, rfl, by decide +kernel, by decide +kernel⟩
theorem can_is_move (F : Def1 K mg "is_move" s_is_move) (fr : Fre mg) (c_is_name : Can P w K mg base "is_name" ["thing"] 1 T_is_name) : Can P w K mg base "is_move" ["thing"] 2 (T_is_move) := by
  refine can_of F sc_is_move (by decide) fr (fun f fd h => h.bindsN fun _ _ _ _ _ _ us hl => match us, hl with | [_], _ => rfl) ?_ ?_
  · rintro as r as' ⟨x_thing, y, h, rfl, rfl, rfl⟩
    exact shp_dat [(eP eN (eO eN)) x_thing] rfl rfl rfl
  · rintro f cdv A outer s0 H E as r as' hr G ⟨x_thing, y, h, rfl, rfl, rfl⟩
    replace c_is_name := c_is_name.cal (hr.mono (by omega)) (N := ["thing"]) (cdv := cdv) (outer := outer) (H := H) (E := E)
    show SsD _ [.dat ((eP eN (eO eN)) x_thing)] _ _
    refine ss_cons (s_if (t_w (w_or (p := (!true)) (q := (!decide ((2 : Int) = (2 : Int)))) (t_not (t_val (p := true) (v_isTup G (v_var 0) ⟨_, rfl⟩))) (fun _ => (w_or1 (vt_ne (f := eI) (y := (2 : Int)) (z := (2 : Int)) G (v_lenP (f := eN) (g := (eO eN)) (z := x_thing) G (v_var 0)) (v_glo G.fr.pm)))))) (fun hc => ?_) (fun hc => ?_))
    · have h := cndT h hc
      obtain rfl := Option.some.inj h
      exact ss_cons (s_ret e_bl ⟨rfl, (by first | exact trivial | exact ⟨rfl, trivial⟩)⟩)
    · have h := cndF h hc
      refine ss_nil ?_
      show SsD _ [.dat ((eP eN (eO eN)) x_thing)] _ _
      obtain ⟨v1, hv1, h⟩ := bnd h
      obtain ⟨v5, hv5, h⟩ := bnd h
      obtain rfl := Option.some.inj h
      exact ss_cons (s_ret (e_and (p := v1) (q := v5) (e_call c_is_name rfl (a_cons (v_fst (f := eN) (g := (eO eN)) (y := x_thing) (v_var 0)) a_nil) ⟨x_thing.1, v1, hv1, rfl, rfl, rfl⟩) (fun hc => by have h := cndT hv5 hc; obtain ⟨v4, hv4, h⟩ := bnd h; obtain rfl := Option.some.inj h; exact (e_one (e_or (p := x_thing.2.isNone) (q := v4) (v_isN (f := eN) (y := x_thing.2) (v_snd (f := eN) (g := (eO eN)) (y := x_thing) (v_var 0))) (fun hc => by have h := cndF hv4 hc; obtain ⟨v2, hv2, h⟩ := bnd h; obtain ⟨v3, hv3, h⟩ := bnd h; obtain rfl := Option.some.inj h; exact (e_one (e_call c_is_name rfl (a_cons (EvD.cast ((v_snd (f := eN) (g := (eO eN)) (y := x_thing) (v_var 0))) (show eO eN x_thing.2 = eN v2 from congrArg (eO eN) hv2)) a_nil) ⟨v2, v3, hv3, rfl, rfl, rfl⟩))))))) ⟨rfl, (by first | exact trivial | exact ⟨rfl, trivial⟩)⟩)
theorem sc_is_plan : FnScope ["job", "thing", "stand", "move"] ["job", "thing"] (defScope s_is_plan) := ⟨rfl, rfl, rfl, by decide +kernel, rfl, by decide +kernel, by decide +kernel⟩
theorem can_is_plan (F : Def1 K mg "is_plan" s_is_plan) (fr : Fre mg) (c_is_move : Can P w K mg base "is_move" ["thing"] 2 T_is_move) (c_first_stand : Can P w K mg base "first_stand" ["job"] 6 T_first_stand) (c_possible : Can P w K mg base "possible" ["job", "stand", "move"] 6 T_possible) (c_moved : Can P w K mg base "moved" ["stand", "move"] 5 T_moved) (c_is_end : Can P w K mg base "is_end" ["job", "stand"] 6 T_is_end) : Can P w K mg base "is_plan" ["job", "thing"] 7 (T_is_plan) := by
  refine can_of F sc_is_plan (by decide) fr (fun f fd h => h.bindsN fun _ _ _ _ _ _ us hl => match us, hl with | [_, _], _ => rfl) ?_ ?_
  · rintro as r as' ⟨x_job, x_thing, y, h, rfl, rfl, rfl⟩
    exact shp_dat [(eP (eT eN) (eT (eP eN (eO eN)))) x_job, (eT (eP eN (eO eN))) x_thing] rfl rfl rfl
  · rintro f cdv A outer s0 H E as r as' hr G ⟨x_job, x_thing, y, h, rfl, rfl, rfl⟩
    replace c_is_move := c_is_move.cal (hr.mono (by omega)) (N := ["job", "thing", "stand", "move"]) (cdv := cdv) (outer := outer) (H := H) (E := E)
    replace c_first_stand := c_first_stand.cal (hr.mono (by omega)) (N := ["job", "thing", "stand", "move"]) (cdv := cdv) (outer := outer) (H := H) (E := E)
    replace c_possible := c_possible.cal (hr.mono (by omega)) (N := ["job", "thing", "stand", "move"]) (cdv := cdv) (outer := outer) (H := H) (E := E)
    replace c_moved := c_moved.cal (hr.mono (by omega)) (N := ["job", "thing", "stand", "move"]) (cdv := cdv) (outer := outer) (H := H) (E := E)
    replace c_is_end := c_is_end.cal (hr.mono (by omega)) (N := ["job", "thing", "stand", "move"]) (cdv := cdv) (outer := outer) (H := H) (E := E)
    show SsD _ [.dat ((eP (eT eN) (eT (eP eN (eO eN)))) x_job), .dat ((eT (eP eN (eO eN))) x_thing), .un, .un] _ _
    obtain ⟨v5, hv5, h⟩ := bnd h
    refine ss_cons (s_if (t_w (w_or (p := (!true)) (q := v5) (t_not (t_val (p := true) (v_isTup G (v_var 1) ⟨_, rfl⟩))) (fun hc => by have h := cndF hv5 hc; obtain ⟨v3, hv3, h⟩ := bnd h; obtain rfl := Option.some.inj h; exact (w_or1 (t_not (t_val (p := (v3.all id)) (v_all (bs := v3) G (((k_lcD (g := (eP eN (eO eN))) (f := eB) [("move", 3)] (fun (b1 : (Nm × (Option Nm))) => [(3, (eP eN (eO eN)) b1)]) G hv3 ((it_T (f := (eP eN (eO eN))) (l := x_thing) (v_var 1))).l (.inl rfl) (fun s H C cl fp b1 hb => tg1 3 G.nd) (fun z H C cl fp b1 y4 G hb h => by show EvD _ [.dat ((eP (eT eN) (eT (eP eN (eO eN)))) x_job), .dat ((eT (eP eN (eO eN))) x_thing), .un, .dat ((eP eN (eO eN)) b1)] _ _ [.dat ((eP (eT eN) (eT (eP eN (eO eN)))) x_job), .dat ((eT (eP eN (eO eN))) x_thing), .un, .dat ((eP eN (eO eN)) b1)]; obtain ⟨v2, hv2, h⟩ := bnd h; obtain rfl := Option.some.inj h; exact (e_call c_is_move.blk rfl (a_cons (v_var 3) a_nil) ⟨b1, v2, hv2, rfl, rfl, rfl⟩)))).n G.calm G.nd).ev))))))) (fun hc => ?_) (fun hc => ?_))
    · have h := cndT h hc
      obtain rfl := Option.some.inj h
      exact ss_cons (s_ret e_bl ⟨rfl, (by first | exact trivial | exact ⟨rfl, trivial⟩)⟩)
    · have h := cndF h hc
      refine ss_nil ?_
      show SsD _ [.dat ((eP (eT eN) (eT (eP eN (eO eN)))) x_job), .dat ((eT (eP eN (eO eN))) x_thing), .un, .un] _ _
      obtain ⟨v6, hv6, h⟩ := bnd h
      refine ss_cons (w_set 2 G (e_call c_first_stand rfl (a_cons (v_var 0) a_nil) ⟨x_job, v6, hv6, rfl, rfl, rfl⟩) ?_)
      show SsD _ [.dat ((eP (eT eN) (eT (eP eN (eO eN)))) x_job), .dat ((eT (eP eN (eO eN))) x_thing), .dat ((eT (eP eN eN)) v6), .un] _ _
      obtain ⟨o11, ho11, h⟩ := bnd h
      refine ss_cons (k_for (g := (eP eN (eO eN))) (fun (s7 : (List (Nm × Nm))) => [.dat ((eP (eT eN) (eT (eP eN (eO eN)))) x_job), .dat ((eT (eP eN (eO eN))) x_thing), .dat ((eT (eP eN eN)) s7), .un]) (fun (b8 : (Nm × (Option Nm))) => [(3, (eP eN (eO eN)) b8)]) (fun r d δ' => d = eB r ∧ parsOk [.dat ((eP (eT eN) (eT (eP eN (eO eN)))) x_job), .dat ((eT (eP eN (eO eN))) x_thing)] δ') G PassesOwn.never ho11 (it_T (f := (eP eN (eO eN))) (l := x_thing) (v_var 1)) (fun b8 hb => tg1 3 G.nd) (fun s7 b8 => by intro z hz; simp at hz; subst hz; rfl) (fun s7 b8 t hb h => ?_) (fun s7 e => ?_) (fun r d δ' e hr => ?_))
      · show SsD _ [.dat ((eP (eT eN) (eT (eP eN (eO eN)))) x_job), .dat ((eT (eP eN (eO eN))) x_thing), .dat ((eT (eP eN eN)) s7), .dat ((eP eN (eO eN)) b8)] _ _
        obtain ⟨v9, hv9, h⟩ := bnd h
        refine ss_cons (s_if (t_not (t_val (p := v9) (e_call c_possible rfl (a_cons (v_var 0) (a_cons (v_var 2) (a_cons (v_var 3) a_nil))) ⟨x_job, s7, b8, v9, hv9, rfl, rfl, rfl⟩))) (fun hc => ?_) (fun hc => ?_))
        · have h := cndT h hc
          exact ss_cons (s_ret e_bl ⟨_, (Option.some.inj h).symm, rfl, (by first | exact trivial | exact ⟨rfl, trivial⟩)⟩)
        · have h := cndF h hc
          refine ss_nil ?_
          show SsD _ [.dat ((eP (eT eN) (eT (eP eN (eO eN)))) x_job), .dat ((eT (eP eN (eO eN))) x_thing), .dat ((eT (eP eN eN)) s7), .dat ((eP eN (eO eN)) b8)] _ _
          obtain ⟨v10, hv10, h⟩ := bnd h
          refine ss_cons (w_set 2 G (e_call c_moved rfl (a_cons (v_var 2) (a_cons (v_var 3) a_nil)) ⟨s7, b8, v10, hv10, rfl, rfl, rfl⟩) ?_)
          show SsD _ [.dat ((eP (eT eN) (eT (eP eN (eO eN)))) x_job), .dat ((eT (eP eN (eO eN))) x_thing), .dat ((eT (eP eN eN)) v10), .dat ((eP eN (eO eN)) b8)] _ _
          refine ss_forget 3 ?_
          exact ss_nil ⟨_, (Option.some.inj h).symm, rfl⟩
      · subst e
        have h : _ = some _ := h
        show SsD _ [.dat ((eP (eT eN) (eT (eP eN (eO eN)))) x_job), .dat ((eT (eP eN (eO eN))) x_thing), .dat ((eT (eP eN eN)) s7), .un] _ _
        obtain ⟨v12, hv12, h⟩ := bnd h
        obtain rfl := Option.some.inj h
        exact ss_cons (s_ret (e_call c_is_end rfl (a_cons (v_var 0) (a_cons (v_var 2) a_nil)) ⟨x_job, s7, v12, hv12, rfl, rfl, rfl⟩) ⟨rfl, (by first | exact trivial | exact ⟨rfl, trivial⟩)⟩)
      · subst e
        obtain rfl := Option.some.inj h
        exact hr
theorem sc_are_numbers : FnScope ["names", "thing", "pair", "name", "number"] ["names", "thing"] (defScope s_are_numbers) := ⟨rfl, rfl, rfl, by decide +kernel, rfl, by decide +kernel, by decide +kernel⟩
theorem can_are_numbers (F : Def1 K mg "are_numbers" s_are_numbers) (fr : Fre mg) (c_is_name : Can P w K mg base "is_name" ["thing"] 1 T_is_name) (c_is_number : Can P w K mg base "is_number" ["thing"] 1 T_is_number) : Can P w K mg base "are_numbers" ["names", "thing"] 2 (T_are_numbers) := by
  refine can_of F sc_are_numbers (by decide) fr (fun f fd h => h.bindsN fun _ _ _ _ _ _ us hl => match us, hl with | [_, _], _ => rfl) ?_ ?_
  · rintro as r as' ⟨x_names, x_thing, y, h, rfl, rfl, rfl⟩
    exact shp_dat [(eT eN) x_names, (eT (eP eN eI)) x_thing] rfl rfl rfl
  · rintro f cdv A outer s0 H E as r as' hr G ⟨x_names, x_thing, y, h, rfl, rfl, rfl⟩
    replace c_is_name := c_is_name.cal (hr.mono (by omega)) (N := ["names", "thing", "pair", "name", "number"]) (cdv := cdv) (outer := outer) (H := H) (E := E)
    replace c_is_number := c_is_number.cal (hr.mono (by omega)) (N := ["names", "thing", "pair", "name", "number"]) (cdv := cdv) (outer := outer) (H := H) (E := E)
    show SsD _ [.dat ((eT eN) x_names), .dat ((eT (eP eN eI)) x_thing), .un, .un, .un] _ _
    obtain ⟨v4, hv4, h⟩ := bnd h
    refine ss_cons (s_if (t_w (w_or (p := (!true)) (q := v4) (t_not (t_val (p := true) (v_isTup G (v_var 1) ⟨_, rfl⟩))) (fun hc => by have h := cndF hv4 hc; obtain ⟨v2, hv2, h⟩ := bnd h; obtain rfl := Option.some.inj h; exact (w_or1 (t_not (t_val (p := (v2.all id)) (v_all (bs := v2) G (((k_lcD (g := (eP eN eI)) (f := eB) [("pair", 2)] (fun (b1 : (Nm × Int)) => [(2, (eP eN eI) b1)]) G hv2 ((it_T (f := (eP eN eI)) (l := x_thing) (v_var 1))).l (.inl rfl) (fun s H C cl fp b1 hb => tg1 2 G.nd) (fun z H C cl fp b1 y3 G hb h => by show EvD _ [.dat ((eT eN) x_names), .dat ((eT (eP eN eI)) x_thing), .dat ((eP eN eI) b1), .un, .un] _ _ [.dat ((eT eN) x_names), .dat ((eT (eP eN eI)) x_thing), .dat ((eP eN eI) b1), .un, .un]; obtain rfl := Option.some.inj h; exact (e_and (p := true) (q := (decide ((2 : Int) = (2 : Int)))) (v_isTup G (v_var 2) ⟨_, rfl⟩) (fun _ => (e_one (v_eq (f := eI) (y := (2 : Int)) (z := (2 : Int)) G (v_lenP (f := eN) (g := eI) (z := b1) G (v_var 2)) (v_glo G.fr.ps)))))))).n G.calm G.nd).ev))))))) (fun hc => ?_) (fun hc => ?_))
    · have h := cndT h hc
      obtain rfl := Option.some.inj h
      exact ss_cons (s_ret e_bl ⟨rfl, (by first | exact trivial | exact ⟨rfl, trivial⟩)⟩)
    · have h := cndF h hc
      refine ss_nil ?_
      show SsD _ [.dat ((eT eN) x_names), .dat ((eT (eP eN eI)) x_thing), .un, .un, .un] _ _
      obtain ⟨v9, hv9, h⟩ := bnd h
      refine ss_cons (s_if (t_not (t_val (p := (v9.all id)) (v_all (bs := v9) G (((k_lcD (g := (eP eN eI)) (f := eB) [("name", 3), ("number", 4)] (fun (b5 : (Nm × Int)) => [(3, eN b5.1), (4, eI b5.2)]) G hv9 ((it_T (f := (eP eN eI)) (l := x_thing) (v_var 1))).l (.inl rfl) (fun s H C cl fp b5 hb => tg2 3 4 G.calm G.nd) (fun z H C cl fp b5 y10 G hb h => by show EvD _ [.dat ((eT eN) x_names), .dat ((eT (eP eN eI)) x_thing), .un, .dat (eN b5.1), .dat (eI b5.2)] _ _ [.dat ((eT eN) x_names), .dat ((eT (eP eN eI)) x_thing), .un, .dat (eN b5.1), .dat (eI b5.2)]; obtain ⟨v6, hv6, h⟩ := bnd h; obtain ⟨v8, hv8, h⟩ := bnd h; obtain rfl := Option.some.inj h; exact (e_and (p := v6) (q := v8) (e_call c_is_name.blk rfl (a_cons (v_var 3) a_nil) ⟨b5.1, v6, hv6, rfl, rfl, rfl⟩) (fun hc => by have h := cndT hv8 hc; obtain ⟨v7, hv7, h⟩ := bnd h; obtain rfl := Option.some.inj h; exact (e_and (p := v7) (q := (decide ((0 : Int) ≤ b5.2))) (e_call c_is_number.blk rfl (a_cons (v_var 4) a_nil) ⟨b5.2, v7, hv7, rfl, rfl, rfl⟩) (fun _ => (e_one (e_ge (i := b5.2) (j := (0 : Int)) (v_var 4) e_int))))))))).n G.calm G.nd).ev))) (fun hc => ?_) (fun hc => ?_))
      · have h := cndT h hc
        obtain rfl := Option.some.inj h
        exact ss_cons (s_ret e_bl ⟨rfl, (by first | exact trivial | exact ⟨rfl, trivial⟩)⟩)
      · have h := cndF h hc
        refine ss_nil ?_
        show SsD _ [.dat ((eT eN) x_names), .dat ((eT (eP eN eI)) x_thing), .un, .un, .un] _ _
        obtain ⟨v12, hv12, h⟩ := bnd h
        obtain rfl := Option.some.inj h
        exact ss_cons (s_ret (v_eq (f := (eL eN)) (y := v12) (z := x_names) G (((k_lcD (g := (eP eN eI)) (f := eN) [("name", 3), ("number", 4)] (fun (b11 : (Nm × Int)) => [(3, eN b11.1), (4, eI b11.2)]) G hv12 ((it_T (f := (eP eN eI)) (l := x_thing) (v_var 1))).l (.inl rfl) (fun s H C cl fp b11 hb => tg2 3 4 G.calm G.nd) (fun z H C cl fp b11 y13 G hb h => by show EvD _ [.dat ((eT eN) x_names), .dat ((eT (eP eN eI)) x_thing), .un, .dat (eN b11.1), .dat (eI b11.2)] _ _ [.dat ((eT eN) x_names), .dat ((eT (eP eN eI)) x_thing), .un, .dat (eN b11.1), .dat (eI b11.2)]; obtain rfl := Option.some.inj h; exact (v_var 3)))).n G.calm G.nd).ev ((n_lisT (f := eN) (l := x_names) G (v_var 0))).ev) ⟨rfl, (by first | exact trivial | exact ⟨rfl, trivial⟩)⟩)
theorem sc_tables_of : FnScope ["sizes", "wide", "thick"] ["sizes"] (defScope s_tables_of) := ⟨rfl, rfl, rfl, by decide +kernel, rfl, by decide +kernel, by decide +kernel⟩
theorem can_tables_of (F : Def1 K mg "tables_of" s_tables_of) (fr : Fre mg) (c_tupled : Can P w K mg base "tupled" ["thing"] 4 T_tupled) : Can P w K mg base "tables_of" ["sizes"] 5 (T_tables_of) := by
  refine can_of F sc_tables_of (by decide) fr (fun f fd h => h.bindsN fun _ _ _ _ _ _ us hl => match us, hl with | [_], _ => rfl) ?_ ?_
  · rintro as r as' ⟨x_sizes, y, h, rfl, rfl, rfl⟩
    exact shp_dat [(eP (eT (eP eN eI)) (eT (eP eN eI))) x_sizes] rfl rfl rfl
  · rintro f cdv A outer s0 H E as r as' hr G ⟨x_sizes, y, h, rfl, rfl, rfl⟩
    replace c_tupled := c_tupled.cal (hr.mono (by omega)) (N := ["sizes", "wide", "thick"]) (cdv := cdv) (outer := outer) (H := H) (E := E)
    show SsD _ [.dat ((eP (eT (eP eN eI)) (eT (eP eN eI))) x_sizes), .un, .un] _ _
    refine ss_cons (s_asg (d := (eP (eT (eP eN eI)) (eT (eP eN eI))) x_sizes) (ps := [(1, (eT (eP eN eI)) x_sizes.1), (2, (eT (eP eN eI)) x_sizes.2)]) (e_call c_tupled rfl (a_cons (v_var 0) a_nil) (tupT (eP (eT (eP eN eI)) (eT (eP eN eI))) x_sizes)) (tg2 1 2 G.calm G.nd) ?_ (by intro z hz; simp at hz; rcases hz with rfl | rfl <;> rfl))
    show SsD _ [.dat ((eP (eT (eP eN eI)) (eT (eP eN eI))) x_sizes), .dat ((eT (eP eN eI)) x_sizes.1), .dat ((eT (eP eN eI)) x_sizes.2)] _ _
    obtain ⟨v1, hv1, h⟩ := bnd h
    obtain ⟨v2, hv2, h⟩ := bnd h
    obtain rfl := Option.some.inj h
    exact ss_cons (s_ret (v_pair (f := (eM eI)) (g := (eM eI)) (y := v1) (z := v2) (v_dictT (f := eI) (l := x_sizes.1) (m := v1) G hv1 (v_var 1)) (v_dictT (f := eI) (l := x_sizes.2) (m := v2) G hv2 (v_var 2))) ⟨rfl, (by first | exact trivial | exact ⟨rfl, trivial⟩)⟩)
theorem sc_is_sizes : FnScope ["job", "thing", "wide", "thick", "goal", "box", "other"] ["job", "thing"] (defScope s_is_sizes) := ⟨rfl, rfl, rfl, by decide +kernel, rfl, by decide +kernel, by decide +kernel⟩
theorem can_is_sizes (F : Def1 K mg "is_sizes" s_is_sizes) (fr : Fre mg) (c_are_numbers : Can P w K mg base "are_numbers" ["names", "thing"] 2 T_are_numbers) (c_tupled : Can P w K mg base "tupled" ["thing"] 4 T_tupled) (c_boxes : Can P w K mg base "boxes" ["job"] 5 T_boxes) (c_tables_of : Can P w K mg base "tables_of" ["sizes"] 5 T_tables_of) (c_goal_of : Can P w K mg base "goal_of" ["job"] 5 T_goal_of) : Can P w K mg base "is_sizes" ["job", "thing"] 6 (T_is_sizes) := by
  refine can_of F sc_is_sizes (by decide) fr (fun f fd h => h.bindsN fun _ _ _ _ _ _ us hl => match us, hl with | [_, _], _ => rfl) ?_ ?_
  · rintro as r as' ⟨x_job, x_thing, y, h, rfl, rfl, rfl⟩
    exact shp_dat [(eP (eT eN) (eT (eP eN (eO eN)))) x_job, (eP (eT (eP eN eI)) (eT (eP eN eI))) x_thing] rfl rfl rfl
  · rintro f cdv A outer s0 H E as r as' hr G ⟨x_job, x_thing, y, h, rfl, rfl, rfl⟩
    replace c_are_numbers := c_are_numbers.cal (hr.mono (by omega)) (N := ["job", "thing", "wide", "thick", "goal", "box", "other"]) (cdv := cdv) (outer := outer) (H := H) (E := E)
    replace c_tupled := c_tupled.cal (hr.mono (by omega)) (N := ["job", "thing", "wide", "thick", "goal", "box", "other"]) (cdv := cdv) (outer := outer) (H := H) (E := E)
    replace c_boxes := c_boxes.cal (hr.mono (by omega)) (N := ["job", "thing", "wide", "thick", "goal", "box", "other"]) (cdv := cdv) (outer := outer) (H := H) (E := E)
    replace c_tables_of := c_tables_of.cal (hr.mono (by omega)) (N := ["job", "thing", "wide", "thick", "goal", "box", "other"]) (cdv := cdv) (outer := outer) (H := H) (E := E)
    replace c_goal_of := c_goal_of.cal (hr.mono (by omega)) (N := ["job", "thing", "wide", "thick", "goal", "box", "other"]) (cdv := cdv) (outer := outer) (H := H) (E := E)
    show SsD _ [.dat ((eP (eT eN) (eT (eP eN (eO eN)))) x_job), .dat ((eP (eT (eP eN eI)) (eT (eP eN eI))) x_thing), .un, .un, .un, .un, .un] _ _
    refine ss_cons (s_if (t_w (w_or (p := (!true)) (q := (!decide ((2 : Int) = (2 : Int)))) (t_not (t_val (p := true) (v_isTup G (v_var 1) ⟨_, rfl⟩))) (fun _ => (w_or1 (vt_ne (f := eI) (y := (2 : Int)) (z := (2 : Int)) G (v_lenP (f := (eT (eP eN eI))) (g := (eT (eP eN eI))) (z := x_thing) G (v_var 1)) (v_glo G.fr.ps)))))) (fun hc => ?_) (fun hc => ?_))
    · have h := cndT h hc
      obtain rfl := Option.some.inj h
      exact ss_cons (s_ret e_bl ⟨rfl, (by first | exact trivial | exact ⟨rfl, trivial⟩)⟩)
    · have h := cndF h hc
      refine ss_nil ?_
      show SsD _ [.dat ((eP (eT eN) (eT (eP eN (eO eN)))) x_job), .dat ((eP (eT (eP eN eI)) (eT (eP eN eI))) x_thing), .un, .un, .un, .un, .un] _ _
      obtain ⟨v1, hv1, h⟩ := bnd h
      obtain ⟨v4, hv4, h⟩ := bnd h
      refine ss_cons (s_if (t_w (w_or (p := (!v1)) (q := v4) (t_not (t_val (p := v1) (e_call c_are_numbers rfl (a_cons (v_fst (f := (eT eN)) (g := (eT (eP eN (eO eN)))) (y := x_job) (e_call c_tupled rfl (a_cons (v_var 0) a_nil) (tupT (eP (eT eN) (eT (eP eN (eO eN)))) x_job))) (a_cons (v_fst (f := (eT (eP eN eI))) (g := (eT (eP eN eI))) (y := x_thing) (v_var 1)) a_nil)) ⟨x_job.1, x_thing.1, v1, hv1, rfl, rfl, rfl⟩))) (fun hc => by have h := cndF hv4 hc; obtain ⟨v2, hv2, h⟩ := bnd h; obtain ⟨v3, hv3, h⟩ := bnd h; obtain rfl := Option.some.inj h; exact (w_or1 (t_not (t_val (p := v3) (e_call c_are_numbers rfl (a_cons (e_call c_boxes rfl (a_cons (v_var 0) a_nil) ⟨x_job, v2, hv2, rfl, rfl, rfl⟩) (a_cons (v_snd (f := (eT (eP eN eI))) (g := (eT (eP eN eI))) (y := x_thing) (v_var 1)) a_nil)) ⟨v2, x_thing.2, v3, hv3, rfl, rfl, rfl⟩))))))) (fun hc => ?_) (fun hc => ?_))
      · have h := cndT h hc
        obtain rfl := Option.some.inj h
        exact ss_cons (s_ret e_bl ⟨rfl, (by first | exact trivial | exact ⟨rfl, trivial⟩)⟩)
      · have h := cndF h hc
        refine ss_nil ?_
        show SsD _ [.dat ((eP (eT eN) (eT (eP eN (eO eN)))) x_job), .dat ((eP (eT (eP eN eI)) (eT (eP eN eI))) x_thing), .un, .un, .un, .un, .un] _ _
        obtain ⟨v5, hv5, h⟩ := bnd h
        refine ss_cons (s_asg (d := (eP (eM eI) (eM eI)) v5) (ps := [(2, (eM eI) v5.1), (3, (eM eI) v5.2)]) (e_call c_tables_of rfl (a_cons (v_var 1) a_nil) ⟨x_thing, v5, hv5, rfl, rfl, rfl⟩) (tg2 2 3 G.calm G.nd) ?_ (by intro z hz; simp at hz; rcases hz with rfl | rfl <;> rfl))
        show SsD _ [.dat ((eP (eT eN) (eT (eP eN (eO eN)))) x_job), .dat ((eP (eT (eP eN eI)) (eT (eP eN eI))) x_thing), .dat ((eM eI) v5.1), .dat ((eM eI) v5.2), .un, .un, .un] _ _
        obtain ⟨v6, hv6, h⟩ := bnd h
        refine ss_cons (w_set 4 G (e_call c_goal_of rfl (a_cons (v_var 0) a_nil) ⟨x_job, v6, hv6, rfl, rfl, rfl⟩) ?_)
        show SsD _ [.dat ((eP (eT eN) (eT (eP eN (eO eN)))) x_job), .dat ((eP (eT (eP eN eI)) (eT (eP eN eI))) x_thing), .dat ((eM eI) v5.1), .dat ((eM eI) v5.2), .dat ((eM (eO eN)) v6), .un, .un] _ _
        obtain ⟨v10, hv10, h⟩ := bnd h
        refine ss_cons (s_if (t_not (t_val (p := (v10.all id)) (v_all (bs := v10) G (((k_lcD (g := eN) (f := eB) [("box", 5)] (fun (b7 : Nm) => [(5, eN b7)]) G hv10 (it_K (f := (eO eN)) (d := v6) (v_var 4)) (.inl rfl) (fun s H C cl fp b7 hb => tg1 5 G.nd) (fun z H C cl fp b7 y11 G hb h => by show EvD _ [.dat ((eP (eT eN) (eT (eP eN (eO eN)))) x_job), .dat ((eP (eT (eP eN eI)) (eT (eP eN eI))) x_thing), .dat ((eM eI) v5.1), .dat ((eM eI) v5.2), .dat ((eM (eO eN)) v6), .dat (eN b7), .un] _ _ [.dat ((eP (eT eN) (eT (eP eN (eO eN)))) x_job), .dat ((eP (eT (eP eN eI)) (eT (eP eN eI))) x_thing), .dat ((eM eI) v5.1), .dat ((eM eI) v5.2), .dat ((eM (eO eN)) v6), .dat (eN b7), .un]; obtain ⟨v8, hv8, h⟩ := bnd h; obtain ⟨v9, hv9, h⟩ := bnd h; obtain rfl := Option.some.inj h; exact (e_le (i := v8) (j := v9) (v_lk (f := eI) (l := v5.2) (k := b7) (y := v8) G hv8 (v_var 3) (v_var 5)) (v_lk (f := eI) (l := v5.1) (k := b7) (y := v9) G hv9 (v_var 2) (v_var 5)))))).n G.calm G.nd).ev))) (fun hc => ?_) (fun hc => ?_))
        · have h := cndT h hc
          obtain rfl := Option.some.inj h
          exact ss_cons (s_ret e_bl ⟨rfl, (by first | exact trivial | exact ⟨rfl, trivial⟩)⟩)
        · have h := cndF h hc
          refine ss_nil ?_
          show SsD _ [.dat ((eP (eT eN) (eT (eP eN (eO eN)))) x_job), .dat ((eP (eT (eP eN eI)) (eT (eP eN eI))) x_thing), .dat ((eM eI) v5.1), .dat ((eM eI) v5.2), .dat ((eM (eO eN)) v6), .un, .un] _ _
          obtain ⟨v16, hv16, h⟩ := bnd h
          obtain rfl := Option.some.inj h
          exact ss_cons (s_ret (v_all (bs := v16) G (((k_lcD (g := (eS eN (eO eN))) (f := eB) [("box", 5), ("other", 6)] (fun (b12 : (Nm × (Option Nm))) => [(5, eN b12.1), (6, (eO eN) b12.2)]) G hv16 (it_I (f := (eO eN)) (d := v6) (v_var 4)) (.inl rfl) (fun s H C cl fp b12 hb => tg2S 5 6 G.calm G.nd) (fun z H C cl fp b12 y17 G hb h => by show EvD _ [.dat ((eP (eT eN) (eT (eP eN (eO eN)))) x_job), .dat ((eP (eT (eP eN eI)) (eT (eP eN eI))) x_thing), .dat ((eM eI) v5.1), .dat ((eM eI) v5.2), .dat ((eM (eO eN)) v6), .dat (eN b12.1), .dat ((eO eN) b12.2)] _ _ [.dat ((eP (eT eN) (eT (eP eN (eO eN)))) x_job), .dat ((eP (eT (eP eN eI)) (eT (eP eN eI))) x_thing), .dat ((eM eI) v5.1), .dat ((eM eI) v5.2), .dat ((eM (eO eN)) v6), .dat (eN b12.1), .dat ((eO eN) b12.2)]; obtain ⟨v15, hv15, h⟩ := bnd h; obtain rfl := Option.some.inj h; exact (e_or (p := b12.2.isNone) (q := v15) (v_isN (f := eN) (y := b12.2) (v_var 6)) (fun hc => by have h := cndF hv15 hc; obtain ⟨v13, hv13, h⟩ := bnd h; obtain ⟨v14, hv14, h⟩ := bnd h; obtain rfl := Option.some.inj h; exact (e_one (e_le (i := v13) (j := v14) (v_lk (f := eI) (l := v5.2) (k := b12.1) (y := v13) G hv13 (v_var 3) (v_var 5)) (v_lkO (f := eI) (l := v5.1) (k := b12.2) (y := v14) G hv14 (v_var 2) (v_var 6))))))))).n G.calm G.nd).ev) ⟨rfl, (by first | exact trivial | exact ⟨rfl, trivial⟩)⟩)
theorem sc_fits : FnScope ["job", "sizes", "box", "place", "wide", "thick"] ["job", "sizes", "box", "place"] (defScope s_fits) := ⟨rfl, rfl, rfl, by decide +kernel, rfl, by decide +kernel, by decide +kernel⟩
theorem can_fits (F : Def1 K mg "fits" s_fits) (fr : Fre mg) (c_tables_of : Can P w K mg base "tables_of" ["sizes"] 5 T_tables_of) : Can P w K mg base "fits" ["job", "sizes", "box", "place"] 6 (T_fits) := by
  refine can_of F sc_fits (by decide) fr (fun f fd h => h.bindsN fun _ _ _ _ _ _ us hl => match us, hl with | [_, _, _, _], _ => rfl) ?_ ?_
  · rintro as r as' ⟨x_job, x_sizes, x_box, x_place, y, h, rfl, rfl, rfl⟩
    exact shp_dat [(eP (eT eN) (eT (eP eN (eO eN)))) x_job, (eP (eT (eP eN eI)) (eT (eP eN eI))) x_sizes, eN x_box, eN x_place] rfl rfl rfl
  · rintro f cdv A outer s0 H E as r as' hr G ⟨x_job, x_sizes, x_box, x_place, y, h, rfl, rfl, rfl⟩
    replace c_tables_of := c_tables_of.cal (hr.mono (by omega)) (N := ["job", "sizes", "box", "place", "wide", "thick"]) (cdv := cdv) (outer := outer) (H := H) (E := E)
    show SsD _ [.dat ((eP (eT eN) (eT (eP eN (eO eN)))) x_job), .dat ((eP (eT (eP eN eI)) (eT (eP eN eI))) x_sizes), .dat (eN x_box), .dat (eN x_place), .un, .un] _ _
    obtain ⟨v1, hv1, h⟩ := bnd h
    refine ss_cons (s_asg (d := (eP (eM eI) (eM eI)) v1) (ps := [(4, (eM eI) v1.1), (5, (eM eI) v1.2)]) (e_call c_tables_of rfl (a_cons (v_var 1) a_nil) ⟨x_sizes, v1, hv1, rfl, rfl, rfl⟩) (tg2 4 5 G.calm G.nd) ?_ (by intro z hz; simp at hz; rcases hz with rfl | rfl <;> rfl))
    show SsD _ [.dat ((eP (eT eN) (eT (eP eN (eO eN)))) x_job), .dat ((eP (eT (eP eN eI)) (eT (eP eN eI))) x_sizes), .dat (eN x_box), .dat (eN x_place), .dat ((eM eI) v1.1), .dat ((eM eI) v1.2)] _ _
    refine ss_cons (s_if (vt_dnin (f := eI) (l := v1.2) (k := x_box) G (v_var 2) (v_var 5)) (fun hc => ?_) (fun hc => ?_))
    · have h := cndT h hc
      cases h
    · have h := cndF h hc
      refine ss_nil ?_
      show SsD _ [.dat ((eP (eT eN) (eT (eP eN (eO eN)))) x_job), .dat ((eP (eT (eP eN eI)) (eT (eP eN eI))) x_sizes), .dat (eN x_box), .dat (eN x_place), .dat ((eM eI) v1.1), .dat ((eM eI) v1.2)] _ _
      refine ss_cons (s_if (vt_dnin (f := eI) (l := v1.1) (k := x_place) G (v_var 3) (v_var 4)) (fun hc => ?_) (fun hc => ?_))
      · have h := cndT h hc
        cases h
      · have h := cndF h hc
        refine ss_nil ?_
        show SsD _ [.dat ((eP (eT eN) (eT (eP eN (eO eN)))) x_job), .dat ((eP (eT (eP eN eI)) (eT (eP eN eI))) x_sizes), .dat (eN x_box), .dat (eN x_place), .dat ((eM eI) v1.1), .dat ((eM eI) v1.2)] _ _
        obtain ⟨v2, hv2, h⟩ := bnd h
        obtain ⟨v3, hv3, h⟩ := bnd h
        obtain rfl := Option.some.inj h
        exact ss_cons (s_ret (e_le (i := v2) (j := v3) (v_lk (f := eI) (l := v1.2) (k := x_box) (y := v2) G hv2 (v_var 5) (v_var 2)) (v_lk (f := eI) (l := v1.1) (k := x_place) (y := v3) G hv3 (v_var 4) (v_var 3))) ⟨rfl, (by first | exact trivial | exact ⟨rfl, trivial⟩)⟩)
end
end ND

/-! G4 -/
set_option Elab.async false
set_option linter.all false
set_option maxRecDepth 100000
set_option maxHeartbeats 4000000
namespace ND
open PySem PySem.Spec PyProof.Rows L2 NA
section
variable {P : Program} {w : World} {K : PySem.W.Frag} {mg : Str → Option Value} {base : Heap}

def m_hole_of (x_job : ((List Nm) × (List (Nm × (Option Nm))))) (x_sizes : ((List (Nm × Int)) × (List (Nm × Int)))) : Option (Option Int) :=
  (m_tables_of x_sizes).bind fun v1 =>
  (m_goal_of x_job).bind fun v2 =>
  (m_free_places x_job).bind fun v3 =>
  (m_chains x_job).bind fun v4 =>
  (forS (fun (s5 : (List Nm)) (b6 : (List Nm)) => (at' b6 (-(1 : Int))).bind fun v7 =>
  (lk v2 v7).bind fun v8 =>
  (chk (decide ((((b6.map some) ++ (v8 :: ([] : List (Option Nm))))).length < 2000))).bind fun u9 =>
  (cmpM (fun (b10 : (Option Nm)) => some (!b10.isNone)) (fun (b10 : (Option Nm)) => (b10).bind fun v11 =>
  some v11) ((b6.map some) ++ (v8 :: ([] : List (Option Nm))))).bind fun v12 =>
  (chk (decide (s5.length + v12.length < 2000))).bind fun u14 =>
  some (s5 ++ v12)) v4 v3).bind fun o15 =>
  (cmpM (fun _ => some true) (fun (b16 : Nm) => (lk v1.1 b16).bind fun v17 =>
  some v17) o15).bind fun v18 =>
  some (mxL leI v18)
def T_hole_of : FT := fun as r as' => ∃ (x_job : ((List Nm) × (List (Nm × (Option Nm))))) (x_sizes : ((List (Nm × Int)) × (List (Nm × Int)))) (y : (Option Int)), m_hole_of x_job x_sizes = some y ∧ as = [.dat ((eP (eT eN) (eT (eP eN (eO eN)))) x_job), .dat ((eP (eT (eP eN eI)) (eT (eP eN eI))) x_sizes)] ∧ r = (eO eI) y ∧ as' = as
def m_opened_by (x_job : ((List Nm) × (List (Nm × (Option Nm))))) (x_sizes : ((List (Nm × Int)) × (List (Nm × Int)))) (x_hole : (Option Int)) : Option ((List ((List Nm) × Int)) × (List (List Nm))) :=
  (m_tables_of x_sizes).bind fun v1 =>
  (m_rings x_job).bind fun v2 =>
  (whileM (R := ((List ((List Nm) × Int)) × (List (List Nm)))) (fun (s3 : (Option Int) × (List ((List Nm) × Int)) × (List (List Nm))) => some true) (fun (s3 : (Option Int) × (List ((List Nm) × Int)) × (List (List Nm))) => (cmpM (fun (b4 : (List Nm)) => (bif (!s3.1.isNone) then ((cmpM (fun _ => some true) (fun (b5 : Nm) => (lk v1.2 b5).bind fun v6 =>
  some v6) b4).bind fun v7 =>
  (mnL leI v7).bind fun v9 =>
  (s3.1).bind fun v10 =>
  some (decide (v9 ≤ v10))) else some true).bind fun v11 =>
  some ((!s3.1.isNone) && v11)) (fun (b4 : (List Nm)) => some b4) s3.2.2).bind fun v12 =>
  bif (decide ((v12.length : Int) = (0 : Int))) then (some (.inr (s3.2.1, s3.2.2))) else ((s3.1).bind fun v14 =>
  (at' v12 (0 : Int)).bind fun v15 =>
  (cmpM (fun _ => some true) (fun (b16 : Nm) => (lk v1.1 b16).bind fun v17 =>
  some v17) v15).bind fun v18 =>
  (mxL leI v18).bind fun v20 =>
  (at' v12 (0 : Int)).bind fun v21 =>
  (chk (decide (s3.2.1.length < 2000))).bind fun u22 =>
  (at' v12 (0 : Int)).bind fun v23 =>
  (plc s3.2.2 v23).bind fun v24 =>
  some (.inl ((some (if v20 > v14 then v20 else v14)), (s3.2.1 ++ [(v21, (if v20 > v14 then v20 else v14))]), (s3.2.2.eraseIdx v24))))) 40 (x_hole, ([] : List ((List Nm) × Int)), v2)).bind fun o25 => match o25 with
  | .inl s3 => (none)
  | .inr r => some r
def T_opened_by : FT := fun as r as' => ∃ (x_job : ((List Nm) × (List (Nm × (Option Nm))))) (x_sizes : ((List (Nm × Int)) × (List (Nm × Int)))) (x_hole : (Option Int)) (y : ((List ((List Nm) × Int)) × (List (List Nm)))), m_opened_by x_job x_sizes x_hole = some y ∧ as = [.dat ((eP (eT eN) (eT (eP eN (eO eN)))) x_job), .dat ((eP (eT (eP eN eI)) (eT (eP eN eI))) x_sizes), .dat ((eO eI) x_hole)] ∧ r = (eP (eT (eP (eT eN) eI)) (eT (eT eN))) y ∧ as' = as
def m_shut_rings (x_job : ((List Nm) × (List (Nm × (Option Nm))))) (x_sizes : ((List (Nm × Int)) × (List (Nm × Int)))) : Option (List (List Nm)) :=
  (m_hole_of x_job x_sizes).bind fun v1 =>
  (m_opened_by x_job x_sizes v1).bind fun v2 =>
  some v2.2
def T_shut_rings : FT := fun as r as' => ∃ (x_job : ((List Nm) × (List (Nm × (Option Nm))))) (x_sizes : ((List (Nm × Int)) × (List (Nm × Int)))) (y : (List (List Nm))), m_shut_rings x_job x_sizes = some y ∧ as = [.dat ((eP (eT eN) (eT (eP eN (eO eN)))) x_job), .dat ((eP (eT (eP eN eI)) (eT (eP eN eI))) x_sizes)] ∧ r = (eT (eT eN)) y ∧ as' = as
def m_can_be_done_by (x_job : ((List Nm) × (List (Nm × (Option Nm))))) (x_sizes : ((List (Nm × Int)) × (List (Nm × Int)))) : Option Bool :=
  (m_shut_rings x_job x_sizes).bind fun v1 =>
  some (decide ((v1.length : Int) = (0 : Int)))
def T_can_be_done_by : FT := fun as r as' => ∃ (x_job : ((List Nm) × (List (Nm × (Option Nm))))) (x_sizes : ((List (Nm × Int)) × (List (Nm × Int)))) (y : Bool), m_can_be_done_by x_job x_sizes = some y ∧ as = [.dat ((eP (eT eN) (eT (eP eN (eO eN)))) x_job), .dat ((eP (eT (eP eN eI)) (eT (eP eN eI))) x_sizes)] ∧ r = eB y ∧ as' = as
def m_ring_moves (rec : ((List (Nm × Int)) × (List (Nm × Int))) → Nm → (List (List Nm)) → Option ((List (Nm × (Option Nm))) × (List (List Nm)))) (x_ring : (List Nm)) (x_sizes : ((List (Nm × Int)) × (List (Nm × Int)))) (x_hole : Nm) (x_left : (List (List Nm))) : Option ((List (Nm × (Option Nm))) × (List (List Nm))) :=
  (m_tables_of x_sizes).bind fun v1 =>
  (cmpM (fun _ => some true) (fun (b2 : (Int × Nm)) => (lk v1.2 b2.2).bind fun v3 =>
  some (v3, b2.1)) (enm x_ring)).bind fun v4 =>
  (mnL lePII v4).bind fun v6 =>
  (chk (decide ((((cutD x_ring (some v6.2) none) ++ ((cutD x_ring none (some v6.2)) ++ ([] : List Nm)))).length < 2000))).bind fun u7 =>
  (at' ((cutD x_ring (some v6.2) none) ++ ((cutD x_ring none (some v6.2)) ++ ([] : List Nm))) (0 : Int)).bind fun v8 =>
  (at' ((cutD x_ring (some v6.2) none) ++ ((cutD x_ring none (some v6.2)) ++ ([] : List Nm))) (0 : Int)).bind fun v9 =>
  (chk (!((cutD x_ring (some v6.2) none) ++ ((cutD x_ring none (some v6.2)) ++ ([] : List Nm))).isEmpty)).bind fun u10 =>
  (forS (fun (s11 : (List (Nm × (Option Nm))) × (List (List Nm)) × Nm) (b12 : Nm) => (rec x_sizes s11.2.2 s11.2.1).bind fun v13 =>
  (chk (decide (s11.1.length + v13.1.length < 2000))).bind fun u14 =>
  (chk (decide ((s11.1 ++ v13.1).length < 2000))).bind fun u15 =>
  some (((s11.1 ++ v13.1) ++ [(b12, (some s11.2.2))]), v13.2, b12)) (((cutD x_ring (some v6.2) none) ++ ((cutD x_ring none (some v6.2)) ++ ([] : List Nm))).drop 1).reverse (((v8, (some x_hole)) :: ([] : List (Nm × (Option Nm)))), x_left, v9)).bind fun o16 =>
  (rec x_sizes o16.2.2 o16.2.1).bind fun v17 =>
  (chk (decide (o16.1.length + v17.1.length < 2000))).bind fun u18 =>
  (chk (decide ((((o16.1 ++ v17.1) ++ ((x_hole, (some o16.2.2)) :: ([] : List (Nm × (Option Nm)))))).length < 2000))).bind fun u19 =>
  some (((o16.1 ++ v17.1) ++ ((x_hole, (some o16.2.2)) :: ([] : List (Nm × (Option Nm))))), v17.2)
def T_ring_moves (m : (List Nm) → ((List (Nm × Int)) × (List (Nm × Int))) → Nm → (List (List Nm)) → Option ((List (Nm × (Option Nm))) × (List (List Nm)))) : FT := fun as r as' => ∃ (x_ring : (List Nm)) (x_sizes : ((List (Nm × Int)) × (List (Nm × Int)))) (x_hole : Nm) (x_left : (List (List Nm))) (y : ((List (Nm × (Option Nm))) × (List (List Nm)))), m x_ring x_sizes x_hole x_left = some y ∧ as = [.dat ((eT eN) x_ring), .dat ((eP (eT (eP eN eI)) (eT (eP eN eI))) x_sizes), .dat (eN x_hole), .par ((eL (eT eN)) x_left)] ∧ r = (eL (eP eN (eO eN))) y.1 ∧ as' = [.dat ((eT eN) x_ring), .dat ((eP (eT (eP eN eI)) (eT (eP eN eI))) x_sizes), .dat (eN x_hole), .par ((eL (eT eN)) y.2)]
def m_hole_moves (rec : (List Nm) → ((List (Nm × Int)) × (List (Nm × Int))) → Nm → (List (List Nm)) → Option ((List (Nm × (Option Nm))) × (List (List Nm)))) (x_sizes : ((List (Nm × Int)) × (List (Nm × Int)))) (x_hole : Nm) (x_left : (List (List Nm))) : Option ((List (Nm × (Option Nm))) × (List (List Nm))) :=
  (m_tables_of x_sizes).bind fun v1 =>
  (forS (fun (s2 : (List (List Nm)) × (List (Nm × (Option Nm)))) (b3 : (List Nm)) => (bif (cont s2.1 b3) then ((cmpM (fun _ => some true) (fun (b4 : Nm) => (lk v1.2 b4).bind fun v5 =>
  some v5) b3).bind fun v6 =>
  (mnL leI v6).bind fun v8 =>
  (lk v1.1 x_hole).bind fun v9 =>
  some (decide (v8 ≤ v9))) else some true).bind fun v10 =>
  (bif ((cont s2.1 b3) && v10) then ((plc s2.1 b3).bind fun v12 =>
  (rec b3 x_sizes x_hole (s2.1.eraseIdx v12)).bind fun v13 =>
  (chk (decide (s2.2.length + v13.1.length < 2000))).bind fun u14 =>
  some (v13.2, (s2.2 ++ v13.1))) else (some (s2.1, s2.2))).bind fun s11 =>
  some (s11.1, s11.2)) x_left (x_left, ([] : List (Nm × (Option Nm))))).bind fun o15 =>
  some (o15.2, o15.1)
def T_hole_moves (m : ((List (Nm × Int)) × (List (Nm × Int))) → Nm → (List (List Nm)) → Option ((List (Nm × (Option Nm))) × (List (List Nm)))) : FT := fun as r as' => ∃ (x_sizes : ((List (Nm × Int)) × (List (Nm × Int)))) (x_hole : Nm) (x_left : (List (List Nm))) (y : ((List (Nm × (Option Nm))) × (List (List Nm)))), m x_sizes x_hole x_left = some y ∧ as = [.dat ((eP (eT (eP eN eI)) (eT (eP eN eI))) x_sizes), .dat (eN x_hole), .par ((eL (eT eN)) x_left)] ∧ r = (eL (eP eN (eO eN))) y.1 ∧ as' = [.dat ((eP (eT (eP eN eI)) (eT (eP eN eI))) x_sizes), .dat (eN x_hole), .par ((eL (eT eN)) y.2)]
theorem sc_hole_of : FnScope ["job", "sizes", "wide", "goal", "spots", "chain", "place"] ["job", "sizes"] (defScope s_hole_of) := ⟨rfl, rfl, rfl, by decide +kernel, rfl, by decide +kernel, by decide +kernel⟩
theorem can_hole_of (F : Def1 K mg "hole_of" s_hole_of) (fr : Fre mg) (c_tables_of : Can P w K mg base "tables_of" ["sizes"] 5 T_tables_of) (c_goal_of : Can P w K mg base "goal_of" ["job"] 5 T_goal_of) (c_free_places : Can P w K mg base "free_places" ["job"] 5 T_free_places) (c_chains : Can P w K mg base "chains" ["job"] 6 T_chains) : Can P w K mg base "hole_of" ["job", "sizes"] 7 (T_hole_of) := by
  refine can_of F sc_hole_of (by decide) fr (fun f fd h => h.bindsN fun _ _ _ _ _ _ us hl => match us, hl with | [_, _], _ => rfl) ?_ ?_
  · rintro as r as' ⟨x_job, x_sizes, y, h, rfl, rfl, rfl⟩
    exact shp_dat [(eP (eT eN) (eT (eP eN (eO eN)))) x_job, (eP (eT (eP eN eI)) (eT (eP eN eI))) x_sizes] rfl rfl rfl
  · rintro f cdv A outer s0 H E as r as' hr G ⟨x_job, x_sizes, y, h, rfl, rfl, rfl⟩
    replace c_tables_of := c_tables_of.cal (hr.mono (by omega)) (N := ["job", "sizes", "wide", "goal", "spots", "chain", "place"]) (cdv := cdv) (outer := outer) (H := H) (E := E)
    replace c_goal_of := c_goal_of.cal (hr.mono (by omega)) (N := ["job", "sizes", "wide", "goal", "spots", "chain", "place"]) (cdv := cdv) (outer := outer) (H := H) (E := E)
    replace c_free_places := c_free_places.cal (hr.mono (by omega)) (N := ["job", "sizes", "wide", "goal", "spots", "chain", "place"]) (cdv := cdv) (outer := outer) (H := H) (E := E)
    replace c_chains := c_chains.cal (hr.mono (by omega)) (N := ["job", "sizes", "wide", "goal", "spots", "chain", "place"]) (cdv := cdv) (outer := outer) (H := H) (E := E)
    show SsD _ [.dat ((eP (eT eN) (eT (eP eN (eO eN)))) x_job), .dat ((eP (eT (eP eN eI)) (eT (eP eN eI))) x_sizes), .un, .un, .un, .un, .un] _ _
    obtain ⟨v1, hv1, h⟩ := bnd h
    obtain ⟨v2, hv2, h⟩ := bnd h
    refine ss_cons (s_parT (is := [2, 3]) (x_dat (v_fst (f := (eM eI)) (g := (eM eI)) (y := v1) (e_call c_tables_of rfl (a_cons (v_var 1) a_nil) ⟨x_sizes, v1, hv1, rfl, rfl, rfl⟩)) (x_dat (e_call c_goal_of rfl (a_cons (v_var 0) a_nil) ⟨x_job, v2, hv2, rfl, rfl, rfl⟩) x_nil)) G.calm ⟨_, (gs_cons (i := 2) G.nd rfl (by first | exact .inl rfl | exact .inr rfl) (gs_cons (i := 3) G.nd rfl (by first | exact .inl rfl | exact .inr rfl) gs_nil))⟩ ?_ rfl (by decide) (by intro i hi; simp at hi; rcases hi with rfl | rfl <;> rfl) (hz := by show 2 ≤ sizeLine; decide))
    show SsD _ [.dat ((eP (eT eN) (eT (eP eN (eO eN)))) x_job), .dat ((eP (eT (eP eN eI)) (eT (eP eN eI))) x_sizes), .dat ((eM eI) v1.1), .dat ((eM (eO eN)) v2), .un, .un, .un] _ _
    obtain ⟨v3, hv3, h⟩ := bnd h
    refine ss_cons (s_setN (i := 4) G.nd rfl (by first | exact .inl rfl | exact .inr rfl) (n_lisT (f := eN) (l := v3) G (e_call c_free_places rfl (a_cons (v_var 0) a_nil) ⟨x_job, v3, hv3, rfl, rfl, rfl⟩)) ?_)
    show SsD _ [.dat ((eP (eT eN) (eT (eP eN (eO eN)))) x_job), .dat ((eP (eT (eP eN eI)) (eT (eP eN eI))) x_sizes), .dat ((eM eI) v1.1), .dat ((eM (eO eN)) v2), .own ((eL eN) v3), .un, .un] _ _
    obtain ⟨v4, hv4, h⟩ := bnd h
    obtain ⟨o15, ho15, h⟩ := bnd h
    refine ss_cons (k_forS (g := (eT eN)) (fun (s5 : (List Nm)) => [.dat ((eP (eT eN) (eT (eP eN (eO eN)))) x_job), .dat ((eP (eT (eP eN eI)) (eT (eP eN eI))) x_sizes), .dat ((eM eI) v1.1), .dat ((eM (eO eN)) v2), .own ((eL eN) s5), .un, .un]) (fun (b6 : (List Nm)) => [(5, (eT eN) b6)]) G PassesOwn.never ho15 (it_T (f := (eT eN)) (l := v4) (e_call c_chains rfl (a_cons (v_var 0) a_nil) ⟨x_job, v4, hv4, rfl, rfl, rfl⟩)) (fun b6 hb => tg1 5 G.nd) (fun s5 b6 t hb h => ?_) ?_)
    · show SsD _ [.dat ((eP (eT eN) (eT (eP eN (eO eN)))) x_job), .dat ((eP (eT (eP eN eI)) (eT (eP eN eI))) x_sizes), .dat ((eM eI) v1.1), .dat ((eM (eO eN)) v2), .own ((eL eN) s5), .dat ((eT eN) b6), .un] _ _
      obtain ⟨v7, hv7, h⟩ := bnd h
      obtain ⟨v8, hv8, h⟩ := bnd h
      obtain ⟨u9, hu9, h⟩ := bnd h
      obtain ⟨v12, hv12, h⟩ := bnd h
      obtain ⟨u14, hu14, h⟩ := bnd h
      refine ss_cons (s_expr (v_ext (f := eN) (l := s5) (m := v12) 4 (((k_lcTD (g := (eO eN)) (f := eN) [("place", 6)] (fun (b10 : (Option Nm)) => [(6, (eO eN) b10)]) G hv12 ((it_T (f := (eO eN)) (l := ((b6.map some) ++ (v8 :: ([] : List (Option Nm))))) (e_tupV (f := (eO eN)) (l := ((b6.map some) ++ (v8 :: ([] : List (Option Nm))))) (chk_of hu9) (va_starT (f := (eO eN)) (xs := (b6.map some)) (v_TO (v_var 5)) (va_cons (f := (eO eN)) (y := v8) (v_lk (f := (eO eN)) (l := v2) (k := v7) (y := v8) G hv8 (v_var 3) (v_atT (f := eN) (l := b6) (y := v7) hv7 (v_var 5) (e_neg e_int))) va_nil))))).l (.inl rfl) (fun s H C cl fp b10 hb => tg1 6 G.nd) (fun z H C cl fp b10 y13 G hb h => by show TvD _ [.dat ((eP (eT eN) (eT (eP eN (eO eN)))) x_job), .dat ((eP (eT (eP eN eI)) (eT (eP eN eI))) x_sizes), .dat ((eM eI) v1.1), .dat ((eM (eO eN)) v2), .own ((eL eN) s5), .dat ((eT eN) b6), .dat ((eO eN) b10)] _ _ [.dat ((eP (eT eN) (eT (eP eN (eO eN)))) x_job), .dat ((eP (eT (eP eN eI)) (eT (eP eN eI))) x_sizes), .dat ((eM eI) v1.1), .dat ((eM (eO eN)) v2), .own ((eL eN) s5), .dat ((eT eN) b6), .dat ((eO eN) b10)]; obtain rfl := Option.some.inj h; exact (vt_notN (f := eN) (y := b10) (v_var 6))) (fun z H C cl fp b10 y13 G hb _ h => by show EvD _ [.dat ((eP (eT eN) (eT (eP eN (eO eN)))) x_job), .dat ((eP (eT (eP eN eI)) (eT (eP eN eI))) x_sizes), .dat ((eM eI) v1.1), .dat ((eM (eO eN)) v2), .own ((eL eN) s5), .dat ((eT eN) b6), .dat ((eO eN) b10)] _ _ [.dat ((eP (eT eN) (eT (eP eN (eO eN)))) x_job), .dat ((eP (eT (eP eN eI)) (eT (eP eN eI))) x_sizes), .dat ((eM eI) v1.1), .dat ((eM (eO eN)) v2), .own ((eL eN) s5), .dat ((eT eN) b6), .dat ((eO eN) b10)]; obtain ⟨v11, hv11, h⟩ := bnd h; obtain rfl := Option.some.inj h; exact (EvD.cast ((v_var 6)) (show eO eN b10 = eN v11 from congrArg (eO eN) hv11))))).n G.calm G.nd).ev (.inl rfl) (chk_of hu14) ⟨_, .inl rfl⟩) ?_)
      show SsD _ [.dat ((eP (eT eN) (eT (eP eN (eO eN)))) x_job), .dat ((eP (eT (eP eN eI)) (eT (eP eN eI))) x_sizes), .dat ((eM eI) v1.1), .dat ((eM (eO eN)) v2), .own ((eL eN) (s5 ++ v12)), .dat ((eT eN) b6), .un] _ _
      refine ss_forget 5 ?_
      obtain rfl := Option.some.inj h
      exact ss_nil rfl
    show SsD _ [.dat ((eP (eT eN) (eT (eP eN (eO eN)))) x_job), .dat ((eP (eT (eP eN eI)) (eT (eP eN eI))) x_sizes), .dat ((eM eI) v1.1), .dat ((eM (eO eN)) v2), .own ((eL eN) o15), .un, .un] _ _
    refine ss_freezeL 4 rfl ?_
    show SsD _ [.dat ((eP (eT eN) (eT (eP eN (eO eN)))) x_job), .dat ((eP (eT (eP eN eI)) (eT (eP eN eI))) x_sizes), .dat ((eM eI) v1.1), .dat ((eM (eO eN)) v2), .dat ((eL eN) o15), .un, .un] _ _
    obtain ⟨v18, hv18, h⟩ := bnd h
    obtain rfl := Option.some.inj h
    exact ss_cons (s_ret (v_maxD (f := eI) (l := v18) G (((k_lcD (g := eN) (f := eI) [("place", 6)] (fun (b16 : Nm) => [(6, eN b16)]) G hv18 ((it_L (f := eN) (l := o15) (v_var 4))).l (.inl rfl) (fun s H C cl fp b16 hb => tg1 6 G.nd) (fun z H C cl fp b16 y19 G hb h => by show EvD _ [.dat ((eP (eT eN) (eT (eP eN (eO eN)))) x_job), .dat ((eP (eT (eP eN eI)) (eT (eP eN eI))) x_sizes), .dat ((eM eI) v1.1), .dat ((eM (eO eN)) v2), .dat ((eL eN) o15), .un, .dat (eN b16)] _ _ [.dat ((eP (eT eN) (eT (eP eN (eO eN)))) x_job), .dat ((eP (eT (eP eN eI)) (eT (eP eN eI))) x_sizes), .dat ((eM eI) v1.1), .dat ((eM (eO eN)) v2), .dat ((eL eN) o15), .un, .dat (eN b16)]; obtain ⟨v17, hv17, h⟩ := bnd h; obtain rfl := Option.some.inj h; exact (v_lk (f := eI) (l := v1.1) (k := b16) (y := v17) G hv17 (v_var 2) (v_var 6))))).n G.calm G.nd).ev) ⟨rfl, (by first | exact trivial | exact ⟨rfl, trivial⟩)⟩)
theorem sc_opened_by : FnScope ["job", "sizes", "hole", "wide", "thick", "left", "found", "here", "fine", "ring", "box", "place"] ["job", "sizes", "hole"] (defScope s_opened_by) := ⟨rfl, rfl, rfl, by decide +kernel, rfl, by decide +kernel, by decide +kernel⟩
theorem can_opened_by (F : Def1 K mg "opened_by" s_opened_by) (fr : Fre mg) (c_tables_of : Can P w K mg base "tables_of" ["sizes"] 5 T_tables_of) (c_rings : Can P w K mg base "rings" ["job"] 6 T_rings) : Can P w K mg base "opened_by" ["job", "sizes", "hole"] 7 (T_opened_by) := by
  refine can_of F sc_opened_by (by decide) fr (fun f fd h => h.bindsN fun _ _ _ _ _ _ us hl => match us, hl with | [_, _, _], _ => rfl) ?_ ?_
  · rintro as r as' ⟨x_job, x_sizes, x_hole, y, h, rfl, rfl, rfl⟩
    exact shp_dat [(eP (eT eN) (eT (eP eN (eO eN)))) x_job, (eP (eT (eP eN eI)) (eT (eP eN eI))) x_sizes, (eO eI) x_hole] rfl rfl rfl
  · rintro f cdv A outer s0 H E as r as' hr G ⟨x_job, x_sizes, x_hole, y, h, rfl, rfl, rfl⟩
    replace c_tables_of := c_tables_of.cal (hr.mono (by omega)) (N := ["job", "sizes", "hole", "wide", "thick", "left", "found", "here", "fine", "ring", "box", "place"]) (cdv := cdv) (outer := outer) (H := H) (E := E)
    replace c_rings := c_rings.cal (hr.mono (by omega)) (N := ["job", "sizes", "hole", "wide", "thick", "left", "found", "here", "fine", "ring", "box", "place"]) (cdv := cdv) (outer := outer) (H := H) (E := E)
    show SsD _ [.dat ((eP (eT eN) (eT (eP eN (eO eN)))) x_job), .dat ((eP (eT (eP eN eI)) (eT (eP eN eI))) x_sizes), .dat ((eO eI) x_hole), .un, .un, .un, .un, .un, .un, .un, .un, .un] _ _
    obtain ⟨v1, hv1, h⟩ := bnd h
    refine ss_cons (s_asg (d := (eP (eM eI) (eM eI)) v1) (ps := [(3, (eM eI) v1.1), (4, (eM eI) v1.2)]) (e_call c_tables_of rfl (a_cons (v_var 1) a_nil) ⟨x_sizes, v1, hv1, rfl, rfl, rfl⟩) (tg2 3 4 G.calm G.nd) ?_ (by intro z hz; simp at hz; rcases hz with rfl | rfl <;> rfl))
    show SsD _ [.dat ((eP (eT eN) (eT (eP eN (eO eN)))) x_job), .dat ((eP (eT (eP eN eI)) (eT (eP eN eI))) x_sizes), .dat ((eO eI) x_hole), .dat ((eM eI) v1.1), .dat ((eM eI) v1.2), .un, .un, .un, .un, .un, .un, .un] _ _
    obtain ⟨v2, hv2, h⟩ := bnd h
    refine ss_cons (s_parT (is := [5, 6, 7]) (x_new (n_lisT (f := (eT eN)) (l := v2) G (e_call c_rings rfl (a_cons (v_var 0) a_nil) ⟨x_job, v2, hv2, rfl, rfl, rfl⟩)) (x_new (n_lstV (f := (eP (eT eN) eI)) (l := ([] : List ((List Nm) × Int))) rfl va_nil) (x_dat (v_var 2) x_nil))) G.calm ⟨_, (gs_cons (i := 5) G.nd rfl (by first | exact .inl rfl | exact .inr rfl) (gs_cons (i := 6) G.nd rfl (by first | exact .inl rfl | exact .inr rfl) (gs_cons (i := 7) G.nd rfl (by first | exact .inl rfl | exact .inr rfl) gs_nil)))⟩ ?_ rfl (by decide) (by intro i hi; simp at hi; rcases hi with rfl | rfl | rfl <;> rfl) (hz := by show 3 ≤ sizeLine; decide))
    show SsD _ [.dat ((eP (eT eN) (eT (eP eN (eO eN)))) x_job), .dat ((eP (eT (eP eN eI)) (eT (eP eN eI))) x_sizes), .dat ((eO eI) x_hole), .dat ((eM eI) v1.1), .dat ((eM eI) v1.2), .own ((eL (eT eN)) v2), .own ((eL (eP (eT eN) eI)) ([] : List ((List Nm) × Int))), .dat ((eO eI) x_hole), .un, .un, .un, .un] _ _
    obtain ⟨o25, ho25, h⟩ := bnd h
    refine ss_cons (k_while (s0 := (x_hole, ([] : List ((List Nm) × Int)), v2)) (fun (s3 : (Option Int) × (List ((List Nm) × Int)) × (List (List Nm))) => [.dat ((eP (eT eN) (eT (eP eN (eO eN)))) x_job), .dat ((eP (eT (eP eN eI)) (eT (eP eN eI))) x_sizes), .dat ((eO eI) x_hole), .dat ((eM eI) v1.1), .dat ((eM eI) v1.2), .own ((eL (eT eN)) s3.2.2), .own ((eL (eP (eT eN) eI)) s3.2.1), .dat ((eO eI) s3.1), .un, .un, .un, .un]) (fun r d δ' => d = (eP (eT (eP (eT eN) eI)) (eT (eT eN))) r ∧ parsOk [.dat ((eP (eT eN) (eT (eP eN (eO eN)))) x_job), .dat ((eP (eT (eP eN eI)) (eT (eP eN eI))) x_sizes), .dat ((eO eI) x_hole)] δ') PassesOwn.never ho25 (fun s3 b h => ?_) (fun s3 t hc h => ?_) (fun s3 e hc => ?_) (fun r d δ' e hr => ?_))
    · show TvD _ [.dat ((eP (eT eN) (eT (eP eN (eO eN)))) x_job), .dat ((eP (eT (eP eN eI)) (eT (eP eN eI))) x_sizes), .dat ((eO eI) x_hole), .dat ((eM eI) v1.1), .dat ((eM eI) v1.2), .own ((eL (eT eN)) s3.2.2), .own ((eL (eP (eT eN) eI)) s3.2.1), .dat ((eO eI) s3.1), .un, .un, .un, .un] _ _ [.dat ((eP (eT eN) (eT (eP eN (eO eN)))) x_job), .dat ((eP (eT (eP eN eI)) (eT (eP eN eI))) x_sizes), .dat ((eO eI) x_hole), .dat ((eM eI) v1.1), .dat ((eM eI) v1.2), .own ((eL (eT eN)) s3.2.2), .own ((eL (eP (eT eN) eI)) s3.2.1), .dat ((eO eI) s3.1), .un, .un, .un, .un]
      obtain rfl := Option.some.inj h
      exact (t_val (p := true) e_bl)
    · show SsD _ [.dat ((eP (eT eN) (eT (eP eN (eO eN)))) x_job), .dat ((eP (eT (eP eN eI)) (eT (eP eN eI))) x_sizes), .dat ((eO eI) x_hole), .dat ((eM eI) v1.1), .dat ((eM eI) v1.2), .own ((eL (eT eN)) s3.2.2), .own ((eL (eP (eT eN) eI)) s3.2.1), .dat ((eO eI) s3.1), .un, .un, .un, .un] _ _
      obtain ⟨v12, hv12, h⟩ := bnd h
      refine ss_cons (s_setLc (i := 8) G.calm G.nd rfl rfl (k_lcTD (g := (eT eN)) (f := (eT eN)) [("ring", 9)] (fun (b4 : (List Nm)) => [(9, (eT eN) b4)]) G hv12 (it_O (f := (eT eN)) (l := s3.2.2) 5 (.inl rfl)) (.inr rfl) (fun s H C cl fp b4 hb => tg1 9 G.nd) (fun z H C cl fp b4 y13 G hb h => by show TvD _ [.dat ((eP (eT eN) (eT (eP eN (eO eN)))) x_job), .dat ((eP (eT (eP eN eI)) (eT (eP eN eI))) x_sizes), .dat ((eO eI) x_hole), .dat ((eM eI) v1.1), .dat ((eM eI) v1.2), .own ((eL (eT eN)) s3.2.2), .own ((eL (eP (eT eN) eI)) s3.2.1), .dat ((eO eI) s3.1), .un, .dat ((eT eN) b4), .un, .un] _ _ [.dat ((eP (eT eN) (eT (eP eN (eO eN)))) x_job), .dat ((eP (eT (eP eN eI)) (eT (eP eN eI))) x_sizes), .dat ((eO eI) x_hole), .dat ((eM eI) v1.1), .dat ((eM eI) v1.2), .own ((eL (eT eN)) s3.2.2), .own ((eL (eP (eT eN) eI)) s3.2.1), .dat ((eO eI) s3.1), .un, .dat ((eT eN) b4), .un, .un]; obtain ⟨v11, hv11, h⟩ := bnd h; obtain rfl := Option.some.inj h; exact (t_w (w_and (p := (!s3.1.isNone)) (q := v11) (vt_notN (f := eI) (y := s3.1) (v_var 7)) (fun hc => by have h := cndT hv11 hc; obtain ⟨v7, hv7, h⟩ := bnd h; obtain ⟨v9, hv9, h⟩ := bnd h; obtain ⟨v10, hv10, h⟩ := bnd h; obtain rfl := Option.some.inj h; exact (w_and1 (t_le (i := v9) (j := v10) (v_min (f := eI) (l := v7) (y := v9) G hv9 (((k_lcD (g := eN) (f := eI) [("box", 10)] (fun (b5 : Nm) => [(10, eN b5)]) G hv7 ((it_T (f := eN) (l := b4) (v_var 9))).l (.inl rfl) (fun s H C cl fp b5 hb => tg1 10 G.nd) (fun z H C cl fp b5 y8 G hb h => by show EvD _ [.dat ((eP (eT eN) (eT (eP eN (eO eN)))) x_job), .dat ((eP (eT (eP eN eI)) (eT (eP eN eI))) x_sizes), .dat ((eO eI) x_hole), .dat ((eM eI) v1.1), .dat ((eM eI) v1.2), .own ((eL (eT eN)) s3.2.2), .own ((eL (eP (eT eN) eI)) s3.2.1), .dat ((eO eI) s3.1), .un, .dat ((eT eN) b4), .dat (eN b5), .un] _ _ [.dat ((eP (eT eN) (eT (eP eN (eO eN)))) x_job), .dat ((eP (eT (eP eN eI)) (eT (eP eN eI))) x_sizes), .dat ((eO eI) x_hole), .dat ((eM eI) v1.1), .dat ((eM eI) v1.2), .own ((eL (eT eN)) s3.2.2), .own ((eL (eP (eT eN) eI)) s3.2.1), .dat ((eO eI) s3.1), .un, .dat ((eT eN) b4), .dat (eN b5), .un]; obtain ⟨v6, hv6, h⟩ := bnd h; obtain rfl := Option.some.inj h; exact (v_lk (f := eI) (l := v1.2) (k := b5) (y := v6) G hv6 (v_var 4) (v_var 10))))).n G.calm G.nd).ev) (EvD.cast ((v_var 7)) (show eO eI s3.1 = eI v10 from congrArg (eO eI) hv10)))))))) (fun z H C cl fp b4 y13 G hb _ h => by show EvD _ [.dat ((eP (eT eN) (eT (eP eN (eO eN)))) x_job), .dat ((eP (eT (eP eN eI)) (eT (eP eN eI))) x_sizes), .dat ((eO eI) x_hole), .dat ((eM eI) v1.1), .dat ((eM eI) v1.2), .own ((eL (eT eN)) s3.2.2), .own ((eL (eP (eT eN) eI)) s3.2.1), .dat ((eO eI) s3.1), .un, .dat ((eT eN) b4), .un, .un] _ _ [.dat ((eP (eT eN) (eT (eP eN (eO eN)))) x_job), .dat ((eP (eT (eP eN eI)) (eT (eP eN eI))) x_sizes), .dat ((eO eI) x_hole), .dat ((eM eI) v1.1), .dat ((eM eI) v1.2), .own ((eL (eT eN)) s3.2.2), .own ((eL (eP (eT eN) eI)) s3.2.1), .dat ((eO eI) s3.1), .un, .dat ((eT eN) b4), .un, .un]; obtain rfl := Option.some.inj h; exact (v_var 9))) ?_ (by first | exact sw_true | rfl))
      show SsD _ [.dat ((eP (eT eN) (eT (eP eN (eO eN)))) x_job), .dat ((eP (eT (eP eN eI)) (eT (eP eN eI))) x_sizes), .dat ((eO eI) x_hole), .dat ((eM eI) v1.1), .dat ((eM eI) v1.2), .own ((eL (eT eN)) s3.2.2), .own ((eL (eP (eT eN) eI)) s3.2.1), .dat ((eO eI) s3.1), .own ((eL (eT eN)) v12), .un, .un, .un] _ _
      refine ss_freezeL 8 rfl ?_
      show SsD _ [.dat ((eP (eT eN) (eT (eP eN (eO eN)))) x_job), .dat ((eP (eT (eP eN eI)) (eT (eP eN eI))) x_sizes), .dat ((eO eI) x_hole), .dat ((eM eI) v1.1), .dat ((eM eI) v1.2), .own ((eL (eT eN)) s3.2.2), .own ((eL (eP (eT eN) eI)) s3.2.1), .dat ((eO eI) s3.1), .dat ((eL (eT eN)) v12), .un, .un, .un] _ _
      refine ss_cons (s_if (vt_eq (f := eI) (y := (v12.length : Int)) (z := (0 : Int)) G (v_lenL (f := (eT eN)) (l := v12) G (v_var 8)) e_int) (fun hc => ?_) (fun hc => ?_))
      · have h := cndT h hc
        refine ss_freezeL 6 rfl ?_
        show SsD _ [.dat ((eP (eT eN) (eT (eP eN (eO eN)))) x_job), .dat ((eP (eT (eP eN eI)) (eT (eP eN eI))) x_sizes), .dat ((eO eI) x_hole), .dat ((eM eI) v1.1), .dat ((eM eI) v1.2), .own ((eL (eT eN)) s3.2.2), .dat ((eL (eP (eT eN) eI)) s3.2.1), .dat ((eO eI) s3.1), .dat ((eL (eT eN)) v12), .un, .un, .un] _ _
        refine ss_freezeL 5 rfl ?_
        show SsD _ [.dat ((eP (eT eN) (eT (eP eN (eO eN)))) x_job), .dat ((eP (eT (eP eN eI)) (eT (eP eN eI))) x_sizes), .dat ((eO eI) x_hole), .dat ((eM eI) v1.1), .dat ((eM eI) v1.2), .dat ((eL (eT eN)) s3.2.2), .dat ((eL (eP (eT eN) eI)) s3.2.1), .dat ((eO eI) s3.1), .dat ((eL (eT eN)) v12), .un, .un, .un] _ _
        exact ss_cons (s_ret (v_pair (f := (eT (eP (eT eN) eI))) (g := (eT (eT eN))) (y := s3.2.1) (z := s3.2.2) (v_tupL (f := (eP (eT eN) eI)) (l := s3.2.1) G (v_var 6)) (v_tupL (f := (eT eN)) (l := s3.2.2) G (v_var 5))) ⟨_, (Option.some.inj h).symm, rfl, (by first | exact trivial | exact ⟨rfl, trivial⟩)⟩)
      · have h := cndF h hc
        refine ss_nil ?_
        show SsD _ [.dat ((eP (eT eN) (eT (eP eN (eO eN)))) x_job), .dat ((eP (eT (eP eN eI)) (eT (eP eN eI))) x_sizes), .dat ((eO eI) x_hole), .dat ((eM eI) v1.1), .dat ((eM eI) v1.2), .own ((eL (eT eN)) s3.2.2), .own ((eL (eP (eT eN) eI)) s3.2.1), .dat ((eO eI) s3.1), .dat ((eL (eT eN)) v12), .un, .un, .un] _ _
        obtain ⟨v14, hv14, h⟩ := bnd h
        obtain ⟨v15, hv15, h⟩ := bnd h
        obtain ⟨v18, hv18, h⟩ := bnd h
        obtain ⟨v20, hv20, h⟩ := bnd h
        refine ss_cons (w_set 7 G (v_max2 (i := v14) (j := v20) G (EvD.cast ((v_var 7)) (show eO eI s3.1 = eI v14 from congrArg (eO eI) hv14)) (v_max (f := eI) (l := v18) (y := v20) G hv20 (((k_lcD (g := eN) (f := eI) [("place", 11)] (fun (b16 : Nm) => [(11, eN b16)]) G hv18 ((it_T (f := eN) (l := v15) (v_atL (f := (eT eN)) (l := v12) (y := v15) hv15 (v_var 8) e_int))).l (.inl rfl) (fun s H C cl fp b16 hb => tg1 11 G.nd) (fun z H C cl fp b16 y19 G hb h => by show EvD _ [.dat ((eP (eT eN) (eT (eP eN (eO eN)))) x_job), .dat ((eP (eT (eP eN eI)) (eT (eP eN eI))) x_sizes), .dat ((eO eI) x_hole), .dat ((eM eI) v1.1), .dat ((eM eI) v1.2), .own ((eL (eT eN)) s3.2.2), .own ((eL (eP (eT eN) eI)) s3.2.1), .dat ((eO eI) s3.1), .dat ((eL (eT eN)) v12), .un, .un, .dat (eN b16)] _ _ [.dat ((eP (eT eN) (eT (eP eN (eO eN)))) x_job), .dat ((eP (eT (eP eN eI)) (eT (eP eN eI))) x_sizes), .dat ((eO eI) x_hole), .dat ((eM eI) v1.1), .dat ((eM eI) v1.2), .own ((eL (eT eN)) s3.2.2), .own ((eL (eP (eT eN) eI)) s3.2.1), .dat ((eO eI) s3.1), .dat ((eL (eT eN)) v12), .un, .un, .dat (eN b16)]; obtain ⟨v17, hv17, h⟩ := bnd h; obtain rfl := Option.some.inj h; exact (v_lk (f := eI) (l := v1.1) (k := b16) (y := v17) G hv17 (v_var 3) (v_var 11))))).n G.calm G.nd).ev)) ?_)
        show SsD _ [.dat ((eP (eT eN) (eT (eP eN (eO eN)))) x_job), .dat ((eP (eT (eP eN eI)) (eT (eP eN eI))) x_sizes), .dat ((eO eI) x_hole), .dat ((eM eI) v1.1), .dat ((eM eI) v1.2), .own ((eL (eT eN)) s3.2.2), .own ((eL (eP (eT eN) eI)) s3.2.1), .dat (eI (if v20 > v14 then v20 else v14)), .dat ((eL (eT eN)) v12), .un, .un, .un] _ _
        obtain ⟨v21, hv21, h⟩ := bnd h
        obtain ⟨u22, hu22, h⟩ := bnd h
        refine ss_cons (s_expr (v_app (f := (eP (eT eN) eI)) (l := s3.2.1) (y := (v21, (if v20 > v14 then v20 else v14))) 6 (v_pair (f := (eT eN)) (g := eI) (y := v21) (z := (if v20 > v14 then v20 else v14)) (v_atL (f := (eT eN)) (l := v12) (y := v21) hv21 (v_var 8) e_int) (v_var 7)) (.inl rfl) (chk_of hu22) ⟨_, .inl rfl⟩) ?_)
        show SsD _ [.dat ((eP (eT eN) (eT (eP eN (eO eN)))) x_job), .dat ((eP (eT (eP eN eI)) (eT (eP eN eI))) x_sizes), .dat ((eO eI) x_hole), .dat ((eM eI) v1.1), .dat ((eM eI) v1.2), .own ((eL (eT eN)) s3.2.2), .own ((eL (eP (eT eN) eI)) (s3.2.1 ++ [(v21, (if v20 > v14 then v20 else v14))])), .dat (eI (if v20 > v14 then v20 else v14)), .dat ((eL (eT eN)) v12), .un, .un, .un] _ _
        obtain ⟨v23, hv23, h⟩ := bnd h
        obtain ⟨v24, hv24, h⟩ := bnd h
        refine ss_cons (s_expr (v_rem (f := (eT eN)) (l := s3.2.2) (y := v23) G 5 hv24 (v_atL (f := (eT eN)) (l := v12) (y := v23) hv23 (v_var 8) e_int) (.inl rfl) ⟨_, .inl rfl⟩) ?_)
        show SsD _ [.dat ((eP (eT eN) (eT (eP eN (eO eN)))) x_job), .dat ((eP (eT (eP eN eI)) (eT (eP eN eI))) x_sizes), .dat ((eO eI) x_hole), .dat ((eM eI) v1.1), .dat ((eM eI) v1.2), .own ((eL (eT eN)) (s3.2.2.eraseIdx v24)), .own ((eL (eP (eT eN) eI)) (s3.2.1 ++ [(v21, (if v20 > v14 then v20 else v14))])), .dat (eI (if v20 > v14 then v20 else v14)), .dat ((eL (eT eN)) v12), .un, .un, .un] _ _
        refine ss_forget 8 ?_
        exact ss_nil ⟨_, (Option.some.inj h).symm, rfl⟩
    · subst e
      have h : _ = some _ := h
      cases hc
    · subst e
      obtain rfl := Option.some.inj h
      exact hr
theorem sc_shut_rings : FnScope ["job", "sizes"] ["job", "sizes"] (defScope s_shut_rings) := ⟨rfl, rfl, rfl, by decide +kernel, rfl, by decide +kernel, by decide +kernel⟩
theorem can_shut_rings (F : Def1 K mg "shut_rings" s_shut_rings) (fr : Fre mg) (c_opened_by : Can P w K mg base "opened_by" ["job", "sizes", "hole"] 7 T_opened_by) (c_hole_of : Can P w K mg base "hole_of" ["job", "sizes"] 7 T_hole_of) : Can P w K mg base "shut_rings" ["job", "sizes"] 8 (T_shut_rings) := by
  refine can_of F sc_shut_rings (by decide) fr (fun f fd h => h.bindsN fun _ _ _ _ _ _ us hl => match us, hl with | [_, _], _ => rfl) ?_ ?_
  · rintro as r as' ⟨x_job, x_sizes, y, h, rfl, rfl, rfl⟩
    exact shp_dat [(eP (eT eN) (eT (eP eN (eO eN)))) x_job, (eP (eT (eP eN eI)) (eT (eP eN eI))) x_sizes] rfl rfl rfl
  · rintro f cdv A outer s0 H E as r as' hr G ⟨x_job, x_sizes, y, h, rfl, rfl, rfl⟩
    replace c_opened_by := c_opened_by.cal (hr.mono (by omega)) (N := ["job", "sizes"]) (cdv := cdv) (outer := outer) (H := H) (E := E)
    replace c_hole_of := c_hole_of.cal (hr.mono (by omega)) (N := ["job", "sizes"]) (cdv := cdv) (outer := outer) (H := H) (E := E)
    show SsD _ [.dat ((eP (eT eN) (eT (eP eN (eO eN)))) x_job), .dat ((eP (eT (eP eN eI)) (eT (eP eN eI))) x_sizes)] _ _
    obtain ⟨v1, hv1, h⟩ := bnd h
    obtain ⟨v2, hv2, h⟩ := bnd h
    obtain rfl := Option.some.inj h
    exact ss_cons (s_ret (v_snd (f := (eT (eP (eT eN) eI))) (g := (eT (eT eN))) (y := v2) (e_call c_opened_by rfl (a_cons (v_var 0) (a_cons (v_var 1) (a_cons (e_call c_hole_of rfl (a_cons (v_var 0) (a_cons (v_var 1) a_nil)) ⟨x_job, x_sizes, v1, hv1, rfl, rfl, rfl⟩) a_nil))) ⟨x_job, x_sizes, v1, v2, hv2, rfl, rfl, rfl⟩)) ⟨rfl, (by first | exact trivial | exact ⟨rfl, trivial⟩)⟩)
theorem sc_can_be_done_by : FnScope ["job", "sizes"] ["job", "sizes"] (defScope s_can_be_done_by) := ⟨rfl, rfl, rfl, by decide +kernel, rfl, by decide +kernel, by decide +kernel⟩
theorem can_can_be_done_by (F : Def1 K mg "can_be_done_by" s_can_be_done_by) (fr : Fre mg) (c_shut_rings : Can P w K mg base "shut_rings" ["job", "sizes"] 8 T_shut_rings) : Can P w K mg base "can_be_done_by" ["job", "sizes"] 9 (T_can_be_done_by) := by
  refine can_of F sc_can_be_done_by (by decide) fr (fun f fd h => h.bindsN fun _ _ _ _ _ _ us hl => match us, hl with | [_, _], _ => rfl) ?_ ?_
  · rintro as r as' ⟨x_job, x_sizes, y, h, rfl, rfl, rfl⟩
    exact shp_dat [(eP (eT eN) (eT (eP eN (eO eN)))) x_job, (eP (eT (eP eN eI)) (eT (eP eN eI))) x_sizes] rfl rfl rfl
  · rintro f cdv A outer s0 H E as r as' hr G ⟨x_job, x_sizes, y, h, rfl, rfl, rfl⟩
    replace c_shut_rings := c_shut_rings.cal (hr.mono (by omega)) (N := ["job", "sizes"]) (cdv := cdv) (outer := outer) (H := H) (E := E)
    show SsD _ [.dat ((eP (eT eN) (eT (eP eN (eO eN)))) x_job), .dat ((eP (eT (eP eN eI)) (eT (eP eN eI))) x_sizes)] _ _
    obtain ⟨v1, hv1, h⟩ := bnd h
    obtain rfl := Option.some.inj h
    exact ss_cons (s_ret (v_eq (f := eI) (y := (v1.length : Int)) (z := (0 : Int)) G (v_lenT (f := (eT eN)) (l := v1) G (e_call c_shut_rings rfl (a_cons (v_var 0) (a_cons (v_var 1) a_nil)) ⟨x_job, x_sizes, v1, hv1, rfl, rfl, rfl⟩)) e_int) ⟨rfl, (by first | exact trivial | exact ⟨rfl, trivial⟩)⟩)
theorem sc_ring_moves : FnScope ["ring", "sizes", "hole", "left", "thick", "first", "row", "found", "here", "box", "spot"] ["ring", "sizes", "hole", "left"] (defScope s_ring_moves) := ⟨rfl, rfl, rfl, by decide +kernel, rfl, by decide +kernel, by decide +kernel⟩
theorem can_ring_moves (F : Def1 K mg "ring_moves" s_ring_moves) (fr : Fre mg) (rec : ((List (Nm × Int)) × (List (Nm × Int))) → Nm → (List (List Nm)) → Option ((List (Nm × (Option Nm))) × (List (List Nm)))) (kk : Nat) (hkk : 5 ≤ kk) (c_tables_of : Can P w K mg base "tables_of" ["sizes"] 5 T_tables_of) (c_hole_moves : Can P w K mg base "hole_moves" ["sizes", "hole", "left"] kk (T_hole_moves rec)) : Can P w K mg base "ring_moves" ["ring", "sizes", "hole", "left"] (kk + 1) (T_ring_moves (m_ring_moves rec)) := by
  refine can_of F sc_ring_moves (by decide) fr (fun f fd h => h.bindsN fun _ _ _ _ _ _ us hl => match us, hl with | [_, _, _, _], _ => rfl) ?_ ?_
  · rintro as r as' ⟨x_ring, x_sizes, x_hole, x_left, y, h, rfl, rfl, rfl⟩
    refine ⟨rfl, rfl, fun i hi => ?_⟩
    match i, hi with
    | 0, hi => exact ⟨rfl, rfl⟩
    | 1, hi => exact ⟨rfl, rfl⟩
    | 2, hi => exact ⟨rfl, rfl⟩
    | 3, hi => cases hi
    | _ + 4, _ => exact ⟨rfl, rfl⟩
  · rintro f cdv A outer s0 H E as r as' hr G ⟨x_ring, x_sizes, x_hole, x_left, y, h, rfl, rfl, rfl⟩
    replace c_tables_of := c_tables_of.cal (hr.mono (by omega)) (N := ["ring", "sizes", "hole", "left", "thick", "first", "row", "found", "here", "box", "spot"]) (cdv := cdv) (outer := outer) (H := H) (E := E)
    replace c_hole_moves := c_hole_moves.cal (hr.mono (by omega)) (N := ["ring", "sizes", "hole", "left", "thick", "first", "row", "found", "here", "box", "spot"]) (cdv := cdv) (outer := outer) (H := H) (E := E)
    show SsD _ [.dat ((eT eN) x_ring), .dat ((eP (eT (eP eN eI)) (eT (eP eN eI))) x_sizes), .dat (eN x_hole), .par ((eL (eT eN)) x_left), .un, .un, .un, .un, .un, .un, .un] _ _
    obtain ⟨v1, hv1, h⟩ := bnd h
    refine ss_cons (w_set 4 G (v_snd (f := (eM eI)) (g := (eM eI)) (y := v1) (e_call c_tables_of rfl (a_cons (v_var 1) a_nil) ⟨x_sizes, v1, hv1, rfl, rfl, rfl⟩)) ?_)
    show SsD _ [.dat ((eT eN) x_ring), .dat ((eP (eT (eP eN eI)) (eT (eP eN eI))) x_sizes), .dat (eN x_hole), .par ((eL (eT eN)) x_left), .dat ((eM eI) v1.2), .un, .un, .un, .un, .un, .un] _ _
    obtain ⟨v4, hv4, h⟩ := bnd h
    obtain ⟨v6, hv6, h⟩ := bnd h
    refine ss_cons (w_set 5 G (v_snd (f := eI) (g := eI) (y := v6) (v_min (f := (eP eI eI)) (l := v4) (y := v6) G hv6 (((k_lcD (g := (eS eI eN)) (f := (eP eI eI)) [("spot", 10), ("box", 9)] (fun (b2 : (Int × Nm)) => [(10, eI b2.1), (9, eN b2.2)]) G hv4 ((it_ET (f := eN) (l := x_ring) G (v_var 0))).l (.inl rfl) (fun s H C cl fp b2 hb => tg2S 10 9 G.calm G.nd) (fun z H C cl fp b2 y5 G hb h => by show EvD _ [.dat ((eT eN) x_ring), .dat ((eP (eT (eP eN eI)) (eT (eP eN eI))) x_sizes), .dat (eN x_hole), .par ((eL (eT eN)) x_left), .dat ((eM eI) v1.2), .un, .un, .un, .un, .dat (eN b2.2), .dat (eI b2.1)] _ _ [.dat ((eT eN) x_ring), .dat ((eP (eT (eP eN eI)) (eT (eP eN eI))) x_sizes), .dat (eN x_hole), .par ((eL (eT eN)) x_left), .dat ((eM eI) v1.2), .un, .un, .un, .un, .dat (eN b2.2), .dat (eI b2.1)]; obtain ⟨v3, hv3, h⟩ := bnd h; obtain rfl := Option.some.inj h; exact (v_pair (f := eI) (g := eI) (y := v3) (z := b2.1) (v_lk (f := eI) (l := v1.2) (k := b2.2) (y := v3) G hv3 (v_var 4) (v_var 9)) (v_var 10))))).n G.calm G.nd).ev)) ?_)
    show SsD _ [.dat ((eT eN) x_ring), .dat ((eP (eT (eP eN eI)) (eT (eP eN eI))) x_sizes), .dat (eN x_hole), .par ((eL (eT eN)) x_left), .dat ((eM eI) v1.2), .dat (eI v6.2), .un, .un, .un, .un, .un] _ _
    obtain ⟨u7, hu7, h⟩ := bnd h
    refine ss_cons (w_set 6 G ((n_lstV (f := eN) (l := ((cutD x_ring (some v6.2) none) ++ ((cutD x_ring none (some v6.2)) ++ ([] : List Nm)))) (chk_of hu7) (va_starT (f := eN) (xs := (cutD x_ring (some v6.2) none)) (v_slT (f := eN) (l := x_ring) (v_var 0) (o_some (v_var 5)) o_none) (va_starT (f := eN) (xs := (cutD x_ring none (some v6.2))) (v_slT (f := eN) (l := x_ring) (v_var 0) o_none (o_some (v_var 5))) va_nil)))).ev ?_)
    show SsD _ [.dat ((eT eN) x_ring), .dat ((eP (eT (eP eN eI)) (eT (eP eN eI))) x_sizes), .dat (eN x_hole), .par ((eL (eT eN)) x_left), .dat ((eM eI) v1.2), .dat (eI v6.2), .dat ((eL eN) ((cutD x_ring (some v6.2) none) ++ ((cutD x_ring none (some v6.2)) ++ ([] : List Nm)))), .un, .un, .un, .un] _ _
    obtain ⟨v8, hv8, h⟩ := bnd h
    obtain ⟨v9, hv9, h⟩ := bnd h
    refine ss_cons (s_par (i := 7) (j := 8) G.calm G.nd rfl rfl (by decide) rfl rfl (x_new (n_lstV (f := (eP eN (eO eN))) (l := ((v8, (some x_hole)) :: ([] : List (Nm × (Option Nm))))) rfl (va_cons (f := (eP eN (eO eN))) (y := (v8, (some x_hole))) (v_pair (f := eN) (g := (eO eN)) (y := v8) (z := (some x_hole)) (v_atL (f := eN) (l := ((cutD x_ring (some v6.2) none) ++ ((cutD x_ring none (some v6.2)) ++ ([] : List Nm)))) (y := v8) hv8 (v_var 6) e_int) (v_var 2)) va_nil)) (x_dat (v_atL (f := eN) (l := ((cutD x_ring (some v6.2) none) ++ ((cutD x_ring none (some v6.2)) ++ ([] : List Nm)))) (y := v9) hv9 (v_var 6) e_int) x_nil)) ?_ rfl)
    show SsD _ [.dat ((eT eN) x_ring), .dat ((eP (eT (eP eN eI)) (eT (eP eN eI))) x_sizes), .dat (eN x_hole), .par ((eL (eT eN)) x_left), .dat ((eM eI) v1.2), .dat (eI v6.2), .dat ((eL eN) ((cutD x_ring (some v6.2) none) ++ ((cutD x_ring none (some v6.2)) ++ ([] : List Nm)))), .own ((eL (eP eN (eO eN))) ((v8, (some x_hole)) :: ([] : List (Nm × (Option Nm))))), .dat (eN v9), .un, .un] _ _
    obtain ⟨u10, hu10, h⟩ := bnd h
    obtain ⟨o16, ho16, h⟩ := bnd h
    refine ss_cons (k_forS (g := eN) (fun (s11 : (List (Nm × (Option Nm))) × (List (List Nm)) × Nm) => [.dat ((eT eN) x_ring), .dat ((eP (eT (eP eN eI)) (eT (eP eN eI))) x_sizes), .dat (eN x_hole), .par ((eL (eT eN)) s11.2.1), .dat ((eM eI) v1.2), .dat (eI v6.2), .dat ((eL eN) ((cutD x_ring (some v6.2) none) ++ ((cutD x_ring none (some v6.2)) ++ ([] : List Nm)))), .own ((eL (eP eN (eO eN))) s11.1), .dat (eN s11.2.2), .un, .un]) (fun (b12 : Nm) => [(9, eN b12)]) G PassesOwn.never ho16 (it_L (f := eN) (l := (((cutD x_ring (some v6.2) none) ++ ((cutD x_ring none (some v6.2)) ++ ([] : List Nm))).drop 1).reverse) ((v_revL0 (f := eN) (l := ((cutD x_ring (some v6.2) none) ++ ((cutD x_ring none (some v6.2)) ++ ([] : List Nm)))) (chk_of hu10) (v_var 6))).ev) (fun b12 hb => tg1 9 G.nd) (fun s11 b12 t hb h => ?_) ?_)
    · show SsD _ [.dat ((eT eN) x_ring), .dat ((eP (eT (eP eN eI)) (eT (eP eN eI))) x_sizes), .dat (eN x_hole), .par ((eL (eT eN)) s11.2.1), .dat ((eM eI) v1.2), .dat (eI v6.2), .dat ((eL eN) ((cutD x_ring (some v6.2) none) ++ ((cutD x_ring none (some v6.2)) ++ ([] : List Nm)))), .own ((eL (eP eN (eO eN))) s11.1), .dat (eN s11.2.2), .dat (eN b12), .un] _ _
      obtain ⟨v13, hv13, h⟩ := bnd h
      obtain ⟨u14, hu14, h⟩ := bnd h
      refine ss_cons (s_expr (v_ext (f := (eP eN (eO eN))) (l := s11.1) (m := v13.1) 7 (e_callO (d := (eL (eT eN)) s11.2.1) (d' := (eL (eT eN)) v13.2) c_hole_moves rfl [(eP (eT (eP eN eI)) (eT (eP eN eI))) x_sizes, eN s11.2.2] [] (m_dat (v_var 1) (m_dat (v_var 8) (m_own (i := 3) rfl (by first | exact .inl rfl | exact .inr (.inl rfl)) rfl m_nil))) (.inr rfl) ⟨x_sizes, s11.2.2, s11.2.1, v13, hv13, rfl, rfl, rfl⟩) (.inl rfl) (chk_of hu14) ⟨_, .inl rfl⟩) ?_)
      show SsD _ [.dat ((eT eN) x_ring), .dat ((eP (eT (eP eN eI)) (eT (eP eN eI))) x_sizes), .dat (eN x_hole), .par ((eL (eT eN)) v13.2), .dat ((eM eI) v1.2), .dat (eI v6.2), .dat ((eL eN) ((cutD x_ring (some v6.2) none) ++ ((cutD x_ring none (some v6.2)) ++ ([] : List Nm)))), .own ((eL (eP eN (eO eN))) (s11.1 ++ v13.1)), .dat (eN s11.2.2), .dat (eN b12), .un] _ _
      obtain ⟨u15, hu15, h⟩ := bnd h
      refine ss_cons (s_expr (v_app (f := (eP eN (eO eN))) (l := (s11.1 ++ v13.1)) (y := (b12, (some s11.2.2))) 7 (v_pair (f := eN) (g := (eO eN)) (y := b12) (z := (some s11.2.2)) (v_var 9) (v_var 8)) (.inl rfl) (chk_of hu15) ⟨_, .inl rfl⟩) ?_)
      show SsD _ [.dat ((eT eN) x_ring), .dat ((eP (eT (eP eN eI)) (eT (eP eN eI))) x_sizes), .dat (eN x_hole), .par ((eL (eT eN)) v13.2), .dat ((eM eI) v1.2), .dat (eI v6.2), .dat ((eL eN) ((cutD x_ring (some v6.2) none) ++ ((cutD x_ring none (some v6.2)) ++ ([] : List Nm)))), .own ((eL (eP eN (eO eN))) ((s11.1 ++ v13.1) ++ [(b12, (some s11.2.2))])), .dat (eN s11.2.2), .dat (eN b12), .un] _ _
      refine ss_cons (w_set 8 G (v_var 9) ?_)
      show SsD _ [.dat ((eT eN) x_ring), .dat ((eP (eT (eP eN eI)) (eT (eP eN eI))) x_sizes), .dat (eN x_hole), .par ((eL (eT eN)) v13.2), .dat ((eM eI) v1.2), .dat (eI v6.2), .dat ((eL eN) ((cutD x_ring (some v6.2) none) ++ ((cutD x_ring none (some v6.2)) ++ ([] : List Nm)))), .own ((eL (eP eN (eO eN))) ((s11.1 ++ v13.1) ++ [(b12, (some s11.2.2))])), .dat (eN b12), .dat (eN b12), .un] _ _
      refine ss_forget 9 ?_
      obtain rfl := Option.some.inj h
      exact ss_nil rfl
    show SsD _ [.dat ((eT eN) x_ring), .dat ((eP (eT (eP eN eI)) (eT (eP eN eI))) x_sizes), .dat (eN x_hole), .par ((eL (eT eN)) o16.2.1), .dat ((eM eI) v1.2), .dat (eI v6.2), .dat ((eL eN) ((cutD x_ring (some v6.2) none) ++ ((cutD x_ring none (some v6.2)) ++ ([] : List Nm)))), .own ((eL (eP eN (eO eN))) o16.1), .dat (eN o16.2.2), .un, .un] _ _
    obtain ⟨v17, hv17, h⟩ := bnd h
    obtain ⟨u18, hu18, h⟩ := bnd h
    refine ss_cons (s_expr (v_ext (f := (eP eN (eO eN))) (l := o16.1) (m := v17.1) 7 (e_callO (d := (eL (eT eN)) o16.2.1) (d' := (eL (eT eN)) v17.2) c_hole_moves rfl [(eP (eT (eP eN eI)) (eT (eP eN eI))) x_sizes, eN o16.2.2] [] (m_dat (v_var 1) (m_dat (v_var 8) (m_own (i := 3) rfl (by first | exact .inl rfl | exact .inr (.inl rfl)) rfl m_nil))) (.inr rfl) ⟨x_sizes, o16.2.2, o16.2.1, v17, hv17, rfl, rfl, rfl⟩) (.inl rfl) (chk_of hu18) ⟨_, .inl rfl⟩) ?_)
    show SsD _ [.dat ((eT eN) x_ring), .dat ((eP (eT (eP eN eI)) (eT (eP eN eI))) x_sizes), .dat (eN x_hole), .par ((eL (eT eN)) v17.2), .dat ((eM eI) v1.2), .dat (eI v6.2), .dat ((eL eN) ((cutD x_ring (some v6.2) none) ++ ((cutD x_ring none (some v6.2)) ++ ([] : List Nm)))), .own ((eL (eP eN (eO eN))) (o16.1 ++ v17.1)), .dat (eN o16.2.2), .un, .un] _ _
    refine ss_freezeL 7 rfl ?_
    show SsD _ [.dat ((eT eN) x_ring), .dat ((eP (eT (eP eN eI)) (eT (eP eN eI))) x_sizes), .dat (eN x_hole), .par ((eL (eT eN)) v17.2), .dat ((eM eI) v1.2), .dat (eI v6.2), .dat ((eL eN) ((cutD x_ring (some v6.2) none) ++ ((cutD x_ring none (some v6.2)) ++ ([] : List Nm)))), .dat ((eL (eP eN (eO eN))) (o16.1 ++ v17.1)), .dat (eN o16.2.2), .un, .un] _ _
    obtain ⟨u19, hu19, h⟩ := bnd h
    obtain rfl := Option.some.inj h
    exact ss_cons (s_ret ((n_lstV (f := (eP eN (eO eN))) (l := ((o16.1 ++ v17.1) ++ ((x_hole, (some o16.2.2)) :: ([] : List (Nm × (Option Nm)))))) (chk_of hu19) (va_starL (f := (eP eN (eO eN))) (xs := (o16.1 ++ v17.1)) (v_var 7) (va_cons (f := (eP eN (eO eN))) (y := (x_hole, (some o16.2.2))) (v_pair (f := eN) (g := (eO eN)) (y := x_hole) (z := (some o16.2.2)) (v_var 2) (v_var 8)) va_nil)))).ev ⟨rfl, (by first | exact trivial | exact ⟨rfl, trivial⟩)⟩)
theorem sc_hole_moves : FnScope ["sizes", "hole", "left", "wide", "thick", "found", "ring", "box"] ["sizes", "hole", "left"] (defScope s_hole_moves) := ⟨rfl, rfl, rfl, by decide +kernel, rfl, by decide +kernel, by decide +kernel⟩
theorem can_hole_moves (F : Def1 K mg "hole_moves" s_hole_moves) (fr : Fre mg) (rec : (List Nm) → ((List (Nm × Int)) × (List (Nm × Int))) → Nm → (List (List Nm)) → Option ((List (Nm × (Option Nm))) × (List (List Nm)))) (kk : Nat) (hkk : 5 ≤ kk) (c_tables_of : Can P w K mg base "tables_of" ["sizes"] 5 T_tables_of) (c_ring_moves : Can P w K mg base "ring_moves" ["ring", "sizes", "hole", "left"] kk (T_ring_moves rec)) : Can P w K mg base "hole_moves" ["sizes", "hole", "left"] (kk + 1) (T_hole_moves (m_hole_moves rec)) := by
  refine can_of F sc_hole_moves (by decide) fr (fun f fd h => h.bindsN fun _ _ _ _ _ _ us hl => match us, hl with | [_, _, _], _ => rfl) ?_ ?_
  · rintro as r as' ⟨x_sizes, x_hole, x_left, y, h, rfl, rfl, rfl⟩
    refine ⟨rfl, rfl, fun i hi => ?_⟩
    match i, hi with
    | 0, hi => exact ⟨rfl, rfl⟩
    | 1, hi => exact ⟨rfl, rfl⟩
    | 2, hi => cases hi
    | _ + 3, _ => exact ⟨rfl, rfl⟩
  · rintro f cdv A outer s0 H E as r as' hr G ⟨x_sizes, x_hole, x_left, y, h, rfl, rfl, rfl⟩
    replace c_tables_of := c_tables_of.cal (hr.mono (by omega)) (N := ["sizes", "hole", "left", "wide", "thick", "found", "ring", "box"]) (cdv := cdv) (outer := outer) (H := H) (E := E)
    replace c_ring_moves := c_ring_moves.cal (hr.mono (by omega)) (N := ["sizes", "hole", "left", "wide", "thick", "found", "ring", "box"]) (cdv := cdv) (outer := outer) (H := H) (E := E)
    show SsD _ [.dat ((eP (eT (eP eN eI)) (eT (eP eN eI))) x_sizes), .dat (eN x_hole), .par ((eL (eT eN)) x_left), .un, .un, .un, .un, .un] _ _
    obtain ⟨v1, hv1, h⟩ := bnd h
    refine ss_cons (s_asg (d := (eP (eM eI) (eM eI)) v1) (ps := [(3, (eM eI) v1.1), (4, (eM eI) v1.2)]) (e_call c_tables_of rfl (a_cons (v_var 0) a_nil) ⟨x_sizes, v1, hv1, rfl, rfl, rfl⟩) (tg2 3 4 G.calm G.nd) ?_ (by intro z hz; simp at hz; rcases hz with rfl | rfl <;> rfl))
    show SsD _ [.dat ((eP (eT (eP eN eI)) (eT (eP eN eI))) x_sizes), .dat (eN x_hole), .par ((eL (eT eN)) x_left), .dat ((eM eI) v1.1), .dat ((eM eI) v1.2), .un, .un, .un] _ _
    refine ss_cons (s_setN (i := 5) G.nd rfl (by first | exact .inl rfl | exact .inr rfl) (n_lstV (f := (eP eN (eO eN))) (l := ([] : List (Nm × (Option Nm)))) rfl va_nil) ?_)
    show SsD _ [.dat ((eP (eT (eP eN eI)) (eT (eP eN eI))) x_sizes), .dat (eN x_hole), .par ((eL (eT eN)) x_left), .dat ((eM eI) v1.1), .dat ((eM eI) v1.2), .own ((eL (eP eN (eO eN))) ([] : List (Nm × (Option Nm)))), .un, .un] _ _
    obtain ⟨o15, ho15, h⟩ := bnd h
    refine ss_cons (k_forS (g := (eT eN)) (fun (s2 : (List (List Nm)) × (List (Nm × (Option Nm)))) => [.dat ((eP (eT (eP eN eI)) (eT (eP eN eI))) x_sizes), .dat (eN x_hole), .par ((eL (eT eN)) s2.1), .dat ((eM eI) v1.1), .dat ((eM eI) v1.2), .own ((eL (eP eN (eO eN))) s2.2), .un, .un]) (fun (b3 : (List Nm)) => [(6, (eT eN) b3)]) G PassesOwn.never ho15 (it_L (f := (eT eN)) (l := x_left) ((n_lisO (f := (eT eN)) (l := x_left) G 2 (.inr rfl))).ev) (fun b3 hb => tg1 6 G.nd) (fun s2 b3 t hb h => ?_) ?_)
    · show SsD _ [.dat ((eP (eT (eP eN eI)) (eT (eP eN eI))) x_sizes), .dat (eN x_hole), .par ((eL (eT eN)) s2.1), .dat ((eM eI) v1.1), .dat ((eM eI) v1.2), .own ((eL (eP eN (eO eN))) s2.2), .dat ((eT eN) b3), .un] _ _
      obtain ⟨v10, hv10, h⟩ := bnd h
      obtain ⟨s11, hs11, h⟩ := bnd h
      refine ss_join (δ1 := [.dat ((eP (eT (eP eN eI)) (eT (eP eN eI))) x_sizes), .dat (eN x_hole), .par ((eL (eT eN)) s11.1), .dat ((eM eI) v1.1), .dat ((eM eI) v1.2), .own ((eL (eP eN (eO eN))) s11.2), .dat ((eT eN) b3), .un]) (s_if (t_w (w_and (p := (cont s2.1 b3)) (q := v10) (vt_inO (f := (eT eN)) (l := s2.1) (y := b3) G 2 (v_var 6) (.inr rfl)) (fun hc => by have h := cndT hv10 hc; obtain ⟨v6, hv6, h⟩ := bnd h; obtain ⟨v8, hv8, h⟩ := bnd h; obtain ⟨v9, hv9, h⟩ := bnd h; obtain rfl := Option.some.inj h; exact (w_and1 (t_le (i := v8) (j := v9) (v_min (f := eI) (l := v6) (y := v8) G hv8 (((k_lcD (g := eN) (f := eI) [("box", 7)] (fun (b4 : Nm) => [(7, eN b4)]) G hv6 ((it_T (f := eN) (l := b3) (v_var 6))).l (.inl rfl) (fun s H C cl fp b4 hb => tg1 7 G.nd) (fun z H C cl fp b4 y7 G hb h => by show EvD _ [.dat ((eP (eT (eP eN eI)) (eT (eP eN eI))) x_sizes), .dat (eN x_hole), .par ((eL (eT eN)) s2.1), .dat ((eM eI) v1.1), .dat ((eM eI) v1.2), .own ((eL (eP eN (eO eN))) s2.2), .dat ((eT eN) b3), .dat (eN b4)] _ _ [.dat ((eP (eT (eP eN eI)) (eT (eP eN eI))) x_sizes), .dat (eN x_hole), .par ((eL (eT eN)) s2.1), .dat ((eM eI) v1.1), .dat ((eM eI) v1.2), .own ((eL (eP eN (eO eN))) s2.2), .dat ((eT eN) b3), .dat (eN b4)]; obtain ⟨v5, hv5, h⟩ := bnd h; obtain rfl := Option.some.inj h; exact (v_lk (f := eI) (l := v1.2) (k := b4) (y := v5) G hv5 (v_var 4) (v_var 7))))).n G.calm G.nd).ev) (v_lk (f := eI) (l := v1.1) (k := x_hole) (y := v9) G hv9 (v_var 3) (v_var 1))))))) (fun hc => ?_) (fun hc => ?_)) ?_
      · have h := cndT hs11 hc
        obtain ⟨v12, hv12, h⟩ := bnd h
        refine ss_cons (s_expr (v_rem (f := (eT eN)) (l := s2.1) (y := b3) G 2 hv12 (v_var 6) (.inr rfl) ⟨_, .inr rfl⟩) ?_)
        show SsD _ [.dat ((eP (eT (eP eN eI)) (eT (eP eN eI))) x_sizes), .dat (eN x_hole), .par ((eL (eT eN)) (s2.1.eraseIdx v12)), .dat ((eM eI) v1.1), .dat ((eM eI) v1.2), .own ((eL (eP eN (eO eN))) s2.2), .dat ((eT eN) b3), .un] _ _
        obtain ⟨v13, hv13, h⟩ := bnd h
        obtain ⟨u14, hu14, h⟩ := bnd h
        refine ss_cons (s_expr (v_ext (f := (eP eN (eO eN))) (l := s2.2) (m := v13.1) 5 (e_callO (d := (eL (eT eN)) (s2.1.eraseIdx v12)) (d' := (eL (eT eN)) v13.2) c_ring_moves rfl [(eT eN) b3, (eP (eT (eP eN eI)) (eT (eP eN eI))) x_sizes, eN x_hole] [] (m_dat (v_var 6) (m_dat (v_var 0) (m_dat (v_var 1) (m_own (i := 2) rfl (by first | exact .inl rfl | exact .inr (.inl rfl)) rfl m_nil)))) (.inr rfl) ⟨b3, x_sizes, x_hole, (s2.1.eraseIdx v12), v13, hv13, rfl, rfl, rfl⟩) (.inl rfl) (chk_of hu14) ⟨_, .inl rfl⟩) ?_)
        show SsD _ [.dat ((eP (eT (eP eN eI)) (eT (eP eN eI))) x_sizes), .dat (eN x_hole), .par ((eL (eT eN)) v13.2), .dat ((eM eI) v1.1), .dat ((eM eI) v1.2), .own ((eL (eP eN (eO eN))) (s2.2 ++ v13.1)), .dat ((eT eN) b3), .un] _ _
        obtain rfl := Option.some.inj h
        exact ss_nil rfl
      · have h := cndF hs11 hc
        obtain rfl := Option.some.inj h
        exact ss_nil rfl
      refine ss_forget 6 ?_
      obtain rfl := Option.some.inj h
      exact ss_nil rfl
    show SsD _ [.dat ((eP (eT (eP eN eI)) (eT (eP eN eI))) x_sizes), .dat (eN x_hole), .par ((eL (eT eN)) o15.1), .dat ((eM eI) v1.1), .dat ((eM eI) v1.2), .own ((eL (eP eN (eO eN))) o15.2), .un, .un] _ _
    refine ss_freezeL 5 rfl ?_
    show SsD _ [.dat ((eP (eT (eP eN eI)) (eT (eP eN eI))) x_sizes), .dat (eN x_hole), .par ((eL (eT eN)) o15.1), .dat ((eM eI) v1.1), .dat ((eM eI) v1.2), .dat ((eL (eP eN (eO eN))) o15.2), .un, .un] _ _
    obtain rfl := Option.some.inj h
    exact ss_cons (s_ret (v_var 5) ⟨rfl, (by first | exact trivial | exact ⟨rfl, trivial⟩)⟩)
end
end ND

/-! NDy -/
set_option Elab.async false
set_option linter.all false
set_option maxRecDepth 100000
set_option maxHeartbeats 4000000
namespace ND
open PySem PySem.Spec PyProof.Rows L2 NA
def hole_n : Nat → Sz → Nm → List (List Nm) → Option (List (Nm × ON) × List (List Nm))
  | 0 => fun _ _ _ => none
  | n + 1 => m_hole_moves (m_ring_moves (hole_n n))
end ND

/-! G5 -/
set_option Elab.async false
set_option linter.all false
set_option maxRecDepth 100000
set_option maxHeartbeats 4000000
namespace ND
open PySem PySem.Spec PyProof.Rows L2 NA
section
variable {P : Program} {w : World} {K : PySem.W.Frag} {mg : Str → Option Value} {base : Heap}

def m_a_plan_by_sizes (x_job : ((List Nm) × (List (Nm × (Option Nm))))) (x_sizes : ((List (Nm × Int)) × (List (Nm × Int)))) : Option (List (Nm × (Option Nm))) :=
  (m_can_be_done_by x_job x_sizes).bind fun v1 =>
  bif (!v1) then (none) else ((m_goal_of x_job).bind fun v2 =>
  (m_rings x_job).bind fun v3 =>
  (m_free_places x_job).bind fun v4 =>
  (forS (fun (s5 : (List (Nm × (Option Nm))) × (List (List Nm))) (b6 : Nm) => ((hole_n 4) x_sizes b6 s5.2).bind fun v7 =>
  (chk (decide (s5.1.length + v7.1.length < 2000))).bind fun u8 =>
  some ((s5.1 ++ v7.1), v7.2)) v4 (([] : List (Nm × (Option Nm))), v3)).bind fun o9 =>
  (m_chains x_job).bind fun v10 =>
  (forS (fun (s11 : (List (Nm × (Option Nm))) × (List (List Nm))) (b12 : (List Nm)) => (forS (fun (s13 : (List (Nm × (Option Nm))) × (List (List Nm))) (b14 : Nm) => (lk v2 b14).bind fun v15 =>
  (chk (decide (s13.1.length < 2000))).bind fun u16 =>
  ((hole_n 4) x_sizes b14 s13.2).bind fun v17 =>
  (chk (decide ((s13.1 ++ [(b14, v15)]).length + v17.1.length < 2000))).bind fun u18 =>
  some (((s13.1 ++ [(b14, v15)]) ++ v17.1), v17.2)) b12.reverse (s11.1, s11.2)).bind fun o19 =>
  some (o19.1, o19.2)) v10 (o9.1, o9.2)).bind fun o20 =>
  some o20.1)
def T_a_plan_by_sizes : FT := fun as r as' => ∃ (x_job : ((List Nm) × (List (Nm × (Option Nm))))) (x_sizes : ((List (Nm × Int)) × (List (Nm × Int)))) (y : (List (Nm × (Option Nm)))), m_a_plan_by_sizes x_job x_sizes = some y ∧ as = [.dat ((eP (eT eN) (eT (eP eN (eO eN)))) x_job), .dat ((eP (eT (eP eN eI)) (eT (eP eN eI))) x_sizes)] ∧ r = (eT (eP eN (eO eN))) y ∧ as' = as
def m_is_plan_by_sizes (x_job : ((List Nm) × (List (Nm × (Option Nm))))) (x_sizes : ((List (Nm × Int)) × (List (Nm × Int)))) (x_thing : (List (Nm × (Option Nm)))) : Option Bool :=
  (m_is_plan x_job x_thing).bind fun v1 =>
  bif (!v1) then (some false) else ((m_first_stand x_job).bind fun v2 =>
  (forM (R := Bool) (fun (s3 : (List (Nm × Nm))) (b4 : (Nm × (Option Nm))) => (mkD s3).bind fun v5 =>
  (lk v5 b4.1).bind fun v6 =>
  (bif (!b4.2.isNone) then ((b4.2).bind fun v7 =>
  (m_fits x_job x_sizes v6 v7).bind fun v8 =>
  some (!v8)) else some true).bind fun v9 =>
  bif ((!b4.2.isNone) && v9) then (some (.inr false)) else ((m_moved s3 b4).bind fun v10 =>
  some (.inl v10))) x_thing v2).bind fun o11 => match o11 with
  | .inl s3 => (some true)
  | .inr r => some r
  )
def T_is_plan_by_sizes : FT := fun as r as' => ∃ (x_job : ((List Nm) × (List (Nm × (Option Nm))))) (x_sizes : ((List (Nm × Int)) × (List (Nm × Int)))) (x_thing : (List (Nm × (Option Nm)))) (y : Bool), m_is_plan_by_sizes x_job x_sizes x_thing = some y ∧ as = [.dat ((eP (eT eN) (eT (eP eN (eO eN)))) x_job), .dat ((eP (eT (eP eN eI)) (eT (eP eN eI))) x_sizes), .dat ((eT (eP eN (eO eN))) x_thing)] ∧ r = eB y ∧ as' = as
def m_place_needed (x_job : ((List Nm) × (List (Nm × (Option Nm))))) (x_sizes : ((List (Nm × Int)) × (List (Nm × Int)))) : Option (Option Int) :=
  (m_hole_of x_job x_sizes).bind fun v1 =>
  (m_tables_of x_sizes).bind fun v2 =>
  (m_can_be_done_by x_job x_sizes).bind fun v3 =>
  bif v3 then (some (some (0 : Int))) else ((m_boxes x_job).bind fun v4 =>
  (cmpM (fun _ => some true) (fun (b5 : Nm) => (lk v2.2 b5).bind fun v6 =>
  some v6) v4).bind fun v7 =>
  (forM (R := (Option Int)) (fun (s9 : Unit) (b10 : Int) => (bif v1.isNone then (some (some b10)) else ((v1).bind fun v11 =>
  some (some (if b10 > v11 then b10 else v11)))).bind fun v12 =>
  (m_opened_by x_job x_sizes v12).bind fun v13 =>
  bif (decide ((v13.2.length : Int) = (0 : Int))) then (some (.inr (some b10))) else (some (.inl ()))) (isort leI v7) ()).bind fun o14 => match o14 with
  | .inl s9 => (some none)
  | .inr r => some r
  )
def T_place_needed : FT := fun as r as' => ∃ (x_job : ((List Nm) × (List (Nm × (Option Nm))))) (x_sizes : ((List (Nm × Int)) × (List (Nm × Int)))) (y : (Option Int)), m_place_needed x_job x_sizes = some y ∧ as = [.dat ((eP (eT eN) (eT (eP eN (eO eN)))) x_job), .dat ((eP (eT (eP eN eI)) (eT (eP eN eI))) x_sizes)] ∧ r = (eO eI) y ∧ as' = as
def m_can_be_done (x_job : ((List Nm) × (List (Nm × (Option Nm))))) : Option Bool :=
  (m_rings x_job).bind fun v1 =>
  (bif (decide ((v1.length : Int) = (0 : Int))) then some true else ((m_free_places x_job).bind fun v2 =>
  (m_thrown x_job).bind fun v3 =>
  some (decide ((0 : Int) < ((v2.length : Int) + (v3.length : Int)))))).bind fun v4 =>
  some ((decide ((v1.length : Int) = (0 : Int))) || v4)
def T_can_be_done : FT := fun as r as' => ∃ (x_job : ((List Nm) × (List (Nm × (Option Nm))))) (y : Bool), m_can_be_done x_job = some y ∧ as = [.dat ((eP (eT eN) (eT (eP eN (eO eN)))) x_job)] ∧ r = eB y ∧ as' = as
def m_check_done (x_job : ((List Nm) × (List (Nm × (Option Nm))))) : Option Unit :=
  (m_can_be_done x_job).bind fun v1 =>
  bif (!v1) then (none) else (some ())
def T_check_done : FT := fun as r as' => ∃ (x_job : ((List Nm) × (List (Nm × (Option Nm))))) (y : Unit), m_check_done x_job = some y ∧ as = [.dat ((eP (eT eN) (eT (eP eN (eO eN)))) x_job)] ∧ r = eU y ∧ as' = as
def m_fewest_moves (x_job : ((List Nm) × (List (Nm × (Option Nm))))) : Option Int :=
  (m_check_done x_job).bind fun v1 =>
  (m_boxes x_job).bind fun v2 =>
  (m_staying x_job).bind fun v3 =>
  (m_rings x_job).bind fun v4 =>
  some (((v2.length : Int) - (v3.length : Int)) + (v4.length : Int))
def T_fewest_moves : FT := fun as r as' => ∃ (x_job : ((List Nm) × (List (Nm × (Option Nm))))) (y : Int), m_fewest_moves x_job = some y ∧ as = [.dat ((eP (eT eN) (eT (eP eN (eO eN)))) x_job)] ∧ r = eI y ∧ as' = as
theorem sc_a_plan_by_sizes : FnScope ["job", "sizes", "goal", "left", "found", "hole", "chain", "box"] ["job", "sizes"] (defScope s_a_plan_by_sizes) := ⟨rfl, rfl, rfl, by decide +kernel, rfl, by decide +kernel, by decide +kernel⟩
theorem can_a_plan_by_sizes (F : Def1 K mg "a_plan_by_sizes" s_a_plan_by_sizes) (fr : Fre mg) (c_can_be_done_by : Can P w K mg base "can_be_done_by" ["job", "sizes"] 9 T_can_be_done_by) (c_goal_of : Can P w K mg base "goal_of" ["job"] 5 T_goal_of) (c_rings : Can P w K mg base "rings" ["job"] 6 T_rings) (c_free_places : Can P w K mg base "free_places" ["job"] 5 T_free_places) (c_hole_moves : Can P w K mg base "hole_moves" ["sizes", "hole", "left"] 28 (T_hole_moves (hole_n 4))) (c_chains : Can P w K mg base "chains" ["job"] 6 T_chains) : Can P w K mg base "a_plan_by_sizes" ["job", "sizes"] 29 (T_a_plan_by_sizes) := by
  refine can_of F sc_a_plan_by_sizes (by decide) fr (fun f fd h => h.bindsN fun _ _ _ _ _ _ us hl => match us, hl with | [_, _], _ => rfl) ?_ ?_
  · rintro as r as' ⟨x_job, x_sizes, y, h, rfl, rfl, rfl⟩
    exact shp_dat [(eP (eT eN) (eT (eP eN (eO eN)))) x_job, (eP (eT (eP eN eI)) (eT (eP eN eI))) x_sizes] rfl rfl rfl
  · rintro f cdv A outer s0 H E as r as' hr G ⟨x_job, x_sizes, y, h, rfl, rfl, rfl⟩
    replace c_can_be_done_by := c_can_be_done_by.cal (hr.mono (by omega)) (N := ["job", "sizes", "goal", "left", "found", "hole", "chain", "box"]) (cdv := cdv) (outer := outer) (H := H) (E := E)
    replace c_goal_of := c_goal_of.cal (hr.mono (by omega)) (N := ["job", "sizes", "goal", "left", "found", "hole", "chain", "box"]) (cdv := cdv) (outer := outer) (H := H) (E := E)
    replace c_rings := c_rings.cal (hr.mono (by omega)) (N := ["job", "sizes", "goal", "left", "found", "hole", "chain", "box"]) (cdv := cdv) (outer := outer) (H := H) (E := E)
    replace c_free_places := c_free_places.cal (hr.mono (by omega)) (N := ["job", "sizes", "goal", "left", "found", "hole", "chain", "box"]) (cdv := cdv) (outer := outer) (H := H) (E := E)
    replace c_hole_moves := c_hole_moves.cal (hr.mono (by omega)) (N := ["job", "sizes", "goal", "left", "found", "hole", "chain", "box"]) (cdv := cdv) (outer := outer) (H := H) (E := E)
    replace c_chains := c_chains.cal (hr.mono (by omega)) (N := ["job", "sizes", "goal", "left", "found", "hole", "chain", "box"]) (cdv := cdv) (outer := outer) (H := H) (E := E)
    show SsD _ [.dat ((eP (eT eN) (eT (eP eN (eO eN)))) x_job), .dat ((eP (eT (eP eN eI)) (eT (eP eN eI))) x_sizes), .un, .un, .un, .un, .un, .un] _ _
    obtain ⟨v1, hv1, h⟩ := bnd h
    refine ss_cons (s_if (t_not (t_val (p := v1) (e_call c_can_be_done_by rfl (a_cons (v_var 0) (a_cons (v_var 1) a_nil)) ⟨x_job, x_sizes, v1, hv1, rfl, rfl, rfl⟩))) (fun hc => ?_) (fun hc => ?_))
    · have h := cndT h hc
      cases h
    · have h := cndF h hc
      refine ss_nil ?_
      show SsD _ [.dat ((eP (eT eN) (eT (eP eN (eO eN)))) x_job), .dat ((eP (eT (eP eN eI)) (eT (eP eN eI))) x_sizes), .un, .un, .un, .un, .un, .un] _ _
      obtain ⟨v2, hv2, h⟩ := bnd h
      obtain ⟨v3, hv3, h⟩ := bnd h
      refine ss_cons (s_par3 (i := 2) (j := 3) (l := 4) G.calm G.nd rfl rfl rfl (by decide) (by decide) (by decide) rfl rfl rfl (x_dat (e_call c_goal_of rfl (a_cons (v_var 0) a_nil) ⟨x_job, v2, hv2, rfl, rfl, rfl⟩) (x_new (n_lisT (f := (eT eN)) (l := v3) G (e_call c_rings rfl (a_cons (v_var 0) a_nil) ⟨x_job, v3, hv3, rfl, rfl, rfl⟩)) (x_new (n_lstV (f := (eP eN (eO eN))) (l := ([] : List (Nm × (Option Nm)))) rfl va_nil) x_nil))) ?_ rfl)
      show SsD _ [.dat ((eP (eT eN) (eT (eP eN (eO eN)))) x_job), .dat ((eP (eT (eP eN eI)) (eT (eP eN eI))) x_sizes), .dat ((eM (eO eN)) v2), .own ((eL (eT eN)) v3), .own ((eL (eP eN (eO eN))) ([] : List (Nm × (Option Nm)))), .un, .un, .un] _ _
      obtain ⟨v4, hv4, h⟩ := bnd h
      obtain ⟨o9, ho9, h⟩ := bnd h
      refine ss_cons (k_forS (g := eN) (fun (s5 : (List (Nm × (Option Nm))) × (List (List Nm))) => [.dat ((eP (eT eN) (eT (eP eN (eO eN)))) x_job), .dat ((eP (eT (eP eN eI)) (eT (eP eN eI))) x_sizes), .dat ((eM (eO eN)) v2), .own ((eL (eT eN)) s5.2), .own ((eL (eP eN (eO eN))) s5.1), .un, .un, .un]) (fun (b6 : Nm) => [(5, eN b6)]) G PassesOwn.never ho9 (it_T (f := eN) (l := v4) (e_call c_free_places rfl (a_cons (v_var 0) a_nil) ⟨x_job, v4, hv4, rfl, rfl, rfl⟩)) (fun b6 hb => tg1 5 G.nd) (fun s5 b6 t hb h => ?_) ?_)
      · show SsD _ [.dat ((eP (eT eN) (eT (eP eN (eO eN)))) x_job), .dat ((eP (eT (eP eN eI)) (eT (eP eN eI))) x_sizes), .dat ((eM (eO eN)) v2), .own ((eL (eT eN)) s5.2), .own ((eL (eP eN (eO eN))) s5.1), .dat (eN b6), .un, .un] _ _
        obtain ⟨v7, hv7, h⟩ := bnd h
        obtain ⟨u8, hu8, h⟩ := bnd h
        refine ss_cons (s_expr (v_ext (f := (eP eN (eO eN))) (l := s5.1) (m := v7.1) 4 (e_callO (d := (eL (eT eN)) s5.2) (d' := (eL (eT eN)) v7.2) c_hole_moves rfl [(eP (eT (eP eN eI)) (eT (eP eN eI))) x_sizes, eN b6] [] (m_dat (v_var 1) (m_dat (v_var 5) (m_own (i := 3) rfl (by first | exact .inl rfl | exact .inr (.inl rfl)) rfl m_nil))) (.inl rfl) ⟨x_sizes, b6, s5.2, v7, hv7, rfl, rfl, rfl⟩) (.inl rfl) (chk_of hu8) ⟨_, .inl rfl⟩) ?_)
        show SsD _ [.dat ((eP (eT eN) (eT (eP eN (eO eN)))) x_job), .dat ((eP (eT (eP eN eI)) (eT (eP eN eI))) x_sizes), .dat ((eM (eO eN)) v2), .own ((eL (eT eN)) v7.2), .own ((eL (eP eN (eO eN))) (s5.1 ++ v7.1)), .dat (eN b6), .un, .un] _ _
        refine ss_forget 5 ?_
        obtain rfl := Option.some.inj h
        exact ss_nil rfl
      show SsD _ [.dat ((eP (eT eN) (eT (eP eN (eO eN)))) x_job), .dat ((eP (eT (eP eN eI)) (eT (eP eN eI))) x_sizes), .dat ((eM (eO eN)) v2), .own ((eL (eT eN)) o9.2), .own ((eL (eP eN (eO eN))) o9.1), .un, .un, .un] _ _
      obtain ⟨v10, hv10, h⟩ := bnd h
      obtain ⟨o20, ho20, h⟩ := bnd h
      refine ss_cons (k_forS (g := (eT eN)) (fun (s11 : (List (Nm × (Option Nm))) × (List (List Nm))) => [.dat ((eP (eT eN) (eT (eP eN (eO eN)))) x_job), .dat ((eP (eT (eP eN eI)) (eT (eP eN eI))) x_sizes), .dat ((eM (eO eN)) v2), .own ((eL (eT eN)) s11.2), .own ((eL (eP eN (eO eN))) s11.1), .un, .un, .un]) (fun (b12 : (List Nm)) => [(6, (eT eN) b12)]) G PassesOwn.never ho20 (it_T (f := (eT eN)) (l := v10) (e_call c_chains rfl (a_cons (v_var 0) a_nil) ⟨x_job, v10, hv10, rfl, rfl, rfl⟩)) (fun b12 hb => tg1 6 G.nd) (fun s11 b12 t hb h => ?_) ?_)
      · show SsD _ [.dat ((eP (eT eN) (eT (eP eN (eO eN)))) x_job), .dat ((eP (eT (eP eN eI)) (eT (eP eN eI))) x_sizes), .dat ((eM (eO eN)) v2), .own ((eL (eT eN)) s11.2), .own ((eL (eP eN (eO eN))) s11.1), .un, .dat ((eT eN) b12), .un] _ _
        obtain ⟨o19, ho19, h⟩ := bnd h
        refine ss_cons (k_forS (g := eN) (fun (s13 : (List (Nm × (Option Nm))) × (List (List Nm))) => [.dat ((eP (eT eN) (eT (eP eN (eO eN)))) x_job), .dat ((eP (eT (eP eN eI)) (eT (eP eN eI))) x_sizes), .dat ((eM (eO eN)) v2), .own ((eL (eT eN)) s13.2), .own ((eL (eP eN (eO eN))) s13.1), .un, .dat ((eT eN) b12), .un]) (fun (b14 : Nm) => [(7, eN b14)]) G PassesOwn.never ho19 (it_T (f := eN) (l := b12.reverse) (v_revT (f := eN) (l := b12) (v_var 6))) (fun b14 hb => tg1 7 G.nd) (fun s13 b14 t hb h => ?_) ?_)
        · show SsD _ [.dat ((eP (eT eN) (eT (eP eN (eO eN)))) x_job), .dat ((eP (eT (eP eN eI)) (eT (eP eN eI))) x_sizes), .dat ((eM (eO eN)) v2), .own ((eL (eT eN)) s13.2), .own ((eL (eP eN (eO eN))) s13.1), .un, .dat ((eT eN) b12), .dat (eN b14)] _ _
          obtain ⟨v15, hv15, h⟩ := bnd h
          obtain ⟨u16, hu16, h⟩ := bnd h
          refine ss_cons (s_expr (v_app (f := (eP eN (eO eN))) (l := s13.1) (y := (b14, v15)) 4 (v_pair (f := eN) (g := (eO eN)) (y := b14) (z := v15) (v_var 7) (v_lk (f := (eO eN)) (l := v2) (k := b14) (y := v15) G hv15 (v_var 2) (v_var 7))) (.inl rfl) (chk_of hu16) ⟨_, .inl rfl⟩) ?_)
          show SsD _ [.dat ((eP (eT eN) (eT (eP eN (eO eN)))) x_job), .dat ((eP (eT (eP eN eI)) (eT (eP eN eI))) x_sizes), .dat ((eM (eO eN)) v2), .own ((eL (eT eN)) s13.2), .own ((eL (eP eN (eO eN))) (s13.1 ++ [(b14, v15)])), .un, .dat ((eT eN) b12), .dat (eN b14)] _ _
          obtain ⟨v17, hv17, h⟩ := bnd h
          obtain ⟨u18, hu18, h⟩ := bnd h
          refine ss_cons (s_expr (v_ext (f := (eP eN (eO eN))) (l := (s13.1 ++ [(b14, v15)])) (m := v17.1) 4 (e_callO (d := (eL (eT eN)) s13.2) (d' := (eL (eT eN)) v17.2) c_hole_moves rfl [(eP (eT (eP eN eI)) (eT (eP eN eI))) x_sizes, eN b14] [] (m_dat (v_var 1) (m_dat (v_var 7) (m_own (i := 3) rfl (by first | exact .inl rfl | exact .inr (.inl rfl)) rfl m_nil))) (.inl rfl) ⟨x_sizes, b14, s13.2, v17, hv17, rfl, rfl, rfl⟩) (.inl rfl) (chk_of hu18) ⟨_, .inl rfl⟩) ?_)
          show SsD _ [.dat ((eP (eT eN) (eT (eP eN (eO eN)))) x_job), .dat ((eP (eT (eP eN eI)) (eT (eP eN eI))) x_sizes), .dat ((eM (eO eN)) v2), .own ((eL (eT eN)) v17.2), .own ((eL (eP eN (eO eN))) ((s13.1 ++ [(b14, v15)]) ++ v17.1)), .un, .dat ((eT eN) b12), .dat (eN b14)] _ _
          refine ss_forget 7 ?_
          obtain rfl := Option.some.inj h
          exact ss_nil rfl
        show SsD _ [.dat ((eP (eT eN) (eT (eP eN (eO eN)))) x_job), .dat ((eP (eT (eP eN eI)) (eT (eP eN eI))) x_sizes), .dat ((eM (eO eN)) v2), .own ((eL (eT eN)) o19.2), .own ((eL (eP eN (eO eN))) o19.1), .un, .dat ((eT eN) b12), .un] _ _
        refine ss_forget 6 ?_
        obtain rfl := Option.some.inj h
        exact ss_nil rfl
      show SsD _ [.dat ((eP (eT eN) (eT (eP eN (eO eN)))) x_job), .dat ((eP (eT (eP eN eI)) (eT (eP eN eI))) x_sizes), .dat ((eM (eO eN)) v2), .own ((eL (eT eN)) o20.2), .own ((eL (eP eN (eO eN))) o20.1), .un, .un, .un] _ _
      refine ss_freezeL 4 rfl ?_
      show SsD _ [.dat ((eP (eT eN) (eT (eP eN (eO eN)))) x_job), .dat ((eP (eT (eP eN eI)) (eT (eP eN eI))) x_sizes), .dat ((eM (eO eN)) v2), .own ((eL (eT eN)) o20.2), .dat ((eL (eP eN (eO eN))) o20.1), .un, .un, .un] _ _
      obtain rfl := Option.some.inj h
      exact ss_cons (s_ret (v_tupL (f := (eP eN (eO eN))) (l := o20.1) G (v_var 4)) ⟨rfl, (by first | exact trivial | exact ⟨rfl, trivial⟩)⟩)
theorem sc_is_plan_by_sizes : FnScope ["job", "sizes", "thing", "stand", "move", "box"] ["job", "sizes", "thing"] (defScope s_is_plan_by_sizes) := ⟨rfl, rfl, rfl, by decide +kernel, rfl, by decide +kernel, by decide +kernel⟩
theorem can_is_plan_by_sizes (F : Def1 K mg "is_plan_by_sizes" s_is_plan_by_sizes) (fr : Fre mg) (c_is_plan : Can P w K mg base "is_plan" ["job", "thing"] 7 T_is_plan) (c_first_stand : Can P w K mg base "first_stand" ["job"] 6 T_first_stand) (c_fits : Can P w K mg base "fits" ["job", "sizes", "box", "place"] 6 T_fits) (c_moved : Can P w K mg base "moved" ["stand", "move"] 5 T_moved) : Can P w K mg base "is_plan_by_sizes" ["job", "sizes", "thing"] 8 (T_is_plan_by_sizes) := by
  refine can_of F sc_is_plan_by_sizes (by decide) fr (fun f fd h => h.bindsN fun _ _ _ _ _ _ us hl => match us, hl with | [_, _, _], _ => rfl) ?_ ?_
  · rintro as r as' ⟨x_job, x_sizes, x_thing, y, h, rfl, rfl, rfl⟩
    exact shp_dat [(eP (eT eN) (eT (eP eN (eO eN)))) x_job, (eP (eT (eP eN eI)) (eT (eP eN eI))) x_sizes, (eT (eP eN (eO eN))) x_thing] rfl rfl rfl
  · rintro f cdv A outer s0 H E as r as' hr G ⟨x_job, x_sizes, x_thing, y, h, rfl, rfl, rfl⟩
    replace c_is_plan := c_is_plan.cal (hr.mono (by omega)) (N := ["job", "sizes", "thing", "stand", "move", "box"]) (cdv := cdv) (outer := outer) (H := H) (E := E)
    replace c_first_stand := c_first_stand.cal (hr.mono (by omega)) (N := ["job", "sizes", "thing", "stand", "move", "box"]) (cdv := cdv) (outer := outer) (H := H) (E := E)
    replace c_fits := c_fits.cal (hr.mono (by omega)) (N := ["job", "sizes", "thing", "stand", "move", "box"]) (cdv := cdv) (outer := outer) (H := H) (E := E)
    replace c_moved := c_moved.cal (hr.mono (by omega)) (N := ["job", "sizes", "thing", "stand", "move", "box"]) (cdv := cdv) (outer := outer) (H := H) (E := E)
    show SsD _ [.dat ((eP (eT eN) (eT (eP eN (eO eN)))) x_job), .dat ((eP (eT (eP eN eI)) (eT (eP eN eI))) x_sizes), .dat ((eT (eP eN (eO eN))) x_thing), .un, .un, .un] _ _
    obtain ⟨v1, hv1, h⟩ := bnd h
    refine ss_cons (s_if (t_not (t_val (p := v1) (e_call c_is_plan rfl (a_cons (v_var 0) (a_cons (v_var 2) a_nil)) ⟨x_job, x_thing, v1, hv1, rfl, rfl, rfl⟩))) (fun hc => ?_) (fun hc => ?_))
    · have h := cndT h hc
      obtain rfl := Option.some.inj h
      exact ss_cons (s_ret e_bl ⟨rfl, (by first | exact trivial | exact ⟨rfl, trivial⟩)⟩)
    · have h := cndF h hc
      refine ss_nil ?_
      show SsD _ [.dat ((eP (eT eN) (eT (eP eN (eO eN)))) x_job), .dat ((eP (eT (eP eN eI)) (eT (eP eN eI))) x_sizes), .dat ((eT (eP eN (eO eN))) x_thing), .un, .un, .un] _ _
      obtain ⟨v2, hv2, h⟩ := bnd h
      refine ss_cons (w_set 3 G (e_call c_first_stand rfl (a_cons (v_var 0) a_nil) ⟨x_job, v2, hv2, rfl, rfl, rfl⟩) ?_)
      show SsD _ [.dat ((eP (eT eN) (eT (eP eN (eO eN)))) x_job), .dat ((eP (eT (eP eN eI)) (eT (eP eN eI))) x_sizes), .dat ((eT (eP eN (eO eN))) x_thing), .dat ((eT (eP eN eN)) v2), .un, .un] _ _
      obtain ⟨o11, ho11, h⟩ := bnd h
      refine ss_cons (k_for (g := (eP eN (eO eN))) (fun (s3 : (List (Nm × Nm))) => [.dat ((eP (eT eN) (eT (eP eN (eO eN)))) x_job), .dat ((eP (eT (eP eN eI)) (eT (eP eN eI))) x_sizes), .dat ((eT (eP eN (eO eN))) x_thing), .dat ((eT (eP eN eN)) s3), .un, .un]) (fun (b4 : (Nm × (Option Nm))) => [(4, (eP eN (eO eN)) b4)]) (fun r d δ' => d = eB r ∧ parsOk [.dat ((eP (eT eN) (eT (eP eN (eO eN)))) x_job), .dat ((eP (eT (eP eN eI)) (eT (eP eN eI))) x_sizes), .dat ((eT (eP eN (eO eN))) x_thing)] δ') G PassesOwn.never ho11 (it_T (f := (eP eN (eO eN))) (l := x_thing) (v_var 2)) (fun b4 hb => tg1 4 G.nd) (fun s3 b4 => by intro z hz; simp at hz; subst hz; rfl) (fun s3 b4 t hb h => ?_) (fun s3 e => ?_) (fun r d δ' e hr => ?_))
      · show SsD _ [.dat ((eP (eT eN) (eT (eP eN (eO eN)))) x_job), .dat ((eP (eT (eP eN eI)) (eT (eP eN eI))) x_sizes), .dat ((eT (eP eN (eO eN))) x_thing), .dat ((eT (eP eN eN)) s3), .dat ((eP eN (eO eN)) b4), .un] _ _
        obtain ⟨v5, hv5, h⟩ := bnd h
        obtain ⟨v6, hv6, h⟩ := bnd h
        refine ss_cons (w_set 5 G (v_lk (f := eN) (l := v5) (k := b4.1) (y := v6) G hv6 (v_dictT (f := eN) (l := s3) (m := v5) G hv5 (v_var 3)) (v_fst (f := eN) (g := (eO eN)) (y := b4) (v_var 4))) ?_)
        show SsD _ [.dat ((eP (eT eN) (eT (eP eN (eO eN)))) x_job), .dat ((eP (eT (eP eN eI)) (eT (eP eN eI))) x_sizes), .dat ((eT (eP eN (eO eN))) x_thing), .dat ((eT (eP eN eN)) s3), .dat ((eP eN (eO eN)) b4), .dat (eN v6)] _ _
        obtain ⟨v9, hv9, h⟩ := bnd h
        refine ss_cons (s_if (t_w (w_and (p := (!b4.2.isNone)) (q := v9) (vt_notN (f := eN) (y := b4.2) (v_snd (f := eN) (g := (eO eN)) (y := b4) (v_var 4))) (fun hc => by have h := cndT hv9 hc; obtain ⟨v7, hv7, h⟩ := bnd h; obtain ⟨v8, hv8, h⟩ := bnd h; obtain rfl := Option.some.inj h; exact (w_and1 (t_not (t_val (p := v8) (e_call c_fits rfl (a_cons (v_var 0) (a_cons (v_var 1) (a_cons (v_var 5) (a_cons (EvD.cast ((v_snd (f := eN) (g := (eO eN)) (y := b4) (v_var 4))) (show eO eN b4.2 = eN v7 from congrArg (eO eN) hv7)) a_nil)))) ⟨x_job, x_sizes, v6, v7, v8, hv8, rfl, rfl, rfl⟩))))))) (fun hc => ?_) (fun hc => ?_))
        · have h := cndT h hc
          exact ss_cons (s_ret e_bl ⟨_, (Option.some.inj h).symm, rfl, (by first | exact trivial | exact ⟨rfl, trivial⟩)⟩)
        · have h := cndF h hc
          refine ss_nil ?_
          show SsD _ [.dat ((eP (eT eN) (eT (eP eN (eO eN)))) x_job), .dat ((eP (eT (eP eN eI)) (eT (eP eN eI))) x_sizes), .dat ((eT (eP eN (eO eN))) x_thing), .dat ((eT (eP eN eN)) s3), .dat ((eP eN (eO eN)) b4), .dat (eN v6)] _ _
          obtain ⟨v10, hv10, h⟩ := bnd h
          refine ss_cons (w_set 3 G (e_call c_moved rfl (a_cons (v_var 3) (a_cons (v_var 4) a_nil)) ⟨s3, b4, v10, hv10, rfl, rfl, rfl⟩) ?_)
          show SsD _ [.dat ((eP (eT eN) (eT (eP eN (eO eN)))) x_job), .dat ((eP (eT (eP eN eI)) (eT (eP eN eI))) x_sizes), .dat ((eT (eP eN (eO eN))) x_thing), .dat ((eT (eP eN eN)) v10), .dat ((eP eN (eO eN)) b4), .dat (eN v6)] _ _
          refine ss_forget 4 ?_
          refine ss_forget 5 ?_
          exact ss_nil ⟨_, (Option.some.inj h).symm, rfl⟩
      · subst e
        have h : _ = some _ := h
        show SsD _ [.dat ((eP (eT eN) (eT (eP eN (eO eN)))) x_job), .dat ((eP (eT (eP eN eI)) (eT (eP eN eI))) x_sizes), .dat ((eT (eP eN (eO eN))) x_thing), .dat ((eT (eP eN eN)) s3), .un, .un] _ _
        obtain rfl := Option.some.inj h
        exact ss_cons (s_ret e_bl ⟨rfl, (by first | exact trivial | exact ⟨rfl, trivial⟩)⟩)
      · subst e
        obtain rfl := Option.some.inj h
        exact hr
theorem sc_place_needed : FnScope ["job", "sizes", "hole", "thick", "number", "box"] ["job", "sizes"] (defScope s_place_needed) := ⟨rfl, rfl, rfl, by decide +kernel, rfl, by decide +kernel, by decide +kernel⟩
theorem can_place_needed (F : Def1 K mg "place_needed" s_place_needed) (fr : Fre mg) (c_hole_of : Can P w K mg base "hole_of" ["job", "sizes"] 7 T_hole_of) (c_tables_of : Can P w K mg base "tables_of" ["sizes"] 5 T_tables_of) (c_can_be_done_by : Can P w K mg base "can_be_done_by" ["job", "sizes"] 9 T_can_be_done_by) (c_boxes : Can P w K mg base "boxes" ["job"] 5 T_boxes) (c_opened_by : Can P w K mg base "opened_by" ["job", "sizes", "hole"] 7 T_opened_by) : Can P w K mg base "place_needed" ["job", "sizes"] 10 (T_place_needed) := by
  refine can_of F sc_place_needed (by decide) fr (fun f fd h => h.bindsN fun _ _ _ _ _ _ us hl => match us, hl with | [_, _], _ => rfl) ?_ ?_
  · rintro as r as' ⟨x_job, x_sizes, y, h, rfl, rfl, rfl⟩
    exact shp_dat [(eP (eT eN) (eT (eP eN (eO eN)))) x_job, (eP (eT (eP eN eI)) (eT (eP eN eI))) x_sizes] rfl rfl rfl
  · rintro f cdv A outer s0 H E as r as' hr G ⟨x_job, x_sizes, y, h, rfl, rfl, rfl⟩
    replace c_hole_of := c_hole_of.cal (hr.mono (by omega)) (N := ["job", "sizes", "hole", "thick", "number", "box"]) (cdv := cdv) (outer := outer) (H := H) (E := E)
    replace c_tables_of := c_tables_of.cal (hr.mono (by omega)) (N := ["job", "sizes", "hole", "thick", "number", "box"]) (cdv := cdv) (outer := outer) (H := H) (E := E)
    replace c_can_be_done_by := c_can_be_done_by.cal (hr.mono (by omega)) (N := ["job", "sizes", "hole", "thick", "number", "box"]) (cdv := cdv) (outer := outer) (H := H) (E := E)
    replace c_boxes := c_boxes.cal (hr.mono (by omega)) (N := ["job", "sizes", "hole", "thick", "number", "box"]) (cdv := cdv) (outer := outer) (H := H) (E := E)
    replace c_opened_by := c_opened_by.cal (hr.mono (by omega)) (N := ["job", "sizes", "hole", "thick", "number", "box"]) (cdv := cdv) (outer := outer) (H := H) (E := E)
    show SsD _ [.dat ((eP (eT eN) (eT (eP eN (eO eN)))) x_job), .dat ((eP (eT (eP eN eI)) (eT (eP eN eI))) x_sizes), .un, .un, .un, .un] _ _
    obtain ⟨v1, hv1, h⟩ := bnd h
    obtain ⟨v2, hv2, h⟩ := bnd h
    refine ss_cons (s_parT (is := [2, 3]) (x_dat (e_call c_hole_of rfl (a_cons (v_var 0) (a_cons (v_var 1) a_nil)) ⟨x_job, x_sizes, v1, hv1, rfl, rfl, rfl⟩) (x_dat (v_snd (f := (eM eI)) (g := (eM eI)) (y := v2) (e_call c_tables_of rfl (a_cons (v_var 1) a_nil) ⟨x_sizes, v2, hv2, rfl, rfl, rfl⟩)) x_nil)) G.calm ⟨_, (gs_cons (i := 2) G.nd rfl (by first | exact .inl rfl | exact .inr rfl) (gs_cons (i := 3) G.nd rfl (by first | exact .inl rfl | exact .inr rfl) gs_nil))⟩ ?_ rfl (by decide) (by intro i hi; simp at hi; rcases hi with rfl | rfl <;> rfl) (hz := by show 2 ≤ sizeLine; decide))
    show SsD _ [.dat ((eP (eT eN) (eT (eP eN (eO eN)))) x_job), .dat ((eP (eT (eP eN eI)) (eT (eP eN eI))) x_sizes), .dat ((eO eI) v1), .dat ((eM eI) v2.2), .un, .un] _ _
    obtain ⟨v3, hv3, h⟩ := bnd h
    refine ss_cons (s_if (t_val (p := v3) (e_call c_can_be_done_by rfl (a_cons (v_var 0) (a_cons (v_var 1) a_nil)) ⟨x_job, x_sizes, v3, hv3, rfl, rfl, rfl⟩)) (fun hc => ?_) (fun hc => ?_))
    · have h := cndT h hc
      obtain rfl := Option.some.inj h
      exact ss_cons (s_ret e_int ⟨rfl, (by first | exact trivial | exact ⟨rfl, trivial⟩)⟩)
    · have h := cndF h hc
      refine ss_nil ?_
      show SsD _ [.dat ((eP (eT eN) (eT (eP eN (eO eN)))) x_job), .dat ((eP (eT (eP eN eI)) (eT (eP eN eI))) x_sizes), .dat ((eO eI) v1), .dat ((eM eI) v2.2), .un, .un] _ _
      obtain ⟨v4, hv4, h⟩ := bnd h
      obtain ⟨v7, hv7, h⟩ := bnd h
      obtain ⟨o14, ho14, h⟩ := bnd h
      refine ss_cons (k_for (g := eI) (fun (s9 : Unit) => [.dat ((eP (eT eN) (eT (eP eN (eO eN)))) x_job), .dat ((eP (eT (eP eN eI)) (eT (eP eN eI))) x_sizes), .dat ((eO eI) v1), .dat ((eM eI) v2.2), .un, .un]) (fun (b10 : Int) => [(4, eI b10)]) (fun r d δ' => d = (eO eI) r ∧ parsOk [.dat ((eP (eT eN) (eT (eP eN (eO eN)))) x_job), .dat ((eP (eT (eP eN eI)) (eT (eP eN eI))) x_sizes)] δ') G PassesOwn.never ho14 (it_L (f := eI) (l := (isort leI v7)) ((n_srtL (f := eI) (l := v7) G (((k_lcD (g := eN) (f := eI) [("box", 5)] (fun (b5 : Nm) => [(5, eN b5)]) G hv7 ((it_T (f := eN) (l := v4) (e_call c_boxes rfl (a_cons (v_var 0) a_nil) ⟨x_job, v4, hv4, rfl, rfl, rfl⟩))).l (.inl rfl) (fun s H C cl fp b5 hb => tg1 5 G.nd) (fun z H C cl fp b5 y8 G hb h => by show EvD _ [.dat ((eP (eT eN) (eT (eP eN (eO eN)))) x_job), .dat ((eP (eT (eP eN eI)) (eT (eP eN eI))) x_sizes), .dat ((eO eI) v1), .dat ((eM eI) v2.2), .un, .dat (eN b5)] _ _ [.dat ((eP (eT eN) (eT (eP eN (eO eN)))) x_job), .dat ((eP (eT (eP eN eI)) (eT (eP eN eI))) x_sizes), .dat ((eO eI) v1), .dat ((eM eI) v2.2), .un, .dat (eN b5)]; obtain ⟨v6, hv6, h⟩ := bnd h; obtain rfl := Option.some.inj h; exact (v_lk (f := eI) (l := v2.2) (k := b5) (y := v6) G hv6 (v_var 3) (v_var 5))))).n G.calm G.nd).ev)).ev) (fun b10 hb => tg1 4 G.nd) (fun s9 b10 => by intro z hz; simp at hz; subst hz; rfl) (fun s9 b10 t hb h => ?_) (fun s9 e => ?_) (fun r d δ' e hr => ?_))
      · show SsD _ [.dat ((eP (eT eN) (eT (eP eN (eO eN)))) x_job), .dat ((eP (eT (eP eN eI)) (eT (eP eN eI))) x_sizes), .dat ((eO eI) v1), .dat ((eM eI) v2.2), .dat (eI b10), .un] _ _
        obtain ⟨v12, hv12, h⟩ := bnd h
        obtain ⟨v13, hv13, h⟩ := bnd h
        refine ss_cons (s_if (vt_eq (f := eI) (y := (v13.2.length : Int)) (z := (0 : Int)) G (v_lenT (f := (eT eN)) (l := v13.2) G (v_snd (f := (eT (eP (eT eN) eI))) (g := (eT (eT eN))) (y := v13) (e_call c_opened_by rfl (a_cons (v_var 0) (a_cons (v_var 1) (a_cons (v_if (f := (eO eI)) (v := v12) (vt_isN (f := eI) (y := v1) (v_var 2)) (fun hc => by have h := cndT hv12 hc; skip; obtain rfl := Option.some.inj h; exact (v_var 4)) (fun hc => by have h := cndF hv12 hc; obtain ⟨v11, hv11, h⟩ := bnd h; obtain rfl := Option.some.inj h; exact (v_max2 (i := v11) (j := b10) G (EvD.cast ((v_var 2)) (show eO eI v1 = eI v11 from congrArg (eO eI) hv11)) (v_var 4)))) a_nil))) ⟨x_job, x_sizes, v12, v13, hv13, rfl, rfl, rfl⟩))) e_int) (fun hc => ?_) (fun hc => ?_))
        · have h := cndT h hc
          exact ss_cons (s_ret (v_var 4) ⟨_, (Option.some.inj h).symm, rfl, (by first | exact trivial | exact ⟨rfl, trivial⟩)⟩)
        · have h := cndF h hc
          refine ss_nil ?_
          show SsD _ [.dat ((eP (eT eN) (eT (eP eN (eO eN)))) x_job), .dat ((eP (eT (eP eN eI)) (eT (eP eN eI))) x_sizes), .dat ((eO eI) v1), .dat ((eM eI) v2.2), .dat (eI b10), .un] _ _
          refine ss_forget 4 ?_
          exact ss_nil ⟨_, (Option.some.inj h).symm, rfl⟩
      · subst e
        have h : _ = some _ := h
        show SsD _ [.dat ((eP (eT eN) (eT (eP eN (eO eN)))) x_job), .dat ((eP (eT (eP eN eI)) (eT (eP eN eI))) x_sizes), .dat ((eO eI) v1), .dat ((eM eI) v2.2), .un, .un] _ _
        obtain rfl := Option.some.inj h
        exact ss_cons (s_ret e_non ⟨rfl, (by first | exact trivial | exact ⟨rfl, trivial⟩)⟩)
      · subst e
        obtain rfl := Option.some.inj h
        exact hr
theorem sc_can_be_done : FnScope ["job"] ["job"] (defScope s_can_be_done) := ⟨rfl, rfl, rfl, by decide +kernel, rfl, by decide +kernel, by decide +kernel⟩
theorem can_can_be_done (F : Def1 K mg "can_be_done" s_can_be_done) (fr : Fre mg) (c_rings : Can P w K mg base "rings" ["job"] 6 T_rings) (c_free_places : Can P w K mg base "free_places" ["job"] 5 T_free_places) (c_thrown : Can P w K mg base "thrown" ["job"] 5 T_thrown) : Can P w K mg base "can_be_done" ["job"] 7 (T_can_be_done) := by
  refine can_of F sc_can_be_done (by decide) fr (fun f fd h => h.bindsN fun _ _ _ _ _ _ us hl => match us, hl with | [_], _ => rfl) ?_ ?_
  · rintro as r as' ⟨x_job, y, h, rfl, rfl, rfl⟩
    exact shp_dat [(eP (eT eN) (eT (eP eN (eO eN)))) x_job] rfl rfl rfl
  · rintro f cdv A outer s0 H E as r as' hr G ⟨x_job, y, h, rfl, rfl, rfl⟩
    replace c_rings := c_rings.cal (hr.mono (by omega)) (N := ["job"]) (cdv := cdv) (outer := outer) (H := H) (E := E)
    replace c_free_places := c_free_places.cal (hr.mono (by omega)) (N := ["job"]) (cdv := cdv) (outer := outer) (H := H) (E := E)
    replace c_thrown := c_thrown.cal (hr.mono (by omega)) (N := ["job"]) (cdv := cdv) (outer := outer) (H := H) (E := E)
    show SsD _ [.dat ((eP (eT eN) (eT (eP eN (eO eN)))) x_job)] _ _
    obtain ⟨v1, hv1, h⟩ := bnd h
    obtain ⟨v4, hv4, h⟩ := bnd h
    obtain rfl := Option.some.inj h
    exact ss_cons (s_ret (e_or (p := (decide ((v1.length : Int) = (0 : Int)))) (q := v4) (v_eq (f := eI) (y := (v1.length : Int)) (z := (0 : Int)) G (v_lenT (f := (eT eN)) (l := v1) G (e_call c_rings rfl (a_cons (v_var 0) a_nil) ⟨x_job, v1, hv1, rfl, rfl, rfl⟩)) e_int) (fun hc => by have h := cndF hv4 hc; obtain ⟨v2, hv2, h⟩ := bnd h; obtain ⟨v3, hv3, h⟩ := bnd h; obtain rfl := Option.some.inj h; exact (e_one (e_gt (i := ((v2.length : Int) + (v3.length : Int))) (j := (0 : Int)) (e_add (v_lenT (f := eN) (l := v2) G (e_call c_free_places rfl (a_cons (v_var 0) a_nil) ⟨x_job, v2, hv2, rfl, rfl, rfl⟩)) (v_lenT (f := eN) (l := v3) G (e_call c_thrown rfl (a_cons (v_var 0) a_nil) ⟨x_job, v3, hv3, rfl, rfl, rfl⟩))) e_int)))) ⟨rfl, (by first | exact trivial | exact ⟨rfl, trivial⟩)⟩)
theorem sc_check_done : FnScope ["job"] ["job"] (defScope s_check_done) := ⟨rfl, rfl, rfl, by decide +kernel, rfl, by decide +kernel, by decide +kernel⟩
theorem can_check_done (F : Def1 K mg "check_done" s_check_done) (fr : Fre mg) (c_can_be_done : Can P w K mg base "can_be_done" ["job"] 7 T_can_be_done) : Can P w K mg base "check_done" ["job"] 8 (T_check_done) := by
  refine can_of F sc_check_done (by decide) fr (fun f fd h => h.bindsN fun _ _ _ _ _ _ us hl => match us, hl with | [_], _ => rfl) ?_ ?_
  · rintro as r as' ⟨x_job, y, h, rfl, rfl, rfl⟩
    exact shp_dat [(eP (eT eN) (eT (eP eN (eO eN)))) x_job] rfl rfl rfl
  · rintro f cdv A outer s0 H E as r as' hr G ⟨x_job, y, h, rfl, rfl, rfl⟩
    replace c_can_be_done := c_can_be_done.cal (hr.mono (by omega)) (N := ["job"]) (cdv := cdv) (outer := outer) (H := H) (E := E)
    show SsD _ [.dat ((eP (eT eN) (eT (eP eN (eO eN)))) x_job)] _ _
    obtain ⟨v1, hv1, h⟩ := bnd h
    refine ss_cons (s_if (t_not (t_val (p := v1) (e_call c_can_be_done rfl (a_cons (v_var 0) a_nil) ⟨x_job, v1, hv1, rfl, rfl, rfl⟩))) (fun hc => ?_) (fun hc => ?_))
    · have h := cndT h hc
      cases h
    · have h := cndF h hc
      refine ss_nil ?_
      show SsD _ [.dat ((eP (eT eN) (eT (eP eN (eO eN)))) x_job)] _ _
      obtain rfl := Option.some.inj h
      exact ss_nil ⟨rfl, (by first | exact trivial | exact ⟨rfl, trivial⟩)⟩
theorem sc_fewest_moves : FnScope ["job"] ["job"] (defScope s_fewest_moves) := ⟨rfl, rfl, rfl, by decide +kernel, rfl, by decide +kernel, by decide +kernel⟩
theorem can_fewest_moves (F : Def1 K mg "fewest_moves" s_fewest_moves) (fr : Fre mg) (c_check_done : Can P w K mg base "check_done" ["job"] 8 T_check_done) (c_boxes : Can P w K mg base "boxes" ["job"] 5 T_boxes) (c_staying : Can P w K mg base "staying" ["job"] 5 T_staying) (c_rings : Can P w K mg base "rings" ["job"] 6 T_rings) : Can P w K mg base "fewest_moves" ["job"] 9 (T_fewest_moves) := by
  refine can_of F sc_fewest_moves (by decide) fr (fun f fd h => h.bindsN fun _ _ _ _ _ _ us hl => match us, hl with | [_], _ => rfl) ?_ ?_
  · rintro as r as' ⟨x_job, y, h, rfl, rfl, rfl⟩
    exact shp_dat [(eP (eT eN) (eT (eP eN (eO eN)))) x_job] rfl rfl rfl
  · rintro f cdv A outer s0 H E as r as' hr G ⟨x_job, y, h, rfl, rfl, rfl⟩
    replace c_check_done := c_check_done.cal (hr.mono (by omega)) (N := ["job"]) (cdv := cdv) (outer := outer) (H := H) (E := E)
    replace c_boxes := c_boxes.cal (hr.mono (by omega)) (N := ["job"]) (cdv := cdv) (outer := outer) (H := H) (E := E)
    replace c_staying := c_staying.cal (hr.mono (by omega)) (N := ["job"]) (cdv := cdv) (outer := outer) (H := H) (E := E)
    replace c_rings := c_rings.cal (hr.mono (by omega)) (N := ["job"]) (cdv := cdv) (outer := outer) (H := H) (E := E)
    show SsD _ [.dat ((eP (eT eN) (eT (eP eN (eO eN)))) x_job)] _ _
    obtain ⟨v1, hv1, h⟩ := bnd h
    refine ss_cons (s_expr (e_call c_check_done rfl (a_cons (v_var 0) a_nil) ⟨x_job, v1, hv1, rfl, rfl, rfl⟩) ?_)
    show SsD _ [.dat ((eP (eT eN) (eT (eP eN (eO eN)))) x_job)] _ _
    obtain ⟨v2, hv2, h⟩ := bnd h
    obtain ⟨v3, hv3, h⟩ := bnd h
    obtain ⟨v4, hv4, h⟩ := bnd h
    obtain rfl := Option.some.inj h
    exact ss_cons (s_ret (e_add (e_sub (v_lenT (f := eN) (l := v2) G (e_call c_boxes rfl (a_cons (v_var 0) a_nil) ⟨x_job, v2, hv2, rfl, rfl, rfl⟩)) (v_lenT (f := eN) (l := v3) G (e_call c_staying rfl (a_cons (v_var 0) a_nil) ⟨x_job, v3, hv3, rfl, rfl, rfl⟩))) (v_lenT (f := (eT eN)) (l := v4) G (e_call c_rings rfl (a_cons (v_var 0) a_nil) ⟨x_job, v4, hv4, rfl, rfl, rfl⟩))) ⟨rfl, (by first | exact trivial | exact ⟨rfl, trivial⟩)⟩)
end
end ND

/-! G6 -/
set_option Elab.async false
set_option linter.all false
set_option maxRecDepth 100000
set_option maxHeartbeats 4000000
namespace ND
open PySem PySem.Spec PyProof.Rows L2 NA
section
variable {P : Program} {w : World} {K : PySem.W.Frag} {mg : Str → Option Value} {base : Heap}

def m__law_yard (x_task_here : ((List Nm) × (List (Nm × (Option Nm))))) : Option (List (Nm × Nm)) :=
  (cmpM (fun _ => some true) (fun (b1 : (Nm × (Option Nm))) => some (b1.1, b1.1)) x_task_here.2).bind fun v2 =>
  (mkD v2).bind fun v4 =>
  some v4
def T__law_yard : FT := fun as r as' => ∃ (x_task_here : ((List Nm) × (List (Nm × (Option Nm))))) (y : (List (Nm × Nm))), m__law_yard x_task_here = some y ∧ as = [.dat ((eP (eT eN) (eT (eP eN (eO eN)))) x_task_here)] ∧ r = (eM eN) y ∧ as' = as
def m__law_goal (x_task_here : ((List Nm) × (List (Nm × (Option Nm))))) : Option (List (Nm × (Option Nm))) :=
  (mkD x_task_here.2).bind fun v1 =>
  some v1
def T__law_goal : FT := fun as r as' => ∃ (x_task_here : ((List Nm) × (List (Nm × (Option Nm))))) (y : (List (Nm × (Option Nm)))), m__law_goal x_task_here = some y ∧ as = [.dat ((eP (eT eN) (eT (eP eN (eO eN)))) x_task_here)] ∧ r = (eM (eO eN)) y ∧ as' = as
def m__law_can (x_task_here : ((List Nm) × (List (Nm × (Option Nm))))) (x_yard_here : (List (Nm × Nm))) (x_haul : (Nm × (Option Nm))) : Option Bool :=
  bif (!(hasK x_yard_here x_haul.1)) then (some false) else (bif x_haul.2.isNone then ((m__law_goal x_task_here).bind fun v1 =>
  (lk x_yard_here x_haul.1).bind fun v2 =>
  (lk v1 v2).bind fun v3 =>
  some v3.isNone) else (some ((cont (x_task_here.1.map some) x_haul.2) && (!(hasO x_yard_here x_haul.2)))))
def T__law_can : FT := fun as r as' => ∃ (x_task_here : ((List Nm) × (List (Nm × (Option Nm))))) (x_yard_here : (List (Nm × Nm))) (x_haul : (Nm × (Option Nm))) (y : Bool), m__law_can x_task_here x_yard_here x_haul = some y ∧ as = [.dat ((eP (eT eN) (eT (eP eN (eO eN)))) x_task_here), .dat ((eM eN) x_yard_here), .dat ((eP eN (eO eN)) x_haul)] ∧ r = eB y ∧ as' = as
def m__law_done (x_task_here : ((List Nm) × (List (Nm × (Option Nm))))) (x_yard_here : (List (Nm × Nm))) (x_haul : (Nm × (Option Nm))) : Option (List (Nm × Nm)) :=
  (cmpM (fun (b1 : (Nm × Nm)) => some (!decide (b1.1 = x_haul.1))) (fun (b1 : (Nm × Nm)) => some (b1.1, b1.2)) x_yard_here).bind fun v2 =>
  (mkD v2).bind fun v4 =>
  (bif (!x_haul.2.isNone) then ((lk x_yard_here x_haul.1).bind fun v6 =>
  (x_haul.2).bind fun v7 =>
  (chk (!hasK v4 v7 && decide (v4.length < 2000))).bind fun u8 =>
  some (v4 ++ [(v7, v6)])) else (some v4)).bind fun s5 =>
  some s5
def T__law_done : FT := fun as r as' => ∃ (x_task_here : ((List Nm) × (List (Nm × (Option Nm))))) (x_yard_here : (List (Nm × Nm))) (x_haul : (Nm × (Option Nm))) (y : (List (Nm × Nm))), m__law_done x_task_here x_yard_here x_haul = some y ∧ as = [.dat ((eP (eT eN) (eT (eP eN (eO eN)))) x_task_here), .dat ((eM eN) x_yard_here), .dat ((eP eN (eO eN)) x_haul)] ∧ r = (eM eN) y ∧ as' = as
def m__law_right_end (x_task_here : ((List Nm) × (List (Nm × (Option Nm))))) (x_yard_here : (List (Nm × Nm))) : Option Bool :=
  (cmpM (fun (b1 : (Nm × (Option Nm))) => some (!b1.2.isNone)) (fun (b1 : (Nm × (Option Nm))) => (b1.2).bind fun v2 =>
  some (v2, b1.1)) x_task_here.2).bind fun v3 =>
  (cmpM (fun _ => some true) (fun (b5 : (Nm × Nm)) => some (b5.1, b5.2)) x_yard_here).bind fun v6 =>
  some (decide ((isort lePN v6) = (isort lePN v3)))
def T__law_right_end : FT := fun as r as' => ∃ (x_task_here : ((List Nm) × (List (Nm × (Option Nm))))) (x_yard_here : (List (Nm × Nm))) (y : Bool), m__law_right_end x_task_here x_yard_here = some y ∧ as = [.dat ((eP (eT eN) (eT (eP eN (eO eN)))) x_task_here), .dat ((eM eN) x_yard_here)] ∧ r = eB y ∧ as' = as
def m__law_walk (x_task_here : ((List Nm) × (List (Nm × (Option Nm))))) (x_hauls : (List (Nm × (Option Nm)))) : Option (Option (List (List (Nm × Nm)))) :=
  (m__law_yard x_task_here).bind fun v1 =>
  (forM (R := (Option (List (List (Nm × Nm))))) (fun (s2 : (List (List (Nm × Nm))) × (List (Nm × Nm))) (b3 : (Nm × (Option Nm))) => (chk (decide (s2.1.length < 2000))).bind fun u4 =>
  (m__law_can x_task_here s2.2 b3).bind fun v5 =>
  bif (!v5) then (some (.inr none)) else ((m__law_done x_task_here s2.2 b3).bind fun v6 =>
  some (.inl ((s2.1 ++ [s2.2]), v6)))) x_hauls (([] : List (List (Nm × Nm))), v1)).bind fun o7 => match o7 with
  | .inl s2 => ((chk (decide (s2.1.length + (s2.2 :: ([] : List (List (Nm × Nm)))).length < 2000))).bind fun u8 =>
  some (some (s2.1 ++ (s2.2 :: ([] : List (List (Nm × Nm)))))))
  | .inr r => some r
def T__law_walk : FT := fun as r as' => ∃ (x_task_here : ((List Nm) × (List (Nm × (Option Nm))))) (x_hauls : (List (Nm × (Option Nm)))) (y : (Option (List (List (Nm × Nm))))), m__law_walk x_task_here x_hauls = some y ∧ as = [.dat ((eP (eT eN) (eT (eP eN (eO eN)))) x_task_here), .dat ((eT (eP eN (eO eN))) x_hauls)] ∧ r = (eO (eL (eM eN))) y ∧ as' = as
theorem sc__law_yard : FnScope ["_law_task_here", "_law_spot", "_law_goal_so"] ["_law_task_here"] (defScope s__law_yard) := ⟨rfl, rfl, rfl, by decide +kernel, rfl, by decide +kernel, by decide +kernel⟩
theorem can__law_yard (F : Def1 K mg "_law_yard" s__law_yard) (fr : Fre mg) : Can P w K mg base "_law_yard" ["_law_task_here"] 1 (T__law_yard) := by
  refine can_of F sc__law_yard (by decide) fr (fun f fd h => h.bindsN fun _ _ _ _ _ _ us hl => match us, hl with | [_], _ => rfl) ?_ ?_
  · rintro as r as' ⟨x_task_here, y, h, rfl, rfl, rfl⟩
    exact shp_dat [(eP (eT eN) (eT (eP eN (eO eN)))) x_task_here] rfl rfl rfl
  · rintro f cdv A outer s0 H E as r as' hr G ⟨x_task_here, y, h, rfl, rfl, rfl⟩
    show SsD _ [.dat ((eP (eT eN) (eT (eP eN (eO eN)))) x_task_here), .un, .un] _ _
    obtain ⟨v2, hv2, h⟩ := bnd h
    obtain ⟨v4, hv4, h⟩ := bnd h
    obtain rfl := Option.some.inj h
    exact ss_cons (s_ret (v_dictL (f := eN) (l := v2) (m := v4) G hv4 (((k_lcD (g := (eP eN (eO eN))) (f := (eP eN eN)) [("_law_spot", 1), ("_law_goal_so", 2)] (fun (b1 : (Nm × (Option Nm))) => [(1, eN b1.1), (2, (eO eN) b1.2)]) G hv2 ((it_T (f := (eP eN (eO eN))) (l := x_task_here.2) (v_snd (f := (eT eN)) (g := (eT (eP eN (eO eN)))) (y := x_task_here) (v_var 0)))).l (.inl rfl) (fun s H C cl fp b1 hb => tg2 1 2 G.calm G.nd) (fun z H C cl fp b1 y3 G hb h => by show EvD _ [.dat ((eP (eT eN) (eT (eP eN (eO eN)))) x_task_here), .dat (eN b1.1), .dat ((eO eN) b1.2)] _ _ [.dat ((eP (eT eN) (eT (eP eN (eO eN)))) x_task_here), .dat (eN b1.1), .dat ((eO eN) b1.2)]; obtain rfl := Option.some.inj h; exact (v_pair (f := eN) (g := eN) (y := b1.1) (z := b1.1) (v_var 1) (v_var 1))))).n G.calm G.nd).ev) ⟨rfl, (by first | exact trivial | exact ⟨rfl, trivial⟩)⟩)
theorem sc__law_goal : FnScope ["_law_task_here"] ["_law_task_here"] (defScope s__law_goal) := ⟨rfl, rfl, rfl, by decide +kernel, rfl, by decide +kernel, by decide +kernel⟩
theorem can__law_goal (F : Def1 K mg "_law_goal" s__law_goal) (fr : Fre mg) : Can P w K mg base "_law_goal" ["_law_task_here"] 1 (T__law_goal) := by
  refine can_of F sc__law_goal (by decide) fr (fun f fd h => h.bindsN fun _ _ _ _ _ _ us hl => match us, hl with | [_], _ => rfl) ?_ ?_
  · rintro as r as' ⟨x_task_here, y, h, rfl, rfl, rfl⟩
    exact shp_dat [(eP (eT eN) (eT (eP eN (eO eN)))) x_task_here] rfl rfl rfl
  · rintro f cdv A outer s0 H E as r as' hr G ⟨x_task_here, y, h, rfl, rfl, rfl⟩
    show SsD _ [.dat ((eP (eT eN) (eT (eP eN (eO eN)))) x_task_here)] _ _
    obtain ⟨v1, hv1, h⟩ := bnd h
    obtain rfl := Option.some.inj h
    exact ss_cons (s_ret (v_dictT (f := (eO eN)) (l := x_task_here.2) (m := v1) G hv1 (v_snd (f := (eT eN)) (g := (eT (eP eN (eO eN)))) (y := x_task_here) (v_var 0))) ⟨rfl, (by first | exact trivial | exact ⟨rfl, trivial⟩)⟩)
theorem sc__law_can : FnScope ["_law_task_here", "_law_yard_here", "_law_haul"] ["_law_task_here", "_law_yard_here", "_law_haul"] (defScope s__law_can) := ⟨rfl, rfl, rfl, by decide +kernel, rfl, by decide +kernel, by decide +kernel⟩
theorem can__law_can (F : Def1 K mg "_law_can" s__law_can) (fr : Fre mg) (c__law_goal : Can P w K mg base "_law_goal" ["_law_task_here"] 1 T__law_goal) : Can P w K mg base "_law_can" ["_law_task_here", "_law_yard_here", "_law_haul"] 2 (T__law_can) := by
  refine can_of F sc__law_can (by decide) fr (fun f fd h => h.bindsN fun _ _ _ _ _ _ us hl => match us, hl with | [_, _, _], _ => rfl) ?_ ?_
  · rintro as r as' ⟨x_task_here, x_yard_here, x_haul, y, h, rfl, rfl, rfl⟩
    exact shp_dat [(eP (eT eN) (eT (eP eN (eO eN)))) x_task_here, (eM eN) x_yard_here, (eP eN (eO eN)) x_haul] rfl rfl rfl
  · rintro f cdv A outer s0 H E as r as' hr G ⟨x_task_here, x_yard_here, x_haul, y, h, rfl, rfl, rfl⟩
    replace c__law_goal := c__law_goal.cal (hr.mono (by omega)) (N := ["_law_task_here", "_law_yard_here", "_law_haul"]) (cdv := cdv) (outer := outer) (H := H) (E := E)
    show SsD _ [.dat ((eP (eT eN) (eT (eP eN (eO eN)))) x_task_here), .dat ((eM eN) x_yard_here), .dat ((eP eN (eO eN)) x_haul)] _ _
    refine ss_cons (s_if (vt_dnin (f := eN) (l := x_yard_here) (k := x_haul.1) G (v_fst (f := eN) (g := (eO eN)) (y := x_haul) (v_var 2)) (v_var 1)) (fun hc => ?_) (fun hc => ?_))
    · have h := cndT h hc
      obtain rfl := Option.some.inj h
      exact ss_cons (s_ret e_bl ⟨rfl, (by first | exact trivial | exact ⟨rfl, trivial⟩)⟩)
    · have h := cndF h hc
      refine ss_nil ?_
      show SsD _ [.dat ((eP (eT eN) (eT (eP eN (eO eN)))) x_task_here), .dat ((eM eN) x_yard_here), .dat ((eP eN (eO eN)) x_haul)] _ _
      refine ss_cons (s_if (vt_isN (f := eN) (y := x_haul.2) (v_snd (f := eN) (g := (eO eN)) (y := x_haul) (v_var 2))) (fun hc => ?_) (fun hc => ?_))
      · have h := cndT h hc
        obtain ⟨v1, hv1, h⟩ := bnd h
        obtain ⟨v2, hv2, h⟩ := bnd h
        obtain ⟨v3, hv3, h⟩ := bnd h
        obtain rfl := Option.some.inj h
        exact ss_cons (s_ret (v_isN (f := eN) (y := v3) (v_lk (f := (eO eN)) (l := v1) (k := v2) (y := v3) G hv3 (e_call c__law_goal rfl (a_cons (v_var 0) a_nil) ⟨x_task_here, v1, hv1, rfl, rfl, rfl⟩) (v_lk (f := eN) (l := x_yard_here) (k := x_haul.1) (y := v2) G hv2 (v_var 1) (v_fst (f := eN) (g := (eO eN)) (y := x_haul) (v_var 2))))) ⟨rfl, (by first | exact trivial | exact ⟨rfl, trivial⟩)⟩)
      · have h := cndF h hc
        refine ss_nil ?_
        show SsD _ [.dat ((eP (eT eN) (eT (eP eN (eO eN)))) x_task_here), .dat ((eM eN) x_yard_here), .dat ((eP eN (eO eN)) x_haul)] _ _
        obtain rfl := Option.some.inj h
        exact ss_cons (s_ret (e_and (p := (cont (x_task_here.1.map some) x_haul.2)) (q := (!(hasO x_yard_here x_haul.2))) (v_inT (f := (eO eN)) (l := (x_task_here.1.map some)) (y := x_haul.2) G (v_snd (f := eN) (g := (eO eN)) (y := x_haul) (v_var 2)) (v_TO (v_fst (f := (eT eN)) (g := (eT (eP eN (eO eN)))) (y := x_task_here) (v_var 0)))) (fun _ => (e_one (v_dninO (f := eN) (l := x_yard_here) (k := x_haul.2) G (v_snd (f := eN) (g := (eO eN)) (y := x_haul) (v_var 2)) (v_var 1))))) ⟨rfl, (by first | exact trivial | exact ⟨rfl, trivial⟩)⟩)
theorem sc__law_done : FnScope ["_law_task_here", "_law_yard_here", "_law_haul", "_law_found", "_law_spot", "_law_mate"] ["_law_task_here", "_law_yard_here", "_law_haul"] (defScope s__law_done) := ⟨rfl, rfl, rfl, by decide +kernel, rfl, by decide +kernel, by decide +kernel⟩
theorem can__law_done (F : Def1 K mg "_law_done" s__law_done) (fr : Fre mg) : Can P w K mg base "_law_done" ["_law_task_here", "_law_yard_here", "_law_haul"] 1 (T__law_done) := by
  refine can_of F sc__law_done (by decide) fr (fun f fd h => h.bindsN fun _ _ _ _ _ _ us hl => match us, hl with | [_, _, _], _ => rfl) ?_ ?_
  · rintro as r as' ⟨x_task_here, x_yard_here, x_haul, y, h, rfl, rfl, rfl⟩
    exact shp_dat [(eP (eT eN) (eT (eP eN (eO eN)))) x_task_here, (eM eN) x_yard_here, (eP eN (eO eN)) x_haul] rfl rfl rfl
  · rintro f cdv A outer s0 H E as r as' hr G ⟨x_task_here, x_yard_here, x_haul, y, h, rfl, rfl, rfl⟩
    show SsD _ [.dat ((eP (eT eN) (eT (eP eN (eO eN)))) x_task_here), .dat ((eM eN) x_yard_here), .dat ((eP eN (eO eN)) x_haul), .un, .un, .un] _ _
    obtain ⟨v2, hv2, h⟩ := bnd h
    obtain ⟨v4, hv4, h⟩ := bnd h
    refine ss_cons (s_setM (i := 3) G.nd rfl (by first | exact .inl rfl | exact .inr rfl) (m_dictLN (f := eN) (d := v2) (m := v4) G hv4 (((k_lcTD (g := (eS eN eN)) (f := (eP eN eN)) [("_law_spot", 4), ("_law_mate", 5)] (fun (b1 : (Nm × Nm)) => [(4, eN b1.1), (5, eN b1.2)]) G hv2 (it_I (f := eN) (d := x_yard_here) (v_var 1)) (.inl rfl) (fun s H C cl fp b1 hb => tg2S 4 5 G.calm G.nd) (fun z H C cl fp b1 y3 G hb h => by show TvD _ [.dat ((eP (eT eN) (eT (eP eN (eO eN)))) x_task_here), .dat ((eM eN) x_yard_here), .dat ((eP eN (eO eN)) x_haul), .un, .dat (eN b1.1), .dat (eN b1.2)] _ _ [.dat ((eP (eT eN) (eT (eP eN (eO eN)))) x_task_here), .dat ((eM eN) x_yard_here), .dat ((eP eN (eO eN)) x_haul), .un, .dat (eN b1.1), .dat (eN b1.2)]; obtain rfl := Option.some.inj h; exact (vt_ne (f := eN) (y := b1.1) (z := x_haul.1) G (v_var 4) (v_fst (f := eN) (g := (eO eN)) (y := x_haul) (v_var 2)))) (fun z H C cl fp b1 y3 G hb _ h => by show EvD _ [.dat ((eP (eT eN) (eT (eP eN (eO eN)))) x_task_here), .dat ((eM eN) x_yard_here), .dat ((eP eN (eO eN)) x_haul), .un, .dat (eN b1.1), .dat (eN b1.2)] _ _ [.dat ((eP (eT eN) (eT (eP eN (eO eN)))) x_task_here), .dat ((eM eN) x_yard_here), .dat ((eP eN (eO eN)) x_haul), .un, .dat (eN b1.1), .dat (eN b1.2)]; obtain rfl := Option.some.inj h; exact (v_pair (f := eN) (g := eN) (y := b1.1) (z := b1.2) (v_var 4) (v_var 5))))).n G.calm G.nd).ev) ?_)
    show SsD _ [.dat ((eP (eT eN) (eT (eP eN (eO eN)))) x_task_here), .dat ((eM eN) x_yard_here), .dat ((eP eN (eO eN)) x_haul), .own ((eM eN) v4), .un, .un] _ _
    obtain ⟨s5, hs5, h⟩ := bnd h
    refine ss_join (δ1 := [.dat ((eP (eT eN) (eT (eP eN (eO eN)))) x_task_here), .dat ((eM eN) x_yard_here), .dat ((eP eN (eO eN)) x_haul), .own ((eM eN) s5), .un, .un]) (s_if (vt_notN (f := eN) (y := x_haul.2) (v_snd (f := eN) (g := (eO eN)) (y := x_haul) (v_var 2))) (fun hc => ?_) (fun hc => ?_)) ?_
    · have h := cndT hs5 hc
      obtain ⟨v6, hv6, h⟩ := bnd h
      obtain ⟨v7, hv7, h⟩ := bnd h
      obtain ⟨u8, hu8, h⟩ := bnd h
      refine ss_cons (v_setDk (f := eN) (d := v4) (k := v7) (y := v6) 3 G (chk_of hu8) (v_lk (f := eN) (l := x_yard_here) (k := x_haul.1) (y := v6) G hv6 (v_var 1) (v_fst (f := eN) (g := (eO eN)) (y := x_haul) (v_var 2))) (EvD.cast ((v_snd (f := eN) (g := (eO eN)) (y := x_haul) (v_var 2))) (show eO eN x_haul.2 = eN v7 from congrArg (eO eN) hv7)) (.inl rfl) ?_)
      show SsD _ [.dat ((eP (eT eN) (eT (eP eN (eO eN)))) x_task_here), .dat ((eM eN) x_yard_here), .dat ((eP eN (eO eN)) x_haul), .own ((eM eN) (v4 ++ [(v7, v6)])), .un, .un] _ _
      obtain rfl := Option.some.inj h
      exact ss_nil rfl
    · have h := cndF hs5 hc
      obtain rfl := Option.some.inj h
      exact ss_nil rfl
    refine ss_freezeD 3 rfl ?_
    show SsD _ [.dat ((eP (eT eN) (eT (eP eN (eO eN)))) x_task_here), .dat ((eM eN) x_yard_here), .dat ((eP eN (eO eN)) x_haul), .dat ((eM eN) s5), .un, .un] _ _
    obtain rfl := Option.some.inj h
    exact ss_cons (s_ret (v_var 3) ⟨rfl, (by first | exact trivial | exact ⟨rfl, trivial⟩)⟩)
theorem sc__law_right_end : FnScope ["_law_task_here", "_law_yard_here", "_law_due_so", "_law_spot", "_law_goal_so", "_law_mate"] ["_law_task_here", "_law_yard_here"] (defScope s__law_right_end) := ⟨rfl, rfl, rfl, by decide +kernel, rfl, by decide +kernel, by decide +kernel⟩
theorem can__law_right_end (F : Def1 K mg "_law_right_end" s__law_right_end) (fr : Fre mg) : Can P w K mg base "_law_right_end" ["_law_task_here", "_law_yard_here"] 1 (T__law_right_end) := by
  refine can_of F sc__law_right_end (by decide) fr (fun f fd h => h.bindsN fun _ _ _ _ _ _ us hl => match us, hl with | [_, _], _ => rfl) ?_ ?_
  · rintro as r as' ⟨x_task_here, x_yard_here, y, h, rfl, rfl, rfl⟩
    exact shp_dat [(eP (eT eN) (eT (eP eN (eO eN)))) x_task_here, (eM eN) x_yard_here] rfl rfl rfl
  · rintro f cdv A outer s0 H E as r as' hr G ⟨x_task_here, x_yard_here, y, h, rfl, rfl, rfl⟩
    show SsD _ [.dat ((eP (eT eN) (eT (eP eN (eO eN)))) x_task_here), .dat ((eM eN) x_yard_here), .un, .un, .un, .un] _ _
    obtain ⟨v3, hv3, h⟩ := bnd h
    refine ss_cons (s_setLc (i := 2) G.calm G.nd rfl rfl (k_lcTD (g := (eP eN (eO eN))) (f := (eP eN eN)) [("_law_spot", 3), ("_law_goal_so", 4)] (fun (b1 : (Nm × (Option Nm))) => [(3, eN b1.1), (4, (eO eN) b1.2)]) G hv3 ((it_T (f := (eP eN (eO eN))) (l := x_task_here.2) (v_snd (f := (eT eN)) (g := (eT (eP eN (eO eN)))) (y := x_task_here) (v_var 0)))).l (.inl rfl) (fun s H C cl fp b1 hb => tg2 3 4 G.calm G.nd) (fun z H C cl fp b1 y4 G hb h => by show TvD _ [.dat ((eP (eT eN) (eT (eP eN (eO eN)))) x_task_here), .dat ((eM eN) x_yard_here), .un, .dat (eN b1.1), .dat ((eO eN) b1.2), .un] _ _ [.dat ((eP (eT eN) (eT (eP eN (eO eN)))) x_task_here), .dat ((eM eN) x_yard_here), .un, .dat (eN b1.1), .dat ((eO eN) b1.2), .un]; obtain rfl := Option.some.inj h; exact (vt_notN (f := eN) (y := b1.2) (v_var 4))) (fun z H C cl fp b1 y4 G hb _ h => by show EvD _ [.dat ((eP (eT eN) (eT (eP eN (eO eN)))) x_task_here), .dat ((eM eN) x_yard_here), .un, .dat (eN b1.1), .dat ((eO eN) b1.2), .un] _ _ [.dat ((eP (eT eN) (eT (eP eN (eO eN)))) x_task_here), .dat ((eM eN) x_yard_here), .un, .dat (eN b1.1), .dat ((eO eN) b1.2), .un]; obtain ⟨v2, hv2, h⟩ := bnd h; obtain rfl := Option.some.inj h; exact (v_pair (f := eN) (g := eN) (y := v2) (z := b1.1) (EvD.cast ((v_var 4)) (show eO eN b1.2 = eN v2 from congrArg (eO eN) hv2)) (v_var 3)))) ?_ (by first | exact sw_true | rfl))
    show SsD _ [.dat ((eP (eT eN) (eT (eP eN (eO eN)))) x_task_here), .dat ((eM eN) x_yard_here), .own ((eL (eP eN eN)) v3), .un, .un, .un] _ _
    refine ss_freezeL 2 rfl ?_
    show SsD _ [.dat ((eP (eT eN) (eT (eP eN (eO eN)))) x_task_here), .dat ((eM eN) x_yard_here), .dat ((eL (eP eN eN)) v3), .un, .un, .un] _ _
    obtain ⟨v6, hv6, h⟩ := bnd h
    obtain rfl := Option.some.inj h
    exact ss_cons (s_ret (v_eq (f := (eL (eP eN eN))) (y := (isort lePN v6)) (z := (isort lePN v3)) G ((n_srtL (f := (eP eN eN)) (l := v6) G (((k_lcD (g := (eS eN eN)) (f := (eP eN eN)) [("_law_spot", 3), ("_law_mate", 5)] (fun (b5 : (Nm × Nm)) => [(3, eN b5.1), (5, eN b5.2)]) G hv6 (it_I (f := eN) (d := x_yard_here) (v_var 1)) (.inl rfl) (fun s H C cl fp b5 hb => tg2S 3 5 G.calm G.nd) (fun z H C cl fp b5 y7 G hb h => by show EvD _ [.dat ((eP (eT eN) (eT (eP eN (eO eN)))) x_task_here), .dat ((eM eN) x_yard_here), .dat ((eL (eP eN eN)) v3), .dat (eN b5.1), .un, .dat (eN b5.2)] _ _ [.dat ((eP (eT eN) (eT (eP eN (eO eN)))) x_task_here), .dat ((eM eN) x_yard_here), .dat ((eL (eP eN eN)) v3), .dat (eN b5.1), .un, .dat (eN b5.2)]; obtain rfl := Option.some.inj h; exact (v_pair (f := eN) (g := eN) (y := b5.1) (z := b5.2) (v_var 3) (v_var 5))))).n G.calm G.nd).ev)).ev ((n_srtL (f := (eP eN eN)) (l := v3) G (v_var 2))).ev) ⟨rfl, (by first | exact trivial | exact ⟨rfl, trivial⟩)⟩)
theorem sc__law_walk : FnScope ["_law_task_here", "_law_hauls", "_law_yard_here", "_law_found", "_law_haul"] ["_law_task_here", "_law_hauls"] (defScope s__law_walk) := ⟨rfl, rfl, rfl, by decide +kernel, rfl, by decide +kernel, by decide +kernel⟩
theorem can__law_walk (F : Def1 K mg "_law_walk" s__law_walk) (fr : Fre mg) (c__law_yard : Can P w K mg base "_law_yard" ["_law_task_here"] 1 T__law_yard) (c__law_can : Can P w K mg base "_law_can" ["_law_task_here", "_law_yard_here", "_law_haul"] 2 T__law_can) (c__law_done : Can P w K mg base "_law_done" ["_law_task_here", "_law_yard_here", "_law_haul"] 1 T__law_done) : Can P w K mg base "_law_walk" ["_law_task_here", "_law_hauls"] 3 (T__law_walk) := by
  refine can_of F sc__law_walk (by decide) fr (fun f fd h => h.bindsN fun _ _ _ _ _ _ us hl => match us, hl with | [_, _], _ => rfl) ?_ ?_
  · rintro as r as' ⟨x_task_here, x_hauls, y, h, rfl, rfl, rfl⟩
    exact shp_dat [(eP (eT eN) (eT (eP eN (eO eN)))) x_task_here, (eT (eP eN (eO eN))) x_hauls] rfl rfl rfl
  · rintro f cdv A outer s0 H E as r as' hr G ⟨x_task_here, x_hauls, y, h, rfl, rfl, rfl⟩
    replace c__law_yard := c__law_yard.cal (hr.mono (by omega)) (N := ["_law_task_here", "_law_hauls", "_law_yard_here", "_law_found", "_law_haul"]) (cdv := cdv) (outer := outer) (H := H) (E := E)
    replace c__law_can := c__law_can.cal (hr.mono (by omega)) (N := ["_law_task_here", "_law_hauls", "_law_yard_here", "_law_found", "_law_haul"]) (cdv := cdv) (outer := outer) (H := H) (E := E)
    replace c__law_done := c__law_done.cal (hr.mono (by omega)) (N := ["_law_task_here", "_law_hauls", "_law_yard_here", "_law_found", "_law_haul"]) (cdv := cdv) (outer := outer) (H := H) (E := E)
    show SsD _ [.dat ((eP (eT eN) (eT (eP eN (eO eN)))) x_task_here), .dat ((eT (eP eN (eO eN))) x_hauls), .un, .un, .un] _ _
    obtain ⟨v1, hv1, h⟩ := bnd h
    refine ss_cons (s_par (i := 2) (j := 3) G.calm G.nd rfl rfl (by decide) rfl rfl (x_dat (e_call c__law_yard rfl (a_cons (v_var 0) a_nil) ⟨x_task_here, v1, hv1, rfl, rfl, rfl⟩) (x_new (n_lstV (f := (eM eN)) (l := ([] : List (List (Nm × Nm)))) rfl va_nil) x_nil)) ?_ rfl)
    show SsD _ [.dat ((eP (eT eN) (eT (eP eN (eO eN)))) x_task_here), .dat ((eT (eP eN (eO eN))) x_hauls), .dat ((eM eN) v1), .own ((eL (eM eN)) ([] : List (List (Nm × Nm)))), .un] _ _
    obtain ⟨o7, ho7, h⟩ := bnd h
    refine ss_cons (k_for (g := (eP eN (eO eN))) (fun (s2 : (List (List (Nm × Nm))) × (List (Nm × Nm))) => [.dat ((eP (eT eN) (eT (eP eN (eO eN)))) x_task_here), .dat ((eT (eP eN (eO eN))) x_hauls), .dat ((eM eN) s2.2), .own ((eL (eM eN)) s2.1), .un]) (fun (b3 : (Nm × (Option Nm))) => [(4, (eP eN (eO eN)) b3)]) (fun r d δ' => d = (eO (eL (eM eN))) r ∧ parsOk [.dat ((eP (eT eN) (eT (eP eN (eO eN)))) x_task_here), .dat ((eT (eP eN (eO eN))) x_hauls)] δ') G PassesOwn.never ho7 (it_T (f := (eP eN (eO eN))) (l := x_hauls) (v_var 1)) (fun b3 hb => tg1 4 G.nd) (fun s2 b3 => by intro z hz; simp at hz; subst hz; rfl) (fun s2 b3 t hb h => ?_) (fun s2 e => ?_) (fun r d δ' e hr => ?_))
    · show SsD _ [.dat ((eP (eT eN) (eT (eP eN (eO eN)))) x_task_here), .dat ((eT (eP eN (eO eN))) x_hauls), .dat ((eM eN) s2.2), .own ((eL (eM eN)) s2.1), .dat ((eP eN (eO eN)) b3)] _ _
      obtain ⟨u4, hu4, h⟩ := bnd h
      refine ss_cons (s_expr (v_app (f := (eM eN)) (l := s2.1) (y := s2.2) 3 (v_var 2) (.inl rfl) (chk_of hu4) ⟨_, .inl rfl⟩) ?_)
      show SsD _ [.dat ((eP (eT eN) (eT (eP eN (eO eN)))) x_task_here), .dat ((eT (eP eN (eO eN))) x_hauls), .dat ((eM eN) s2.2), .own ((eL (eM eN)) (s2.1 ++ [s2.2])), .dat ((eP eN (eO eN)) b3)] _ _
      obtain ⟨v5, hv5, h⟩ := bnd h
      refine ss_cons (s_if (t_not (t_val (p := v5) (e_call c__law_can rfl (a_cons (v_var 0) (a_cons (v_var 2) (a_cons (v_var 4) a_nil))) ⟨x_task_here, s2.2, b3, v5, hv5, rfl, rfl, rfl⟩))) (fun hc => ?_) (fun hc => ?_))
      · have h := cndT h hc
        exact ss_cons (s_ret e_non ⟨_, (Option.some.inj h).symm, rfl, (by first | exact trivial | exact ⟨rfl, trivial⟩)⟩)
      · have h := cndF h hc
        refine ss_nil ?_
        show SsD _ [.dat ((eP (eT eN) (eT (eP eN (eO eN)))) x_task_here), .dat ((eT (eP eN (eO eN))) x_hauls), .dat ((eM eN) s2.2), .own ((eL (eM eN)) (s2.1 ++ [s2.2])), .dat ((eP eN (eO eN)) b3)] _ _
        obtain ⟨v6, hv6, h⟩ := bnd h
        refine ss_cons (w_set 2 G (e_call c__law_done rfl (a_cons (v_var 0) (a_cons (v_var 2) (a_cons (v_var 4) a_nil))) ⟨x_task_here, s2.2, b3, v6, hv6, rfl, rfl, rfl⟩) ?_)
        show SsD _ [.dat ((eP (eT eN) (eT (eP eN (eO eN)))) x_task_here), .dat ((eT (eP eN (eO eN))) x_hauls), .dat ((eM eN) v6), .own ((eL (eM eN)) (s2.1 ++ [s2.2])), .dat ((eP eN (eO eN)) b3)] _ _
        refine ss_forget 4 ?_
        exact ss_nil ⟨_, (Option.some.inj h).symm, rfl⟩
    · subst e
      have h : _ = some _ := h
      show SsD _ [.dat ((eP (eT eN) (eT (eP eN (eO eN)))) x_task_here), .dat ((eT (eP eN (eO eN))) x_hauls), .dat ((eM eN) s2.2), .own ((eL (eM eN)) s2.1), .un] _ _
      refine ss_freezeL 3 rfl ?_
      show SsD _ [.dat ((eP (eT eN) (eT (eP eN (eO eN)))) x_task_here), .dat ((eT (eP eN (eO eN))) x_hauls), .dat ((eM eN) s2.2), .dat ((eL (eM eN)) s2.1), .un] _ _
      obtain ⟨u8, hu8, h⟩ := bnd h
      obtain rfl := Option.some.inj h
      exact ss_cons (s_ret ((n_catL (f := (eM eN)) (l := s2.1) (m := (s2.2 :: ([] : List (List (Nm × Nm))))) (chk_of hu8) (v_var 3) ((n_lstV (f := (eM eN)) (l := (s2.2 :: ([] : List (List (Nm × Nm))))) rfl (va_cons (f := (eM eN)) (y := s2.2) (v_var 2) va_nil))).ev)).ev ⟨rfl, (by first | exact trivial | exact ⟨rfl, trivial⟩)⟩)
    · subst e
      obtain rfl := Option.some.inj h
      exact hr
end
end ND

/-! G7 -/
set_option Elab.async false
set_option linter.all false
set_option maxRecDepth 100000
set_option maxHeartbeats 4000000
namespace ND
open PySem PySem.Spec PyProof.Rows L2 NA
section
variable {P : Program} {w : World} {K : PySem.W.Frag} {mg : Str → Option Value} {base : Heap}

def m__law_threads (x_task_here : ((List Nm) × (List (Nm × (Option Nm))))) : Option ((List (List Nm)) × (List (List Nm))) :=
  (m__law_goal x_task_here).bind fun v1 =>
  (cmpM (fun _ => some true) (fun (b2 : (Nm × (Option Nm))) => some b2.2) x_task_here.2).bind fun v3 =>
  (chk (decide (v1.length < 64))).bind fun u5 =>
  (forS (fun (s6 : (List (List Nm)) × (List (List Nm))) (b7 : Nm) => (lk v1 b7).bind fun v8 =>
  (whileS (fun (s9 : (List Nm) × (Option Nm)) => some ((hasO v1 s9.2) && (!(cont (s9.1.map some) s9.2)))) (fun (s9 : (List Nm) × (Option Nm)) => (s9.2).bind fun v10 =>
  (chk (decide (s9.1.length < 2000))).bind fun u11 =>
  (lkO v1 s9.2).bind fun v12 =>
  some ((s9.1 ++ [v10]), v12)) 40 ((b7 :: ([] : List Nm)), v8)).bind fun o13 =>
  (bif (decide (o13.2 = (some b7))) then ((bif (decide ((1 : Int) < (o13.1.length : Int))) then ((mnL leN o13.1).bind fun v14 =>
  some (decide (b7 = v14))) else some true).bind fun v15 =>
  some ((decide ((1 : Int) < (o13.1.length : Int))) && v15)) else some true).bind fun v16 =>
  (bif ((decide (o13.2 = (some b7))) && v16) then ((chk (decide (s6.1.length < 2000))).bind fun u18 =>
  some (s6.1 ++ [o13.1])) else (some s6.1)).bind fun s17 =>
  (bif (!(cont v3 (some b7))) then ((chk (decide (s6.2.length < 2000))).bind fun u20 =>
  some (s6.2 ++ [o13.1])) else (some s6.2)).bind fun s19 =>
  some (s17, s19)) (isort leN (v1.map (·.1))) (([] : List (List Nm)), ([] : List (List Nm)))).bind fun o21 =>
  some (o21.1, o21.2)
def T__law_threads : FT := fun as r as' => ∃ (x_task_here : ((List Nm) × (List (Nm × (Option Nm))))) (y : ((List (List Nm)) × (List (List Nm)))), m__law_threads x_task_here = some y ∧ as = [.dat ((eP (eT eN) (eT (eP eN (eO eN)))) x_task_here)] ∧ r = (eQ (eL (eT eN)) (eL (eT eN))) y ∧ as' = as
def m__law_fits (x_bulk_here : ((List (Nm × Int)) × (List (Nm × Int)))) (x_mate : Nm) (x_spot : Nm) : Option Bool :=
  (mkD x_bulk_here.2).bind fun v1 =>
  (lk v1 x_mate).bind fun v2 =>
  (mkD x_bulk_here.1).bind fun v3 =>
  (lk v3 x_spot).bind fun v4 =>
  some (decide (v2 ≤ v4))
def T__law_fits : FT := fun as r as' => ∃ (x_bulk_here : ((List (Nm × Int)) × (List (Nm × Int)))) (x_mate : Nm) (x_spot : Nm) (y : Bool), m__law_fits x_bulk_here x_mate x_spot = some y ∧ as = [.dat ((eP (eT (eP eN eI)) (eT (eP eN eI))) x_bulk_here), .dat (eN x_mate), .dat (eN x_spot)] ∧ r = eB y ∧ as' = as
def m__law_reach (rec : ((List Nm) × (List (Nm × (Option Nm)))) → ((List (Nm × Int)) × (List (Nm × Int))) → (List (Nm × Nm)) → Int → Option Bool) (x_task_here : ((List Nm) × (List (Nm × (Option Nm))))) (x_bulk_here : ((List (Nm × Int)) × (List (Nm × Int)))) (x_yard_here : (List (Nm × Nm))) (x_left_so : Int) : Option Bool :=
  (m__law_goal x_task_here).bind fun v1 =>
  (cmpM (fun (b2 : (Nm × Nm)) => (lk v1 b2.2).bind fun v3 =>
  some (!decide (v3 = (some b2.1)))) (fun (b2 : (Nm × Nm)) => some b2.1) x_yard_here).bind fun v4 =>
  bif (decide (x_left_so < (v4.length : Int))) then (some false) else (bif (decide (x_left_so = (0 : Int))) then (some true) else ((chk (decide (x_yard_here.length < 64))).bind fun u6 =>
  (forM (R := Bool) (fun (s7 : Unit) (b8 : Nm) => (chk (decide ((x_task_here.1.map some).length + (none :: ([] : List (Option Nm))).length < 2000))).bind fun u9 =>
  (forM (R := Bool) (fun (s10 : Unit) (b11 : (Option Nm)) => (m__law_can x_task_here x_yard_here (b8, b11)).bind fun v12 =>
  (bif v12 then ((bif b11.isNone then some true else ((lk x_yard_here b8).bind fun v13 =>
  (b11).bind fun v14 =>
  (m__law_fits x_bulk_here v13 v14).bind fun v15 =>
  some v15)).bind fun v16 =>
  some (b11.isNone || v16)) else some true).bind fun v17 =>
  bif (v12 && v17) then ((m__law_done x_task_here x_yard_here (b8, b11)).bind fun v18 =>
  (rec x_task_here x_bulk_here v18 (x_left_so - (1 : Int))).bind fun v19 =>
  bif v19 then (some (.inr true)) else (some (.inl ()))) else (some (.inl ()))) ((x_task_here.1.map some) ++ (none :: ([] : List (Option Nm)))) ()).bind fun o20 => match o20 with
  | .inl s10 => (some (.inl ()))
  | .inr r => some (.inr r)
  ) (isort leN (x_yard_here.map (·.1))) ()).bind fun o21 => match o21 with
  | .inl s7 => (some false)
  | .inr r => some r
  ))
def T__law_reach (m : ((List Nm) × (List (Nm × (Option Nm)))) → ((List (Nm × Int)) × (List (Nm × Int))) → (List (Nm × Nm)) → Int → Option Bool) : FT := fun as r as' => ∃ (x_task_here : ((List Nm) × (List (Nm × (Option Nm))))) (x_bulk_here : ((List (Nm × Int)) × (List (Nm × Int)))) (x_yard_here : (List (Nm × Nm))) (x_left_so : Int) (y : Bool), m x_task_here x_bulk_here x_yard_here x_left_so = some y ∧ as = [.dat ((eP (eT eN) (eT (eP eN (eO eN)))) x_task_here), .dat ((eP (eT (eP eN eI)) (eT (eP eN eI))) x_bulk_here), .dat ((eM eN) x_yard_here), .dat (eI x_left_so)] ∧ r = eB y ∧ as' = as
def m__law_shut (x_task_here : ((List Nm) × (List (Nm × (Option Nm))))) (x_bulk_here : ((List (Nm × Int)) × (List (Nm × Int)))) : Option (List (List Nm)) :=
  (m__law_goal x_task_here).bind fun v1 =>
  (mkD x_bulk_here.1).bind fun v2 =>
  (m__law_threads x_task_here).bind fun v3 =>
  (cmpM (fun (b4 : Nm) => some (!(hasK v1 b4))) (fun (b4 : Nm) => (lk v2 b4).bind fun v5 =>
  some v5) x_task_here.1).bind fun v6 =>
  (forS (fun (s8 : (List Int)) (b9 : (List Nm)) => (cmpM (fun _ => some true) (fun (b10 : Nm) => (lk v2 b10).bind fun v11 =>
  some v11) b9).bind fun v12 =>
  (chk (decide (s8.length + v12.length < 2000))).bind fun u14 =>
  (cmpM (fun (b15 : Nm) => (lk v1 b15).bind fun v16 =>
  some (!v16.isNone)) (fun (b15 : Nm) => (lk v1 b15).bind fun v17 =>
  (lkO v2 v17).bind fun v18 =>
  some v18) b9).bind fun v19 =>
  (chk (decide ((s8 ++ v12).length + v19.length < 2000))).bind fun u21 =>
  some ((s8 ++ v12) ++ v19)) v3.2 v6).bind fun o22 =>
  bif (decide (o22 = ([] : List Int))) then (some v3.1) else ((chk (decide (0 ≤ (v3.1.length : Int) ∧ (v3.1.length : Int) < 2000))).bind fun u23 =>
  (forS (fun (s24 : (List Int)) (b25 : Int) => (forS (fun (s26 : (List Int)) (b27 : (List Nm)) => (cmpM (fun _ => some true) (fun (b28 : Nm) => (mkD x_bulk_here.2).bind fun v29 =>
  (lk v29 b28).bind fun v30 =>
  some v30) b27).bind fun v31 =>
  (mnL leI v31).bind fun v33 =>
  (mxL leI s26).bind fun v34 =>
  (bif (decide (v33 ≤ v34)) then ((cmpM (fun _ => some true) (fun (b36 : Nm) => (lk v2 b36).bind fun v37 =>
  some v37) b27).bind fun v38 =>
  (chk (decide (s26.length + v38.length < 2000))).bind fun u40 =>
  some (s26 ++ v38)) else (some s26)).bind fun s35 =>
  some s35) v3.1 s24).bind fun o41 =>
  some o41) (rng (v3.1.length : Int)) o22).bind fun o42 =>
  (cmpM (fun (b43 : (List Nm)) => (cmpM (fun _ => some true) (fun (b44 : Nm) => (mkD x_bulk_here.2).bind fun v45 =>
  (lk v45 b44).bind fun v46 =>
  some v46) b43).bind fun v47 =>
  (mnL leI v47).bind fun v49 =>
  (mxL leI o42).bind fun v50 =>
  some (decide (v50 < v49))) (fun (b43 : (List Nm)) => some b43) v3.1).bind fun v51 =>
  some v51)
def T__law_shut : FT := fun as r as' => ∃ (x_task_here : ((List Nm) × (List (Nm × (Option Nm))))) (x_bulk_here : ((List (Nm × Int)) × (List (Nm × Int)))) (y : (List (List Nm))), m__law_shut x_task_here x_bulk_here = some y ∧ as = [.dat ((eP (eT eN) (eT (eP eN (eO eN)))) x_task_here), .dat ((eP (eT (eP eN eI)) (eT (eP eN eI))) x_bulk_here)] ∧ r = (eL (eT eN)) y ∧ as' = as
theorem sc__law_threads : FnScope ["_law_task_here", "_law_goal_so", "_law_rings_so", "_law_chains_so", "_law_ends", "_law_spot", "_law_line_so", "_law_last_so", "_law_near"] ["_law_task_here"] (defScope s__law_threads) := ⟨rfl, rfl, rfl, by decide +kernel, rfl, by decide +kernel, by decide +kernel⟩
theorem can__law_threads (F : Def1 K mg "_law_threads" s__law_threads) (fr : Fre mg) (c__law_goal : Can P w K mg base "_law_goal" ["_law_task_here"] 1 T__law_goal) : Can P w K mg base "_law_threads" ["_law_task_here"] 2 (T__law_threads) := by
  refine can_of F sc__law_threads (by decide) fr (fun f fd h => h.bindsN fun _ _ _ _ _ _ us hl => match us, hl with | [_], _ => rfl) ?_ ?_
  · rintro as r as' ⟨x_task_here, y, h, rfl, rfl, rfl⟩
    exact shp_dat [(eP (eT eN) (eT (eP eN (eO eN)))) x_task_here] rfl rfl rfl
  · rintro f cdv A outer s0 H E as r as' hr G ⟨x_task_here, y, h, rfl, rfl, rfl⟩
    replace c__law_goal := c__law_goal.cal (hr.mono (by omega)) (N := ["_law_task_here", "_law_goal_so", "_law_rings_so", "_law_chains_so", "_law_ends", "_law_spot", "_law_line_so", "_law_last_so", "_law_near"]) (cdv := cdv) (outer := outer) (H := H) (E := E)
    show SsD _ [.dat ((eP (eT eN) (eT (eP eN (eO eN)))) x_task_here), .un, .un, .un, .un, .un, .un, .un, .un] _ _
    obtain ⟨v1, hv1, h⟩ := bnd h
    refine ss_cons (s_par3 (i := 1) (j := 2) (l := 3) G.calm G.nd rfl rfl rfl (by decide) (by decide) (by decide) rfl rfl rfl (x_dat (e_call c__law_goal rfl (a_cons (v_var 0) a_nil) ⟨x_task_here, v1, hv1, rfl, rfl, rfl⟩) (x_new (n_lstV (f := (eT eN)) (l := ([] : List (List Nm))) rfl va_nil) (x_new (n_lstV (f := (eT eN)) (l := ([] : List (List Nm))) rfl va_nil) x_nil))) ?_ rfl)
    show SsD _ [.dat ((eP (eT eN) (eT (eP eN (eO eN)))) x_task_here), .dat ((eM (eO eN)) v1), .own ((eL (eT eN)) ([] : List (List Nm))), .own ((eL (eT eN)) ([] : List (List Nm))), .un, .un, .un, .un, .un] _ _
    obtain ⟨v3, hv3, h⟩ := bnd h
    refine ss_cons (s_setLc (i := 4) G.calm G.nd rfl rfl (k_lcD (g := (eP eN (eO eN))) (f := (eO eN)) [("_law_spot", 5), ("_law_near", 8)] (fun (b2 : (Nm × (Option Nm))) => [(5, eN b2.1), (8, (eO eN) b2.2)]) G hv3 ((it_T (f := (eP eN (eO eN))) (l := x_task_here.2) (v_snd (f := (eT eN)) (g := (eT (eP eN (eO eN)))) (y := x_task_here) (v_var 0)))).l (.inl rfl) (fun s H C cl fp b2 hb => tg2 5 8 G.calm G.nd) (fun z H C cl fp b2 y4 G hb h => by show EvD _ [.dat ((eP (eT eN) (eT (eP eN (eO eN)))) x_task_here), .dat ((eM (eO eN)) v1), .own ((eL (eT eN)) ([] : List (List Nm))), .own ((eL (eT eN)) ([] : List (List Nm))), .un, .dat (eN b2.1), .un, .un, .dat ((eO eN) b2.2)] _ _ [.dat ((eP (eT eN) (eT (eP eN (eO eN)))) x_task_here), .dat ((eM (eO eN)) v1), .own ((eL (eT eN)) ([] : List (List Nm))), .own ((eL (eT eN)) ([] : List (List Nm))), .un, .dat (eN b2.1), .un, .un, .dat ((eO eN) b2.2)]; obtain rfl := Option.some.inj h; exact (v_var 8))) ?_ (by first | exact sw_true | rfl))
    show SsD _ [.dat ((eP (eT eN) (eT (eP eN (eO eN)))) x_task_here), .dat ((eM (eO eN)) v1), .own ((eL (eT eN)) ([] : List (List Nm))), .own ((eL (eT eN)) ([] : List (List Nm))), .own ((eL (eO eN)) v3), .un, .un, .un, .un] _ _
    refine ss_freezeL 4 rfl ?_
    show SsD _ [.dat ((eP (eT eN) (eT (eP eN (eO eN)))) x_task_here), .dat ((eM (eO eN)) v1), .own ((eL (eT eN)) ([] : List (List Nm))), .own ((eL (eT eN)) ([] : List (List Nm))), .dat ((eL (eO eN)) v3), .un, .un, .un, .un] _ _
    obtain ⟨u5, hu5, h⟩ := bnd h
    obtain ⟨o21, ho21, h⟩ := bnd h
    refine ss_cons (k_forS (g := eN) (fun (s6 : (List (List Nm)) × (List (List Nm))) => [.dat ((eP (eT eN) (eT (eP eN (eO eN)))) x_task_here), .dat ((eM (eO eN)) v1), .own ((eL (eT eN)) s6.1), .own ((eL (eT eN)) s6.2), .dat ((eL (eO eN)) v3), .un, .un, .un, .un]) (fun (b7 : Nm) => [(5, eN b7)]) G PassesOwn.never ho21 (it_L (f := eN) (l := (isort leN (v1.map (·.1)))) ((n_srtD (f := (eO eN)) (d := v1) G (chk_of hu5) (v_var 1))).ev) (fun b7 hb => tg1 5 G.nd) (fun s6 b7 t hb h => ?_) ?_)
    · show SsD _ [.dat ((eP (eT eN) (eT (eP eN (eO eN)))) x_task_here), .dat ((eM (eO eN)) v1), .own ((eL (eT eN)) s6.1), .own ((eL (eT eN)) s6.2), .dat ((eL (eO eN)) v3), .dat (eN b7), .un, .un, .un] _ _
      obtain ⟨v8, hv8, h⟩ := bnd h
      refine ss_cons (s_par (i := 6) (j := 7) G.calm G.nd rfl rfl (by decide) rfl rfl (x_new (n_lstV (f := eN) (l := (b7 :: ([] : List Nm))) rfl (va_cons (f := eN) (y := b7) (v_var 5) va_nil)) (x_dat (v_lk (f := (eO eN)) (l := v1) (k := b7) (y := v8) G hv8 (v_var 1) (v_var 5)) x_nil)) ?_ rfl)
      show SsD _ [.dat ((eP (eT eN) (eT (eP eN (eO eN)))) x_task_here), .dat ((eM (eO eN)) v1), .own ((eL (eT eN)) s6.1), .own ((eL (eT eN)) s6.2), .dat ((eL (eO eN)) v3), .dat (eN b7), .own ((eL eN) (b7 :: ([] : List Nm))), .dat ((eO eN) v8), .un] _ _
      obtain ⟨o13, ho13, h⟩ := bnd h
      refine ss_cons (k_whileS (s0 := ((b7 :: ([] : List Nm)), v8)) (fun (s9 : (List Nm) × (Option Nm)) => [.dat ((eP (eT eN) (eT (eP eN (eO eN)))) x_task_here), .dat ((eM (eO eN)) v1), .own ((eL (eT eN)) s6.1), .own ((eL (eT eN)) s6.2), .dat ((eL (eO eN)) v3), .dat (eN b7), .own ((eL eN) s9.1), .dat ((eO eN) s9.2), .un]) PassesOwn.never ho13 (fun s9 b h => ?_) (fun s9 t hc h => ?_) ?_)
      · show TvD _ [.dat ((eP (eT eN) (eT (eP eN (eO eN)))) x_task_here), .dat ((eM (eO eN)) v1), .own ((eL (eT eN)) s6.1), .own ((eL (eT eN)) s6.2), .dat ((eL (eO eN)) v3), .dat (eN b7), .own ((eL eN) s9.1), .dat ((eO eN) s9.2), .un] _ _ [.dat ((eP (eT eN) (eT (eP eN (eO eN)))) x_task_here), .dat ((eM (eO eN)) v1), .own ((eL (eT eN)) s6.1), .own ((eL (eT eN)) s6.2), .dat ((eL (eO eN)) v3), .dat (eN b7), .own ((eL eN) s9.1), .dat ((eO eN) s9.2), .un]
        obtain rfl := Option.some.inj h
        exact (t_w (w_and (p := (hasO v1 s9.2)) (q := (!(cont (s9.1.map some) s9.2))) (vt_dinO (f := (eO eN)) (l := v1) (k := s9.2) G (v_var 7) (v_var 1)) (fun _ => (w_and1 (vt_ninO (f := (eO eN)) (l := (s9.1.map some)) (y := s9.2) G 6 (v_var 7) (lO (.inl rfl)))))))
      · show SsD _ [.dat ((eP (eT eN) (eT (eP eN (eO eN)))) x_task_here), .dat ((eM (eO eN)) v1), .own ((eL (eT eN)) s6.1), .own ((eL (eT eN)) s6.2), .dat ((eL (eO eN)) v3), .dat (eN b7), .own ((eL eN) s9.1), .dat ((eO eN) s9.2), .un] _ _
        obtain ⟨v10, hv10, h⟩ := bnd h
        obtain ⟨u11, hu11, h⟩ := bnd h
        refine ss_cons (s_expr (v_app (f := eN) (l := s9.1) (y := v10) 6 (EvD.cast ((v_var 7)) (show eO eN s9.2 = eN v10 from congrArg (eO eN) hv10)) (.inl rfl) (chk_of hu11) ⟨_, .inl rfl⟩) ?_)
        show SsD _ [.dat ((eP (eT eN) (eT (eP eN (eO eN)))) x_task_here), .dat ((eM (eO eN)) v1), .own ((eL (eT eN)) s6.1), .own ((eL (eT eN)) s6.2), .dat ((eL (eO eN)) v3), .dat (eN b7), .own ((eL eN) (s9.1 ++ [v10])), .dat ((eO eN) s9.2), .un] _ _
        obtain ⟨v12, hv12, h⟩ := bnd h
        refine ss_cons (w_set 7 G (v_lkO (f := (eO eN)) (l := v1) (k := s9.2) (y := v12) G hv12 (v_var 1) (v_var 7)) ?_)
        show SsD _ [.dat ((eP (eT eN) (eT (eP eN (eO eN)))) x_task_here), .dat ((eM (eO eN)) v1), .own ((eL (eT eN)) s6.1), .own ((eL (eT eN)) s6.2), .dat ((eL (eO eN)) v3), .dat (eN b7), .own ((eL eN) (s9.1 ++ [v10])), .dat ((eO eN) v12), .un] _ _
        obtain rfl := Option.some.inj h
        exact ss_nil rfl
      show SsD _ [.dat ((eP (eT eN) (eT (eP eN (eO eN)))) x_task_here), .dat ((eM (eO eN)) v1), .own ((eL (eT eN)) s6.1), .own ((eL (eT eN)) s6.2), .dat ((eL (eO eN)) v3), .dat (eN b7), .own ((eL eN) o13.1), .dat ((eO eN) o13.2), .un] _ _
      obtain ⟨v16, hv16, h⟩ := bnd h
      obtain ⟨s17, hs17, h⟩ := bnd h
      refine ss_join (δ1 := [.dat ((eP (eT eN) (eT (eP eN (eO eN)))) x_task_here), .dat ((eM (eO eN)) v1), .own ((eL (eT eN)) s17), .own ((eL (eT eN)) s6.2), .dat ((eL (eO eN)) v3), .dat (eN b7), .own ((eL eN) o13.1), .dat ((eO eN) o13.2), .un]) (s_if (t_w (w_and (p := (decide (o13.2 = (some b7)))) (q := v16) (vt_eq (f := (eO eN)) (y := o13.2) (z := (some b7)) G (v_var 7) (v_var 5)) (fun hc => by have h := cndT hv16 hc; obtain ⟨v15, hv15, h⟩ := bnd h; obtain rfl := Option.some.inj h; exact (w_and (p := (decide ((1 : Int) < (o13.1.length : Int)))) (q := v15) (t_gt (i := (o13.1.length : Int)) (j := (1 : Int)) (v_lenO (f := eN) (l := o13.1) G 6 (.inl rfl)) e_int) (fun hc => by have h := cndT hv15 hc; obtain ⟨v14, hv14, h⟩ := bnd h; obtain rfl := Option.some.inj h; exact (w_and1 (vt_eq (f := eN) (y := b7) (z := v14) G (v_var 5) (v_minO (f := eN) (l := o13.1) (y := v14) 6 G hv14 (.inl rfl))))))))) (fun hc => ?_) (fun hc => ?_)) ?_
      · have h := cndT hs17 hc
        obtain ⟨u18, hu18, h⟩ := bnd h
        refine ss_cons (s_expr (v_app (f := (eT eN)) (l := s6.1) (y := o13.1) 2 (v_tupO (f := eN) (l := o13.1) G 6 (.inl rfl)) (.inl rfl) (chk_of hu18) ⟨_, .inl rfl⟩) ?_)
        show SsD _ [.dat ((eP (eT eN) (eT (eP eN (eO eN)))) x_task_here), .dat ((eM (eO eN)) v1), .own ((eL (eT eN)) (s6.1 ++ [o13.1])), .own ((eL (eT eN)) s6.2), .dat ((eL (eO eN)) v3), .dat (eN b7), .own ((eL eN) o13.1), .dat ((eO eN) o13.2), .un] _ _
        obtain rfl := Option.some.inj h
        exact ss_nil rfl
      · have h := cndF hs17 hc
        obtain rfl := Option.some.inj h
        exact ss_nil rfl
      obtain ⟨s19, hs19, h⟩ := bnd h
      refine ss_join (δ1 := [.dat ((eP (eT eN) (eT (eP eN (eO eN)))) x_task_here), .dat ((eM (eO eN)) v1), .own ((eL (eT eN)) s17), .own ((eL (eT eN)) s19), .dat ((eL (eO eN)) v3), .dat (eN b7), .own ((eL eN) o13.1), .dat ((eO eN) o13.2), .un]) (s_if (vt_ninL (f := (eO eN)) (l := v3) (y := (some b7)) G (v_var 5) (v_var 4)) (fun hc => ?_) (fun hc => ?_)) ?_
      · have h := cndT hs19 hc
        obtain ⟨u20, hu20, h⟩ := bnd h
        refine ss_cons (s_expr (v_app (f := (eT eN)) (l := s6.2) (y := o13.1) 3 (v_tupO (f := eN) (l := o13.1) G 6 (.inl rfl)) (.inl rfl) (chk_of hu20) ⟨_, .inl rfl⟩) ?_)
        show SsD _ [.dat ((eP (eT eN) (eT (eP eN (eO eN)))) x_task_here), .dat ((eM (eO eN)) v1), .own ((eL (eT eN)) s17), .own ((eL (eT eN)) (s6.2 ++ [o13.1])), .dat ((eL (eO eN)) v3), .dat (eN b7), .own ((eL eN) o13.1), .dat ((eO eN) o13.2), .un] _ _
        obtain rfl := Option.some.inj h
        exact ss_nil rfl
      · have h := cndF hs19 hc
        obtain rfl := Option.some.inj h
        exact ss_nil rfl
      refine ss_forget 5 ?_
      refine ss_forget 6 ?_
      refine ss_forget 7 ?_
      obtain rfl := Option.some.inj h
      exact ss_nil rfl
    show SsD _ [.dat ((eP (eT eN) (eT (eP eN (eO eN)))) x_task_here), .dat ((eM (eO eN)) v1), .own ((eL (eT eN)) o21.1), .own ((eL (eT eN)) o21.2), .dat ((eL (eO eN)) v3), .un, .un, .un, .un] _ _
    refine ss_freezeL 2 rfl ?_
    show SsD _ [.dat ((eP (eT eN) (eT (eP eN (eO eN)))) x_task_here), .dat ((eM (eO eN)) v1), .dat ((eL (eT eN)) o21.1), .own ((eL (eT eN)) o21.2), .dat ((eL (eO eN)) v3), .un, .un, .un, .un] _ _
    refine ss_freezeL 3 rfl ?_
    show SsD _ [.dat ((eP (eT eN) (eT (eP eN (eO eN)))) x_task_here), .dat ((eM (eO eN)) v1), .dat ((eL (eT eN)) o21.1), .dat ((eL (eT eN)) o21.2), .dat ((eL (eO eN)) v3), .un, .un, .un, .un] _ _
    obtain rfl := Option.some.inj h
    exact ss_cons (s_ret ((n_lst (ds := [(eL (eT eN)) o21.1, (eL (eT eN)) o21.2]) (a_cons (v_var 2) (a_cons (v_var 3) a_nil)) (show 2 ≤ sizeLine by decide))).ev ⟨rfl, (by first | exact trivial | exact ⟨rfl, trivial⟩)⟩)
theorem sc__law_fits : FnScope ["_law_bulk_here", "_law_mate", "_law_spot"] ["_law_bulk_here", "_law_mate", "_law_spot"] (defScope s__law_fits) := ⟨rfl, rfl, rfl, by decide +kernel, rfl, by decide +kernel, by decide +kernel⟩
theorem can__law_fits (F : Def1 K mg "_law_fits" s__law_fits) (fr : Fre mg) : Can P w K mg base "_law_fits" ["_law_bulk_here", "_law_mate", "_law_spot"] 1 (T__law_fits) := by
  refine can_of F sc__law_fits (by decide) fr (fun f fd h => h.bindsN fun _ _ _ _ _ _ us hl => match us, hl with | [_, _, _], _ => rfl) ?_ ?_
  · rintro as r as' ⟨x_bulk_here, x_mate, x_spot, y, h, rfl, rfl, rfl⟩
    exact shp_dat [(eP (eT (eP eN eI)) (eT (eP eN eI))) x_bulk_here, eN x_mate, eN x_spot] rfl rfl rfl
  · rintro f cdv A outer s0 H E as r as' hr G ⟨x_bulk_here, x_mate, x_spot, y, h, rfl, rfl, rfl⟩
    show SsD _ [.dat ((eP (eT (eP eN eI)) (eT (eP eN eI))) x_bulk_here), .dat (eN x_mate), .dat (eN x_spot)] _ _
    obtain ⟨v1, hv1, h⟩ := bnd h
    obtain ⟨v2, hv2, h⟩ := bnd h
    obtain ⟨v3, hv3, h⟩ := bnd h
    obtain ⟨v4, hv4, h⟩ := bnd h
    obtain rfl := Option.some.inj h
    exact ss_cons (s_ret (e_le (i := v2) (j := v4) (v_lk (f := eI) (l := v1) (k := x_mate) (y := v2) G hv2 (v_dictT (f := eI) (l := x_bulk_here.2) (m := v1) G hv1 (v_snd (f := (eT (eP eN eI))) (g := (eT (eP eN eI))) (y := x_bulk_here) (v_var 0))) (v_var 1)) (v_lk (f := eI) (l := v3) (k := x_spot) (y := v4) G hv4 (v_dictT (f := eI) (l := x_bulk_here.1) (m := v3) G hv3 (v_fst (f := (eT (eP eN eI))) (g := (eT (eP eN eI))) (y := x_bulk_here) (v_var 0))) (v_var 2))) ⟨rfl, (by first | exact trivial | exact ⟨rfl, trivial⟩)⟩)
theorem sc__law_reach : FnScope ["_law_task_here", "_law_bulk_here", "_law_yard_here", "_law_left_so", "_law_goal_so", "_law_spot", "_law_near", "_law_mate"] ["_law_task_here", "_law_bulk_here", "_law_yard_here", "_law_left_so"] (defScope s__law_reach) := ⟨rfl, rfl, rfl, by decide +kernel, rfl, by decide +kernel, by decide +kernel⟩
theorem can__law_reach (F : Def1 K mg "_law_reach" s__law_reach) (fr : Fre mg) (rec : ((List Nm) × (List (Nm × (Option Nm)))) → ((List (Nm × Int)) × (List (Nm × Int))) → (List (Nm × Nm)) → Int → Option Bool) (kk : Nat) (hkk : 2 ≤ kk) (c__law_goal : Can P w K mg base "_law_goal" ["_law_task_here"] 1 T__law_goal) (c__law_can : Can P w K mg base "_law_can" ["_law_task_here", "_law_yard_here", "_law_haul"] 2 T__law_can) (c__law_fits : Can P w K mg base "_law_fits" ["_law_bulk_here", "_law_mate", "_law_spot"] 1 T__law_fits) (c__law_reach : Can P w K mg base "_law_reach" ["_law_task_here", "_law_bulk_here", "_law_yard_here", "_law_left_so"] kk (T__law_reach rec)) (c__law_done : Can P w K mg base "_law_done" ["_law_task_here", "_law_yard_here", "_law_haul"] 1 T__law_done) : Can P w K mg base "_law_reach" ["_law_task_here", "_law_bulk_here", "_law_yard_here", "_law_left_so"] (kk + 1) (T__law_reach (m__law_reach rec)) := by
  refine can_of F sc__law_reach (by decide) fr (fun f fd h => h.bindsN fun _ _ _ _ _ _ us hl => match us, hl with | [_, _, _, _], _ => rfl) ?_ ?_
  · rintro as r as' ⟨x_task_here, x_bulk_here, x_yard_here, x_left_so, y, h, rfl, rfl, rfl⟩
    exact shp_dat [(eP (eT eN) (eT (eP eN (eO eN)))) x_task_here, (eP (eT (eP eN eI)) (eT (eP eN eI))) x_bulk_here, (eM eN) x_yard_here, eI x_left_so] rfl rfl rfl
  · rintro f cdv A outer s0 H E as r as' hr G ⟨x_task_here, x_bulk_here, x_yard_here, x_left_so, y, h, rfl, rfl, rfl⟩
    replace c__law_goal := c__law_goal.cal (hr.mono (by omega)) (N := ["_law_task_here", "_law_bulk_here", "_law_yard_here", "_law_left_so", "_law_goal_so", "_law_spot", "_law_near", "_law_mate"]) (cdv := cdv) (outer := outer) (H := H) (E := E)
    replace c__law_can := c__law_can.cal (hr.mono (by omega)) (N := ["_law_task_here", "_law_bulk_here", "_law_yard_here", "_law_left_so", "_law_goal_so", "_law_spot", "_law_near", "_law_mate"]) (cdv := cdv) (outer := outer) (H := H) (E := E)
    replace c__law_fits := c__law_fits.cal (hr.mono (by omega)) (N := ["_law_task_here", "_law_bulk_here", "_law_yard_here", "_law_left_so", "_law_goal_so", "_law_spot", "_law_near", "_law_mate"]) (cdv := cdv) (outer := outer) (H := H) (E := E)
    replace c__law_reach := c__law_reach.cal (hr.mono (by omega)) (N := ["_law_task_here", "_law_bulk_here", "_law_yard_here", "_law_left_so", "_law_goal_so", "_law_spot", "_law_near", "_law_mate"]) (cdv := cdv) (outer := outer) (H := H) (E := E)
    replace c__law_done := c__law_done.cal (hr.mono (by omega)) (N := ["_law_task_here", "_law_bulk_here", "_law_yard_here", "_law_left_so", "_law_goal_so", "_law_spot", "_law_near", "_law_mate"]) (cdv := cdv) (outer := outer) (H := H) (E := E)
    show SsD _ [.dat ((eP (eT eN) (eT (eP eN (eO eN)))) x_task_here), .dat ((eP (eT (eP eN eI)) (eT (eP eN eI))) x_bulk_here), .dat ((eM eN) x_yard_here), .dat (eI x_left_so), .un, .un, .un, .un] _ _
    obtain ⟨v1, hv1, h⟩ := bnd h
    refine ss_cons (w_set 4 G (e_call c__law_goal rfl (a_cons (v_var 0) a_nil) ⟨x_task_here, v1, hv1, rfl, rfl, rfl⟩) ?_)
    show SsD _ [.dat ((eP (eT eN) (eT (eP eN (eO eN)))) x_task_here), .dat ((eP (eT (eP eN eI)) (eT (eP eN eI))) x_bulk_here), .dat ((eM eN) x_yard_here), .dat (eI x_left_so), .dat ((eM (eO eN)) v1), .un, .un, .un] _ _
    obtain ⟨v4, hv4, h⟩ := bnd h
    refine ss_cons (s_if (t_gt (i := (v4.length : Int)) (j := x_left_so) (v_lenL (f := eN) (l := v4) G (((k_lcTD (g := (eS eN eN)) (f := eN) [("_law_spot", 5), ("_law_mate", 7)] (fun (b2 : (Nm × Nm)) => [(5, eN b2.1), (7, eN b2.2)]) G hv4 (it_I (f := eN) (d := x_yard_here) (v_var 2)) (.inl rfl) (fun s H C cl fp b2 hb => tg2S 5 7 G.calm G.nd) (fun z H C cl fp b2 y5 G hb h => by show TvD _ [.dat ((eP (eT eN) (eT (eP eN (eO eN)))) x_task_here), .dat ((eP (eT (eP eN eI)) (eT (eP eN eI))) x_bulk_here), .dat ((eM eN) x_yard_here), .dat (eI x_left_so), .dat ((eM (eO eN)) v1), .dat (eN b2.1), .un, .dat (eN b2.2)] _ _ [.dat ((eP (eT eN) (eT (eP eN (eO eN)))) x_task_here), .dat ((eP (eT (eP eN eI)) (eT (eP eN eI))) x_bulk_here), .dat ((eM eN) x_yard_here), .dat (eI x_left_so), .dat ((eM (eO eN)) v1), .dat (eN b2.1), .un, .dat (eN b2.2)]; obtain ⟨v3, hv3, h⟩ := bnd h; obtain rfl := Option.some.inj h; exact (vt_ne (f := (eO eN)) (y := v3) (z := (some b2.1)) G (v_lk (f := (eO eN)) (l := v1) (k := b2.2) (y := v3) G hv3 (v_var 4) (v_var 7)) (v_var 5))) (fun z H C cl fp b2 y5 G hb _ h => by show EvD _ [.dat ((eP (eT eN) (eT (eP eN (eO eN)))) x_task_here), .dat ((eP (eT (eP eN eI)) (eT (eP eN eI))) x_bulk_here), .dat ((eM eN) x_yard_here), .dat (eI x_left_so), .dat ((eM (eO eN)) v1), .dat (eN b2.1), .un, .dat (eN b2.2)] _ _ [.dat ((eP (eT eN) (eT (eP eN (eO eN)))) x_task_here), .dat ((eP (eT (eP eN eI)) (eT (eP eN eI))) x_bulk_here), .dat ((eM eN) x_yard_here), .dat (eI x_left_so), .dat ((eM (eO eN)) v1), .dat (eN b2.1), .un, .dat (eN b2.2)]; obtain rfl := Option.some.inj h; exact (v_var 5)))).n G.calm G.nd).ev) (v_var 3)) (fun hc => ?_) (fun hc => ?_))
    · have h := cndT h hc
      obtain rfl := Option.some.inj h
      exact ss_cons (s_ret e_bl ⟨rfl, (by first | exact trivial | exact ⟨rfl, trivial⟩)⟩)
    · have h := cndF h hc
      refine ss_nil ?_
      show SsD _ [.dat ((eP (eT eN) (eT (eP eN (eO eN)))) x_task_here), .dat ((eP (eT (eP eN eI)) (eT (eP eN eI))) x_bulk_here), .dat ((eM eN) x_yard_here), .dat (eI x_left_so), .dat ((eM (eO eN)) v1), .un, .un, .un] _ _
      refine ss_cons (s_if (vt_eq (f := eI) (y := x_left_so) (z := (0 : Int)) G (v_var 3) e_int) (fun hc => ?_) (fun hc => ?_))
      · have h := cndT h hc
        obtain rfl := Option.some.inj h
        exact ss_cons (s_ret e_bl ⟨rfl, (by first | exact trivial | exact ⟨rfl, trivial⟩)⟩)
      · have h := cndF h hc
        refine ss_nil ?_
        show SsD _ [.dat ((eP (eT eN) (eT (eP eN (eO eN)))) x_task_here), .dat ((eP (eT (eP eN eI)) (eT (eP eN eI))) x_bulk_here), .dat ((eM eN) x_yard_here), .dat (eI x_left_so), .dat ((eM (eO eN)) v1), .un, .un, .un] _ _
        obtain ⟨u6, hu6, h⟩ := bnd h
        obtain ⟨o21, ho21, h⟩ := bnd h
        refine ss_cons (k_for (g := eN) (fun (s7 : Unit) => [.dat ((eP (eT eN) (eT (eP eN (eO eN)))) x_task_here), .dat ((eP (eT (eP eN eI)) (eT (eP eN eI))) x_bulk_here), .dat ((eM eN) x_yard_here), .dat (eI x_left_so), .dat ((eM (eO eN)) v1), .un, .un, .un]) (fun (b8 : Nm) => [(5, eN b8)]) (fun r d δ' => d = eB r ∧ parsOk [.dat ((eP (eT eN) (eT (eP eN (eO eN)))) x_task_here), .dat ((eP (eT (eP eN eI)) (eT (eP eN eI))) x_bulk_here), .dat ((eM eN) x_yard_here), .dat (eI x_left_so)] δ') G PassesOwn.never ho21 (it_L (f := eN) (l := (isort leN (x_yard_here.map (·.1)))) ((n_srtD (f := eN) (d := x_yard_here) G (chk_of hu6) (v_var 2))).ev) (fun b8 hb => tg1 5 G.nd) (fun s7 b8 => by intro z hz; simp at hz; subst hz; rfl) (fun s7 b8 t hb h => ?_) (fun s7 e => ?_) (fun r d δ' e hr => ?_))
        · show SsD _ [.dat ((eP (eT eN) (eT (eP eN (eO eN)))) x_task_here), .dat ((eP (eT (eP eN eI)) (eT (eP eN eI))) x_bulk_here), .dat ((eM eN) x_yard_here), .dat (eI x_left_so), .dat ((eM (eO eN)) v1), .dat (eN b8), .un, .un] _ _
          obtain ⟨u9, hu9, h⟩ := bnd h
          obtain ⟨o20, ho20, h⟩ := bnd h
          refine ss_cons (k_for (g := (eO eN)) (fun (s10 : Unit) => [.dat ((eP (eT eN) (eT (eP eN (eO eN)))) x_task_here), .dat ((eP (eT (eP eN eI)) (eT (eP eN eI))) x_bulk_here), .dat ((eM eN) x_yard_here), .dat (eI x_left_so), .dat ((eM (eO eN)) v1), .dat (eN b8), .un, .un]) (fun (b11 : (Option Nm)) => [(6, (eO eN) b11)]) (fun r d δ' => d = eB r ∧ parsOk [.dat ((eP (eT eN) (eT (eP eN (eO eN)))) x_task_here), .dat ((eP (eT (eP eN eI)) (eT (eP eN eI))) x_bulk_here), .dat ((eM eN) x_yard_here), .dat (eI x_left_so)] δ') G PassesOwn.never ho20 (it_L (f := (eO eN)) (l := ((x_task_here.1.map some) ++ (none :: ([] : List (Option Nm))))) ((n_catL (f := (eO eN)) (l := (x_task_here.1.map some)) (m := (none :: ([] : List (Option Nm)))) (chk_of hu9) (v_LO ((n_lisT (f := eN) (l := x_task_here.1) G (v_fst (f := (eT eN)) (g := (eT (eP eN (eO eN)))) (y := x_task_here) (v_var 0)))).ev) ((n_lstV (f := (eO eN)) (l := (none :: ([] : List (Option Nm)))) rfl (va_cons (f := (eO eN)) (y := none) e_non va_nil))).ev)).ev) (fun b11 hb => tg1 6 G.nd) (fun s10 b11 => by intro z hz; simp at hz; subst hz; rfl) (fun s10 b11 t hb h => ?_) (fun s10 e => ?_) (fun r d δ' e hr => ?_))
          · show SsD _ [.dat ((eP (eT eN) (eT (eP eN (eO eN)))) x_task_here), .dat ((eP (eT (eP eN eI)) (eT (eP eN eI))) x_bulk_here), .dat ((eM eN) x_yard_here), .dat (eI x_left_so), .dat ((eM (eO eN)) v1), .dat (eN b8), .dat ((eO eN) b11), .un] _ _
            obtain ⟨v12, hv12, h⟩ := bnd h
            obtain ⟨v17, hv17, h⟩ := bnd h
            refine ss_cons (s_if (t_w (w_and (p := v12) (q := v17) (t_val (p := v12) (e_call c__law_can rfl (a_cons (v_var 0) (a_cons (v_var 2) (a_cons (v_pair (f := eN) (g := (eO eN)) (y := b8) (z := b11) (v_var 5) (v_var 6)) a_nil))) ⟨x_task_here, x_yard_here, (b8, b11), v12, hv12, rfl, rfl, rfl⟩)) (fun hc => by have h := cndT hv17 hc; obtain ⟨v16, hv16, h⟩ := bnd h; obtain rfl := Option.some.inj h; exact (w_and1 (t_w (w_or (p := b11.isNone) (q := v16) (vt_isN (f := eN) (y := b11) (v_var 6)) (fun hc => by have h := cndF hv16 hc; obtain ⟨v13, hv13, h⟩ := bnd h; obtain ⟨v14, hv14, h⟩ := bnd h; obtain ⟨v15, hv15, h⟩ := bnd h; obtain rfl := Option.some.inj h; exact (w_or1 (t_val (p := v15) (e_call c__law_fits rfl (a_cons (v_var 1) (a_cons (v_lk (f := eN) (l := x_yard_here) (k := b8) (y := v13) G hv13 (v_var 2) (v_var 5)) (a_cons (EvD.cast ((v_var 6)) (show eO eN b11 = eN v14 from congrArg (eO eN) hv14)) a_nil))) ⟨x_bulk_here, v13, v14, v15, hv15, rfl, rfl, rfl⟩)))))))))) (fun hc => ?_) (fun hc => ?_))
            · have h := cndT h hc
              obtain ⟨v18, hv18, h⟩ := bnd h
              obtain ⟨v19, hv19, h⟩ := bnd h
              refine ss_cons (s_if (t_val (p := v19) (e_call c__law_reach rfl (a_cons (v_var 0) (a_cons (v_var 1) (a_cons (e_call c__law_done rfl (a_cons (v_var 0) (a_cons (v_var 2) (a_cons (v_pair (f := eN) (g := (eO eN)) (y := b8) (z := b11) (v_var 5) (v_var 6)) a_nil))) ⟨x_task_here, x_yard_here, (b8, b11), v18, hv18, rfl, rfl, rfl⟩) (a_cons (e_sub (v_var 3) e_int) a_nil)))) ⟨x_task_here, x_bulk_here, v18, (x_left_so - (1 : Int)), v19, hv19, rfl, rfl, rfl⟩)) (fun hc => ?_) (fun hc => ?_))
              · have h := cndT h hc
                exact ss_cons (s_ret e_bl ⟨_, (Option.some.inj h).symm, rfl, (by first | exact trivial | exact ⟨rfl, trivial⟩)⟩)
              · have h := cndF h hc
                refine ss_nil ?_
                show SsD _ [.dat ((eP (eT eN) (eT (eP eN (eO eN)))) x_task_here), .dat ((eP (eT (eP eN eI)) (eT (eP eN eI))) x_bulk_here), .dat ((eM eN) x_yard_here), .dat (eI x_left_so), .dat ((eM (eO eN)) v1), .dat (eN b8), .dat ((eO eN) b11), .un] _ _
                refine ss_nil ?_
                show SsD _ [.dat ((eP (eT eN) (eT (eP eN (eO eN)))) x_task_here), .dat ((eP (eT (eP eN eI)) (eT (eP eN eI))) x_bulk_here), .dat ((eM eN) x_yard_here), .dat (eI x_left_so), .dat ((eM (eO eN)) v1), .dat (eN b8), .dat ((eO eN) b11), .un] _ _
                refine ss_forget 6 ?_
                exact ss_nil ⟨_, (Option.some.inj h).symm, rfl⟩
            · have h := cndF h hc
              refine ss_nil ?_
              show SsD _ [.dat ((eP (eT eN) (eT (eP eN (eO eN)))) x_task_here), .dat ((eP (eT (eP eN eI)) (eT (eP eN eI))) x_bulk_here), .dat ((eM eN) x_yard_here), .dat (eI x_left_so), .dat ((eM (eO eN)) v1), .dat (eN b8), .dat ((eO eN) b11), .un] _ _
              refine ss_forget 6 ?_
              exact ss_nil ⟨_, (Option.some.inj h).symm, rfl⟩
          · subst e
            have h : _ = some _ := h
            show SsD _ [.dat ((eP (eT eN) (eT (eP eN (eO eN)))) x_task_here), .dat ((eP (eT (eP eN eI)) (eT (eP eN eI))) x_bulk_here), .dat ((eM eN) x_yard_here), .dat (eI x_left_so), .dat ((eM (eO eN)) v1), .dat (eN b8), .un, .un] _ _
            refine ss_forget 5 ?_
            exact ss_nil ⟨_, (Option.some.inj h).symm, rfl⟩
          · subst e
            exact ⟨_, (Option.some.inj h).symm, hr⟩
        · subst e
          have h : _ = some _ := h
          show SsD _ [.dat ((eP (eT eN) (eT (eP eN (eO eN)))) x_task_here), .dat ((eP (eT (eP eN eI)) (eT (eP eN eI))) x_bulk_here), .dat ((eM eN) x_yard_here), .dat (eI x_left_so), .dat ((eM (eO eN)) v1), .un, .un, .un] _ _
          obtain rfl := Option.some.inj h
          exact ss_cons (s_ret e_bl ⟨rfl, (by first | exact trivial | exact ⟨rfl, trivial⟩)⟩)
        · subst e
          obtain rfl := Option.some.inj h
          exact hr
theorem sc__law_shut : FnScope ["_law_task_here", "_law_bulk_here", "_law_goal_so", "_law_wide_so", "_law_rings_so", "_law_chains_so", "_law_holes", "_law_line_so", "_law_lap", "_law_spot", "_law_own"] ["_law_task_here", "_law_bulk_here"] (defScope s__law_shut) := ⟨rfl, rfl, rfl, by decide +kernel, rfl, by decide +kernel, by decide +kernel⟩
theorem can__law_shut (F : Def1 K mg "_law_shut" s__law_shut) (fr : Fre mg) (c__law_goal : Can P w K mg base "_law_goal" ["_law_task_here"] 1 T__law_goal) (c__law_threads : Can P w K mg base "_law_threads" ["_law_task_here"] 2 T__law_threads) : Can P w K mg base "_law_shut" ["_law_task_here", "_law_bulk_here"] 3 (T__law_shut) := by
  refine can_of F sc__law_shut (by decide) fr (fun f fd h => h.bindsN fun _ _ _ _ _ _ us hl => match us, hl with | [_, _], _ => rfl) ?_ ?_
  · rintro as r as' ⟨x_task_here, x_bulk_here, y, h, rfl, rfl, rfl⟩
    exact shp_dat [(eP (eT eN) (eT (eP eN (eO eN)))) x_task_here, (eP (eT (eP eN eI)) (eT (eP eN eI))) x_bulk_here] rfl rfl rfl
  · rintro f cdv A outer s0 H E as r as' hr G ⟨x_task_here, x_bulk_here, y, h, rfl, rfl, rfl⟩
    replace c__law_goal := c__law_goal.cal (hr.mono (by omega)) (N := ["_law_task_here", "_law_bulk_here", "_law_goal_so", "_law_wide_so", "_law_rings_so", "_law_chains_so", "_law_holes", "_law_line_so", "_law_lap", "_law_spot", "_law_own"]) (cdv := cdv) (outer := outer) (H := H) (E := E)
    replace c__law_threads := c__law_threads.cal (hr.mono (by omega)) (N := ["_law_task_here", "_law_bulk_here", "_law_goal_so", "_law_wide_so", "_law_rings_so", "_law_chains_so", "_law_holes", "_law_line_so", "_law_lap", "_law_spot", "_law_own"]) (cdv := cdv) (outer := outer) (H := H) (E := E)
    show SsD _ [.dat ((eP (eT eN) (eT (eP eN (eO eN)))) x_task_here), .dat ((eP (eT (eP eN eI)) (eT (eP eN eI))) x_bulk_here), .un, .un, .un, .un, .un, .un, .un, .un, .un] _ _
    obtain ⟨v1, hv1, h⟩ := bnd h
    obtain ⟨v2, hv2, h⟩ := bnd h
    refine ss_cons (s_parT (is := [2, 3]) (x_dat (e_call c__law_goal rfl (a_cons (v_var 0) a_nil) ⟨x_task_here, v1, hv1, rfl, rfl, rfl⟩) (x_dat (v_dictT (f := eI) (l := x_bulk_here.1) (m := v2) G hv2 (v_fst (f := (eT (eP eN eI))) (g := (eT (eP eN eI))) (y := x_bulk_here) (v_var 1))) x_nil)) G.calm ⟨_, (gs_cons (i := 2) G.nd rfl (by first | exact .inl rfl | exact .inr rfl) (gs_cons (i := 3) G.nd rfl (by first | exact .inl rfl | exact .inr rfl) gs_nil))⟩ ?_ rfl (by decide) (by intro i hi; simp at hi; rcases hi with rfl | rfl <;> rfl) (hz := by show 2 ≤ sizeLine; decide))
    show SsD _ [.dat ((eP (eT eN) (eT (eP eN (eO eN)))) x_task_here), .dat ((eP (eT (eP eN eI)) (eT (eP eN eI))) x_bulk_here), .dat ((eM (eO eN)) v1), .dat ((eM eI) v2), .un, .un, .un, .un, .un, .un, .un] _ _
    obtain ⟨v3, hv3, h⟩ := bnd h
    refine ss_cons (s_asg (d := (eQ (eL (eT eN)) (eL (eT eN))) v3) (ps := [(4, (eL (eT eN)) v3.1), (5, (eL (eT eN)) v3.2)]) (e_call c__law_threads rfl (a_cons (v_var 0) a_nil) ⟨x_task_here, v3, hv3, rfl, rfl, rfl⟩) (tg2Q 4 5 G.calm G.nd) ?_ (by intro z hz; simp at hz; rcases hz with rfl | rfl <;> rfl))
    show SsD _ [.dat ((eP (eT eN) (eT (eP eN (eO eN)))) x_task_here), .dat ((eP (eT (eP eN eI)) (eT (eP eN eI))) x_bulk_here), .dat ((eM (eO eN)) v1), .dat ((eM eI) v2), .dat ((eL (eT eN)) v3.1), .dat ((eL (eT eN)) v3.2), .un, .un, .un, .un, .un] _ _
    obtain ⟨v6, hv6, h⟩ := bnd h
    refine ss_cons (w_set 6 G (((k_lcTD (g := eN) (f := eI) [("_law_spot", 9)] (fun (b4 : Nm) => [(9, eN b4)]) G hv6 ((it_T (f := eN) (l := x_task_here.1) (v_fst (f := (eT eN)) (g := (eT (eP eN (eO eN)))) (y := x_task_here) (v_var 0)))).l (.inl rfl) (fun s H C cl fp b4 hb => tg1 9 G.nd) (fun z H C cl fp b4 y7 G hb h => by show TvD _ [.dat ((eP (eT eN) (eT (eP eN (eO eN)))) x_task_here), .dat ((eP (eT (eP eN eI)) (eT (eP eN eI))) x_bulk_here), .dat ((eM (eO eN)) v1), .dat ((eM eI) v2), .dat ((eL (eT eN)) v3.1), .dat ((eL (eT eN)) v3.2), .un, .un, .un, .dat (eN b4), .un] _ _ [.dat ((eP (eT eN) (eT (eP eN (eO eN)))) x_task_here), .dat ((eP (eT (eP eN eI)) (eT (eP eN eI))) x_bulk_here), .dat ((eM (eO eN)) v1), .dat ((eM eI) v2), .dat ((eL (eT eN)) v3.1), .dat ((eL (eT eN)) v3.2), .un, .un, .un, .dat (eN b4), .un]; obtain rfl := Option.some.inj h; exact (vt_dnin (f := (eO eN)) (l := v1) (k := b4) G (v_var 9) (v_var 2))) (fun z H C cl fp b4 y7 G hb _ h => by show EvD _ [.dat ((eP (eT eN) (eT (eP eN (eO eN)))) x_task_here), .dat ((eP (eT (eP eN eI)) (eT (eP eN eI))) x_bulk_here), .dat ((eM (eO eN)) v1), .dat ((eM eI) v2), .dat ((eL (eT eN)) v3.1), .dat ((eL (eT eN)) v3.2), .un, .un, .un, .dat (eN b4), .un] _ _ [.dat ((eP (eT eN) (eT (eP eN (eO eN)))) x_task_here), .dat ((eP (eT (eP eN eI)) (eT (eP eN eI))) x_bulk_here), .dat ((eM (eO eN)) v1), .dat ((eM eI) v2), .dat ((eL (eT eN)) v3.1), .dat ((eL (eT eN)) v3.2), .un, .un, .un, .dat (eN b4), .un]; obtain ⟨v5, hv5, h⟩ := bnd h; obtain rfl := Option.some.inj h; exact (v_lk (f := eI) (l := v2) (k := b4) (y := v5) G hv5 (v_var 3) (v_var 9))))).n G.calm G.nd).ev ?_)
    show SsD _ [.dat ((eP (eT eN) (eT (eP eN (eO eN)))) x_task_here), .dat ((eP (eT (eP eN eI)) (eT (eP eN eI))) x_bulk_here), .dat ((eM (eO eN)) v1), .dat ((eM eI) v2), .dat ((eL (eT eN)) v3.1), .dat ((eL (eT eN)) v3.2), .dat ((eL eI) v6), .un, .un, .un, .un] _ _
    obtain ⟨o22, ho22, h⟩ := bnd h
    refine ss_cons (k_forS (g := (eT eN)) (fun (s8 : (List Int)) => [.dat ((eP (eT eN) (eT (eP eN (eO eN)))) x_task_here), .dat ((eP (eT (eP eN eI)) (eT (eP eN eI))) x_bulk_here), .dat ((eM (eO eN)) v1), .dat ((eM eI) v2), .dat ((eL (eT eN)) v3.1), .dat ((eL (eT eN)) v3.2), .dat ((eL eI) s8), .un, .un, .un, .un]) (fun (b9 : (List Nm)) => [(7, (eT eN) b9)]) G PassesOwn.never ho22 (it_L (f := (eT eN)) (l := v3.2) (v_var 5)) (fun b9 hb => tg1 7 G.nd) (fun s8 b9 t hb h => ?_) ?_)
    · show SsD _ [.dat ((eP (eT eN) (eT (eP eN (eO eN)))) x_task_here), .dat ((eP (eT (eP eN eI)) (eT (eP eN eI))) x_bulk_here), .dat ((eM (eO eN)) v1), .dat ((eM eI) v2), .dat ((eL (eT eN)) v3.1), .dat ((eL (eT eN)) v3.2), .dat ((eL eI) s8), .dat ((eT eN) b9), .un, .un, .un] _ _
      obtain ⟨v12, hv12, h⟩ := bnd h
      obtain ⟨u14, hu14, h⟩ := bnd h
      refine ss_cons (w_set 6 G ((n_catL (f := eI) (l := s8) (m := v12) (chk_of hu14) (v_var 6) (((k_lcD (g := eN) (f := eI) [("_law_spot", 9)] (fun (b10 : Nm) => [(9, eN b10)]) G hv12 ((it_T (f := eN) (l := b9) (v_var 7))).l (.inl rfl) (fun s H C cl fp b10 hb => tg1 9 G.nd) (fun z H C cl fp b10 y13 G hb h => by show EvD _ [.dat ((eP (eT eN) (eT (eP eN (eO eN)))) x_task_here), .dat ((eP (eT (eP eN eI)) (eT (eP eN eI))) x_bulk_here), .dat ((eM (eO eN)) v1), .dat ((eM eI) v2), .dat ((eL (eT eN)) v3.1), .dat ((eL (eT eN)) v3.2), .dat ((eL eI) s8), .dat ((eT eN) b9), .un, .dat (eN b10), .un] _ _ [.dat ((eP (eT eN) (eT (eP eN (eO eN)))) x_task_here), .dat ((eP (eT (eP eN eI)) (eT (eP eN eI))) x_bulk_here), .dat ((eM (eO eN)) v1), .dat ((eM eI) v2), .dat ((eL (eT eN)) v3.1), .dat ((eL (eT eN)) v3.2), .dat ((eL eI) s8), .dat ((eT eN) b9), .un, .dat (eN b10), .un]; obtain ⟨v11, hv11, h⟩ := bnd h; obtain rfl := Option.some.inj h; exact (v_lk (f := eI) (l := v2) (k := b10) (y := v11) G hv11 (v_var 3) (v_var 9))))).n G.calm G.nd).ev)).ev ?_)
      show SsD _ [.dat ((eP (eT eN) (eT (eP eN (eO eN)))) x_task_here), .dat ((eP (eT (eP eN eI)) (eT (eP eN eI))) x_bulk_here), .dat ((eM (eO eN)) v1), .dat ((eM eI) v2), .dat ((eL (eT eN)) v3.1), .dat ((eL (eT eN)) v3.2), .dat ((eL eI) (s8 ++ v12)), .dat ((eT eN) b9), .un, .un, .un] _ _
      obtain ⟨v19, hv19, h⟩ := bnd h
      obtain ⟨u21, hu21, h⟩ := bnd h
      refine ss_cons (w_set 6 G ((n_catL (f := eI) (l := (s8 ++ v12)) (m := v19) (chk_of hu21) (v_var 6) (((k_lcTD (g := eN) (f := eI) [("_law_spot", 9)] (fun (b15 : Nm) => [(9, eN b15)]) G hv19 ((it_T (f := eN) (l := b9) (v_var 7))).l (.inl rfl) (fun s H C cl fp b15 hb => tg1 9 G.nd) (fun z H C cl fp b15 y20 G hb h => by show TvD _ [.dat ((eP (eT eN) (eT (eP eN (eO eN)))) x_task_here), .dat ((eP (eT (eP eN eI)) (eT (eP eN eI))) x_bulk_here), .dat ((eM (eO eN)) v1), .dat ((eM eI) v2), .dat ((eL (eT eN)) v3.1), .dat ((eL (eT eN)) v3.2), .dat ((eL eI) (s8 ++ v12)), .dat ((eT eN) b9), .un, .dat (eN b15), .un] _ _ [.dat ((eP (eT eN) (eT (eP eN (eO eN)))) x_task_here), .dat ((eP (eT (eP eN eI)) (eT (eP eN eI))) x_bulk_here), .dat ((eM (eO eN)) v1), .dat ((eM eI) v2), .dat ((eL (eT eN)) v3.1), .dat ((eL (eT eN)) v3.2), .dat ((eL eI) (s8 ++ v12)), .dat ((eT eN) b9), .un, .dat (eN b15), .un]; obtain ⟨v16, hv16, h⟩ := bnd h; obtain rfl := Option.some.inj h; exact (vt_notN (f := eN) (y := v16) (v_lk (f := (eO eN)) (l := v1) (k := b15) (y := v16) G hv16 (v_var 2) (v_var 9)))) (fun z H C cl fp b15 y20 G hb _ h => by show EvD _ [.dat ((eP (eT eN) (eT (eP eN (eO eN)))) x_task_here), .dat ((eP (eT (eP eN eI)) (eT (eP eN eI))) x_bulk_here), .dat ((eM (eO eN)) v1), .dat ((eM eI) v2), .dat ((eL (eT eN)) v3.1), .dat ((eL (eT eN)) v3.2), .dat ((eL eI) (s8 ++ v12)), .dat ((eT eN) b9), .un, .dat (eN b15), .un] _ _ [.dat ((eP (eT eN) (eT (eP eN (eO eN)))) x_task_here), .dat ((eP (eT (eP eN eI)) (eT (eP eN eI))) x_bulk_here), .dat ((eM (eO eN)) v1), .dat ((eM eI) v2), .dat ((eL (eT eN)) v3.1), .dat ((eL (eT eN)) v3.2), .dat ((eL eI) (s8 ++ v12)), .dat ((eT eN) b9), .un, .dat (eN b15), .un]; obtain ⟨v17, hv17, h⟩ := bnd h; obtain ⟨v18, hv18, h⟩ := bnd h; obtain rfl := Option.some.inj h; exact (v_lkO (f := eI) (l := v2) (k := v17) (y := v18) G hv18 (v_var 3) (v_lk (f := (eO eN)) (l := v1) (k := b15) (y := v17) G hv17 (v_var 2) (v_var 9)))))).n G.calm G.nd).ev)).ev ?_)
      show SsD _ [.dat ((eP (eT eN) (eT (eP eN (eO eN)))) x_task_here), .dat ((eP (eT (eP eN eI)) (eT (eP eN eI))) x_bulk_here), .dat ((eM (eO eN)) v1), .dat ((eM eI) v2), .dat ((eL (eT eN)) v3.1), .dat ((eL (eT eN)) v3.2), .dat ((eL eI) ((s8 ++ v12) ++ v19)), .dat ((eT eN) b9), .un, .un, .un] _ _
      refine ss_forget 7 ?_
      obtain rfl := Option.some.inj h
      exact ss_nil rfl
    show SsD _ [.dat ((eP (eT eN) (eT (eP eN (eO eN)))) x_task_here), .dat ((eP (eT (eP eN eI)) (eT (eP eN eI))) x_bulk_here), .dat ((eM (eO eN)) v1), .dat ((eM eI) v2), .dat ((eL (eT eN)) v3.1), .dat ((eL (eT eN)) v3.2), .dat ((eL eI) o22), .un, .un, .un, .un] _ _
    refine ss_cons (s_if (vt_eq (f := (eL eI)) (y := o22) (z := ([] : List Int)) G (v_var 6) ((n_lstV (f := eI) (l := ([] : List Int)) rfl va_nil)).ev) (fun hc => ?_) (fun hc => ?_))
    · have h := cndT h hc
      obtain rfl := Option.some.inj h
      exact ss_cons (s_ret (v_var 4) ⟨rfl, (by first | exact trivial | exact ⟨rfl, trivial⟩)⟩)
    · have h := cndF h hc
      refine ss_nil ?_
      show SsD _ [.dat ((eP (eT eN) (eT (eP eN (eO eN)))) x_task_here), .dat ((eP (eT (eP eN eI)) (eT (eP eN eI))) x_bulk_here), .dat ((eM (eO eN)) v1), .dat ((eM eI) v2), .dat ((eL (eT eN)) v3.1), .dat ((eL (eT eN)) v3.2), .dat ((eL eI) o22), .un, .un, .un, .un] _ _
      obtain ⟨u23, hu23, h⟩ := bnd h
      obtain ⟨o42, ho42, h⟩ := bnd h
      refine ss_cons (k_forS (g := eI) (fun (s24 : (List Int)) => [.dat ((eP (eT eN) (eT (eP eN (eO eN)))) x_task_here), .dat ((eP (eT (eP eN eI)) (eT (eP eN eI))) x_bulk_here), .dat ((eM (eO eN)) v1), .dat ((eM eI) v2), .dat ((eL (eT eN)) v3.1), .dat ((eL (eT eN)) v3.2), .dat ((eL eI) s24), .un, .un, .un, .un]) (fun (b25 : Int) => [(8, eI b25)]) G PassesOwn.never ho42 (it_R (n := (v3.1.length : Int)) G (chk_of hu23) (v_lenL (f := (eT eN)) (l := v3.1) G (v_var 4))) (fun b25 hb => tg1 8 G.nd) (fun s24 b25 t hb h => ?_) ?_)
      · show SsD _ [.dat ((eP (eT eN) (eT (eP eN (eO eN)))) x_task_here), .dat ((eP (eT (eP eN eI)) (eT (eP eN eI))) x_bulk_here), .dat ((eM (eO eN)) v1), .dat ((eM eI) v2), .dat ((eL (eT eN)) v3.1), .dat ((eL (eT eN)) v3.2), .dat ((eL eI) s24), .un, .dat (eI b25), .un, .un] _ _
        obtain ⟨o41, ho41, h⟩ := bnd h
        refine ss_cons (k_forS (g := (eT eN)) (fun (s26 : (List Int)) => [.dat ((eP (eT eN) (eT (eP eN (eO eN)))) x_task_here), .dat ((eP (eT (eP eN eI)) (eT (eP eN eI))) x_bulk_here), .dat ((eM (eO eN)) v1), .dat ((eM eI) v2), .dat ((eL (eT eN)) v3.1), .dat ((eL (eT eN)) v3.2), .dat ((eL eI) s26), .un, .dat (eI b25), .un, .un]) (fun (b27 : (List Nm)) => [(7, (eT eN) b27)]) G PassesOwn.never ho41 (it_L (f := (eT eN)) (l := v3.1) (v_var 4)) (fun b27 hb => tg1 7 G.nd) (fun s26 b27 t hb h => ?_) ?_)
        · show SsD _ [.dat ((eP (eT eN) (eT (eP eN (eO eN)))) x_task_here), .dat ((eP (eT (eP eN eI)) (eT (eP eN eI))) x_bulk_here), .dat ((eM (eO eN)) v1), .dat ((eM eI) v2), .dat ((eL (eT eN)) v3.1), .dat ((eL (eT eN)) v3.2), .dat ((eL eI) s26), .dat ((eT eN) b27), .dat (eI b25), .un, .un] _ _
          obtain ⟨v31, hv31, h⟩ := bnd h
          obtain ⟨v33, hv33, h⟩ := bnd h
          obtain ⟨v34, hv34, h⟩ := bnd h
          obtain ⟨s35, hs35, h⟩ := bnd h
          refine ss_join (δ1 := [.dat ((eP (eT eN) (eT (eP eN (eO eN)))) x_task_here), .dat ((eP (eT (eP eN eI)) (eT (eP eN eI))) x_bulk_here), .dat ((eM (eO eN)) v1), .dat ((eM eI) v2), .dat ((eL (eT eN)) v3.1), .dat ((eL (eT eN)) v3.2), .dat ((eL eI) s35), .dat ((eT eN) b27), .dat (eI b25), .un, .un]) (s_if (t_le (i := v33) (j := v34) (v_min (f := eI) (l := v31) (y := v33) G hv33 (((k_lcD (g := eN) (f := eI) [("_law_spot", 9)] (fun (b28 : Nm) => [(9, eN b28)]) G hv31 ((it_T (f := eN) (l := b27) (v_var 7))).l (.inl rfl) (fun s H C cl fp b28 hb => tg1 9 G.nd) (fun z H C cl fp b28 y32 G hb h => by show EvD _ [.dat ((eP (eT eN) (eT (eP eN (eO eN)))) x_task_here), .dat ((eP (eT (eP eN eI)) (eT (eP eN eI))) x_bulk_here), .dat ((eM (eO eN)) v1), .dat ((eM eI) v2), .dat ((eL (eT eN)) v3.1), .dat ((eL (eT eN)) v3.2), .dat ((eL eI) s26), .dat ((eT eN) b27), .dat (eI b25), .dat (eN b28), .un] _ _ [.dat ((eP (eT eN) (eT (eP eN (eO eN)))) x_task_here), .dat ((eP (eT (eP eN eI)) (eT (eP eN eI))) x_bulk_here), .dat ((eM (eO eN)) v1), .dat ((eM eI) v2), .dat ((eL (eT eN)) v3.1), .dat ((eL (eT eN)) v3.2), .dat ((eL eI) s26), .dat ((eT eN) b27), .dat (eI b25), .dat (eN b28), .un]; obtain ⟨v29, hv29, h⟩ := bnd h; obtain ⟨v30, hv30, h⟩ := bnd h; obtain rfl := Option.some.inj h; exact (v_lk (f := eI) (l := v29) (k := b28) (y := v30) G hv30 (v_dictT (f := eI) (l := x_bulk_here.2) (m := v29) G hv29 (v_snd (f := (eT (eP eN eI))) (g := (eT (eP eN eI))) (y := x_bulk_here) (v_var 1))) (v_var 9))))).n G.calm G.nd).ev) (v_max (f := eI) (l := s26) (y := v34) G hv34 (v_var 6))) (fun hc => ?_) (fun hc => ?_)) ?_
          · have h := cndT hs35 hc
            obtain ⟨v38, hv38, h⟩ := bnd h
            obtain ⟨u40, hu40, h⟩ := bnd h
            refine ss_cons (w_set 6 G ((n_catL (f := eI) (l := s26) (m := v38) (chk_of hu40) (v_var 6) (((k_lcD (g := eN) (f := eI) [("_law_spot", 9)] (fun (b36 : Nm) => [(9, eN b36)]) G hv38 ((it_T (f := eN) (l := b27) (v_var 7))).l (.inl rfl) (fun s H C cl fp b36 hb => tg1 9 G.nd) (fun z H C cl fp b36 y39 G hb h => by show EvD _ [.dat ((eP (eT eN) (eT (eP eN (eO eN)))) x_task_here), .dat ((eP (eT (eP eN eI)) (eT (eP eN eI))) x_bulk_here), .dat ((eM (eO eN)) v1), .dat ((eM eI) v2), .dat ((eL (eT eN)) v3.1), .dat ((eL (eT eN)) v3.2), .dat ((eL eI) s26), .dat ((eT eN) b27), .dat (eI b25), .dat (eN b36), .un] _ _ [.dat ((eP (eT eN) (eT (eP eN (eO eN)))) x_task_here), .dat ((eP (eT (eP eN eI)) (eT (eP eN eI))) x_bulk_here), .dat ((eM (eO eN)) v1), .dat ((eM eI) v2), .dat ((eL (eT eN)) v3.1), .dat ((eL (eT eN)) v3.2), .dat ((eL eI) s26), .dat ((eT eN) b27), .dat (eI b25), .dat (eN b36), .un]; obtain ⟨v37, hv37, h⟩ := bnd h; obtain rfl := Option.some.inj h; exact (v_lk (f := eI) (l := v2) (k := b36) (y := v37) G hv37 (v_var 3) (v_var 9))))).n G.calm G.nd).ev)).ev ?_)
            show SsD _ [.dat ((eP (eT eN) (eT (eP eN (eO eN)))) x_task_here), .dat ((eP (eT (eP eN eI)) (eT (eP eN eI))) x_bulk_here), .dat ((eM (eO eN)) v1), .dat ((eM eI) v2), .dat ((eL (eT eN)) v3.1), .dat ((eL (eT eN)) v3.2), .dat ((eL eI) (s26 ++ v38)), .dat ((eT eN) b27), .dat (eI b25), .un, .un] _ _
            obtain rfl := Option.some.inj h
            exact ss_nil rfl
          · have h := cndF hs35 hc
            obtain rfl := Option.some.inj h
            exact ss_nil rfl
          refine ss_forget 7 ?_
          obtain rfl := Option.some.inj h
          exact ss_nil rfl
        show SsD _ [.dat ((eP (eT eN) (eT (eP eN (eO eN)))) x_task_here), .dat ((eP (eT (eP eN eI)) (eT (eP eN eI))) x_bulk_here), .dat ((eM (eO eN)) v1), .dat ((eM eI) v2), .dat ((eL (eT eN)) v3.1), .dat ((eL (eT eN)) v3.2), .dat ((eL eI) o41), .un, .dat (eI b25), .un, .un] _ _
        refine ss_forget 8 ?_
        obtain rfl := Option.some.inj h
        exact ss_nil rfl
      show SsD _ [.dat ((eP (eT eN) (eT (eP eN (eO eN)))) x_task_here), .dat ((eP (eT (eP eN eI)) (eT (eP eN eI))) x_bulk_here), .dat ((eM (eO eN)) v1), .dat ((eM eI) v2), .dat ((eL (eT eN)) v3.1), .dat ((eL (eT eN)) v3.2), .dat ((eL eI) o42), .un, .un, .un, .un] _ _
      obtain ⟨v51, hv51, h⟩ := bnd h
      obtain rfl := Option.some.inj h
      exact ss_cons (s_ret (((k_lcTD (g := (eT eN)) (f := (eT eN)) [("_law_own", 10)] (fun (b43 : (List Nm)) => [(10, (eT eN) b43)]) G hv51 ((it_L (f := (eT eN)) (l := v3.1) (v_var 4))).l (.inl rfl) (fun s H C cl fp b43 hb => tg1 10 G.nd) (fun z H C cl fp b43 y52 G hb h => by show TvD _ [.dat ((eP (eT eN) (eT (eP eN (eO eN)))) x_task_here), .dat ((eP (eT (eP eN eI)) (eT (eP eN eI))) x_bulk_here), .dat ((eM (eO eN)) v1), .dat ((eM eI) v2), .dat ((eL (eT eN)) v3.1), .dat ((eL (eT eN)) v3.2), .dat ((eL eI) o42), .un, .un, .un, .dat ((eT eN) b43)] _ _ [.dat ((eP (eT eN) (eT (eP eN (eO eN)))) x_task_here), .dat ((eP (eT (eP eN eI)) (eT (eP eN eI))) x_bulk_here), .dat ((eM (eO eN)) v1), .dat ((eM eI) v2), .dat ((eL (eT eN)) v3.1), .dat ((eL (eT eN)) v3.2), .dat ((eL eI) o42), .un, .un, .un, .dat ((eT eN) b43)]; obtain ⟨v47, hv47, h⟩ := bnd h; obtain ⟨v49, hv49, h⟩ := bnd h; obtain ⟨v50, hv50, h⟩ := bnd h; obtain rfl := Option.some.inj h; exact (t_gt (i := v49) (j := v50) (v_min (f := eI) (l := v47) (y := v49) G hv49 (((k_lcD (g := eN) (f := eI) [("_law_spot", 9)] (fun (b44 : Nm) => [(9, eN b44)]) G hv47 ((it_T (f := eN) (l := b43) (v_var 10))).l (.inl rfl) (fun s H C cl fp b44 hb => tg1 9 G.nd) (fun z H C cl fp b44 y48 G hb h => by show EvD _ [.dat ((eP (eT eN) (eT (eP eN (eO eN)))) x_task_here), .dat ((eP (eT (eP eN eI)) (eT (eP eN eI))) x_bulk_here), .dat ((eM (eO eN)) v1), .dat ((eM eI) v2), .dat ((eL (eT eN)) v3.1), .dat ((eL (eT eN)) v3.2), .dat ((eL eI) o42), .un, .un, .dat (eN b44), .dat ((eT eN) b43)] _ _ [.dat ((eP (eT eN) (eT (eP eN (eO eN)))) x_task_here), .dat ((eP (eT (eP eN eI)) (eT (eP eN eI))) x_bulk_here), .dat ((eM (eO eN)) v1), .dat ((eM eI) v2), .dat ((eL (eT eN)) v3.1), .dat ((eL (eT eN)) v3.2), .dat ((eL eI) o42), .un, .un, .dat (eN b44), .dat ((eT eN) b43)]; obtain ⟨v45, hv45, h⟩ := bnd h; obtain ⟨v46, hv46, h⟩ := bnd h; obtain rfl := Option.some.inj h; exact (v_lk (f := eI) (l := v45) (k := b44) (y := v46) G hv46 (v_dictT (f := eI) (l := x_bulk_here.2) (m := v45) G hv45 (v_snd (f := (eT (eP eN eI))) (g := (eT (eP eN eI))) (y := x_bulk_here) (v_var 1))) (v_var 9))))).n G.calm G.nd).ev) (v_max (f := eI) (l := o42) (y := v50) G hv50 (v_var 6)))) (fun z H C cl fp b43 y52 G hb _ h => by show EvD _ [.dat ((eP (eT eN) (eT (eP eN (eO eN)))) x_task_here), .dat ((eP (eT (eP eN eI)) (eT (eP eN eI))) x_bulk_here), .dat ((eM (eO eN)) v1), .dat ((eM eI) v2), .dat ((eL (eT eN)) v3.1), .dat ((eL (eT eN)) v3.2), .dat ((eL eI) o42), .un, .un, .un, .dat ((eT eN) b43)] _ _ [.dat ((eP (eT eN) (eT (eP eN (eO eN)))) x_task_here), .dat ((eP (eT (eP eN eI)) (eT (eP eN eI))) x_bulk_here), .dat ((eM (eO eN)) v1), .dat ((eM eI) v2), .dat ((eL (eT eN)) v3.1), .dat ((eL (eT eN)) v3.2), .dat ((eL eI) o42), .un, .un, .un, .dat ((eT eN) b43)]; obtain rfl := Option.some.inj h; exact (v_var 10)))).n G.calm G.nd).ev ⟨rfl, (by first | exact trivial | exact ⟨rfl, trivial⟩)⟩)
end
end ND

/-! NDsame -/
set_option Elab.async false
set_option linter.all false
set_option maxRecDepth 100000
set_option maxHeartbeats 4000000
namespace ND
open PySem PySem.Spec PyProof.Rows L2 NA
def samOk : Nat → D → Bool
  | n + 1, .tup ds => ds.all (samOk n)
  | n + 1, .lst ds => ds.all (samOk n)
  | _, .str _ => true
  | _, .int _ => true
  | _, .bl _ => true
  | _, .non => true
  | _, _ => false
def T_same (n : Nat) : FT := fun as r as' => ∃ d, samOk n d = true ∧ as = [.dat d, .dat d] ∧ r = .bl true ∧ as' = as
theorem cmp_tt {A : Type} : ∀ l : List A, cmpM (fun _ => some true) (fun _ => some true) l = some (l.map fun _ => true)
  | [] => rfl
  | a :: l => by show (cmpM _ _ l).bind _ = _; rw [cmp_tt l]; rfl
theorem all_tt {A : Type} : ∀ l : List A, (l.map fun _ => true).all id = true
  | [] => rfl
  | a :: l => by rw [List.map_cons, List.all_cons, all_tt l]; rfl
theorem zip_self' {A : Type} : ∀ l : List A, l.zip l = l.map fun a => (a, a)
  | [] => rfl
  | a :: l => by rw [List.zip_cons_cons, List.map_cons, zip_self' l]
section
variable {P : Program} {w : World} {K : PySem.W.Frag} {mg : Str → Option Value} {base : Heap}
theorem sc_same : FnScope ["_law_got", "_law_due", "_law_mine", "_law_its", "_law_lot_so"] ["_law_got", "_law_due"] (defScope s__law_same) := ⟨rfl, rfl, rfl, by decide +kernel, rfl, by decide +kernel, by decide +kernel⟩
theorem isi1 {X : Cx} {δ : DEnv} {e : Expr} {pos p p2 : Pos} {d : D} {x : Str} {T : String} {r : Bool} (G : Cg X) (ha : EvD X δ e d δ) (hk : kitB (tyD d) T = some r) (ht : tyKnown d = true) (hmx : X.mg x = none) (hbx : bootBuiltins x = some (.type T))
    (hn : x ≠ "__name__") (hd : (x == ("__debug__" : Str)) = false) (hg : Gl X "isinstance" := by rfl) (hg2 : Gl X x := by rfl) (hs : starEach (e :: [.Name x p2]) X.env = (false, eval e X.env) :: starEach [.Name x p2] X.env := by rfl) (hs2 : starEach (.Name x p2 :: []) X.env = (false, eval (.Name x p2) X.env) :: starEach [] X.env := by rfl) (hpl : (backTo pos (starEach [.Name x p2] X.env)).any (·.1) = false := by rfl) :
    EvD X δ (.Call (.Name "isinstance" p) [e, .Name x p2] [] pos) (.bl r) δ :=
  e_isi hg G.fr.isi (a_cons ha (a_cons (e_ty (T := T) hg2 hmx hbx hn hd) a_nil hs2) hs) hk ht hs hpl
theorem isi2 {X : Cx} {δ : DEnv} {e : Expr} {pos p p1 p2 p3 : Pos} {k : Nat} {d : D} {x y : Str} {T U : String} {r q : Bool} (G : Cg X) (ha : EvD X δ e d δ) (hk : kitB (tyD d) T = some r) (hk2 : kitB (tyD d) U = some q) (ht : tyKnown d = true)
    (hmx : X.mg x = none) (hbx : bootBuiltins x = some (.type T)) (hnx : x ≠ "__name__") (hdx : (x == ("__debug__" : Str)) = false) (hmy : X.mg y = none) (hby : bootBuiltins y = some (.type U)) (hny : y ≠ "__name__") (hdy : (y == ("__debug__" : Str)) = false)
    (hg : Gl X "isinstance" := by rfl) (hg1 : Gl X x := by rfl) (hg2 : Gl X y := by rfl) (hs0 : starEach (.Name x p1 :: [.Name y p2]) X.env = (false, eval (.Name x p1) X.env) :: starEach [.Name y p2] X.env := by rfl) (hs1 : starEach (.Name y p2 :: []) X.env = (false, eval (.Name y p2) X.env) :: starEach [] X.env := by rfl)
    (hs2 : starEach (.Tuple [.Name x p1, .Name y p2] k p3 :: []) X.env = (false, eval (.Tuple [.Name x p1, .Name y p2] k p3) X.env) :: starEach [] X.env := by rfl) (hs : starEach (e :: [.Tuple [.Name x p1, .Name y p2] k p3]) X.env = (false, eval e X.env) :: starEach [.Tuple [.Name x p1, .Name y p2] k p3] X.env := by rfl)
    (hpl : (backTo pos (starEach [.Tuple [.Name x p1, .Name y p2] k p3] X.env)).any (·.1) = false := by rfl) :
    EvD X δ (.Call (.Name "isinstance" p) [e, .Tuple [.Name x p1, .Name y p2] k p3] [] pos) (.bl (r || q)) δ :=
  e_isiT hg G.fr.isi (a_cons ha (a_cons (e_tup (a_cons (e_ty (T := T) hg1 hmx hbx hnx hdx) (a_cons (e_ty (T := U) hg2 hmy hby hny hdy) a_nil hs1) hs0) (show 2 ≤ sizeLine by decide)) a_nil hs2) hs) hk hk2 ht hs hpl
theorem can_same (F : Def1 K mg "_law_same" s__law_same) (fr : Fre mg) (n : Nat) : Can P w K mg base "_law_same" ["_law_got", "_law_due"] (n + 1) (T_same n) := by
  have flat : ∀ {f : Addr} {cdv : Value} {A : Around} {outer : List Env} {s0 : Shared} {H : Hp} {E : XK} {d : D}, Cg (CxB P w K mg base ["_law_got", "_law_due", "_law_mine", "_law_its", "_law_lot_so"] "_law_same" s__law_same f cdv A outer s0 H E) → (∀ ds, d ≠ .tup ds) → (∀ ds, d ≠ .lst ds) → samOk 0 d = true →
      SsD (CxB P w K mg base ["_law_got", "_law_due", "_law_mine", "_law_its", "_law_lot_so"] "_law_same" s__law_same f cdv A outer s0 H E) [.dat d, .dat d, .un, .un, .un] (defBody s__law_same) ⟨fun δ' => D.bl true = .non ∧ parsOk [.dat d, .dat d] δ', fun r δ' => r = .bl true ∧ parsOk [.dat d, .dat d] δ'⟩ := by
    intro f cdv A outer s0 H E d G h1 h2 h3
    cases d with
    | non =>
      have dqq : deq .non .non = true := by show PyData.eqv .none .none = true; simp [PyData.eqv]
      show SsD _ [.dat .non, .dat .non, .un, .un, .un] _ _
      refine ss_cons (s_if (t_val (p := false) (isi2 (T := "list") (U := "tuple") (r := false) (q := false) G (v_var 1) rfl rfl rfl G.fr.list (by decide +kernel) (by decide) (by decide) G.fr.tuple (by decide +kernel) (by decide) (by decide))) (fun e => by cases e) (fun _ => ss_nil ?_))
      show SsD _ [.dat .non, .dat .non, .un, .un, .un] _ _
      refine ss_cons (s_if (t_val (p := false) (isi1 (T := "dict") G (v_var 1) rfl rfl G.fr.dict (by decide +kernel) (by decide) (by decide))) (fun e => by cases e) (fun _ => ss_nil ?_))
      show SsD _ [.dat .non, .dat .non, .un, .un, .un] _ _
      refine ss_cons (s_if (t_w (w_or (p := true) (q := true) (t_isN (d := .non) (v_var 1)) (fun e => by cases e))) (fun _ => ?_) (fun e => by cases e))
      refine ss_cons (s_ret (d := .bl (true && (decide (false = false) && (decide (true = true))))) (δ1 := [.dat .non, .dat .non, .un, .un, .un]) ?_ ⟨rfl, trivial⟩)
      refine e_and (EvD.cast (e_eq G.hu (v_var 0) (v_var 1) (by rfl) (by rfl)) (congrArg D.bl dqq)) (fun _ => e_and (v_eq (f := eB) (y := false) (z := false) G (isi1 (T := "bool") G (v_var 0) rfl rfl G.fr.bool (by decide +kernel) (by decide) (by decide)) (isi1 (T := "bool") G (v_var 1) rfl rfl G.fr.bool (by decide +kernel) (by decide) (by decide))) (fun _ => e_one (v_eq (f := eB) (y := true) (z := true) G (e_isN (d := .non) (v_var 0)) (e_isN (d := .non) (v_var 1)))))
    | bl b =>
      have dqq : deq (.bl b) (.bl b) = true := by show PyData.eqv (.bool b) (.bool b) = true; simp [PyData.eqv]
      show SsD _ [.dat (.bl b), .dat (.bl b), .un, .un, .un] _ _
      refine ss_cons (s_if (t_val (p := false) (isi2 (T := "list") (U := "tuple") (r := false) (q := false) G (v_var 1) rfl rfl rfl G.fr.list (by decide +kernel) (by decide) (by decide) G.fr.tuple (by decide +kernel) (by decide) (by decide))) (fun e => by cases e) (fun _ => ss_nil ?_))
      show SsD _ [.dat (.bl b), .dat (.bl b), .un, .un, .un] _ _
      refine ss_cons (s_if (t_val (p := false) (isi1 (T := "dict") G (v_var 1) rfl rfl G.fr.dict (by decide +kernel) (by decide) (by decide))) (fun e => by cases e) (fun _ => ss_nil ?_))
      show SsD _ [.dat (.bl b), .dat (.bl b), .un, .un, .un] _ _
      refine ss_cons (s_if (t_w (w_or (p := false) (q := true) (t_isN (d := (.bl b)) (v_var 1)) (fun _ => w_or1 (t_val (p := true) (isi2 (T := "bool") (U := "str") (r := true) (q := false) G (v_var 1) rfl rfl rfl G.fr.bool (by decide +kernel) (by decide) (by decide) G.fr.str (by decide +kernel) (by decide) (by decide)))))) (fun _ => ?_) (fun e => by cases e))
      refine ss_cons (s_ret (d := .bl (true && (decide (true = true) && (decide (false = false))))) (δ1 := [.dat (.bl b), .dat (.bl b), .un, .un, .un]) ?_ ⟨rfl, trivial⟩)
      refine e_and (EvD.cast (e_eq G.hu (v_var 0) (v_var 1) (by rfl) (by rfl)) (congrArg D.bl dqq)) (fun _ => e_and (v_eq (f := eB) (y := true) (z := true) G (isi1 (T := "bool") G (v_var 0) rfl rfl G.fr.bool (by decide +kernel) (by decide) (by decide)) (isi1 (T := "bool") G (v_var 1) rfl rfl G.fr.bool (by decide +kernel) (by decide) (by decide))) (fun _ => e_one (v_eq (f := eB) (y := false) (z := false) G (e_isN (d := (.bl b)) (v_var 0)) (e_isN (d := (.bl b)) (v_var 1)))))
    | str b =>
      have dqq : deq (.str b) (.str b) = true := by show PyData.eqv (.str b) (.str b) = true; simp [PyData.eqv]
      show SsD _ [.dat (.str b), .dat (.str b), .un, .un, .un] _ _
      refine ss_cons (s_if (t_val (p := false) (isi2 (T := "list") (U := "tuple") (r := false) (q := false) G (v_var 1) rfl rfl rfl G.fr.list (by decide +kernel) (by decide) (by decide) G.fr.tuple (by decide +kernel) (by decide) (by decide))) (fun e => by cases e) (fun _ => ss_nil ?_))
      show SsD _ [.dat (.str b), .dat (.str b), .un, .un, .un] _ _
      refine ss_cons (s_if (t_val (p := false) (isi1 (T := "dict") G (v_var 1) rfl rfl G.fr.dict (by decide +kernel) (by decide) (by decide))) (fun e => by cases e) (fun _ => ss_nil ?_))
      show SsD _ [.dat (.str b), .dat (.str b), .un, .un, .un] _ _
      refine ss_cons (s_if (t_w (w_or (p := false) (q := true) (t_isN (d := (.str b)) (v_var 1)) (fun _ => w_or1 (t_val (p := true) (isi2 (T := "bool") (U := "str") (r := false) (q := true) G (v_var 1) rfl rfl rfl G.fr.bool (by decide +kernel) (by decide) (by decide) G.fr.str (by decide +kernel) (by decide) (by decide)))))) (fun _ => ?_) (fun e => by cases e))
      refine ss_cons (s_ret (d := .bl (true && (decide (false = false) && (decide (false = false))))) (δ1 := [.dat (.str b), .dat (.str b), .un, .un, .un]) ?_ ⟨rfl, trivial⟩)
      refine e_and (EvD.cast (e_eq G.hu (v_var 0) (v_var 1) (by rfl) (by rfl)) (congrArg D.bl dqq)) (fun _ => e_and (v_eq (f := eB) (y := false) (z := false) G (isi1 (T := "bool") G (v_var 0) rfl rfl G.fr.bool (by decide +kernel) (by decide) (by decide)) (isi1 (T := "bool") G (v_var 1) rfl rfl G.fr.bool (by decide +kernel) (by decide) (by decide))) (fun _ => e_one (v_eq (f := eB) (y := false) (z := false) G (e_isN (d := (.str b)) (v_var 0)) (e_isN (d := (.str b)) (v_var 1)))))
    | int b =>
      have dqq : deq (.int b) (.int b) = true := by show PyData.eqv (.int b) (.int b) = true; simp [PyData.eqv]
      show SsD _ [.dat (.int b), .dat (.int b), .un, .un, .un] _ _
      refine ss_cons (s_if (t_val (p := false) (isi2 (T := "list") (U := "tuple") (r := false) (q := false) G (v_var 1) rfl rfl rfl G.fr.list (by decide +kernel) (by decide) (by decide) G.fr.tuple (by decide +kernel) (by decide) (by decide))) (fun e => by cases e) (fun _ => ss_nil ?_))
      show SsD _ [.dat (.int b), .dat (.int b), .un, .un, .un] _ _
      refine ss_cons (s_if (t_val (p := false) (isi1 (T := "dict") G (v_var 1) rfl rfl G.fr.dict (by decide +kernel) (by decide) (by decide))) (fun e => by cases e) (fun _ => ss_nil ?_))
      show SsD _ [.dat (.int b), .dat (.int b), .un, .un, .un] _ _
      refine ss_cons (s_if (t_w (w_or (p := false) (q := false) (t_isN (d := (.int b)) (v_var 1)) (fun _ => w_or1 (t_val (p := false) (isi2 (T := "bool") (U := "str") (r := false) (q := false) G (v_var 1) rfl rfl rfl G.fr.bool (by decide +kernel) (by decide) (by decide) G.fr.str (by decide +kernel) (by decide) (by decide)))))) (fun e => by cases e) (fun _ => ss_nil ?_))
      show SsD _ [.dat (.int b), .dat (.int b), .un, .un, .un] _ _
      refine ss_cons (s_ret (d := .bl (true && (!false && true))) (δ1 := [.dat (.int b), .dat (.int b), .un, .un, .un]) ?_ ⟨rfl, trivial⟩)
      refine e_and (isi1 (T := "int") G (v_var 0) rfl rfl G.fr.int (by decide +kernel) (by decide) (by decide)) (fun _ => e_and (e_not (isi1 (T := "bool") G (v_var 0) rfl rfl G.fr.bool (by decide +kernel) (by decide) (by decide))) (fun _ => e_one (EvD.cast (e_eq G.hu (v_var 0) (v_var 1) (by rfl) (by rfl)) (congrArg D.bl dqq))))
    | tup ds => exact absurd rfl (h1 ds)
    | lst ds => exact absurd rfl (h2 ds)
    | _ => cases h3
  induction n with
  | zero =>
    refine can_of F sc_same (by decide) fr (fun f fd h => h.bindsN fun _ _ _ _ _ _ us hl => match us, hl with | [_, _], _ => rfl) ?_ ?_
    · rintro as r as' ⟨d, h, rfl, rfl, rfl⟩
      exact shp_dat [d, d] rfl rfl rfl
    · rintro f cdv A outer s0 H E as r as' hr G ⟨d, h, rfl, rfl, rfl⟩
      exact flat G (fun ds e => by subst e; cases h) (fun ds e => by subst e; cases h) h
  | succ n ih =>
    refine can_of F sc_same (by decide) fr (fun f fd h => h.bindsN fun _ _ _ _ _ _ us hl => match us, hl with | [_, _], _ => rfl) ?_ ?_
    · rintro as r as' ⟨d, h, rfl, rfl, rfl⟩
      exact shp_dat [d, d] rfl rfl rfl
    · rintro f cdv A outer s0 H E as r as' hr G ⟨d, h, rfl, rfl, rfl⟩
      replace ih := ih.cal hr (N := ["_law_got", "_law_due", "_law_mine", "_law_its", "_law_lot_so"]) (cdv := cdv) (outer := outer) (H := H) (E := E)
      cases d with
      | lst ds =>
        have hall : ∀ b ∈ ds, samOk n b = true := fun b hb => List.all_eq_true.mp (show ds.all (samOk n) = true from h) b hb
        have ez : ((ds.zip ds).map fun q => D.sft [q.1, q.2]) = ds.map fun d => D.sft [d, d] := by rw [zip_self', List.map_map]; rfl
        show SsD _ [.dat (.lst ds), .dat (.lst ds), .un, .un, .un] _ _
        refine ss_cons (s_if (t_val (p := true) (isi2 (T := "list") (U := "tuple") (r := true) (q := false) G (v_var 1) rfl rfl rfl G.fr.list (by decide +kernel) (by decide) (by decide) G.fr.tuple (by decide +kernel) (by decide) (by decide))) (fun _ => ?_) (fun e => by cases e))
        refine ss_cons (s_if (t_w (w_or (p := false) (q := false) (vt_ne (f := eB) (y := true) (z := true) G (isi1 (T := "list") G (v_var 0) rfl rfl G.fr.list (by decide +kernel) (by decide) (by decide)) (isi1 (T := "list") G (v_var 1) rfl rfl G.fr.list (by decide +kernel) (by decide) (by decide))) (fun _ => w_or1 (vt_ne (f := eB) (y := false) (z := false) G (isi1 (T := "tuple") G (v_var 0) rfl rfl G.fr.tuple (by decide +kernel) (by decide) (by decide)) (isi1 (T := "tuple") G (v_var 1) rfl rfl G.fr.tuple (by decide +kernel) (by decide) (by decide)))))) (fun e => by cases e) (fun _ => ss_nil ?_))
        show SsD _ [.dat (.lst ds), .dat (.lst ds), .un, .un, .un] _ _
        refine ss_cons (s_ret (d := .bl (true && true)) (δ1 := [.dat (.lst ds), .dat (.lst ds), .un, .un, .un]) ?_ ⟨rfl, trivial⟩)
        refine e_and (EvD.cast (v_eq (f := eI) (y := (ds.length : Int)) (z := (ds.length : Int)) G (e_lenL (by rfl) G.fr.len (v_var 0)) (e_lenL (by rfl) G.fr.len (v_var 1))) (by simp)) (fun _ => e_one ?_)
        refine (v_all (bs := ds.map fun _ => true) G (k_lc (f := eB) (g := fun d : D => D.sft [d, d]) (l := ds) [("_law_mine", 2), ("_law_its", 3)] (fun d => [(2, d), (3, d)]) G (cmp_tt ds) (by rw [← ez]; exact ItD.l (i_zip (by rfl) G.fr.zip (a_cons (v_var 0) (a_cons (v_var 1) a_nil)))) (.inl rfl) (fun s H C cl fp b hb => tg2S 2 3 G.calm G.nd) (fun z H C cl fp b y G hb h => ?_)).ev).cast (by rw [all_tt])
        cases h
        show EvD _ [.dat (.lst ds), .dat (.lst ds), .dat b, .dat b, .un] _ _ [.dat (.lst ds), .dat (.lst ds), .dat b, .dat b, .un]
        exact e_call ih.blk rfl (a_cons (v_var 2) (a_cons (v_var 3) a_nil)) ⟨b, hall b hb, rfl, rfl, rfl⟩
      | tup ds =>
        have hall : ∀ b ∈ ds, samOk n b = true := fun b hb => List.all_eq_true.mp (show ds.all (samOk n) = true from h) b hb
        have ez : ((ds.zip ds).map fun q => D.sft [q.1, q.2]) = ds.map fun d => D.sft [d, d] := by rw [zip_self', List.map_map]; rfl
        show SsD _ [.dat (.tup ds), .dat (.tup ds), .un, .un, .un] _ _
        refine ss_cons (s_if (t_val (p := true) (isi2 (T := "list") (U := "tuple") (r := false) (q := true) G (v_var 1) rfl rfl rfl G.fr.list (by decide +kernel) (by decide) (by decide) G.fr.tuple (by decide +kernel) (by decide) (by decide))) (fun _ => ?_) (fun e => by cases e))
        refine ss_cons (s_if (t_w (w_or (p := false) (q := false) (vt_ne (f := eB) (y := false) (z := false) G (isi1 (T := "list") G (v_var 0) rfl rfl G.fr.list (by decide +kernel) (by decide) (by decide)) (isi1 (T := "list") G (v_var 1) rfl rfl G.fr.list (by decide +kernel) (by decide) (by decide))) (fun _ => w_or1 (vt_ne (f := eB) (y := true) (z := true) G (isi1 (T := "tuple") G (v_var 0) rfl rfl G.fr.tuple (by decide +kernel) (by decide) (by decide)) (isi1 (T := "tuple") G (v_var 1) rfl rfl G.fr.tuple (by decide +kernel) (by decide) (by decide)))))) (fun e => by cases e) (fun _ => ss_nil ?_))
        show SsD _ [.dat (.tup ds), .dat (.tup ds), .un, .un, .un] _ _
        refine ss_cons (s_ret (d := .bl (true && true)) (δ1 := [.dat (.tup ds), .dat (.tup ds), .un, .un, .un]) ?_ ⟨rfl, trivial⟩)
        refine e_and (EvD.cast (v_eq (f := eI) (y := (ds.length : Int)) (z := (ds.length : Int)) G (e_lenT (by rfl) G.fr.len (v_var 0)) (e_lenT (by rfl) G.fr.len (v_var 1))) (by simp)) (fun _ => e_one ?_)
        refine (v_all (bs := ds.map fun _ => true) G (k_lc (f := eB) (g := fun d : D => D.sft [d, d]) (l := ds) [("_law_mine", 2), ("_law_its", 3)] (fun d => [(2, d), (3, d)]) G (cmp_tt ds) (by rw [← ez]; exact ItD.l (i_zipT (by rfl) G.fr.zip (a_cons (v_var 0) (a_cons (v_var 1) a_nil)))) (.inl rfl) (fun s H C cl fp b hb => tg2S 2 3 G.calm G.nd) (fun z H C cl fp b y G hb h => ?_)).ev).cast (by rw [all_tt])
        cases h
        show EvD _ [.dat (.tup ds), .dat (.tup ds), .dat b, .dat b, .un] _ _ [.dat (.tup ds), .dat (.tup ds), .dat b, .dat b, .un]
        exact e_call ih.blk rfl (a_cons (v_var 2) (a_cons (v_var 3) a_nil)) ⟨b, hall b hb, rfl, rfl, rfl⟩
      | _ => exact flat G (fun ds e => by cases e) (fun ds e => by cases e) (by cases n <;> first | exact h | cases h)
end
end ND

/-! NDknot -/
set_option Elab.async false
set_option linter.all false
set_option maxRecDepth 100000
set_option maxHeartbeats 4000000
namespace ND
open PySem PySem.Spec PyProof.Rows L2 NA
def reach_n : Nat → Job → Sz → List (Nm × Nm) → Int → Option Bool
  | 0 => fun _ _ _ _ => none
  | n + 1 => m__law_reach (reach_n n)
section
variable {P : Program} {w : World} {K : PySem.W.Frag} {mg : Str → Option Value} {base : Heap}
theorem can_reach_n (F : Def1 K mg "_law_reach" s__law_reach) (fr : Fre mg) (c1 : Can P w K mg base "_law_goal" ["_law_task_here"] 1 T__law_goal) (c2 : Can P w K mg base "_law_can" ["_law_task_here", "_law_yard_here", "_law_haul"] 2 T__law_can) (c3 : Can P w K mg base "_law_fits" ["_law_bulk_here", "_law_mate", "_law_spot"] 1 T__law_fits) (c4 : Can P w K mg base "_law_done" ["_law_task_here", "_law_yard_here", "_law_haul"] 1 T__law_done) :
    ∀ n, Can P w K mg base "_law_reach" ["_law_task_here", "_law_bulk_here", "_law_yard_here", "_law_left_so"] (20 + n) (T__law_reach (reach_n n)) := by
  intro n
  induction n with
  | zero =>
    refine Can.mono (j := 1) ?_ (by omega)
    refine can_of F sc__law_reach (by decide) fr (fun f fd h => h.bindsN fun _ _ _ _ _ _ us hl => match us, hl with | [_, _, _, _], _ => rfl) ?_ ?_
    · rintro as r as' ⟨_, _, _, _, _, h, _⟩
      cases h
    · rintro f cdv A outer s0 H E as r as' hr G ⟨_, _, _, _, _, h, _⟩
      cases h
  | succ n ih => exact can__law_reach F fr (reach_n n) (20 + n) (by omega) c1 c2 c3 ih c4
theorem can_hole_n (F : Def1 K mg "hole_moves" s_hole_moves) (F2 : Def1 K mg "ring_moves" s_ring_moves) (fr : Fre mg) (c1 : Can P w K mg base "tables_of" ["sizes"] 5 T_tables_of) :
    ∀ n, Can P w K mg base "hole_moves" ["sizes", "hole", "left"] (20 + 2 * n) (T_hole_moves (hole_n n)) := by
  intro n
  induction n with
  | zero =>
    refine Can.mono (j := 1) ?_ (by omega)
    refine can_of F sc_hole_moves (by decide) fr (fun f fd h => h.bindsN fun _ _ _ _ _ _ us hl => match us, hl with | [_, _, _], _ => rfl) ?_ ?_
    · rintro as r as' ⟨_, _, _, _, h, _⟩
      cases h
    · rintro f cdv A outer s0 H E as r as' hr G ⟨_, _, _, _, h, _⟩
      cases h
  | succ n ih =>
    have q := can_ring_moves F2 fr (hole_n n) (20 + 2 * n) (by omega) c1 ih
    exact can_hole_moves F fr (m_ring_moves (hole_n n)) (20 + 2 * n + 1) (by omega) c1 q
/-! ### a def that returns a new list -/
theorem fn_okN {x : Str} {st : Stmt} {f : Addr} {fd : FuncData} {N ps : List Str} {k : Nat} {T : List SD → List D → Prop} {s1 : Stmt} {e : Expr} {pos : Pos} (F : Fun K x x st f fd) (S : FnScope N ps (defScope st)) (hN : ps.length ≤ N.length) (hst : defBody st = [s1, .Return (some e) pos])
    (hT : ∀ as ds, T as ds → as.length = ps.length)
    (hbody : ∀ (cdv : Value) (A : Around) (outer : List Env) (s : Shared) (H : Hp) (E : XK) (as : List SD) (ds : List D), Room k (A.deeper (envOfC x (defScope st) s.heap.objs.size f cdv)) → T as ds → (∀ s ∈ as, kd s = 1) →
      ∃ δ1 δ2, SvD (CxB P w K mg base N x st f cdv A outer s H E) (starts N as) s1 ⟨fun δ' => δ' = δ1, fun _ _ => False⟩ ∧ NvD (CxB P w K mg base N x st f cdv A outer s H E) δ1 e ds δ2 ∧ ∀ i, isOwn (look δ1 i) = false) : FnOk P w K mg base CX0 (k + 1) f fd ps (spN K T) := by
  refine F.ok S (fun vs H Q E h => ?_) (fun cdv A outer s H vs Q E hr h => ?_)
  · obtain ⟨as, ds, F1, α, ht, _, st1, _⟩ := h
    have q := st1.len
    rw [List.length_map] at q
    rw [q]; exact hT _ _ ht
  · obtain ⟨as, ds, F1, α, ht, hk, st1, kk⟩ := h
    obtain ⟨δ1, δ2, hs, hn, hno⟩ := hbody cdv A outer s H E as ds hr ht hk
    rw [hst]
    refine ⟨_, pss_cons ps_tw (pss_one (ps_ret pe_tw)), ?_⟩
    have noO : ∀ {α : Nat → Addr} {b : Addr}, ¬ OwnA α (starts N as) b := fun ⟨i, h1, _⟩ => by
      rw [look_starts] at h1
      have gen : ∀ (as : List SD) (i : Nat), (∀ s ∈ as, kd s = 1) → isOwn (look as i) = false := by
        intro as
        induction as with
        | nil => intro i _; rfl
        | cons s r ih =>
          intro i h
          cases i with
          | zero =>
            have := h s List.mem_cons_self
            cases s <;> first | rfl | cases this
          | succ i => exact ih i fun u hu => h u (List.mem_cons_of_mem _ hu)
      rw [gen as i hk] at h1; cases h1
    have noO1 : ∀ {α : Nat → Addr} {b : Addr}, ¬ OwnA α δ1 b := fun ⟨i, h1, _⟩ => by rw [hno i] at h1; cases h1
    refine hs.run α _ H F1 { nx := fun σ' H' => tRet (twE (CxB P w K mg base N x st f cdv A outer s H E) e) { nx := fun _ H' => Q .non H', rt := Q } σ' H', rt := Q } (st1.starts (by rw [hT _ _ ht]; exact hN)) (fun α' σ' H' F' δ' hp st' re => ?_) (fun v α' σ' H' F' d δ' hp => hp.elim)
    subst hp
    refine hn.run α' σ' H' F' _ st' fun a ws F2 H2 ha hF sp st2 hl r => ?_
    have hh : ∀ b o, H b = some o → H2 b = some o := fun b o q => sp.hh b o (re.hh b o q noO) noO1
    have ha0 : H a = none := by
      cases q : H a with
      | none => rfl
      | some o => exact absurd ha (re.kp a (by rw [q]; simp))
    exact kk a ws F2 H2 ha0 hF ⟨re.ff.trans sp.ff, fun b o q _ => hh b o q, (fun b q z => by
      cases e : H b with
      | none => exact q e
      | some o => rw [hh b o e] at z; cases z), fun b q f => sp.nw b (re.kp b q) (re.nw b q f noO)⟩ st2.fh hl r
end
end ND

/-! NDexc -/
set_option Elab.async false
set_option linter.all false
set_option maxRecDepth 100000
set_option maxHeartbeats 4000000
namespace ND
open PySem PySem.Spec PyProof.Rows L2 NA
section
variable {X : Cx} {C : Addr} {bmB : List Value} {B newId initId : String}
/-- X() -/
theorem pmk_own0 {x : Str} {p pos : Pos} (F : ExcBaseFacts B newId initId bmB) (q : PySem.W.excIn X.K C bmB newId = true) (gC : X.mg x = some (.ref C)) (kC : PySem.W.keepIn X.K (.ref C) = true) (r : Raises X (.ref C)) (hg : Gl X x)
    (hdb : (x == ("__debug__" : Str)) = false := by decide) : PMk X (.Call (.Name x p) [] [] pos) (fun _ H Q => Q (.ref C) none H) := by
  intro pins s σ H Q I h
  refine wpAny_Call_Name_kw (ld_glob I hg gC ?_ hdb)
  refine PySem.W.callWith_K0 I.kIn kC ?_
  show wpAny _ _ (call (.ref C) []) _ _ _
  obtain ⟨bm, N, nm, qn, bs, hdct, sn, sub, ab, col, dd, k0, k1, k2, k3, k5, mN, hC, hN, hni, T⟩ := exc_obj I.kIn q
  refine wpAny_call_exc_subT F T hC hN hni (fun h' e hm => ?_) (Nat.zero_le _)
  exact mk_of I hm r h (I.hok.gone hm.new)
end
end ND
namespace ND
open PySem PySem.Spec PyProof.Rows L2 NA
section
variable {P : Program} {w : World} {K : PySem.W.Frag} {mg : Str → Option Value} {base : Heap} {CX : CXT} {k : Nat} {f : Addr} {fd : FuncData} {ps : List Str} {sp sp1 sp2 : Sp}
/-- what lets nothing out keeps its promise where something may come out -/
theorem FnOk.toX (F : FnOk P w K mg base CX0 k f fd ps sp) : FnOk P w K mg base CX k f fd ps sp := by
  refine ⟨F.len, fun A outer s H args us vs Q E hr he hb hv hs => ?_⟩
  refine codeAny_mono (F.run A outer s H args us vs Q E hr he hb hv hs) fun r s' h => ?_
  cases r with
  | ok fl => cases fl <;> exact h
  | error e => exact h.elim
theorem FnOk.or (F1 : FnOk P w K mg base CX k f fd ps sp1) (F2 : FnOk P w K mg base CX k f fd ps sp2) : FnOk P w K mg base CX k f fd ps (fun vs H Q E => sp1 vs H Q E ∨ sp2 vs H Q E) := by
  refine ⟨fun vs H Q E h => h.elim (F1.len vs H Q E) (F2.len vs H Q E), fun A outer s H args us vs Q E hr he hb hv hs => ?_⟩
  rcases hs with hs | hs
  · exact F1.run A outer s H args us vs Q E hr he hb hv hs
  · exact F2.run A outer s H args us vs Q E hr he hb hv hs
end
end ND
namespace ND
open PySem PySem.Spec PyProof.Rows L2 NA
section
variable {P : Program} {w : World} {K : PySem.W.Frag} {mg : Str → Option Value} {base : Heap} {C : Addr} {bmB : List Value} {B newId initId : String}
/-- what the module holds of NoPlan -/
structure NoP (K : PySem.W.Frag) (mg : Str → Option Value) (C : Addr) (B newId initId : String) (bmB : List Value) : Prop where
  F : ExcBaseFacts B newId initId bmB
  q : PySem.W.excIn K C bmB newId = true
  gC : mg "NoPlan" = some (.ref C)
  kC : PySem.W.keepIn K (.ref C) = true
  r1 : PySem.W.subIn K (.ref C) (.type "BaseException") = some true
  r2 : PySem.W.typeIn K (.ref C) = some (.type "type")
def spRef (K : PySem.W.Frag) (C : Addr) : Sp := fun vs H _ E => ∃ (job : Job) (sizes : Sz) (F : Hp) (α : Nat → Addr), m_can_be_done_by job sizes = some false ∧ StOk K α F H (vs.map some) [.dat (eJob job), .dat (eSz sizes)] ∧
  ∀ F' H', Step (fun _ => False) F H F' H' → Same F' H' → E (.ref C) none H'
theorem ok_refused {f : Addr} {fd : FuncData} {k : Nat} (hf : FunD K "a_plan_by_sizes" "a_plan_by_sizes" (defArgs s_a_plan_by_sizes) (defBody s_a_plan_by_sizes) (defScope s_a_plan_by_sizes) [] [] f fd) (fr : Fre mg) (n : NoP K mg C B newId initId bmB) (c : Can P w K mg base "can_be_done_by" ["job", "sizes"] k T_can_be_done_by) :
    FnOk P w K mg base (L2.CX P w) (k + 1) f fd ["job", "sizes"] (spRef K C) := by
  refine Fun.okX (FunD.fun hf) sc_a_plan_by_sizes (fun vs H Q E h => ?_) (fun cdv A outer s H vs Q E hr hsp => ⟨_, pss_tw, ?_⟩)
  · obtain ⟨_, _, _, _, _, st, _⟩ := h
    have q := st.len
    rw [List.length_map] at q
    exact q
  · obtain ⟨job, sizes, F1, α, hm, st1, kk⟩ := hsp
    have G : Cg (cxOf (L2.CX P w) P w K mg base ["job", "sizes", "goal", "left", "found", "hole", "chain", "box"] "a_plan_by_sizes" (defScope s_a_plan_by_sizes) f cdv A outer s H E) := ⟨rfl, sc_a_plan_by_sizes.nd, hr.units, fr⟩
    obtain ⟨f', fd', h1, h2, h3, h4⟩ := c.ex
    have cc : Cal (cxOf (L2.CX P w) P w K mg base ["job", "sizes", "goal", "left", "found", "hole", "chain", "box"] "a_plan_by_sizes" (defScope s_a_plan_by_sizes) f cdv A outer s H E) "can_be_done_by" T_can_be_done_by := ⟨⟨f', fd', k, _, h1, hr, h2, h3, h4⟩⟩
    have st2 := st1.starts (N := ["job", "sizes", "goal", "left", "found", "hole", "chain", "box"]) (show 2 ≤ 8 by decide)
    refine .of (pss_cons (ps_if pt_tw (pss_one (ps_raise rfl (takes_of rfl rfl rfl rfl) (pmk_own0 n.F n.q n.gC n.kC (raises_own n.r1 n.r2) rfl))) pss_tw) pss_tw) ?_
    refine TvD.run (δ := [.dat (eJob job), .dat (eSz sizes), .un, .un, .un, .un, .un, .un]) (δ' := [.dat (eJob job), .dat (eSz sizes), .un, .un, .un, .un, .un, .un]) (b := !false) (t_not (t_val (p := false) (e_call cc rfl (a_cons (v_var 0) (a_cons (v_var 1) a_nil)) ⟨job, sizes, false, hm, rfl, rfl, rfl⟩))) α _ H F1 _ st2 fun F' H' sp st' => ?_
    refine iteT ?_
    exact kk F' H' (sp.mono fun b ⟨i, hi, _⟩ => by
      match i, hi with
      | 0, hi => cases hi
      | 1, hi => cases hi
      | 2, hi => cases hi
      | 3, hi => cases hi
      | 4, hi => cases hi
      | 5, hi => cases hi
      | 6, hi => cases hi
      | 7, hi => cases hi
      | _ + 8, hi => cases hi) st'.fh
end
end ND

/-! NDbox -/
set_option Elab.async false
set_option linter.all false
set_option maxRecDepth 100000
set_option maxHeartbeats 4000000
namespace ND
open PySem PySem.Spec PyProof.Rows L2 NA
section
variable {P : Program} {w : World} {K : PySem.W.Frag} {mg : Str → Option Value} {base : Heap}

def m__law_box (x_script : (List Int)) (x_k : Int) : Option (Int × Int × Int) :=
  (bif (decide (x_k < (x_script.length : Int))) then ((at' x_script x_k).bind fun v1 =>
  some v1) else (some (0 : Int))).bind fun v2 =>
  (chk (decide (-(2 : Int) ^ 64 < (if (decide (((10 : Int) ^ 18) ≤ (if v2 < 0 then -v2 else v2))) then (1 : Int) else 0) ∧ (if (decide (((10 : Int) ^ 18) ≤ (if v2 < 0 then -v2 else v2))) then (1 : Int) else 0) < (2 : Int) ^ 64))).bind fun u3 =>
  (chk (decide (0 < (2305843009213693951 : Int)))).bind fun u4 =>
  (chk (decide (-(2 : Int) ^ 64 < (39373 : Int) ∧ (39373 : Int) < (2 : Int) ^ 64))).bind fun u5 =>
  some (((if v2 < 0 then -v2 else v2) * (if (decide (((10 : Int) ^ 18) ≤ (if v2 < 0 then -v2 else v2))) then (1 : Int) else 0)), (((v2 % (2305843009213693951 : Int)) + ((39373 : Int) * x_k)) + (1084 : Int)), (0 : Int))
def T_box (as : List SD) (ds : List D) : Prop := ∃ (x_script : (List Int)) (x_k : Int) (y : (Int × Int × Int)), m__law_box x_script x_k = some y ∧ as = [.dat ((eL eI) x_script), .dat (eI x_k)] ∧ ds = [.int y.1, .int y.2.1, .int y.2.2]
theorem sc__law_box : FnScope ["_law_script", "_law_k", "_law_great_so"] ["_law_script", "_law_k"] (defScope s__law_box) := ⟨rfl, rfl, rfl, by decide +kernel, rfl, by decide +kernel, by decide +kernel⟩
theorem can__law_box (F : Def1 K mg "_law_box" s__law_box) (fr : Fre mg) : CanN P w K mg base "_law_box" ["_law_script", "_law_k"] 1 T_box := by
  obtain ⟨f, fd, hm, hf⟩ := F
  refine ⟨f, fd, fn_okN (FunD.fun hf) sc__law_box (by decide) rfl (fun as ds h => ?_) (fun cdv A outer s0 H E as ds hr hT hk => ?_), hm, hf.kp, hf.bindsN fun _ _ _ _ _ _ us hl => match us, hl with | [_, _], _ => rfl⟩
  · obtain ⟨x, k, y, _, rfl, _⟩ := h
    rfl
  · obtain ⟨x_script, x_k, y, h, rfl, rfl⟩ := hT
    have G : Cg (CxB P w K mg base ["_law_script", "_law_k", "_law_great_so"] "_law_box" s__law_box f cdv A outer s0 H E) := ⟨rfl, sc__law_box.nd, hr.units, fr⟩
    obtain ⟨v2, hv2, h⟩ := bnd h
    obtain ⟨u3, hu3, h⟩ := bnd h
    obtain ⟨u4, hu4, h⟩ := bnd h
    obtain ⟨u5, hu5, h⟩ := bnd h
    obtain rfl := Option.some.inj h
    refine ⟨[.dat ((eL eI) x_script), .dat (eI x_k), .dat (eI v2)], [.dat ((eL eI) x_script), .dat (eI x_k), .dat (eI v2)], ?_, ?_, fun i => ?_⟩
    · show SvD _ [.dat ((eL eI) x_script), .dat (eI x_k), .un] _ _
      exact w_set 2 G (v_if (f := eI) (v := v2) (t_lt (i := x_k) (j := (x_script.length : Int)) (v_var 1) (v_lenL (f := eI) (l := x_script) G (v_var 0))) (fun hc => by have h := cndT hv2 hc; obtain ⟨v1, hv1, h⟩ := bnd h; obtain rfl := Option.some.inj h; exact (v_atL (f := eI) (l := x_script) (y := v1) hv1 (v_var 0) (v_var 1))) (fun hc => by have h := cndF hv2 hc; skip; obtain rfl := Option.some.inj h; exact e_int)) rfl
    · exact (n_lst (ds := [.int ((if v2 < 0 then -v2 else v2) * (if (decide (((10 : Int) ^ 18) ≤ (if v2 < 0 then -v2 else v2))) then (1 : Int) else 0)), .int (((v2 % (2305843009213693951 : Int)) + ((39373 : Int) * x_k)) + (1084 : Int)), .int (0 : Int)]) (a_cons (v_mul (i := (if v2 < 0 then -v2 else v2)) (j := (if (decide (((10 : Int) ^ 18) ≤ (if v2 < 0 then -v2 else v2))) then (1 : Int) else 0)) (chk_of hu3) (v_abs (i := v2) G (v_var 2)) (v_intB (q := (decide (((10 : Int) ^ 18) ≤ (if v2 < 0 then -v2 else v2)))) G (e_ge (i := (if v2 < 0 then -v2 else v2)) (j := ((10 : Int) ^ 18)) (v_abs (i := v2) G (v_var 2)) v_pow18))) (a_cons (e_add (e_add (v_mod (i := v2) (j := (2305843009213693951 : Int)) (chk_of hu4) (v_int (i := v2) G (v_var 2)) e_int) (v_mulL (i := (39373 : Int)) (j := x_k) (chk_of hu5) e_int (v_var 1))) e_int) (a_cons e_int a_nil))) (show 3 ≤ sizeLine by decide))
    · match i with
      | 0 => rfl
      | 1 => rfl
      | 2 => rfl
      | _ + 3 => rfl
end
end ND

/-! NDcells -/
set_option Elab.async false
set_option linter.all false
set_option maxRecDepth 100000
set_option maxHeartbeats 4000000
namespace ND
open PySem PySem.Spec PyProof.Rows L2 NA
section
variable {X : Cx} {δ δ1 δ2 : DEnv} {a b e : Expr} {pos p2 spos tpos : Pos} {x : Str} {A B : Type} {f : A → D} {l : List A} {y : A} {ds es : List D} {N : DE}
theorem NvD.one {op : BoolOp} (h : NvD X δ a ds δ1) : NvD X δ (.BoolOp op [a] pos) ds δ1 := ⟨h.kd, fun α σ H F Q st k => .of (pe_one pe_tw) (h.run α σ H F Q st k)⟩
theorem n_orL (ha : NvD X δ a (l.map f) δ) (hb : NvD X δ b (es) δ) (xs : List A) (he : es = xs.map f) : NvD X δ (.BoolOp .Or [a, b] pos) ((bif l.isEmpty then xs else l).map f) δ := by
  subst he
  refine ⟨Kd.refl _, fun α σ H F Q st k => .of (pe_orT pe_tw pe_tw) ?_⟩
  refine ha.run α σ H F _ st fun c vs F1 H1 hc hF sp st1 hl r => ?_
  cases l with
  | cons z l =>
    refine ⟨true, ?_, ?_⟩
    · exact .inl ⟨vs, SqL.of hl, by cases r; rfl⟩
    · exact iteT (k c vs F1 H1 hc hF sp st1 hl r)
  | nil =>
    refine ⟨false, ?_, ?_⟩
    · exact .inl ⟨vs, SqL.of hl, by cases r; rfl⟩
    · refine iteF ?_
      refine (hb.one (op := .Or) (pos := pos)).run α σ H1 F1 _ st1 fun c2 vs2 F2 H2 hc2 hF2 sp2 st2 hl2 r2 => ?_
      exact k c2 vs2 F2 H2 (none_back sp hc2) hF2 (sp.trans sp2) st2 hl2 r2
/-- own[i] = e -/
theorem v_setIx {j : Int} {m : Nat} (i : Nat) (hm : ixN l.length j = some m) (h : EvD X δ e (f y) δ) (hb : EvD X δ b (.int j) δ) (hi : look δ i = .own (eL f l) ∨ look δ i = .par (eL f l))
    (q : N.nx (put δ i (setC (look δ i) (eL f (l.set m y))))) (hN : X.N[i]? = some x := by rfl) (hv : Vis X.env.scope x := by first | exact .inl rfl | exact .inr (.inl rfl) | exact .inr (.inr rfl))
    (hs : swapsWithSole [.Subscript (.Name x p2) b tpos] e spos.line X.env = pure false := by rfl) (hw : swappedStores [.Subscript (.Name x p2) b tpos] e X.env = pure none := by rfl)
    (h1 : (assignEach [.Subscript (.Name x p2) b tpos] X.env).map (·.2) = [assign (.Subscript (.Name x p2) b tpos) X.env] := by rfl)
    (ha : ∀ v, assign (.Subscript (.Name x p2) b tpos) X.env v = (do
      let ov ← holding [v] (eval (.Name x p2) X.env)
      let iv ← holding [v, ov] (eval b X.env)
      standAt tpos
      holding [v, ov, iv] (setItem ov iv v)
      release [v, ov, iv] []) := by intro _; rfl)
    (hd : (x == ("__debug__" : Str)) = false := by decide) (hcd : (x == ("__classdict__" : Str)) = false := by decide) : SvD X δ (.Assign [.Subscript (.Name x p2) b tpos] e spos) N := by
  refine s_setIx (m := m) hN hv h hb hi (by rw [List.length_map]; exact hm) ?_ hs hw h1 ha hd hcd
  rw [← List.map_set]
  exact q
end
def m__law_cells (ns : List Int) (most : Int) : Option (List Int) :=
  forS (fun (c : List Int) (b : Int × Int) => (chk (decide (0 < most))).bind fun _ => (ixN c.length (b.1 % most)).bind fun m => (at' c (b.1 % most)).bind fun v => (chk (decide (-(2 : Int) ^ 64 < b.1 + 2 ∧ b.1 + 2 < (2 : Int) ^ 64))).bind fun _ => some (c.set m (v + b.2 * (b.1 + 2))))
    (enm (cutD ns (some most) (some 63))) (bif (cutD ns none (some most)).isEmpty then [0] else cutD ns none (some most))
def T__law_cells : FT := fun as r as' => ∃ (ns : List Int) (most : Int) (y : List Int), m__law_cells ns most = some y ∧ as = [.dat (.rol ns), .dat (eI most)] ∧ r = eL eI y ∧ as' = as
section
variable {P : Program} {w : World} {K : PySem.W.Frag} {mg : Str → Option Value} {base : Heap}
theorem sc__law_cells : FnScope ["_law_script", "_law_most", "_law_cells_here", "_law_k", "_law_great_so", "_law_at_so"] ["_law_script", "_law_most"] (defScope s__law_cells) := ⟨rfl, rfl, rfl, by decide +kernel, rfl, by decide +kernel, by decide +kernel⟩
theorem can__law_cells (F : Def1 K mg "_law_cells" s__law_cells) (fr : Fre mg) : Can P w K mg base "_law_cells" ["_law_script", "_law_most"] 1 T__law_cells := by
  refine can_of F sc__law_cells (by decide) fr (fun f fd h => h.bindsN fun _ _ _ _ _ _ us hl => match us, hl with | [_, _], _ => rfl) ?_ ?_
  · rintro as r as' ⟨ns, most, y, h, rfl, rfl, rfl⟩
    exact shp_dat [.rol ns, eI most] rfl rfl rfl
  · rintro f cdv A outer s0 H E as r as' hr G ⟨ns, most, y, h, rfl, rfl, rfl⟩
    show SsD _ [.dat (.rol ns), .dat (eI most), .un, .un, .un, .un] _ _
    refine ss_cons (s_setN (i := 2) G.nd rfl (by first | exact .inl rfl | exact .inr rfl) (n_orL (f := eI) (l := cutD ns none (some most)) (n_lisL (f := eI) (l := cutD ns none (some most)) G (n_sliceR (v_var 0) o_none (o_some (v_var 1))).ev) (n_lst (ds := [.int 0]) (a_cons e_int a_nil) (show 1 ≤ sizeLine by decide)) [0] rfl) ?_)
    show SsD _ [.dat (.rol ns), .dat (eI most), .own (eL eI (bif (cutD ns none (some most)).isEmpty then [0] else cutD ns none (some most))), .un, .un, .un] _ _
    refine ss_cons (k_forS (g := eS eI eI) (fun c : List Int => [.dat (.rol ns), .dat (eI most), .own (eL eI c), .un, .un, .un]) (fun b : Int × Int => [(3, eI b.1), (4, eI b.2)]) G PassesOwn.never h (it_EL (f := eI) (l := cutD ns (some most) (some 63)) G (n_sliceR (v_var 0) (o_some (v_var 1)) (o_some e_int)).ev) (fun b hb => tg2S 3 4 G.calm G.nd) (fun c b t hb h => ?_) ?_)
    · show SsD _ [.dat (.rol ns), .dat (eI most), .own (eL eI c), .dat (eI b.1), .dat (eI b.2), .un] _ _
      obtain ⟨u1, hu1, h⟩ := bnd h
      obtain ⟨m, hm, h⟩ := bnd h
      obtain ⟨v, hv, h⟩ := bnd h
      obtain ⟨u2, hu2, h⟩ := bnd h
      refine ss_cons (w_set 5 G (v_mod (i := b.1) (j := most) (chk_of hu1) (v_int (i := b.1) G (v_var 3)) (v_var 1)) ?_)
      show SsD _ [.dat (.rol ns), .dat (eI most), .own (eL eI c), .dat (eI b.1), .dat (eI b.2), .dat (eI (b.1 % most))] _ _
      refine ss_cons (v_setIx (f := eI) (l := c) (y := v + b.2 * (b.1 + 2)) (j := b.1 % most) (m := m) 2 hm (e_add (v_atO (f := eI) (l := c) (y := v) 2 hv (.inl rfl) (v_var 5)) (v_mul (i := b.2) (j := b.1 + 2) (chk_of hu2) (v_var 4) (e_add (v_var 3) e_int))) (v_var 5) (.inl rfl) ?_)
      show SsD _ [.dat (.rol ns), .dat (eI most), .own (eL eI (c.set m (v + b.2 * (b.1 + 2)))), .dat (eI b.1), .dat (eI b.2), .dat (eI (b.1 % most))] _ _
      refine ss_forget 3 ?_
      refine ss_forget 4 ?_
      refine ss_forget 5 ?_
      obtain rfl := Option.some.inj h
      exact ss_nil rfl
    · show SsD _ [.dat (.rol ns), .dat (eI most), .own (eL eI y), .un, .un, .un] _ _
      refine ss_freezeL 2 rfl ?_
      show SsD _ [.dat (.rol ns), .dat (eI most), .dat (eL eI y), .un, .un, .un] _ _
      exact ss_cons (s_ret (v_var 2) ⟨rfl, trivial⟩)
end
end ND

/-! NDtold -/
set_option Elab.async false
set_option linter.all false
set_option maxRecDepth 100000
set_option maxHeartbeats 4000000
namespace ND
open PySem PySem.Spec PyProof.Rows L2 NA
def m__law_told (job : Job) (sizes : Sz) : Option (Option (List (Nm × Option Nm))) :=
  (m_can_be_done_by job sizes).bind fun b => bif b then (m_a_plan_by_sizes job sizes).bind fun y => some (some y) else some none
def T__law_told : FT := fun as r as' => ∃ (job : Job) (sizes : Sz) (y : Option (List (Nm × Option Nm))), m__law_told job sizes = some y ∧ as = [.dat (eJob job), .dat (eSz sizes)] ∧ r = eW (eT (eP eN (eO eN))) y ∧ as' = as
section
variable {P : Program} {w : World} {K : PySem.W.Frag} {mg : Str → Option Value} {base : Heap} {C : Addr} {bmB : List Value} {B newId initId : String}
theorem sc__law_told : FnScope ["_law_task_here", "_law_bulk_here", "_law_told_here"] ["_law_task_here", "_law_bulk_here"] (defScope s__law_told) := ⟨rfl, rfl, rfl, by decide +kernel, rfl, by decide +kernel, by decide +kernel⟩
theorem slots2 {α : Nat → Addr} {F H : Hp} {σ : Sl} {d1 d2 d3 : D} (st : StOk K α F H σ [.dat d1, .dat d2, .dat d3]) : ∃ v1 v2, σ[0]? = some (some v1) ∧ σ[1]? = some (some v2) ∧ Reps K F [v1, v2] [d1, d2] := by
  obtain ⟨v1, h1, r1⟩ := slot_dat (i := 0) st rfl
  obtain ⟨v2, h2, r2⟩ := slot_dat (i := 1) st rfl
  exact ⟨v1, v2, h1, h2, .cons r1 (.cons r2 .nil)⟩
theorem can__law_told (F : Def1 K mg "_law_told" s__law_told) (Fp : Def1 K mg "a_plan_by_sizes" s_a_plan_by_sizes) (fr : Fre mg) (n : NoP K mg C B newId initId bmB) (hex : PySem.W.exmOne K (.ref C) (.ref C) = some true) (c1 : Can P w K mg base "can_be_done_by" ["job", "sizes"] 9 T_can_be_done_by) (c2 : Can P w K mg base "a_plan_by_sizes" ["job", "sizes"] 29 T_a_plan_by_sizes) : Can P w K mg base "_law_told" ["_law_task_here", "_law_bulk_here"] 30 T__law_told := by
  refine can_of F sc__law_told (by decide) fr (fun f fd h => h.bindsN fun _ _ _ _ _ _ us hl => match us, hl with | [_, _], _ => rfl) ?_ ?_
  · rintro as r as' ⟨job, sizes, y, h, rfl, rfl, rfl⟩
    exact shp_dat [eJob job, eSz sizes] rfl rfl rfl
  · rintro f cdv A outer s0 H E as r as' hr G ⟨job, sizes, y, h, rfl, rfl, rfl⟩
    show SsD _ [.dat (eJob job), .dat (eSz sizes), .un] _ _
    refine ss_cons (w_set 2 G e_non ?_)
    show SsD _ [.dat (eJob job), .dat (eSz sizes), .dat .non] _ _
    obtain ⟨b, hb1, h⟩ := bnd h
    refine ss_cons (N := ⟨_, _⟩) (SvD.mk ?_ : SvD _ _ _ ⟨fun δ1 => SsD _ δ1 _ _, _⟩)
    intro α σ H F1 D st k rt
    obtain ⟨v1, v2, hv1, hv2, rv⟩ := slots2 st
    cases b with
    | true =>
      obtain ⟨y1, hy1, h⟩ := bnd h
      obtain rfl := Option.some.inj h
      obtain ⟨f2, fd2, g1, g2, g3, g4⟩ := c2.ex
      refine .of (ps_try_only (c := .ref C) (Wout := fun _ _ _ _ => False) (tb := fun _ => tAsg (tCall (spF K T_a_plan_by_sizes) [] E0 (tCons (tVar 0) (tCons (tVar 1) tNil))) (gName 2)) (ts := fun _ _ _ => tAsg (tC (.str "no plan")) (gName 2)) rfl rfl ⟨rfl, by decide, .inl n.gC⟩ takes0
          (fun W pn xe tk _ => pss_one (ps_set (i := 2) G.nd rfl (Or.inl rfl) (by exact (pe_call g1 hr rfl g2 g3 g4 .nil pass0 (by exact (pa_cons (pv 0) (pa_cons (pv 1) pa_nil)))))))
          (fun a oe cls d pn hz hf => pss_one (ps_set (i := 2) G.nd rfl (Or.inl rfl) pe_str))) ?_
      refine ⟨v1, hv1, v2, hv2, ?_⟩
      refine ⟨_, _, _, F1, α, ⟨job, sizes, y1, hy1, rfl, rfl, rfl⟩, stOk_args st.fh rv, fun v F2 H2 s2 st2 rv2 => ?_⟩
      have g : Grow F1 H F2 H2 := ⟨s2.ff, fun b o e => s2.hh b o e (ownA_dats (ds := [eJob job, eSz sizes])), st2.fh, s2.nw⟩
      refine store_x (is := [2]) (xs := [.dat (eW (eT (eP eN (eO eN))) (some y1))]) (vs := [v]) (as := []) st g.step (Kd.refl _) (st.grow g) (.dat rv2 .nil) rfl (fun j hj => by rw [List.mem_singleton.mp hj]; rfl) (by simp) k ?_
      exact ss_cons (s_ret (v_var 2) ⟨rfl, trivial⟩)
    | false =>
      obtain rfl := Option.some.inj h
      obtain ⟨f2, fd2, hm2, hf2⟩ := Fp
      have g1 := ok_refused (P := P) (w := w) (base := base) hf2 fr n c1
      have hr1 := hr.mono (j := 10) (by decide)
      have g4 := hf2.bindsN (ps := ["job", "sizes"]) fun _ _ _ _ _ _ us hl => match us, hl with | [_, _], _ => rfl
      refine .of (ps_try_only (c := .ref C) (Wout := fun _ _ _ _ => False) (tb := fun W => tAsg (tCallS (spRef K C) (WE W) (tCons (tVar 0) (tCons (tVar 1) tNil))) (gName 2)) (ts := fun _ _ _ => tAsg (tC (.str "no plan")) (gName 2)) rfl rfl ⟨rfl, by decide, .inl n.gC⟩ takes0
          (fun W pn xe tk _ => pss_one (ps_set (i := 2) G.nd rfl (Or.inl rfl) (by exact (pe_callS g1 hr1 rfl hm2 hf2.kp g4 (fun σ => passAt tk σ) (by exact (pa_cons (pv 0) (pa_cons (pv 1) pa_nil)))))))
          (fun a oe cls d pn hz hf => pss_one (ps_set (i := 2) G.nd rfl (Or.inl rfl) pe_str))) ?_
      refine ⟨v1, hv1, v2, hv2, ?_⟩
      refine ⟨job, sizes, F1, α, hb1, stOk_args st.fh rv, fun F2 H2 s2 st2 => ⟨true, hex, fun _ a ha => ?_, fun z => Bool.noConfusion z⟩⟩
      have g : Grow F1 H F2 H2 := ⟨s2.ff, fun b o e => s2.hh b o e (fun z => z), st2, s2.nw⟩
      refine store_x (is := [2]) (xs := [.dat (eW (eT (eP eN (eO eN))) none)]) (vs := [.str "no plan"]) (as := []) st g.step (Kd.refl _) (st.grow g) (.dat (.str _) .nil) rfl (fun j hj => by rw [List.mem_singleton.mp hj]; rfl) (by simp) k ?_
      exact ss_cons (s_ret (v_var 2) ⟨rfl, trivial⟩)
end
end ND

/-! NDcr -/
set_option Elab.async false
set_option linter.all false
set_option maxRecDepth 100000
set_option maxHeartbeats 4000000
namespace ND
open PySem PySem.Spec PyProof.Rows L2 NA
theorem gotEq {a c d fine : Bool} {b shut : List (List Nm)} (h : decide (a = true ∧ b = shut ∧ c = fine ∧ d = fine) = true) : ([eB a, eL (eT eN) b, eB c, eB d] : List D) = [eB true, eL (eT eN) shut, eB fine, eB fine] := by
  obtain ⟨rfl, rfl, rfl, rfl⟩ := of_decide_eq_true h
  rfl
theorem sam_nm {n : Nat} (x : Nm) : samOk n (eN x) = true := by cases n <;> rfl
theorem sam_bl {n : Nat} (x : Bool) : samOk n (eB x) = true := by cases n <;> rfl
theorem sam_due {fine : Bool} {shut : List (List Nm)} : samOk 5 (.lst [eB true, eL (eT eN) shut, eB fine, eB fine]) = true := by
  have h2 : ∀ r : List Nm, samOk 3 (eT eN r) = true := fun r => List.all_eq_true.mpr fun b hb => by
    obtain ⟨x, _, rfl⟩ := List.mem_map.mp hb
    exact sam_nm x
  have h1 : samOk 4 (eL (eT eN) shut) = true := List.all_eq_true.mpr fun b hb => by
    obtain ⟨x, _, rfl⟩ := List.mem_map.mp hb
    exact h2 x
  show ([eB true, eL (eT eN) shut, eB fine, eB fine] : List D).all (samOk 4) = true
  simp only [List.all_cons, List.all_nil, h1, sam_bl, Bool.and_self]
end ND

/-! G9 -/
set_option Elab.async false
set_option linter.all false
set_option maxRecDepth 100000
set_option maxHeartbeats 4000000
namespace ND
open PySem PySem.Spec PyProof.Rows L2 NA
section
variable {P : Program} {w : World} {K : PySem.W.Frag} {mg : Str → Option Value} {base : Heap}

def m__law_case_right (x_task_here : ((List Nm) × (List (Nm × (Option Nm))))) (x_bulk_here : ((List (Nm × Int)) × (List (Nm × Int)))) : Option Bool :=
  (m__law_shut x_task_here x_bulk_here).bind fun v1 =>
  (m__law_told x_task_here x_bulk_here).bind fun v2 =>
  (m_is_sizes x_task_here x_bulk_here).bind fun v3 =>
  (m_shut_rings x_task_here x_bulk_here).bind fun v4 =>
  (m_can_be_done_by x_task_here x_bulk_here).bind fun v5 =>
  (chk (decide (v3 = true ∧ v4 = v1 ∧ v5 = (decide (v1 = ([] : List (List Nm)))) ∧ (!v2.isNone) = (decide (v1 = ([] : List (List Nm))))))).bind fun v6 =>
  (m_can_be_done x_task_here).bind fun v7 =>
  bif (!v7) then (some (!(decide (v1 = ([] : List (List Nm)))))) else ((m__law_yard x_task_here).bind fun v8 =>
  (m_fewest_moves x_task_here).bind fun v9 =>
  ((reach_n 12) x_task_here x_bulk_here v8 v9).bind fun v10 =>
  bif (!decide (v10 = (decide (v1 = ([] : List (List Nm)))))) then (some false) else (bif (decide (v1 = ([] : List (List Nm)))) then ((v2).bind fun v11 =>
  (m__law_walk x_task_here v11).bind fun v12 =>
  (bif v12.isNone then some true else ((m_fewest_moves x_task_here).bind fun v13 =>
  (bif (!decide ((v11.length : Int) = v13)) then some true else ((m_is_plan_by_sizes x_task_here x_bulk_here v11).bind fun v14 =>
  some (!v14))).bind fun v15 =>
  some ((!decide ((v11.length : Int) = v13)) || v15))).bind fun v16 =>
  bif (v12.isNone || v16) then (some false) else ((v12).bind fun v17 =>
  (cmpM (fun (b18 : (Int × (Nm × (Option Nm)))) => some (!b18.2.2.isNone)) (fun (b18 : (Int × (Nm × (Option Nm)))) => (at' v17 b18.1).bind fun v19 =>
  (lk v19 b18.2.1).bind fun v20 =>
  some (v20, b18.2.2)) (enm v11)).bind fun v21 =>
  (cmpM (fun (b23 : (Nm × (Option Nm))) => (b23.2).bind fun v24 =>
  (m__law_fits x_bulk_here b23.1 v24).bind fun v25 =>
  some (!v25)) (fun (b23 : (Nm × (Option Nm))) => some b23) v21).bind fun v26 =>
  (at' v17 (-(1 : Int))).bind fun v28 =>
  (m__law_right_end x_task_here v28).bind fun v29 =>
  (bif v29 then ((bif (decide (v26 = ([] : List (Nm × (Option Nm))))) then ((m_place_needed x_task_here x_bulk_here).bind fun v30 =>
  some (decide (v30 = (some (0 : Int))))) else some true).bind fun v31 =>
  some ((decide (v26 = ([] : List (Nm × (Option Nm))))) && v31)) else some true).bind fun v32 =>
  some (v29 && v32))) else ((m_place_needed x_task_here x_bulk_here).bind fun v33 =>
  (v33).bind fun v34 =>
  (forM (R := Bool) (fun (s35 : Unit) (b36 : Int) => (chk (!x_task_here.1.isEmpty)).bind fun u37 =>
  (chk (decide (x_task_here.1.length + ((12 : Nm) :: ([] : List Nm)).length < 2000))).bind fun u38 =>
  (chk (!x_bulk_here.1.isEmpty)).bind fun u39 =>
  (chk (decide (x_bulk_here.1.length + (((12 : Nm), b36) :: ([] : List (Nm × Int))).length < 2000))).bind fun u40 =>
  (m_can_be_done_by ((isort leN (x_task_here.1 ++ ((12 : Nm) :: ([] : List Nm)))), x_task_here.2) ((isort lePI (x_bulk_here.1 ++ (((12 : Nm), b36) :: ([] : List (Nm × Int))))), x_bulk_here.2)).bind fun v41 =>
  bif (!decide (v41 = (decide (b36 = v34)))) then (some (.inr false)) else (some (.inl ()))) [v34, (v34 - (1 : Int))] ()).bind fun o42 => match o42 with
  | .inl s35 => (some (decide ((0 : Int) < v34)))
  | .inr r => some r
  )))
def T__law_case_right : FT := fun as r as' => ∃ (x_task_here : ((List Nm) × (List (Nm × (Option Nm))))) (x_bulk_here : ((List (Nm × Int)) × (List (Nm × Int)))) (y : Bool), m__law_case_right x_task_here x_bulk_here = some y ∧ as = [.dat ((eP (eT eN) (eT (eP eN (eO eN)))) x_task_here), .dat ((eP (eT (eP eN eI)) (eT (eP eN eI))) x_bulk_here)] ∧ r = eB y ∧ as' = as
theorem sc__law_case_right : FnScope ["_law_task_here", "_law_bulk_here", "_law_shut_here", "_law_told_here", "_law_fine", "_law_got", "_law_yards", "_law_hauled", "_law_bad", "_law_need", "_law_much", "_law_wider", "_law_more", "_law_k", "_law_haul", "_law_own"] ["_law_task_here", "_law_bulk_here"] (defScope s__law_case_right) := ⟨rfl, rfl, rfl, by decide +kernel, rfl, by decide +kernel, by decide +kernel⟩
theorem can__law_case_right (F : Def1 K mg "_law_case_right" s__law_case_right) (fr : Fre mg) (c__law_shut : Can P w K mg base "_law_shut" ["_law_task_here", "_law_bulk_here"] 3 T__law_shut) (c__law_told : Can P w K mg base "_law_told" ["_law_task_here", "_law_bulk_here"] 31 T__law_told) (c_is_sizes : Can P w K mg base "is_sizes" ["job", "thing"] 6 T_is_sizes) (c_shut_rings : Can P w K mg base "shut_rings" ["job", "sizes"] 8 T_shut_rings) (c_can_be_done_by : Can P w K mg base "can_be_done_by" ["job", "sizes"] 9 T_can_be_done_by) (c__law_same : Can P w K mg base "_law_same" ["_law_got", "_law_due"] 6 (T_same 5)) (c_can_be_done : Can P w K mg base "can_be_done" ["job"] 7 T_can_be_done) (c__law_reach : Can P w K mg base "_law_reach" ["_law_task_here", "_law_bulk_here", "_law_yard_here", "_law_left_so"] 32 (T__law_reach (reach_n 12))) (c__law_yard : Can P w K mg base "_law_yard" ["_law_task_here"] 1 T__law_yard) (c_fewest_moves : Can P w K mg base "fewest_moves" ["job"] 9 T_fewest_moves) (c__law_walk : Can P w K mg base "_law_walk" ["_law_task_here", "_law_hauls"] 3 T__law_walk) (c_is_plan_by_sizes : Can P w K mg base "is_plan_by_sizes" ["job", "sizes", "thing"] 8 T_is_plan_by_sizes) (c__law_fits : Can P w K mg base "_law_fits" ["_law_bulk_here", "_law_mate", "_law_spot"] 1 T__law_fits) (c__law_right_end : Can P w K mg base "_law_right_end" ["_law_task_here", "_law_yard_here"] 1 T__law_right_end) (c_place_needed : Can P w K mg base "place_needed" ["job", "sizes"] 10 T_place_needed) : Can P w K mg base "_law_case_right" ["_law_task_here", "_law_bulk_here"] 33 (T__law_case_right) := by
  refine can_of F sc__law_case_right (by decide) fr (fun f fd h => h.bindsN fun _ _ _ _ _ _ us hl => match us, hl with | [_, _], _ => rfl) ?_ ?_
  · rintro as r as' ⟨x_task_here, x_bulk_here, y, h, rfl, rfl, rfl⟩
    exact shp_dat [(eP (eT eN) (eT (eP eN (eO eN)))) x_task_here, (eP (eT (eP eN eI)) (eT (eP eN eI))) x_bulk_here] rfl rfl rfl
  · rintro f cdv A outer s0 H E as r as' hr G ⟨x_task_here, x_bulk_here, y, h, rfl, rfl, rfl⟩
    replace c__law_shut := c__law_shut.cal (hr.mono (by omega)) (N := ["_law_task_here", "_law_bulk_here", "_law_shut_here", "_law_told_here", "_law_fine", "_law_got", "_law_yards", "_law_hauled", "_law_bad", "_law_need", "_law_much", "_law_wider", "_law_more", "_law_k", "_law_haul", "_law_own"]) (cdv := cdv) (outer := outer) (H := H) (E := E)
    replace c__law_told := c__law_told.cal (hr.mono (by omega)) (N := ["_law_task_here", "_law_bulk_here", "_law_shut_here", "_law_told_here", "_law_fine", "_law_got", "_law_yards", "_law_hauled", "_law_bad", "_law_need", "_law_much", "_law_wider", "_law_more", "_law_k", "_law_haul", "_law_own"]) (cdv := cdv) (outer := outer) (H := H) (E := E)
    replace c_is_sizes := c_is_sizes.cal (hr.mono (by omega)) (N := ["_law_task_here", "_law_bulk_here", "_law_shut_here", "_law_told_here", "_law_fine", "_law_got", "_law_yards", "_law_hauled", "_law_bad", "_law_need", "_law_much", "_law_wider", "_law_more", "_law_k", "_law_haul", "_law_own"]) (cdv := cdv) (outer := outer) (H := H) (E := E)
    replace c_shut_rings := c_shut_rings.cal (hr.mono (by omega)) (N := ["_law_task_here", "_law_bulk_here", "_law_shut_here", "_law_told_here", "_law_fine", "_law_got", "_law_yards", "_law_hauled", "_law_bad", "_law_need", "_law_much", "_law_wider", "_law_more", "_law_k", "_law_haul", "_law_own"]) (cdv := cdv) (outer := outer) (H := H) (E := E)
    replace c_can_be_done_by := c_can_be_done_by.cal (hr.mono (by omega)) (N := ["_law_task_here", "_law_bulk_here", "_law_shut_here", "_law_told_here", "_law_fine", "_law_got", "_law_yards", "_law_hauled", "_law_bad", "_law_need", "_law_much", "_law_wider", "_law_more", "_law_k", "_law_haul", "_law_own"]) (cdv := cdv) (outer := outer) (H := H) (E := E)
    replace c__law_same := c__law_same.cal (hr.mono (by omega)) (N := ["_law_task_here", "_law_bulk_here", "_law_shut_here", "_law_told_here", "_law_fine", "_law_got", "_law_yards", "_law_hauled", "_law_bad", "_law_need", "_law_much", "_law_wider", "_law_more", "_law_k", "_law_haul", "_law_own"]) (cdv := cdv) (outer := outer) (H := H) (E := E)
    replace c_can_be_done := c_can_be_done.cal (hr.mono (by omega)) (N := ["_law_task_here", "_law_bulk_here", "_law_shut_here", "_law_told_here", "_law_fine", "_law_got", "_law_yards", "_law_hauled", "_law_bad", "_law_need", "_law_much", "_law_wider", "_law_more", "_law_k", "_law_haul", "_law_own"]) (cdv := cdv) (outer := outer) (H := H) (E := E)
    replace c__law_reach := c__law_reach.cal (hr.mono (by omega)) (N := ["_law_task_here", "_law_bulk_here", "_law_shut_here", "_law_told_here", "_law_fine", "_law_got", "_law_yards", "_law_hauled", "_law_bad", "_law_need", "_law_much", "_law_wider", "_law_more", "_law_k", "_law_haul", "_law_own"]) (cdv := cdv) (outer := outer) (H := H) (E := E)
    replace c__law_yard := c__law_yard.cal (hr.mono (by omega)) (N := ["_law_task_here", "_law_bulk_here", "_law_shut_here", "_law_told_here", "_law_fine", "_law_got", "_law_yards", "_law_hauled", "_law_bad", "_law_need", "_law_much", "_law_wider", "_law_more", "_law_k", "_law_haul", "_law_own"]) (cdv := cdv) (outer := outer) (H := H) (E := E)
    replace c_fewest_moves := c_fewest_moves.cal (hr.mono (by omega)) (N := ["_law_task_here", "_law_bulk_here", "_law_shut_here", "_law_told_here", "_law_fine", "_law_got", "_law_yards", "_law_hauled", "_law_bad", "_law_need", "_law_much", "_law_wider", "_law_more", "_law_k", "_law_haul", "_law_own"]) (cdv := cdv) (outer := outer) (H := H) (E := E)
    replace c__law_walk := c__law_walk.cal (hr.mono (by omega)) (N := ["_law_task_here", "_law_bulk_here", "_law_shut_here", "_law_told_here", "_law_fine", "_law_got", "_law_yards", "_law_hauled", "_law_bad", "_law_need", "_law_much", "_law_wider", "_law_more", "_law_k", "_law_haul", "_law_own"]) (cdv := cdv) (outer := outer) (H := H) (E := E)
    replace c_is_plan_by_sizes := c_is_plan_by_sizes.cal (hr.mono (by omega)) (N := ["_law_task_here", "_law_bulk_here", "_law_shut_here", "_law_told_here", "_law_fine", "_law_got", "_law_yards", "_law_hauled", "_law_bad", "_law_need", "_law_much", "_law_wider", "_law_more", "_law_k", "_law_haul", "_law_own"]) (cdv := cdv) (outer := outer) (H := H) (E := E)
    replace c__law_fits := c__law_fits.cal (hr.mono (by omega)) (N := ["_law_task_here", "_law_bulk_here", "_law_shut_here", "_law_told_here", "_law_fine", "_law_got", "_law_yards", "_law_hauled", "_law_bad", "_law_need", "_law_much", "_law_wider", "_law_more", "_law_k", "_law_haul", "_law_own"]) (cdv := cdv) (outer := outer) (H := H) (E := E)
    replace c__law_right_end := c__law_right_end.cal (hr.mono (by omega)) (N := ["_law_task_here", "_law_bulk_here", "_law_shut_here", "_law_told_here", "_law_fine", "_law_got", "_law_yards", "_law_hauled", "_law_bad", "_law_need", "_law_much", "_law_wider", "_law_more", "_law_k", "_law_haul", "_law_own"]) (cdv := cdv) (outer := outer) (H := H) (E := E)
    replace c_place_needed := c_place_needed.cal (hr.mono (by omega)) (N := ["_law_task_here", "_law_bulk_here", "_law_shut_here", "_law_told_here", "_law_fine", "_law_got", "_law_yards", "_law_hauled", "_law_bad", "_law_need", "_law_much", "_law_wider", "_law_more", "_law_k", "_law_haul", "_law_own"]) (cdv := cdv) (outer := outer) (H := H) (E := E)
    show SsD _ [.dat ((eP (eT eN) (eT (eP eN (eO eN)))) x_task_here), .dat ((eP (eT (eP eN eI)) (eT (eP eN eI))) x_bulk_here), .un, .un, .un, .un, .un, .un, .un, .un, .un, .un, .un, .un, .un, .un] _ _
    obtain ⟨v1, hv1, h⟩ := bnd h
    obtain ⟨v2, hv2, h⟩ := bnd h
    refine ss_cons (s_par (i := 2) (j := 3) G.calm G.nd rfl rfl (by decide) rfl rfl (x_dat (e_call c__law_shut rfl (a_cons (v_var 0) (a_cons (v_var 1) a_nil)) ⟨x_task_here, x_bulk_here, v1, hv1, rfl, rfl, rfl⟩) (x_dat (e_call c__law_told rfl (a_cons (v_var 0) (a_cons (v_var 1) a_nil)) ⟨x_task_here, x_bulk_here, v2, hv2, rfl, rfl, rfl⟩) x_nil)) ?_ rfl)
    show SsD _ [.dat ((eP (eT eN) (eT (eP eN (eO eN)))) x_task_here), .dat ((eP (eT (eP eN eI)) (eT (eP eN eI))) x_bulk_here), .dat ((eL (eT eN)) v1), .dat ((eW (eT (eP eN (eO eN)))) v2), .un, .un, .un, .un, .un, .un, .un, .un, .un, .un, .un, .un] _ _
    refine ss_cons (w_set 4 G (v_eq (f := (eL (eT eN))) (y := v1) (z := ([] : List (List Nm))) G (v_var 2) ((n_lstV (f := (eT eN)) (l := ([] : List (List Nm))) rfl va_nil)).ev) ?_)
    show SsD _ [.dat ((eP (eT eN) (eT (eP eN (eO eN)))) x_task_here), .dat ((eP (eT (eP eN eI)) (eT (eP eN eI))) x_bulk_here), .dat ((eL (eT eN)) v1), .dat ((eW (eT (eP eN (eO eN)))) v2), .dat (eB (decide (v1 = ([] : List (List Nm))))), .un, .un, .un, .un, .un, .un, .un, .un, .un, .un, .un] _ _
    obtain ⟨v3, hv3, h⟩ := bnd h
    obtain ⟨v4, hv4, h⟩ := bnd h
    obtain ⟨v5, hv5, h⟩ := bnd h
    obtain ⟨v6, hv6, h⟩ := bnd h
    refine ss_cons (s_set (i := 5) (d := .lst [eB v3, (eL (eT eN)) v4, eB v5, eB (!v2.isNone)]) G.nd rfl (.inl rfl) (n_lst (ds := [eB v3, (eL (eT eN)) v4, eB v5, eB (!v2.isNone)]) (a_cons (e_call c_is_sizes rfl (a_cons (v_var 0) (a_cons (v_var 1) a_nil)) ⟨x_task_here, x_bulk_here, v3, hv3, rfl, rfl, rfl⟩) (a_cons ((n_lisT (f := (eT eN)) (l := v4) G (e_call c_shut_rings rfl (a_cons (v_var 0) (a_cons (v_var 1) a_nil)) ⟨x_task_here, x_bulk_here, v4, hv4, rfl, rfl, rfl⟩))).ev (a_cons (e_call c_can_be_done_by rfl (a_cons (v_var 0) (a_cons (v_var 1) a_nil)) ⟨x_task_here, x_bulk_here, v5, hv5, rfl, rfl, rfl⟩) (a_cons (v_neW (h := (eP eN (eO eN))) (y := v2) G (v_var 3)) a_nil)))) (show 4 ≤ sizeLine by decide)).ev ?_)
    have hsame := gotEq (chk_of hv6)
    show SsD _ [.dat ((eP (eT eN) (eT (eP eN (eO eN)))) x_task_here), .dat ((eP (eT (eP eN eI)) (eT (eP eN eI))) x_bulk_here), .dat ((eL (eT eN)) v1), .dat ((eW (eT (eP eN (eO eN)))) v2), .dat (eB (decide (v1 = ([] : List (List Nm))))), .dat (.lst [eB v3, (eL (eT eN)) v4, eB v5, eB (!v2.isNone)]), .un, .un, .un, .un, .un, .un, .un, .un, .un, .un] _ _
    rw [hsame]
    refine ss_cons (s_if (t_not (t_val (p := true) (e_call c__law_same rfl (a_cons (v_var 5) (a_cons (n_lst (ds := [eB true, (eL (eT eN)) v1, eB (decide (v1 = ([] : List (List Nm)))), eB (decide (v1 = ([] : List (List Nm))))]) (a_cons e_bl (a_cons (v_var 2) (a_cons (v_var 4) (a_cons (v_var 4) a_nil)))) (show 4 ≤ sizeLine by decide)).ev a_nil)) ⟨.lst [eB true, (eL (eT eN)) v1, eB (decide (v1 = ([] : List (List Nm)))), eB (decide (v1 = ([] : List (List Nm))))], sam_due, rfl, rfl, rfl⟩))) (fun hc => by cases hc) (fun _ => ss_nil ?_))
    refine ss_forget 5 ?_
    show SsD _ [.dat ((eP (eT eN) (eT (eP eN (eO eN)))) x_task_here), .dat ((eP (eT (eP eN eI)) (eT (eP eN eI))) x_bulk_here), .dat ((eL (eT eN)) v1), .dat ((eW (eT (eP eN (eO eN)))) v2), .dat (eB (decide (v1 = ([] : List (List Nm))))), .un, .un, .un, .un, .un, .un, .un, .un, .un, .un, .un] _ _
    obtain ⟨v7, hv7, h⟩ := bnd h
    refine ss_cons (s_if (t_not (t_val (p := v7) (e_call c_can_be_done rfl (a_cons (v_var 0) a_nil) ⟨x_task_here, v7, hv7, rfl, rfl, rfl⟩))) (fun hc => ?_) (fun hc => ?_))
    · have h := cndT h hc
      obtain rfl := Option.some.inj h
      exact ss_cons (s_ret (e_not (v_var 4)) ⟨rfl, (by first | exact trivial | exact ⟨rfl, trivial⟩)⟩)
    · have h := cndF h hc
      refine ss_nil ?_
      show SsD _ [.dat ((eP (eT eN) (eT (eP eN (eO eN)))) x_task_here), .dat ((eP (eT (eP eN eI)) (eT (eP eN eI))) x_bulk_here), .dat ((eL (eT eN)) v1), .dat ((eW (eT (eP eN (eO eN)))) v2), .dat (eB (decide (v1 = ([] : List (List Nm))))), .un, .un, .un, .un, .un, .un, .un, .un, .un, .un, .un] _ _
      obtain ⟨v8, hv8, h⟩ := bnd h
      obtain ⟨v9, hv9, h⟩ := bnd h
      obtain ⟨v10, hv10, h⟩ := bnd h
      refine ss_cons (s_if (vt_ne (f := eB) (y := v10) (z := (decide (v1 = ([] : List (List Nm))))) G (e_call c__law_reach rfl (a_cons (v_var 0) (a_cons (v_var 1) (a_cons (e_call c__law_yard rfl (a_cons (v_var 0) a_nil) ⟨x_task_here, v8, hv8, rfl, rfl, rfl⟩) (a_cons (e_call c_fewest_moves rfl (a_cons (v_var 0) a_nil) ⟨x_task_here, v9, hv9, rfl, rfl, rfl⟩) a_nil)))) ⟨x_task_here, x_bulk_here, v8, v9, v10, hv10, rfl, rfl, rfl⟩) (v_var 4)) (fun hc => ?_) (fun hc => ?_))
      · have h := cndT h hc
        obtain rfl := Option.some.inj h
        exact ss_cons (s_ret e_bl ⟨rfl, (by first | exact trivial | exact ⟨rfl, trivial⟩)⟩)
      · have h := cndF h hc
        refine ss_nil ?_
        show SsD _ [.dat ((eP (eT eN) (eT (eP eN (eO eN)))) x_task_here), .dat ((eP (eT (eP eN eI)) (eT (eP eN eI))) x_bulk_here), .dat ((eL (eT eN)) v1), .dat ((eW (eT (eP eN (eO eN)))) v2), .dat (eB (decide (v1 = ([] : List (List Nm))))), .un, .un, .un, .un, .un, .un, .un, .un, .un, .un, .un] _ _
        refine ss_cons (s_if (t_val (p := (decide (v1 = ([] : List (List Nm))))) (v_var 4)) (fun hc => ?_) (fun hc => ?_))
        · have h := cndT h hc
          obtain ⟨v11, hv11, h⟩ := bnd h
          have hx := h; subst hv11; have h := hx; clear hx
          show SsD _ [.dat ((eP (eT eN) (eT (eP eN (eO eN)))) x_task_here), .dat ((eP (eT (eP eN eI)) (eT (eP eN eI))) x_bulk_here), .dat ((eL (eT eN)) v1), .dat ((eT (eP eN (eO eN))) v11), .dat (eB (decide (v1 = ([] : List (List Nm))))), .un, .un, .un, .un, .un, .un, .un, .un, .un, .un, .un] _ _
          obtain ⟨v12, hv12, h⟩ := bnd h
          refine ss_cons (w_set 6 G (e_call c__law_walk rfl (a_cons (v_var 0) (a_cons (v_var 3) a_nil)) ⟨x_task_here, v11, v12, hv12, rfl, rfl, rfl⟩) ?_)
          show SsD _ [.dat ((eP (eT eN) (eT (eP eN (eO eN)))) x_task_here), .dat ((eP (eT (eP eN eI)) (eT (eP eN eI))) x_bulk_here), .dat ((eL (eT eN)) v1), .dat ((eT (eP eN (eO eN))) v11), .dat (eB (decide (v1 = ([] : List (List Nm))))), .un, .dat ((eO (eL (eM eN))) v12), .un, .un, .un, .un, .un, .un, .un, .un, .un] _ _
          obtain ⟨v16, hv16, h⟩ := bnd h
          refine ss_cons (s_if (t_w (w_or (p := v12.isNone) (q := v16) (vt_isN (f := (eL (eM eN))) (y := v12) (v_var 6)) (fun hc => by have h := cndF hv16 hc; obtain ⟨v13, hv13, h⟩ := bnd h; obtain ⟨v15, hv15, h⟩ := bnd h; obtain rfl := Option.some.inj h; exact (w_or (p := (!decide ((v11.length : Int) = v13))) (q := v15) (vt_ne (f := eI) (y := (v11.length : Int)) (z := v13) G (v_lenT (f := (eP eN (eO eN))) (l := v11) G (v_var 3)) (e_call c_fewest_moves rfl (a_cons (v_var 0) a_nil) ⟨x_task_here, v13, hv13, rfl, rfl, rfl⟩)) (fun hc => by have h := cndF hv15 hc; obtain ⟨v14, hv14, h⟩ := bnd h; obtain rfl := Option.some.inj h; exact (w_or1 (t_not (t_val (p := v14) (e_call c_is_plan_by_sizes rfl (a_cons (v_var 0) (a_cons (v_var 1) (a_cons (v_var 3) a_nil))) ⟨x_task_here, x_bulk_here, v11, v14, hv14, rfl, rfl, rfl⟩))))))))) (fun hc => ?_) (fun hc => ?_))
          · have h := cndT h hc
            obtain rfl := Option.some.inj h
            exact ss_cons (s_ret e_bl ⟨rfl, (by first | exact trivial | exact ⟨rfl, trivial⟩)⟩)
          · have h := cndF h hc
            refine ss_nil ?_
            show SsD _ [.dat ((eP (eT eN) (eT (eP eN (eO eN)))) x_task_here), .dat ((eP (eT (eP eN eI)) (eT (eP eN eI))) x_bulk_here), .dat ((eL (eT eN)) v1), .dat ((eT (eP eN (eO eN))) v11), .dat (eB (decide (v1 = ([] : List (List Nm))))), .un, .dat ((eO (eL (eM eN))) v12), .un, .un, .un, .un, .un, .un, .un, .un, .un] _ _
            obtain ⟨v17, hv17, h⟩ := bnd h
            have hx := h; subst hv17; have h := hx; clear hx
            show SsD _ [.dat ((eP (eT eN) (eT (eP eN (eO eN)))) x_task_here), .dat ((eP (eT (eP eN eI)) (eT (eP eN eI))) x_bulk_here), .dat ((eL (eT eN)) v1), .dat ((eT (eP eN (eO eN))) v11), .dat (eB (decide (v1 = ([] : List (List Nm))))), .un, .dat ((eL (eM eN)) v17), .un, .un, .un, .un, .un, .un, .un, .un, .un] _ _
            obtain ⟨v21, hv21, h⟩ := bnd h
            refine ss_cons (s_setLc (i := 7) G.calm G.nd rfl rfl (k_lcTD (g := (eS eI (eP eN (eO eN)))) (f := (eP eN (eO eN))) [("_law_k", 13), ("_law_haul", 14)] (fun (b18 : (Int × (Nm × (Option Nm)))) => [(13, eI b18.1), (14, (eP eN (eO eN)) b18.2)]) G hv21 ((it_ET (f := (eP eN (eO eN))) (l := v11) G (v_var 3))).l (.inl rfl) (fun s H C cl fp b18 hb => tg2S 13 14 G.calm G.nd) (fun z H C cl fp b18 y22 G hb h => by show TvD _ [.dat ((eP (eT eN) (eT (eP eN (eO eN)))) x_task_here), .dat ((eP (eT (eP eN eI)) (eT (eP eN eI))) x_bulk_here), .dat ((eL (eT eN)) v1), .dat ((eT (eP eN (eO eN))) v11), .dat (eB (decide (v1 = ([] : List (List Nm))))), .un, .dat ((eL (eM eN)) v17), .un, .un, .un, .un, .un, .un, .dat (eI b18.1), .dat ((eP eN (eO eN)) b18.2), .un] _ _ [.dat ((eP (eT eN) (eT (eP eN (eO eN)))) x_task_here), .dat ((eP (eT (eP eN eI)) (eT (eP eN eI))) x_bulk_here), .dat ((eL (eT eN)) v1), .dat ((eT (eP eN (eO eN))) v11), .dat (eB (decide (v1 = ([] : List (List Nm))))), .un, .dat ((eL (eM eN)) v17), .un, .un, .un, .un, .un, .un, .dat (eI b18.1), .dat ((eP eN (eO eN)) b18.2), .un]; obtain rfl := Option.some.inj h; exact (vt_notN (f := eN) (y := b18.2.2) (v_snd (f := eN) (g := (eO eN)) (y := b18.2) (v_var 14)))) (fun z H C cl fp b18 y22 G hb _ h => by show EvD _ [.dat ((eP (eT eN) (eT (eP eN (eO eN)))) x_task_here), .dat ((eP (eT (eP eN eI)) (eT (eP eN eI))) x_bulk_here), .dat ((eL (eT eN)) v1), .dat ((eT (eP eN (eO eN))) v11), .dat (eB (decide (v1 = ([] : List (List Nm))))), .un, .dat ((eL (eM eN)) v17), .un, .un, .un, .un, .un, .un, .dat (eI b18.1), .dat ((eP eN (eO eN)) b18.2), .un] _ _ [.dat ((eP (eT eN) (eT (eP eN (eO eN)))) x_task_here), .dat ((eP (eT (eP eN eI)) (eT (eP eN eI))) x_bulk_here), .dat ((eL (eT eN)) v1), .dat ((eT (eP eN (eO eN))) v11), .dat (eB (decide (v1 = ([] : List (List Nm))))), .un, .dat ((eL (eM eN)) v17), .un, .un, .un, .un, .un, .un, .dat (eI b18.1), .dat ((eP eN (eO eN)) b18.2), .un]; obtain ⟨v19, hv19, h⟩ := bnd h; obtain ⟨v20, hv20, h⟩ := bnd h; obtain rfl := Option.some.inj h; exact (v_pair (f := eN) (g := (eO eN)) (y := v20) (z := b18.2.2) (v_lk (f := eN) (l := v19) (k := b18.2.1) (y := v20) G hv20 (v_atL (f := (eM eN)) (l := v17) (y := v19) hv19 (v_var 6) (v_var 13)) (v_fst (f := eN) (g := (eO eN)) (y := b18.2) (v_var 14))) (v_snd (f := eN) (g := (eO eN)) (y := b18.2) (v_var 14))))) ?_ (by first | exact sw_true | rfl))
            show SsD _ [.dat ((eP (eT eN) (eT (eP eN (eO eN)))) x_task_here), .dat ((eP (eT (eP eN eI)) (eT (eP eN eI))) x_bulk_here), .dat ((eL (eT eN)) v1), .dat ((eT (eP eN (eO eN))) v11), .dat (eB (decide (v1 = ([] : List (List Nm))))), .un, .dat ((eL (eM eN)) v17), .own ((eL (eP eN (eO eN))) v21), .un, .un, .un, .un, .un, .un, .un, .un] _ _
            refine ss_freezeL 7 rfl ?_
            show SsD _ [.dat ((eP (eT eN) (eT (eP eN (eO eN)))) x_task_here), .dat ((eP (eT (eP eN eI)) (eT (eP eN eI))) x_bulk_here), .dat ((eL (eT eN)) v1), .dat ((eT (eP eN (eO eN))) v11), .dat (eB (decide (v1 = ([] : List (List Nm))))), .un, .dat ((eL (eM eN)) v17), .dat ((eL (eP eN (eO eN))) v21), .un, .un, .un, .un, .un, .un, .un, .un] _ _
            obtain ⟨v26, hv26, h⟩ := bnd h
            refine ss_cons (s_setLc (i := 8) G.calm G.nd rfl rfl (k_lcTD (g := (eP eN (eO eN))) (f := (eP eN (eO eN))) [("_law_own", 15)] (fun (b23 : (Nm × (Option Nm))) => [(15, (eP eN (eO eN)) b23)]) G hv26 ((it_L (f := (eP eN (eO eN))) (l := v21) (v_var 7))).l (.inl rfl) (fun s H C cl fp b23 hb => tg1 15 G.nd) (fun z H C cl fp b23 y27 G hb h => by show TvD _ [.dat ((eP (eT eN) (eT (eP eN (eO eN)))) x_task_here), .dat ((eP (eT (eP eN eI)) (eT (eP eN eI))) x_bulk_here), .dat ((eL (eT eN)) v1), .dat ((eT (eP eN (eO eN))) v11), .dat (eB (decide (v1 = ([] : List (List Nm))))), .un, .dat ((eL (eM eN)) v17), .dat ((eL (eP eN (eO eN))) v21), .un, .un, .un, .un, .un, .un, .un, .dat ((eP eN (eO eN)) b23)] _ _ [.dat ((eP (eT eN) (eT (eP eN (eO eN)))) x_task_here), .dat ((eP (eT (eP eN eI)) (eT (eP eN eI))) x_bulk_here), .dat ((eL (eT eN)) v1), .dat ((eT (eP eN (eO eN))) v11), .dat (eB (decide (v1 = ([] : List (List Nm))))), .un, .dat ((eL (eM eN)) v17), .dat ((eL (eP eN (eO eN))) v21), .un, .un, .un, .un, .un, .un, .un, .dat ((eP eN (eO eN)) b23)]; obtain ⟨v24, hv24, h⟩ := bnd h; obtain ⟨v25, hv25, h⟩ := bnd h; obtain rfl := Option.some.inj h; exact (t_not (t_val (p := v25) (e_call c__law_fits.blk rfl (a_cons (v_var 1) (a_cons (v_fst (f := eN) (g := (eO eN)) (y := b23) (v_var 15)) (a_cons (EvD.cast ((v_snd (f := eN) (g := (eO eN)) (y := b23) (v_var 15))) (show eO eN b23.2 = eN v24 from congrArg (eO eN) hv24)) a_nil))) ⟨x_bulk_here, b23.1, v24, v25, hv25, rfl, rfl, rfl⟩)))) (fun z H C cl fp b23 y27 G hb _ h => by show EvD _ [.dat ((eP (eT eN) (eT (eP eN (eO eN)))) x_task_here), .dat ((eP (eT (eP eN eI)) (eT (eP eN eI))) x_bulk_here), .dat ((eL (eT eN)) v1), .dat ((eT (eP eN (eO eN))) v11), .dat (eB (decide (v1 = ([] : List (List Nm))))), .un, .dat ((eL (eM eN)) v17), .dat ((eL (eP eN (eO eN))) v21), .un, .un, .un, .un, .un, .un, .un, .dat ((eP eN (eO eN)) b23)] _ _ [.dat ((eP (eT eN) (eT (eP eN (eO eN)))) x_task_here), .dat ((eP (eT (eP eN eI)) (eT (eP eN eI))) x_bulk_here), .dat ((eL (eT eN)) v1), .dat ((eT (eP eN (eO eN))) v11), .dat (eB (decide (v1 = ([] : List (List Nm))))), .un, .dat ((eL (eM eN)) v17), .dat ((eL (eP eN (eO eN))) v21), .un, .un, .un, .un, .un, .un, .un, .dat ((eP eN (eO eN)) b23)]; obtain rfl := Option.some.inj h; exact (v_var 15))) ?_ (by first | exact sw_true | rfl))
            show SsD _ [.dat ((eP (eT eN) (eT (eP eN (eO eN)))) x_task_here), .dat ((eP (eT (eP eN eI)) (eT (eP eN eI))) x_bulk_here), .dat ((eL (eT eN)) v1), .dat ((eT (eP eN (eO eN))) v11), .dat (eB (decide (v1 = ([] : List (List Nm))))), .un, .dat ((eL (eM eN)) v17), .dat ((eL (eP eN (eO eN))) v21), .own ((eL (eP eN (eO eN))) v26), .un, .un, .un, .un, .un, .un, .un] _ _
            refine ss_freezeL 8 rfl ?_
            show SsD _ [.dat ((eP (eT eN) (eT (eP eN (eO eN)))) x_task_here), .dat ((eP (eT (eP eN eI)) (eT (eP eN eI))) x_bulk_here), .dat ((eL (eT eN)) v1), .dat ((eT (eP eN (eO eN))) v11), .dat (eB (decide (v1 = ([] : List (List Nm))))), .un, .dat ((eL (eM eN)) v17), .dat ((eL (eP eN (eO eN))) v21), .dat ((eL (eP eN (eO eN))) v26), .un, .un, .un, .un, .un, .un, .un] _ _
            obtain ⟨v28, hv28, h⟩ := bnd h
            obtain ⟨v29, hv29, h⟩ := bnd h
            obtain ⟨v32, hv32, h⟩ := bnd h
            obtain rfl := Option.some.inj h
            exact ss_cons (s_ret (e_and (p := v29) (q := v32) (e_call c__law_right_end rfl (a_cons (v_var 0) (a_cons (v_atL (f := (eM eN)) (l := v17) (y := v28) hv28 (v_var 6) (e_neg e_int)) a_nil)) ⟨x_task_here, v28, v29, hv29, rfl, rfl, rfl⟩) (fun hc => by have h := cndT hv32 hc; obtain ⟨v31, hv31, h⟩ := bnd h; obtain rfl := Option.some.inj h; exact (e_and (p := (decide (v26 = ([] : List (Nm × (Option Nm)))))) (q := v31) (v_eq (f := (eL (eP eN (eO eN)))) (y := v26) (z := ([] : List (Nm × (Option Nm)))) G (v_var 8) ((n_lstV (f := (eP eN (eO eN))) (l := ([] : List (Nm × (Option Nm)))) rfl va_nil)).ev) (fun hc => by have h := cndT hv31 hc; obtain ⟨v30, hv30, h⟩ := bnd h; obtain rfl := Option.some.inj h; exact (e_one (v_eq (f := (eO eI)) (y := v30) (z := (some (0 : Int))) G (e_call c_place_needed rfl (a_cons (v_var 0) (a_cons (v_var 1) a_nil)) ⟨x_task_here, x_bulk_here, v30, hv30, rfl, rfl, rfl⟩) e_int)))))) ⟨rfl, (by first | exact trivial | exact ⟨rfl, trivial⟩)⟩)
        · have h := cndF h hc
          refine ss_nil ?_
          show SsD _ [.dat ((eP (eT eN) (eT (eP eN (eO eN)))) x_task_here), .dat ((eP (eT (eP eN eI)) (eT (eP eN eI))) x_bulk_here), .dat ((eL (eT eN)) v1), .dat ((eW (eT (eP eN (eO eN)))) v2), .dat (eB (decide (v1 = ([] : List (List Nm))))), .un, .un, .un, .un, .un, .un, .un, .un, .un, .un, .un] _ _
          obtain ⟨v33, hv33, h⟩ := bnd h
          obtain ⟨v34, hv34, h⟩ := bnd h
          refine ss_cons (w_set 9 G (EvD.cast ((e_call c_place_needed rfl (a_cons (v_var 0) (a_cons (v_var 1) a_nil)) ⟨x_task_here, x_bulk_here, v33, hv33, rfl, rfl, rfl⟩)) (show eO eI v33 = eI v34 from congrArg (eO eI) hv34)) ?_)
          show SsD _ [.dat ((eP (eT eN) (eT (eP eN (eO eN)))) x_task_here), .dat ((eP (eT (eP eN eI)) (eT (eP eN eI))) x_bulk_here), .dat ((eL (eT eN)) v1), .dat ((eW (eT (eP eN (eO eN)))) v2), .dat (eB (decide (v1 = ([] : List (List Nm))))), .un, .un, .un, .un, .dat (eI v34), .un, .un, .un, .un, .un, .un] _ _
          obtain ⟨o42, ho42, h⟩ := bnd h
          refine ss_cons (k_for (g := eI) (fun (s35 : Unit) => [.dat ((eP (eT eN) (eT (eP eN (eO eN)))) x_task_here), .dat ((eP (eT (eP eN eI)) (eT (eP eN eI))) x_bulk_here), .dat ((eL (eT eN)) v1), .dat ((eW (eT (eP eN (eO eN)))) v2), .dat (eB (decide (v1 = ([] : List (List Nm))))), .un, .un, .un, .un, .dat (eI v34), .un, .un, .un, .un, .un, .un]) (fun (b36 : Int) => [(10, eI b36)]) (fun r d δ' => d = eB r ∧ parsOk [.dat ((eP (eT eN) (eT (eP eN (eO eN)))) x_task_here), .dat ((eP (eT (eP eN eI)) (eT (eP eN eI))) x_bulk_here)] δ') G PassesOwn.never ho42 (it_T (f := eI) (l := [v34, (v34 - (1 : Int))]) (e_tup (ds := [eI (v34), eI ((v34 - (1 : Int)))]) (a_cons (v_var 9) (a_cons (e_sub (v_var 9) e_int) a_nil)) (show 2 ≤ sizeLine by decide))) (fun b36 hb => tg1 10 G.nd) (fun s35 b36 => by intro z hz; simp at hz; subst hz; rfl) (fun s35 b36 t hb h => ?_) (fun s35 e => ?_) (fun r d δ' e hr => ?_))
          · show SsD _ [.dat ((eP (eT eN) (eT (eP eN (eO eN)))) x_task_here), .dat ((eP (eT (eP eN eI)) (eT (eP eN eI))) x_bulk_here), .dat ((eL (eT eN)) v1), .dat ((eW (eT (eP eN (eO eN)))) v2), .dat (eB (decide (v1 = ([] : List (List Nm))))), .un, .un, .un, .un, .dat (eI v34), .dat (eI b36), .un, .un, .un, .un, .un] _ _
            obtain ⟨u37, hu37, h⟩ := bnd h
            obtain ⟨u38, hu38, h⟩ := bnd h
            refine ss_cons (w_set 11 G (v_pair (f := (eT eN)) (g := (eT (eP eN (eO eN)))) (y := (isort leN (x_task_here.1 ++ ((12 : Nm) :: ([] : List Nm))))) (z := x_task_here.2) (v_tupL (f := eN) (l := (isort leN (x_task_here.1 ++ ((12 : Nm) :: ([] : List Nm))))) G ((n_srtT (f := eN) (l := (x_task_here.1 ++ ((12 : Nm) :: ([] : List Nm)))) G (v_catT (f := eN) (l := x_task_here.1) (m := ((12 : Nm) :: ([] : List Nm))) (chk_of hu37) (chk_of hu38) (v_fst (f := (eT eN)) (g := (eT (eP eN (eO eN)))) (y := x_task_here) (v_var 0)) (e_tupV (f := eN) (l := ((12 : Nm) :: ([] : List Nm))) rfl (va_cons (f := eN) (y := (12 : Nm)) (v_nm 12) va_nil))))).ev) (v_snd (f := (eT eN)) (g := (eT (eP eN (eO eN)))) (y := x_task_here) (v_var 0))) ?_)
            show SsD _ [.dat ((eP (eT eN) (eT (eP eN (eO eN)))) x_task_here), .dat ((eP (eT (eP eN eI)) (eT (eP eN eI))) x_bulk_here), .dat ((eL (eT eN)) v1), .dat ((eW (eT (eP eN (eO eN)))) v2), .dat (eB (decide (v1 = ([] : List (List Nm))))), .un, .un, .un, .un, .dat (eI v34), .dat (eI b36), .dat ((eP (eT eN) (eT (eP eN (eO eN)))) ((isort leN (x_task_here.1 ++ ((12 : Nm) :: ([] : List Nm)))), x_task_here.2)), .un, .un, .un, .un] _ _
            obtain ⟨u39, hu39, h⟩ := bnd h
            obtain ⟨u40, hu40, h⟩ := bnd h
            refine ss_cons (w_set 12 G (v_pair (f := (eT (eP eN eI))) (g := (eT (eP eN eI))) (y := (isort lePI (x_bulk_here.1 ++ (((12 : Nm), b36) :: ([] : List (Nm × Int)))))) (z := x_bulk_here.2) (v_tupL (f := (eP eN eI)) (l := (isort lePI (x_bulk_here.1 ++ (((12 : Nm), b36) :: ([] : List (Nm × Int)))))) G ((n_srtT (f := (eP eN eI)) (l := (x_bulk_here.1 ++ (((12 : Nm), b36) :: ([] : List (Nm × Int))))) G (v_catT (f := (eP eN eI)) (l := x_bulk_here.1) (m := (((12 : Nm), b36) :: ([] : List (Nm × Int)))) (chk_of hu39) (chk_of hu40) (v_fst (f := (eT (eP eN eI))) (g := (eT (eP eN eI))) (y := x_bulk_here) (v_var 1)) (e_tupV (f := (eP eN eI)) (l := (((12 : Nm), b36) :: ([] : List (Nm × Int)))) rfl (va_cons (f := (eP eN eI)) (y := ((12 : Nm), b36)) (v_pair (f := eN) (g := eI) (y := (12 : Nm)) (z := b36) (v_nm 12) (v_var 10)) va_nil))))).ev) (v_snd (f := (eT (eP eN eI))) (g := (eT (eP eN eI))) (y := x_bulk_here) (v_var 1))) ?_)
            show SsD _ [.dat ((eP (eT eN) (eT (eP eN (eO eN)))) x_task_here), .dat ((eP (eT (eP eN eI)) (eT (eP eN eI))) x_bulk_here), .dat ((eL (eT eN)) v1), .dat ((eW (eT (eP eN (eO eN)))) v2), .dat (eB (decide (v1 = ([] : List (List Nm))))), .un, .un, .un, .un, .dat (eI v34), .dat (eI b36), .dat ((eP (eT eN) (eT (eP eN (eO eN)))) ((isort leN (x_task_here.1 ++ ((12 : Nm) :: ([] : List Nm)))), x_task_here.2)), .dat ((eP (eT (eP eN eI)) (eT (eP eN eI))) ((isort lePI (x_bulk_here.1 ++ (((12 : Nm), b36) :: ([] : List (Nm × Int))))), x_bulk_here.2)), .un, .un, .un] _ _
            obtain ⟨v41, hv41, h⟩ := bnd h
            refine ss_cons (s_if (vt_ne (f := eB) (y := v41) (z := (decide (b36 = v34))) G (e_call c_can_be_done_by rfl (a_cons (v_var 11) (a_cons (v_var 12) a_nil)) ⟨((isort leN (x_task_here.1 ++ ((12 : Nm) :: ([] : List Nm)))), x_task_here.2), ((isort lePI (x_bulk_here.1 ++ (((12 : Nm), b36) :: ([] : List (Nm × Int))))), x_bulk_here.2), v41, hv41, rfl, rfl, rfl⟩) (v_eq (f := eI) (y := b36) (z := v34) G (v_var 10) (v_var 9))) (fun hc => ?_) (fun hc => ?_))
            · have h := cndT h hc
              exact ss_cons (s_ret e_bl ⟨_, (Option.some.inj h).symm, rfl, (by first | exact trivial | exact ⟨rfl, trivial⟩)⟩)
            · have h := cndF h hc
              refine ss_nil ?_
              show SsD _ [.dat ((eP (eT eN) (eT (eP eN (eO eN)))) x_task_here), .dat ((eP (eT (eP eN eI)) (eT (eP eN eI))) x_bulk_here), .dat ((eL (eT eN)) v1), .dat ((eW (eT (eP eN (eO eN)))) v2), .dat (eB (decide (v1 = ([] : List (List Nm))))), .un, .un, .un, .un, .dat (eI v34), .dat (eI b36), .dat ((eP (eT eN) (eT (eP eN (eO eN)))) ((isort leN (x_task_here.1 ++ ((12 : Nm) :: ([] : List Nm)))), x_task_here.2)), .dat ((eP (eT (eP eN eI)) (eT (eP eN eI))) ((isort lePI (x_bulk_here.1 ++ (((12 : Nm), b36) :: ([] : List (Nm × Int))))), x_bulk_here.2)), .un, .un, .un] _ _
              refine ss_forget 10 ?_
              refine ss_forget 11 ?_
              refine ss_forget 12 ?_
              exact ss_nil ⟨_, (Option.some.inj h).symm, rfl⟩
          · subst e
            have h : _ = some _ := h
            show SsD _ [.dat ((eP (eT eN) (eT (eP eN (eO eN)))) x_task_here), .dat ((eP (eT (eP eN eI)) (eT (eP eN eI))) x_bulk_here), .dat ((eL (eT eN)) v1), .dat ((eW (eT (eP eN (eO eN)))) v2), .dat (eB (decide (v1 = ([] : List (List Nm))))), .un, .un, .un, .un, .dat (eI v34), .un, .un, .un, .un, .un, .un] _ _
            obtain rfl := Option.some.inj h
            exact ss_cons (s_ret (e_gt (i := v34) (j := (0 : Int)) (v_var 9) e_int) ⟨rfl, (by first | exact trivial | exact ⟨rfl, trivial⟩)⟩)
          · subst e
            obtain rfl := Option.some.inj h
            exact hr
end
end ND

/-! G8 -/
set_option Elab.async false
set_option linter.all false
set_option maxRecDepth 100000
set_option maxHeartbeats 4000000
namespace ND
open PySem PySem.Spec PyProof.Rows L2 NA
section
variable {P : Program} {w : World} {K : PySem.W.Frag} {mg : Str → Option Value} {base : Heap}

def m__law_right (x_tin : (Int × Int × Int)) : Option (Bool × (Int × Int × Int)) :=
  (chk (decide (0 ≤ (7 : Int) ∧ (7 : Int) < 2000))).bind fun u1 =>
  (forM (R := (Bool × (Int × Int × Int))) (fun (s2 : (Int × Int × Int)) (b3 : Int) => (m__law_task s2 (5 : Int) (3 : Int)).bind fun v4 =>
  (m__law_bulk v4.2 v4.1).bind fun v5 =>
  (m__law_case_right v4.1 v5.1).bind fun v6 =>
  bif (!v6) then (some (.inr (false, v5.2))) else (some (.inl v5.2))) (rng (7 : Int)) x_tin).bind fun o7 => match o7 with
  | .inl s2 => (some (true, s2))
  | .inr r => some r
def T__law_right : FT := fun as r as' => ∃ (x_tin : (Int × Int × Int)) (y : (Bool × (Int × Int × Int))), m__law_right x_tin = some y ∧ as = [.par (eK x_tin)] ∧ r = eB y.1 ∧ as' = [.par (eK y.2)]
theorem sc__law_right : FnScope ["_law_tin", "_law_turn", "_law_task_here"] ["_law_tin"] (defScope s__law_right) := ⟨rfl, rfl, rfl, by decide +kernel, rfl, by decide +kernel, by decide +kernel⟩
theorem can__law_right (F : Def1 K mg "_law_right" s__law_right) (fr : Fre mg) (c__law_task : Can P w K mg base "_law_task" ["_law_tin", "_law_many", "_law_full"] 3 T__law_task) (c__law_case_right : Can P w K mg base "_law_case_right" ["_law_task_here", "_law_bulk_here"] 33 T__law_case_right) (c__law_bulk : Can P w K mg base "_law_bulk" ["_law_tin", "_law_task_here"] 2 T__law_bulk) : Can P w K mg base "_law_right" ["_law_tin"] 34 (T__law_right) := by
  refine can_of F sc__law_right (by decide) fr (fun f fd h => h.bindsN fun _ _ _ _ _ _ us hl => match us, hl with | [_], _ => rfl) ?_ ?_
  · rintro as r as' ⟨x_tin, y, h, rfl, rfl, rfl⟩
    refine ⟨rfl, rfl, fun i hi => ?_⟩
    match i, hi with
    | 0, hi => cases hi
    | _ + 1, _ => exact ⟨rfl, rfl⟩
  · rintro f cdv A outer s0 H E as r as' hr G ⟨x_tin, y, h, rfl, rfl, rfl⟩
    replace c__law_task := c__law_task.cal (hr.mono (by omega)) (N := ["_law_tin", "_law_turn", "_law_task_here"]) (cdv := cdv) (outer := outer) (H := H) (E := E)
    replace c__law_case_right := c__law_case_right.cal (hr.mono (by omega)) (N := ["_law_tin", "_law_turn", "_law_task_here"]) (cdv := cdv) (outer := outer) (H := H) (E := E)
    replace c__law_bulk := c__law_bulk.cal (hr.mono (by omega)) (N := ["_law_tin", "_law_turn", "_law_task_here"]) (cdv := cdv) (outer := outer) (H := H) (E := E)
    show SsD _ [.par (eK x_tin), .un, .un] _ _
    obtain ⟨u1, hu1, h⟩ := bnd h
    obtain ⟨o7, ho7, h⟩ := bnd h
    refine ss_cons (k_for (g := eI) (fun (s2 : (Int × Int × Int)) => [.par (eK s2), .un, .un]) (fun (b3 : Int) => [(1, eI b3)]) (fun r d δ' => d = eB r.1 ∧ parsOk [.par (eK r.2)] δ') G PassesOwn.never ho7 (it_R (n := (7 : Int)) G (chk_of hu1) e_int) (fun b3 hb => tg1 1 G.nd) (fun s2 b3 => by intro z hz; simp at hz; subst hz; rfl) (fun s2 b3 t hb h => ?_) (fun s2 e => ?_) (fun r d δ' e hr => ?_))
    · show SsD _ [.par (eK s2), .dat (eI b3), .un] _ _
      obtain ⟨v4, hv4, h⟩ := bnd h
      refine ss_cons (w_set 2 G (e_callO (d := eK s2) (d' := eK v4.2) c__law_task rfl [] [eI (5 : Int), eI (3 : Int)] (m_own (i := 0) rfl (by first | exact .inl rfl | exact .inr (.inl rfl)) rfl (m_dat e_int (m_dat e_int m_nil))) (.inr rfl) ⟨s2, (5 : Int), (3 : Int), v4, hv4, rfl, rfl, rfl⟩) ?_)
      show SsD _ [.par (eK v4.2), .dat (eI b3), .dat ((eP (eT eN) (eT (eP eN (eO eN)))) v4.1)] _ _
      obtain ⟨v5, hv5, h⟩ := bnd h
      obtain ⟨v6, hv6, h⟩ := bnd h
      refine ss_cons (s_if (t_not (t_val (p := v6) (e_call c__law_case_right rfl (a_cons (v_var 2) (a_cons (e_callO (d := eK v4.2) (d' := eK v5.2) c__law_bulk rfl [] [(eP (eT eN) (eT (eP eN (eO eN)))) v4.1] (m_own (i := 0) rfl (by first | exact .inl rfl | exact .inr (.inl rfl)) rfl (m_dat (v_var 2) m_nil)) (.inr rfl) ⟨v4.2, v4.1, v5, hv5, rfl, rfl, rfl⟩) a_nil)) ⟨v4.1, v5.1, v6, hv6, rfl, rfl, rfl⟩))) (fun hc => ?_) (fun hc => ?_))
      · have h := cndT h hc
        exact ss_cons (s_ret e_bl ⟨_, (Option.some.inj h).symm, rfl, (by first | exact trivial | exact ⟨rfl, trivial⟩)⟩)
      · have h := cndF h hc
        refine ss_nil ?_
        show SsD _ [.par (eK v5.2), .dat (eI b3), .dat ((eP (eT eN) (eT (eP eN (eO eN)))) v4.1)] _ _
        refine ss_forget 1 ?_
        refine ss_forget 2 ?_
        exact ss_nil ⟨_, (Option.some.inj h).symm, rfl⟩
    · subst e
      have h : _ = some _ := h
      show SsD _ [.par (eK s2), .un, .un] _ _
      obtain rfl := Option.some.inj h
      exact ss_cons (s_ret e_bl ⟨rfl, (by first | exact trivial | exact ⟨rfl, trivial⟩)⟩)
    · subst e
      obtain rfl := Option.some.inj h
      exact hr
end
end ND

/-! NDhr -/
set_option Elab.async false
set_option linter.all false
set_option maxRecDepth 100000
set_option maxHeartbeats 4000000
namespace ND
open PySem PySem.Spec PyProof.Rows L2 NA
theorem handEq {a b : Bool} {c r : List (List Nm)} {e f : Option Int} (h : decide (a = true ∧ b = false ∧ c = r ∧ e = some 2 ∧ f = some 0) = true) : ([eB a, eB b, eT (eT eN) c] ++ [eO eI e, eO eI f] : List D) = [eB true, eB false, eT (eT eN) r, eI 2, eI 0] := by
  obtain ⟨rfl, rfl, rfl, rfl, rfl⟩ := of_decide_eq_true h
  rfl
theorem sam_hand {r : List (List Nm)} : samOk 5 (.lst [eB true, eB false, eT (eT eN) r, eI 2, eI 0]) = true := by
  have h2 : ∀ r : List Nm, samOk 3 (eT eN r) = true := fun r => List.all_eq_true.mpr fun b hb => by
    obtain ⟨x, _, rfl⟩ := List.mem_map.mp hb
    exact sam_nm x
  have h1 : samOk 4 (eT (eT eN) r) = true := List.all_eq_true.mpr fun b hb => by
    obtain ⟨x, _, rfl⟩ := List.mem_map.mp hb
    exact h2 x
  show ([eB true, eB false, eT (eT eN) r, eI 2, eI 0] : List D).all (samOk 4) = true
  simp only [List.all_cons, List.all_nil, h1, sam_bl, Bool.and_true, Bool.true_and]
  rfl
end ND

/-! G10 -/
set_option Elab.async false
set_option linter.all false
set_option maxRecDepth 100000
set_option maxHeartbeats 4000000
namespace ND
open PySem PySem.Spec PyProof.Rows L2 NA
section
variable {P : Program} {w : World} {K : PySem.W.Frag} {mg : Str → Option Value} {base : Heap}

def m__law_hand_right  : Option Bool :=
  (m_can_be_done_by (((2 : Nm) :: ((3 : Nm) :: ((4 : Nm) :: ((5 : Nm) :: ((11 : Nm) :: ([] : List Nm)))))), (((2 : Nm), (some (3 : Nm))) :: (((3 : Nm), (some (2 : Nm))) :: (((4 : Nm), (some (5 : Nm))) :: (((5 : Nm), (some (4 : Nm))) :: ([] : List (Nm × (Option Nm)))))))) ((((2 : Nm), (2 : Int)) :: (((3 : Nm), (2 : Int)) :: (((4 : Nm), (3 : Int)) :: (((5 : Nm), (3 : Int)) :: (((11 : Nm), (1 : Int)) :: ([] : List (Nm × Int))))))), (((2 : Nm), (1 : Int)) :: (((3 : Nm), (2 : Int)) :: (((4 : Nm), (2 : Int)) :: (((5 : Nm), (3 : Int)) :: ([] : List (Nm × Int)))))))).bind fun v1 =>
  (m_can_be_done_by (((2 : Nm) :: ((3 : Nm) :: ((4 : Nm) :: ((5 : Nm) :: ((11 : Nm) :: ([] : List Nm)))))), (((2 : Nm), (some (3 : Nm))) :: (((3 : Nm), (some (2 : Nm))) :: (((4 : Nm), (some (5 : Nm))) :: (((5 : Nm), (some (4 : Nm))) :: ([] : List (Nm × (Option Nm)))))))) (((((2 : Nm), (2 : Int)) :: (((3 : Nm), (2 : Int)) :: (((4 : Nm), (3 : Int)) :: (((5 : Nm), (3 : Int)) :: (((11 : Nm), (1 : Int)) :: ([] : List (Nm × Int))))))), (((2 : Nm), (1 : Int)) :: (((3 : Nm), (2 : Int)) :: (((4 : Nm), (2 : Int)) :: (((5 : Nm), (3 : Int)) :: ([] : List (Nm × Int))))))).1, (((2 : Nm), (2 : Int)) :: (((3 : Nm), (2 : Int)) :: (((4 : Nm), (2 : Int)) :: (((5 : Nm), (3 : Int)) :: ([] : List (Nm × Int)))))))).bind fun v2 =>
  (m_shut_rings (((2 : Nm) :: ((3 : Nm) :: ((4 : Nm) :: ((5 : Nm) :: ((11 : Nm) :: ([] : List Nm)))))), (((2 : Nm), (some (3 : Nm))) :: (((3 : Nm), (some (2 : Nm))) :: (((4 : Nm), (some (5 : Nm))) :: (((5 : Nm), (some (4 : Nm))) :: ([] : List (Nm × (Option Nm)))))))) (((((2 : Nm), (2 : Int)) :: (((3 : Nm), (2 : Int)) :: (((4 : Nm), (3 : Int)) :: (((5 : Nm), (3 : Int)) :: (((11 : Nm), (1 : Int)) :: ([] : List (Nm × Int))))))), (((2 : Nm), (1 : Int)) :: (((3 : Nm), (2 : Int)) :: (((4 : Nm), (2 : Int)) :: (((5 : Nm), (3 : Int)) :: ([] : List (Nm × Int))))))).1, (((2 : Nm), (2 : Int)) :: (((3 : Nm), (2 : Int)) :: (((4 : Nm), (2 : Int)) :: (((5 : Nm), (3 : Int)) :: ([] : List (Nm × Int)))))))).bind fun v3 =>
  (m_place_needed (((2 : Nm) :: ((3 : Nm) :: ((4 : Nm) :: ((5 : Nm) :: ((11 : Nm) :: ([] : List Nm)))))), (((2 : Nm), (some (3 : Nm))) :: (((3 : Nm), (some (2 : Nm))) :: (((4 : Nm), (some (5 : Nm))) :: (((5 : Nm), (some (4 : Nm))) :: ([] : List (Nm × (Option Nm)))))))) (((((2 : Nm), (2 : Int)) :: (((3 : Nm), (2 : Int)) :: (((4 : Nm), (3 : Int)) :: (((5 : Nm), (3 : Int)) :: (((11 : Nm), (1 : Int)) :: ([] : List (Nm × Int))))))), (((2 : Nm), (1 : Int)) :: (((3 : Nm), (2 : Int)) :: (((4 : Nm), (2 : Int)) :: (((5 : Nm), (3 : Int)) :: ([] : List (Nm × Int))))))).1, (((2 : Nm), (2 : Int)) :: (((3 : Nm), (2 : Int)) :: (((4 : Nm), (2 : Int)) :: (((5 : Nm), (3 : Int)) :: ([] : List (Nm × Int)))))))).bind fun v4 =>
  (m_place_needed (((2 : Nm) :: ((3 : Nm) :: ((4 : Nm) :: ((5 : Nm) :: ((11 : Nm) :: ([] : List Nm)))))), (((2 : Nm), (some (3 : Nm))) :: (((3 : Nm), (some (2 : Nm))) :: (((4 : Nm), (some (5 : Nm))) :: (((5 : Nm), (some (4 : Nm))) :: ([] : List (Nm × (Option Nm)))))))) ((((2 : Nm), (2 : Int)) :: (((3 : Nm), (2 : Int)) :: (((4 : Nm), (3 : Int)) :: (((5 : Nm), (3 : Int)) :: (((11 : Nm), (1 : Int)) :: ([] : List (Nm × Int))))))), (((2 : Nm), (1 : Int)) :: (((3 : Nm), (2 : Int)) :: (((4 : Nm), (2 : Int)) :: (((5 : Nm), (3 : Int)) :: ([] : List (Nm × Int)))))))).bind fun v5 =>
  (m_rings (((2 : Nm) :: ((3 : Nm) :: ((4 : Nm) :: ((5 : Nm) :: ((11 : Nm) :: ([] : List Nm)))))), (((2 : Nm), (some (3 : Nm))) :: (((3 : Nm), (some (2 : Nm))) :: (((4 : Nm), (some (5 : Nm))) :: (((5 : Nm), (some (4 : Nm))) :: ([] : List (Nm × (Option Nm))))))))).bind fun v6 =>
  (chk (decide (v1 = true ∧ v2 = false ∧ v3 = v6 ∧ v4 = some 2 ∧ v5 = some 0))).bind fun v7 =>
  (m__law_case_right (((2 : Nm) :: ((3 : Nm) :: ((4 : Nm) :: ((5 : Nm) :: ((11 : Nm) :: ([] : List Nm)))))), (((2 : Nm), (some (3 : Nm))) :: (((3 : Nm), (some (2 : Nm))) :: (((4 : Nm), (some (5 : Nm))) :: (((5 : Nm), (some (4 : Nm))) :: ([] : List (Nm × (Option Nm)))))))) (((((2 : Nm), (2 : Int)) :: (((3 : Nm), (2 : Int)) :: (((4 : Nm), (3 : Int)) :: (((5 : Nm), (3 : Int)) :: (((11 : Nm), (1 : Int)) :: ([] : List (Nm × Int))))))), (((2 : Nm), (1 : Int)) :: (((3 : Nm), (2 : Int)) :: (((4 : Nm), (2 : Int)) :: (((5 : Nm), (3 : Int)) :: ([] : List (Nm × Int))))))).1, (((2 : Nm), (2 : Int)) :: (((3 : Nm), (2 : Int)) :: (((4 : Nm), (2 : Int)) :: (((5 : Nm), (3 : Int)) :: ([] : List (Nm × Int)))))))).bind fun v8 =>
  (bif (!v8) then some true else ((m__law_case_right (((0 : Nm) :: ((1 : Nm) :: ((2 : Nm) :: ((3 : Nm) :: ([] : List Nm))))), (((0 : Nm), (some (1 : Nm))) :: (((2 : Nm), (some (3 : Nm))) :: (((3 : Nm), (some (2 : Nm))) :: ([] : List (Nm × (Option Nm))))))) ((((0 : Nm), (4 : Int)) :: (((1 : Nm), (1 : Int)) :: (((2 : Nm), (2 : Int)) :: (((3 : Nm), (2 : Int)) :: ([] : List (Nm × Int)))))), (((0 : Nm), (1 : Int)) :: (((2 : Nm), (2 : Int)) :: (((3 : Nm), (2 : Int)) :: ([] : List (Nm × Int))))))).bind fun v9 =>
  some (!v9))).bind fun v10 =>
  bif ((!v8) || v10) then (some false) else ((chk (!(((0 : Nm), (1 : Int)) :: ([] : List (Nm × Int))).isEmpty)).bind fun u11 =>
  (chk (decide ((((0 : Nm), (1 : Int)) :: ([] : List (Nm × Int))).length + (cutD ((((0 : Nm), (4 : Int)) :: (((1 : Nm), (1 : Int)) :: (((2 : Nm), (2 : Int)) :: (((3 : Nm), (2 : Int)) :: ([] : List (Nm × Int)))))), (((0 : Nm), (1 : Int)) :: (((2 : Nm), (2 : Int)) :: (((3 : Nm), (2 : Int)) :: ([] : List (Nm × Int)))))).1 (some (1 : Int)) none).length < 2000))).bind fun u12 =>
  (m__law_case_right (((0 : Nm) :: ((1 : Nm) :: ((2 : Nm) :: ((3 : Nm) :: ([] : List Nm))))), (((0 : Nm), (some (1 : Nm))) :: (((2 : Nm), (some (3 : Nm))) :: (((3 : Nm), (some (2 : Nm))) :: ([] : List (Nm × (Option Nm))))))) (((((0 : Nm), (1 : Int)) :: ([] : List (Nm × Int))) ++ (cutD ((((0 : Nm), (4 : Int)) :: (((1 : Nm), (1 : Int)) :: (((2 : Nm), (2 : Int)) :: (((3 : Nm), (2 : Int)) :: ([] : List (Nm × Int)))))), (((0 : Nm), (1 : Int)) :: (((2 : Nm), (2 : Int)) :: (((3 : Nm), (2 : Int)) :: ([] : List (Nm × Int)))))).1 (some (1 : Int)) none)), ((((0 : Nm), (4 : Int)) :: (((1 : Nm), (1 : Int)) :: (((2 : Nm), (2 : Int)) :: (((3 : Nm), (2 : Int)) :: ([] : List (Nm × Int)))))), (((0 : Nm), (1 : Int)) :: (((2 : Nm), (2 : Int)) :: (((3 : Nm), (2 : Int)) :: ([] : List (Nm × Int)))))).2)).bind fun v13 =>
  some v13)
def T__law_hand_right : FT := fun as r as' => ∃  (y : Bool), m__law_hand_right  = some y ∧ as = [] ∧ r = eB y ∧ as' = as
theorem sc__law_hand_right : FnScope ["_law_four_so", "_law_bulk_here", "_law_tight", "_law_got", "_law_one_so", "_law_wide"] [] (defScope s__law_hand_right) := ⟨rfl, rfl, rfl, by decide +kernel, rfl, by decide +kernel, by decide +kernel⟩
theorem can__law_hand_right (F : Def1 K mg "_law_hand_right" s__law_hand_right) (fr : Fre mg) (c_can_be_done_by : Can P w K mg base "can_be_done_by" ["job", "sizes"] 9 T_can_be_done_by) (c_shut_rings : Can P w K mg base "shut_rings" ["job", "sizes"] 8 T_shut_rings) (c_place_needed : Can P w K mg base "place_needed" ["job", "sizes"] 10 T_place_needed) (c_rings : Can P w K mg base "rings" ["job"] 6 T_rings) (c__law_same : Can P w K mg base "_law_same" ["_law_got", "_law_due"] 6 (T_same 5)) (c__law_case_right : Can P w K mg base "_law_case_right" ["_law_task_here", "_law_bulk_here"] 33 T__law_case_right) : Can P w K mg base "_law_hand_right" [] 34 (T__law_hand_right) := by
  refine can_of F sc__law_hand_right (by decide) fr (fun f fd h => h.bindsN fun _ _ _ _ _ _ us hl => match us, hl with | [], _ => rfl) ?_ ?_
  · rintro as r as' ⟨y, h, rfl, rfl, rfl⟩
    exact shp_dat [] rfl rfl rfl
  · rintro f cdv A outer s0 H E as r as' hr G ⟨y, h, rfl, rfl, rfl⟩
    replace c_can_be_done_by := c_can_be_done_by.cal (hr.mono (by omega)) (N := ["_law_four_so", "_law_bulk_here", "_law_tight", "_law_got", "_law_one_so", "_law_wide"]) (cdv := cdv) (outer := outer) (H := H) (E := E)
    replace c_shut_rings := c_shut_rings.cal (hr.mono (by omega)) (N := ["_law_four_so", "_law_bulk_here", "_law_tight", "_law_got", "_law_one_so", "_law_wide"]) (cdv := cdv) (outer := outer) (H := H) (E := E)
    replace c_place_needed := c_place_needed.cal (hr.mono (by omega)) (N := ["_law_four_so", "_law_bulk_here", "_law_tight", "_law_got", "_law_one_so", "_law_wide"]) (cdv := cdv) (outer := outer) (H := H) (E := E)
    replace c_rings := c_rings.cal (hr.mono (by omega)) (N := ["_law_four_so", "_law_bulk_here", "_law_tight", "_law_got", "_law_one_so", "_law_wide"]) (cdv := cdv) (outer := outer) (H := H) (E := E)
    replace c__law_same := c__law_same.cal (hr.mono (by omega)) (N := ["_law_four_so", "_law_bulk_here", "_law_tight", "_law_got", "_law_one_so", "_law_wide"]) (cdv := cdv) (outer := outer) (H := H) (E := E)
    replace c__law_case_right := c__law_case_right.cal (hr.mono (by omega)) (N := ["_law_four_so", "_law_bulk_here", "_law_tight", "_law_got", "_law_one_so", "_law_wide"]) (cdv := cdv) (outer := outer) (H := H) (E := E)
    show SsD _ [.un, .un, .un, .un, .un, .un] _ _
    refine ss_cons (w_set 0 G (v_pair (f := (eT eN)) (g := (eT (eP eN (eO eN)))) (y := ((2 : Nm) :: ((3 : Nm) :: ((4 : Nm) :: ((5 : Nm) :: ((11 : Nm) :: ([] : List Nm))))))) (z := (((2 : Nm), (some (3 : Nm))) :: (((3 : Nm), (some (2 : Nm))) :: (((4 : Nm), (some (5 : Nm))) :: (((5 : Nm), (some (4 : Nm))) :: ([] : List (Nm × (Option Nm)))))))) (e_tupV (f := eN) (l := ((2 : Nm) :: ((3 : Nm) :: ((4 : Nm) :: ((5 : Nm) :: ((11 : Nm) :: ([] : List Nm))))))) rfl (va_cons (f := eN) (y := (2 : Nm)) (v_nm 2) (va_cons (f := eN) (y := (3 : Nm)) (v_nm 3) (va_cons (f := eN) (y := (4 : Nm)) (v_nm 4) (va_cons (f := eN) (y := (5 : Nm)) (v_nm 5) (va_cons (f := eN) (y := (11 : Nm)) (v_nm 11) va_nil)))))) (e_tupV (f := (eP eN (eO eN))) (l := (((2 : Nm), (some (3 : Nm))) :: (((3 : Nm), (some (2 : Nm))) :: (((4 : Nm), (some (5 : Nm))) :: (((5 : Nm), (some (4 : Nm))) :: ([] : List (Nm × (Option Nm)))))))) rfl (va_cons (f := (eP eN (eO eN))) (y := ((2 : Nm), (some (3 : Nm)))) (v_pair (f := eN) (g := (eO eN)) (y := (2 : Nm)) (z := (some (3 : Nm))) (v_nm 2) (v_nm 3)) (va_cons (f := (eP eN (eO eN))) (y := ((3 : Nm), (some (2 : Nm)))) (v_pair (f := eN) (g := (eO eN)) (y := (3 : Nm)) (z := (some (2 : Nm))) (v_nm 3) (v_nm 2)) (va_cons (f := (eP eN (eO eN))) (y := ((4 : Nm), (some (5 : Nm)))) (v_pair (f := eN) (g := (eO eN)) (y := (4 : Nm)) (z := (some (5 : Nm))) (v_nm 4) (v_nm 5)) (va_cons (f := (eP eN (eO eN))) (y := ((5 : Nm), (some (4 : Nm)))) (v_pair (f := eN) (g := (eO eN)) (y := (5 : Nm)) (z := (some (4 : Nm))) (v_nm 5) (v_nm 4)) va_nil)))))) ?_)
    show SsD _ [.dat ((eP (eT eN) (eT (eP eN (eO eN)))) (((2 : Nm) :: ((3 : Nm) :: ((4 : Nm) :: ((5 : Nm) :: ((11 : Nm) :: ([] : List Nm)))))), (((2 : Nm), (some (3 : Nm))) :: (((3 : Nm), (some (2 : Nm))) :: (((4 : Nm), (some (5 : Nm))) :: (((5 : Nm), (some (4 : Nm))) :: ([] : List (Nm × (Option Nm))))))))), .un, .un, .un, .un, .un] _ _
    refine ss_cons (w_set 1 G (v_pair (f := (eT (eP eN eI))) (g := (eT (eP eN eI))) (y := (((2 : Nm), (2 : Int)) :: (((3 : Nm), (2 : Int)) :: (((4 : Nm), (3 : Int)) :: (((5 : Nm), (3 : Int)) :: (((11 : Nm), (1 : Int)) :: ([] : List (Nm × Int)))))))) (z := (((2 : Nm), (1 : Int)) :: (((3 : Nm), (2 : Int)) :: (((4 : Nm), (2 : Int)) :: (((5 : Nm), (3 : Int)) :: ([] : List (Nm × Int))))))) (e_tupV (f := (eP eN eI)) (l := (((2 : Nm), (2 : Int)) :: (((3 : Nm), (2 : Int)) :: (((4 : Nm), (3 : Int)) :: (((5 : Nm), (3 : Int)) :: (((11 : Nm), (1 : Int)) :: ([] : List (Nm × Int)))))))) rfl (va_cons (f := (eP eN eI)) (y := ((2 : Nm), (2 : Int))) (v_pair (f := eN) (g := eI) (y := (2 : Nm)) (z := (2 : Int)) (v_nm 2) e_int) (va_cons (f := (eP eN eI)) (y := ((3 : Nm), (2 : Int))) (v_pair (f := eN) (g := eI) (y := (3 : Nm)) (z := (2 : Int)) (v_nm 3) e_int) (va_cons (f := (eP eN eI)) (y := ((4 : Nm), (3 : Int))) (v_pair (f := eN) (g := eI) (y := (4 : Nm)) (z := (3 : Int)) (v_nm 4) e_int) (va_cons (f := (eP eN eI)) (y := ((5 : Nm), (3 : Int))) (v_pair (f := eN) (g := eI) (y := (5 : Nm)) (z := (3 : Int)) (v_nm 5) e_int) (va_cons (f := (eP eN eI)) (y := ((11 : Nm), (1 : Int))) (v_pair (f := eN) (g := eI) (y := (11 : Nm)) (z := (1 : Int)) (v_nm 11) e_int) va_nil)))))) (e_tupV (f := (eP eN eI)) (l := (((2 : Nm), (1 : Int)) :: (((3 : Nm), (2 : Int)) :: (((4 : Nm), (2 : Int)) :: (((5 : Nm), (3 : Int)) :: ([] : List (Nm × Int))))))) rfl (va_cons (f := (eP eN eI)) (y := ((2 : Nm), (1 : Int))) (v_pair (f := eN) (g := eI) (y := (2 : Nm)) (z := (1 : Int)) (v_nm 2) e_int) (va_cons (f := (eP eN eI)) (y := ((3 : Nm), (2 : Int))) (v_pair (f := eN) (g := eI) (y := (3 : Nm)) (z := (2 : Int)) (v_nm 3) e_int) (va_cons (f := (eP eN eI)) (y := ((4 : Nm), (2 : Int))) (v_pair (f := eN) (g := eI) (y := (4 : Nm)) (z := (2 : Int)) (v_nm 4) e_int) (va_cons (f := (eP eN eI)) (y := ((5 : Nm), (3 : Int))) (v_pair (f := eN) (g := eI) (y := (5 : Nm)) (z := (3 : Int)) (v_nm 5) e_int) va_nil)))))) ?_)
    show SsD _ [.dat ((eP (eT eN) (eT (eP eN (eO eN)))) (((2 : Nm) :: ((3 : Nm) :: ((4 : Nm) :: ((5 : Nm) :: ((11 : Nm) :: ([] : List Nm)))))), (((2 : Nm), (some (3 : Nm))) :: (((3 : Nm), (some (2 : Nm))) :: (((4 : Nm), (some (5 : Nm))) :: (((5 : Nm), (some (4 : Nm))) :: ([] : List (Nm × (Option Nm))))))))), .dat ((eP (eT (eP eN eI)) (eT (eP eN eI))) ((((2 : Nm), (2 : Int)) :: (((3 : Nm), (2 : Int)) :: (((4 : Nm), (3 : Int)) :: (((5 : Nm), (3 : Int)) :: (((11 : Nm), (1 : Int)) :: ([] : List (Nm × Int))))))), (((2 : Nm), (1 : Int)) :: (((3 : Nm), (2 : Int)) :: (((4 : Nm), (2 : Int)) :: (((5 : Nm), (3 : Int)) :: ([] : List (Nm × Int)))))))), .un, .un, .un, .un] _ _
    refine ss_cons (w_set 2 G (v_pair (f := (eT (eP eN eI))) (g := (eT (eP eN eI))) (y := ((((2 : Nm), (2 : Int)) :: (((3 : Nm), (2 : Int)) :: (((4 : Nm), (3 : Int)) :: (((5 : Nm), (3 : Int)) :: (((11 : Nm), (1 : Int)) :: ([] : List (Nm × Int))))))), (((2 : Nm), (1 : Int)) :: (((3 : Nm), (2 : Int)) :: (((4 : Nm), (2 : Int)) :: (((5 : Nm), (3 : Int)) :: ([] : List (Nm × Int))))))).1) (z := (((2 : Nm), (2 : Int)) :: (((3 : Nm), (2 : Int)) :: (((4 : Nm), (2 : Int)) :: (((5 : Nm), (3 : Int)) :: ([] : List (Nm × Int))))))) (v_fst (f := (eT (eP eN eI))) (g := (eT (eP eN eI))) (y := ((((2 : Nm), (2 : Int)) :: (((3 : Nm), (2 : Int)) :: (((4 : Nm), (3 : Int)) :: (((5 : Nm), (3 : Int)) :: (((11 : Nm), (1 : Int)) :: ([] : List (Nm × Int))))))), (((2 : Nm), (1 : Int)) :: (((3 : Nm), (2 : Int)) :: (((4 : Nm), (2 : Int)) :: (((5 : Nm), (3 : Int)) :: ([] : List (Nm × Int)))))))) (v_var 1)) (e_tupV (f := (eP eN eI)) (l := (((2 : Nm), (2 : Int)) :: (((3 : Nm), (2 : Int)) :: (((4 : Nm), (2 : Int)) :: (((5 : Nm), (3 : Int)) :: ([] : List (Nm × Int))))))) rfl (va_cons (f := (eP eN eI)) (y := ((2 : Nm), (2 : Int))) (v_pair (f := eN) (g := eI) (y := (2 : Nm)) (z := (2 : Int)) (v_nm 2) e_int) (va_cons (f := (eP eN eI)) (y := ((3 : Nm), (2 : Int))) (v_pair (f := eN) (g := eI) (y := (3 : Nm)) (z := (2 : Int)) (v_nm 3) e_int) (va_cons (f := (eP eN eI)) (y := ((4 : Nm), (2 : Int))) (v_pair (f := eN) (g := eI) (y := (4 : Nm)) (z := (2 : Int)) (v_nm 4) e_int) (va_cons (f := (eP eN eI)) (y := ((5 : Nm), (3 : Int))) (v_pair (f := eN) (g := eI) (y := (5 : Nm)) (z := (3 : Int)) (v_nm 5) e_int) va_nil)))))) ?_)
    show SsD _ [.dat ((eP (eT eN) (eT (eP eN (eO eN)))) (((2 : Nm) :: ((3 : Nm) :: ((4 : Nm) :: ((5 : Nm) :: ((11 : Nm) :: ([] : List Nm)))))), (((2 : Nm), (some (3 : Nm))) :: (((3 : Nm), (some (2 : Nm))) :: (((4 : Nm), (some (5 : Nm))) :: (((5 : Nm), (some (4 : Nm))) :: ([] : List (Nm × (Option Nm))))))))), .dat ((eP (eT (eP eN eI)) (eT (eP eN eI))) ((((2 : Nm), (2 : Int)) :: (((3 : Nm), (2 : Int)) :: (((4 : Nm), (3 : Int)) :: (((5 : Nm), (3 : Int)) :: (((11 : Nm), (1 : Int)) :: ([] : List (Nm × Int))))))), (((2 : Nm), (1 : Int)) :: (((3 : Nm), (2 : Int)) :: (((4 : Nm), (2 : Int)) :: (((5 : Nm), (3 : Int)) :: ([] : List (Nm × Int)))))))), .dat ((eP (eT (eP eN eI)) (eT (eP eN eI))) (((((2 : Nm), (2 : Int)) :: (((3 : Nm), (2 : Int)) :: (((4 : Nm), (3 : Int)) :: (((5 : Nm), (3 : Int)) :: (((11 : Nm), (1 : Int)) :: ([] : List (Nm × Int))))))), (((2 : Nm), (1 : Int)) :: (((3 : Nm), (2 : Int)) :: (((4 : Nm), (2 : Int)) :: (((5 : Nm), (3 : Int)) :: ([] : List (Nm × Int))))))).1, (((2 : Nm), (2 : Int)) :: (((3 : Nm), (2 : Int)) :: (((4 : Nm), (2 : Int)) :: (((5 : Nm), (3 : Int)) :: ([] : List (Nm × Int)))))))), .un, .un, .un] _ _
    obtain ⟨v1, hv1, h⟩ := bnd h
    obtain ⟨v2, hv2, h⟩ := bnd h
    obtain ⟨v3, hv3, h⟩ := bnd h
    obtain ⟨v4, hv4, h⟩ := bnd h
    obtain ⟨v5, hv5, h⟩ := bnd h
    obtain ⟨v6, hv6, h⟩ := bnd h
    obtain ⟨v7, hv7, h⟩ := bnd h
    refine ss_cons (s_set (i := 3) (d := .lst [eB v1, eB v2, eT (eT eN) v3]) G.nd rfl (.inl rfl) (n_lst (ds := [eB v1, eB v2, eT (eT eN) v3]) (a_cons (e_call c_can_be_done_by rfl (a_cons (v_var 0) (a_cons (v_var 1) a_nil)) ⟨(((2 : Nm) :: ((3 : Nm) :: ((4 : Nm) :: ((5 : Nm) :: ((11 : Nm) :: ([] : List Nm)))))), (((2 : Nm), (some (3 : Nm))) :: (((3 : Nm), (some (2 : Nm))) :: (((4 : Nm), (some (5 : Nm))) :: (((5 : Nm), (some (4 : Nm))) :: ([] : List (Nm × (Option Nm)))))))), ((((2 : Nm), (2 : Int)) :: (((3 : Nm), (2 : Int)) :: (((4 : Nm), (3 : Int)) :: (((5 : Nm), (3 : Int)) :: (((11 : Nm), (1 : Int)) :: ([] : List (Nm × Int))))))), (((2 : Nm), (1 : Int)) :: (((3 : Nm), (2 : Int)) :: (((4 : Nm), (2 : Int)) :: (((5 : Nm), (3 : Int)) :: ([] : List (Nm × Int))))))), v1, hv1, rfl, rfl, rfl⟩) (a_cons (e_call c_can_be_done_by rfl (a_cons (v_var 0) (a_cons (v_var 2) a_nil)) ⟨(((2 : Nm) :: ((3 : Nm) :: ((4 : Nm) :: ((5 : Nm) :: ((11 : Nm) :: ([] : List Nm)))))), (((2 : Nm), (some (3 : Nm))) :: (((3 : Nm), (some (2 : Nm))) :: (((4 : Nm), (some (5 : Nm))) :: (((5 : Nm), (some (4 : Nm))) :: ([] : List (Nm × (Option Nm)))))))), (((((2 : Nm), (2 : Int)) :: (((3 : Nm), (2 : Int)) :: (((4 : Nm), (3 : Int)) :: (((5 : Nm), (3 : Int)) :: (((11 : Nm), (1 : Int)) :: ([] : List (Nm × Int))))))), (((2 : Nm), (1 : Int)) :: (((3 : Nm), (2 : Int)) :: (((4 : Nm), (2 : Int)) :: (((5 : Nm), (3 : Int)) :: ([] : List (Nm × Int))))))).1, (((2 : Nm), (2 : Int)) :: (((3 : Nm), (2 : Int)) :: (((4 : Nm), (2 : Int)) :: (((5 : Nm), (3 : Int)) :: ([] : List (Nm × Int))))))), v2, hv2, rfl, rfl, rfl⟩) (a_cons (e_call c_shut_rings rfl (a_cons (v_var 0) (a_cons (v_var 2) a_nil)) ⟨(((2 : Nm) :: ((3 : Nm) :: ((4 : Nm) :: ((5 : Nm) :: ((11 : Nm) :: ([] : List Nm)))))), (((2 : Nm), (some (3 : Nm))) :: (((3 : Nm), (some (2 : Nm))) :: (((4 : Nm), (some (5 : Nm))) :: (((5 : Nm), (some (4 : Nm))) :: ([] : List (Nm × (Option Nm)))))))), (((((2 : Nm), (2 : Int)) :: (((3 : Nm), (2 : Int)) :: (((4 : Nm), (3 : Int)) :: (((5 : Nm), (3 : Int)) :: (((11 : Nm), (1 : Int)) :: ([] : List (Nm × Int))))))), (((2 : Nm), (1 : Int)) :: (((3 : Nm), (2 : Int)) :: (((4 : Nm), (2 : Int)) :: (((5 : Nm), (3 : Int)) :: ([] : List (Nm × Int))))))).1, (((2 : Nm), (2 : Int)) :: (((3 : Nm), (2 : Int)) :: (((4 : Nm), (2 : Int)) :: (((5 : Nm), (3 : Int)) :: ([] : List (Nm × Int))))))), v3, hv3, rfl, rfl, rfl⟩) a_nil))) (show 3 ≤ sizeLine by decide)).ev ?_)
    show SsD _ [.dat ((eP (eT eN) (eT (eP eN (eO eN)))) (((2 : Nm) :: ((3 : Nm) :: ((4 : Nm) :: ((5 : Nm) :: ((11 : Nm) :: ([] : List Nm)))))), (((2 : Nm), (some (3 : Nm))) :: (((3 : Nm), (some (2 : Nm))) :: (((4 : Nm), (some (5 : Nm))) :: (((5 : Nm), (some (4 : Nm))) :: ([] : List (Nm × (Option Nm))))))))), .dat ((eP (eT (eP eN eI)) (eT (eP eN eI))) ((((2 : Nm), (2 : Int)) :: (((3 : Nm), (2 : Int)) :: (((4 : Nm), (3 : Int)) :: (((5 : Nm), (3 : Int)) :: (((11 : Nm), (1 : Int)) :: ([] : List (Nm × Int))))))), (((2 : Nm), (1 : Int)) :: (((3 : Nm), (2 : Int)) :: (((4 : Nm), (2 : Int)) :: (((5 : Nm), (3 : Int)) :: ([] : List (Nm × Int)))))))), .dat ((eP (eT (eP eN eI)) (eT (eP eN eI))) (((((2 : Nm), (2 : Int)) :: (((3 : Nm), (2 : Int)) :: (((4 : Nm), (3 : Int)) :: (((5 : Nm), (3 : Int)) :: (((11 : Nm), (1 : Int)) :: ([] : List (Nm × Int))))))), (((2 : Nm), (1 : Int)) :: (((3 : Nm), (2 : Int)) :: (((4 : Nm), (2 : Int)) :: (((5 : Nm), (3 : Int)) :: ([] : List (Nm × Int))))))).1, (((2 : Nm), (2 : Int)) :: (((3 : Nm), (2 : Int)) :: (((4 : Nm), (2 : Int)) :: (((5 : Nm), (3 : Int)) :: ([] : List (Nm × Int)))))))), .dat (.lst [eB v1, eB v2, eT (eT eN) v3]), .un, .un] _ _
    refine ss_cons (s_set (i := 3) (d := .lst ([eB v1, eB v2, eT (eT eN) v3] ++ [eO eI v4, eO eI v5])) G.nd rfl (.inl rfl) (n_cat (ds := [eB v1, eB v2, eT (eT eN) v3]) (es := [eO eI v4, eO eI v5]) (v_var 3) (n_lst (ds := [eO eI v4, eO eI v5]) (a_cons (e_call c_place_needed rfl (a_cons (v_var 0) (a_cons (v_var 2) a_nil)) ⟨(((2 : Nm) :: ((3 : Nm) :: ((4 : Nm) :: ((5 : Nm) :: ((11 : Nm) :: ([] : List Nm)))))), (((2 : Nm), (some (3 : Nm))) :: (((3 : Nm), (some (2 : Nm))) :: (((4 : Nm), (some (5 : Nm))) :: (((5 : Nm), (some (4 : Nm))) :: ([] : List (Nm × (Option Nm)))))))), (((((2 : Nm), (2 : Int)) :: (((3 : Nm), (2 : Int)) :: (((4 : Nm), (3 : Int)) :: (((5 : Nm), (3 : Int)) :: (((11 : Nm), (1 : Int)) :: ([] : List (Nm × Int))))))), (((2 : Nm), (1 : Int)) :: (((3 : Nm), (2 : Int)) :: (((4 : Nm), (2 : Int)) :: (((5 : Nm), (3 : Int)) :: ([] : List (Nm × Int))))))).1, (((2 : Nm), (2 : Int)) :: (((3 : Nm), (2 : Int)) :: (((4 : Nm), (2 : Int)) :: (((5 : Nm), (3 : Int)) :: ([] : List (Nm × Int))))))), v4, hv4, rfl, rfl, rfl⟩) (a_cons (e_call c_place_needed rfl (a_cons (v_var 0) (a_cons (v_var 1) a_nil)) ⟨(((2 : Nm) :: ((3 : Nm) :: ((4 : Nm) :: ((5 : Nm) :: ((11 : Nm) :: ([] : List Nm)))))), (((2 : Nm), (some (3 : Nm))) :: (((3 : Nm), (some (2 : Nm))) :: (((4 : Nm), (some (5 : Nm))) :: (((5 : Nm), (some (4 : Nm))) :: ([] : List (Nm × (Option Nm)))))))), ((((2 : Nm), (2 : Int)) :: (((3 : Nm), (2 : Int)) :: (((4 : Nm), (3 : Int)) :: (((5 : Nm), (3 : Int)) :: (((11 : Nm), (1 : Int)) :: ([] : List (Nm × Int))))))), (((2 : Nm), (1 : Int)) :: (((3 : Nm), (2 : Int)) :: (((4 : Nm), (2 : Int)) :: (((5 : Nm), (3 : Int)) :: ([] : List (Nm × Int))))))), v5, hv5, rfl, rfl, rfl⟩) a_nil)) (show 2 ≤ sizeLine by decide)).ev (show 5 ≤ sizeLine by decide)).ev ?_)
    have hsame := handEq (chk_of hv7)
    show SsD _ [.dat ((eP (eT eN) (eT (eP eN (eO eN)))) (((2 : Nm) :: ((3 : Nm) :: ((4 : Nm) :: ((5 : Nm) :: ((11 : Nm) :: ([] : List Nm)))))), (((2 : Nm), (some (3 : Nm))) :: (((3 : Nm), (some (2 : Nm))) :: (((4 : Nm), (some (5 : Nm))) :: (((5 : Nm), (some (4 : Nm))) :: ([] : List (Nm × (Option Nm))))))))), .dat ((eP (eT (eP eN eI)) (eT (eP eN eI))) ((((2 : Nm), (2 : Int)) :: (((3 : Nm), (2 : Int)) :: (((4 : Nm), (3 : Int)) :: (((5 : Nm), (3 : Int)) :: (((11 : Nm), (1 : Int)) :: ([] : List (Nm × Int))))))), (((2 : Nm), (1 : Int)) :: (((3 : Nm), (2 : Int)) :: (((4 : Nm), (2 : Int)) :: (((5 : Nm), (3 : Int)) :: ([] : List (Nm × Int)))))))), .dat ((eP (eT (eP eN eI)) (eT (eP eN eI))) (((((2 : Nm), (2 : Int)) :: (((3 : Nm), (2 : Int)) :: (((4 : Nm), (3 : Int)) :: (((5 : Nm), (3 : Int)) :: (((11 : Nm), (1 : Int)) :: ([] : List (Nm × Int))))))), (((2 : Nm), (1 : Int)) :: (((3 : Nm), (2 : Int)) :: (((4 : Nm), (2 : Int)) :: (((5 : Nm), (3 : Int)) :: ([] : List (Nm × Int))))))).1, (((2 : Nm), (2 : Int)) :: (((3 : Nm), (2 : Int)) :: (((4 : Nm), (2 : Int)) :: (((5 : Nm), (3 : Int)) :: ([] : List (Nm × Int)))))))), .dat (.lst ([eB v1, eB v2, eT (eT eN) v3] ++ [eO eI v4, eO eI v5])), .un, .un] _ _
    rw [hsame]
    refine ss_cons (s_if (t_not (t_val (p := true) (e_call c__law_same rfl (a_cons (v_var 3) (a_cons (n_lst (ds := [eB true, eB false, eT (eT eN) v6, eI 2, eI 0]) (a_cons e_bl (a_cons e_bl (a_cons (e_call c_rings rfl (a_cons (v_var 0) a_nil) ⟨(((2 : Nm) :: ((3 : Nm) :: ((4 : Nm) :: ((5 : Nm) :: ((11 : Nm) :: ([] : List Nm)))))), (((2 : Nm), (some (3 : Nm))) :: (((3 : Nm), (some (2 : Nm))) :: (((4 : Nm), (some (5 : Nm))) :: (((5 : Nm), (some (4 : Nm))) :: ([] : List (Nm × (Option Nm)))))))), v6, hv6, rfl, rfl, rfl⟩) (a_cons e_int (a_cons e_int a_nil))))) (show 5 ≤ sizeLine by decide)).ev a_nil)) ⟨.lst [eB true, eB false, eT (eT eN) v6, eI 2, eI 0], sam_hand, rfl, rfl, rfl⟩))) (fun hc => by cases hc) (fun _ => ss_nil ?_))
    refine ss_forget 3 ?_
    show SsD _ [.dat ((eP (eT eN) (eT (eP eN (eO eN)))) (((2 : Nm) :: ((3 : Nm) :: ((4 : Nm) :: ((5 : Nm) :: ((11 : Nm) :: ([] : List Nm)))))), (((2 : Nm), (some (3 : Nm))) :: (((3 : Nm), (some (2 : Nm))) :: (((4 : Nm), (some (5 : Nm))) :: (((5 : Nm), (some (4 : Nm))) :: ([] : List (Nm × (Option Nm))))))))), .dat ((eP (eT (eP eN eI)) (eT (eP eN eI))) ((((2 : Nm), (2 : Int)) :: (((3 : Nm), (2 : Int)) :: (((4 : Nm), (3 : Int)) :: (((5 : Nm), (3 : Int)) :: (((11 : Nm), (1 : Int)) :: ([] : List (Nm × Int))))))), (((2 : Nm), (1 : Int)) :: (((3 : Nm), (2 : Int)) :: (((4 : Nm), (2 : Int)) :: (((5 : Nm), (3 : Int)) :: ([] : List (Nm × Int)))))))), .dat ((eP (eT (eP eN eI)) (eT (eP eN eI))) (((((2 : Nm), (2 : Int)) :: (((3 : Nm), (2 : Int)) :: (((4 : Nm), (3 : Int)) :: (((5 : Nm), (3 : Int)) :: (((11 : Nm), (1 : Int)) :: ([] : List (Nm × Int))))))), (((2 : Nm), (1 : Int)) :: (((3 : Nm), (2 : Int)) :: (((4 : Nm), (2 : Int)) :: (((5 : Nm), (3 : Int)) :: ([] : List (Nm × Int))))))).1, (((2 : Nm), (2 : Int)) :: (((3 : Nm), (2 : Int)) :: (((4 : Nm), (2 : Int)) :: (((5 : Nm), (3 : Int)) :: ([] : List (Nm × Int)))))))), .un, .un, .un] _ _
    refine ss_cons (w_set 4 G (v_pair (f := (eT eN)) (g := (eT (eP eN (eO eN)))) (y := ((0 : Nm) :: ((1 : Nm) :: ((2 : Nm) :: ((3 : Nm) :: ([] : List Nm)))))) (z := (((0 : Nm), (some (1 : Nm))) :: (((2 : Nm), (some (3 : Nm))) :: (((3 : Nm), (some (2 : Nm))) :: ([] : List (Nm × (Option Nm))))))) (e_tupV (f := eN) (l := ((0 : Nm) :: ((1 : Nm) :: ((2 : Nm) :: ((3 : Nm) :: ([] : List Nm)))))) rfl (va_cons (f := eN) (y := (0 : Nm)) (v_nm 0) (va_cons (f := eN) (y := (1 : Nm)) (v_nm 1) (va_cons (f := eN) (y := (2 : Nm)) (v_nm 2) (va_cons (f := eN) (y := (3 : Nm)) (v_nm 3) va_nil))))) (e_tupV (f := (eP eN (eO eN))) (l := (((0 : Nm), (some (1 : Nm))) :: (((2 : Nm), (some (3 : Nm))) :: (((3 : Nm), (some (2 : Nm))) :: ([] : List (Nm × (Option Nm))))))) rfl (va_cons (f := (eP eN (eO eN))) (y := ((0 : Nm), (some (1 : Nm)))) (v_pair (f := eN) (g := (eO eN)) (y := (0 : Nm)) (z := (some (1 : Nm))) (v_nm 0) (v_nm 1)) (va_cons (f := (eP eN (eO eN))) (y := ((2 : Nm), (some (3 : Nm)))) (v_pair (f := eN) (g := (eO eN)) (y := (2 : Nm)) (z := (some (3 : Nm))) (v_nm 2) (v_nm 3)) (va_cons (f := (eP eN (eO eN))) (y := ((3 : Nm), (some (2 : Nm)))) (v_pair (f := eN) (g := (eO eN)) (y := (3 : Nm)) (z := (some (2 : Nm))) (v_nm 3) (v_nm 2)) va_nil))))) ?_)
    show SsD _ [.dat ((eP (eT eN) (eT (eP eN (eO eN)))) (((2 : Nm) :: ((3 : Nm) :: ((4 : Nm) :: ((5 : Nm) :: ((11 : Nm) :: ([] : List Nm)))))), (((2 : Nm), (some (3 : Nm))) :: (((3 : Nm), (some (2 : Nm))) :: (((4 : Nm), (some (5 : Nm))) :: (((5 : Nm), (some (4 : Nm))) :: ([] : List (Nm × (Option Nm))))))))), .dat ((eP (eT (eP eN eI)) (eT (eP eN eI))) ((((2 : Nm), (2 : Int)) :: (((3 : Nm), (2 : Int)) :: (((4 : Nm), (3 : Int)) :: (((5 : Nm), (3 : Int)) :: (((11 : Nm), (1 : Int)) :: ([] : List (Nm × Int))))))), (((2 : Nm), (1 : Int)) :: (((3 : Nm), (2 : Int)) :: (((4 : Nm), (2 : Int)) :: (((5 : Nm), (3 : Int)) :: ([] : List (Nm × Int)))))))), .dat ((eP (eT (eP eN eI)) (eT (eP eN eI))) (((((2 : Nm), (2 : Int)) :: (((3 : Nm), (2 : Int)) :: (((4 : Nm), (3 : Int)) :: (((5 : Nm), (3 : Int)) :: (((11 : Nm), (1 : Int)) :: ([] : List (Nm × Int))))))), (((2 : Nm), (1 : Int)) :: (((3 : Nm), (2 : Int)) :: (((4 : Nm), (2 : Int)) :: (((5 : Nm), (3 : Int)) :: ([] : List (Nm × Int))))))).1, (((2 : Nm), (2 : Int)) :: (((3 : Nm), (2 : Int)) :: (((4 : Nm), (2 : Int)) :: (((5 : Nm), (3 : Int)) :: ([] : List (Nm × Int)))))))), .un, .dat ((eP (eT eN) (eT (eP eN (eO eN)))) (((0 : Nm) :: ((1 : Nm) :: ((2 : Nm) :: ((3 : Nm) :: ([] : List Nm))))), (((0 : Nm), (some (1 : Nm))) :: (((2 : Nm), (some (3 : Nm))) :: (((3 : Nm), (some (2 : Nm))) :: ([] : List (Nm × (Option Nm)))))))), .un] _ _
    refine ss_cons (w_set 5 G (v_pair (f := (eT (eP eN eI))) (g := (eT (eP eN eI))) (y := (((0 : Nm), (4 : Int)) :: (((1 : Nm), (1 : Int)) :: (((2 : Nm), (2 : Int)) :: (((3 : Nm), (2 : Int)) :: ([] : List (Nm × Int))))))) (z := (((0 : Nm), (1 : Int)) :: (((2 : Nm), (2 : Int)) :: (((3 : Nm), (2 : Int)) :: ([] : List (Nm × Int)))))) (e_tupV (f := (eP eN eI)) (l := (((0 : Nm), (4 : Int)) :: (((1 : Nm), (1 : Int)) :: (((2 : Nm), (2 : Int)) :: (((3 : Nm), (2 : Int)) :: ([] : List (Nm × Int))))))) rfl (va_cons (f := (eP eN eI)) (y := ((0 : Nm), (4 : Int))) (v_pair (f := eN) (g := eI) (y := (0 : Nm)) (z := (4 : Int)) (v_nm 0) e_int) (va_cons (f := (eP eN eI)) (y := ((1 : Nm), (1 : Int))) (v_pair (f := eN) (g := eI) (y := (1 : Nm)) (z := (1 : Int)) (v_nm 1) e_int) (va_cons (f := (eP eN eI)) (y := ((2 : Nm), (2 : Int))) (v_pair (f := eN) (g := eI) (y := (2 : Nm)) (z := (2 : Int)) (v_nm 2) e_int) (va_cons (f := (eP eN eI)) (y := ((3 : Nm), (2 : Int))) (v_pair (f := eN) (g := eI) (y := (3 : Nm)) (z := (2 : Int)) (v_nm 3) e_int) va_nil))))) (e_tupV (f := (eP eN eI)) (l := (((0 : Nm), (1 : Int)) :: (((2 : Nm), (2 : Int)) :: (((3 : Nm), (2 : Int)) :: ([] : List (Nm × Int)))))) rfl (va_cons (f := (eP eN eI)) (y := ((0 : Nm), (1 : Int))) (v_pair (f := eN) (g := eI) (y := (0 : Nm)) (z := (1 : Int)) (v_nm 0) e_int) (va_cons (f := (eP eN eI)) (y := ((2 : Nm), (2 : Int))) (v_pair (f := eN) (g := eI) (y := (2 : Nm)) (z := (2 : Int)) (v_nm 2) e_int) (va_cons (f := (eP eN eI)) (y := ((3 : Nm), (2 : Int))) (v_pair (f := eN) (g := eI) (y := (3 : Nm)) (z := (2 : Int)) (v_nm 3) e_int) va_nil))))) ?_)
    show SsD _ [.dat ((eP (eT eN) (eT (eP eN (eO eN)))) (((2 : Nm) :: ((3 : Nm) :: ((4 : Nm) :: ((5 : Nm) :: ((11 : Nm) :: ([] : List Nm)))))), (((2 : Nm), (some (3 : Nm))) :: (((3 : Nm), (some (2 : Nm))) :: (((4 : Nm), (some (5 : Nm))) :: (((5 : Nm), (some (4 : Nm))) :: ([] : List (Nm × (Option Nm))))))))), .dat ((eP (eT (eP eN eI)) (eT (eP eN eI))) ((((2 : Nm), (2 : Int)) :: (((3 : Nm), (2 : Int)) :: (((4 : Nm), (3 : Int)) :: (((5 : Nm), (3 : Int)) :: (((11 : Nm), (1 : Int)) :: ([] : List (Nm × Int))))))), (((2 : Nm), (1 : Int)) :: (((3 : Nm), (2 : Int)) :: (((4 : Nm), (2 : Int)) :: (((5 : Nm), (3 : Int)) :: ([] : List (Nm × Int)))))))), .dat ((eP (eT (eP eN eI)) (eT (eP eN eI))) (((((2 : Nm), (2 : Int)) :: (((3 : Nm), (2 : Int)) :: (((4 : Nm), (3 : Int)) :: (((5 : Nm), (3 : Int)) :: (((11 : Nm), (1 : Int)) :: ([] : List (Nm × Int))))))), (((2 : Nm), (1 : Int)) :: (((3 : Nm), (2 : Int)) :: (((4 : Nm), (2 : Int)) :: (((5 : Nm), (3 : Int)) :: ([] : List (Nm × Int))))))).1, (((2 : Nm), (2 : Int)) :: (((3 : Nm), (2 : Int)) :: (((4 : Nm), (2 : Int)) :: (((5 : Nm), (3 : Int)) :: ([] : List (Nm × Int)))))))), .un, .dat ((eP (eT eN) (eT (eP eN (eO eN)))) (((0 : Nm) :: ((1 : Nm) :: ((2 : Nm) :: ((3 : Nm) :: ([] : List Nm))))), (((0 : Nm), (some (1 : Nm))) :: (((2 : Nm), (some (3 : Nm))) :: (((3 : Nm), (some (2 : Nm))) :: ([] : List (Nm × (Option Nm)))))))), .dat ((eP (eT (eP eN eI)) (eT (eP eN eI))) ((((0 : Nm), (4 : Int)) :: (((1 : Nm), (1 : Int)) :: (((2 : Nm), (2 : Int)) :: (((3 : Nm), (2 : Int)) :: ([] : List (Nm × Int)))))), (((0 : Nm), (1 : Int)) :: (((2 : Nm), (2 : Int)) :: (((3 : Nm), (2 : Int)) :: ([] : List (Nm × Int)))))))] _ _
    obtain ⟨v8, hv8, h⟩ := bnd h
    obtain ⟨v10, hv10, h⟩ := bnd h
    refine ss_cons (s_if (t_w (w_or (p := (!v8)) (q := v10) (t_not (t_val (p := v8) (e_call c__law_case_right rfl (a_cons (v_var 0) (a_cons (v_var 2) a_nil)) ⟨(((2 : Nm) :: ((3 : Nm) :: ((4 : Nm) :: ((5 : Nm) :: ((11 : Nm) :: ([] : List Nm)))))), (((2 : Nm), (some (3 : Nm))) :: (((3 : Nm), (some (2 : Nm))) :: (((4 : Nm), (some (5 : Nm))) :: (((5 : Nm), (some (4 : Nm))) :: ([] : List (Nm × (Option Nm)))))))), (((((2 : Nm), (2 : Int)) :: (((3 : Nm), (2 : Int)) :: (((4 : Nm), (3 : Int)) :: (((5 : Nm), (3 : Int)) :: (((11 : Nm), (1 : Int)) :: ([] : List (Nm × Int))))))), (((2 : Nm), (1 : Int)) :: (((3 : Nm), (2 : Int)) :: (((4 : Nm), (2 : Int)) :: (((5 : Nm), (3 : Int)) :: ([] : List (Nm × Int))))))).1, (((2 : Nm), (2 : Int)) :: (((3 : Nm), (2 : Int)) :: (((4 : Nm), (2 : Int)) :: (((5 : Nm), (3 : Int)) :: ([] : List (Nm × Int))))))), v8, hv8, rfl, rfl, rfl⟩))) (fun hc => by have h := cndF hv10 hc; obtain ⟨v9, hv9, h⟩ := bnd h; obtain rfl := Option.some.inj h; exact (w_or1 (t_not (t_val (p := v9) (e_call c__law_case_right rfl (a_cons (v_var 4) (a_cons (v_var 5) a_nil)) ⟨(((0 : Nm) :: ((1 : Nm) :: ((2 : Nm) :: ((3 : Nm) :: ([] : List Nm))))), (((0 : Nm), (some (1 : Nm))) :: (((2 : Nm), (some (3 : Nm))) :: (((3 : Nm), (some (2 : Nm))) :: ([] : List (Nm × (Option Nm))))))), ((((0 : Nm), (4 : Int)) :: (((1 : Nm), (1 : Int)) :: (((2 : Nm), (2 : Int)) :: (((3 : Nm), (2 : Int)) :: ([] : List (Nm × Int)))))), (((0 : Nm), (1 : Int)) :: (((2 : Nm), (2 : Int)) :: (((3 : Nm), (2 : Int)) :: ([] : List (Nm × Int)))))), v9, hv9, rfl, rfl, rfl⟩))))))) (fun hc => ?_) (fun hc => ?_))
    · have h := cndT h hc
      obtain rfl := Option.some.inj h
      exact ss_cons (s_ret e_bl ⟨rfl, (by first | exact trivial | exact ⟨rfl, trivial⟩)⟩)
    · have h := cndF h hc
      refine ss_nil ?_
      show SsD _ [.dat ((eP (eT eN) (eT (eP eN (eO eN)))) (((2 : Nm) :: ((3 : Nm) :: ((4 : Nm) :: ((5 : Nm) :: ((11 : Nm) :: ([] : List Nm)))))), (((2 : Nm), (some (3 : Nm))) :: (((3 : Nm), (some (2 : Nm))) :: (((4 : Nm), (some (5 : Nm))) :: (((5 : Nm), (some (4 : Nm))) :: ([] : List (Nm × (Option Nm))))))))), .dat ((eP (eT (eP eN eI)) (eT (eP eN eI))) ((((2 : Nm), (2 : Int)) :: (((3 : Nm), (2 : Int)) :: (((4 : Nm), (3 : Int)) :: (((5 : Nm), (3 : Int)) :: (((11 : Nm), (1 : Int)) :: ([] : List (Nm × Int))))))), (((2 : Nm), (1 : Int)) :: (((3 : Nm), (2 : Int)) :: (((4 : Nm), (2 : Int)) :: (((5 : Nm), (3 : Int)) :: ([] : List (Nm × Int)))))))), .dat ((eP (eT (eP eN eI)) (eT (eP eN eI))) (((((2 : Nm), (2 : Int)) :: (((3 : Nm), (2 : Int)) :: (((4 : Nm), (3 : Int)) :: (((5 : Nm), (3 : Int)) :: (((11 : Nm), (1 : Int)) :: ([] : List (Nm × Int))))))), (((2 : Nm), (1 : Int)) :: (((3 : Nm), (2 : Int)) :: (((4 : Nm), (2 : Int)) :: (((5 : Nm), (3 : Int)) :: ([] : List (Nm × Int))))))).1, (((2 : Nm), (2 : Int)) :: (((3 : Nm), (2 : Int)) :: (((4 : Nm), (2 : Int)) :: (((5 : Nm), (3 : Int)) :: ([] : List (Nm × Int)))))))), .un, .dat ((eP (eT eN) (eT (eP eN (eO eN)))) (((0 : Nm) :: ((1 : Nm) :: ((2 : Nm) :: ((3 : Nm) :: ([] : List Nm))))), (((0 : Nm), (some (1 : Nm))) :: (((2 : Nm), (some (3 : Nm))) :: (((3 : Nm), (some (2 : Nm))) :: ([] : List (Nm × (Option Nm)))))))), .dat ((eP (eT (eP eN eI)) (eT (eP eN eI))) ((((0 : Nm), (4 : Int)) :: (((1 : Nm), (1 : Int)) :: (((2 : Nm), (2 : Int)) :: (((3 : Nm), (2 : Int)) :: ([] : List (Nm × Int)))))), (((0 : Nm), (1 : Int)) :: (((2 : Nm), (2 : Int)) :: (((3 : Nm), (2 : Int)) :: ([] : List (Nm × Int)))))))] _ _
      obtain ⟨u11, hu11, h⟩ := bnd h
      obtain ⟨u12, hu12, h⟩ := bnd h
      obtain ⟨v13, hv13, h⟩ := bnd h
      obtain rfl := Option.some.inj h
      exact ss_cons (s_ret (e_call c__law_case_right rfl (a_cons (v_var 4) (a_cons (v_pair (f := (eT (eP eN eI))) (g := (eT (eP eN eI))) (y := ((((0 : Nm), (1 : Int)) :: ([] : List (Nm × Int))) ++ (cutD ((((0 : Nm), (4 : Int)) :: (((1 : Nm), (1 : Int)) :: (((2 : Nm), (2 : Int)) :: (((3 : Nm), (2 : Int)) :: ([] : List (Nm × Int)))))), (((0 : Nm), (1 : Int)) :: (((2 : Nm), (2 : Int)) :: (((3 : Nm), (2 : Int)) :: ([] : List (Nm × Int)))))).1 (some (1 : Int)) none))) (z := ((((0 : Nm), (4 : Int)) :: (((1 : Nm), (1 : Int)) :: (((2 : Nm), (2 : Int)) :: (((3 : Nm), (2 : Int)) :: ([] : List (Nm × Int)))))), (((0 : Nm), (1 : Int)) :: (((2 : Nm), (2 : Int)) :: (((3 : Nm), (2 : Int)) :: ([] : List (Nm × Int)))))).2) (v_catT (f := (eP eN eI)) (l := (((0 : Nm), (1 : Int)) :: ([] : List (Nm × Int)))) (m := (cutD ((((0 : Nm), (4 : Int)) :: (((1 : Nm), (1 : Int)) :: (((2 : Nm), (2 : Int)) :: (((3 : Nm), (2 : Int)) :: ([] : List (Nm × Int)))))), (((0 : Nm), (1 : Int)) :: (((2 : Nm), (2 : Int)) :: (((3 : Nm), (2 : Int)) :: ([] : List (Nm × Int)))))).1 (some (1 : Int)) none)) (chk_of hu11) (chk_of hu12) (e_tupV (f := (eP eN eI)) (l := (((0 : Nm), (1 : Int)) :: ([] : List (Nm × Int)))) rfl (va_cons (f := (eP eN eI)) (y := ((0 : Nm), (1 : Int))) (v_pair (f := eN) (g := eI) (y := (0 : Nm)) (z := (1 : Int)) (v_nm 0) e_int) va_nil)) (v_slT (f := (eP eN eI)) (l := ((((0 : Nm), (4 : Int)) :: (((1 : Nm), (1 : Int)) :: (((2 : Nm), (2 : Int)) :: (((3 : Nm), (2 : Int)) :: ([] : List (Nm × Int)))))), (((0 : Nm), (1 : Int)) :: (((2 : Nm), (2 : Int)) :: (((3 : Nm), (2 : Int)) :: ([] : List (Nm × Int)))))).1) (v_fst (f := (eT (eP eN eI))) (g := (eT (eP eN eI))) (y := ((((0 : Nm), (4 : Int)) :: (((1 : Nm), (1 : Int)) :: (((2 : Nm), (2 : Int)) :: (((3 : Nm), (2 : Int)) :: ([] : List (Nm × Int)))))), (((0 : Nm), (1 : Int)) :: (((2 : Nm), (2 : Int)) :: (((3 : Nm), (2 : Int)) :: ([] : List (Nm × Int))))))) (v_var 5)) (o_some e_int) o_none)) (v_snd (f := (eT (eP eN eI))) (g := (eT (eP eN eI))) (y := ((((0 : Nm), (4 : Int)) :: (((1 : Nm), (1 : Int)) :: (((2 : Nm), (2 : Int)) :: (((3 : Nm), (2 : Int)) :: ([] : List (Nm × Int)))))), (((0 : Nm), (1 : Int)) :: (((2 : Nm), (2 : Int)) :: (((3 : Nm), (2 : Int)) :: ([] : List (Nm × Int))))))) (v_var 5))) a_nil)) ⟨(((0 : Nm) :: ((1 : Nm) :: ((2 : Nm) :: ((3 : Nm) :: ([] : List Nm))))), (((0 : Nm), (some (1 : Nm))) :: (((2 : Nm), (some (3 : Nm))) :: (((3 : Nm), (some (2 : Nm))) :: ([] : List (Nm × (Option Nm))))))), (((((0 : Nm), (1 : Int)) :: ([] : List (Nm × Int))) ++ (cutD ((((0 : Nm), (4 : Int)) :: (((1 : Nm), (1 : Int)) :: (((2 : Nm), (2 : Int)) :: (((3 : Nm), (2 : Int)) :: ([] : List (Nm × Int)))))), (((0 : Nm), (1 : Int)) :: (((2 : Nm), (2 : Int)) :: (((3 : Nm), (2 : Int)) :: ([] : List (Nm × Int)))))).1 (some (1 : Int)) none)), ((((0 : Nm), (4 : Int)) :: (((1 : Nm), (1 : Int)) :: (((2 : Nm), (2 : Int)) :: (((3 : Nm), (2 : Int)) :: ([] : List (Nm × Int)))))), (((0 : Nm), (1 : Int)) :: (((2 : Nm), (2 : Int)) :: (((3 : Nm), (2 : Int)) :: ([] : List (Nm × Int)))))).2), v13, hv13, rfl, rfl, rfl⟩) ⟨rfl, (by first | exact trivial | exact ⟨rfl, trivial⟩)⟩)
end
end ND

/-! NDhand -/
set_option Elab.async false
set_option linter.all false
set_option maxRecDepth 100000
set_option maxHeartbeats 4000000
namespace ND
open PySem PySem.Spec PyProof.Rows L2 NA
theorem hand_true : m__law_hand_right = some true := by decide +kernel
end ND

/-! NDlaw -/
set_option Elab.async false
set_option linter.all false
set_option maxRecDepth 100000
set_option maxHeartbeats 4000000
namespace ND
open PySem PySem.Spec PyProof.Rows L2 NA
def T_law : FT := fun as r as' => ∃ (ns cells : List Int), m__law_cells ns 3 = some cells ∧ cells.length < 2000 ∧ (∀ k : Int, 0 ≤ k → k < cells.length → ∃ t t', m__law_box cells k = some t ∧ m__law_right t = some (true, t')) ∧ as = [.dat (.rol ns)] ∧ r = .bl true ∧ as' = as
theorem mem_rng {n b : Int} (h : b ∈ rng n) : 0 ≤ b ∧ b < n := by
  obtain ⟨i, hi, rfl⟩ := List.mem_map.mp h
  have := List.mem_range.mp hi
  omega
section
variable {P : Program} {w : World} {K : PySem.W.Frag} {mg : Str → Option Value} {base : Heap}
theorem sc_law : FnScope ["_law_script", "_law_cells_here", "_law_k"] ["_law_script"] (defScope s_law) := ⟨rfl, rfl, rfl, by decide +kernel, rfl, by decide +kernel, by decide +kernel⟩
theorem ok_of {x : Str} {st : Stmt} {N ps : List Str} {k : Nat} {T : FT} {f : Addr} {fd : FuncData} (hf : FunD K x x (defArgs st) (defBody st) (defScope st) [] [] f fd) (S : FnScope N ps (defScope st)) (hN : ps.length ≤ N.length) (fr : Fre mg)
    (hT : ∀ as r as', T as r as' → as.length = ps.length ∧ as'.map kd = as.map kd ∧ ∀ i, isPar (look as i) = false → look as' i = look as i ∧ isOwn (look as i) = false)
    (hbody : ∀ (f : Addr) (cdv : Value) (A : Around) (outer : List Env) (s : Shared) (H : Hp) (E : XK) (as : List SD) (r : D) (as' : List SD), Room k (A.deeper (envOfC x (defScope st) s.heap.objs.size f cdv)) → Cg (CxB P w K mg base N x st f cdv A outer s H E) → T as r as' →
      SsD (CxB P w K mg base N x st f cdv A outer s H E) (starts N as) (defBody st) ⟨fun δ' => r = .non ∧ parsOk as' δ', fun d δ' => d = r ∧ parsOk as' δ'⟩) : FnOk P w K mg base CX0 (k + 1) f fd ps (spF K T) :=
  fn_ok (FunD.fun hf) S hN hT (fun cdv A outer s H E as r as' hr ht => hbody f cdv A outer s H E as r as' hr ⟨rfl, S.nd, hr.units, fr⟩ ht)
theorem ok_law {fa : Addr} {fd : FuncData} (hf : FunD K "law" "law" (defArgs s_law) (defBody s_law) (defScope s_law) [] [] fa fd) (fr : Fre mg) (c1 : Can P w K mg base "_law_hand_right" [] 40 T__law_hand_right) (c2 : Can P w K mg base "_law_cells" ["_law_script", "_law_most"] 1 T__law_cells) (c3 : CanN P w K mg base "_law_box" ["_law_script", "_law_k"] 1 T_box) (c4 : Can P w K mg base "_law_right" ["_law_tin"] 34 T__law_right) : FnOk P w K mg base CX0 41 fa fd ["_law_script"] (spF K T_law) := by
  refine ok_of hf sc_law (by decide) fr ?_ ?_
  · rintro as r as' ⟨ns, cells, _, _, _, rfl, rfl, rfl⟩
    exact shp_dat [.rol ns] rfl rfl rfl
  · rintro f cdv A outer s0 H E as r as' hr G ⟨ns, cells, h1, h2, h3, rfl, rfl, rfl⟩
    replace c1 := c1.cal (hr.mono (by omega)) (N := ["_law_script", "_law_cells_here", "_law_k"]) (cdv := cdv) (outer := outer) (H := H) (E := E)
    replace c2 := c2.cal (hr.mono (by omega)) (N := ["_law_script", "_law_cells_here", "_law_k"]) (cdv := cdv) (outer := outer) (H := H) (E := E)
    replace c3 := c3.cal (hr.mono (by omega)) (N := ["_law_script", "_law_cells_here", "_law_k"]) (cdv := cdv) (outer := outer) (H := H) (E := E)
    replace c4 := c4.cal (hr.mono (by omega)) (N := ["_law_script", "_law_cells_here", "_law_k"]) (cdv := cdv) (outer := outer) (H := H) (E := E)
    show SsD _ [.dat (.rol ns), .un, .un] _ _
    refine ss_cons (s_if (t_not (t_val (p := true) (e_call0 c1 rfl ⟨true, hand_true, rfl, rfl, rfl⟩))) (fun hc => by cases hc) (fun _ => ss_nil ?_))
    refine ss_cons (w_set 1 G (e_call c2 rfl (a_cons (v_var 0) (a_cons e_int a_nil)) ⟨ns, 3, cells, h1, rfl, rfl, rfl⟩) ?_)
    show SsD _ [.dat (.rol ns), .dat (eL eI cells), .un] _ _
    have hn : decide (0 ≤ (cells.length : Int) ∧ (cells.length : Int) < 2000) = true := decide_eq_true ⟨by omega, by omega⟩
    refine ss_cons (s_ret (d := .bl true) (δ1 := [.dat (.rol ns), .dat (eL eI cells), .un]) ?_ ⟨rfl, trivial⟩)
    refine (v_all (bs := (rng (cells.length : Int)).map fun _ => true) G (k_lc (f := eB) (g := eI) (l := rng (cells.length : Int)) [("_law_k", 2)] (fun d => [(2, eI d)]) G (cmp_tt _) (ItD.l (it_R (n := (cells.length : Int)) G hn (v_lenL (f := eI) (l := cells) G (v_var 1)))) (.inl rfl) (fun s H C cl fp b hb => tg1 2 G.nd) (fun z H C cl fp b y G hb h => ?_)).ev).cast (by rw [all_tt])
    cases h
    obtain ⟨hb0, hb1⟩ := mem_rng hb
    obtain ⟨t, t', hb2, hb3⟩ := h3 b hb0 hb1
    show EvD _ [.dat (.rol ns), .dat (eL eI cells), .dat (eI b)] _ _ [.dat (.rol ns), .dat (eL eI cells), .dat (eI b)]
    exact e_call1N c4.blk rfl (n_call (T := T_box) ⟨c3.ex⟩ rfl (a_cons (v_var 1) (a_cons (v_var 2) a_nil)) ⟨cells, b, t, hb2, rfl, rfl⟩) ⟨t, (true, t'), hb3, rfl, rfl, rfl⟩
end
end ND

/-! PLa -/
set_option Elab.async false
set_option linter.all false
set_option maxRecDepth 100000
set_option maxHeartbeats 4000000
namespace ND
open PySem PySem.Spec PyProof.Rows L2 NA
/-! ### the plain law: general -/
theorem cmpM_map {A B C : Type} {p p' : A → Option Bool} {h : A → Option B} {h' : A → Option C} (φ : B → C) : ∀ {l : List A} {ys : List B}, (∀ a ∈ l, p' a = p a) → (∀ a ∈ l, ∀ y, p a = some true → h a = some y → h' a = some (φ y)) → cmpM p h l = some ys → cmpM p' h' l = some (ys.map φ)
  | [], ys, _, _, e => by cases e; rfl
  | a :: l, ys, e1, e2, e => by
    obtain ⟨b, hb, e⟩ := bnd e
    have ih := fun ys => cmpM_map (p := p) (p' := p') (h := h) (h' := h') φ (l := l) (ys := ys) (fun a h => e1 a (List.mem_cons_of_mem _ h)) (fun a h => e2 a (List.mem_cons_of_mem _ h))
    show (p' a).bind _ = _
    rw [e1 a List.mem_cons_self, hb]
    cases b with
    | false => exact ih ys e
    | true =>
      obtain ⟨y, hy, e⟩ := bnd (show (h a).bind _ = some ys from e)
      obtain ⟨zs, hz, e⟩ := bnd e
      cases e
      show (h' a).bind _ = _
      rw [e2 a List.mem_cons_self y hb hy]
      show (cmpM p' h' l).bind _ = _
      rw [ih zs hz]
      rfl
theorem cmpM_fil {A B : Type} {p : A → Option Bool} {q : A → Bool} {h : A → Option B} {g : A → B} : ∀ {l : List A}, (∀ a ∈ l, p a = some (q a)) → (∀ a ∈ l, q a = true → h a = some (g a)) → cmpM p h l = some ((l.filter q).map g)
  | [], _, _ => rfl
  | a :: l, e1, e2 => by
    have ih := cmpM_fil (p := p) (q := q) (h := h) (g := g) (l := l) (fun a h => e1 a (List.mem_cons_of_mem _ h)) (fun a h => e2 a (List.mem_cons_of_mem _ h))
    show (p a).bind _ = _
    rw [e1 a List.mem_cons_self, List.filter_cons]
    cases hq : q a with
    | false => exact ih
    | true =>
      show (h a).bind _ = _
      rw [e2 a List.mem_cons_self hq]
      show (cmpM p h l).bind _ = _
      rw [ih]
      rfl
theorem cmpM_all {A B : Type} {h : A → Option B} {g : A → B} {l : List A} (e : ∀ a ∈ l, h a = some (g a)) : cmpM (fun _ => some true) h l = some (l.map g) := by
  rw [cmpM_fil (q := fun _ => true) (fun _ _ => rfl) (fun a ha _ => e a ha), List.filter_eq_self.mpr fun _ _ => rfl]
theorem forS_map {A S T : Type} {f : S → A → Option S} {g : T → A → Option T} (φ : S → T) : ∀ {l : List A} {s t : S}, (∀ a ∈ l, ∀ s s', f s a = some s' → g (φ s) a = some (φ s')) → forS f l s = some t → forS g l (φ s) = some (φ t)
  | [], s, t, _, e => by cases e; rfl
  | a :: l, s, t, h, e => by
    obtain ⟨u, hu, e⟩ := bnd e
    show (g (φ s) a).bind _ = _
    rw [h a List.mem_cons_self s u hu]
    exact forS_map φ (fun a ha => h a (List.mem_cons_of_mem _ ha)) e
theorem forS_mapI {A S T : Type} {f : S → A → Option S} {g : T → A → Option T} (Iv : S → Prop) (φ : S → T) : ∀ {l : List A} {s t : S}, (∀ a ∈ l, ∀ s s', Iv s → f s a = some s' → g (φ s) a = some (φ s') ∧ Iv s') → Iv s → forS f l s = some t → forS g l (φ s) = some (φ t) ∧ Iv t
  | [], s, t, _, i, e => by cases e; exact ⟨rfl, i⟩
  | a :: l, s, t, h, i, e => by
    obtain ⟨u, hu, e⟩ := bnd e
    obtain ⟨h1, h2⟩ := h a List.mem_cons_self s u i hu
    have q := forS_mapI Iv φ (fun a ha => h a (List.mem_cons_of_mem _ ha)) h2 e
    refine ⟨?_, q.2⟩
    show (g (φ s) a).bind _ = _
    rw [h1]
    exact q.1
theorem mkD_nd {A : Type} {l : List (Nm × A)} (h : (l.map (·.1)).Nodup) : mkD l = some l := if_pos h
theorem lk_mem {A : Type} : ∀ {d : List (Nm × A)} {k : Nm}, k ∈ d.map (·.1) → ∃ v, lk d k = some v
  | [], k, h => by cases h
  | p :: d, k, h => by
    unfold lk
    rw [List.find?_cons]
    by_cases e : p.1 = k
    · rw [decide_eq_true e]; exact ⟨_, rfl⟩
    · rw [decide_eq_false e]
      rcases List.mem_cons.mp h with h | h
      · exact absurd h.symm e
      · exact lk_mem h
theorem lk_of {A : Type} : ∀ {d : List (Nm × A)} {k : Nm} {v : A}, (d.map (·.1)).Nodup → (k, v) ∈ d → lk d k = some v
  | p :: d, k, v, n, h => by
    rw [List.map_cons, List.nodup_cons] at n
    unfold lk
    rw [List.find?_cons]
    rcases List.mem_cons.mp h with h | h
    · subst h
      rw [decide_eq_true rfl]; rfl
    · have e : ¬ p.1 = k := fun e => n.1 (e ▸ List.mem_map.mpr ⟨_, h, rfl⟩)
      rw [decide_eq_false e]
      exact lk_of n.2 h
theorem lk_in {A : Type} {d : List (Nm × A)} {k : Nm} {v : A} (h : lk d k = some v) : (k, v) ∈ d := by
  obtain ⟨p, h1, rfl⟩ := Option.map_eq_some_iff.mp h
  have e : p.1 = k := by simpa using List.find?_some h1
  subst e
  exact List.mem_of_find?_eq_some h1
theorem mn_le {l : List Int} {m : Int} (h : mnL leI l = some m) (v : Int) : m ≤ v ↔ ∃ x ∈ l, x ≤ v := by
  cases l with
  | nil => cases h
  | cons x r =>
    have h := Option.some.inj h
    subst h
    have gen : ∀ (r : List Int) (x : Int), r.foldl (fun a y => if leI a y then a else y) x ≤ v ↔ ∃ y ∈ x :: r, y ≤ v := by
      intro r
      induction r with
      | nil => intro x; simp
      | cons y r ih =>
        intro x
        rw [List.foldl_cons, ih]
        by_cases q : x ≤ y
        · rw [if_pos (decide_eq_true q)]
          simp only [List.mem_cons, exists_eq_or_imp]
          constructor
          · rintro (h | h)
            · exact .inl h
            · exact .inr (.inr h)
          · rintro (h | h | h)
            · exact .inl h
            · exact .inl (by omega)
            · exact .inr h
        · rw [if_neg (by simpa using q)]
          simp only [List.mem_cons, exists_eq_or_imp]
          constructor
          · rintro (h | h)
            · exact .inr (.inl h)
            · exact .inr (.inr h)
          · rintro (h | h | h)
            · exact .inl (by omega)
            · exact .inl h
            · exact .inr h
    exact gen r x
theorem mx_le {l : List Int} {m : Int} (h : mxL leI l = some m) (v : Int) : v ≤ m ↔ ∃ x ∈ l, v ≤ x := by
  cases l with
  | nil => cases h
  | cons x r =>
    have h := Option.some.inj h
    subst h
    have gen : ∀ (r : List Int) (x : Int), v ≤ r.foldl (fun a y => if leI y a then a else y) x ↔ ∃ y ∈ x :: r, v ≤ y := by
      intro r
      induction r with
      | nil => intro x; simp
      | cons y r ih =>
        intro x
        rw [List.foldl_cons, ih]
        by_cases q : y ≤ x
        · rw [if_pos (decide_eq_true q)]
          simp only [List.mem_cons, exists_eq_or_imp]
          constructor
          · rintro (h | h)
            · exact .inl h
            · exact .inr (.inr h)
          · rintro (h | h | h)
            · exact .inl h
            · exact .inl (by omega)
            · exact .inr h
        · rw [if_neg (by simpa using q)]
          simp only [List.mem_cons, exists_eq_or_imp]
          constructor
          · rintro (h | h)
            · exact .inr (.inl h)
            · exact .inr (.inr h)
          · rintro (h | h | h)
            · exact .inl (by omega)
            · exact .inl h
            · exact .inr h
    exact gen r x
/-! ### sizes -/
def wf (z : Sz) (p : Nm) : Int := (lk z.1 p).getD 0
def tf (z : Sz) (b : Nm) : Int := (lk z.2 b).getD 0
structure Tb (z : Sz) (ps bs : List Nm) : Prop where
  n1 : (z.1.map (·.1)).Nodup
  n2 : (z.2.map (·.1)).Nodup
  w : ∀ p ∈ ps, p ∈ z.1.map (·.1)
  t : ∀ b ∈ bs, b ∈ z.2.map (·.1)
theorem Tb.tab {z : Sz} {ps bs : List Nm} (h : Tb z ps bs) : m_tables_of z = some z := by
  unfold m_tables_of
  rw [mkD_nd h.n1, mkD_nd h.n2]
  rfl
theorem Tb.lw {z : Sz} {ps bs : List Nm} (h : Tb z ps bs) {p : Nm} (hp : p ∈ ps) : lk z.1 p = some (wf z p) := by
  obtain ⟨v, e⟩ := lk_mem (h.w p hp)
  unfold wf
  rw [e]; rfl
theorem Tb.lt {z : Sz} {ps bs : List Nm} (h : Tb z ps bs) {p : Nm} (hp : p ∈ bs) : lk z.2 p = some (tf z p) := by
  obtain ⟨v, e⟩ := lk_mem (h.t p hp)
  unfold tf
  rw [e]; rfl
def tm (z : Sz) (r : List Nm) : Int := (mnL leI (r.map (tf z))).getD 0
theorem tm_ok {z : Sz} {r : List Nm} (h : r ≠ []) : mnL leI (r.map (tf z)) = some (tm z r) := by
  cases r with
  | nil => exact absurd rfl h
  | cons x r => rfl
theorem tm_le {z : Sz} {r : List Nm} (h : r ≠ []) (v : Int) : tm z r ≤ v ↔ ∃ b ∈ r, tf z b ≤ v := by
  rw [mn_le (tm_ok h) v]
  constructor
  · rintro ⟨x, hx, hv⟩
    obtain ⟨b, hb, rfl⟩ := List.mem_map.mp hx
    exact ⟨b, hb, hv⟩
  · rintro ⟨b, hb, hv⟩
    exact ⟨_, List.mem_map.mpr ⟨b, hb, rfl⟩, hv⟩
theorem tm_lt {z : Sz} {r : List Nm} {b : Nm} (h : b ∈ r) : tm z r ≤ tf z b := (tm_le (fun e => by rw [e] at h; cases h) _).mpr ⟨b, h, Int.le_refl _⟩
/-- the places of holes, by the program -/
def m_spots (j : Job) : Option (List Nm) :=
  (m_goal_of j).bind fun v2 => (m_free_places j).bind fun v3 => (m_chains j).bind fun v4 =>
  forS (fun (s5 : (List Nm)) (b6 : (List Nm)) => (at' b6 (-(1 : Int))).bind fun v7 =>
  (lk v2 v7).bind fun v8 =>
  (chk (decide ((((b6.map some) ++ (v8 :: ([] : List (Option Nm))))).length < 2000))).bind fun u9 =>
  (cmpM (fun (b10 : (Option Nm)) => some (!b10.isNone)) (fun (b10 : (Option Nm)) => (b10).bind fun v11 =>
  some v11) ((b6.map some) ++ (v8 :: ([] : List (Option Nm))))).bind fun v12 =>
  (chk (decide (s5.length + v12.length < 2000))).bind fun u14 =>
  some (s5 ++ v12)) v4 v3
section
variable {j : Job} {z : Sz} {ps bs sp : List Nm} {R : List (List Nm)} {r : List Nm}
theorem hole_ok (h : Tb z ps bs) (hs : m_spots j = some sp) (hsub : ∀ p ∈ sp, p ∈ ps) : m_hole_of j z = some (mxL leI (sp.map (wf z))) := by
  obtain ⟨v2, h2, hs⟩ := bnd hs
  obtain ⟨v3, h3, hs⟩ := bnd hs
  obtain ⟨v4, h4, hs⟩ := bnd hs
  unfold m_hole_of
  simp only [h.tab, h2, h3, h4, Option.bind_some, hs]
  rw [cmpM_all (g := wf z) fun a ha => by rw [h.lw (hsub a ha)]; rfl]
  rfl
theorem thick_ok (h : Tb z ps bs) (hb : ∀ b ∈ r, b ∈ bs) : cmpM (fun _ => some true) (fun b5 => (lk z.2 b5).bind fun v6 => some v6) r = some (r.map (tf z)) := cmpM_all fun a ha => by rw [h.lt (hb a ha)]; rfl
theorem wide_ok (h : Tb z ps bs) (hb : ∀ b ∈ r, b ∈ ps) : cmpM (fun _ => some true) (fun b5 => (lk z.1 b5).bind fun v6 => some v6) r = some (r.map (wf z)) := cmpM_all fun a ha => by rw [h.lw (hb a ha)]; rfl
def opAt (z : Sz) (r : List Nm) : Option Int → Bool
  | none => false
  | some v => decide (tm z r ≤ v)
theorem opened_nil (h : Tb z ps bs) (hR : m_rings j = some []) (o : Option Int) : m_opened_by j z o = some ([], []) := by
  unfold m_opened_by
  rw [h.tab, hR]
  rfl
theorem opened_one (h : Tb z ps bs) (hR : m_rings j = some [r]) (hr : r ≠ []) (hb : ∀ b ∈ r, b ∈ ps ∧ b ∈ bs) (o : Option Int) : ∃ f, m_opened_by j z o = some (f, bif opAt z r o then [] else [r]) := by
  unfold m_opened_by
  rw [h.tab, hR]
  cases o with
  | none => exact ⟨[], rfl⟩
  | some v =>
    simp only [Option.bind_some]
    unfold whileM
    simp only [Option.bind_some, cond_true, Option.isNone_some, Bool.not_false, Bool.true_and, cmpM, thick_ok h (fun b q => (hb b q).2), tm_ok hr]
    show ∃ f, _ = some (f, bif decide (tm z r ≤ v) then [] else [r])
    cases decide (tm z r ≤ v) with
    | false => exact ⟨[], rfl⟩
    | true =>
      simp only [cond_true, Option.bind_some]
      have hw := wide_ok (r := r) h (fun b q => (hb b q).1)
      have e1 : at' [r] (0 : Int) = some r := rfl
      have e2 : plc [r] r = some 0 := by
        unfold plc
        rw [List.findIdx?_cons, decide_eq_true rfl]; rfl
      obtain ⟨m, hm⟩ : ∃ m, mxL leI (r.map (wf z)) = some m := by
        cases r with
        | nil => exact absurd rfl hr
        | cons x r => exact ⟨_, rfl⟩
      simp only [e1, e2, Option.bind_some, hw, hm]
      exact ⟨_, rfl⟩
end
end ND

/-! PLb -/
set_option Elab.async false
set_option linter.all false
set_option maxRecDepth 100000
set_option maxHeartbeats 4000000
namespace ND
open PySem PySem.Spec PyProof.Rows L2 NA
section
variable {j : Job} {z : Sz} {ps bs sp : List Nm} {R C : List (List Nm)} {r : List Nm}
def opB (z : Sz) (sp : List Nm) : List (List Nm) → Bool
  | [] => true
  | r :: _ => sp.any fun p => decide (tm z r ≤ wf z p)
theorem opAt_any : opAt z r (mxL leI (sp.map (wf z))) = sp.any fun p => decide (tm z r ≤ wf z p) := by
  cases e : mxL leI (sp.map (wf z)) with
  | none =>
    cases sp with
    | nil => rfl
    | cons x sp => cases e
  | some m =>
    show decide (tm z r ≤ m) = _
    rw [Bool.eq_iff_iff, decide_eq_true_eq, mx_le e, List.any_eq_true]
    constructor
    · rintro ⟨x, hx, hv⟩
      obtain ⟨p, hp, rfl⟩ := List.mem_map.mp hx
      exact ⟨p, hp, decide_eq_true hv⟩
    · rintro ⟨p, hp, hv⟩
      exact ⟨_, List.mem_map.mpr ⟨p, hp, rfl⟩, of_decide_eq_true hv⟩
/-- the rings, at most one -/
structure One (R : List (List Nm)) (ps bs : List Nm) : Prop where
  one : R.length ≤ 1
  ne : ∀ r ∈ R, r ≠ []
  mem : ∀ r ∈ R, ∀ b ∈ r, b ∈ ps ∧ b ∈ bs
theorem One.cases (o : One R ps bs) : R = [] ∨ ∃ r, R = [r] ∧ r ≠ [] ∧ ∀ b ∈ r, b ∈ ps ∧ b ∈ bs := by
  match R, o with
  | [], _ => exact .inl rfl
  | [r], o => exact .inr ⟨r, rfl, o.ne r List.mem_cons_self, o.mem r List.mem_cons_self⟩
  | _ :: _ :: _, o => have := o.one; simp at this
theorem shut_ok (h : Tb z ps bs) (hs : m_spots j = some sp) (hsub : ∀ p ∈ sp, p ∈ ps) (hR : m_rings j = some R) (o : One R ps bs) : m_shut_rings j z = some (bif opB z sp R then [] else R) := by
  unfold m_shut_rings
  rw [hole_ok h hs hsub]
  rcases o.cases with rfl | ⟨r, rfl, hr, hb⟩
  · rw [Option.bind_some, opened_nil h hR]; rfl
  · obtain ⟨f, e⟩ := opened_one h hR hr hb (mxL leI (sp.map (wf z)))
    rw [Option.bind_some, e, opAt_any]; rfl
theorem can_ok (h : Tb z ps bs) (hs : m_spots j = some sp) (hsub : ∀ p ∈ sp, p ∈ ps) (hR : m_rings j = some R) (o : One R ps bs) : m_can_be_done_by j z = some (opB z sp R) := by
  unfold m_can_be_done_by
  rw [shut_ok h hs hsub hR o]
  rcases o.cases with rfl | ⟨r, rfl, hr, hb⟩
  · rfl
  · cases e : opB z sp [r] <;> rfl
/-- the places of holes, by the law -/
def m_lsp (j : Job) (C : List (List Nm)) : Option (List Nm) :=
  forS (fun (s : List Nm) (b9 : List Nm) => (chk (decide (s.length + b9.length < 2000))).bind fun _ =>
    (cmpM (fun (b15 : Nm) => (lk j.2 b15).bind fun v16 => some (!v16.isNone)) (fun (b15 : Nm) => (lk j.2 b15).bind fun v17 => v17.bind fun v18 => some v18) b9).bind fun v19 =>
    (chk (decide ((s ++ b9).length + v19.length < 2000))).bind fun _ => some ((s ++ b9) ++ v19)) C (j.1.filter fun p => !hasK j.2 p)
structure JOk (j : Job) : Prop where
  pn : j.1.Nodup
  bn : (j.2.map (·.1)).Nodup
  bp : ∀ b ∈ j.2, b.1 ∈ j.1
  gp : ∀ b ∈ j.2, ∀ p, b.2 = some p → p ∈ j.1
theorem JOk.goal (J : JOk j) : m__law_goal j = some j.2 := by unfold m__law_goal; rw [mkD_nd J.bn]; rfl
theorem mapPair (l : List (Nm × ON)) : (l.map fun (b1 : (Nm × (Option Nm))) => (b1.1, b1.2)) = l := List.map_id l
def lspI (z : Sz) (j : Job) (s : List Int) (a : List Nm) : Option (List Int) :=
      (cmpM (fun _ => some true) (fun (b10 : Nm) => (lk z.1 b10).bind fun v11 => some v11) a).bind (fun v12 =>
  (chk (decide (s.length + v12.length < 2000))).bind fun u14 =>
  (cmpM (fun (b15 : Nm) => (lk j.2 b15).bind fun v16 =>
  some (!v16.isNone)) (fun (b15 : Nm) => (lk j.2 b15).bind fun v17 =>
  (lkO z.1 v17).bind fun v18 =>
  some v18) a).bind fun v19 =>
  (chk (decide ((s ++ v12).length + v19.length < 2000))).bind fun u21 =>
  some ((s ++ v12) ++ v19))
theorem lshut_ok (h : Tb z ps bs) (J : JOk j) (hp : ∀ p ∈ j.1, p ∈ ps) (hT : m__law_threads j = some (R, C)) (hC : ∀ c ∈ C, ∀ b ∈ c, b ∈ ps) (hs : m_lsp j C = some sp) (hl : sp.length < 1000) (hl2 : ∀ r ∈ R, r.length < 1000) (o : One R ps bs) : m__law_shut j z = some (bif opB z sp R then [] else R) := by
  have hg : ∀ s a s', a ∈ C → (chk (decide (s.length + a.length < 2000))).bind (fun _ =>
    (cmpM (fun (b15 : Nm) => (lk j.2 b15).bind fun v16 => some (!v16.isNone)) (fun (b15 : Nm) => (lk j.2 b15).bind fun v17 => v17.bind fun v18 => some v18) a).bind fun v19 =>
    (chk (decide ((s ++ a).length + v19.length < 2000))).bind fun _ => some ((s ++ a) ++ v19)) = some s' →
      lspI z j (s.map (wf z)) a = some (s'.map (wf z)) := by
    intro s a s' ha e
    obtain ⟨u1, h1, e⟩ := bnd e
    obtain ⟨v19, h2, e⟩ := bnd e
    obtain ⟨u3, h3, e⟩ := bnd e
    cases e
    unfold lspI
    rw [wide_ok h (hC a ha), Option.bind_some, List.length_map, List.length_map, h1, Option.bind_some]
    rw [cmpM_map (wf z) (fun _ _ => rfl) ?_ h2]
    · rw [Option.bind_some, List.length_append, List.length_map, List.length_map, List.length_map, ← List.length_append, h3, Option.bind_some, List.map_append, List.map_append]
    · intro b hb y _ hy
      obtain ⟨v17, q1, hy⟩ := bnd hy
      obtain ⟨v18, q2, hy⟩ := bnd hy
      cases hy
      subst q2
      rw [q1]
      show (lk z.1 y).bind _ = _
      rw [h.lw (hp _ (J.gp _ (lk_in q1) _ rfl))]; rfl
  have hg2 := forS_map (g := lspI z j) (List.map (wf z)) (fun a ha s s' e => hg s a s' ha e) hs
  unfold m__law_shut
  rw [J.goal, Option.bind_some, mkD_nd h.n1, Option.bind_some, hT, Option.bind_some]
  rw [cmpM_fil (q := fun p => !hasK j.2 p) (g := wf z) (fun _ _ => rfl) (fun a ha _ => by rw [h.lw (hp a ha)]; rfl), Option.bind_some]
  show Option.bind (forS (lspI z j) C _) _ = _
  rw [hg2, Option.bind_some]
  rcases o.cases with rfl | ⟨r, rfl, hr, hb⟩
  · cases decide (List.map (wf z) sp = []) <;> rfl
  · have hth : cmpM (fun _ => some true) (fun (b28 : Nm) => (mkD z.2).bind fun v29 => (lk v29 b28).bind fun v30 => some v30) r = some (r.map (tf z)) := cmpM_all fun a ha => by rw [mkD_nd h.n2, Option.bind_some, h.lt (hb a ha).2]; rfl
    have hwd := wide_ok (r := r) h fun b q => (hb b q).1
    show _ = some (bif sp.any fun p => decide (tm z r ≤ wf z p) then [] else [r])
    rw [← opAt_any]
    cases e : sp with
    | nil => rfl
    | cons x sp' =>
      rw [← e]
      have hne : decide (List.map (wf z) sp = []) = false := by rw [e]; rfl
      rw [hne]
      obtain ⟨m, hm⟩ : ∃ m, mxL leI (sp.map (wf z)) = some m := by rw [e]; exact ⟨_, rfl⟩
      have hr1 : rng (([r] : List (List Nm)).length : Int) = [0] := rfl
      have hc1 : chk (decide (0 ≤ (([r] : List (List Nm)).length : Int) ∧ (([r] : List (List Nm)).length : Int) < 2000)) = some () := rfl
      simp only [cond_false, hc1, Option.bind_some, hr1, forS, hth, tm_ok hr, hm, cmpM]
      show _ = some (bif decide (tm z r ≤ m) then [] else [r])
      by_cases q : tm z r ≤ m
      · have hc2 : chk (decide ((sp.map (wf z)).length + (r.map (wf z)).length < 2000)) = some () := by
          have := hl2 r List.mem_cons_self
          rw [decide_eq_true (by rw [List.length_map, List.length_map]; omega)]; rfl
        obtain ⟨m', hm'⟩ : ∃ m', mxL leI (sp.map (wf z) ++ r.map (wf z)) = some m' := by rw [e]; exact ⟨_, rfl⟩
        have hlt : decide (m' < tm z r) = false := by
          refine decide_eq_false ?_
          have := (mx_le hm' (tm z r)).mpr (by
            obtain ⟨x, hx, hv⟩ := (mx_le hm (tm z r)).mp q
            exact ⟨x, List.mem_append.mpr (.inl hx), hv⟩)
          omega
        rw [decide_eq_true q]
        simp only [cond_true, hwd, Option.bind_some, hc2, hm', hlt, cond_false]
      · have hlt : decide (m < tm z r) = true := decide_eq_true (by omega)
        rw [decide_eq_false q]
        simp only [cond_false, Option.bind_some, hm, hlt, cond_true]
end
end ND

/-! PLc -/
set_option Elab.async false
set_option linter.all false
set_option maxRecDepth 100000
set_option maxHeartbeats 4000000
namespace ND
open PySem PySem.Spec PyProof.Rows L2 NA
structure SOk (j : Job) (z : Sz) : Prop where
  k1 : z.1.map (·.1) = j.1
  k2 : z.2.map (·.1) = j.2.map (·.1)
  w1 : ∀ p ∈ j.1, 0 ≤ wf z p
  t1 : ∀ b ∈ j.2, 1 ≤ tf z b.1
  fb : ∀ b ∈ j.2, tf z b.1 ≤ wf z b.1
  fg : ∀ b ∈ j.2, ∀ p, b.2 = some p → tf z b.1 ≤ wf z p
section
variable {j : Job} {z : Sz} {ps bs sp : List Nm} {R C : List (List Nm)} {r : List Nm}
theorem SOk.tb (s : SOk j z) (J : JOk j) : Tb z j.1 (j.2.map (·.1)) := ⟨by rw [s.k1]; exact J.pn, by rw [s.k2]; exact J.bn, fun p h => by rw [s.k1]; exact h, fun p h => by rw [s.k2]; exact h⟩
theorem all_true {A : Type} (l : List A) : (l.map fun _ => true).all id = true := by
  rw [List.all_eq_true]
  intro x hx
  obtain ⟨_, _, rfl⟩ := List.mem_map.mp hx
  rfl
theorem fst_ok {A B : Type} (l : List (A × B)) : cmpM (fun _ => some true) (fun (b : A × B) => some b.1) l = some (l.map (·.1)) := cmpM_all fun _ _ => rfl
theorem numbers_ok {names : List Nm} {t : List (Nm × Int)} (h1 : t.map (·.1) = names) (h2 : ∀ q ∈ t, 0 ≤ q.2) : m_are_numbers names t = some true := by
  unfold m_are_numbers
  rw [show cmpM (fun _ => some true) (fun (b1 : (Nm × Int)) => some (true && (decide ((2 : Int) = (2 : Int))))) t = some (t.map fun _ => true) from cmpM_all fun _ _ => rfl, cmpM_all (g := fun _ => true) (fun q hq => ?_), fst_ok]
  · simp only [Option.bind_some, all_true, h1]
    rw [decide_true]
    rfl
  · show some (true && (true && decide (0 ≤ q.2))) = _
    rw [decide_eq_true (h2 q hq)]; rfl
theorem is_sizes_ok (s : SOk j z) (J : JOk j) : m_is_sizes j z = some true := by
  have h := s.tb J
  have hb : m_boxes j = some (j.2.map (·.1)) := by unfold m_boxes; rw [fst_ok]; rfl
  have hg : m_goal_of j = some j.2 := by unfold m_goal_of; rw [mapPair, mkD_nd J.bn]; rfl
  have hn1 : m_are_numbers j.1 z.1 = some true := numbers_ok s.k1 fun q hq => by
    have e : lk z.1 q.1 = some q.2 := lk_of h.n1 hq
    have := s.w1 q.1 (by rw [← s.k1]; exact List.mem_map.mpr ⟨q, hq, rfl⟩)
    unfold wf at this
    rw [e] at this; exact this
  have hn2 : m_are_numbers (j.2.map (·.1)) z.2 = some true := numbers_ok s.k2 fun q hq => by
    have e : lk z.2 q.1 = some q.2 := lk_of h.n2 hq
    have hm : q.1 ∈ j.2.map (·.1) := by rw [← s.k2]; exact List.mem_map.mpr ⟨q, hq, rfl⟩
    obtain ⟨b, hb, e2⟩ := List.mem_map.mp hm
    have := s.t1 b hb
    unfold tf at this
    rw [e2, e] at this
    exact Int.le_trans (by decide) this
  unfold m_is_sizes
  rw [hn1, hb]
  simp only [Option.bind_some, hn2, hg, h.tab, Bool.not_true, Bool.false_or, cond_false, decide_true]
  rw [cmpM_all (g := fun _ => true) (fun b hb => ?_), cmpM_all (g := fun _ => true) (fun q hq => ?_)]
  · simp only [Option.bind_some, all_true, Bool.not_true, cond_false]
  · cases e : q.2 with
    | none => rfl
    | some p =>
      have h1 := h.lt (p := q.1) (List.mem_map.mpr ⟨q, hq, rfl⟩)
      have h2 := h.lw (J.gp q hq p e)
      show (Option.bind ((lk z.2 q.1).bind fun v13 => (lk z.1 p).bind fun v14 => some (decide (v13 ≤ v14))) _) = _
      rw [h1, h2]
      simp only [Option.bind_some, decide_eq_true (s.fg q hq p e), Bool.or_true]
  · obtain ⟨q, hq, rfl⟩ := List.mem_map.mp hb
    rw [h.lt (List.mem_map.mpr ⟨q, hq, rfl⟩), h.lw (J.bp q hq)]
    simp only [Option.bind_some, decide_eq_true (s.fb q hq)]
theorem forM_find {x : Int} {step : Unit → Int → Option (Unit ⊕ Option Int)} {p : Int → Bool} : ∀ {l : List Int}, (∀ a ∈ l, step () a = some (bif p a then .inr (some a) else .inl ())) → l.Pairwise (fun a b => leI a b = true) → x ∈ l → p x = true → (∀ y ∈ l, p y = true → x ≤ y) → forM step l () = some (.inr (some x))
  | [], _, _, h, _, _ => by cases h
  | a :: l, hs, hp, hx, px, hm => by
    rw [List.pairwise_cons] at hp
    show (step () a).bind _ = _
    rw [hs a List.mem_cons_self]
    cases e : p a with
    | true =>
      have h1 := hm a List.mem_cons_self e
      have h2 : a = x := by
        rcases List.mem_cons.mp hx with h | h
        · exact h.symm
        · have := of_decide_eq_true (hp.1 x h); omega
      subst h2; rfl
    | false =>
      show forM step l () = _
      refine forM_find (fun a ha => hs a (List.mem_cons_of_mem _ ha)) hp.2 ?_ px (fun y hy => hm y (List.mem_cons_of_mem _ hy))
      rcases List.mem_cons.mp hx with h | h
      · subst h; rw [px] at e; cases e
      · exact h
theorem tm_in (hr : r ≠ []) : ∃ b ∈ r, tf z b = tm z r := by
  obtain ⟨b, hb, h⟩ := (tm_le hr (tm z r)).mp (Int.le_refl _)
  exact ⟨b, hb, by have := tm_lt (z := z) hb; omega⟩
theorem needed_ok (h : Tb z ps bs) (hs : m_spots j = some sp) (hsub : ∀ p ∈ sp, p ∈ ps) (hR : m_rings j = some R) (o : One R ps bs) (hbs : j.2.map (·.1) = bs) :
    m_place_needed j z = some (some (match R with | [] => 0 | r :: _ => bif opB z sp R then 0 else tm z r)) := by
  unfold m_place_needed
  rw [hole_ok h hs hsub, h.tab, can_ok h hs hsub hR o]
  simp only [Option.bind_some]
  rcases o.cases with rfl | ⟨r, rfl, hr, hb⟩
  · rfl
  · cases e : opB z sp [r] with
    | true => rfl
    | false =>
      have hbx : m_boxes j = some bs := by unfold m_boxes; rw [fst_ok, ← hbs]; rfl
      have hop : opAt z r (mxL leI (sp.map (wf z))) = false := by rw [opAt_any]; exact e
      simp only [cond_false, hbx, Option.bind_some, thick_ok h fun b hb => hb]
      rw [forM_find (x := tm z r) (p := fun a => decide (tm z r ≤ a)) (fun a ha => ?_) (isort_sorted totI _) ?_ (decide_eq_true (Int.le_refl _)) (fun y _ hy => of_decide_eq_true hy)]
      · rfl
      · obtain ⟨b, hb1, hb2⟩ := tm_in (z := z) hr
        rw [(isort_perm _).mem_iff, ← hb2]
        exact List.mem_map.mpr ⟨b, (hb b hb1).2, rfl⟩
      · show (Option.bind (bif (mxL leI (sp.map (wf z))).isNone then some (some a) else (mxL leI (sp.map (wf z))).bind fun v11 => some (some (if a > v11 then a else v11))) _) = _
        cases e2 : mxL leI (sp.map (wf z)) with
        | none =>
          obtain ⟨f, e3⟩ := opened_one h hR hr hb (some a)
          show (m_opened_by j z (some a)).bind _ = _
          rw [e3]
          show _ = some (bif decide (tm z r ≤ a) then _ else _)
          cases e4 : decide (tm z r ≤ a) with
          | true => rw [show opAt z r (some a) = true from e4]; rfl
          | false => rw [show opAt z r (some a) = false from e4]; rfl
        | some m =>
          rw [e2] at hop
          have hop : ¬ tm z r ≤ m := of_decide_eq_false hop
          obtain ⟨f, e3⟩ := opened_one h hR hr hb (some (if a > m then a else m))
          show (m_opened_by j z (some (if a > m then a else m))).bind _ = _
          rw [e3]
          have e5 : opAt z r (some (if a > m then a else m)) = decide (tm z r ≤ a) := by
            show decide (tm z r ≤ (if a > m then a else m)) = _
            rw [Bool.eq_iff_iff, decide_eq_true_eq, decide_eq_true_eq]
            split <;> omega
          rw [e5]
          cases decide (tm z r ≤ a) <;> rfl
end
end ND

/-! PLd -/
set_option Elab.async false
set_option linter.all false
set_option maxRecDepth 100000
set_option maxHeartbeats 4000000
namespace ND
open PySem PySem.Spec PyProof.Rows L2 NA
theorem mn_gen {A : Type} {le : A → A → Bool} (T : Tot le) {l : List A} {m : A} (h : mnL le l = some m) : m ∈ l ∧ ∀ x ∈ l, le m x = true := by
  cases l with
  | nil => cases h
  | cons x r =>
    have h := Option.some.inj h
    subst h
    have gen : ∀ (r : List A) (x : A), r.foldl (fun a y => if le a y then a else y) x ∈ x :: r ∧ ∀ y ∈ x :: r, le (r.foldl (fun a y => if le a y then a else y) x) y = true := by
      intro r
      induction r with
      | nil =>
        intro x
        refine ⟨List.mem_cons_self, fun y hy => ?_⟩
        rcases List.mem_cons.mp hy with rfl | hy
        · have := T.to y y; simpa using this
        · cases hy
      | cons y r ih =>
        intro x
        rw [List.foldl_cons]
        cases q : le x y with
        | true =>
          rw [if_pos rfl]
          obtain ⟨h1, h2⟩ := ih x
          refine ⟨?_, fun u hu => ?_⟩
          · rcases List.mem_cons.mp h1 with h | h
            · rw [h]; exact List.mem_cons_self
            · exact List.mem_cons_of_mem _ (List.mem_cons_of_mem _ h)
          · rcases List.mem_cons.mp hu with rfl | hu
            · exact h2 u List.mem_cons_self
            · rcases List.mem_cons.mp hu with rfl | hu
              · exact T.tr _ _ _ (h2 x List.mem_cons_self) q
              · exact h2 u (List.mem_cons_of_mem _ hu)
        | false =>
          rw [if_neg (by simp)]
          obtain ⟨h1, h2⟩ := ih y
          have hyx : le y x = true := by
            have := T.to x y
            rw [q] at this; simpa using this
          refine ⟨?_, fun u hu => ?_⟩
          · exact List.mem_cons_of_mem _ h1
          · rcases List.mem_cons.mp hu with rfl | hu
            · exact T.tr _ _ _ (h2 y List.mem_cons_self) hyx
            · exact h2 u hu
    exact gen r x
theorem mnL_ex {A : Type} {le : A → A → Bool} {l : List A} (h : l ≠ []) : ∃ m, mnL le l = some m := by
  cases l with
  | nil => exact absurd rfl h
  | cons x r => exact ⟨_, rfl⟩
theorem forS_I {A S : Type} {f g : S → A → Option S} (Iv : S → Prop) : ∀ {l : List A} {s t : S}, (∀ a ∈ l, ∀ s s', Iv s → f s a = some s' → g s a = some s' ∧ Iv s') → Iv s → forS f l s = some t → forS g l s = some t ∧ Iv t :=
  fun h i e => forS_mapI Iv id h i e
def rowAt (r : List Nm) (i : Int) : List Nm := cutD r (some i) none ++ (cutD r none (some i) ++ [])
def rmO (row : List Nm) (hole : Nm) : Option (List (Nm × ON)) :=
  (at' row (0 : Int)).bind fun v8 => (at' row (0 : Int)).bind fun v9 => (chk (!row.isEmpty)).bind fun _ => (chk (decide (row.length < 2000))).bind fun _ =>
  (forS (fun (s : List (Nm × ON) × Nm) (b12 : Nm) => (chk (decide (s.1.length + ([] : List (Nm × ON)).length < 2000))).bind fun _ => (chk (decide ((s.1 ++ []).length < 2000))).bind fun _ => some ((s.1 ++ []) ++ [(b12, some s.2)], b12)) (row.drop 1).reverse (((v8, some hole) :: []), v9)).bind fun o16 =>
  (chk (decide (o16.1.length + ([] : List (Nm × ON)).length < 2000))).bind fun _ => (chk (decide (((o16.1 ++ []) ++ ((hole, some o16.2) :: [])).length < 2000))).bind fun _ => some ((o16.1 ++ []) ++ ((hole, some o16.2) :: []))
section
variable {j : Job} {z : Sz} {ps bs sp : List Nm} {R C : List (List Nm)} {r : List Nm}
theorem hole0 (h : Tb z ps bs) (k : Nat) (p : Nm) : hole_n (k + 1) z p [] = some ([], []) := by
  show m_hole_moves (m_ring_moves (hole_n k)) z p [] = _
  unfold m_hole_moves
  rw [h.tab]; rfl
theorem ring_ok (h : Tb z ps bs) (hr : r ≠ []) (hb : ∀ b ∈ r, b ∈ bs) : ∃ i : Nat, i < r.length ∧ (∃ b, r[i]? = some b ∧ tf z b = tm z r) ∧ ∀ k p pl, rmO (rowAt r i) p = some pl → m_ring_moves (hole_n (k + 1)) r z p [] = some (pl, []) := by
  have hen : ∀ q ∈ enm r, ∃ i : Nat, q.1 = (i : Int) ∧ r[i]? = some q.2 := by
    intro q hq
    unfold enm at hq
    obtain ⟨i, hi, e⟩ := List.mem_mapIdx.mp hq
    refine ⟨i, by rw [← e], ?_⟩
    rw [← e, List.getElem?_eq_getElem hi]
  have h1 : cmpM (fun _ => some true) (fun (b2 : (Int × Nm)) => (lk z.2 b2.2).bind fun v3 => some (v3, b2.1)) (enm r) = some ((enm r).map fun q => (tf z q.2, q.1)) := cmpM_all fun q hq => by
    obtain ⟨i, _, e⟩ := hen q hq
    rw [h.lt (hb _ (List.mem_of_getElem? e))]; rfl
  obtain ⟨m, hm⟩ : ∃ m, mnL lePII ((enm r).map fun q => (tf z q.2, q.1)) = some m := mnL_ex fun e => hr (by
    have e := congrArg List.length e
    unfold enm at e
    rw [List.length_map, List.length_mapIdx] at e
    exact List.length_eq_zero_iff.mp e)
  obtain ⟨hm1, hm2⟩ := mn_gen totPII hm
  obtain ⟨q, hq, e⟩ := List.mem_map.mp hm1
  obtain ⟨i, hi1, hi2⟩ := hen q hq
  have hi : i < r.length := (List.getElem?_eq_some_iff.mp hi2).1
  have hmi : m.2 = (i : Int) := by rw [← e]; exact hi1
  refine ⟨i, hi, ⟨q.2, hi2, ?_⟩, fun k p pl hpl => ?_⟩
  · obtain ⟨b, hb1, hb2⟩ := tm_in (z := z) hr
    obtain ⟨k, hk, hk2⟩ := List.getElem_of_mem hb1
    have hmem : ((k : Int), b) ∈ enm r := by
      unfold enm
      exact List.mem_mapIdx.mpr ⟨k, hk, by rw [hk2]⟩
    have := hm2 _ (List.mem_map.mpr ⟨_, hmem, rfl⟩)
    rw [← e] at this
    have := of_decide_eq_true this
    have h3 := tm_lt (z := z) (List.mem_of_getElem? hi2)
    simp only at this
    omega
  · unfold m_ring_moves
    simp only [h.tab, Option.bind_some, h1, hm]
    rw [hmi]
    show (chk (decide ((rowAt r i).length < 2000))).bind _ = _
    unfold rmO at hpl
    obtain ⟨v8, e8, hpl⟩ := bnd hpl
    obtain ⟨v9, e9, hpl⟩ := bnd hpl
    obtain ⟨u10, e10, hpl⟩ := bnd hpl
    obtain ⟨u11, e11, hpl⟩ := bnd hpl
    obtain ⟨o16, e16, hpl⟩ := bnd hpl
    obtain ⟨u18, e18, hpl⟩ := bnd hpl
    obtain ⟨u19, e19, hpl⟩ := bnd hpl
    cases hpl
    rw [e11, Option.bind_some]
    show (at' (rowAt r i) (0 : Int)).bind _ = _
    rw [e8, Option.bind_some]
    show (at' (rowAt r i) (0 : Int)).bind _ = _
    rw [e9, Option.bind_some]
    show (chk (!(rowAt r i).isEmpty)).bind _ = _
    rw [e10, Option.bind_some]
    have hf := forS_map (g := fun (s11 : (List (Nm × (Option Nm))) × (List (List Nm)) × Nm) (b12 : Nm) => (hole_n (k + 1) z s11.2.2 s11.2.1).bind fun v13 =>
  (chk (decide (s11.1.length + v13.1.length < 2000))).bind fun u14 =>
  (chk (decide ((s11.1 ++ v13.1).length < 2000))).bind fun u15 =>
  some (((s11.1 ++ v13.1) ++ [(b12, (some s11.2.2))]), v13.2, b12)) (fun (s : List (Nm × ON) × Nm) => (s.1, ([] : List (List Nm)), s.2)) (fun a _ s s' hs => by
        obtain ⟨u1, q1, hs⟩ := bnd hs
        obtain ⟨u2, q2, hs⟩ := bnd hs
        cases hs
        show (hole_n (k + 1) z s.2 []).bind _ = _
        rw [hole0 h, Option.bind_some]
        show (chk (decide (s.1.length + ([] : List (Nm × ON)).length < 2000))).bind _ = _
        rw [q1, Option.bind_some]
        show (chk (decide ((s.1 ++ []).length < 2000))).bind _ = _
        rw [q2, Option.bind_some]) e16
    show Option.bind (forS _ ((rowAt r i).drop 1).reverse ([(v8, some p)], ([] : List (List Nm)), v9)) _ = _
    rw [hf, Option.bind_some]
    show (hole_n (k + 1) z o16.2 []).bind _ = _
    rw [hole0 h, Option.bind_some]
    show (chk (decide (o16.1.length + ([] : List (Nm × ON)).length < 2000))).bind _ = _
    rw [e18, Option.bind_some]
    show (chk (decide (((o16.1 ++ []) ++ ((p, some o16.2) :: [])).length < 2000))).bind _ = _
    rw [e19, Option.bind_some]
def holeO (i : Int) (S : List Nm) (p : Nm) : List (List Nm) → Option (List (Nm × ON) × List (List Nm))
  | [] => some ([], [])
  | r :: _ => bif S.contains p then (rmO (rowAt r i) p).bind fun pl => (chk (decide (([] : List (Nm × ON)).length + pl.length < 2000))).bind fun _ => some ([] ++ pl, []) else some ([], [r])
def planO (i : Int) (S : List Nm) (j : Job) : Option (List (Nm × ON)) :=
  (m_goal_of j).bind fun v2 => (m_rings j).bind fun v3 => (m_free_places j).bind fun v4 =>
  (forS (fun (s5 : (List (Nm × (Option Nm))) × (List (List Nm))) (b6 : Nm) => (holeO i S b6 s5.2).bind fun v7 =>
  (chk (decide (s5.1.length + v7.1.length < 2000))).bind fun u8 =>
  some ((s5.1 ++ v7.1), v7.2)) v4 (([] : List (Nm × (Option Nm))), v3)).bind fun o9 =>
  (m_chains j).bind fun v10 =>
  (forS (fun (s11 : (List (Nm × (Option Nm))) × (List (List Nm))) (b12 : (List Nm)) => (forS (fun (s13 : (List (Nm × (Option Nm))) × (List (List Nm))) (b14 : Nm) => (lk v2 b14).bind fun v15 =>
  (chk (decide (s13.1.length < 2000))).bind fun u16 =>
  (holeO i S b14 s13.2).bind fun v17 =>
  (chk (decide ((s13.1 ++ [(b14, v15)]).length + v17.1.length < 2000))).bind fun u18 =>
  some (((s13.1 ++ [(b14, v15)]) ++ v17.1), v17.2)) b12.reverse (s11.1, s11.2)).bind fun o19 =>
  some (o19.1, o19.2)) v10 (o9.1, o9.2)).bind fun o20 =>
  some o20.1
theorem hole1 (h : Tb z ps bs) (hb : ∀ b ∈ r, b ∈ bs) (hr : r ≠ []) {i : Int} {S : List Nm} {p : Nm} (hp : p ∈ ps) (hS : S.contains p = decide (tm z r ≤ wf z p))
    (hm : ∀ k p pl, rmO (rowAt r i) p = some pl → m_ring_moves (hole_n (k + 1)) r z p [] = some (pl, [])) {out} (e : holeO i S p [r] = some out) : hole_n 4 z p [r] = some out := by
  show m_hole_moves (m_ring_moves (hole_n 3)) z p [r] = _
  unfold m_hole_moves
  have e1 : cont [r] r = true := @List.elem_eq_true_of_mem _ instBEqOfDecidableEq inferInstance _ _ List.mem_cons_self
  have e2 : plc [r] r = some 0 := by
    unfold plc
    rw [List.findIdx?_cons, decide_eq_true rfl]; rfl
  simp only [h.tab, Option.bind_some, forS, e1, cond_true, thick_ok h hb, tm_ok hr, h.lw hp, Bool.true_and]
  unfold holeO at e
  rw [hS] at e
  cases q : decide (tm z r ≤ wf z p) with
  | false =>
    rw [q] at e
    cases e
    rfl
  | true =>
    rw [q] at e
    obtain ⟨pl, e3, e⟩ := bnd (show (rmO (rowAt r i) p).bind _ = some out from e)
    obtain ⟨u, e4, e⟩ := bnd e
    cases e
    simp only [cond_true, e2, Option.bind_some]
    rw [show [r].eraseIdx 0 = [] from rfl, hm 2 p pl e3]
    simp only [Option.bind_some]
    rw [e4]
    rfl
theorem plan_ok (h : Tb z ps bs) (hR : m_rings j = some R) (o : One R ps bs) (hsp : ∀ p ∈ sp, p ∈ ps) (hF : ∀ F, m_free_places j = some F → ∀ p ∈ F, p ∈ sp) (hC : ∀ C, m_chains j = some C → ∀ c ∈ C, ∀ b ∈ c, b ∈ sp) {i : Int} {S : List Nm} (hS : ∀ r ∈ R, ∀ p ∈ sp, S.contains p = decide (tm z r ≤ wf z p))
    (hm : ∀ r ∈ R, ∀ k p pl, rmO (rowAt r i) p = some pl → m_ring_moves (hole_n (k + 1)) r z p [] = some (pl, [])) (hc : m_can_be_done_by j z = some true) {pl} (e : planO i S j = some pl) : m_a_plan_by_sizes j z = some pl := by
  have hh : ∀ p ∈ sp, ∀ left out, (left = [] ∨ left = R) → holeO i S p left = some out → hole_n 4 z p left = some out ∧ (out.2 = [] ∨ out.2 = R) := by
    intro p hp left out hl e
    have h0 : ∀ out, holeO i S p [] = some out → hole_n 4 z p [] = some out ∧ (out.2 = [] ∨ out.2 = R) := fun out e => by
      cases e
      exact ⟨hole0 h 3 p, .inl rfl⟩
    rcases hl with rfl | rfl
    · exact h0 out e
    · rcases o.cases with rfl | ⟨r, rfl, hr, hb⟩
      · exact h0 out e
      · refine ⟨hole1 h (fun b hb1 => (hb b hb1).2) hr (hsp p hp) (hS r List.mem_cons_self p hp) (hm r List.mem_cons_self) e, ?_⟩
        unfold holeO at e
        cases q : S.contains p with
        | false => rw [q] at e; cases e; exact .inr rfl
        | true =>
          rw [q] at e
          obtain ⟨pl, e3, e⟩ := bnd (show (rmO (rowAt r i) p).bind _ = some out from e)
          obtain ⟨u, e4, e⟩ := bnd e
          cases e
          exact .inl rfl
  unfold planO at e
  obtain ⟨v2, e2, e⟩ := bnd e
  obtain ⟨v3, e3, e⟩ := bnd e
  obtain ⟨v4, e4, e⟩ := bnd e
  obtain ⟨o9, e9, e⟩ := bnd e
  obtain ⟨v10, e10, e⟩ := bnd e
  obtain ⟨o20, e20, e⟩ := bnd e
  cases e
  rw [hR] at e3; cases e3
  unfold m_a_plan_by_sizes
  simp only [hc, Option.bind_some, Bool.not_true, cond_false, e2, hR, e4]
  have f9 := forS_I (g := fun (s5 : (List (Nm × (Option Nm))) × (List (List Nm))) (b6 : Nm) => ((hole_n 4) z b6 s5.2).bind fun v7 =>
  (chk (decide (s5.1.length + v7.1.length < 2000))).bind fun u8 =>
  some ((s5.1 ++ v7.1), v7.2)) (fun s => s.2 = [] ∨ s.2 = R) (fun p hp s s' i e => by
      obtain ⟨v7, q1, e⟩ := bnd e
      obtain ⟨u8, q2, e⟩ := bnd e
      cases e
      obtain ⟨w1, w2⟩ := hh p (hF _ e4 p hp) _ _ i q1
      refine ⟨?_, w2⟩
      show (hole_n 4 z p s.2).bind _ = _
      rw [w1, Option.bind_some, q2]; rfl) (.inr rfl) e9
  rw [show forS _ v4 (([] : List (Nm × ON)), R) = some o9 from f9.1]
  simp only [Option.bind_some, e10]
  have f20 := forS_I (g := fun (s11 : (List (Nm × (Option Nm))) × (List (List Nm))) (b12 : (List Nm)) => (forS (fun (s13 : (List (Nm × (Option Nm))) × (List (List Nm))) (b14 : Nm) => (lk v2 b14).bind fun v15 =>
  (chk (decide (s13.1.length < 2000))).bind fun u16 =>
  ((hole_n 4) z b14 s13.2).bind fun v17 =>
  (chk (decide ((s13.1 ++ [(b14, v15)]).length + v17.1.length < 2000))).bind fun u18 =>
  some (((s13.1 ++ [(b14, v15)]) ++ v17.1), v17.2)) b12.reverse (s11.1, s11.2)).bind fun o19 =>
  some (o19.1, o19.2)) (fun s => s.2 = [] ∨ s.2 = R) (fun c hc s s' i e => by
      obtain ⟨o19, q1, e⟩ := bnd e
      cases e
      have f19 := forS_I (g := fun (s13 : (List (Nm × (Option Nm))) × (List (List Nm))) (b14 : Nm) => (lk v2 b14).bind fun v15 =>
  (chk (decide (s13.1.length < 2000))).bind fun u16 =>
  ((hole_n 4) z b14 s13.2).bind fun v17 =>
  (chk (decide ((s13.1 ++ [(b14, v15)]).length + v17.1.length < 2000))).bind fun u18 =>
  some (((s13.1 ++ [(b14, v15)]) ++ v17.1), v17.2)) (fun s => s.2 = [] ∨ s.2 = R) (fun p hp s s' i e => by
        obtain ⟨v15, q1, e⟩ := bnd e
        obtain ⟨u16, q2, e⟩ := bnd e
        obtain ⟨v17, q3, e⟩ := bnd e
        obtain ⟨u18, q4, e⟩ := bnd e
        cases e
        obtain ⟨w1, w2⟩ := hh p (hC _ e10 c hc p (List.mem_reverse.mp hp)) _ _ i q3
        refine ⟨?_, w2⟩
        show (lk v2 p).bind _ = _
        rw [q1, Option.bind_some]
        show (chk (decide (s.1.length < 2000))).bind _ = _
        rw [q2, Option.bind_some]
        show (hole_n 4 z p s.2).bind _ = _
        rw [w1, Option.bind_some]
        show (chk (decide ((s.1 ++ [(p, v15)]).length + v17.1.length < 2000))).bind _ = _
        rw [q4]; rfl) i q1
      refine ⟨?_, f19.2⟩
      show Option.bind (forS _ c.reverse (s.1, s.2)) _ = _
      rw [show forS _ c.reverse (s.1, s.2) = some o19 from f19.1]; rfl) f9.2 e20
  rw [show forS _ v10 (o9.1, o9.2) = some o20 from f20.1]
  rfl
end
end ND

/-! PLe -/
set_option Elab.async false
set_option linter.all false
set_option maxRecDepth 100000
set_option maxHeartbeats 4000000
namespace ND
open PySem PySem.Spec PyProof.Rows L2 NA
section
variable {j : Job} {z : Sz} {ps bs sp : List Nm} {R C : List (List Nm)} {r : List Nm}
/-! ### the plan goes by sizes -/
def ipO (ft : Nm → Nm → Bool) (j : Job) (pl : List (Nm × ON)) : Bool :=
  match (m_first_stand j).bind fun v2 => forM (R := Bool) (fun (s3 : (List (Nm × Nm))) (b4 : (Nm × (Option Nm))) => (mkD s3).bind fun v5 =>
  (lk v5 b4.1).bind fun v6 =>
  bif (match b4.2 with | none => false | some p => !(ft v6 p)) then (some (.inr false)) else ((m_moved s3 b4).bind fun v10 =>
  some (.inl v10))) pl v2 with
  | some (.inl _) => true
  | _ => false
theorem forM_inl {A S R : Type} {f g : S → A → Option (S ⊕ R)} : ∀ {l : List A} {s t : S}, (∀ a s s', f s a = some (.inl s') → g s a = some (.inl s')) → forM f l s = some (.inl t) → forM g l s = some (.inl t)
  | [], s, t, _, e => e
  | a :: l, s, t, h, e => by
    obtain ⟨u, hu, e⟩ := bnd e
    cases u with
    | inr r => cases e
    | inl s' =>
      show (g s a).bind _ = _
      rw [h a s s' hu]
      exact forM_inl h e
theorem ip_ok {ft : Nm → Nm → Bool} (hf : ∀ b p, ft b p = true → m_fits j z b p = some true) {pl} (hp : m_is_plan j pl = some true) (e : ipO ft j pl = true) : m_is_plan_by_sizes j z pl = some true := by
  unfold ipO at e
  split at e
  · rename_i t he
    obtain ⟨v2, h2, he⟩ := bnd he
    unfold m_is_plan_by_sizes
    simp only [hp, Option.bind_some, Bool.not_true, cond_false, h2]
    rw [forM_inl (fun a s s' q => ?_) he]
    · rfl
    · obtain ⟨v5, q5, q⟩ := bnd q
      obtain ⟨v6, q6, q⟩ := bnd q
      show (mkD s).bind _ = _
      rw [q5, Option.bind_some]
      show (lk v5 a.1).bind _ = _
      rw [q6, Option.bind_some]
      cases ea : a.2 with
      | none =>
        rw [ea] at q
        exact q
      | some p =>
        rw [ea] at q
        have q : (bif !ft v6 p then some (.inr false) else ((m_moved s a).bind fun v10 => some (.inl v10))) = (some (.inl s') : Option (List (Nm × Nm) ⊕ Bool)) := q
        cases ef : ft v6 p with
        | false => rw [ef] at q; cases q
        | true =>
          rw [ef] at q
          show Option.bind ((m_fits j z v6 p).bind _) _ = _
          rw [hf v6 p ef]
          exact q
  · cases e
theorem fits_ok (h : Tb z ps bs) {b p : Nm} (hb : b ∈ bs) (hp : p ∈ ps) : m_fits j z b p = some (decide (tf z b ≤ wf z p)) := by
  unfold m_fits hasK
  simp only [h.tab, Option.bind_some, h.lt hb, h.lw hp, Option.isSome_some, Bool.not_true, cond_false]
theorem lfits_ok (h : Tb z ps bs) {b p : Nm} (hb : b ∈ bs) (hp : p ∈ ps) : m__law_fits z b p = some (decide (tf z b ≤ wf z p)) := by
  unfold m__law_fits
  simp only [mkD_nd h.n1, mkD_nd h.n2, Option.bind_some, h.lt hb, h.lw hp]
/-! ### what can be reached -/
def goalP (j : Job) (b : Nm) : ON := (lk j.2 b).getD none
def doneP (yard : List (Nm × Nm)) (s b : Nm) (o : ON) : List (Nm × Nm) :=
  match o with
  | none => yard.filter fun q => !decide (q.1 = s)
  | some p => (yard.filter fun q => !decide (q.1 = s)) ++ [(p, b)]
def misP (j : Job) (yard : List (Nm × Nm)) : Nat := (yard.filter fun q => !decide (goalP j q.2 = some q.1)).length
def reachP (ft : Nm → Nm → Bool) (j : Job) : Nat → List (Nm × Nm) → Bool
  | 0, yard => decide (misP j yard = 0)
  | k + 1, yard => !(decide (k + 1 < misP j yard)) && (isort leN (yard.map (·.1))).any fun s => match lk yard s with
    | none => false
    | some b => ((j.1.map some) ++ [none]).any fun o => (match o with | none => (goalP j b).isNone | some p => !hasK yard p && ft b p) && reachP ft j k (doneP yard s b o)
theorem reach_mono {ft ft' : Nm → Nm → Bool} (h : ∀ b p, ft b p = true → ft' b p = true) : ∀ (k : Nat) (yard : List (Nm × Nm)), reachP ft j k yard = true → reachP ft' j k yard = true
  | 0, yard, e => e
  | k + 1, yard, e => by
    unfold reachP at e ⊢
    rw [Bool.and_eq_true] at e ⊢
    refine ⟨e.1, ?_⟩
    obtain ⟨s, hs, e⟩ := List.any_eq_true.mp e.2
    refine List.any_eq_true.mpr ⟨s, hs, ?_⟩
    cases el : lk yard s with
    | none => rw [el] at e; cases e
    | some b =>
      rw [el] at e
      obtain ⟨o, ho, e⟩ := List.any_eq_true.mp e
      refine List.any_eq_true.mpr ⟨o, ho, ?_⟩
      rw [Bool.and_eq_true] at e ⊢
      refine ⟨?_, reach_mono h k _ e.2⟩
      cases o with
      | none => exact e.1
      | some p =>
        have e1 := e.1
        simp only [Bool.and_eq_true] at e1 ⊢
        exact ⟨e1.1, h b p e1.2⟩
structure YOk (j : Job) (yard : List (Nm × Nm)) : Prop where
  nd : (yard.map (·.1)).Nodup
  ln : yard.length < 64
  bx : ∀ q ∈ yard, q.2 ∈ j.2.map (·.1)
theorem nd_filter {A : Type} {yard : List (Nm × A)} {p : Nm × A → Bool} (h : (yard.map (·.1)).Nodup) : ((yard.filter p).map (·.1)).Nodup := List.Sublist.nodup (List.Sublist.map _ List.filter_sublist) h
theorem len_filter {yard : List (Nm × Nm)} {s b : Nm} (h : lk yard s = some b) : (yard.filter fun q => !decide (q.1 = s)).length < yard.length := by
  refine List.length_filter_lt_length_iff_exists.mpr ⟨(s, b), lk_in h, ?_⟩
  simp
theorem YOk.done {yard : List (Nm × Nm)} (Y : YOk j yard) {s b : Nm} (h : lk yard s = some b) {o : ON} (ho : ∀ p, o = some p → hasK yard p = false) : YOk j (doneP yard s b o) := by
  have h1 := len_filter h
  have h2 := Y.ln
  cases o with
  | none => exact ⟨nd_filter Y.nd, by show (yard.filter _).length < 64; omega, fun q hq => Y.bx q ((List.mem_filter.mp hq).1)⟩
  | some p =>
    have hk := ho p rfl
    refine ⟨?_, ?_, ?_⟩
    · show (((yard.filter fun q => !decide (q.1 = s)) ++ [(p, b)]).map (·.1)).Nodup
      rw [List.map_append, List.nodup_append]
      refine ⟨nd_filter Y.nd, List.nodup_cons.mpr ⟨List.not_mem_nil, List.nodup_nil⟩, fun x hx y hy e => ?_⟩
      subst e
      have hy : x = p := List.mem_singleton.mp hy
      subst hy
      obtain ⟨q, hq, rfl⟩ := List.mem_map.mp hx
      obtain ⟨v, hv⟩ := lk_mem (List.mem_map.mpr ⟨q, (List.mem_filter.mp hq).1, rfl⟩ : q.1 ∈ yard.map (·.1))
      unfold hasK at hk
      rw [hv] at hk; cases hk
    · show ((yard.filter fun q => !decide (q.1 = s)) ++ [(p, b)]).length < 64
      rw [List.length_append]
      show _ + 1 < 64
      omega
    · intro q hq
      rcases List.mem_append.mp hq with hq | hq
      · exact Y.bx q ((List.mem_filter.mp hq).1)
      · rw [List.mem_singleton.mp hq]
        exact Y.bx (s, b) (lk_in h)
theorem hasK_filter {yard : List (Nm × Nm)} {p : Nm} {f : Nm × Nm → Bool} (h : hasK yard p = false) : hasK (yard.filter f) p = false := by
  cases e : hasK (yard.filter f) p with
  | false => rfl
  | true =>
    unfold hasK at e h
    obtain ⟨v, hv⟩ := Option.isSome_iff_exists.mp e
    obtain ⟨u, hu⟩ := lk_mem (List.mem_map.mpr ⟨_, (List.mem_filter.mp (lk_in hv)).1, rfl⟩ : p ∈ yard.map (·.1))
    rw [hu] at h; cases h
theorem done_ok {yard : List (Nm × Nm)} (Y : YOk j yard) {s b : Nm} (h : lk yard s = some b) {o : ON} (ho : ∀ p, o = some p → hasK yard p = false) : m__law_done j yard (s, o) = some (doneP yard s b o) := by
  unfold m__law_done
  have e0 : cmpM (fun (b1 : Nm × Nm) => some (!decide (b1.1 = s))) (fun (b1 : Nm × Nm) => some (b1.1, b1.2)) yard = some (yard.filter fun q => !decide (q.1 = s)) := (cmpM_fil (g := id) (fun _ _ => rfl) (fun _ _ _ => rfl)).trans (by rw [List.map_id])
  show (cmpM (fun (b1 : Nm × Nm) => some (!decide (b1.1 = s))) (fun (b1 : Nm × Nm) => some (b1.1, b1.2)) yard).bind _ = _
  rw [e0, Option.bind_some, mkD_nd (nd_filter Y.nd)]
  cases o with
  | none => rfl
  | some p =>
    have h1 := len_filter h
    have h2 := Y.ln
    have e : (!hasK (yard.filter fun q => !decide (q.1 = s)) p && decide ((yard.filter fun q => !decide (q.1 = s)).length < 2000)) = true := by
      rw [hasK_filter (ho p rfl), decide_eq_true (by omega)]; rfl
    simp only [Option.bind_some, Option.isNone_some, Bool.not_false, cond_true, h, e]
    rfl
theorem can_none (J : JOk j) {yard : List (Nm × Nm)} (Y : YOk j yard) {s b : Nm} (h : lk yard s = some b) : m__law_can j yard (s, none) = some (goalP j b).isNone := by
  unfold m__law_can goalP
  obtain ⟨g, hg⟩ := lk_mem (Y.bx _ (lk_in h))
  have : hasK yard s = true := by unfold hasK; rw [h]; rfl
  have hg : lk j.2 b = some g := hg
  simp only [this, J.goal, Option.bind_some, h, hg, Bool.not_true, cond_false, Option.isNone_none, cond_true]
  rfl
theorem can_some {yard : List (Nm × Nm)} {s b p : Nm} (h : lk yard s = some b) (hp : p ∈ j.1) : m__law_can j yard (s, some p) = some (!hasK yard p) := by
  unfold m__law_can
  have h1 : hasK yard s = true := by unfold hasK; rw [h]; rfl
  have h2 : cont (j.1.map some) (some p) = true := @List.elem_eq_true_of_mem _ instBEqOfDecidableEq inferInstance _ _ (List.mem_map.mpr ⟨p, hp, rfl⟩)
  simp only [h1, h2, Bool.not_true, cond_false, Option.isNone_some, Bool.true_and]
  rfl
theorem forM_any {A : Type} {step : Unit → A → Option (Unit ⊕ Bool)} {q : A → Bool} : ∀ {l : List A}, (∀ a ∈ l, step () a = some (bif q a then .inr true else .inl ())) → forM step l () = some (bif l.any q then .inr true else .inl ())
  | [], _ => rfl
  | a :: l, h => by
    show (step () a).bind _ = _
    rw [h a List.mem_cons_self, List.any_cons]
    cases q a with
    | true => rfl
    | false => exact forM_any fun a ha => h a (List.mem_cons_of_mem _ ha)
def ftR (z : Sz) (b p : Nm) : Bool := decide (tf z b ≤ wf z p)
theorem reach_ok (h : Tb z j.1 (j.2.map (·.1))) (J : JOk j) (hl : j.1.length < 1000) : ∀ (k n : Nat) (yard : List (Nm × Nm)), k < n → YOk j yard → reach_n n j z yard (k : Int) = some (reachP (ftR z) j k yard)
  | _, 0, _, hk, _ => absurd hk (Nat.not_lt_zero _)
  | k, n + 1, yard, hk, Y => by
    show m__law_reach (reach_n n) j z yard (k : Int) = _
    unfold m__law_reach
    have e1 : cmpM (fun (b2 : (Nm × Nm)) => (lk j.2 b2.2).bind fun v3 => some (!decide (v3 = (some b2.1)))) (fun (b2 : (Nm × Nm)) => some b2.1) yard = some ((yard.filter fun q => !decide (goalP j q.2 = some q.1)).map (·.1)) := cmpM_fil (fun q hq => by
      obtain ⟨g, hg⟩ := lk_mem (Y.bx q hq)
      unfold goalP
      rw [hg]; rfl) (fun _ _ _ => rfl)
    rw [J.goal, Option.bind_some, e1, Option.bind_some, List.length_map]
    cases k with
    | zero =>
      unfold reachP misP
      cases hm : (yard.filter fun q => !decide (goalP j q.2 = some q.1)).length with
      | zero => rfl
      | succ m =>
        rw [decide_eq_true (show ((0 : Nat) : Int) < ((m + 1 : Nat) : Int) by omega), decide_eq_false (show ¬ (m + 1 = 0) by omega)]; rfl
    | succ k =>
      have hd : decide (((k + 1 : Nat) : Int) < (((yard.filter fun q => !decide (goalP j q.2 = some q.1)).length : Nat) : Int)) = decide (k + 1 < misP j yard) := by
        unfold misP
        rw [Bool.eq_iff_iff, decide_eq_true_eq, decide_eq_true_eq]
        omega
      have h0 : decide (((k + 1 : Nat) : Int) = (0 : Int)) = false := decide_eq_false (by omega)
      have hln : decide (yard.length < 64) = true := decide_eq_true Y.ln
      have hc2 : decide ((j.1.map some).length + ((none : ON) :: []).length < 2000) = true := decide_eq_true (by rw [List.length_map]; show _ + 1 < 2000; omega)
      unfold reachP
      rw [hd, h0, hln]
      cases decide (k + 1 < misP j yard) with
      | true => rfl
      | false =>
        simp only [cond_false, Bool.not_false, Bool.true_and]
        show (forM _ _ ()).bind _ = _
        rw [forM_any (q := fun s => match lk yard s with
          | none => false
          | some b => ((j.1.map some) ++ [none]).any fun o => (match o with | none => (goalP j b).isNone | some p => !hasK yard p && ftR z b p) && reachP (ftR z) j k (doneP yard s b o)) (fun s hs => ?_)]
        · simp only [Option.bind_some]
          cases (isort leN (yard.map (·.1))).any _ <;> rfl
        · obtain ⟨b, hb⟩ := lk_mem (((isort_perm _).mem_iff.mp hs) : s ∈ yard.map (·.1))
          rw [hc2]
          show (forM _ _ ()).bind _ = _
          rw [hb]
          rw [forM_any (q := fun o => (match o with | none => (goalP j b).isNone | some p => !hasK yard p && ftR z b p) && reachP (ftR z) j k (doneP yard s b o)) (fun o ho => ?_)]
          · simp only [Option.bind_some]
            cases ((j.1.map some) ++ [none]).any _ <;> rfl
          · have hk1 : ((k + 1 : Nat) : Int) - 1 = (k : Int) := by omega
            cases o with
            | none =>
              have hnn : ∀ p, (none : ON) = some p → hasK yard p = false := fun p e => nomatch e
              rw [can_none J Y hb]
              simp only [Option.bind_some, Option.isNone_none, cond_true, Bool.true_or]
              cases (goalP j b).isNone with
              | false => rfl
              | true =>
                simp only [cond_true, Option.bind_some, Bool.true_and]
                rw [done_ok Y hb (hnn), Option.bind_some, hk1, reach_ok h J hl k n _ (by omega) (Y.done hb (hnn)), Option.bind_some]
                cases reachP (ftR z) j k (doneP yard s b none) <;> rfl
            | some p =>
              have hp : p ∈ j.1 := by
                rcases List.mem_append.mp ho with ho | ho
                · obtain ⟨q, hq, e⟩ := List.mem_map.mp ho
                  cases e; exact hq
                · cases List.mem_singleton.mp ho
              rw [can_some hb hp]
              simp only [Option.bind_some, Option.isNone_some, cond_false, Bool.false_or, hb]
              cases hk2 : hasK yard p with
              | true => rfl
              | false =>
                have hne : ∀ q, (some p : ON) = some q → hasK yard q = false := fun q e => by cases e; exact hk2
                rw [lfits_ok h (Y.bx _ (lk_in hb)) hp]
                simp only [Bool.not_false, cond_true, Option.bind_some, Bool.true_and]
                show _ = some (bif ftR z b p && reachP (ftR z) j k (doneP yard s b (some p)) then _ else _)
                show (bif ftR z b p then _ else _) = _
                cases ftR z b p with
                | false => rfl
                | true =>
                  simp only [cond_true, Bool.true_and]
                  rw [done_ok Y hb hne, Option.bind_some, hk1, reach_ok h J hl k n _ (by omega) (Y.done hb hne), Option.bind_some]
                  cases reachP (ftR z) j k (doneP yard s b (some p)) <;> rfl
end
end ND

/-! PLf -/
set_option Elab.async false
set_option linter.all false
set_option maxRecDepth 100000
set_option maxHeartbeats 4000000
namespace ND
open PySem PySem.Spec PyProof.Rows L2 NA
/-! ### what is to be looked at, job by job -/
def ex {A : Type} (o : Option A) (p : A → Bool) : Bool := match o with | some x => p x | none => false
theorem ex_of {A : Type} {o : Option A} {p : A → Bool} (h : ex o p = true) : ∃ x, o = some x ∧ p x = true := by
  cases o with
  | none => cases h
  | some x => exact ⟨x, rfl, h⟩
def ftMin (j : Job) (r : List Nm) (i : Nat) (S : List Nm) (b p : Nm) : Bool :=
  (j.2.map (·.1)).contains b && (j.1.contains p && (decide (b = p) || (decide (goalP j b = some p) || (decide (r[i]? = some b) && S.contains p))))
def ftMax (r sp : List Nm) (b p : Nm) : Bool := !(r.contains b && sp.contains p)
def wj (j : Job) : Job := (isort leN (j.1 ++ ((12 : Nm) :: ([] : List Nm))), j.2)
def hauled (ys : List (List (Nm × Nm))) (pl : List (Nm × ON)) : Option (List (Nm × ON)) :=
  cmpM (fun (b18 : (Int × (Nm × (Option Nm)))) => some (!b18.2.2.isNone)) (fun (b18 : (Int × (Nm × (Option Nm)))) => (at' ys b18.1).bind fun v19 =>
  (lk v19 b18.2.1).bind fun v20 =>
  some (v20, b18.2.2)) (enm pl)
def planChk (ft : Nm → Nm → Bool) (j : Job) (i : Nat) (S : List Nm) (f : Int) : Bool :=
  ex (planO i S j) fun pl => decide ((pl.length : Int) = f) && (ex (m__law_walk j pl) fun w => ex w fun ys => ex (m_is_plan j pl) fun q => q && (ipO ft j pl && (ex (hauled ys pl) fun v21 => v21.all (fun q => match q.2 with | some p => ft q.1 p | none => false) && (ex (at' ys (-(1 : Int))) fun v28 => ex (m__law_right_end j v28) fun q => q))))
def subs : List Nm → List (List Nm)
  | [] => [[]]
  | a :: l => subs l ++ (subs l).map (a :: ·)
def shapeOk (j : Job) : Bool :=
  decide (j.1.Nodup) && (decide ((j.2.map (·.1)).Nodup) && (j.2.all (fun b => j.1.contains b.1 && (match b.2 with | none => true | some p => j.1.contains p)) && (decide (j.1.length < 64) && (!j.1.isEmpty && !(j.1.contains 12)))))
def restOk (j : Job) (R : List (List Nm)) (sp : List Nm) : Bool :=
  ex (m__law_yard j) fun y => ex (m_fewest_moves j) fun f => decide (0 ≤ f ∧ f < 12) && (decide ((y.map (·.1)).Nodup) && (decide (y.length < 64) && (y.all (fun q => (j.2.map (·.1)).contains q.2) &&
    (match R with
    | [] => reachP (ftMin j [] 0 []) j f.toNat y && planChk (ftMin j [] 0 []) j 0 [] f
    | r :: _ => !(reachP (ftMax r sp) j f.toNat y) && (List.range r.length).all fun i => (sp.all fun p => reachP (ftMin j r i [p]) j f.toNat y) && (subs sp).all fun S => S.isEmpty || planChk (ftMin j r i S) j i S f))))
def jobOk (j : Job) : Bool :=
  shapeOk j && (ex (m_rings j) fun R => ex (m_free_places j) fun F => ex (m_chains j) fun C => ex (m_spots j) fun sp => ex (m__law_threads j) fun T => ex (m_lsp j T.2) fun ls => ex (m_can_be_done j) fun c =>
   decide (R.length ≤ 1) && (R.all (fun r => !r.isEmpty && (decide (r.length < 1000) && r.all (fun b => j.1.contains b && (j.2.map (·.1)).contains b))) &&
   (sp.all j.1.contains && (F.all sp.contains && (C.all (·.all sp.contains) &&
   (decide (T.1 = R) && (T.2.all (·.all j.1.contains) && (ls.all sp.contains && (sp.all ls.contains && (decide (ls.length < 1000) &&
   ((ex (m_rings (wj j)) fun R2 => decide (R2 = R) && ex (m_spots (wj j)) fun sp2 => sp2.contains 12 && (sp2.all (fun p => decide (p = 12) || sp.contains p) && sp.all sp2.contains)) &&
   (bif c then restOk j R sp else sp.isEmpty && !R.isEmpty))))))))))))
def exts (ps : List Nm) : Nat → List (List (Nm × ON))
  | 0 => [[]]
  | k + 1 => (exts ps k).flatMap fun l => (ps.filter fun b => l.all fun a => decide (b < a.1)).flatMap fun b => ((none :: ps.map some).filter fun o => o.isNone || l.all fun a => !decide (a.2 = o)).map fun o => (b, o) :: l
def psn (n : Nat) : List Nm := ([6, 7, 8, 9, 10] : List Nm).take n
end ND

/-! PLg -/
set_option Elab.async false
set_option linter.all false
set_option maxRecDepth 100000
set_option maxHeartbeats 4000000
namespace ND
open PySem PySem.Spec PyProof.Rows L2 NA
/-! ### all jobs are looked at -/
def JJ (n : Nat) (k : Nat) : List Job := (exts (psn n) k).map fun ws => (psn n, ws)
def chunk (n k a : Nat) : Bool := (((JJ n k).drop (100 * a)).take 100).all jobOk
theorem of_chunks {A : Type} {L : List A} {p : A → Bool} {m : Nat} (hl : L.length ≤ 100 * m) (h : ∀ a, a < m → ((L.drop (100 * a)).take 100).all p = true) : ∀ x ∈ L, p x = true := by
  intro x hx
  obtain ⟨i, hi, rfl⟩ := List.getElem_of_mem hx
  refine List.all_eq_true.mp (h (i / 100) (by omega)) _ ?_
  refine List.mem_iff_getElem?.mpr ⟨i % 100, ?_⟩
  rw [List.getElem?_take, if_pos (by omega), List.getElem?_drop, List.getElem?_eq_getElem (by omega)]
  · congr 2
    omega
theorem ln_1_0 : (JJ 1 0).length ≤ 100 * 1 := by decide +kernel
theorem ck_1_0_0 : chunk 1 0 0 = true := by decide +kernel
theorem ln_1_1 : (JJ 1 1).length ≤ 100 * 1 := by decide +kernel
theorem ck_1_1_0 : chunk 1 1 0 = true := by decide +kernel
theorem ln_1_2 : (JJ 1 2).length ≤ 100 * 1 := by decide +kernel
theorem ck_1_2_0 : chunk 1 2 0 = true := by decide +kernel
theorem ln_1_3 : (JJ 1 3).length ≤ 100 * 1 := by decide +kernel
theorem ck_1_3_0 : chunk 1 3 0 = true := by decide +kernel
theorem ln_2_0 : (JJ 2 0).length ≤ 100 * 1 := by decide +kernel
theorem ck_2_0_0 : chunk 2 0 0 = true := by decide +kernel
theorem ln_2_1 : (JJ 2 1).length ≤ 100 * 1 := by decide +kernel
theorem ck_2_1_0 : chunk 2 1 0 = true := by decide +kernel
theorem ln_2_2 : (JJ 2 2).length ≤ 100 * 1 := by decide +kernel
theorem ck_2_2_0 : chunk 2 2 0 = true := by decide +kernel
theorem ln_2_3 : (JJ 2 3).length ≤ 100 * 1 := by decide +kernel
theorem ck_2_3_0 : chunk 2 3 0 = true := by decide +kernel
theorem ln_3_0 : (JJ 3 0).length ≤ 100 * 1 := by decide +kernel
theorem ck_3_0_0 : chunk 3 0 0 = true := by decide +kernel
theorem ln_3_1 : (JJ 3 1).length ≤ 100 * 1 := by decide +kernel
theorem ck_3_1_0 : chunk 3 1 0 = true := by decide +kernel
theorem ln_3_2 : (JJ 3 2).length ≤ 100 * 1 := by decide +kernel
theorem ck_3_2_0 : chunk 3 2 0 = true := by decide +kernel
theorem ln_3_3 : (JJ 3 3).length ≤ 100 * 1 := by decide +kernel
theorem ck_3_3_0 : chunk 3 3 0 = true := by decide +kernel
theorem ln_4_0 : (JJ 4 0).length ≤ 100 * 1 := by decide +kernel
theorem ck_4_0_0 : chunk 4 0 0 = true := by decide +kernel
theorem ln_4_1 : (JJ 4 1).length ≤ 100 * 1 := by decide +kernel
theorem ck_4_1_0 : chunk 4 1 0 = true := by decide +kernel
theorem ln_4_2 : (JJ 4 2).length ≤ 100 * 2 := by decide +kernel
theorem ck_4_2_0 : chunk 4 2 0 = true := by decide +kernel
theorem ck_4_2_1 : chunk 4 2 1 = true := by decide +kernel
theorem ln_4_3 : (JJ 4 3).length ≤ 100 * 3 := by decide +kernel
theorem ck_4_3_0 : chunk 4 3 0 = true := by decide +kernel
theorem ck_4_3_1 : chunk 4 3 1 = true := by decide +kernel
theorem ck_4_3_2 : chunk 4 3 2 = true := by decide +kernel
theorem ln_5_0 : (JJ 5 0).length ≤ 100 * 1 := by decide +kernel
theorem ck_5_0_0 : chunk 5 0 0 = true := by decide +kernel
theorem ln_5_1 : (JJ 5 1).length ≤ 100 * 1 := by decide +kernel
theorem ck_5_1_0 : chunk 5 1 0 = true := by decide +kernel
theorem ln_5_2 : (JJ 5 2).length ≤ 100 * 4 := by decide +kernel
theorem ck_5_2_0 : chunk 5 2 0 = true := by decide +kernel
theorem ck_5_2_1 : chunk 5 2 1 = true := by decide +kernel
theorem ck_5_2_2 : chunk 5 2 2 = true := by decide +kernel
theorem ck_5_2_3 : chunk 5 2 3 = true := by decide +kernel
theorem ln_5_3 : (JJ 5 3).length ≤ 100 * 14 := by decide +kernel
theorem ck_5_3_0 : chunk 5 3 0 = true := by decide +kernel
theorem ck_5_3_1 : chunk 5 3 1 = true := by decide +kernel
theorem ck_5_3_2 : chunk 5 3 2 = true := by decide +kernel
theorem ck_5_3_3 : chunk 5 3 3 = true := by decide +kernel
theorem ck_5_3_4 : chunk 5 3 4 = true := by decide +kernel
theorem ck_5_3_5 : chunk 5 3 5 = true := by decide +kernel
theorem ck_5_3_6 : chunk 5 3 6 = true := by decide +kernel
theorem ck_5_3_7 : chunk 5 3 7 = true := by decide +kernel
theorem ck_5_3_8 : chunk 5 3 8 = true := by decide +kernel
theorem ck_5_3_9 : chunk 5 3 9 = true := by decide +kernel
theorem ck_5_3_10 : chunk 5 3 10 = true := by decide +kernel
theorem ck_5_3_11 : chunk 5 3 11 = true := by decide +kernel
theorem ck_5_3_12 : chunk 5 3 12 = true := by decide +kernel
theorem ck_5_3_13 : chunk 5 3 13 = true := by decide +kernel
theorem jobs_ok : ∀ n, 1 ≤ n → n ≤ 5 → ∀ k, k ≤ 3 → ∀ ws ∈ exts (psn n) k, jobOk (psn n, ws) = true := by
  intro n h1 h2 k h3 ws hws
  have hm : (psn n, ws) ∈ JJ n k := List.mem_map.mpr ⟨ws, hws, rfl⟩
  match n, k, h1, h2, h3, hm with
  | 1, 0, _, _, _, hm => exact of_chunks ln_1_0 (fun a ha => match a, ha with | 0, _ => ck_1_0_0) _ hm
  | 1, 1, _, _, _, hm => exact of_chunks ln_1_1 (fun a ha => match a, ha with | 0, _ => ck_1_1_0) _ hm
  | 1, 2, _, _, _, hm => exact of_chunks ln_1_2 (fun a ha => match a, ha with | 0, _ => ck_1_2_0) _ hm
  | 1, 3, _, _, _, hm => exact of_chunks ln_1_3 (fun a ha => match a, ha with | 0, _ => ck_1_3_0) _ hm
  | 2, 0, _, _, _, hm => exact of_chunks ln_2_0 (fun a ha => match a, ha with | 0, _ => ck_2_0_0) _ hm
  | 2, 1, _, _, _, hm => exact of_chunks ln_2_1 (fun a ha => match a, ha with | 0, _ => ck_2_1_0) _ hm
  | 2, 2, _, _, _, hm => exact of_chunks ln_2_2 (fun a ha => match a, ha with | 0, _ => ck_2_2_0) _ hm
  | 2, 3, _, _, _, hm => exact of_chunks ln_2_3 (fun a ha => match a, ha with | 0, _ => ck_2_3_0) _ hm
  | 3, 0, _, _, _, hm => exact of_chunks ln_3_0 (fun a ha => match a, ha with | 0, _ => ck_3_0_0) _ hm
  | 3, 1, _, _, _, hm => exact of_chunks ln_3_1 (fun a ha => match a, ha with | 0, _ => ck_3_1_0) _ hm
  | 3, 2, _, _, _, hm => exact of_chunks ln_3_2 (fun a ha => match a, ha with | 0, _ => ck_3_2_0) _ hm
  | 3, 3, _, _, _, hm => exact of_chunks ln_3_3 (fun a ha => match a, ha with | 0, _ => ck_3_3_0) _ hm
  | 4, 0, _, _, _, hm => exact of_chunks ln_4_0 (fun a ha => match a, ha with | 0, _ => ck_4_0_0) _ hm
  | 4, 1, _, _, _, hm => exact of_chunks ln_4_1 (fun a ha => match a, ha with | 0, _ => ck_4_1_0) _ hm
  | 4, 2, _, _, _, hm => exact of_chunks ln_4_2 (fun a ha => match a, ha with | 0, _ => ck_4_2_0 | 1, _ => ck_4_2_1) _ hm
  | 4, 3, _, _, _, hm => exact of_chunks ln_4_3 (fun a ha => match a, ha with | 0, _ => ck_4_3_0 | 1, _ => ck_4_3_1 | 2, _ => ck_4_3_2) _ hm
  | 5, 0, _, _, _, hm => exact of_chunks ln_5_0 (fun a ha => match a, ha with | 0, _ => ck_5_0_0) _ hm
  | 5, 1, _, _, _, hm => exact of_chunks ln_5_1 (fun a ha => match a, ha with | 0, _ => ck_5_1_0) _ hm
  | 5, 2, _, _, _, hm => exact of_chunks ln_5_2 (fun a ha => match a, ha with | 0, _ => ck_5_2_0 | 1, _ => ck_5_2_1 | 2, _ => ck_5_2_2 | 3, _ => ck_5_2_3) _ hm
  | 5, 3, _, _, _, hm => exact of_chunks ln_5_3 (fun a ha => match a, ha with | 0, _ => ck_5_3_0 | 1, _ => ck_5_3_1 | 2, _ => ck_5_3_2 | 3, _ => ck_5_3_3 | 4, _ => ck_5_3_4 | 5, _ => ck_5_3_5 | 6, _ => ck_5_3_6 | 7, _ => ck_5_3_7 | 8, _ => ck_5_3_8 | 9, _ => ck_5_3_9 | 10, _ => ck_5_3_10 | 11, _ => ck_5_3_11 | 12, _ => ck_5_3_12 | 13, _ => ck_5_3_13) _ hm
end ND

/-! PLh -/
set_option Elab.async false
set_option linter.all false
set_option maxRecDepth 100000
set_option maxHeartbeats 4000000
namespace ND
open PySem PySem.Spec PyProof.Rows L2 NA
theorem an {a b : Bool} (h : (a && b) = true) : a = true ∧ b = true := by
  rw [Bool.and_eq_true] at h; exact h
theorem cm {l : List Nm} {a : Nm} (h : l.contains a = true) : a ∈ l := List.contains_iff_mem.mp h
theorem mc {l : List Nm} {a : Nm} (h : a ∈ l) : l.contains a = true := List.contains_iff_mem.mpr h
theorem al {l m : List Nm} (h : l.all m.contains = true) : ∀ p ∈ l, p ∈ m := fun p hp => cm (List.all_eq_true.mp h p hp)
theorem subs_filter (q : Nm → Bool) : ∀ l : List Nm, l.filter q ∈ subs l
  | [] => List.mem_cons_self
  | a :: l => by
    have ih := subs_filter q l
    rw [List.filter_cons]
    show _ ∈ subs l ++ (subs l).map (a :: ·)
    split
    · exact List.mem_append.mpr (.inr (List.mem_map.mpr ⟨_, ih, rfl⟩))
    · exact List.mem_append.mpr (.inl ih)
theorem JOk.of {j : Job} (h : shapeOk j = true) : JOk j ∧ j.1.length < 64 ∧ (!j.1.isEmpty) = true ∧ (12 : Nm) ∉ j.1 := by
  unfold shapeOk at h
  obtain ⟨h1, h⟩ := an h
  obtain ⟨h2, h⟩ := an h
  obtain ⟨h3, h⟩ := an h
  obtain ⟨h4, h⟩ := an h
  obtain ⟨h5, h6⟩ := an h
  refine ⟨⟨of_decide_eq_true h1, of_decide_eq_true h2, fun b hb => cm (an (List.all_eq_true.mp h3 b hb)).1, fun b hb p e => ?_⟩, of_decide_eq_true h4, h5, fun hm => ?_⟩
  · have q := (an (List.all_eq_true.mp h3 b hb)).2
    rw [e] at q
    exact cm q
  · rw [mc hm] at h6; cases h6
section
variable {j : Job} {z : Sz} {ps bs sp ls : List Nm} {R C : List (List Nm)} {r : List Nm}
theorem opB_congr (h1 : ∀ p ∈ ls, p ∈ sp) (h2 : ∀ p ∈ sp, p ∈ ls) : opB z ls R = opB z sp R := by
  cases R with
  | nil => rfl
  | cons r R =>
    show ls.any _ = sp.any _
    rw [Bool.eq_iff_iff, List.any_eq_true, List.any_eq_true]
    exact ⟨fun ⟨p, hp, e⟩ => ⟨p, h1 p hp, e⟩, fun ⟨p, hp, e⟩ => ⟨p, h2 p hp, e⟩⟩
/-- where there is a plan by sizes -/
theorem fine_ok (J : JOk j) (s : SOk j z) {y f} {ft : Nm → Nm → Bool} {i : Nat} {S : List Nm} (h1 : m__law_shut j z = some []) (h2 : m_shut_rings j z = some []) (h3 : m_can_be_done_by j z = some true) (hp : ∀ pl, planO i S j = some pl → m_a_plan_by_sizes j z = some pl)
    (hc : m_can_be_done j = some true) (hy : m__law_yard j = some y) (hf : m_fewest_moves j = some f) (hr : reach_n 12 j z y f = some true) (hk : planChk ft j i S f = true) (hn : m_place_needed j z = some (some 0))
    (hft : ∀ b p, ft b p = true → b ∈ j.2.map (·.1) ∧ p ∈ j.1 ∧ tf z b ≤ wf z p) : m__law_case_right j z = some true := by
  have h := s.tb J
  unfold planChk at hk
  obtain ⟨pl, k1, hk⟩ := ex_of hk
  obtain ⟨k2, hk⟩ := an hk
  obtain ⟨w, k3, hk⟩ := ex_of hk
  obtain ⟨ys, k4, hk⟩ := ex_of hk
  obtain ⟨q, k5, hk⟩ := ex_of hk
  obtain ⟨k6, hk⟩ := an hk
  obtain ⟨k7, hk⟩ := an hk
  obtain ⟨v21, k9, hk⟩ := ex_of hk
  obtain ⟨k8, hk⟩ := an hk
  obtain ⟨v28, k10, hk⟩ := ex_of hk
  obtain ⟨q2, k11, k12⟩ := ex_of hk
  have k6 : q = true := k6
  have k12 : q2 = true := k12
  clear hk
  subst k6 k12 k4
  have hpl := hp pl k1
  have htold : m__law_told j z = some (some pl) := by
    unfold m__law_told
    rw [h3, Option.bind_some, hpl]; rfl
  have hip : m_is_plan_by_sizes j z pl = some true := ip_ok (fun b p e => by
    obtain ⟨e1, e2, e3⟩ := hft b p e
    rw [fits_ok h e1 e2, decide_eq_true e3]) k5 k7
  have hbad : cmpM (fun (b23 : (Nm × (Option Nm))) => (b23.2).bind fun v24 => (m__law_fits z b23.1 v24).bind fun v25 => some (!v25)) (fun (b23 : (Nm × (Option Nm))) => some b23) v21 = some [] := by
    rw [cmpM_fil (q := fun _ => false) (g := id) (fun b hb => ?_) (fun _ _ e => nomatch e)]
    · rw [show v21.filter (fun _ => false) = [] from List.filter_eq_nil_iff.mpr fun _ _ => Bool.false_ne_true]; rfl
    · have e := List.all_eq_true.mp k8 b hb
      cases e2 : b.2 with
      | none => rw [e2] at e; cases e
      | some p =>
        rw [e2] at e
        obtain ⟨e1, e2, e3⟩ := hft b.1 p e
        show (m__law_fits z b.1 p).bind _ = _
        rw [lfits_ok h e1 e2, decide_eq_true e3]; rfl
  have hlen : (pl.length : Int) = f := of_decide_eq_true k2
  have hd : decide ((pl.length : Int) = f) = true := k2
  unfold hauled at k9
  unfold m__law_case_right
  rw [h1, Option.bind_some, htold, Option.bind_some, is_sizes_ok s J, Option.bind_some, h2, Option.bind_some, h3, Option.bind_some]
  rw [show chk (decide (true = true ∧ ([] : List (List Nm)) = [] ∧ true = (decide (([] : List (List Nm)) = [])) ∧ (!(some pl).isNone) = (decide (([]: List (List Nm)) = [])))) = some () from rfl, Option.bind_some, hc, Option.bind_some]
  show ((m__law_yard j).bind _) = _
  have d0 : decide (([] : List (List Nm)) = []) = true := rfl
  rw [hy, Option.bind_some, hf, Option.bind_some, hr, Option.bind_some, d0]
  simp only [decide_true, cond_true, k3, Option.isNone_some, cond_false, Option.bind_some, hd, Bool.not_true, hip, Bool.or_self, k9, hbad, k10, k11, hn, cond_true, Bool.false_or, Bool.true_and]
theorem wide_in {v : Int} (h : Tb z j.1 bs) (h12 : (12 : Nm) ∉ j.1) (hk : z.1.map (·.1) = j.1) : Tb (isort lePI (z.1 ++ (((12 : Nm), v) :: ([] : List (Nm × Int)))), z.2) (12 :: j.1) bs ∧ wf (isort lePI (z.1 ++ (((12 : Nm), v) :: ([] : List (Nm × Int)))), z.2) 12 = v ∧ ∀ p ∈ j.1, wf (isort lePI (z.1 ++ (((12 : Nm), v) :: ([] : List (Nm × Int)))), z.2) p = wf z p := by
  have hpm : (isort lePI (z.1 ++ (((12 : Nm), v) :: ([] : List (Nm × Int))))).Perm (z.1 ++ (((12 : Nm), v) :: ([] : List (Nm × Int)))) := isort_perm _
  have hmm := hpm.map (·.1)
  have hnd : ((isort lePI (z.1 ++ (((12 : Nm), v) :: ([] : List (Nm × Int))))).map (·.1)).Nodup := by
    rw [hmm.nodup_iff, List.map_append, List.nodup_append]
    refine ⟨h.n1, List.nodup_cons.mpr ⟨List.not_mem_nil, List.nodup_nil⟩, fun x hx y hy e => ?_⟩
    subst e
    have hy : x = 12 := List.mem_singleton.mp hy
    subst hy
    rw [hk] at hx
    exact h12 hx
  have hlk : ∀ p u, (p, u) ∈ z.1 ++ (((12 : Nm), v) :: ([] : List (Nm × Int))) → wf (isort lePI (z.1 ++ (((12 : Nm), v) :: ([] : List (Nm × Int)))), z.2) p = u := fun p u hm => by
    unfold wf
    rw [lk_of hnd (hpm.mem_iff.mpr hm)]; rfl
  refine ⟨⟨hnd, h.n2, fun p hp => ?_, h.t⟩, hlk _ _ (List.mem_append.mpr (.inr List.mem_cons_self)), fun p hp => ?_⟩
  · refine hmm.mem_iff.mpr ?_
    rw [List.map_append]
    rcases List.mem_cons.mp hp with rfl | hp
    · exact List.mem_append.mpr (.inr List.mem_cons_self)
    · exact List.mem_append.mpr (.inl (h.w p hp))
  · exact hlk _ _ (List.mem_append.mpr (.inl (lk_in (h.lw hp))))
/-- where there is none -/
theorem none_ok (J : JOk j) (s : SOk j z) (hne : (!j.1.isEmpty) = true) (hl : j.1.length < 64) (h12 : (12 : Nm) ∉ j.1) (hr : r ≠ []) (hrb : ∀ b ∈ r, b ∈ j.1 ∧ b ∈ j.2.map (·.1)) {c : Bool} (h1 : m__law_shut j z = some [r]) (h2 : m_shut_rings j z = some [r]) (h3 : m_can_be_done_by j z = some false)
    (hop : opB z sp [r] = false) (hc : m_can_be_done j = some c) (hreach : c = true → ∃ y f, m__law_yard j = some y ∧ m_fewest_moves j = some f ∧ reach_n 12 j z y f = some false) (hn : m_place_needed j z = some (some (tm z r)))
    (hR2 : m_rings (wj j) = some [r]) {sp2} (hs2 : m_spots (wj j) = some sp2) (hm : (12 : Nm) ∈ sp2) (hsp2 : ∀ p ∈ sp2, p = 12 ∨ p ∈ sp) (hsp : ∀ p ∈ sp, p ∈ j.1) : m__law_case_right j z = some true := by
  have h := s.tb J
  have htold : m__law_told j z = some none := by
    unfold m__law_told
    rw [h3]; rfl
  unfold m__law_case_right
  rw [h1, Option.bind_some, htold, Option.bind_some, is_sizes_ok s J, Option.bind_some, h2, Option.bind_some, h3, Option.bind_some]
  have hd0 : decide (([r] : List (List Nm)) = []) = false := decide_eq_false (fun e => nomatch e)
  have hchk : chk (decide (true = true ∧ ([r] : List (List Nm)) = [r] ∧ false = (decide (([r] : List (List Nm)) = [])) ∧ (!(none : Option (List (Nm × ON))).isNone) = (decide (([r]: List (List Nm)) = [])))) = some () := by
    rw [decide_eq_true]
    · rfl
    · rw [hd0]
      exact ⟨rfl, rfl, rfl, rfl⟩
  rw [hchk, Option.bind_some, hc, Option.bind_some]
  cases c with
  | false => rw [hd0]; rfl
  | true =>
    obtain ⟨y, f, hy, hf, hre⟩ := hreach rfl
    show ((m__law_yard j).bind _) = _
    rw [hy, Option.bind_some, hf, Option.bind_some, hre, Option.bind_some, hd0]
    show ((m_place_needed j z).bind _) = _
    rw [hn, Option.bind_some, Option.bind_some]
    have htm : 1 ≤ tm z r := by
      obtain ⟨b, hb1, hb2⟩ := tm_in (z := z) hr
      obtain ⟨q, hq, e⟩ := List.mem_map.mp (hrb b hb1).2
      have := s.t1 q hq
      rw [e] at this
      omega
    have hz1 : z.1.length = j.1.length := by rw [← s.k1, List.length_map]
    have hcan : ∀ v : Int, m_can_be_done_by (wj j) (isort lePI (z.1 ++ (((12 : Nm), v) :: ([] : List (Nm × Int)))), z.2) = some (decide (tm z r ≤ v)) := by
      intro v
      obtain ⟨t1, t2, t3⟩ := wide_in (v := v) h h12 s.k1
      rw [can_ok t1 hs2 (fun p hp => ?_) hR2 ⟨Nat.le_refl _, fun q hq => by rw [List.mem_singleton.mp hq]; exact hr, fun q hq b hb => ?_⟩]
      · congr 1
        show (sp2.any fun p => decide (tm z r ≤ wf _ p)) = _
        rw [Bool.eq_iff_iff, List.any_eq_true, decide_eq_true_eq]
        constructor
        · rintro ⟨p, hp, e⟩
          have e := of_decide_eq_true e
          rcases hsp2 p hp with rfl | hp2
          · rw [t2] at e; exact e
          · rw [t3 p (hsp p hp2)] at e
            have : opB z sp [r] = true := List.any_eq_true.mpr ⟨p, hp2, decide_eq_true e⟩
            rw [hop] at this; cases this
        · intro e
          exact ⟨12, hm, decide_eq_true (by rw [t2]; exact e)⟩
      · rcases hsp2 p hp with rfl | hp2
        · exact List.mem_cons_self
        · exact List.mem_cons_of_mem _ (hsp p hp2)
      · rw [List.mem_singleton.mp hq] at hb
        exact ⟨List.mem_cons_of_mem _ (hrb b hb).1, (hrb b hb).2⟩
    have hc1 : chk (!j.1.isEmpty) = some () := by rw [hne]; rfl
    have hc2 : chk (decide (j.1.length + ((12 : Nm) :: ([] : List Nm)).length < 2000)) = some () := by
      rw [decide_eq_true (show j.1.length + ((12 : Nm) :: ([] : List Nm)).length < 2000 by show j.1.length + 1 < 2000; omega)]; rfl
    have hc3 : chk (!z.1.isEmpty) = some () := by
      cases e : z.1 with
      | nil =>
        rw [e] at hz1
        have := List.length_eq_zero_iff.mp hz1.symm
        rw [this] at hne; cases hne
      | cons _ _ => rfl
    have hc4 : ∀ v : Int, chk (decide (z.1.length + (((12 : Nm), v) :: ([] : List (Nm × Int))).length < 2000)) = some () := fun v => by
      rw [decide_eq_true (show z.1.length + (((12 : Nm), v) :: ([] : List (Nm × Int))).length < 2000 by show z.1.length + 1 < 2000; omega)]; rfl
    have hcan2 : ∀ v : Int, m_can_be_done_by (isort leN (j.1 ++ ((12 : Nm) :: ([] : List Nm))), j.2) (isort lePI (z.1 ++ (((12 : Nm), v) :: ([] : List (Nm × Int)))), z.2) = some (decide (tm z r ≤ v)) := hcan
    simp only [forM, hc1, hc2, hc3, hc4, hcan2, Option.bind_some]
    have d1 : decide (tm z r ≤ tm z r) = true := decide_eq_true (Int.le_refl _)
    have d2 : decide (tm z r = tm z r) = true := decide_eq_true rfl
    have d3 : decide (tm z r ≤ tm z r - 1) = false := decide_eq_false (by omega)
    have d4 : decide (tm z r - 1 = tm z r) = false := decide_eq_false (by omega)
    have d5 : decide (0 < tm z r) = true := decide_eq_true (by omega)
    simp only [d1, d3, d4, d5, decide_true, Bool.not_true, cond_false, Option.bind_some]
theorem sz_ft (J : JOk j) (s : SOk j z) {i : Nat} {S : List Nm} (hi : ∀ b, r[i]? = some b → ∀ p, S.contains p = true → tf z b ≤ wf z p) : ∀ b p, ftMin j r i S b p = true → b ∈ j.2.map (·.1) ∧ p ∈ j.1 ∧ tf z b ≤ wf z p := by
  intro b p e
  unfold ftMin at e
  obtain ⟨e1, e⟩ := an e
  obtain ⟨e2, e⟩ := an e
  refine ⟨cm e1, cm e2, ?_⟩
  obtain ⟨q, hq, rfl⟩ := List.mem_map.mp (cm e1)
  rw [Bool.or_eq_true, Bool.or_eq_true] at e
  rcases e with e | e | e
  · rw [← of_decide_eq_true e]; exact s.fb q hq
  · have e := of_decide_eq_true e
    unfold goalP at e
    rw [lk_of J.bn hq] at e
    exact s.fg q hq p e
  · obtain ⟨e3, e4⟩ := an e
    exact hi _ (of_decide_eq_true e3) p e4
theorem sz_ftR (J : JOk j) (s : SOk j z) {i : Nat} {S : List Nm} (hi : ∀ b, r[i]? = some b → ∀ p, S.contains p = true → tf z b ≤ wf z p) : ∀ b p, ftMin j r i S b p = true → ftR z b p = true := fun b p e => decide_eq_true (sz_ft J s hi b p e).2.2
theorem case_ok (hj : jobOk j = true) (s : SOk j z) : m__law_case_right j z = some true := by
  unfold jobOk at hj
  obtain ⟨hsh, hj⟩ := an hj
  obtain ⟨J, hl, hne, h12⟩ := JOk.of hsh
  obtain ⟨R, hR, hj⟩ := ex_of hj
  obtain ⟨F, hF, hj⟩ := ex_of hj
  obtain ⟨C, hC, hj⟩ := ex_of hj
  obtain ⟨sp, hsp, hj⟩ := ex_of hj
  obtain ⟨T, hT, hj⟩ := ex_of hj
  obtain ⟨ls, hls, hj⟩ := ex_of hj
  obtain ⟨c, hc, hj⟩ := ex_of hj
  obtain ⟨a1, hj⟩ := an hj
  obtain ⟨a2, hj⟩ := an hj
  obtain ⟨a3, hj⟩ := an hj
  obtain ⟨a4, hj⟩ := an hj
  obtain ⟨a5, hj⟩ := an hj
  obtain ⟨a6, hj⟩ := an hj
  obtain ⟨a7, hj⟩ := an hj
  obtain ⟨a8, hj⟩ := an hj
  obtain ⟨a9, hj⟩ := an hj
  obtain ⟨a10, hj⟩ := an hj
  obtain ⟨a11, hj⟩ := an hj
  obtain ⟨R2, hR2, a11⟩ := ex_of a11
  obtain ⟨a12, a11⟩ := an a11
  obtain ⟨sp2, hsp2, a11⟩ := ex_of a11
  obtain ⟨a13, a11⟩ := an a11
  obtain ⟨a14, a15⟩ := an a11
  have h := s.tb J
  have o : One R j.1 (j.2.map (·.1)) := by
    refine ⟨of_decide_eq_true a1, fun r hr e => ?_, fun r hr b hb => ?_⟩
    · have q := (an (List.all_eq_true.mp a2 r hr)).1
      rw [e] at q; cases q
    · have q := List.all_eq_true.mp (an (an (List.all_eq_true.mp a2 r hr)).2).2 b hb
      exact ⟨cm (an q).1, cm (an q).2⟩
  have hlr : ∀ r ∈ R, r.length < 1000 := fun r hr => of_decide_eq_true (an (an (List.all_eq_true.mp a2 r hr)).2).1
  have hspp := al a3
  have hFs := al a4
  have hCs : ∀ c ∈ C, ∀ b ∈ c, b ∈ sp := fun c hc => al (List.all_eq_true.mp a5 c hc)
  have hT1 : T.1 = R := of_decide_eq_true a6
  have hT2 : ∀ c ∈ T.2, ∀ b ∈ c, b ∈ j.1 := fun c hc => al (List.all_eq_true.mp a7 c hc)
  have hT' : m__law_threads j = some (R, T.2) := by rw [hT, ← hT1]
  have hR2' : R2 = R := of_decide_eq_true a12
  subst hR2'
  have e1 : m__law_shut j z = some (bif opB z sp R2 then [] else R2) := by
    rw [lshut_ok h J (fun p hp => hp) hT' hT2 hls (of_decide_eq_true a10) hlr o, opB_congr (al a8) (al a9)]
  have e2 := shut_ok h hsp hspp hR o
  have e3 := can_ok h hsp hspp hR o
  have e4 := needed_ok h hsp hspp hR o rfl
  have hfree : ∀ F', m_free_places j = some F' → ∀ p ∈ F', p ∈ sp := fun F' e => by rw [hF] at e; cases e; exact hFs
  have hchain : ∀ C', m_chains j = some C' → ∀ c ∈ C', ∀ b ∈ c, b ∈ sp := fun C' e => by rw [hC] at e; cases e; exact hCs
  have rest : c = true → ∃ (y : List (Nm × Nm)) (f : Int), m__law_yard j = some y ∧ m_fewest_moves j = some f ∧ (∃ k : Nat, k < 12 ∧ f = (k : Int) ∧ ∀ b, reachP (ftR z) j k y = b → reach_n 12 j z y f = some b) ∧
      (match R2 with
    | [] => reachP (ftMin j [] 0 []) j f.toNat y && planChk (ftMin j [] 0 []) j 0 [] f
    | r :: _ => !(reachP (ftMax r sp) j f.toNat y) && (List.range r.length).all fun i => (sp.all fun p => reachP (ftMin j r i [p]) j f.toNat y) && (subs sp).all fun S => S.isEmpty || planChk (ftMin j r i S) j i S f) = true := by
    intro hct
    rw [hct] at hj
    have hj : restOk j R2 sp = true := hj
    unfold restOk at hj
    obtain ⟨y, hy, hj⟩ := ex_of hj
    obtain ⟨f, hf, hj⟩ := ex_of hj
    obtain ⟨b1, hj⟩ := an hj
    obtain ⟨b2, hj⟩ := an hj
    obtain ⟨b3, hj⟩ := an hj
    obtain ⟨b4, hj⟩ := an hj
    have b1 := of_decide_eq_true b1
    refine ⟨y, f, hy, hf, ⟨f.toNat, by omega, by omega, fun b e => ?_⟩, hj⟩
    have hfk : f = ((f.toNat : Nat) : Int) := by omega
    have q := reach_ok h J (by omega) f.toNat 12 y (by omega) ⟨of_decide_eq_true b2, of_decide_eq_true b3, fun q hq => cm (List.all_eq_true.mp b4 q hq)⟩
    rw [← hfk, e] at q
    exact q
  rcases o.cases with rfl | ⟨r, rfl, hr, hb⟩
  · -- no ring
    have hct : c = true := by
      cases c with
      | true => rfl
      | false =>
        have q := (an hj).2
        cases q
    obtain ⟨y, f, hy, hf, ⟨k, hk, hfk, hre⟩, hrest⟩ := rest hct
    obtain ⟨r1, r2⟩ := an hrest
    have hft := sz_ft (r := []) (i := 0) (S := []) J s (fun b e => nomatch e)
    have hftR := sz_ftR (r := []) (i := 0) (S := []) J s (fun b e => nomatch e)
    have hkk : f.toNat = k := by omega
    rw [hkk] at r1
    exact fine_ok J s e1 e2 e3 (fun pl e => plan_ok h hR o hspp hfree hchain (fun r hr => nomatch hr) (fun r hr => nomatch hr) e3 e) (hct ▸ hc) hy hf (hre true (reach_mono hftR k y r1)) r2 e4 hft
  · cases hop : opB z sp [r] with
    | true =>
      rw [hop] at e1 e2 e3
      have e4 : m_place_needed j z = some (some (bif opB z sp [r] then 0 else tm z r)) := e4
      rw [hop] at e4
      have hct : c = true := by
        cases c with
        | true => rfl
        | false =>
          have q := (an hj).1
          cases sp with
          | nil => cases hop
          | cons _ _ => cases q
      obtain ⟨y, f, hy, hf, ⟨k, hk, hfk, hre⟩, hrest⟩ := rest hct
      obtain ⟨r1, r2⟩ := an hrest
      have hkk : f.toNat = k := by omega
      obtain ⟨i, hi, ⟨b, hbi, htb⟩, hm⟩ := ring_ok h hr fun b q => (hb b q).2
      obtain ⟨r3, r4⟩ := an (List.all_eq_true.mp r2 i (List.mem_range.mpr hi))
      obtain ⟨p, hp, hpo⟩ := List.any_eq_true.mp (show (sp.any fun p => decide (tm z r ≤ wf z p)) = true from hop)
      have hpo := of_decide_eq_true hpo
      have hq : ∀ b', r[i]? = some b' → tf z b' = tm z r := fun b' e => by rw [hbi] at e; cases e; exact htb
      have hreach := List.all_eq_true.mp r3 p hp
      rw [hkk] at hreach
      have hreach := reach_mono (sz_ftR (r := r) (i := i) (S := [p]) J s (fun b' e p' ep => by
        have := List.mem_singleton.mp (cm ep)
        subst this
        rw [hq b' e]; exact hpo)) k y hreach
      have hS : ∀ p ∈ sp, (sp.filter fun p => decide (tm z r ≤ wf z p)).contains p = decide (tm z r ≤ wf z p) := fun p hp => by
        rw [Bool.eq_iff_iff, List.contains_iff_mem, List.mem_filter]
        exact ⟨fun e => e.2, fun e => ⟨hp, e⟩⟩
      have hpl := List.all_eq_true.mp r4 _ (subs_filter (fun p => decide (tm z r ≤ wf z p)) sp)
      have hpl : planChk (ftMin j r i (sp.filter fun p => decide (tm z r ≤ wf z p))) j i (sp.filter fun p => decide (tm z r ≤ wf z p)) f = true := by
        rw [Bool.or_eq_true] at hpl
        rcases hpl with e | e
        · have e := List.isEmpty_iff.mp e
          have : p ∈ sp.filter fun p => decide (tm z r ≤ wf z p) := List.mem_filter.mpr ⟨hp, decide_eq_true hpo⟩
          rw [e] at this; cases this
        · exact e
      have hft := sz_ft (r := r) (i := i) (S := sp.filter fun p => decide (tm z r ≤ wf z p)) J s (fun b' e p' ep => by
        rw [hq b' e]
        exact of_decide_eq_true (List.mem_filter.mp (cm ep)).2)
      exact fine_ok J s e1 e2 e3 (fun pl e => plan_ok h hR o hspp hfree hchain (fun r' hr' => by rw [List.mem_singleton.mp hr']; exact hS) (fun r' hr' => by rw [List.mem_singleton.mp hr']; exact hm) e3 e) (hct ▸ hc) hy hf (hre true hreach) hpl e4 hft
    | false =>
      rw [hop] at e1 e2 e3
      have e4 : m_place_needed j z = some (some (bif opB z sp [r] then 0 else tm z r)) := e4
      rw [hop] at e4
      refine none_ok J s hne hl h12 hr hb e1 e2 e3 hop hc (fun hct => ?_) e4 hR2 hsp2 (cm a13) (fun p hp => ?_) hspp
      · obtain ⟨y, f, hy, hf, ⟨k, hk, hfk, hre⟩, hrest⟩ := rest hct
        obtain ⟨r1, r2⟩ := an hrest
        have hkk : f.toNat = k := by omega
        rw [hkk] at r1
        refine ⟨y, f, hy, hf, hre false ?_⟩
        cases q : reachP (ftR z) j k y with
        | false => rfl
        | true =>
          rw [reach_mono (fun b p e => ?_) k y q] at r1
          · cases r1
          · show (!(r.contains b && sp.contains p)) = true
            cases q1 : r.contains b with
            | false => rfl
            | true =>
              cases q2 : sp.contains p with
              | false => rfl
              | true =>
                have e := of_decide_eq_true e
                have hle : tm z r ≤ wf z p := Int.le_trans (tm_lt (cm q1)) e
                have : opB z sp [r] = true := List.any_eq_true.mpr ⟨p, cm q2, decide_eq_true hle⟩
                rw [hop] at this; cases this
      · have q := List.all_eq_true.mp a14 p hp
        rw [Bool.or_eq_true] at q
        rcases q with q | q
        · exact .inl (of_decide_eq_true q)
        · exact .inr (cm q)
end
end ND

/-! PLi -/
set_option Elab.async false
set_option linter.all false
set_option maxRecDepth 100000
set_option maxHeartbeats 4000000
namespace ND
open PySem PySem.Spec PyProof.Rows L2 NA
/-! ### the draws -/
abbrev Tin := Int × Int × Int
def Cn (c : Int) (t : Tin) : Prop := 0 ≤ t.2.2 ∧ t.2.2 ≤ c
theorem Cn.mono {c d : Int} {t : Tin} (h : Cn c t) (hd : c ≤ d) : Cn d t := ⟨h.1, Int.le_trans h.2 hd⟩
theorem chk_t {p : Prop} [Decidable p] (h : p) : chk (decide p) = some () := by rw [decide_eq_true h]; rfl
theorem take_ok {t : Tin} {top c : Int} (h : Cn c t) (hc : c ≤ 1000000) (h0 : 0 < top) (h1 : top < 1000) : ∃ v t', m__law_take t top = some (v, t') ∧ 0 ≤ v ∧ v < top ∧ Cn (c + 1) t' := by
  obtain ⟨hl, hu⟩ := h
  unfold m__law_take
  by_cases q : 0 < t.1
  · rw [decide_eq_true q, cond_true, chk_t h0, Option.bind_some, chk_t ⟨h0, by omega⟩, Option.bind_some]
    exact ⟨_, _, rfl, Int.emod_nonneg _ (by omega), Int.emod_lt_of_pos _ h0, hl, by show t.2.2 ≤ c + 1; omega⟩
  · rw [decide_eq_false q, cond_false, chk_t (by decide), Option.bind_some]
    generalize hA : ((t.1, t.2.1, (t.2.2 + (1 : Int))).2.1 + ((48271 : Int) * (t.1, t.2.1, (t.2.2 + (1 : Int))).2.2)) * ((39373 : Int) + (t.1, t.2.1, (t.2.2 + (1 : Int))).2.2) = A
    rw [chk_t (show -(2 : Int) ^ 64 < ((39373 : Int) + (t.1, t.2.1, (t.2.2 + (1 : Int))).2.2) ∧ ((39373 : Int) + (t.1, t.2.1, (t.2.2 + (1 : Int))).2.2) < (2 : Int) ^ 64 by
      show -(2 : Int) ^ 64 < (39373 : Int) + (t.2.2 + 1) ∧ (39373 : Int) + (t.2.2 + 1) < (2 : Int) ^ 64
      omega), Option.bind_some, chk_t (by decide), Option.bind_some, chk_t (by decide), Option.bind_some, chk_t (by decide), Option.bind_some]
    rw [chk_t (show -(2 : Int) ^ 64 < ((A % (2147483647 : Int)) % (40009 : Int)) + 7 ∧ ((A % (2147483647 : Int)) % (40009 : Int)) + 7 < (2 : Int) ^ 64 by
      have a1 := Int.emod_nonneg (A % (2147483647 : Int)) (show (40009 : Int) ≠ 0 by decide)
      have a2 := Int.emod_lt_of_pos (A % (2147483647 : Int)) (show (0 : Int) < 40009 by decide)
      omega), Option.bind_some, chk_t (by decide), Option.bind_some, chk_t (by decide), Option.bind_some, chk_t (by decide), Option.bind_some, chk_t h0]
    simp only [Option.bind_some]
    exact ⟨_, _, rfl, Int.emod_nonneg _ (by omega), Int.emod_lt_of_pos _ h0, by show 0 ≤ t.2.2 + 1; omega, by show t.2.2 + 1 ≤ c + 1; omega⟩
theorem erase_perm {A : Type} : ∀ {l : List A} {i : Nat} (h : i < l.length), (l[i] :: l.eraseIdx i).Perm l
  | a :: l, 0, _ => .refl _
  | a :: l, i + 1, h => by
    have h' : i < l.length := by simpa using h
    have ih := erase_perm h'
    show (l[i]'h' :: a :: l.eraseIdx i).Perm (a :: l)
    exact (List.Perm.swap a _ _).trans (ih.cons a)
theorem pick_loop : ∀ (l : List Int) (s : List Nm × List Nm × Tin) (c : Int), l.length ≤ s.2.1.length → s.1.length + l.length < 900 → s.2.1.length < 900 → Cn c s.2.2 → c + l.length ≤ 1000000 →
    ∃ o, forS (fun (s2 : (List Nm) × (List Nm) × (Int × Int × Int)) (b3 : Int) => (m__law_take s2.2.2 (s2.2.1.length : Int)).bind fun v4 =>
  (popM s2.2.1 v4.1).bind fun v5 =>
  (chk (decide (s2.1.length < 2000))).bind fun u6 =>
  some ((s2.1 ++ [v5]), (s2.2.1.eraseIdx v4.1.toNat), v4.2)) l s = some o ∧ (o.1 ++ o.2.1).Perm (s.1 ++ s.2.1) ∧ o.1.length = s.1.length + l.length ∧ Cn (c + l.length) o.2.2
  | [], s, c, _, _, _, hc, _ => ⟨s, rfl, .refl _, rfl, hc.mono (by show c ≤ c + 0; omega)⟩
  | b :: l, s, c, h1, h2, h3, hc, h4 => by
    rw [List.length_cons] at h1 h2 h4
    obtain ⟨v, t', e1, e2, e3, e4⟩ := take_ok (top := (s.2.1.length : Int)) hc (by omega) (by omega) (by omega)
    have hv : v.toNat < s.2.1.length := by omega
    have ep : popM s.2.1 v = some s.2.1[v.toNat] := by
      unfold popM
      rw [if_pos e2, List.getElem?_eq_getElem hv]
    obtain ⟨o, f1, f2, f3, f4⟩ := pick_loop l (s.1 ++ [s.2.1[v.toNat]], s.2.1.eraseIdx v.toNat, t') (c + 1) (by
      show l.length ≤ (s.2.1.eraseIdx v.toNat).length
      rw [List.length_eraseIdx_of_lt hv]; omega) (by
      show (s.1 ++ [s.2.1[v.toNat]]).length + l.length < 900
      rw [List.length_append]; show s.1.length + 1 + l.length < 900; omega) (by
      show (s.2.1.eraseIdx v.toNat).length < 900
      rw [List.length_eraseIdx_of_lt hv]; omega) e4 (by omega)
    refine ⟨o, ?_, f2.trans ?_, ?_, ?_⟩
    · show Option.bind (Option.bind (m__law_take s.2.2 _) _) _ = _
      rw [e1, Option.bind_some]
      show Option.bind (Option.bind (popM s.2.1 v) _) _ = _
      rw [ep, Option.bind_some, chk_t (show s.1.length < 2000 by omega)]
      exact f1
    · show ((s.1 ++ [s.2.1[v.toNat]]) ++ s.2.1.eraseIdx v.toNat).Perm (s.1 ++ s.2.1)
      rw [List.append_assoc]
      refine List.Perm.append_left _ ?_
      show (s.2.1[v.toNat] :: s.2.1.eraseIdx v.toNat).Perm s.2.1
      exact erase_perm hv
    · rw [f3, List.length_append]
      show s.1.length + 1 + l.length = s.1.length + (l.length + 1)
      omega
    · refine f4.mono ?_
      rw [List.length_cons]
      omega
theorem len_rng (n : Int) : (rng n).length = n.toNat := by unfold rng; rw [List.length_map, List.length_range]
theorem pick_ok {t : Tin} {pool : List Nm} {size c : Int} (h : Cn c t) (hc : c + 100 ≤ 1000000) (hp : pool.length < 100) (h0 : 0 ≤ size) (hs : size ≤ pool.length) : ∃ o t', m__law_pick t pool size = some (o, t') ∧ o.length = size.toNat ∧ (∃ rest, (o ++ rest).Perm pool) ∧ Cn (c + size) t' := by
  unfold m__law_pick
  have hm : (if (pool.length : Int) < size then (pool.length : Int) else size) = size := if_neg (by omega)
  rw [hm, chk_t (show 0 ≤ size ∧ size < 2000 by omega), Option.bind_some]
  obtain ⟨o, f1, f2, f3, f4⟩ := pick_loop (rng size) (([] : List Nm), pool, t) c (by rw [len_rng]; show size.toNat ≤ pool.length; omega) (by rw [len_rng]; show 0 + size.toNat < 900; omega) (by show pool.length < 900; omega) h (by rw [len_rng]; omega)
  rw [f1]
  rw [len_rng] at f3 f4
  refine ⟨o.1, o.2.2, rfl, by rw [f3]; exact Nat.zero_add _, ⟨o.2.1, f2⟩, f4.mono (by omega)⟩
theorem mem_exts {ps : List Nm} : ∀ {ws : List (Nm × ON)}, (∀ a ∈ ws, a.1 ∈ ps) → (∀ a ∈ ws, ∀ p, a.2 = some p → p ∈ ps) → ws.Pairwise (fun a b => a.1 < b.1 ∧ (a.2 = none ∨ b.2 ≠ a.2)) → ws ∈ exts ps ws.length
  | [], _, _, _ => List.mem_cons_self
  | a :: ws, h1, h2, h3 => by
    rw [List.pairwise_cons] at h3
    have ih := mem_exts (fun b hb => h1 b (List.mem_cons_of_mem _ hb)) (fun b hb => h2 b (List.mem_cons_of_mem _ hb)) h3.2
    rw [List.length_cons]
    unfold exts
    refine List.mem_flatMap.mpr ⟨ws, ih, List.mem_flatMap.mpr ⟨a.1, ?_, List.mem_map.mpr ⟨a.2, ?_, rfl⟩⟩⟩
    · exact List.mem_filter.mpr ⟨h1 a List.mem_cons_self, List.all_eq_true.mpr fun b hb => decide_eq_true (h3.1 b hb).1⟩
    · refine List.mem_filter.mpr ⟨?_, ?_⟩
      · cases e : a.2 with
        | none => exact List.mem_cons_self
        | some p => exact List.mem_cons_of_mem _ (List.mem_map.mpr ⟨p, h2 a List.mem_cons_self p e, rfl⟩)
      · cases e : a.2 with
        | none => rfl
        | some p =>
          show (false || _) = true
          rw [Bool.false_or]
          refine List.all_eq_true.mpr fun b hb => ?_
          rcases (h3.1 b hb).2 with q | q
          · rw [e] at q; cases q
          · rw [e] at q
            rw [decide_eq_false q]; rfl
theorem tag_ok {v : Int} (h0 : 0 ≤ v) (h5 : v < 5) : ∃ (v3 v7 : List Str) (u : Unit),
  cmpM (fun _ => some true) (fun (b1 : Str) => (chk (decide (("p" : Str).length + b1.length < 2000))).bind fun u2 => some (("p" : Str) ++ b1)) (chars ("abcdefghijklmnopqrstuvwxyz" : Str)) = some v3 ∧
  cmpM (fun _ => some true) (fun (b5 : Str) => (chk (decide (("q" : Str).length + b5.length < 2000))).bind fun u6 => some (("q" : Str) ++ b5)) (chars ("abcdefghijklmn" : Str)) = some v7 ∧
  chk (decide (v3.length + v7.length < 2000)) = some u ∧ nmsOf (cutD (v3 ++ v7) none (some ((1 : Int) + v))) = some (psn (v.toNat + 1)) := by
  have gen : ∀ k : Nat, k < 5 → ((cmpM (fun _ => some true) (fun (b1 : Str) => (chk (decide (("p" : Str).length + b1.length < 2000))).bind fun u2 => some (("p" : Str) ++ b1)) (chars ("abcdefghijklmnopqrstuvwxyz" : Str))).bind fun v3 =>
      (cmpM (fun _ => some true) (fun (b5 : Str) => (chk (decide (("q" : Str).length + b5.length < 2000))).bind fun u6 => some (("q" : Str) ++ b5)) (chars ("abcdefghijklmn" : Str))).bind fun v7 =>
      (chk (decide (v3.length + v7.length < 2000))).bind fun u => nmsOf (cutD (v3 ++ v7) none (some ((1 : Int) + (k : Int))))) = some (psn (k + 1)) := by
    decide +kernel
  have q := gen v.toNat (by omega)
  have e : ((v.toNat : Nat) : Int) = v := by omega
  rw [e] at q
  obtain ⟨v3, q3, q⟩ := bnd q
  obtain ⟨v7, q7, q⟩ := bnd q
  obtain ⟨u, qu, q⟩ := bnd q
  exact ⟨v3, v7, u, q3, q7, qu, q⟩
theorem psn_nd (n : Nat) : (psn n).Nodup := List.Sublist.nodup (List.take_sublist _ _) (by decide)
theorem psn_len {n : Nat} (h : n ≤ 5) : (psn n).length = n := by unfold psn; rw [List.length_take]; exact Nat.min_eq_left h
theorem ways_ok {first E : List Nm} {k : Nat} (h1 : first.length = k) (h2 : E.length = k) : ∀ (l : List Int) (t : Tin) (c : Int), (∀ b ∈ l, 0 ≤ b ∧ b < k) → Cn c t → c + l.length ≤ 1000000 →
    ∃ out t', cmpS (fun (s20 : (Int × Int × Int)) (b19 : Int) => (at' first b19).bind fun v21 =>
  (m__law_take s20 (8 : Int)).bind fun v22 =>
  (bif (decide ((0 : Int) < v22.1)) then ((at' E b19).bind fun v23 =>
  some (some v23)) else (some none)).bind fun v24 =>
  some ((v21, v24), v22.2)) l t = some (out, t') ∧ Cn (c + l.length) t' ∧ out.length = l.length ∧ ∀ (i : Nat) (b : Int), l[i]? = some b → ∃ f e x, first[b.toNat]? = some f ∧ E[b.toNat]? = some e ∧ out[i]? = some (f, x) ∧ (x = none ∨ x = some e)
  | [], t, c, _, hc, _ => ⟨[], t, rfl, hc.mono (by show c ≤ c + 0; omega), rfl, fun i b h => by simp at h⟩
  | b :: l, t, c, hb, hc, h4 => by
    rw [List.length_cons] at h4
    obtain ⟨b0, b1⟩ := hb b List.mem_cons_self
    have hat : ∀ L : List Nm, L.length = k → ∃ f, at' L b = some f ∧ L[b.toNat]? = some f := fun L hL => by
      have hlt : b.toNat < L.length := by omega
      refine ⟨L[b.toNat], ?_, List.getElem?_eq_getElem hlt⟩
      unfold at' ixN
      rw [if_pos b0, if_pos (by omega)]
      exact List.getElem?_eq_getElem hlt
    obtain ⟨f, f1, f2⟩ := hat first h1
    obtain ⟨e, e1, e2⟩ := hat E h2
    obtain ⟨v, t1, q1, q2, q3, q4⟩ := take_ok (top := 8) hc (by omega) (by decide) (by decide)
    obtain ⟨out, t', r1, r2, r3, r4⟩ := ways_ok h1 h2 l t1 (c + 1) (fun b hb' => hb b (List.mem_cons_of_mem _ hb')) q4 (by omega)
    refine ⟨(f, bif decide (0 < v) then some e else none) :: out, t', ?_, r2.mono (by rw [List.length_cons]; omega), by rw [List.length_cons, List.length_cons, r3], fun i b' hi => ?_⟩
    · show Option.bind (Option.bind (at' first b) _) _ = _
      rw [f1, Option.bind_some, q1, Option.bind_some]
      cases d : decide (0 < v) with
      | true =>
        show Option.bind (Option.bind (Option.bind (at' E b) _) _) _ = _
        rw [e1]
        show (cmpS _ l t1).bind _ = _
        rw [r1]; rfl
      | false =>
        show (cmpS _ l t1).bind _ = _
        rw [r1]; rfl
    · cases i with
      | zero =>
        have hi : some b = some b' := hi
        cases hi
        refine ⟨f, e, _, f2, e2, rfl, ?_⟩
        cases decide (0 < v) with
        | true => exact .inr rfl
        | false => exact .inl rfl
      | succ i => exact r4 i b' hi
theorem strict_of {l : List Nm} (h : l.Nodup) : (isort leN l).Pairwise (· < ·) := by
  have h1 := isort_sorted totN l
  have h2 : (isort leN l).Nodup := (isort_perm l).nodup_iff.mpr h
  refine List.Pairwise.imp₂ (fun a b h1 h2 => ?_) h1 h2
  have h1 : a ≤ b := of_decide_eq_true h1
  have h2 : a ≠ b := h2
  have h3 := Fin.le_def.mp h1
  have h4 : a.val ≠ b.val := fun e => h2 (Fin.ext e)
  exact Fin.lt_def.mpr (by omega)
theorem task_ok {t : Tin} {c : Int} (h : Cn c t) (hc : c + 1000 ≤ 1000000) : ∃ n ws t', m__law_task t 5 3 = some ((psn n, ws), t') ∧ 1 ≤ n ∧ n ≤ 5 ∧ ws.length ≤ 3 ∧ ws ∈ exts (psn n) ws.length ∧ Cn (c + 20) t' := by
  obtain ⟨v10, t10, a1, a2, a3, a4⟩ := take_ok (top := 5) h (by omega) (by decide) (by decide)
  obtain ⟨v3, v7, u9, b1, b2, b3, b4⟩ := tag_ok a2 a3
  have hn5 : v10.toNat + 1 ≤ 5 := by omega
  generalize hn : v10.toNat + 1 = n at b4 hn5
  have hln := psn_len hn5
  obtain ⟨v12, t12, c1, c2, c3, c4⟩ := take_ok (top := 4) a4 (by omega) (by decide) (by decide)
  have hm0 : 0 ≤ (if v12 < ((psn n).length : Int) then v12 else ((psn n).length : Int)) ∧ (if v12 < ((psn n).length : Int) then v12 else ((psn n).length : Int)) ≤ ((psn n).length : Int) ∧ (if v12 < ((psn n).length : Int) then v12 else ((psn n).length : Int)) ≤ 3 := by split <;> omega
  generalize hmm : (if v12 < ((psn n).length : Int) then v12 else ((psn n).length : Int)) = m at hm0
  obtain ⟨P, t13, d1, d2, ⟨rest, d3⟩, d4⟩ := pick_ok (pool := psn n) (size := m) c4 (by omega) (by omega) hm0.1 hm0.2.1
  have hPn : P.Nodup := (List.nodup_append.mp ((d3.nodup_iff).mpr (psn_nd n))).1
  have hPs : ∀ p ∈ P, p ∈ psn n := fun p hp => d3.mem_iff.mp (List.mem_append.mpr (.inl hp))
  have hkl : (isort leN P).length = P.length := (isort_perm P).length_eq
  have hk3 : (isort leN P).length ≤ 3 := by rw [hkl, d2]; omega
  have hkn : (isort leN P).length ≤ (psn n).length := by rw [hkl, d2]; omega
  have hst := strict_of hPn
  have hfn : (isort leN P).Nodup := (isort_perm P).nodup_iff.mpr hPn
  have hfs : ∀ p ∈ isort leN P, p ∈ psn n := fun p hp => hPs p ((isort_perm P).mem_iff.mp hp)
  generalize hfirst : isort leN P = first at *
  obtain ⟨E, t14, e1, e2, ⟨rest2, e3⟩, e4⟩ := pick_ok (pool := psn n) (size := (first.length : Int)) d4 (by omega) (by omega) (by omega) (by omega)
  have hEn : E.Nodup := (List.nodup_append.mp ((e3.nodup_iff).mpr (psn_nd n))).1
  have hEs : ∀ p ∈ E, p ∈ psn n := fun p hp => e3.mem_iff.mp (List.mem_append.mpr (.inl hp))
  obtain ⟨v15, t15, g1, g2, g3, g4⟩ := take_ok (top := 3) e4 (by omega) (by decide) (by decide)
  have hs16 : ∃ E2 t16, (bif ((decide (v15 = (0 : Int))) && (decide ((1 : Int) < (first.length : Int)))) then ((m__law_pick t15 first (first.length : Int)).bind fun v17 =>
  some (v17.1, v17.2)) else (some (E, t15))) = some (E2, t16) ∧ E2.length = first.length ∧ E2.Nodup ∧ (∀ p ∈ E2, p ∈ psn n) ∧ Cn (c + 15) t16 := by
    cases (decide (v15 = (0 : Int))) && (decide ((1 : Int) < (first.length : Int))) with
    | true =>
      obtain ⟨E2, t16, f1, f2, ⟨rest3, f3⟩, f4⟩ := pick_ok (pool := first) (size := (first.length : Int)) g4 (by omega) (by omega) (by omega) (by omega)
      refine ⟨E2, t16, ?_, by omega, (List.nodup_append.mp ((f3.nodup_iff).mpr hfn)).1, fun p hp => hfs p (f3.mem_iff.mp (List.mem_append.mpr (.inl hp))), f4.mono (by omega)⟩
      show (m__law_pick t15 first (first.length : Int)).bind _ = _
      rw [f1]; rfl
    | false => exact ⟨E, t15, rfl, by omega, hEn, hEs, g4.mono (by omega)⟩
  obtain ⟨E2, t16, s1, s2, s3, s4, s5⟩ := hs16
  obtain ⟨out, t25, w1, w2, w3, w4⟩ := ways_ok (first := first) (E := E2) (k := first.length) rfl s2 (rng (first.length : Int)) t16 (c + 15) (fun b hb => mem_rng hb) s5 (by rw [len_rng]; omega)
  rw [len_rng] at w2 w3
  have hout : ∀ i, i < first.length → ∃ f e x, first[i]? = some f ∧ E2[i]? = some e ∧ out[i]? = some (f, x) ∧ (x = none ∨ x = some e) := fun i hi => by
    have := w4 i (i : Int) (by
      unfold rng
      rw [List.getElem?_map, List.getElem?_range (by omega)]; rfl)
    rwa [Int.toNat_natCast] at this
  have hol : out.length = first.length := by rw [w3]; omega
  refine ⟨n, out, t25, ?_, by omega, hn5, by omega, mem_exts (fun a ha => ?_) (fun a ha p hp => ?_) ?_, w2.mono (by omega)⟩
  · unfold m__law_task
    rw [b1, Option.bind_some, b2, Option.bind_some, b3, Option.bind_some, a1, Option.bind_some, b4, Option.bind_some]
    show (m__law_take t10 4).bind _ = _
    rw [c1, Option.bind_some]
    show (m__law_pick t12 (psn n) (if v12 < ((psn n).length : Int) then v12 else ((psn n).length : Int))).bind _ = _
    rw [hmm, d1, Option.bind_some]
    simp only [hfirst]
    rw [e1, Option.bind_some, g1, Option.bind_some]
    show Option.bind (bif ((decide (v15 = (0 : Int))) && (decide ((1 : Int) < (first.length : Int)))) then ((m__law_pick t15 first (first.length : Int)).bind fun v17 =>
  some (v17.1, v17.2)) else (some (E, t15))) _ = _
    rw [s1, Option.bind_some, chk_t (by omega), Option.bind_some]
    show (cmpS _ (rng (first.length : Int)) t16).bind _ = _
    rw [w1]; rfl
  · obtain ⟨i, hi, rfl⟩ := List.getElem_of_mem ha
    obtain ⟨f, e, x, q1, q2, q3, q4⟩ := hout i (by omega)
    rw [List.getElem?_eq_getElem hi] at q3
    rw [Option.some.inj q3]
    exact hfs f (List.mem_of_getElem? q1)
  · obtain ⟨i, hi, rfl⟩ := List.getElem_of_mem ha
    obtain ⟨f, e, x, q1, q2, q3, q4⟩ := hout i (by omega)
    rw [List.getElem?_eq_getElem hi] at q3
    rw [Option.some.inj q3] at hp
    rcases q4 with q4 | q4
    · rw [q4] at hp; cases hp
    · rw [q4] at hp
      rw [← Option.some.inj hp]
      exact s4 e (List.mem_of_getElem? q2)
  · rw [List.pairwise_iff_getElem]
    intro i j hi hj hij
    obtain ⟨f, e, x, q1, q2, q3, q4⟩ := hout i (by omega)
    obtain ⟨f', e', x', r1, r2, r3, r4⟩ := hout j (by omega)
    rw [List.getElem?_eq_getElem hi] at q3
    rw [List.getElem?_eq_getElem hj] at r3
    rw [Option.some.inj q3, Option.some.inj r3]
    obtain ⟨i1, i2⟩ := List.getElem?_eq_some_iff.mp q1
    obtain ⟨j1, j2⟩ := List.getElem?_eq_some_iff.mp r1
    obtain ⟨i3, i4⟩ := List.getElem?_eq_some_iff.mp q2
    obtain ⟨j3, j4⟩ := List.getElem?_eq_some_iff.mp r2
    refine ⟨?_, ?_⟩
    · have := List.pairwise_iff_getElem.mp hst i j i1 j1 hij
      rw [i2, j2] at this; exact this
    · have hne := List.pairwise_iff_getElem.mp s3 i j i3 j3 hij
      rw [i4, j4] at hne
      rcases q4 with q4 | q4
      · exact .inl q4
      · refine .inr ?_
        rw [q4]
        rcases r4 with r4 | r4
        · rw [r4]; exact fun e => nomatch e
        · rw [r4]; exact fun e => hne (Option.some.inj e).symm
end ND

/-! PLj -/
set_option Elab.async false
set_option linter.all false
set_option maxRecDepth 100000
set_option maxHeartbeats 4000000
namespace ND
open PySem PySem.Spec PyProof.Rows L2 NA
theorem widths_ok : ∀ (l : List Nm) (t : Tin) (c : Int), Cn c t → c + l.length ≤ 1000000 → ∃ W t', cmpS (fun (s2 : (Int × Int × Int)) (b1 : Nm) => (m__law_take s2 (5 : Int)).bind fun v3 =>
  some ((b1, ((1 : Int) + v3.1)), v3.2)) l t = some (W, t') ∧ W.map (·.1) = l ∧ (∀ q ∈ W, 1 ≤ q.2 ∧ q.2 ≤ 5) ∧ Cn (c + l.length) t'
  | [], t, c, hc, _ => ⟨[], t, rfl, rfl, (fun q hq => nomatch hq), hc.mono (by show c ≤ c + 0; omega)⟩
  | b :: l, t, c, hc, h4 => by
    rw [List.length_cons] at h4
    obtain ⟨v, t1, q1, q2, q3, q4⟩ := take_ok (top := 5) hc (by omega) (by decide) (by decide)
    obtain ⟨W, t', r1, r2, r3, r4⟩ := widths_ok l t1 (c + 1) q4 (by omega)
    refine ⟨(b, 1 + v) :: W, t', ?_, by rw [List.map_cons, r2], fun q hq => ?_, r4.mono (by rw [List.length_cons]; omega)⟩
    · show Option.bind (Option.bind (m__law_take t 5) _) _ = _
      rw [q1, Option.bind_some, Option.bind_some]
      show (cmpS _ l t1).bind _ = _
      rw [r1]; rfl
    · rcases List.mem_cons.mp hq with rfl | hq
      · exact ⟨by show 1 ≤ 1 + v; omega, by show 1 + v ≤ 5; omega⟩
      · exact r3 q hq
def wOf (W : List (Nm × Int)) (p : Nm) : Int := (lk W p).getD 0
theorem thick_loop {W : List (Nm × Int)} {ps : List Nm} (hW : ∀ p ∈ ps, lk W p = some (wOf W p) ∧ 1 ≤ wOf W p ∧ wOf W p ≤ 5) : ∀ (l : List (Nm × ON)) (s : List (Nm × Int) × Tin) (c : Int), (∀ b ∈ l, b.1 ∈ ps) → (∀ b ∈ l, ∀ p, b.2 = some p → p ∈ ps) → s.1.length + l.length < 2000 → Cn c s.2 → c + 2 * l.length ≤ 1000000 →
    ∃ o, forS (fun (s6 : (List (Nm × Int)) × (Int × Int × Int)) (b7 : (Nm × (Option Nm))) => (bif b7.2.isNone then ((lk W b7.1).bind fun v8 =>
  some v8) else ((lk W b7.1).bind fun v9 =>
  (lkO W b7.2).bind fun v10 =>
  some (if v10 < v9 then v10 else v9))).bind fun v11 =>
  (m__law_take s6.2 (2 : Int)).bind fun v12 =>
  (m__law_take v12.2 v11).bind fun v13 =>
  (chk (decide (-(2 : Int) ^ 64 < v13.1 ∧ v13.1 < (2 : Int) ^ 64))).bind fun u14 =>
  (chk (decide (s6.1.length < 2000))).bind fun u15 =>
  some ((s6.1 ++ [(b7.1, (v11 - (v12.1 * v13.1)))]), v13.2)) l s = some o ∧ o.1.map (·.1) = s.1.map (·.1) ++ l.map (·.1) ∧ (∀ q ∈ o.1, q ∈ s.1 ∨ ∃ b ∈ l, q.1 = b.1 ∧ 1 ≤ q.2 ∧ q.2 ≤ wOf W b.1 ∧ ∀ p, b.2 = some p → q.2 ≤ wOf W p) ∧ Cn (c + 2 * l.length) o.2
  | [], s, c, _, _, _, hc, _ => ⟨s, rfl, by rw [List.map_nil, List.append_nil], fun q hq => .inl hq, hc.mono (by show c ≤ c + 0; omega)⟩
  | b :: l, s, c, h1, h2, h3, hc, h4 => by
    rw [List.length_cons] at h3 h4
    obtain ⟨w1, w2, w3⟩ := hW b.1 (h1 b List.mem_cons_self)
    have hv : ∃ v11, (bif b.2.isNone then ((lk W b.1).bind fun v8 => some v8) else ((lk W b.1).bind fun v9 => (lkO W b.2).bind fun v10 => some (if v10 < v9 then v10 else v9))) = some v11 ∧ 1 ≤ v11 ∧ v11 ≤ wOf W b.1 ∧ ∀ p, b.2 = some p → v11 ≤ wOf W p := by
      cases e : b.2 with
      | none => exact ⟨wOf W b.1, by rw [w1]; rfl, w2, Int.le_refl _, fun p q => nomatch q⟩
      | some p =>
        obtain ⟨x1, x2, x3⟩ := hW p (h2 b List.mem_cons_self p e)
        refine ⟨if wOf W p < wOf W b.1 then wOf W p else wOf W b.1, ?_, by split <;> omega, by split <;> omega, fun p' q => ?_⟩
        · show (lk W b.1).bind _ = _
          rw [w1, Option.bind_some]
          show (lk W p).bind _ = _
          rw [x1]; rfl
        · cases q
          split <;> omega
    obtain ⟨v11, e11, g1, g2, g3⟩ := hv
    obtain ⟨v12, t1, q1, q2, q3, q4⟩ := take_ok (top := 2) hc (by omega) (by decide) (by decide)
    obtain ⟨v13, t2, r1, r2, r3, r4⟩ := take_ok (top := v11) q4 (by omega) (by omega) (by omega)
    have hm : 1 ≤ v11 - v12 * v13 ∧ v11 - v12 * v13 ≤ v11 := by
      have : v12 = 0 ∨ v12 = 1 := by omega
      rcases this with rfl | rfl <;> omega
    obtain ⟨o, f1, f2, f3, f4⟩ := thick_loop hW l (s.1 ++ [(b.1, v11 - v12 * v13)], t2) (c + 1 + 1) (fun b hb => h1 b (List.mem_cons_of_mem _ hb)) (fun b hb => h2 b (List.mem_cons_of_mem _ hb)) (by
      show (s.1 ++ [_]).length + l.length < 2000
      rw [List.length_append]; show s.1.length + 1 + l.length < 2000; omega) r4 (by omega)
    refine ⟨o, ?_, ?_, fun q hq => ?_, f4.mono (by rw [List.length_cons]; omega)⟩
    · show Option.bind (Option.bind (bif b.2.isNone then ((lk W b.1).bind fun v8 => some v8) else ((lk W b.1).bind fun v9 => (lkO W b.2).bind fun v10 => some (if v10 < v9 then v10 else v9))) _) _ = _
      rw [e11, Option.bind_some]
      show Option.bind (Option.bind (m__law_take s.2 2) _) _ = _
      rw [q1, Option.bind_some]
      show Option.bind (Option.bind (m__law_take t1 v11) _) _ = _
      rw [r1, Option.bind_some, chk_t (show -(2 : Int) ^ 64 < v13 ∧ v13 < (2 : Int) ^ 64 by omega), Option.bind_some, chk_t (show s.1.length < 2000 by omega), Option.bind_some]
      exact f1
    · rw [f2, List.map_append, List.append_assoc]; rfl
    · rcases f3 q hq with h | ⟨b', hb', h⟩
      · rcases List.mem_append.mp h with h | h
        · exact .inl h
        · refine .inr ⟨b, List.mem_cons_self, ?_⟩
          rw [List.mem_singleton.mp h]
          refine ⟨rfl, hm.1, by show v11 - v12 * v13 ≤ _; omega, fun p e => ?_⟩
          have := g3 p e
          show v11 - v12 * v13 ≤ _
          omega
      · exact .inr ⟨b', List.mem_cons_of_mem _ hb', h⟩
theorem bulk_ok {j : Job} (J : JOk j) (hl : j.1.length < 64) (hl2 : j.2.length ≤ 3) {t : Tin} {c : Int} (h : Cn c t) (hc : c + 1000 ≤ 1000000) : ∃ z t', m__law_bulk t j = some (z, t') ∧ SOk j z ∧ Cn (c + 70) t' := by
  obtain ⟨W, t1, a1, a2, a3, a4⟩ := widths_ok j.1 t c h (by omega)
  have hWn : (W.map (·.1)).Nodup := by rw [a2]; exact J.pn
  have hW : ∀ p ∈ j.1, lk W p = some (wOf W p) ∧ 1 ≤ wOf W p ∧ wOf W p ≤ 5 := fun p hp => by
    obtain ⟨v, e⟩ := lk_mem (d := W) (k := p) (by rw [a2]; exact hp)
    have q := a3 _ (lk_in e)
    unfold wOf
    rw [e]
    exact ⟨rfl, q.1, q.2⟩
  obtain ⟨o, b1, b2, b3, b4⟩ := thick_loop hW j.2 (([] : List (Nm × Int)), t1) (c + j.1.length) J.bp J.gp (by show 0 + j.2.length < 2000; omega) a4 (by omega)
  have hb2 : o.1.map (·.1) = j.2.map (·.1) := b2
  have hTn : (o.1.map (·.1)).Nodup := by rw [hb2]; exact J.bn
  have hT : ∀ b ∈ j.2, 1 ≤ tf (W, o.1) b.1 ∧ tf (W, o.1) b.1 ≤ wOf W b.1 ∧ ∀ p, b.2 = some p → tf (W, o.1) b.1 ≤ wOf W p := fun b hb => by
    obtain ⟨v, e⟩ := lk_mem (d := o.1) (k := b.1) (by rw [hb2]; exact List.mem_map.mpr ⟨b, hb, rfl⟩)
    have et : tf (W, o.1) b.1 = v := by unfold tf; rw [e]; rfl
    rcases b3 _ (lk_in e) with q | ⟨b', hb', q1, q2, q3, q4⟩
    · cases q
    · have e1 : b.1 = b'.1 := q1
      have e2 : lk j.2 b.1 = some b.2 := lk_of J.bn hb
      have e3 : lk j.2 b'.1 = some b'.2 := lk_of J.bn hb'
      rw [e1, e3] at e2
      rw [et]
      refine ⟨q2, by rw [e1]; exact q3, fun p hp => q4 p ?_⟩
      rw [Option.some.inj e2]; exact hp
  refine ⟨(W, o.1), o.2, ?_, ⟨a2, hb2, fun p hp => ?_, fun b hb => (hT b hb).1, fun b hb => (hT b hb).2.1, fun b hb => (hT b hb).2.2⟩, b4.mono (by omega)⟩
  · unfold m__law_bulk
    rw [a1, Option.bind_some]
    show (mkD W).bind _ = _
    rw [mkD_nd hWn, Option.bind_some]
    show (forS _ j.2 (([] : List (Nm × Int)), t1)).bind _ = _
    rw [b1]; rfl
  · have := (hW p hp).2.1
    exact Int.le_trans (by decide) this
theorem right_loop : ∀ (l : List Int) (t : Tin) (c : Int), Cn c t → c + 100 * l.length ≤ 900000 → ∃ t', forM (R := (Bool × (Int × Int × Int))) (fun (s2 : (Int × Int × Int)) (b3 : Int) => (m__law_task s2 (5 : Int) (3 : Int)).bind fun v4 =>
  (m__law_bulk v4.2 v4.1).bind fun v5 =>
  (m__law_case_right v4.1 v5.1).bind fun v6 =>
  bif (!v6) then (some (.inr (false, v5.2))) else (some (.inl v5.2))) l t = some (.inl t')
  | [], t, c, _, _ => ⟨t, rfl⟩
  | b :: l, t, c, hc, h => by
    rw [List.length_cons] at h
    obtain ⟨n, ws, t1, a1, a2, a3, a4, a5, a6⟩ := task_ok hc (by omega)
    have hj := jobs_ok n a2 a3 ws.length a4 ws a5
    have hj' := hj
    unfold jobOk at hj'
    obtain ⟨J, hl, _, _⟩ := JOk.of (an hj').1
    obtain ⟨z, t2, b1, b2, b3⟩ := bulk_ok J hl a4 a6 (by omega)
    obtain ⟨t', r⟩ := right_loop l t2 (c + 20 + 70) b3 (by omega)
    refine ⟨t', ?_⟩
    show Option.bind (Option.bind (m__law_task t 5 3) _) _ = _
    rw [a1, Option.bind_some]
    show Option.bind (Option.bind (m__law_bulk t1 (psn n, ws)) _) _ = _
    rw [b1, Option.bind_some]
    show Option.bind (Option.bind (m__law_case_right (psn n, ws) z) _) _ = _
    rw [case_ok hj b2]
    exact r
theorem right_ok {t : Tin} (h : t.2.2 = 0) : ∃ t', m__law_right t = some (true, t') := by
  obtain ⟨t', e⟩ := right_loop (rng 7) t 0 ⟨by omega, by omega⟩ (by rw [len_rng]; decide)
  refine ⟨t', ?_⟩
  unfold m__law_right
  rw [chk_t (by decide), Option.bind_some]
  show (forM _ (rng 7) t).bind _ = _
  rw [e]; rfl
theorem box_ok {cells : List Int} {k : Int} (h0 : 0 ≤ k) (h1 : k < cells.length) : ∃ t, m__law_box cells k = some t ∧ t.2.2 = 0 := by
  unfold m__law_box
  have hlt : k.toNat < cells.length := by omega
  have ha : at' cells k = some cells[k.toNat] := by
    unfold at' ixN
    rw [if_pos h0, if_pos h1]
    exact List.getElem?_eq_getElem hlt
  rw [decide_eq_true h1, cond_true, ha, Option.bind_some, Option.bind_some]
  generalize decide (((10 : Int) ^ 18) ≤ (if cells[k.toNat] < 0 then -cells[k.toNat] else cells[k.toNat])) = q
  rw [chk_t (show -(2 : Int) ^ 64 < (if q = true then (1 : Int) else 0) ∧ (if q = true then (1 : Int) else 0) < (2 : Int) ^ 64 by split <;> decide), Option.bind_some, chk_t (by decide), Option.bind_some, chk_t (by decide), Option.bind_some]
  exact ⟨_, rfl, rfl⟩
theorem cells_loop : ∀ (l : List (Int × Int)) (s : List Int), s.length = 3 → (∀ b ∈ l, 0 ≤ b.1 ∧ b.1 < 100) → ∃ o, forS (fun (c : List Int) (b : Int × Int) => (chk (decide (0 < (3 : Int)))).bind fun _ => (ixN c.length (b.1 % 3)).bind fun m => (at' c (b.1 % 3)).bind fun v => (chk (decide (-(2 : Int) ^ 64 < b.1 + 2 ∧ b.1 + 2 < (2 : Int) ^ 64))).bind fun _ => some (c.set m (v + b.2 * (b.1 + 2)))) l s = some o ∧ o.length = 3
  | [], s, hs, _ => ⟨s, rfl, hs⟩
  | b :: l, s, hs, hb => by
    obtain ⟨b0, b1⟩ := hb b List.mem_cons_self
    have m0 := Int.emod_nonneg b.1 (show (3 : Int) ≠ 0 by decide)
    have m1 := Int.emod_lt_of_pos b.1 (show (0 : Int) < 3 by decide)
    have hlt : (b.1 % 3).toNat < s.length := by omega
    have hi : ixN s.length (b.1 % 3) = some (b.1 % 3).toNat := by
      unfold ixN
      rw [if_pos m0, if_pos (by omega)]
    have ha : at' s (b.1 % 3) = some s[(b.1 % 3).toNat] := by
      unfold at'
      rw [hi]
      exact List.getElem?_eq_getElem hlt
    obtain ⟨o, e1, e2⟩ := cells_loop l (s.set (b.1 % 3).toNat (s[(b.1 % 3).toNat] + b.2 * (b.1 + 2))) (by rw [List.length_set]; exact hs) (fun b hb' => hb b (List.mem_cons_of_mem _ hb'))
    refine ⟨o, ?_, e2⟩
    show Option.bind (Option.bind (chk (decide (0 < (3 : Int)))) _) _ = _
    rw [chk_t (by decide), Option.bind_some, hi, Option.bind_some, ha, Option.bind_some, chk_t (by omega), Option.bind_some, Option.bind_some]
    exact e1
theorem cells_ok {ns : List Int} (h : ns.length ≤ 63) : ∃ cells, m__law_cells ns 3 = some cells ∧ cells.length ≤ 3 := by
  unfold m__law_cells
  have e1 : cutD ns none (some 3) = ns.take 3 := by
    show (ns.drop 0).take (HT.sIx ns.length ns.length (some ((3 : Nat) : Int)) - 0) = _
    rw [HT.sIx_nat, List.drop_zero, Nat.sub_zero, List.take_eq_take_iff]
    omega
  have e2 : ∀ b ∈ enm (cutD ns (some 3) (some 63)), 0 ≤ b.1 ∧ b.1 < 100 := fun b hb => by
    unfold enm at hb
    obtain ⟨i, hi, rfl⟩ := List.mem_mapIdx.mp hb
    have : (cutD ns (some 3) (some 63)).length ≤ ns.length := by
      unfold cutD
      rw [List.length_take, List.length_drop]
      omega
    show 0 ≤ (i : Int) ∧ (i : Int) < 100
    omega
  by_cases q : 3 < ns.length
  · have hl : (bif (cutD ns none (some 3)).isEmpty then [0] else cutD ns none (some 3)).length = 3 := by
      rw [e1]
      have : (ns.take 3).length = 3 := by rw [List.length_take]; omega
      cases e : ns.take 3 with
      | nil => rw [e] at this; cases this
      | cons _ _ => rw [e] at this; exact this
    obtain ⟨o, f1, f2⟩ := cells_loop _ _ hl e2
    exact ⟨o, f1, by omega⟩
  · have e3 : cutD ns (some 3) (some 63) = [] := by
      refine List.eq_nil_iff_length_eq_zero.mpr ?_
      show ((ns.drop (HT.sIx ns.length 0 (some ((3 : Nat) : Int)))).take _).length = 0
      rw [List.length_take, List.length_drop, HT.sIx_nat]
      omega
    rw [e3]
    refine ⟨_, rfl, ?_⟩
    rw [e1]
    have : (ns.take 3).length ≤ 3 := by rw [List.length_take]; omega
    cases e : ns.take 3 with
    | nil => decide
    | cons _ _ => rw [e] at this; exact this
theorem law_plain {ns : List Int} (h : ns.length ≤ 63) : T_law [.dat (.rol ns)] (.bl true) [.dat (.rol ns)] := by
  obtain ⟨cells, e1, e2⟩ := cells_ok h
  refine ⟨ns, cells, e1, by omega, fun k h0 h1 => ?_, rfl, rfl, rfl⟩
  obtain ⟨t, b1, b2⟩ := box_ok h0 h1
  obtain ⟨t', r⟩ := right_ok b2
  exact ⟨t, t', b1, r⟩
end ND

/-! J2 -/
set_option Elab.async false
set_option linter.all false
set_option maxRecDepth 100000
set_option maxHeartbeats 4000000
namespace ND
open PySem PySem.Spec PyProof.Rows L2 NA NAH
section
variable {P : Program} {w : World} {K : PySem.W.Frag} {h : Heap} {mg : Str → Option Value}
theorem def1 (X : K.In h) (G : h.Ns mainGlobals mg) (c : He.SaysD NAH.fa NAH.fn K) {x : Str} {st : Stmt} (i : Nat) (h1 : NAH.fn[i]? = some (dd x st)) (h2 : NAH.fa[i]? = some (.glo x)) : Def1 K mg x st := by
  obtain ⟨fd, F⟩ := c.def_ i h1
  exact ⟨_, fd, He.glo_ok X G (c.fact i h2), F⟩
theorem fre (X : K.In h) (G : h.Ns mainGlobals mg) (c : He.SaysD NAH.fa NAH.fn K) : Fre mg := {
  len := He.free_ok X G (c.fact 67 (f := .free "len") rfl)
  int := He.free_ok X G (c.fact 64 (f := .free "int") rfl)
  bool := He.free_ok X G (c.fact 65 (f := .free "bool") rfl)
  str := He.free_ok X G (c.fact 66 (f := .free "str") rfl)
  isi := He.free_ok X G (c.fact 63 (f := .free "isinstance") rfl)
  tuple := He.free_ok X G (c.fact 69 (f := .free "tuple") rfl)
  list := He.free_ok X G (c.fact 70 (f := .free "list") rfl)
  dict := He.free_ok X G (c.fact 73 (f := .free "dict") rfl)
  set := He.free_ok X G (c.fact 72 (f := .free "set") rfl)
  sorted := He.free_ok X G (c.fact 71 (f := .free "sorted") rfl)
  min := He.free_ok X G (c.fact 74 (f := .free "min") rfl)
  max := He.free_ok X G (c.fact 75 (f := .free "max") rfl)
  all := He.free_ok X G (c.fact 68 (f := .free "all") rfl)
  enum := He.free_ok X G (c.fact 76 (f := .free "enumerate") rfl)
  range := He.free_ok X G (c.fact 77 (f := .free "range") rfl)
  abs := He.free_ok X G (c.fact 78 (f := .free "abs") rfl)
  zip := He.free_ok X G (c.fact 79 (f := .free "zip") rfl)
  lt := He.str_ok X G (c.fact 57 (f := .str "LETTERS" "abcdefghijklmnopqrstuvwxyz") rfl)
  pm := He.int_ok X G (c.fact 58 (f := .int "PAIR_moves" 2) rfl)
  ps := He.int_ok X G (c.fact 59 (f := .int "PAIR_sizes" 2) rfl)
}
theorem noP (X : K.In h) (G : h.Ns mainGlobals mg) (c : He.SaysD NAH.fa NAH.fn K) : NoP K mg (He.ga K "NoPlan") "ValueError" "ValueError.__new__" "ValueError.__init__" He.veBase := by
  obtain ⟨e1, e2, e3, e4⟩ := He.exc_ok (c.fact 60 (f := .exc "NoPlan") rfl)
  exact ⟨PySem.F.excBase_ValueError, e1, He.glo_ok X G (c.fact 62 (f := .glo "NoPlan") rfl), e2, e3, e4⟩
theorem facts {f : Addr} (X : K.In h) (G : h.Ns mainGlobals mg) (hfa : mg ("law" : Str) = some (.ref f)) (c : He.SaysD NAH.fa NAH.fn K) :
    ∃ fd : FuncData, (∀ (s : Shared) (v : Value), BindsTo s fd ⟨[v], []⟩ [("_law_script", v)]) ∧ ∀ base : Heap, K.In base → base.Ns mainGlobals mg → FnOk P w K mg base CX0 41 f fd ["_law_script"] (spF K T_law) := by
  obtain ⟨fd, F⟩ := c.def_ 56 (d := dd "law" s_law) rfl
  have e := hfa.symm.trans (He.glo_ok X G (c.fact 56 (f := .glo "law") rfl))
  cases e
  have b := FunD.bindsA (ps := ["_law_script"]) F fun _ _ _ _ _ _ us hl => match us, hl with | [_], _ => rfl
  refine ⟨fd, fun s v => b s [v] rfl, fun base _ _ => ?_⟩
  have fr := fre X G c
  have n := noP X G c
  have hex := He.exm_ok (c.fact 61 (f := .exm "NoPlan" "NoPlan" true) rfl)
  have c_tupled := can_tupled (P := P) (w := w) (base := base) (def1 X G c (x := "tupled") (st := s_tupled) 2 rfl rfl) fr
  have c_tables_of := can_tables_of (P := P) (w := w) (base := base) (def1 X G c (x := "tables_of") (st := s_tables_of) 20 rfl rfl) fr (c_tupled := c_tupled)
  have c_goal_of := can_goal_of (P := P) (w := w) (base := base) (def1 X G c (x := "goal_of") (st := s_goal_of) 4 rfl rfl) fr (c_tupled := c_tupled)
  have c_row_from_safe := can_row_from_safe (P := P) (w := w) (base := base) (def1 X G c (x := "row_from_safe") (st := s_row_from_safe) 11 rfl rfl) fr 
  have c_rings := can_rings (P := P) (w := w) (base := base) (def1 X G c (x := "rings") (st := s_rings) 10 rfl rfl) fr (c_goal_of := c_goal_of) (c_row_from_safe := c_row_from_safe)
  have c_opened_by := can_opened_by (P := P) (w := w) (base := base) (def1 X G c (x := "opened_by") (st := s_opened_by) 24 rfl rfl) fr (c_tables_of := c_tables_of) (c_rings := c_rings)
  have c_free_places := can_free_places (P := P) (w := w) (base := base) (def1 X G c (x := "free_places") (st := s_free_places) 6 rfl rfl) fr (c_tupled := c_tupled)
  have c_set_of := can_set_of (P := P) (w := w) (base := base) (def1 X G c (x := "set_of") (st := s_set_of) 3 rfl rfl) fr 
  have c_row_from := can_row_from (P := P) (w := w) (base := base) (def1 X G c (x := "row_from") (st := s_row_from) 9 rfl rfl) fr 
  have c_chains := can_chains (P := P) (w := w) (base := base) (def1 X G c (x := "chains") (st := s_chains) 12 rfl rfl) fr (c_goal_of := c_goal_of) (c_set_of := c_set_of) (c_row_from := c_row_from)
  have c_hole_of := can_hole_of (P := P) (w := w) (base := base) (def1 X G c (x := "hole_of") (st := s_hole_of) 23 rfl rfl) fr (c_tables_of := c_tables_of) (c_goal_of := c_goal_of) (c_free_places := c_free_places) (c_chains := c_chains)
  have c_shut_rings := can_shut_rings (P := P) (w := w) (base := base) (def1 X G c (x := "shut_rings") (st := s_shut_rings) 25 rfl rfl) fr (c_opened_by := c_opened_by) (c_hole_of := c_hole_of)
  have c_can_be_done_by := can_can_be_done_by (P := P) (w := w) (base := base) (def1 X G c (x := "can_be_done_by") (st := s_can_be_done_by) 26 rfl rfl) fr (c_shut_rings := c_shut_rings)
  have c_boxes := can_boxes (P := P) (w := w) (base := base) (def1 X G c (x := "boxes") (st := s_boxes) 5 rfl rfl) fr (c_tupled := c_tupled)
  have c_place_needed := can_place_needed (P := P) (w := w) (base := base) (def1 X G c (x := "place_needed") (st := s_place_needed) 31 rfl rfl) fr (c_hole_of := c_hole_of) (c_tables_of := c_tables_of) (c_can_be_done_by := c_can_be_done_by) (c_boxes := c_boxes) (c_opened_by := c_opened_by)
  have c__law_same := can_same (P := P) (w := w) (base := base) (def1 X G c (x := "_law_same") (st := s__law_same) 39 rfl rfl) fr 5
  have c__law_goal := can__law_goal (P := P) (w := w) (base := base) (def1 X G c (x := "_law_goal") (st := s__law_goal) 42 rfl rfl) fr 
  have c__law_threads := can__law_threads (P := P) (w := w) (base := base) (def1 X G c (x := "_law_threads") (st := s__law_threads) 47 rfl rfl) fr (c__law_goal := c__law_goal)
  have c__law_shut := can__law_shut (P := P) (w := w) (base := base) (def1 X G c (x := "_law_shut") (st := s__law_shut) 50 rfl rfl) fr (c__law_goal := c__law_goal) (c__law_threads := c__law_threads)
  have c_hole_moves := can_hole_n (P := P) (w := w) (base := base) (def1 X G c (x := "hole_moves") (st := s_hole_moves) 28 rfl rfl) (def1 X G c (x := "ring_moves") (st := s_ring_moves) 27 rfl rfl) fr c_tables_of 4
  have c_a_plan_by_sizes := can_a_plan_by_sizes (P := P) (w := w) (base := base) (def1 X G c (x := "a_plan_by_sizes") (st := s_a_plan_by_sizes) 29 rfl rfl) fr (c_can_be_done_by := c_can_be_done_by) (c_goal_of := c_goal_of) (c_rings := c_rings) (c_free_places := c_free_places) (c_hole_moves := c_hole_moves) (c_chains := c_chains)
  have c__law_told := (can__law_told (P := P) (w := w) (base := base) (def1 X G c (x := "_law_told") (st := s__law_told) 51 rfl rfl) (def1 X G c (x := "a_plan_by_sizes") (st := s_a_plan_by_sizes) 29 rfl rfl) fr n hex c_can_be_done_by c_a_plan_by_sizes).mono (k := 31) (by omega)
  have c_is_name := can_is_name (P := P) (w := w) (base := base) (def1 X G c (x := "is_name") (st := s_is_name) 1 rfl rfl) fr 
  have c_is_number := can_is_number (P := P) (w := w) (base := base) (def1 X G c (x := "is_number") (st := s_is_number) 0 rfl rfl) fr 
  have c_are_numbers := can_are_numbers (P := P) (w := w) (base := base) (def1 X G c (x := "are_numbers") (st := s_are_numbers) 19 rfl rfl) fr (c_is_name := c_is_name) (c_is_number := c_is_number)
  have c_is_sizes := can_is_sizes (P := P) (w := w) (base := base) (def1 X G c (x := "is_sizes") (st := s_is_sizes) 21 rfl rfl) fr (c_are_numbers := c_are_numbers) (c_tupled := c_tupled) (c_boxes := c_boxes) (c_tables_of := c_tables_of) (c_goal_of := c_goal_of)
  have c_thrown := can_thrown (P := P) (w := w) (base := base) (def1 X G c (x := "thrown") (st := s_thrown) 8 rfl rfl) fr (c_tupled := c_tupled)
  have c_can_be_done := can_can_be_done (P := P) (w := w) (base := base) (def1 X G c (x := "can_be_done") (st := s_can_be_done) 32 rfl rfl) fr (c_rings := c_rings) (c_free_places := c_free_places) (c_thrown := c_thrown)
  have c__law_can := can__law_can (P := P) (w := w) (base := base) (def1 X G c (x := "_law_can") (st := s__law_can) 43 rfl rfl) fr (c__law_goal := c__law_goal)
  have c__law_fits := can__law_fits (P := P) (w := w) (base := base) (def1 X G c (x := "_law_fits") (st := s__law_fits) 48 rfl rfl) fr 
  have c__law_done := can__law_done (P := P) (w := w) (base := base) (def1 X G c (x := "_law_done") (st := s__law_done) 44 rfl rfl) fr 
  have c__law_reach := can_reach_n (P := P) (w := w) (base := base) (def1 X G c (x := "_law_reach") (st := s__law_reach) 49 rfl rfl) fr c__law_goal c__law_can c__law_fits c__law_done 12
  have c__law_yard := can__law_yard (P := P) (w := w) (base := base) (def1 X G c (x := "_law_yard") (st := s__law_yard) 41 rfl rfl) fr 
  have c_check_done := can_check_done (P := P) (w := w) (base := base) (def1 X G c (x := "check_done") (st := s_check_done) 33 rfl rfl) fr (c_can_be_done := c_can_be_done)
  have c_staying := can_staying (P := P) (w := w) (base := base) (def1 X G c (x := "staying") (st := s_staying) 7 rfl rfl) fr (c_tupled := c_tupled)
  have c_fewest_moves := can_fewest_moves (P := P) (w := w) (base := base) (def1 X G c (x := "fewest_moves") (st := s_fewest_moves) 34 rfl rfl) fr (c_check_done := c_check_done) (c_boxes := c_boxes) (c_staying := c_staying) (c_rings := c_rings)
  have c__law_walk := can__law_walk (P := P) (w := w) (base := base) (def1 X G c (x := "_law_walk") (st := s__law_walk) 46 rfl rfl) fr (c__law_yard := c__law_yard) (c__law_can := c__law_can) (c__law_done := c__law_done)
  have c_is_move := can_is_move (P := P) (w := w) (base := base) (def1 X G c (x := "is_move") (st := s_is_move) 17 rfl rfl) fr (c_is_name := c_is_name)
  have c_first_stand := can_first_stand (P := P) (w := w) (base := base) (def1 X G c (x := "first_stand") (st := s_first_stand) 13 rfl rfl) fr (c_boxes := c_boxes)
  have c_possible := can_possible (P := P) (w := w) (base := base) (def1 X G c (x := "possible") (st := s_possible) 15 rfl rfl) fr (c_tupled := c_tupled) (c_goal_of := c_goal_of)
  have c_moved := can_moved (P := P) (w := w) (base := base) (def1 X G c (x := "moved") (st := s_moved) 16 rfl rfl) fr (c_tupled := c_tupled)
  have c_is_end := can_is_end (P := P) (w := w) (base := base) (def1 X G c (x := "is_end") (st := s_is_end) 14 rfl rfl) fr (c_goal_of := c_goal_of) (c_tupled := c_tupled)
  have c_is_plan := can_is_plan (P := P) (w := w) (base := base) (def1 X G c (x := "is_plan") (st := s_is_plan) 18 rfl rfl) fr (c_is_move := c_is_move) (c_first_stand := c_first_stand) (c_possible := c_possible) (c_moved := c_moved) (c_is_end := c_is_end)
  have c_fits := can_fits (P := P) (w := w) (base := base) (def1 X G c (x := "fits") (st := s_fits) 22 rfl rfl) fr (c_tables_of := c_tables_of)
  have c_is_plan_by_sizes := can_is_plan_by_sizes (P := P) (w := w) (base := base) (def1 X G c (x := "is_plan_by_sizes") (st := s_is_plan_by_sizes) 30 rfl rfl) fr (c_is_plan := c_is_plan) (c_first_stand := c_first_stand) (c_fits := c_fits) (c_moved := c_moved)
  have c__law_right_end := can__law_right_end (P := P) (w := w) (base := base) (def1 X G c (x := "_law_right_end") (st := s__law_right_end) 45 rfl rfl) fr 
  have c__law_case_right := can__law_case_right (P := P) (w := w) (base := base) (def1 X G c (x := "_law_case_right") (st := s__law_case_right) 52 rfl rfl) fr (c__law_shut := c__law_shut) (c__law_told := c__law_told) (c_is_sizes := c_is_sizes) (c_shut_rings := c_shut_rings) (c_can_be_done_by := c_can_be_done_by) (c__law_same := c__law_same) (c_can_be_done := c_can_be_done) (c__law_reach := c__law_reach) (c__law_yard := c__law_yard) (c_fewest_moves := c_fewest_moves) (c__law_walk := c__law_walk) (c_is_plan_by_sizes := c_is_plan_by_sizes) (c__law_fits := c__law_fits) (c__law_right_end := c__law_right_end) (c_place_needed := c_place_needed)
  have c__law_hand_right := can__law_hand_right (P := P) (w := w) (base := base) (def1 X G c (x := "_law_hand_right") (st := s__law_hand_right) 54 rfl rfl) fr (c_can_be_done_by := c_can_be_done_by) (c_shut_rings := c_shut_rings) (c_place_needed := c_place_needed) (c_rings := c_rings) (c__law_same := c__law_same) (c__law_case_right := c__law_case_right)
  have c__law_cells := can__law_cells (P := P) (w := w) (base := base) (def1 X G c (x := "_law_cells") (st := s__law_cells) 37 rfl rfl) fr 
  have c__law_box := can__law_box (P := P) (w := w) (base := base) (def1 X G c (x := "_law_box") (st := s__law_box) 35 rfl rfl) fr 
  have c__law_take := can__law_take (P := P) (w := w) (base := base) (def1 X G c (x := "_law_take") (st := s__law_take) 36 rfl rfl) fr 
  have c__law_pick := can__law_pick (P := P) (w := w) (base := base) (def1 X G c (x := "_law_pick") (st := s__law_pick) 38 rfl rfl) fr (c__law_take := c__law_take)
  have c__law_task := can__law_task (P := P) (w := w) (base := base) (def1 X G c (x := "_law_task") (st := s__law_task) 40 rfl rfl) fr (c__law_take := c__law_take) (c__law_pick := c__law_pick)
  have c__law_bulk := can__law_bulk (P := P) (w := w) (base := base) (def1 X G c (x := "_law_bulk") (st := s__law_bulk) 53 rfl rfl) fr (c__law_take := c__law_take)
  have c__law_right := can__law_right (P := P) (w := w) (base := base) (def1 X G c (x := "_law_right") (st := s__law_right) 55 rfl rfl) fr (c__law_task := c__law_task) (c__law_case_right := c__law_case_right) (c__law_bulk := c__law_bulk)
  exact ok_law F fr (c__law_hand_right.mono (by omega)) c__law_cells c__law_box c__law_right
theorem holds_sp {H : Hp} {a : Addr} {ns : List Int} (hl : ns.length ≤ 63) (hS : SqL K H a (ns.map V.int)) : spF K T_law [.ref a] H (fun v _ => v = .bl true) fun _ _ _ => False := by
  refine ⟨[.dat (.rol ns)], .bl true, [.dat (.rol ns)], H, fun _ => a, law_plain hl, stOk_args (ds := [.rol ns]) (Same.refl H) (.cons (.rol hS) .nil), fun v F' H' _ _ r => ?_⟩
  cases r
  rfl
end
end ND
open PySem PySem.W PySem.Calls PyProof.Rows
set_option maxRecDepth 100000 in
set_option maxHeartbeats 0 in
theorem PySem.Challenge.cw_namesalone_k11_whole_boxes_and_places_of_holds : PySem.Challenge.rw_namesalone_k11_whole_boxes_and_places_of.Holds := by
  w_on; o_law
  refine HandSHeadRun.head_any (r := OpenLaw.row PySem.Challenge.rw_namesalone_k11_whole_boxes_and_places_of) (q := view (OpenLaw.row PySem.Challenge.rw_namesalone_k11_whole_boxes_and_places_of).prog [68]) (H := NAH.hk) (ob := NAH.ob) (M := 6000) (loose := NAH.loose) (d := HandSHeadRun.topDef (OpenLaw.row PySem.Challenge.rw_namesalone_k11_whole_boxes_and_places_of).prog 68) (kwd := []) NAH.ob_eq
    (by kernel_rfl) (fun s => by kernel_rfl) NAH.run (by kernel_rfl) (by kernel_rfl) (by kernel_rfl) (by rfl) (by first | assumption | decide +kernel) (by decide +kernel) ⟨rfl, rfl, rfl, rfl, rfl, by decide +kernel⟩ ?hw ?hc
  case hw => w_witness2
  case hc =>
    refine L2.walk_ofE (l := PySem.Challenge.rw_namesalone_k11_whole_boxes_and_places_of) (n := 63) (k := 41) (x := "_law_script") (CX := L2.CX0) rfl (by decide) (by kernel_rfl) ⟨rfl, by decide, by decide⟩ ?F (fun _ _ _ _ z => z)
    intro w mg fa h Y G hmg0
    obtain ⟨K, KX, c⟩ := Y
    have hmg : mg ("law" : PySem.Str) = some (.ref fa) := by
      have e : (HandSHeadRun.topDef (OpenLaw.row PySem.Challenge.rw_namesalone_k11_whole_boxes_and_places_of).prog 68).name = ("law" : PySem.Str) := by kernel_rfl
      rw [← e]
      exact hmg0
    obtain ⟨fd, hb, hF⟩ := ND.facts (P := (PySem.Challenge.rw_namesalone_k11_whole_boxes_and_places_of).prog) (w := w) KX G hmg c
    exact ⟨K, fd, ND.spF K ND.T_law, KX, hb, fun H a ns hl _ hS => ND.holds_sp hl hS, hF⟩
