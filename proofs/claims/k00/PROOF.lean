import PyProof.Rows.All
import Wide.All
import OpenK.AllK
import Wide.FinOn
import KE.KStateDown
import HandS.Base
import HandS.Call
import HandS.Ends
import HandS.More
import HandS.Words
import HandS.WordsExc
import HandS.Defaults
import HandS.Head0
import HandS.Head1
import HandS.Head2
import HandS.HeadEnd
import HandS.HeadHook1
import HandS.HeadHook2
import HandS.ForMost
import HandS.ForExc
import HandS.Wide
import HandS.Walk
import HandS.Zip
import HandS.TupAny
import HandS.TupMul
import HandS.Flow
import HandS.IsInst
import KE.KDictKeyed
import KE.KeyNested
import KE.GoesMore
import KE.GoesEnum
import HandS.SortInts
import HandS.Deep
import HandS.Style
import KE.SortData
import HandS.Sort
import KE.DataCmp
import KE.DataMinMax
import KE.KDictWalk
import KE.KDictCopyH
import KE.KDictDisplayH
import KE.KDictPairs
import HandS.DictTup
import PyProof.SumWalkG
import PyProof.WalksMore
import HandS.Conv
import HandS.TupLen
import KE.KEqDict
import KE.KDictOf
import HandS.Exc
import HandS.ExcIs
import KE.KExcIs
import HandS.ExcOwn
import HandS.RaiseMore
import PySem.Challenge.RW_scatterbooks_k00_whole_steps_and_walks
import KE.KSortTupAny
set_option Elab.async false
set_option linter.all false
set_option maxRecDepth 100000
set_option maxHeartbeats 1000000
namespace L2.Sc
open PySem PySem.Spec PyProof.Rows

abbrev D := PyData

mutual
def nk : D → Option NestedKey
  | .none => some .none
  | .bool b => some (.num (if b = true then 1 else 0))
  | .int i => some (.num i)
  | .str x => some (.text x)
  | .tuple xs => (nks xs).map .tup
  | .list _ => none
  | .dict _ => none
def nks : List D → Option (List NestedKey)
  | [] => some []
  | d :: ds => match nk d, nks ds with
    | some k, some ks => some (k :: ks)
    | _, _ => none
end

/-- what a dict's object is -/
structure DObj (w : World) (o : Obj) (xs : List (NestedKey × Addr × Value)) : Prop where
  ex : o.ExactDict
  data : ∃ es ep, o.data = .dict es ep ∧ es.toList = xs.map (fun x => (⟨x.1.hash w, .ref x.2.1, x.2.2⟩ : DictEntry))
  nd : (xs.map (·.1)).Nodup
  sz : xs.length ≤ sizeLine

def dobj (a : Addr) (o : Obj) : HO := .ext fun h => h.get? a = some o

/-- what stays fixed: the written part, the world, the module's names -/
structure En where
  K : PySem.W.Frag
  w : World
  mg : Str → Option Value

mutual
/-- v is d, by the frozen part F of the heap -/
inductive Rep (N : En) (F : Hp) : V → D → Prop
  | non : Rep N F .non .none
  | bl (b : Bool) : Rep N F (.bl b) (.bool b)
  | int (i : Int) : Rep N F (.int i) (.int i)
  | str (x : Str) : Rep N F (.str x) (.str x)
  | lst {a vs ds} : F a = some (.lst vs) → Reps N F vs ds → Rep N F (.ref a) (.list ds)
  /-- the law's script: read by its place and its length alone -/
  | scr {a vs ds} : SqL N.K F a vs → Reps N F vs ds → Rep N F (.ref a) (.dict [(.none, .list ds)])
  | tup {a vs ds} : SqT N.K F a vs → Reps N F vs ds → Rep N F (.ref a) (.tuple ds)
  | dct {a o xs kvs} : F a = some (dobj a o) → (a == sysModules) = false → DObj N.w o xs → RepK N F xs kvs → Rep N F (.ref a) (.dict kvs)
inductive Reps (N : En) (F : Hp) : List V → List D → Prop
  | nil : Reps N F [] []
  | cons {v vs d ds} : Rep N F v d → Reps N F vs ds → Reps N F (v :: vs) (d :: ds)
inductive RepK (N : En) (F : Hp) : List (NestedKey × Addr × Value) → List (D × D) → Prop
  | nil : RepK N F [] []
  | cons {k b u v kd vd xs kvs} : Rep N F (.ref b) kd → nk kd = some k → k.depth ≤ 8 → RelV v u → Rep N F v vd → RepK N F xs kvs → RepK N F ((k, b, u) :: xs) ((kd, vd) :: kvs)
end

section
variable {N : En} {F F' : Hp}
theorem Rd_mono (h : Same F F') {a : Addr} {u : HO} (r : Rd F a u) : Rd F' a u := by
  rcases r with r | ⟨o, r⟩
  · exact .inl (h _ _ r)
  · exact .inr ⟨o, h _ _ r⟩
theorem SqL_mono (h : Same F F') {a : Addr} {xs : List V} (r : SqL N.K F a xs) : SqL N.K F' a xs := by
  rcases r with r | r
  · exact .inl (Rd_mono h r)
  · exact .inr r
theorem SqT_mono (h : Same F F') {a : Addr} {xs : List V} (r : SqT N.K F a xs) : SqT N.K F' a xs := by
  rcases r with r | r
  · exact .inl (Rd_mono h r)
  · exact .inr r
mutual
theorem Rep.mono (h : Same F F') : ∀ {v : V} {d : D}, Rep N F v d → Rep N F' v d
  | _, _, .non => .non
  | _, _, .bl b => .bl b
  | _, _, .int i => .int i
  | _, _, .str x => .str x
  | _, _, .lst s r => .lst (h _ _ s) (r.mono h)
  | _, _, .scr s r => .scr (SqL_mono h s) (r.mono h)
  | _, _, .tup s r => .tup (SqT_mono h s) (r.mono h)
  | _, _, .dct s m o r => .dct (h _ _ s) m o (r.mono h)
theorem Reps.mono (h : Same F F') : ∀ {vs : List V} {ds : List D}, Reps N F vs ds → Reps N F' vs ds
  | _, _, .nil => .nil
  | _, _, .cons a b => .cons (a.mono h) (b.mono h)
theorem RepK.mono (h : Same F F') : ∀ {xs : List (NestedKey × Addr × Value)} {kvs : List (D × D)}, RepK N F xs kvs → RepK N F' xs kvs
  | _, _, .nil => .nil
  | _, _, .cons a b c d e f => .cons (a.mono h) b c d (e.mono h) (f.mono h)
end
theorem Reps.length : ∀ {vs : List V} {ds : List D}, Reps N F vs ds → vs.length = ds.length
  | _, _, .nil => rfl
  | _, _, .cons _ r => by simp [r.length]
theorem Reps.get : ∀ {vs : List V} {ds : List D} {i : Nat} {d : D}, Reps N F vs ds → ds[i]? = some d → ∃ v, vs[i]? = some v ∧ Rep N F v d
  | _, _, _, _, .nil, e => by simp at e
  | _, _, 0, _, .cons r _, e => by simp at e; subst e; exact ⟨_, rfl, r⟩
  | _, _, i + 1, _, .cons _ t, e => by
    obtain ⟨v, h1, h2⟩ := Reps.get (i := i) t (by simpa using e)
    exact ⟨v, by simpa using h1, h2⟩
theorem Reps.getV : ∀ {vs : List V} {ds : List D} {i : Nat} {v : V}, Reps N F vs ds → vs[i]? = some v → ∃ d, ds[i]? = some d ∧ Rep N F v d
  | _, _, _, _, .nil, e => by simp at e
  | _, _, 0, _, .cons r _, e => by simp at e; subst e; exact ⟨_, rfl, r⟩
  | _, _, i + 1, _, .cons _ t, e => by
    obtain ⟨v, h1, h2⟩ := Reps.getV (i := i) t (by simpa using e)
    exact ⟨v, by simpa using h1, h2⟩
theorem Reps.append : ∀ {vs ws : List V} {ds es : List D}, Reps N F vs ds → Reps N F ws es → Reps N F (vs ++ ws) (ds ++ es)
  | _, _, _, _, .nil, s => s
  | _, _, _, _, .cons r t, s => .cons r (t.append s)
theorem Reps.take : ∀ {vs : List V} {ds : List D} (n : Nat), Reps N F vs ds → Reps N F (vs.take n) (ds.take n)
  | _, _, 0, _ => .nil
  | _, _, _ + 1, .nil => .nil
  | _, _, n + 1, .cons r t => .cons r (t.take n)
theorem Reps.drop : ∀ {vs : List V} {ds : List D} (n : Nat), Reps N F vs ds → Reps N F (vs.drop n) (ds.drop n)
  | _, _, 0, r => r
  | _, _, _ + 1, .nil => .nil
  | _, _, n + 1, .cons _ t => t.drop n
theorem Reps.set {v : V} {d : D} (r : Rep N F v d) : ∀ {vs : List V} {ds : List D} (i : Nat), Reps N F vs ds → Reps N F (vs.set i v) (ds.set i d)
  | _, _, _, .nil => .nil
  | _, _, 0, .cons _ t => .cons r t
  | _, _, i + 1, .cons q t => .cons q (Reps.set r i t)
theorem Reps.one {v : V} {d : D} (r : Rep N F v d) : Reps N F [v] [d] := .cons r .nil
theorem Reps.rep {v : V} {d : D} (r : Rep N F v d) : ∀ n : Nat, Reps N F (List.replicate n v) (List.replicate n d)
  | 0 => .nil
  | n + 1 => .cons r (Reps.rep r n)
end

inductive Sl where
  | un
  | fr (d : D)
  | ol (ds : List D)
  | od (kvs : List (D × D))
  | io (ds : List D)
def Sl.own : Sl → Bool
  | .un => false
  | .fr _ => false
  | _ => true

/-- a def's entry: what is frozen, what stands, the row that it may write -/
structure Ent where
  F0 : Hp
  H0 : Hp
  io : Option Addr

structure Bs (G : Ent) (F H : Hp) : Prop where
  f0 : Same G.F0 F
  fh : Same F H
  keep : ∀ a o, G.H0 a = some o → G.io ≠ some a → H a = some o
  there : ∀ a, H a = none → G.H0 a = none
  new : ∀ a, G.F0 a = none → G.H0 a ≠ none → F a = none
  iot : ∀ a, G.io = some a → G.H0 a ≠ none

def SlR (N : En) (G : Ent) (F H : Hp) (v : Option V) : Sl → Prop
  | .un => True
  | .fr d => ∃ x, v = some x ∧ Rep N F x d
  | .ol ds => ∃ a vs, v = some (.ref a) ∧ H a = some (.lst vs) ∧ Reps N F vs ds ∧ F a = none ∧ G.H0 a = none
  | .od kvs => ∃ a o xs, v = some (.ref a) ∧ H a = some (dobj a o) ∧ (a == sysModules) = false ∧ DObj N.w o xs ∧ RepK N F xs kvs ∧ F a = none ∧ G.H0 a = none
  | .io ds => ∃ a vs, v = some (.ref a) ∧ H a = some (.lst vs) ∧ Reps N F vs ds ∧ F a = none ∧ G.io = some a

structure SR (N : En) (G : Ent) (F H : Hp) (σ : St) (ρ : List Sl) : Prop where
  bs : Bs G F H
  len : σ.length = ρ.length
  sl : ∀ (i : Nat) (v : Option V) (s : Sl), σ[i]? = some v → ρ[i]? = some s → SlR N G F H v s
  inj : ∀ (i j : Nat) (a : Addr) (s s' : Sl), σ[i]? = some (some (.ref a)) → ρ[i]? = some s → s.own = true → σ[j]? = some (some (.ref a)) → ρ[j]? = some s' → s'.own = true → i = j

/-- the heap grows; what is newly frozen is new -/
structure Ext (F H F' H' : Hp) : Prop where
  ff : Same F F'
  hh : Same H H'
  fh : Same F' H'
  new : ∀ a, F a = none → H a ≠ none → F' a = none
theorem Ext.refl {F H : Hp} (h : Same F H) : Ext F H F H := ⟨Same.refl _, Same.refl _, h, fun _ h _ => h⟩
theorem Ext.trans {F H F1 H1 F2 H2 : Hp} (a : Ext F H F1 H1) (b : Ext F1 H1 F2 H2) : Ext F H F2 H2 :=
  ⟨a.ff.trans b.ff, a.hh.trans b.hh, b.fh, fun c h1 h2 => b.new c (a.new c h1 h2) (fun e => by
    cases q : H c with
    | none => exact h2 q
    | some o => rw [a.hh c o q] at e; cases e)⟩
theorem same_upd {H : Hp} {p : Addr} {o : HO} (h : H p = none) : Same H (upd H p o) := fun b x e => by
  rw [upd_ne (ne_of_none e h)]
  exact e
theorem same_none {F H : Hp} (h : Same F H) {p : Addr} (e : H p = none) : F p = none := by
  cases q : F p with
  | none => rfl
  | some o => rw [h _ _ q] at e; cases e
/-- a new object, frozen -/
theorem Ext.one {F H : Hp} (h : Same F H) {p : Addr} (o : HO) (e : H p = none) : Ext F H (upd F p o) (upd H p o) where
  ff := same_upd (same_none h e)
  hh := same_upd e
  fh := fun b x q => by
    by_cases hb : b = p
    · subst hb; rw [upd_same] at q ⊢; exact q
    · rw [upd_ne hb] at q ⊢; exact h _ _ q
  new := fun a h1 h2 => by
    by_cases hb : a = p
    · subst hb; exact absurd e h2
    · rw [upd_ne hb]; exact h1

section
variable {N : En} {G : Ent} {F H F' H' : Hp} {σ : St} {ρ : List Sl}
theorem SlR.ext (x : Ext F H F' H') {v : Option V} {s : Sl} (h : SlR N G F H v s) : SlR N G F' H' v s := by
  cases s with
  | un => trivial
  | fr d => obtain ⟨x', e, r⟩ := h; exact ⟨x', e, r.mono x.ff⟩
  | ol ds =>
    obtain ⟨a, vs, e, h1, r, h2, h3⟩ := h
    exact ⟨a, vs, e, x.hh _ _ h1, r.mono x.ff, x.new a h2 (by rw [h1]; simp), h3⟩
  | od kvs =>
    obtain ⟨a, o, xs, e, h1, m, ob, r, h2, h3⟩ := h
    exact ⟨a, o, xs, e, x.hh _ _ h1, m, ob, r.mono x.ff, x.new a h2 (by rw [h1]; simp), h3⟩
  | io ds =>
    obtain ⟨a, vs, e, h1, r, h2, h3⟩ := h
    exact ⟨a, vs, e, x.hh _ _ h1, r.mono x.ff, x.new a h2 (by rw [h1]; simp), h3⟩
theorem Bs.ext (b : Bs G F H) (x : Ext F H F' H') : Bs G F' H' where
  f0 := b.f0.trans x.ff
  fh := x.fh
  keep := fun a o h1 h2 => x.hh _ _ (b.keep a o h1 h2)
  there := fun a h => b.there a (same_none x.hh h)
  new := fun a h1 h2 => x.new a (b.new a h1 h2) (fun e => h2 (b.there a e))
  iot := b.iot
theorem SR.ext (s : SR N G F H σ ρ) (x : Ext F H F' H') : SR N G F' H' σ ρ :=
  ⟨s.bs.ext x, s.len, fun i v t h1 h2 => (s.sl i v t h1 h2).ext x, s.inj⟩

theorem SR.fr_at (s : SR N G F H σ ρ) {i : Nat} {d : D} (h : ρ[i]? = some (.fr d)) : ∃ v, σ[i]? = some (some v) ∧ Rep N F v d := by
  have hi : i < σ.length := by rw [s.len]; exact (List.getElem?_eq_some_iff.mp h).1
  obtain ⟨x, e, r⟩ := s.sl i σ[i] _ (List.getElem?_eq_getElem hi) h
  exact ⟨x, by rw [List.getElem?_eq_getElem hi, e], r⟩
theorem SR.at_own (s : SR N G F H σ ρ) {i : Nat} {t : Sl} (h : ρ[i]? = some t) : ∃ v, σ[i]? = some v ∧ SlR N G F H v t := by
  have hi : i < σ.length := by rw [s.len]; exact (List.getElem?_eq_some_iff.mp h).1
  exact ⟨σ[i], List.getElem?_eq_getElem hi, s.sl i σ[i] _ (List.getElem?_eq_getElem hi) h⟩

/-- a frozen value is stored -/
theorem SR.set_fr (s : SR N G F H σ ρ) {i : Nat} {v : V} {d : D} (r : Rep N F v d) : SR N G F H (σ.set i (some v)) (ρ.set i (.fr d)) where
  bs := s.bs
  len := by simp [s.len]
  sl := fun j u t h1 h2 => by
    by_cases hj : i = j
    · subst hj
      rw [List.getElem?_set] at h1 h2
      simp only [if_true] at h1 h2
      split at h1 <;> rename_i hl
      · rw [if_pos (by rw [← s.len]; exact hl)] at h2
        cases h1; cases h2
        exact ⟨v, rfl, r⟩
      · cases h1
    · rw [List.getElem?_set_ne hj] at h1 h2
      exact s.sl j u t h1 h2
  inj := fun j k a t t' h1 h2 h3 h4 h5 h6 => by
    have nj : ∀ {j : Nat} {t : Sl}, (ρ.set i (.fr d))[j]? = some t → t.own = true → i ≠ j := by
      intro j t h2 h3 e
      subst e
      rw [List.getElem?_set] at h2
      simp only [if_true] at h2
      split at h2
      · cases h2; cases h3
      · cases h2
    have n1 := nj h2 h3
    have n2 := nj h5 h6
    rw [List.getElem?_set_ne n1] at h1 h2
    rw [List.getElem?_set_ne n2] at h4 h5
    exact s.inj j k a t t' h1 h2 h3 h4 h5 h6
/-- a slot is forgotten -/
theorem SR.forget (s : SR N G F H σ ρ) {i : Nat} (v : Option V) : SR N G F H (σ.set i v) (ρ.set i .un) where
  bs := s.bs
  len := by simp [s.len]
  sl := fun j u t h1 h2 => by
    by_cases hj : i = j
    · subst hj
      rw [List.getElem?_set] at h2
      simp only [if_true] at h2
      split at h2
      · cases h2; trivial
      · cases h2
    · rw [List.getElem?_set_ne hj] at h1 h2
      exact s.sl j u t h1 h2
  inj := fun j k a t t' h1 h2 h3 h4 h5 h6 => by
    have nj : ∀ {j : Nat} {t : Sl}, (ρ.set i .un)[j]? = some t → t.own = true → i ≠ j := by
      intro j t h2 h3 e
      subst e
      rw [List.getElem?_set] at h2
      simp only [if_true] at h2
      split at h2
      · cases h2; cases h3
      · cases h2
    have n1 := nj h2 h3
    have n2 := nj h5 h6
    rw [List.getElem?_set_ne n1] at h1 h2
    rw [List.getElem?_set_ne n2] at h4 h5
    exact s.inj j k a t t' h1 h2 h3 h4 h5 h6
/-- forgotten, the slot as it was -/
theorem SR.drop_at (s : SR N G F H σ ρ) {i : Nat} : SR N G F H σ (ρ.set i .un) := by
  have e := s.forget (i := i) (σ[i]?.getD none)
  have : σ.set i (σ[i]?.getD none) = σ := by
    apply List.ext_getElem?
    intro j
    rw [List.getElem?_set]
    split
    · rename_i h; subst h
      split
      · rename_i h; simp [List.getElem?_eq_getElem h]
      · rename_i h; simp at h; simp [List.getElem?_eq_none h]
    · rfl
  rwa [this] at e

/-- a new object as a virtual last slot -/
theorem SR.push (s : SR N G F H σ ρ) {p : Addr} {vs : List V} {ds : List D} (hp : H p = none) (r : Reps N F vs ds) :
    SR N G F (upd H p (.lst vs)) (σ ++ [some (.ref p)]) (ρ ++ [.ol ds]) := by
  have hF : F p = none := same_none s.bs.fh hp
  have hh : Same H (upd H p (.lst vs)) := same_upd hp
  have old : ∀ {i : Nat} {v : Option V} {t : Sl}, i < σ.length → (σ ++ [some (.ref p)])[i]? = some v → (ρ ++ [.ol ds])[i]? = some t → σ[i]? = some v ∧ ρ[i]? = some t := by
    intro i v t hi h1 h2
    rw [List.getElem?_append_left hi] at h1
    rw [List.getElem?_append_left (by rw [← s.len]; exact hi)] at h2
    exact ⟨h1, h2⟩
  have lst : ∀ {i : Nat} {v : Option V} {t : Sl}, ¬ i < σ.length → (σ ++ [some (.ref p)])[i]? = some v → (ρ ++ [.ol ds])[i]? = some t → i = σ.length ∧ v = some (.ref p) ∧ t = .ol ds := by
    intro i v t hi h1 h2
    rw [List.getElem?_append_right (by omega)] at h1
    rw [List.getElem?_append_right (by rw [← s.len]; omega)] at h2
    have e : i - σ.length = 0 := by
      rcases Nat.lt_or_ge (i - σ.length) 1 with h | h
      · omega
      · rw [List.getElem?_eq_none (by simpa using h)] at h1; cases h1
    rw [e] at h1
    rw [← s.len, e] at h2
    simp at h1 h2
    exact ⟨by omega, h1.symm, h2.symm⟩
  have hext : Ext F H F (upd H p (.lst vs)) := ⟨Same.refl _, hh, s.bs.fh.trans hh, fun _ h _ => h⟩
  have notp : ∀ {i : Nat} {t : Sl}, σ[i]? = some (some (.ref p)) → ρ[i]? = some t → t.own = true → False := by
    intro i t h1 h2 h3
    have q := s.sl i _ t h1 h2
    cases t with
    | un => cases h3
    | fr d => cases h3
    | ol ds => obtain ⟨a, vs, e, h, _⟩ := q; cases e; rw [hp] at h; cases h
    | od ds => obtain ⟨a, o, vs, e, h, _⟩ := q; cases e; rw [hp] at h; cases h
    | io ds => obtain ⟨a, vs, e, h, _⟩ := q; cases e; rw [hp] at h; cases h
  refine ⟨s.bs.ext hext, by simp [s.len], fun i v t h1 h2 => ?_, fun i j a t t' h1 h2 h3 h4 h5 h6 => ?_⟩
  · by_cases hi : i < σ.length
    · obtain ⟨e1, e2⟩ := old hi h1 h2
      exact (s.sl i v t e1 e2).ext hext
    · obtain ⟨_, rfl, rfl⟩ := lst hi h1 h2
      exact ⟨p, vs, rfl, upd_same, r, hF, s.bs.there p hp⟩
  · by_cases hi : i < σ.length
    · obtain ⟨e1, e2⟩ := old hi h1 h2
      by_cases hj : j < σ.length
      · obtain ⟨e3, e4⟩ := old hj h4 h5
        exact s.inj i j a t t' e1 e2 h3 e3 e4 h6
      · obtain ⟨_, e, _⟩ := lst hj h4 h5
        cases e
        exact (notp e1 e2 h3).elim
    · obtain ⟨q1, e, _⟩ := lst hi h1 h2
      cases e
      by_cases hj : j < σ.length
      · obtain ⟨e3, e4⟩ := old hj h4 h5
        exact (notp e3 e4 h6).elim
      · obtain ⟨q2, _⟩ := lst hj h4 h5
        omega
end
end L2.Sc
set_option Elab.async false
set_option linter.all false
set_option maxRecDepth 100000
set_option maxHeartbeats 1000000
namespace L2.Sc
open PySem PySem.Spec PyProof.Rows

def Sl.val : Sl → Option D
  | .un => none
  | .fr d => some d
  | .ol ds => some (.list ds)
  | .io ds => some (.list ds)
  | .od kvs => some (.dict kvs)
def Sl.lget : Sl → Option (List D)
  | .ol ds => some ds
  | .io ds => some ds
  | _ => none
def Sl.lput (ds : List D) : Sl → Sl
  | .ol _ => .ol ds
  | .io _ => .io ds
  | s => s
/-- read as it stands now -/
inductive BRep (N : En) (F H : Hp) : V → D → Prop
  | va {v d} : Rep N F v d → BRep N F H v d
  | ol {a vs ds} : H a = some (.lst vs) → Reps N F vs ds → BRep N F H (.ref a) (.list ds)
  | od {a o xs kvs} : H a = some (dobj a o) → (a == sysModules) = false → DObj N.w o xs → RepK N F xs kvs → BRep N F H (.ref a) (.dict kvs)

section
variable {N : En} {G : Ent} {F H F' H' : Hp} {σ σ' : St} {ρ ρ' : List Sl}
theorem BRep.lst {v : V} {ds : List D} (h : Same F H) (b : BRep N F H v (.list ds)) : ∃ a vs, v = .ref a ∧ H a = some (.lst vs) ∧ Reps N F vs ds := by
  cases b with
  | va r => cases r with | lst s r => exact ⟨_, _, rfl, h _ _ s, r⟩
  | ol s r => exact ⟨_, _, rfl, s, r⟩
theorem BRep.tup {v : V} {ds : List D} (h : Same F H) (b : BRep N F H v (.tuple ds)) : ∃ a vs, v = .ref a ∧ SqT N.K H a vs ∧ Reps N F vs ds := by
  cases b with
  | va r => cases r with | tup s r => exact ⟨_, _, rfl, SqT_mono h s, r⟩
theorem BRep.int {v : V} {i : Int} (b : BRep N F H v (.int i)) : v = .int i := by
  cases b with
  | va r => cases r; rfl
theorem BRep.bl {v : V} {i : Bool} (b : BRep N F H v (.bool i)) : v = .bl i := by
  cases b with
  | va r => cases r; rfl
theorem BRep.str {v : V} {i : Str} (b : BRep N F H v (.str i)) : v = .str i := by
  cases b with
  | va r => cases r; rfl
theorem BRep.non {v : V} (b : BRep N F H v .none) : v = .non := by
  cases b with
  | va r => cases r; rfl
def isTup : D → Bool
  | .tuple _ => true
  | _ => false
def keysOk (kvs : List (D × D)) : Bool := kvs.all fun p => isTup p.1
theorem BRep.dct {v : V} {kvs : List (D × D)} (h : Same F H) (hk : keysOk kvs = true) (b : BRep N F H v (.dict kvs)) : ∃ a o xs, v = .ref a ∧ H a = some (dobj a o) ∧ (a == sysModules) = false ∧ DObj N.w o xs ∧ RepK N F xs kvs := by
  cases b with
  | va r =>
    cases r with
    | dct s m o r => exact ⟨_, _, _, rfl, h _ _ s, m, o, r⟩
    | scr s r => cases hk
  | od s m o r => exact ⟨_, _, _, rfl, s, m, o, r⟩
theorem BRep.scr {v : V} {ds : List D} (h : Same F H) (b : BRep N F H v (.dict [(.none, .list ds)])) : ∃ a vs, v = .ref a ∧ SqL N.K H a vs ∧ Reps N F vs ds := by
  have no : ∀ {xs}, ¬ RepK N F xs [(.none, .list ds)] := fun r => by
    cases r with
    | cons a _ _ _ _ _ => cases a
  cases b with
  | va r =>
    cases r with
    | dct s m o r => exact (no r).elim
    | scr s r => exact ⟨_, _, rfl, SqL_mono h s, r⟩
  | od s m o r => exact (no r).elim

theorem SR.read (s : SR N G F H σ ρ) {i : Nat} {t : Sl} {d : D} (h : ρ[i]? = some t) (e : t.val = some d) : ∃ v, σ[i]? = some (some v) ∧ BRep N F H v d := by
  obtain ⟨v, hv, q⟩ := s.at_own h
  cases t with
  | un => cases e
  | fr d => cases e; obtain ⟨x, rfl, r⟩ := q; exact ⟨x, hv, .va r⟩
  | ol ds => cases e; obtain ⟨a, vs, rfl, h1, r, _⟩ := q; exact ⟨_, hv, .ol h1 r⟩
  | io ds => cases e; obtain ⟨a, vs, rfl, h1, r, _⟩ := q; exact ⟨_, hv, .ol h1 r⟩
  | od ds => cases e; obtain ⟨a, o, xs, rfl, h1, m, ob, r, _⟩ := q; exact ⟨_, hv, .od h1 m ob r⟩

/-- the slots told anew -/
theorem SR.reix (s : SR N G F H σ ρ) (hl : σ'.length = ρ'.length) (m : Nat → Nat) (hm : ∀ i j, i < ρ'.length → j < ρ'.length → m i = m j → i = j)
    (h : ∀ (i : Nat) (v : Option V) (t : Sl), σ'[i]? = some v → ρ'[i]? = some t → t = .un ∨ (σ[m i]? = some v ∧ ρ[m i]? = some t) ∨ ∃ d x, t = .fr d ∧ v = some x ∧ Rep N F x d) : SR N G F H σ' ρ' where
  bs := s.bs
  len := hl
  sl := fun i v t h1 h2 => by
    rcases h i v t h1 h2 with rfl | ⟨e1, e2⟩ | ⟨d, x, rfl, rfl, r⟩
    · trivial
    · exact s.sl _ v t e1 e2
    · exact ⟨x, rfl, r⟩
  inj := fun i j a t t' h1 h2 h3 h4 h5 h6 => by
    rcases h i _ t h1 h2 with rfl | ⟨e1, e2⟩ | ⟨d, x, rfl, _⟩
    · cases h3
    · rcases h j _ t' h4 h5 with rfl | ⟨e3, e4⟩ | ⟨d, x, rfl, _⟩
      · cases h6
      · exact hm i j (List.getElem?_eq_some_iff.mp h2).1 (List.getElem?_eq_some_iff.mp h5).1 (s.inj _ _ a t t' e1 e2 h3 e3 e4 h6)
      · cases h6
    · cases h3
/-- the virtual last slot becomes slot i -/
theorem SR.move {v : V} {t : Sl} (s : SR N G F H (σ ++ [some v]) (ρ ++ [t])) (i : Nat) : SR N G F H (σ.set i (some v)) (ρ.set i t) := by
  have hl : σ.length = ρ.length := by have := s.len; simpa using this
  refine s.reix (by simp [hl]) (fun j => if j = i then σ.length else j) (fun a b ha hb e => ?_) (fun j u w h1 h2 => ?_)
  · simp only [List.length_set] at ha hb
    skip
    split at e <;> split at e <;> omega
  · have hj : j < σ.length := by have := (List.getElem?_eq_some_iff.mp h1).1; simpa using this
    refine .inr (.inl ?_)
    by_cases hi : j = i
    · subst hi
      rw [List.getElem?_set_self hj] at h1
      rw [List.getElem?_set_self (by omega)] at h2
      cases h1; cases h2
      simp [hl]
    · rw [List.getElem?_set_ne (Ne.symm hi)] at h1 h2
      rw [if_neg hi, List.getElem?_append_left hj, List.getElem?_append_left (by omega)]
      exact ⟨h1, h2⟩
/-- the virtual last slot is left -/
theorem SR.unpush {v : Option V} {t : Sl} (s : SR N G F H (σ ++ [v]) (ρ ++ [t])) : SR N G F H σ ρ := by
  have hl : σ.length = ρ.length := by have := s.len; simpa using this
  refine s.reix hl (fun j => j) (fun _ _ _ _ e => e) (fun j u w h1 h2 => ?_)
  have hj : j < σ.length := (List.getElem?_eq_some_iff.mp h1).1
  rw [List.getElem?_append_left hj, List.getElem?_append_left (by omega)]
  exact .inr (.inl ⟨h1, h2⟩)

theorem upd_sub {F H : Hp} (h : Same F H) {a : Addr} {o : HO} (e : H a = some o) : Same (upd F a o) H := fun b x q => by
  by_cases hb : b = a
  · subst hb; rw [upd_same] at q; cases q; exact e
  · rw [upd_ne hb] at q; exact h _ _ q
theorem SlR.frz {a : Addr} {o : HO} (hF : F a = none) (hne : ∀ x, x = some (V.ref a) → True) {v : Option V} {t : Sl} (ne : t.own = true → v ≠ some (.ref a)) (h : SlR N G F H v t) : SlR N G (upd F a o) H v t := by
  have ff : Same F (upd F a o) := same_upd hF
  cases t with
  | un => trivial
  | fr d => obtain ⟨x', e, r⟩ := h; exact ⟨x', e, r.mono ff⟩
  | ol ds =>
    obtain ⟨b, vs, e, h1, r, h2, h3⟩ := h
    refine ⟨b, vs, e, h1, r.mono ff, ?_, h3⟩
    rw [upd_ne (fun z => ne rfl (by rw [e, z]))]; exact h2
  | io ds =>
    obtain ⟨b, vs, e, h1, r, h2, h3⟩ := h
    refine ⟨b, vs, e, h1, r.mono ff, ?_, h3⟩
    rw [upd_ne (fun z => ne rfl (by rw [e, z]))]; exact h2
  | od ds =>
    obtain ⟨b, ob, xs, e, h1, m, d, r, h2, h3⟩ := h
    refine ⟨b, ob, xs, e, h1, m, d, r.mono ff, ?_, h3⟩
    rw [upd_ne (fun z => ne rfl (by rw [e, z]))]; exact h2
/-- slot i (a list or a dict of one's own) is frozen as it stands -/
theorem SR.freeze (s : SR N G F H σ ρ) {i : Nat} {t : Sl} {d : D} (h : ρ[i]? = some t) (e : t.val = some d) (nio : ∀ ds, t ≠ .io ds) :
    ∃ v F', σ[i]? = some (some v) ∧ Same F F' ∧ SR N G F' H σ (ρ.set i (.fr d)) ∧ Rep N F' v d := by
  have core : ∀ (a : Addr) (o : HO), σ[i]? = some (some (.ref a)) → H a = some o → F a = none → G.H0 a = none → t.own = true → Rep N (upd F a o) (.ref a) d →
      SR N G (upd F a o) H σ (ρ.set i (.fr d)) := by
    intro a o hv hH hF h0 ht r
    have hs : σ.set i (some (.ref a)) = σ := by
      apply List.ext_getElem?
      intro j
      rw [List.getElem?_set]
      split
      · rename_i q; subst q
        split
        · exact hv.symm
        · rename_i q; exact absurd (List.getElem?_eq_some_iff.mp hv).1 q
      · rfl
    have base : SR N G (upd F a o) H σ (ρ.set i .un) := by
      refine ⟨⟨s.bs.f0.trans (same_upd hF), upd_sub s.bs.fh hH, s.bs.keep, s.bs.there, fun b h1 h2 => ?_, s.bs.iot⟩, by simpa using s.len, fun j v u h1 h2 => ?_, fun j k b u u' h1 h2 h3 h4 h5 h6 => ?_⟩
      · rw [upd_ne (fun z => h2 (by rw [z]; exact h0))]
        exact s.bs.new b h1 h2
      · by_cases hj : i = j
        · subst hj
          rw [List.getElem?_set] at h2
          simp only [if_true] at h2
          split at h2
          · cases h2; trivial
          · cases h2
        · rw [List.getElem?_set_ne hj] at h2
          refine (s.sl j v u h1 h2).frz hF (fun _ _ => trivial) fun hu z => hj ?_
          subst z
          exact s.inj i j a t u hv h ht h1 h2 hu
      · have nj : ∀ {j : Nat} {u : Sl}, (ρ.set i .un)[j]? = some u → u.own = true → i ≠ j := by
          intro j u h2 h3 e
          subst e
          rw [List.getElem?_set] at h2
          simp only [if_true] at h2
          split at h2
          · cases h2; cases h3
          · cases h2
        have n1 := nj h2 h3
        have n2 := nj h5 h6
        rw [List.getElem?_set_ne n1] at h2
        rw [List.getElem?_set_ne n2] at h5
        exact s.inj j k b u u' h1 h2 h3 h4 h5 h6
    have := base.set_fr (i := i) r
    rw [hs, List.set_set] at this
    exact this
  obtain ⟨v, hv, q⟩ := s.at_own h
  cases t with
  | un => cases e
  | fr d' =>
    cases e
    obtain ⟨x, rfl, r⟩ := q
    refine ⟨x, F, hv, Same.refl _, ?_, r⟩
    have : ρ.set i (.fr d) = ρ := by
      apply List.ext_getElem?
      intro j
      rw [List.getElem?_set]
      split
      · rename_i q; subst q
        split
        · exact h.symm
        · rename_i q; exact absurd (List.getElem?_eq_some_iff.mp h).1 q
      · rfl
    rw [this]; exact s
  | io ds => exact absurd rfl (nio ds)
  | ol ds =>
    cases e
    obtain ⟨a, vs, rfl, h1, r, h2, h3⟩ := q
    have rr : Rep N (upd F a (.lst vs)) (.ref a) (.list ds) := .lst upd_same (r.mono (same_upd h2))
    exact ⟨_, _, hv, same_upd h2, core a _ hv h1 h2 h3 rfl rr, rr⟩
  | od kvs =>
    cases e
    obtain ⟨a, o, xs, rfl, h1, m, ob, r, h2, h3⟩ := q
    have rr : Rep N (upd F a (dobj a o)) (.ref a) (.dict kvs) := .dct upd_same m ob (r.mono (same_upd h2))
    exact ⟨_, _, hv, same_upd h2, core a _ hv h1 h2 h3 rfl rr, rr⟩

/-- an own object is written -/
theorem SR.write (s : SR N G F H σ ρ) {i : Nat} {t t' : Sl} {a : Addr} {o : HO} (h : ρ[i]? = some t) (hv : σ[i]? = some (some (.ref a))) (ht : t.own = true) (hF : F a = none)
    (h0 : G.H0 a = none ∨ G.io = some a) (ht' : t'.own = true) (new : SlR N G F (upd H a o) (some (.ref a)) t') : SR N G F (upd H a o) σ (ρ.set i t') := by
  have other : ∀ {v : Option V} {u : Sl}, (u.own = true → v ≠ some (.ref a)) → SlR N G F H v u → SlR N G F (upd H a o) v u := by
    intro v u ne q
    cases u with
    | un => trivial
    | fr d => exact q
    | ol ds =>
      obtain ⟨b, vs, e, h1, r, h2, h3⟩ := q
      exact ⟨b, vs, e, by rw [upd_ne (fun z => ne rfl (by rw [e, z]))]; exact h1, r, h2, h3⟩
    | io ds =>
      obtain ⟨b, vs, e, h1, r, h2, h3⟩ := q
      exact ⟨b, vs, e, by rw [upd_ne (fun z => ne rfl (by rw [e, z]))]; exact h1, r, h2, h3⟩
    | od ds =>
      obtain ⟨b, ob, xs, e, h1, m, d, r, h2, h3⟩ := q
      exact ⟨b, ob, xs, e, by rw [upd_ne (fun z => ne rfl (by rw [e, z]))]; exact h1, m, d, r, h2, h3⟩
  have hi : i < ρ.length := (List.getElem?_eq_some_iff.mp h).1
  refine ⟨⟨s.bs.f0, fun b x q => ?_, fun b x h1 h2 => ?_, fun b q => ?_, s.bs.new, s.bs.iot⟩, by simpa using s.len, fun j v u h1 h2 => ?_, fun j k b u u' h1 h2 h3 h4 h5 h6 => ?_⟩
  · rw [upd_ne (fun z => by subst z; rw [hF] at q; cases q)]
    exact s.bs.fh _ _ q
  · rw [upd_ne (fun z => ?_)]
    · exact s.bs.keep b x h1 h2
    · subst z
      rcases h0 with h0 | h0
      · rw [h0] at h1; cases h1
      · exact h2 h0
  · by_cases z : b = a
    · subst z; rw [upd_same] at q; cases q
    · rw [upd_ne z] at q; exact s.bs.there b q
  · by_cases hj : i = j
    · subst hj
      rw [hv] at h1
      rw [List.getElem?_set_self hi] at h2
      cases h1; cases h2
      exact new
    · rw [List.getElem?_set_ne hj] at h2
      refine other (fun hu z => hj ?_) (s.sl j v u h1 h2)
      subst z
      exact s.inj i j a t u hv h ht h1 h2 hu
  · have back : ∀ {j : Nat} {u : Sl}, (ρ.set i t')[j]? = some u → u.own = true → ∃ w, ρ[j]? = some w ∧ w.own = true := by
      intro j u h2 h3
      by_cases hj : i = j
      · subst hj; exact ⟨t, h, ht⟩
      · rw [List.getElem?_set_ne hj] at h2; exact ⟨u, h2, h3⟩
    obtain ⟨w, e1, e2⟩ := back h2 h3
    obtain ⟨w', e3, e4⟩ := back h5 h6
    exact s.inj j k b w w' h1 e1 e2 h4 e3 e4
/-- an own list -/
theorem SR.own_lst (s : SR N G F H σ ρ) {i : Nat} {t : Sl} {ds : List D} (h : ρ[i]? = some t) (e : t.lget = some ds) :
    ∃ a vs, σ[i]? = some (some (.ref a)) ∧ H a = some (.lst vs) ∧ Reps N F vs ds ∧ ∀ vs' ds', Reps N F vs' ds' → SR N G F (upd H a (.lst vs')) σ (ρ.set i (t.lput ds')) := by
  obtain ⟨v, hv, q⟩ := s.at_own h
  cases t with
  | un => cases e
  | fr d => cases e
  | od kvs => cases e
  | ol ds =>
    cases e
    obtain ⟨a, vs, rfl, h1, r, h2, h3⟩ := q
    exact ⟨a, vs, hv, h1, r, fun vs' ds' r' => s.write h hv rfl h2 (.inl h3) rfl ⟨a, vs', rfl, upd_same, r', h2, h3⟩⟩
  | io ds =>
    cases e
    obtain ⟨a, vs, rfl, h1, r, h2, h3⟩ := q
    exact ⟨a, vs, hv, h1, r, fun vs' ds' r' => s.write h hv rfl h2 (.inr h3) rfl ⟨a, vs', rfl, upd_same, r', h2, h3⟩⟩
/-- an own dict -/
theorem SR.own_dct (s : SR N G F H σ ρ) {i : Nat} {kvs : List (D × D)} (h : ρ[i]? = some (.od kvs)) :
    ∃ a o xs, σ[i]? = some (some (.ref a)) ∧ H a = some (dobj a o) ∧ (a == sysModules) = false ∧ DObj N.w o xs ∧ RepK N F xs kvs ∧
      ∀ o' xs' kvs', DObj N.w o' xs' → RepK N F xs' kvs' → SR N G F (upd H a (dobj a o')) σ (ρ.set i (.od kvs')) := by
  obtain ⟨v, hv, q⟩ := s.at_own h
  obtain ⟨a, o, xs, rfl, h1, m, ob, r, h2, h3⟩ := q
  exact ⟨a, o, xs, hv, h1, m, ob, r, fun o' xs' kvs' ob' r' => s.write h hv rfl h2 (.inl h3) rfl ⟨a, o', xs', rfl, upd_same, m, ob', r', h2, h3⟩⟩
end

/-- an exception: its class by the module's name, its fields -/
structure Ex where
  cls : Str
  fs : List (Str × D)
inductive Res (α : Type) where
  | ok (a : α) (ρ : List Sl)
  | err (e : Ex) (ρ : List Sl)
  | stuck
abbrev M (α : Type) := List Sl → Res α
def M.pure {α : Type} (a : α) : M α := fun ρ => .ok a ρ
def Res.bind {α β : Type} (r : Res α) (g : α → M β) : Res β := match r with
  | .ok a ρ => g a ρ
  | .err e ρ => .err e ρ
  | .stuck => .stuck
def M.bind {α β : Type} (f : M α) (g : α → M β) : M β := fun ρ => (f ρ).bind g
def M.fail {α : Type} : M α := fun _ => .stuck
def M.ofO {α : Type} (o : Option α) : M α := fun ρ => match o with
  | some a => .ok a ρ
  | none => .stuck

def ExR (N : En) (F H : Hp) (cls : Value) (d : Option Addr) (e : Ex) : Prop :=
  (∃ C, cls = .ref C ∧ N.mg e.cls = some (.ref C)) ∧ ((e.fs = [] ∧ d = none) ∨ ∃ a vfs, d = some a ∧ H a = some (.xd vfs) ∧ ∀ f dd, e.fs.lookup f = some dd → ∃ v, vfs.lookup f = some v ∧ Rep N F v dd)

def RP (N : En) (W : WX) (G : Ent) (F : Hp) (σ : St) {α : Type} (r : Res α) (P : α → List Sl → Hp → Hp → Prop) : Prop := match r with
  | .ok a ρ => ∀ F' H', SR N G F' H' σ ρ → Same F F' → P a ρ F' H'
  | .err e ρ => ∀ cls d F' H', SR N G F' H' σ ρ → Same F F' → ExR N F' H' cls d e → W cls d σ H'
  | .stuck => False
section
variable {N : En} {W : WX} {G : Ent} {F F' : Hp} {σ : St} {α β : Type}
theorem RP.mono {r : Res α} {P Q : α → List Sl → Hp → Hp → Prop} (h : RP N W G F σ r P) (i : ∀ a ρ F' H', SR N G F' H' σ ρ → Same F F' → P a ρ F' H' → Q a ρ F' H') : RP N W G F σ r Q := by
  cases r with
  | ok a ρ => exact fun F' H' s f => i a ρ F' H' s f (h F' H' s f)
  | err e ρ => exact h
  | stuck => exact h
theorem RP.later {r : Res α} {P : α → List Sl → Hp → Hp → Prop} (h : RP N W G F σ r P) (f : Same F F') : RP N W G F' σ r P := by
  cases r with
  | ok a ρ => exact fun F2 H2 s f2 => h F2 H2 s (f.trans f2)
  | err e ρ => exact fun cls d F2 H2 s f2 => h cls d F2 H2 s (f.trans f2)
  | stuck => exact h
theorem RP.bind {r : Res α} {g : α → M β} {P : β → List Sl → Hp → Hp → Prop} (h : RP N W G F σ (r.bind g) P) :
    RP N W G F σ r fun a ρ F' H' => SR N G F' H' σ ρ ∧ Same F F' ∧ RP N W G F' σ (g a ρ) P := by
  cases r with
  | ok a ρ => exact fun F' H' s f => ⟨s, f, RP.later h f⟩
  | err e ρ => exact h
  | stuck => exact h
theorem RP.pure {a : α} {ρ : List Sl} {H : Hp} {P : α → List Sl → Hp → Hp → Prop} (h : RP N W G F σ (.ok a ρ) P) (s : SR N G F H σ ρ) : P a ρ F H := h F H s (Same.refl _)
end

section
variable (N : En) (W : WX)
/-- the start of a reading: some entry, some frozen part -/
def tE (f : M D) : TE := fun σ H Q => ∃ G F ρ, SR N G F H σ ρ ∧ RP N W G F σ (f ρ) fun d _ F' H' => ∀ v, Rep N F' v d → Q v H'
def tT (f : M Bool) : TT := fun σ H Q => ∃ G F ρ, SR N G F H σ ρ ∧ RP N W G F σ (f ρ) fun b _ _ H' => Q b H'
def tA (f : M (List D)) : TA := fun σ H Q => ∃ G F ρ, SR N G F H σ ρ ∧ RP N W G F σ (f ρ) fun ds _ F' H' => ∀ vs, Reps N F' vs ds → Q vs H'
/-- a value, or a name whose object is looked at when it is used -/
inductive Bv where
  | va (d : D)
  | sl (i : Nat)
def BvR (F : Hp) (σ : St) (v : V) : Bv → Prop
  | .va d => Rep N F v d
  | .sl i => σ[i]? = some (some v)
def tB (f : M Bv) : TE := fun σ H Q => ∃ G F ρ, SR N G F H σ ρ ∧ RP N W G F σ (f ρ) fun b _ F' H' => ∀ v, BvR N F' σ v b → Q v H'
def rdB (b : Bv) (ρ : List Sl) : Option D := match b with
  | .va d => some d
  | .sl i => match ρ[i]? with
    | some t => t.val
    | none => none
/-- a new object, as a virtual last slot -/
def tF (f : M Sl) : TE := fun σ H Q => ∃ G F ρ, SR N G F H σ ρ ∧ RP N W G F σ (f ρ) fun o ρ' F' _ => ∀ v H', SR N G F' H' (σ ++ [some v]) (ρ' ++ [o]) → Q v H'
end
abbrev _root_.L2.Cx.en (X : Cx) : En := ⟨X.K, X.w, X.mg⟩
abbrev SE (X : Cx) (W : WX) (e : Expr) (f : M D) : Prop := PE X e (tE X.en W f)
abbrev ST (X : Cx) (W : WX) (e : Expr) (f : M Bool) : Prop := PT X e (tT X.en W f)
abbrev SW (X : Cx) (W : WX) (e : Expr) (f : M Bool) : Prop := PW X e (tT X.en W f)
abbrev SA (X : Cx) (W : WX) (es : List Expr) (f : M (List D)) : Prop := PA X es (tA X.en W f)
abbrev SB (X : Cx) (W : WX) (e : Expr) (f : M Bv) : Prop := PE X e (tB X.en W f)
abbrev SF (X : Cx) (W : WX) (e : Expr) (f : M Sl) : Prop := PE X e (tF X.en W f)

theorem _root_.L2.PE.weak {X : Cx} {e : Expr} {t t' : TE} (h : PE X e t) (w : ∀ σ H Q, t' σ H Q → t σ H Q) : PE X e t' := ⟨fun pins s σ H Q I q => h.run pins s σ H Q I (w σ H Q q)⟩
theorem _root_.L2.PT.weak {X : Cx} {e : Expr} {t t' : TT} (h : PT X e t) (w : ∀ σ H Q, t' σ H Q → t σ H Q) : PT X e t' := ⟨fun pins s σ H Q I q => h.run pins s σ H Q I (w σ H Q q)⟩
theorem _root_.L2.PW.weak {X : Cx} {e : Expr} {t t' : TT} (h : PW X e t) (w : ∀ σ H Q, t' σ H Q → t σ H Q) : PW X e t' := ⟨fun wh pins s σ H Q I q => h.run wh pins s σ H Q I (w σ H Q q)⟩
theorem _root_.L2.PA.weak {X : Cx} {e : List Expr} {t t' : TA} (h : PA X e t) (w : ∀ σ H Q, t' σ H Q → t σ H Q) : PA X e t' := ⟨fun p pins s σ H Q I q => h.run p pins s σ H Q I (w σ H Q q)⟩
theorem _root_.L2.PS.weak {X : Cx} {e : Stmt} {t t' : TS} (h : PS X e t) (w : ∀ σ H Q, t' Q σ H → t Q σ H) : PS X e t' := ⟨fun pins s σ H Q I q => h.run pins s σ H Q I (w σ H Q q)⟩
theorem _root_.L2.PSs.weak {X : Cx} {e : List Stmt} {t t' : TS} (h : PSs X e t) (w : ∀ σ H Q, t' Q σ H → t Q σ H) : PSs X e t' := ⟨fun pins s σ H Q I q => h.run pins s σ H Q I (w σ H Q q)⟩

/-- read a borrowed thing now -/
theorem SR.rd {N : En} {G : Ent} {F0 F H : Hp} {σ : St} {ρ : List Sl} (s : SR N G F H σ ρ) {b : Bv} {v : V} {d : D} (h : BvR N F0 σ v b) (f : Same F0 F) (e : rdB b ρ = some d) : BRep N F H v d := by
  cases b with
  | va d' => cases e; exact .va (Rep.mono f h)
  | sl i =>
    unfold rdB at e
    dsimp only at e
    split at e
    · rename_i t ht
      obtain ⟨v', h1, h2⟩ := s.read ht e
      have : σ[i]? = some (some v) := h
      rw [this] at h1
      cases h1
      exact h2
    · cases e
end L2.Sc
set_option Elab.async false
set_option linter.all false
set_option maxRecDepth 100000
set_option maxHeartbeats 1000000
namespace L2.Sc
open PySem PySem.Spec PyProof.Rows

def nameB (i : Nat) : M Bv := fun ρ => match ρ[i]? with
  | some .un => .stuck
  | some _ => .ok (.sl i) ρ
  | none => .stuck
def nameE (i : Nat) : M D := fun ρ => match ρ[i]? with
  | some (.fr d) => .ok d ρ
  | some (.ol ds) => .ok (.list ds) (ρ.set i (.fr (.list ds)))
  | some (.od kvs) => .ok (.dict kvs) (ρ.set i (.fr (.dict kvs)))
  | _ => .stuck
def cE (d : D) : M D := M.pure d
def bvE (f : M D) : M Bv := f.bind fun d => M.pure (.va d)
def Sl.frz : Sl → Option D
  | .ol ds => some (.list ds)
  | .od kvs => some (.dict kvs)
  | _ => none
def frE (f : M Sl) : M D := f.bind fun o => M.ofO o.frz
def nilA : M (List D) := M.pure []
def consA (f : M D) (g : M (List D)) : M (List D) := f.bind fun d => g.bind fun ds => M.pure (d :: ds)
def nilB : M (List Bv) := M.pure []
def consB (f : M Bv) (g : M (List Bv)) : M (List Bv) := f.bind fun d => g.bind fun ds => M.pure (d :: ds)
def tupE (f : M (List D)) : M D := f.bind fun ds => M.pure (.tuple ds)
def lstF (f : M (List D)) : M Sl := f.bind fun ds => M.pure (.ol ds)
def opR (a b : Bv) (g : D → D → Option D) : M D := fun ρ => match rdB a ρ, rdB b ρ with
  | some x, some y => match g x y with
    | some d => .ok d ρ
    | none => .stuck
  | _, _ => .stuck
def opF (a b : Bv) (g : D → D → Option (List D)) : M Sl := fun ρ => match rdB a ρ, rdB b ρ with
  | some x, some y => match g x y with
    | some d => .ok (.ol d) ρ
    | none => .stuck
  | _, _ => .stuck
def opT (a b : Bv) (g : D → D → Option Bool) : M Bool := fun ρ => match rdB a ρ, rdB b ρ with
  | some x, some y => match g x y with
    | some d => .ok d ρ
    | none => .stuck
  | _, _ => .stuck
def op2 (fa fb : M Bv) (g : D → D → Option D) : M D := fa.bind fun a => fb.bind fun b => opR a b g
def op2F (fa fb : M Bv) (g : D → D → Option (List D)) : M Sl := fa.bind fun a => fb.bind fun b => opF a b g
def op2T (fa fb : M Bv) (g : D → D → Option Bool) : M Bool := fa.bind fun a => fb.bind fun b => opT a b g
def op1 (fa : M D) (g : D → Option D) : M D := fa.bind fun a => M.ofO (g a)
def toT (f : M D) : M Bool := f.bind fun d => match d with
  | .bool b => M.pure b
  | _ => M.fail
def andT (fa fb : M Bool) : M Bool := fa.bind fun c => if c = true then fb else M.pure false
def orT (fa fb : M Bool) : M Bool := fa.bind fun c => if c = true then M.pure true else fb
def notT (fa : M Bool) : M Bool := fa.bind fun c => M.pure (!c)
def andV (fa fb : M D) : M D := fa.bind fun d => match d with
  | .bool true => fb
  | .bool false => M.pure (.bool false)
  | _ => M.fail
def orV (fa fb : M D) : M D := fa.bind fun d => match d with
  | .bool true => M.pure (.bool true)
  | .bool false => fb
  | _ => M.fail
def notV (fa : M D) : M D := fa.bind fun d => match d with
  | .bool b => M.pure (.bool (!b))
  | _ => M.fail
def ifM {α : Type} (c : M Bool) (fa fb : M α) : M α := c.bind fun b => if b = true then fa else fb

def rdBs : List Bv → List Sl → Option (List D)
  | [], _ => some []
  | b :: bs, ρ => match rdB b ρ, rdBs bs ρ with
    | some d, some ds => some (d :: ds)
    | _, _ => none
def callE (fs : M (List Bv)) (g : List D → Option D) : M D := fs.bind fun bs => fun ρ => match rdBs bs ρ with
  | some ds => match g ds with
    | some d => .ok d ρ
    | none => .stuck
  | none => .stuck
def callF (fs : M (List Bv)) (g : List D → Option (List D)) : M Sl := fs.bind fun bs => fun ρ => match rdBs bs ρ with
  | some ds => match g ds with
    | some d => .ok (.ol d) ρ
    | none => .stuck
  | none => .stuck

inductive BvRs (F : Hp) (N : En) (σ : St) : List V → List Bv → Prop
  | nil : BvRs F N σ [] []
  | cons {v vs b bs} : BvR N F σ v b → BvRs F N σ vs bs → BvRs F N σ (v :: vs) (b :: bs)
inductive BReps (N : En) (F H : Hp) : List V → List D → Prop
  | nil : BReps N F H [] []
  | cons {v vs d ds} : BRep N F H v d → BReps N F H vs ds → BReps N F H (v :: vs) (d :: ds)
section
variable (N : En) (W : WX)
def tAn (n : Nat) (f : M (List D)) : TA := fun σ H Q => ∃ G F ρ, SR N G F H σ ρ ∧ RP N W G F σ (f ρ) fun ds _ F' H' => ds.length = n → ∀ vs, Reps N F' vs ds → Q vs H'
def tBs (f : M (List Bv)) : TA := fun σ H Q => ∃ G F ρ, SR N G F H σ ρ ∧ RP N W G F σ (f ρ) fun bs _ F' H' => ∀ vs, BvRs F' N σ vs bs → Q vs H'
end
abbrev SAn (X : Cx) (W : WX) (n : Nat) (es : List Expr) (f : M (List D)) : Prop := PA X es (tAn X.en W n f)
abbrev SBs (X : Cx) (W : WX) (es : List Expr) (f : M (List Bv)) : Prop := PA X es (tBs X.en W f)

theorem BvR.mono {N : En} {F F' : Hp} {σ : St} (h : Same F F') {v : V} {b : Bv} (r : BvR N F σ v b) : BvR N F' σ v b := by
  cases b with
  | va d => exact Rep.mono h r
  | sl i => exact r
theorem BvRs.rd {N : En} {G : Ent} {F0 F H : Hp} {σ : St} {ρ : List Sl} (s : SR N G F H σ ρ) (f : Same F0 F) : ∀ {vs : List V} {bs : List Bv} {ds : List D}, BvRs F0 N σ vs bs → rdBs bs ρ = some ds → BReps N F H vs ds
  | _, _, _, .nil, e => by cases e; exact .nil
  | _, _, _, .cons r t, e => by
    unfold rdBs at e
    split at e
    · rename_i d ds h1 h2
      cases e
      exact .cons (s.rd r f h1) (BvRs.rd s f t h2)
    · cases e

section
variable {X : Cx} {W : WX} {a b c e : Expr} {es : List Expr} {pos : Pos} {n : Nat} {f fa fb : M D} {ga gb gc : M Bv} {ta tb : M Bool} {N : En}

theorem sb_name (i : Nat) {x : Str} (hN : X.N[i]? = some x := by rfl) (hv : Vis X.env.scope x := by first | exact Or.inl rfl | exact Or.inr (Or.inl rfl) | exact Or.inr (Or.inr rfl)) (hd : (x == ("__debug__" : Str)) = false := by decide)
    (hcd : (x == ("__classdict__" : Str)) = false := by decide) : SB X W (.Name x pos) (nameB i) := by
  refine (pe_var hN hv hd hcd).weak ?_
  rintro σ H Q ⟨G, F, ρ, s, h⟩
  unfold nameB at h
  split at h
  · exact h.elim
  · rename_i t nt ht
    have : ∃ d, t.val = some d := by
      cases t with
      | un => exact absurd ht (by simpa using nt)
      | fr d => exact ⟨_, rfl⟩
      | ol d => exact ⟨_, rfl⟩
      | od d => exact ⟨_, rfl⟩
      | io d => exact ⟨_, rfl⟩
    obtain ⟨d, hd⟩ := this
    obtain ⟨v, h1, _⟩ := s.read ht hd
    exact ⟨v, h1, h F H s (Same.refl _) v h1⟩
  · exact h.elim
theorem se_name (i : Nat) {x : Str} (hN : X.N[i]? = some x := by rfl) (hv : Vis X.env.scope x := by first | exact Or.inl rfl | exact Or.inr (Or.inl rfl) | exact Or.inr (Or.inr rfl)) (hd : (x == ("__debug__" : Str)) = false := by decide)
    (hcd : (x == ("__classdict__" : Str)) = false := by decide) : SE X W (.Name x pos) (nameE i) := by
  refine (pe_var hN hv hd hcd).weak ?_
  rintro σ H Q ⟨G, F, ρ, s, h⟩
  unfold nameE at h
  split at h
  · rename_i d hd
    obtain ⟨v, h1, r⟩ := s.fr_at hd
    exact ⟨v, h1, h F H s (Same.refl _) v r⟩
  · rename_i d hd
    obtain ⟨v, F', h1, ff, s', r⟩ := s.freeze (d := .list d) hd rfl (by intro _ z; cases z)
    exact ⟨v, h1, h F' H s' ff v r⟩
  · rename_i d hd
    obtain ⟨v, F', h1, ff, s', r⟩ := s.freeze (d := .dict d) hd rfl (by intro _ z; cases z)
    exact ⟨v, h1, h F' H s' ff v r⟩
  · exact h.elim
theorem tC_weak {v : V} {d : D} (h : PE X e (tC v)) (r : ∀ F, Rep X.en F v d) : SE X W e (cE d) := by
  refine h.weak ?_
  rintro σ H Q ⟨G, F, ρ, s, h⟩
  exact RP.pure h s v (r F)
theorem se_int {i j} : SE X W (.Constant (.int i) j pos) (cE (.int i)) := tC_weak pe_int fun _ => .int i
theorem se_bl {b j} : SE X W (.Constant (.bool b) j pos) (cE (.bool b)) := tC_weak pe_bl fun _ => .bl b
theorem se_non {j} : SE X W (.Constant .none j pos) (cE .none) := tC_weak pe_non fun _ => .non
theorem se_str {x j} : SE X W (.Constant (.str x) j pos) (cE (.str x)) := tC_weak pe_str fun _ => .str x
/-- a module's constant that is an int -/
theorem se_glob {x : Str} {v : V} {u : Value} {d : D} (hg : Gl X x) (hm : X.mg x = some u) (r : RelV v u) (rd : ∀ F, Rep X.en F v d) (hd : (x == ("__debug__" : Str)) = false := by decide) : SE X W (.Name x pos) (cE d) := tC_weak (pe_glob hg hm r hd) rd

theorem sb_se (h : SE X W e f) : SB X W e (bvE f) := by
  refine h.weak ?_
  rintro σ H Q ⟨G, F, ρ, s, q⟩
  exact ⟨G, F, ρ, s, (RP.bind q).mono fun d ρ1 F1 H1 s1 f1 ⟨_, _, h1⟩ v r => RP.pure h1 s1 v r⟩
theorem se_sf {g : M Sl} (h : SF X W e g) : SE X W e (frE g) := by
  refine h.weak ?_
  rintro σ H Q ⟨G, F, ρ, s, q⟩
  refine ⟨G, F, ρ, s, (RP.bind q).mono fun o ρ1 F1 H1 s1 f1 ⟨_, _, h1⟩ v H2 s2 => ?_⟩
  have hl : σ.length = ρ1.length := s1.len
  have core : ∀ d, o.frz = some d → o.val = some d → (∀ ds, o ≠ .io ds) → Q v H2 := by
    intro d e1 e2 nio
    obtain ⟨v', F3, e3, f3, s3, r3⟩ := s2.freeze (i := σ.length) (t := o) (d := d) (by simp [hl]) e2 nio
    have : v' = v := by simpa using e3.symm
    subst this
    have s4 : SR X.en G F3 H2 σ ρ1 := by
      have : (ρ1 ++ [o]).set σ.length (.fr d) = ρ1 ++ [.fr d] := by
        rw [hl, List.set_append_right _ _ (Nat.le_refl _)]; simp
      rw [this] at s3
      exact s3.unpush
    rw [e1] at h1
    exact h1 F3 H2 s4 f3 v' r3
  cases o with
  | ol ds => exact core _ rfl rfl (by intro _ z; cases z)
  | od ds => exact core _ rfl rfl (by intro _ z; cases z)
  | un => exact h1.elim
  | fr d => exact h1.elim
  | io d => exact h1.elim

theorem sa_nil : SAn X W 0 [] nilA := by
  refine pa_nil.weak ?_
  rintro σ H Q ⟨G, F, ρ, s, q⟩
  exact RP.pure q s rfl [] .nil
theorem sa_cons {fr : M (List D)} (ha : SE X W e f) (hr : SAn X W n es fr) (hs : starEach (e :: es) X.env = (false, eval e X.env) :: starEach es X.env := by rfl) : SAn X W (n + 1) (e :: es) (consA f fr) := by
  refine (pa_cons ha hr hs).weak ?_
  rintro σ H Q ⟨G, F, ρ, s, q⟩
  refine ⟨G, F, ρ, s, (RP.bind q).mono fun d ρ1 F1 H1 s1 f1 ⟨_, _, h1⟩ v r => ?_⟩
  refine ⟨G, F1, ρ1, s1, (RP.bind h1).mono fun ds ρ2 F2 H2 s2 f2 ⟨_, _, h2⟩ hl vs rs => ?_⟩
  exact RP.pure h2 s2 (by simp [hl]) (v :: vs) (.cons (r.mono f2) rs)
theorem sbs_nil : SBs X W [] nilB := by
  refine pa_nil.weak ?_
  rintro σ H Q ⟨G, F, ρ, s, q⟩
  exact RP.pure q s [] .nil
theorem sbs_cons {fr : M (List Bv)} (ha : SB X W e ga) (hr : SBs X W es fr) (hs : starEach (e :: es) X.env = (false, eval e X.env) :: starEach es X.env := by rfl) : SBs X W (e :: es) (consB ga fr) := by
  refine (pa_cons ha hr hs).weak ?_
  rintro σ H Q ⟨G, F, ρ, s, q⟩
  refine ⟨G, F, ρ, s, (RP.bind q).mono fun d ρ1 F1 H1 s1 f1 ⟨_, _, h1⟩ v r => ?_⟩
  refine ⟨G, F1, ρ1, s1, (RP.bind h1).mono fun ds ρ2 F2 H2 s2 f2 ⟨_, _, h2⟩ vs rs => ?_⟩
  exact RP.pure h2 s2 (v :: vs) (.cons (r.mono f2) rs)

theorem se_tup {fs : M (List D)} {x1} (h : SAn X W n es fs) (hn : n ≤ sizeLine := by decide) : SE X W (.Tuple es x1 pos) (tupE fs) := by
  refine (pe_tup h).weak ?_
  rintro σ H Q ⟨G, F, ρ, s, q⟩
  refine ⟨G, F, ρ, s, (RP.bind q).mono fun ds ρ1 F1 H1 s1 f1 ⟨_, _, h1⟩ hl vs rs => ⟨by rw [rs.length, hl]; exact hn, fun p hp => ?_⟩⟩
  have x := Ext.one s1.bs.fh (.tup vs) hp
  exact h1 _ _ (s1.ext x) x.ff (.ref p) (.tup (.inl (.inl upd_same)) (rs.mono x.ff))
theorem sf_lst {fs : M (List D)} (h : SAn X W n es fs) (hn : n ≤ sizeLine := by decide) : SF X W (.List es pos) (lstF fs) := by
  refine (pe_lst h).weak ?_
  rintro σ H Q ⟨G, F, ρ, s, q⟩
  refine ⟨G, F, ρ, s, (RP.bind q).mono fun ds ρ1 F1 H1 s1 f1 ⟨_, _, h1⟩ hl vs rs => ⟨by rw [rs.length, hl]; exact hn, fun p hp => ?_⟩⟩
  exact RP.pure h1 s1 (.ref p) _ (s1.push hp rs)

def DOp (N : En) (r : R2) (g : D → D → Option D) : Prop := ∀ (F H : Hp) (x y : V) (a b d : D) (Q : VK), Same F H → BRep N F H x a → BRep N F H y b → g a b = some d →
  (∀ v F' H', Ext F H F' H' → Rep N F' v d → Q v H') → r x y H Q
def DOpF (N : En) (r : R2) (g : D → D → Option (List D)) : Prop := ∀ (F H : Hp) (x y : V) (a b : D) (ds : List D) (Q : VK), Same F H → BRep N F H x a → BRep N F H y b → g a b = some ds →
  (∀ p vs, H p = none → Reps N F vs ds → Q (.ref p) (upd H p (.lst vs))) → r x y H Q
theorem op_core {r : R2} {g : D → D → Option D} (hg : DOp X.en r g) {σ : St} {H : Hp} {Q : VK} {P : D → List Sl → Hp → Hp → Prop} {G : Ent} {F : Hp} {ρ : List Sl} (s : SR X.en G F H σ ρ) (q : RP X.en W G F σ (op2 ga gb g ρ) P)
    (hP : ∀ d ρ F H, P d ρ F H → ∀ v, Rep X.en F v d → Q v H) : tOp r (tB X.en W ga) (tB X.en W gb) σ H Q := by
  refine ⟨G, F, ρ, s, (RP.bind q).mono fun a ρ1 F1 H1 s1 f1 ⟨_, _, h1⟩ v r1 => ?_⟩
  refine ⟨G, F1, ρ1, s1, (RP.bind h1).mono fun b ρ2 F2 H2 s2 f2 ⟨_, _, h2⟩ u r2 => ?_⟩
  unfold opR at h2
  split at h2
  · rename_i x y e1 e2
    split at h2
    · rename_i d e3
      refine hg F2 H2 v u x y d Q s2.bs.fh (s2.rd r1 f2 e1) (s2.rd r2 (Same.refl _) e2) e3 fun w F' H' x' rw' => ?_
      exact hP d ρ2 F' H' (h2 F' H' (s2.ext x') x'.ff) w rw'
    · exact h2.elim
  · exact h2.elim
theorem se_op {op : Operator} {r : R2} {g : D → D → Option D} (ho : OpR X (binaryOp op) r) (hg : DOp X.en r g) (ha : SB X W a ga) (hb : SB X W b gb) : SE X W (.BinOp a op b pos) (op2 ga gb g) := by
  refine (pe_op ho ha hb).weak ?_
  rintro σ H Q ⟨G, F, ρ, s, q⟩
  exact op_core hg s q fun d ρ F H h => h
theorem se_cmp {op : CmpOp} {r : R2} {g : D → D → Option D} (ho : OpR X (compareOp op) r) (hg : DOp X.en r g) (ha : SB X W a ga) (hb : SB X W b gb) (hm : behindInMarks op b = false := by first | exact nomark _ | with_unfolding_all rfl) : SE X W (.Compare a [op] [b] pos) (op2 ga gb g) := by
  refine (pe_cmpR ho ha hb hm).weak ?_
  rintro σ H Q ⟨G, F, ρ, s, q⟩
  exact op_core hg s q fun d ρ F H h => h
theorem st_cmp {op : CmpOp} {r : R2} {g : D → D → Option Bool} (ho : OpR X (compareOp op) r) (hg : DOp X.en r (fun a b => (g a b).map .bool)) (ha : SB X W a ga) (hb : SB X W b gb) (hm : behindInMarks op b = false := by first | exact nomark _ | with_unfolding_all rfl) : ST X W (.Compare a [op] [b] pos) (op2T ga gb g) := by
  refine (pt_cmpR ho ha hb hm).weak ?_
  rintro σ H Q ⟨G, F, ρ, s, q⟩
  refine ⟨G, F, ρ, s, (RP.bind q).mono fun a ρ1 F1 H1 s1 f1 ⟨_, _, h1⟩ v r1 => ?_⟩
  refine ⟨G, F1, ρ1, s1, (RP.bind h1).mono fun b ρ2 F2 H2 s2 f2 ⟨_, _, h2⟩ u r2 => ?_⟩
  unfold opT at h2
  split at h2
  · rename_i x y e1 e2
    split at h2
    · rename_i d e3
      refine hg F2 H2 v u x y (.bool d) _ s2.bs.fh (s2.rd r1 f2 e1) (s2.rd r2 (Same.refl _) e2) (by simp [e3]) fun w F' H' x' rw' => ?_
      cases rw'
      exact ⟨d, rfl, h2 F' H' (s2.ext x') x'.ff⟩
    · exact h2.elim
  · exact h2.elim
theorem sf_op {op : Operator} {r : R2} {g : D → D → Option (List D)} (ho : OpR X (binaryOp op) r) (hg : DOpF X.en r g) (ha : SB X W a ga) (hb : SB X W b gb) : SF X W (.BinOp a op b pos) (op2F ga gb g) := by
  refine (pe_op ho ha hb).weak ?_
  rintro σ H Q ⟨G, F, ρ, s, q⟩
  refine ⟨G, F, ρ, s, (RP.bind q).mono fun a ρ1 F1 H1 s1 f1 ⟨_, _, h1⟩ v r1 => ?_⟩
  refine ⟨G, F1, ρ1, s1, (RP.bind h1).mono fun b ρ2 F2 H2 s2 f2 ⟨_, _, h2⟩ u r2 => ?_⟩
  unfold opF at h2
  split at h2
  · rename_i x y e1 e2
    split at h2
    · rename_i d e3
      refine hg F2 H2 v u x y d Q s2.bs.fh (s2.rd r1 f2 e1) (s2.rd r2 (Same.refl _) e2) e3 fun p vs hp rs => ?_
      exact RP.pure h2 s2 (.ref p) _ (s2.push hp rs)
    · exact h2.elim
  · exact h2.elim
theorem se_un {op : UnaryOp} {r : V → Hp → VK → Prop} {g : D → Option D} (ho : UnR X (unaryOp op) r) (hg : ∀ (F H : Hp) (x : V) (a d : D) (Q : VK), Rep X.en F x a → g a = some d → (∀ v, Rep X.en F v d → Q v H) → r x H Q) (ha : SE X W a fa) :
    SE X W (.UnaryOp op a pos) (op1 fa g) := by
  refine (pe_un ho ha).weak ?_
  rintro σ H Q ⟨G, F, ρ, s, q⟩
  refine ⟨G, F, ρ, s, (RP.bind q).mono fun a ρ1 F1 H1 s1 f1 ⟨_, _, h1⟩ v r1 => ?_⟩
  unfold M.ofO at h1
  split at h1
  · rename_i d e
    exact hg F1 H1 v a d Q r1 e fun w rw' => RP.pure h1 s1 w rw'
  · exact h1.elim
/-- a[b] -/
theorem se_ixr {r : R2} {g : D → D → Option D} (ho : IxR X r) (hg : DOp X.en r g) (ha : SB X W a ga) (hb : SB X W b gb) (hs : PlainIx b := by exact fun _ _ => rfl) : SE X W (.Subscript a b pos) (op2 ga gb g) := by
  refine (pe_ix ho ha hb hs).weak ?_
  rintro σ H Q ⟨G, F, ρ, s, q⟩
  exact op_core hg s q fun d ρ F H h => h
/-- f(e, ..), f a built-in -/
def DCall (N : En) (r : List V → Hp → VK → Prop) (g : List D → Option D) : Prop := ∀ (F H : Hp) (vs : List V) (ds : List D) (d : D) (Q : VK), Same F H → BReps N F H vs ds → g ds = some d →
  (∀ v F' H', Ext F H F' H' → Rep N F' v d → Q v H') → r vs H Q
def DCallF (N : En) (r : List V → Hp → VK → Prop) (g : List D → Option (List D)) : Prop := ∀ (F H : Hp) (vs : List V) (ds es : List D) (Q : VK), Same F H → BReps N F H vs ds → g ds = some es →
  (∀ p ws, H p = none → Reps N F ws es → Q (.ref p) (upd H p (.lst ws))) → r vs H Q
theorem call_core {r : List V → Hp → VK → Prop} {g : List D → Option D} {fs : M (List Bv)} (hg : DCall X.en r g) {σ : St} {H : Hp} {Q : VK} {G : Ent} {F : Hp} {ρ : List Sl} (s : SR X.en G F H σ ρ)
    (q : RP X.en W G F σ (callE fs g ρ) fun d _ F' H' => ∀ v, Rep X.en F' v d → Q v H') : tCB r (tBs X.en W fs) σ H Q := by
  refine ⟨G, F, ρ, s, (RP.bind q).mono fun bs ρ1 F1 H1 s1 f1 ⟨_, _, h1⟩ vs rs => ?_⟩
  split at h1
  · rename_i ds e1
    split at h1
    · rename_i d e2
      refine hg F1 H1 vs ds d Q s1.bs.fh (BvRs.rd s1 (Same.refl _) rs e1) e2 fun w F' H' x' rw' => ?_
      exact h1 F' H' (s1.ext x') x'.ff w rw'
    · exact h1.elim
  · exact h1.elim
theorem callF_core {r : List V → Hp → VK → Prop} {g : List D → Option (List D)} {fs : M (List Bv)} (hg : DCallF X.en r g) {σ : St} {H : Hp} {Q : VK} {G : Ent} {F : Hp} {ρ : List Sl} (s : SR X.en G F H σ ρ)
    (q : RP X.en W G F σ (callF fs g ρ) fun o ρ' F' _ => ∀ v H', SR X.en G F' H' (σ ++ [some v]) (ρ' ++ [o]) → Q v H') : tCB r (tBs X.en W fs) σ H Q := by
  refine ⟨G, F, ρ, s, (RP.bind q).mono fun bs ρ1 F1 H1 s1 f1 ⟨_, _, h1⟩ vs rs => ?_⟩
  split at h1
  · rename_i ds e1
    split at h1
    · rename_i d e2
      refine hg F1 H1 vs ds d Q s1.bs.fh (BvRs.rd s1 (Same.refl _) rs e1) e2 fun p ws hp rw' => ?_
      exact RP.pure h1 s1 (.ref p) _ (s1.push hp rw')
    · exact h1.elim
  · exact h1.elim
theorem se_callB {x : Str} {p : Pos} {id : String} {r : List V → Hp → VK → Prop} {g : List D → Option D} {fs : M (List Bv)} (hc : CallR X (.builtin id) r) (hg : DCall X.en r g) (hgl : Gl X x) (hm : X.mg x = none) (hv : bootBuiltins x = some (.builtin id)) (ha : SBs X W (e :: es) fs)
    (hn : x ≠ "__name__" := by decide) (hdb : (x == ("__debug__" : Str)) = false := by decide)
    (he : starEach (e :: es) X.env = (false, eval e X.env) :: starEach es X.env := by rfl) (hpl : (backTo pos (starEach es X.env)).any (·.1) = false := by rfl) : SE X W (.Call (.Name x p) (e :: es) [] pos) (callE fs g) := by
  refine (pe_callB hc hgl hm hv ha hn hdb he hpl).weak ?_
  rintro σ H Q ⟨G, F, ρ, s, q⟩
  exact call_core hg s q
theorem sf_callB {x : Str} {p : Pos} {id : String} {r : List V → Hp → VK → Prop} {g : List D → Option (List D)} {fs : M (List Bv)} (hc : CallR X (.builtin id) r) (hg : DCallF X.en r g) (hgl : Gl X x) (hm : X.mg x = none) (hv : bootBuiltins x = some (.builtin id)) (ha : SBs X W (e :: es) fs)
    (hn : x ≠ "__name__" := by decide) (hdb : (x == ("__debug__" : Str)) = false := by decide)
    (he : starEach (e :: es) X.env = (false, eval e X.env) :: starEach es X.env := by rfl) (hpl : (backTo pos (starEach es X.env)).any (·.1) = false := by rfl) : SF X W (.Call (.Name x p) (e :: es) [] pos) (callF fs g) := by
  refine (pe_callB hc hgl hm hv ha hn hdb he hpl).weak ?_
  rintro σ H Q ⟨G, F, ρ, s, q⟩
  exact callF_core hg s q
theorem se_callTy {x : Str} {p : Pos} {T : String} {r : List V → Hp → VK → Prop} {g : List D → Option D} {fs : M (List Bv)} (hc : CallR X (.type T) r) (hg : DCall X.en r g) (hgl : Gl X x) (hm : X.mg x = none) (hv : bootBuiltins x = some (.type T)) (ha : SBs X W (e :: es) fs)
    (hn : x ≠ "__name__" := by decide) (hdb : (x == ("__debug__" : Str)) = false := by decide)
    (he : starEach (e :: es) X.env = (false, eval e X.env) :: starEach es X.env := by rfl) (hpl : (backTo pos (starEach es X.env)).any (·.1) = false := by rfl) : SE X W (.Call (.Name x p) (e :: es) [] pos) (callE fs g) := by
  refine (pe_callTy hc hgl hm hv ha hn hdb he hpl).weak ?_
  rintro σ H Q ⟨G, F, ρ, s, q⟩
  exact call_core hg s q
theorem sf_callTy {x : Str} {p : Pos} {T : String} {r : List V → Hp → VK → Prop} {g : List D → Option (List D)} {fs : M (List Bv)} (hc : CallR X (.type T) r) (hg : DCallF X.en r g) (hgl : Gl X x) (hm : X.mg x = none) (hv : bootBuiltins x = some (.type T)) (ha : SBs X W (e :: es) fs)
    (hn : x ≠ "__name__" := by decide) (hdb : (x == ("__debug__" : Str)) = false := by decide)
    (he : starEach (e :: es) X.env = (false, eval e X.env) :: starEach es X.env := by rfl) (hpl : (backTo pos (starEach es X.env)).any (·.1) = false := by rfl) : SF X W (.Call (.Name x p) (e :: es) [] pos) (callF fs g) := by
  refine (pe_callTy hc hgl hm hv ha hn hdb he hpl).weak ?_
  rintro σ H Q ⟨G, F, ρ, s, q⟩
  exact callF_core hg s q

theorem st_se (h : SE X W e f) (he : ∀ whole, isTrue e X.env whole = (do let v ← whole; standAt e.pos; holding [v] (truthy v)) := by intro _; rfl) : ST X W e (toT f) := by
  refine (pt_val h he).weak ?_
  rintro σ H Q ⟨G, F, ρ, s, q⟩
  refine ⟨G, F, ρ, s, (RP.bind q).mono fun d ρ1 F1 H1 s1 f1 ⟨_, _, h1⟩ v r => ?_⟩
  cases d with
  | bool b => cases r; exact ⟨b, rfl, RP.pure h1 s1⟩
  | none => exact h1.elim
  | int i => exact h1.elim
  | str i => exact h1.elim
  | list i => exact h1.elim
  | tuple i => exact h1.elim
  | dict i => exact h1.elim
theorem sw_and1 (ha : ST X W a ta) : SW X W (.BoolOp .And [a] pos) ta := pw_and1 ha
theorem sw_or1 (ha : ST X W a ta) : SW X W (.BoolOp .Or [a] pos) ta := pw_or1 ha
theorem sw_and {rest : List Expr} (ha : ST X W a ta) (hb : SW X W (.BoolOp .And (b :: rest) pos) tb) : SW X W (.BoolOp .And (a :: b :: rest) pos) (andT ta tb) := by
  refine (pw_and ha hb).weak ?_
  rintro σ H Q ⟨G, F, ρ, s, q⟩
  refine ⟨G, F, ρ, s, (RP.bind q).mono fun c ρ1 F1 H1 s1 f1 ⟨_, _, h1⟩ => ?_⟩
  split at h1
  · rename_i hc; rw [if_pos hc]; exact ⟨G, F1, ρ1, s1, h1⟩
  · rename_i hc; rw [if_neg hc]; exact RP.pure h1 s1
theorem sw_or {rest : List Expr} (ha : ST X W a ta) (hb : SW X W (.BoolOp .Or (b :: rest) pos) tb) : SW X W (.BoolOp .Or (a :: b :: rest) pos) (orT ta tb) := by
  refine (pw_or ha hb).weak ?_
  rintro σ H Q ⟨G, F, ρ, s, q⟩
  refine ⟨G, F, ρ, s, (RP.bind q).mono fun c ρ1 F1 H1 s1 f1 ⟨_, _, h1⟩ => ?_⟩
  split at h1
  · rename_i hc; rw [if_pos hc]; exact RP.pure h1 s1
  · rename_i hc; rw [if_neg hc]; exact ⟨G, F1, ρ1, s1, h1⟩
theorem st_w (h : SW X W e ta) : ST X W e ta := h.pt
theorem st_not (ha : ST X W a ta) : ST X W (.UnaryOp .Not a pos) (notT ta) := by
  refine (pt_not ha).weak ?_
  rintro σ H Q ⟨G, F, ρ, s, q⟩
  exact ⟨G, F, ρ, s, (RP.bind q).mono fun c ρ1 F1 H1 s1 f1 ⟨_, _, h1⟩ => RP.pure h1 s1⟩
theorem se_one {op} (h : SE X W a fa) : SE X W (.BoolOp op [a] pos) fa := pe_one h
theorem se_and {rest : List Expr} (ha : SE X W a fa) (hb : SE X W (.BoolOp .And (b :: rest) pos) fb) : SE X W (.BoolOp .And (a :: b :: rest) pos) (andV fa fb) := by
  refine (pe_and ha hb).weak ?_
  rintro σ H Q ⟨G, F, ρ, s, q⟩
  refine ⟨G, F, ρ, s, (RP.bind q).mono fun d ρ1 F1 H1 s1 f1 ⟨_, _, h1⟩ v r => ?_⟩
  cases d with
  | bool b =>
    cases r
    refine ⟨b, rfl, ?_⟩
    cases b with
    | true => rw [if_pos rfl]; exact ⟨G, F1, ρ1, s1, h1⟩
    | false => rw [if_neg (by decide)]; exact RP.pure h1 s1 (.bl false) (.bl false)
  | none => exact h1.elim
  | int i => exact h1.elim
  | str i => exact h1.elim
  | list i => exact h1.elim
  | tuple i => exact h1.elim
  | dict i => exact h1.elim
theorem se_or {rest : List Expr} (ha : SE X W a fa) (hb : SE X W (.BoolOp .Or (b :: rest) pos) fb) : SE X W (.BoolOp .Or (a :: b :: rest) pos) (orV fa fb) := by
  refine (pe_or ha hb).weak ?_
  rintro σ H Q ⟨G, F, ρ, s, q⟩
  refine ⟨G, F, ρ, s, (RP.bind q).mono fun d ρ1 F1 H1 s1 f1 ⟨_, _, h1⟩ v r => ?_⟩
  cases d with
  | bool b =>
    cases r
    refine ⟨b, rfl, ?_⟩
    cases b with
    | true => rw [if_pos rfl]; exact RP.pure h1 s1 (.bl true) (.bl true)
    | false => rw [if_neg (by decide)]; exact ⟨G, F1, ρ1, s1, h1⟩
  | none => exact h1.elim
  | int i => exact h1.elim
  | str i => exact h1.elim
  | list i => exact h1.elim
  | tuple i => exact h1.elim
  | dict i => exact h1.elim
theorem se_not (ha : SE X W a fa) : SE X W (.UnaryOp .Not a pos) (notV fa) := by
  refine (pe_not ha).weak ?_
  rintro σ H Q ⟨G, F, ρ, s, q⟩
  refine ⟨G, F, ρ, s, (RP.bind q).mono fun d ρ1 F1 H1 s1 f1 ⟨_, _, h1⟩ v r => ?_⟩
  cases d with
  | bool b => cases r; exact ⟨b, rfl, RP.pure h1 s1 _ (.bl _)⟩
  | none => exact h1.elim
  | int i => exact h1.elim
  | str i => exact h1.elim
  | list i => exact h1.elim
  | tuple i => exact h1.elim
  | dict i => exact h1.elim
theorem se_if (hc : ST X W c ta) (ha : SE X W a fa) (hb : SE X W b fb) : SE X W (.IfExp c a b pos) (ifM ta fa fb) := by
  refine (pe_ifExp hc ha hb).weak ?_
  rintro σ H Q ⟨G, F, ρ, s, q⟩
  refine ⟨G, F, ρ, s, (RP.bind q).mono fun c ρ1 F1 H1 s1 f1 ⟨_, _, h1⟩ => ?_⟩
  split at h1
  · rename_i hc; rw [if_pos hc]; exact ⟨G, F1, ρ1, s1, h1⟩
  · rename_i hc; rw [if_neg hc]; exact ⟨G, F1, ρ1, s1, h1⟩
theorem sb_if (hc : ST X W c ta) (ha : SB X W a ga) (hb : SB X W b gb) : SB X W (.IfExp c a b pos) (ifM ta ga gb) := by
  refine (pe_ifExp hc ha hb).weak ?_
  rintro σ H Q ⟨G, F, ρ, s, q⟩
  refine ⟨G, F, ρ, s, (RP.bind q).mono fun c ρ1 F1 H1 s1 f1 ⟨_, _, h1⟩ => ?_⟩
  split at h1
  · rename_i hc; rw [if_pos hc]; exact ⟨G, F1, ρ1, s1, h1⟩
  · rename_i hc; rw [if_neg hc]; exact ⟨G, F1, ρ1, s1, h1⟩
theorem sf_if {fa fb : M Sl} (hc : ST X W c ta) (ha : SF X W a fa) (hb : SF X W b fb) : SF X W (.IfExp c a b pos) (ifM ta fa fb) := by
  refine (pe_ifExp hc ha hb).weak ?_
  rintro σ H Q ⟨G, F, ρ, s, q⟩
  refine ⟨G, F, ρ, s, (RP.bind q).mono fun c ρ1 F1 H1 s1 f1 ⟨_, _, h1⟩ => ?_⟩
  split at h1
  · rename_i hc; rw [if_pos hc]; exact ⟨G, F1, ρ1, s1, h1⟩
  · rename_i hc; rw [if_neg hc]; exact ⟨G, F1, ρ1, s1, h1⟩
end
end L2.Sc
set_option Elab.async false
set_option linter.all false
set_option maxRecDepth 100000
set_option maxHeartbeats 1000000
namespace L2.Sc
open PySem PySem.Spec PyProof.Rows

inductive Fl where
  | nx (ρ : List Sl)
  | rt (d : D) (ρ : List Sl)
  | bk (ρ : List Sl)
  | ct (ρ : List Sl)
  | er (e : Ex) (ρ : List Sl)
  | stuck
abbrev MS := List Sl → Fl
def Res.st {α : Type} (r : Res α) (g : α → MS) : Fl := match r with
  | .ok a ρ => g a ρ
  | .err e ρ => .er e ρ
  | .stuck => .stuck
def M.st {α : Type} (f : M α) (g : α → MS) : MS := fun ρ => (f ρ).st g
def Fl.seq (r : Fl) (g : MS) : Fl := match r with
  | .nx ρ => g ρ
  | r => r
def Fl.turn (r : Fl) (g : MS) : Fl := match r with
  | .nx ρ => g ρ
  | .ct ρ => g ρ
  | .bk ρ => .nx ρ
  | .rt d ρ => .rt d ρ
  | .er e ρ => .er e ρ
  | .stuck => .stuck

def FP (N : En) (W : WX) (G : Ent) (F : Hp) (r : Fl) (D : Ends) : Prop := match r with
  | .nx ρ => ∀ F' H' σ', SR N G F' H' σ' ρ → Same F F' → D.nx σ' H'
  | .rt d ρ => ∀ F' H' σ' v, SR N G F' H' σ' ρ → Same F F' → Rep N F' v d → D.rt v H'
  | .bk ρ => ∀ F' H' σ', SR N G F' H' σ' ρ → Same F F' → D.bk σ' H'
  | .ct ρ => ∀ F' H' σ', SR N G F' H' σ' ρ → Same F F' → D.ct σ' H'
  | .er e ρ => ∀ cls d F' H' σ', SR N G F' H' σ' ρ → Same F F' → ExR N F' H' cls d e → W cls d σ' H'
  | .stuck => False
def tS (N : En) (W : WX) (f : MS) : TS := fun D σ H => ∃ G F ρ, SR N G F H σ ρ ∧ FP N W G F (f ρ) D
abbrev SS (X : Cx) (W : WX) (st : Stmt) (f : MS) : Prop := PS X st (tS X.en W f)
abbrev SSs (X : Cx) (W : WX) (st : List Stmt) (f : MS) : Prop := PSs X st (tS X.en W f)

section
variable {N : En} {W : WX} {G : Ent} {F F' : Hp} {σ : St} {α : Type}
theorem FP.later {r : Fl} {D : Ends} (h : FP N W G F r D) (f : Same F F') : FP N W G F' r D := by
  cases r with
  | nx ρ => exact fun F2 H2 σ2 s f2 => h F2 H2 σ2 s (f.trans f2)
  | rt d ρ => exact fun F2 H2 σ2 v s f2 => h F2 H2 σ2 v s (f.trans f2)
  | bk ρ => exact fun F2 H2 σ2 s f2 => h F2 H2 σ2 s (f.trans f2)
  | ct ρ => exact fun F2 H2 σ2 s f2 => h F2 H2 σ2 s (f.trans f2)
  | er e ρ => exact fun cls d F2 H2 σ2 s f2 => h cls d F2 H2 σ2 s (f.trans f2)
  | stuck => exact h
theorem FP.of {r : Res α} {g : α → MS} {D : Ends} (h : FP N W G F (r.st g) D) : RP N W G F σ r fun a ρ F' H' => FP N W G F' (g a ρ) D := by
  cases r with
  | ok a ρ => exact fun F' H' s f => FP.later h f
  | err e ρ => exact fun cls d F' H' s f x => h cls d F' H' σ s f x
  | stuck => exact h
theorem FP.seq {r : Fl} {g : MS} {D : Ends} (h : FP N W G F (r.seq g) D) : FP N W G F r { D with nx := tS N W g D } := by
  cases r with
  | nx ρ => exact fun F' H' σ' s f => ⟨G, F', ρ, s, FP.later h f⟩
  | rt d ρ => exact h
  | bk ρ => exact h
  | ct ρ => exact h
  | er e ρ => exact h
  | stuck => exact h
theorem FP.turn {r : Fl} {g : MS} {D : Ends} {Nn : St → Hp → Prop} (h : FP N W G F (r.turn g) D) (hN : ∀ F' H' σ' ρ', SR N G F' H' σ' ρ' → Same F F' → FP N W G F' (g ρ') D → Nn σ' H') :
    FP N W G F r { D with nx := Nn, ct := Nn, bk := D.nx } := by
  cases r with
  | nx ρ => exact fun F' H' σ' s f => hN F' H' σ' ρ s f (FP.later h f)
  | rt d ρ => exact h
  | bk ρ => exact h
  | ct ρ => exact fun F' H' σ' s f => hN F' H' σ' ρ s f (FP.later h f)
  | er e ρ => exact h
  | stuck => exact h
theorem FP.nxt {ρ : List Sl} {H : Hp} {D : Ends} (h : FP N W G F (.nx ρ) D) (s : SR N G F H σ ρ) : D.nx σ H := h F H σ s (Same.refl _)
end

def skipS : MS := fun ρ => .nx ρ
def seqS (f g : MS) : MS := fun ρ => (f ρ).seq g
def dropS (f : M D) : MS := f.st fun _ ρ => .nx ρ
def retS (f : M D) : MS := f.st fun d ρ => .rt d ρ
def retN : MS := fun ρ => .rt .none ρ
def ifS (c : M Bool) (a b : MS) : MS := c.st fun t => if t = true then a else b
def setS (i : Nat) (f : M D) : MS := f.st fun d ρ => .nx (ρ.set i (.fr d))
def setF (i : Nat) (f : M Sl) : MS := f.st fun o ρ => .nx (ρ.set i o)
def brkS : MS := fun ρ => .bk ρ
def contS : MS := fun ρ => .ct ρ
/-- x.append(e) -/
def appS (i : Nat) (f : M D) : MS := fun ρ0 => match ρ0[i]?.bind Sl.lget with
  | none => .stuck
  | some _ => f.st (fun d ρ => match ρ[i]? with
    | some t => match t.lget with
      | some ds => if ds.length < sizeLine then .nx (ρ.set i (t.lput (ds ++ [d]))) else .stuck
      | none => .stuck
    | none => .stuck) ρ0
/-- x[e] = f -/
def putS (i : Nat) (f : M D) (e : M D) : MS := f.st fun d ρ1 => match ρ1[i]?.bind Sl.lget with
  | none => .stuck
  | some _ => e.st (fun k ρ => match ρ[i]?, k with
    | some t, .int j => match t.lget with
      | some ds => match ixN ds.length j with
        | some n => .nx (ρ.set i (t.lput (ds.set n d)))
        | none => .stuck
      | none => .stuck
    | _, _ => .stuck) ρ1
/-- x += e, ints -/
def augS (i : Nat) (f : M D) (g : Int → Int → Int) : MS := fun ρ0 => match ρ0[i]? with
  | some (.fr (.int a)) => f.st (fun d ρ => match d with
    | .int b => .nx (ρ.set i (.fr (.int (g a b))))
    | _ => .stuck) ρ0
  | _ => .stuck

abbrev TgF := D → List Sl → Option (List Sl)
def nameG (i : Nat) : TgF := fun d ρ => some (ρ.set i (.fr d))
def nilG : List D → List Sl → Option (List Sl)
  | [], ρ => some ρ
  | _ :: _, _ => none
def consG (g : TgF) (gs : List D → List Sl → Option (List Sl)) : List D → List Sl → Option (List Sl)
  | [], _ => none
  | d :: ds, ρ => match g d ρ with
    | some ρ1 => gs ds ρ1
    | none => none
def tupG (n : Nat) (gs : List D → List Sl → Option (List Sl)) : TgF := fun d ρ => match d with
  | .tuple ds => if ds.length = n then gs ds ρ else none
  | _ => none
def asgS (f : M D) (g : TgF) : MS := f.st fun d ρ => match g d ρ with
  | some ρ1 => .nx ρ1
  | none => .stuck
def forL (g : TgF) (b : MS) : List D → MS
  | [], ρ => .nx ρ
  | d :: ds, ρ => match g d ρ with
    | none => .stuck
    | some ρ1 => (b ρ1).turn (forL g b ds)
def forS (fi : M (List D)) (g : TgF) (b : MS) : MS := fi.st fun ds => forL g b ds
def whileN (c : M Bool) (b : MS) : Nat → MS
  | 0, _ => .stuck
  | n + 1, ρ => (c ρ).st (fun t ρ1 => if t = true then (b ρ1).turn (whileN c b n) else .nx ρ1)
open Classical in
noncomputable def whileS (c : M Bool) (b : MS) : MS := fun ρ => if h : ∃ n, whileN c b n ρ ≠ .stuck then whileN c b (Classical.choose h) ρ else .stuck

theorem whileN_mono (c : M Bool) (b : MS) : ∀ n ρ, whileN c b n ρ ≠ .stuck → whileN c b (n + 1) ρ = whileN c b n ρ
  | 0, ρ, h => absurd rfl h
  | n + 1, ρ, h => by
    unfold whileN at h ⊢
    cases e : c ρ with
    | err x ρ1 => rfl
    | stuck => rfl
    | ok t ρ1 =>
      rw [e] at h
      show (if t = true then (b ρ1).turn (whileN c b (n + 1)) else Fl.nx ρ1) = (if t = true then (b ρ1).turn (whileN c b n) else Fl.nx ρ1)
      have h : (if t = true then (b ρ1).turn (whileN c b n) else Fl.nx ρ1) ≠ .stuck := h
      cases t with
      | false => rfl
      | true =>
        rw [if_pos rfl] at h ⊢
        rw [if_pos rfl]
        cases e2 : b ρ1 with
        | nx ρ2 => rw [e2] at h; exact whileN_mono c b n ρ2 h
        | ct ρ2 => rw [e2] at h; exact whileN_mono c b n ρ2 h
        | bk ρ2 => rfl
        | rt d ρ2 => rfl
        | er d ρ2 => rfl
        | stuck => rfl
theorem whileN_le (c : M Bool) (b : MS) {n m : Nat} {ρ : List Sl} (h : whileN c b n ρ ≠ .stuck) (l : n ≤ m) : whileN c b m ρ = whileN c b n ρ := by
  induction l with
  | refl => rfl
  | step l ih => rw [whileN_mono c b _ ρ (by rw [ih]; exact h), ih]
theorem whileS_of {c : M Bool} {b : MS} {n : Nat} {ρ : List Sl} (h : whileN c b n ρ ≠ .stuck) : whileS c b ρ = whileN c b n ρ := by
  have ex : ∃ n, whileN c b n ρ ≠ .stuck := ⟨n, h⟩
  unfold whileS
  rw [dif_pos ex]
  have h2 := Classical.choose_spec ex
  rcases Nat.le_total n (Classical.choose ex) with l | l
  · exact whileN_le c b h l
  · exact (whileN_le c b h2 l).symm
theorem whileS_eq (c : M Bool) (b : MS) (ρ : List Sl) : whileS c b ρ = (c ρ).st (fun t ρ1 => if t = true then (b ρ1).turn (whileS c b) else .nx ρ1) := by
  by_cases ex : ∃ n, whileN c b n ρ ≠ .stuck
  · obtain ⟨n, h⟩ := ex
    rw [whileS_of h]
    cases n with
    | zero => exact absurd rfl h
    | succ n =>
      unfold whileN at h ⊢
      cases e : c ρ with
      | err x ρ1 => rfl
      | stuck => rfl
      | ok t ρ1 =>
        rw [e] at h
        have h : (if t = true then (b ρ1).turn (whileN c b n) else Fl.nx ρ1) ≠ .stuck := h
        show (if t = true then (b ρ1).turn (whileN c b n) else Fl.nx ρ1) = (if t = true then (b ρ1).turn (whileS c b) else Fl.nx ρ1)
        cases t with
        | false => rfl
        | true =>
          rw [if_pos rfl] at h ⊢
          rw [if_pos rfl]
          cases e2 : b ρ1 with
          | nx ρ2 => rw [e2] at h; exact (whileS_of h).symm
          | ct ρ2 => rw [e2] at h; exact (whileS_of h).symm
          | bk ρ2 => rfl
          | rt d ρ2 => rfl
          | er d ρ2 => rfl
          | stuck => rfl
  · have no : ∀ n, whileN c b n ρ = .stuck := fun n => Classical.byContradiction fun z => ex ⟨n, z⟩
    have l : whileS c b ρ = .stuck := by unfold whileS; rw [dif_neg ex]
    rw [l]
    have one := no 1
    unfold whileN at one
    cases e : c ρ with
    | err x ρ1 => rw [e] at one; cases one
    | stuck => rfl
    | ok t ρ1 =>
      show Fl.stuck = (if t = true then (b ρ1).turn (whileS c b) else Fl.nx ρ1)
      cases t with
      | false => rw [e] at one; cases one
      | true =>
        rw [if_pos rfl]
        have all : ∀ n, (b ρ1).turn (whileN c b n) = .stuck := fun n => by
          have := no (n + 1)
          unfold whileN at this
          rw [e] at this
          exact this
        cases e2 : b ρ1 with
        | nx ρ2 =>
          rw [e2] at all
          show Fl.stuck = whileS c b ρ2
          unfold whileS
          rw [dif_neg (fun ⟨n, h⟩ => h (all n))]
        | ct ρ2 =>
          rw [e2] at all
          show Fl.stuck = whileS c b ρ2
          unfold whileS
          rw [dif_neg (fun ⟨n, h⟩ => h (all n))]
        | bk ρ2 => rw [e2] at all; exact (all 0).symm
        | rt d ρ2 => rw [e2] at all; exact (all 0).symm
        | er d ρ2 => rw [e2] at all; exact (all 0).symm
        | stuck => rfl

def tG (N : En) (is : List Nat) (g : TgF) : TG := fun v σ H Q => ∃ G F ρ d ρ', SR N G F H σ ρ ∧ Rep N F v d ∧ g d ρ = some ρ' ∧
  ∀ σ', SR N G F H σ' ρ' → (∀ j, j ∉ is → σ'[j]? = σ[j]?) → σ'.length = σ.length → Q σ' H
def tGs (N : En) (is : List Nat) (g : List D → List Sl → Option (List Sl)) : TGs := fun vs σ H Q => ∃ G F ρ ds ρ', SR N G F H σ ρ ∧ Reps N F vs ds ∧ g ds ρ = some ρ' ∧
  ∀ σ', SR N G F H σ' ρ' → (∀ j, j ∉ is → σ'[j]? = σ[j]?) → σ'.length = σ.length → Q σ' H
abbrev SG (X : Cx) (is : List Nat) (e : Expr) (g : TgF) : Prop := PG X e (tG X.en is g)
abbrev SGs (X : Cx) (is : List Nat) (e : List Expr) (g : List D → List Sl → Option (List Sl)) : Prop := PGs X e (tGs X.en is g)
theorem _root_.L2.PG.weak {X : Cx} {e : Expr} {t t' : TG} (h : PG X e t) (w : ∀ v σ H Q, t' v σ H Q → t v σ H Q) : PG X e t' := ⟨fun pins s σ H v u Q I r q => h.run pins s σ H v u Q I r (w v σ H Q q)⟩
theorem _root_.L2.PGs.weak {X : Cx} {e : List Expr} {t t' : TGs} (h : PGs X e t) (w : ∀ v σ H Q, t' v σ H Q → t v σ H Q) : PGs X e t' := ⟨fun pins s σ H v u Q I r q => h.run pins s σ H v u Q I r (w v σ H Q q)⟩
section
variable {X : Cx} {pos : Pos}
theorem sg_name {i : Nat} {x : Str} (hN : X.N.Nodup) (hi : X.N[i]? = some x := by rfl) (hx : Loc X.env.scope x := by first | exact .inl rfl | exact .inr rfl) (hf : X.fn x = true ∨ X.env.scope.names.lookup x = some .local := by first | exact .inl rfl | exact .inr rfl) : SG X [i] (.Name x pos) (nameG i) := by
  refine (pg_name hN hi hx hf).weak ?_
  rintro v σ H Q ⟨G, F, ρ, d, ρ', s, r, e, q⟩
  cases e
  refine q _ (s.set_fr r) (fun j hj => ?_) (by simp)
  rw [List.getElem?_set_ne (by simpa using Ne.symm (by simpa using hj))]
theorem sgs_nil : SGs X [] [] nilG := by
  refine pgs_nil.weak ?_
  rintro vs σ H Q ⟨G, F, ρ, ds, ρ', s, r, e, q⟩
  cases r with
  | nil => cases e; exact ⟨rfl, q σ s (fun _ _ => rfl) rfl⟩
  | cons a b => cases e
theorem sgs_cons {e : Expr} {es : List Expr} {is js : List Nat} {g : TgF} {gs : List D → List Sl → Option (List Sl)} (h1 : SG X is e g) (h2 : SGs X js es gs)
    (hs : (assignEach (e :: es) X.env).map (·.2) = assign e X.env :: (assignEach es X.env).map (·.2) := by rfl) : SGs X (is ++ js) (e :: es) (consG g gs) := by
  refine (pgs_cons h1 h2 hs).weak ?_
  rintro vs σ H Q ⟨G, F, ρ, ds, ρ', s, r, e, q⟩
  cases r with
  | nil => cases e
  | @cons v vs d ds a b =>
    cases e1 : g d ρ with
    | none => rw [consG, e1] at e; cases e
    | some ρ1 =>
      rw [consG, e1] at e
      refine ⟨v, vs, rfl, G, F, ρ, d, ρ1, s, a, e1, fun σ1 s1 k1 l1 => ?_⟩
      refine ⟨G, F, ρ1, ds, ρ', s1, b, e, fun σ2 s2 k2 l2 => ?_⟩
      refine q σ2 s2 (fun j hj => ?_) (l2.trans l1)
      simp only [List.mem_append, not_or] at hj
      rw [k2 j hj.2, k1 j hj.1]
theorem sg_tup {es : List Expr} {k n : Nat} {is : List Nat} {gs : List D → List Sl → Option (List Sl)} (hc : X.calm = true) (h : SGs X is es gs)
    (hn : (assignEach es X.env).length = n := by rfl) (hst : (assignEach es X.env).findIdx? (·.1) = none := by rfl) : SG X is (.Tuple es k pos) (tupG n gs) := by
  refine (pg_tup (n := n) hc h hn hst).weak ?_
  rintro v σ H Q ⟨G, F, ρ, d, ρ', s, r, e, q⟩
  cases r with
  | @tup a vs ds hs hr =>
    unfold tupG at e
    dsimp only at e
    split at e
    · rename_i hl
      exact ⟨a, vs, rfl, SqT_mono s.bs.fh hs, by rw [hr.length, hl], G, F, ρ, ds, ρ', s, hr, e, q⟩
    · cases e
  | _ => cases e
end

section
variable {X : Cx} {W : WX} {st : Stmt} {rest : List Stmt} {a b c e : Expr} {pos : Pos} {f g : MS} {fe : M D} {ff : M Sl} {ft : M Bool}
theorem sss_nil : SSs X W [] skipS := by
  refine pss_nil.weak ?_
  rintro σ H D ⟨G, F, ρ, s, q⟩
  exact FP.nxt q s
theorem sss_cons (h1 : SS X W st f) (h2 : SSs X W rest g) : SSs X W (st :: rest) (seqS f g) := by
  refine (pss_cons h1 h2).weak ?_
  rintro σ H D ⟨G, F, ρ, s, q⟩
  exact ⟨G, F, ρ, s, FP.seq q⟩
theorem sss_one (h1 : SS X W st f) : SSs X W [st] f := pss_one h1
theorem ss_expr (he : SE X W e fe) (hs : swapsWith e none pos.line X.env = pure false := by rfl) : SS X W (.Expr e pos) (dropS fe) := by
  refine (ps_expr he hs).weak ?_
  rintro σ H D ⟨G, F, ρ, s, q⟩
  exact ⟨G, F, ρ, s, (FP.of q).mono fun d ρ1 F1 H1 s1 f1 h1 v r => FP.nxt h1 s1⟩
theorem ss_ret (he : SE X W e fe) : SS X W (.Return (some e) pos) (retS fe) := by
  refine (ps_ret he).weak ?_
  rintro σ H D ⟨G, F, ρ, s, q⟩
  exact ⟨G, F, ρ, s, (FP.of q).mono fun d ρ1 F1 H1 s1 f1 h1 v r => h1 F1 H1 σ v s1 (Same.refl _) r⟩
theorem ss_retN : SS X W (.Return none pos) retN := by
  refine ps_retN.weak ?_
  rintro σ H D ⟨G, F, ρ, s, q⟩
  exact q F H σ .non s (Same.refl _) .non
theorem ss_brk : SS X W (.Break pos) brkS := by
  refine ps_break.weak ?_
  rintro σ H D ⟨G, F, ρ, s, q⟩
  exact q F H σ s (Same.refl _)
theorem ss_if {sa sb : List Stmt} (hc : ST X W c ft) (ha : SSs X W sa f) (hb : SSs X W sb g) : SS X W (.If c sa sb pos) (ifS ft f g) := by
  refine (ps_if hc ha hb).weak ?_
  rintro σ H D ⟨G, F, ρ, s, q⟩
  refine ⟨G, F, ρ, s, (FP.of q).mono fun t ρ1 F1 H1 s1 f1 h1 => ?_⟩
  split at h1
  · rename_i hc; rw [if_pos hc]; exact ⟨G, F1, ρ1, s1, h1⟩
  · rename_i hc; rw [if_neg hc]; exact ⟨G, F1, ρ1, s1, h1⟩
theorem ss_set {i : Nat} {x : Str} {pos' : Pos} (hN : X.N.Nodup) (he : SE X W e fe) (hi : X.N[i]? = some x := by rfl) (hx : Loc X.env.scope x := by first | exact .inl rfl | exact .inr rfl) (hs : swapsWith e (some (.Name x pos')) pos.line X.env = pure false := by rfl)
    (hf : X.fn x = true ∨ X.env.scope.names.lookup x = some .local := by first | exact .inl rfl | exact .inr rfl) : SS X W (.Assign [.Name x pos'] e pos) (setS i fe) := by
  refine (ps_set hN hi hx he hs hf).weak ?_
  rintro σ H D ⟨G, F, ρ, s, q⟩
  exact ⟨G, F, ρ, s, (FP.of q).mono fun d ρ1 F1 H1 s1 f1 h1 v r => FP.nxt h1 (s1.set_fr r)⟩
theorem ss_setF {i : Nat} {x : Str} {pos' : Pos} (hN : X.N.Nodup) (he : SF X W e ff) (hi : X.N[i]? = some x := by rfl) (hx : Loc X.env.scope x := by first | exact .inl rfl | exact .inr rfl) (hs : swapsWith e (some (.Name x pos')) pos.line X.env = pure false := by rfl)
    (hf : X.fn x = true ∨ X.env.scope.names.lookup x = some .local := by first | exact .inl rfl | exact .inr rfl) : SS X W (.Assign [.Name x pos'] e pos) (setF i ff) := by
  refine (ps_set hN hi hx he hs hf).weak ?_
  rintro σ H D ⟨G, F, ρ, s, q⟩
  exact ⟨G, F, ρ, s, (FP.of q).mono fun o ρ1 F1 H1 s1 f1 h1 v H2 s2 => FP.nxt h1 (s2.move i)⟩
/-- a pattern of names -/
theorem ss_asg {tg : Expr} {is : List Nat} {gg : TgF} (he : SE X W e fe) (hg : SG X is tg gg) (hs : swapsWithSole [tg] e pos.line X.env = pure false := by rfl) (hw : swappedStores [tg] e X.env = pure none := by rfl)
    (h1 : (assignEach [tg] X.env).map (·.2) = [assign tg X.env] := by rfl) : SS X W (.Assign [tg] e pos) (asgS fe gg) := by
  refine (ps_asg he hg hs hw h1).weak ?_
  rintro σ H D ⟨G, F, ρ, s, q⟩
  refine ⟨G, F, ρ, s, (FP.of q).mono fun d ρ1 F1 H1 s1 f1 h1 v r => ?_⟩
  split at h1
  · rename_i ρ2 e2
    exact ⟨G, F1, ρ1, d, ρ2, s1, r, e2, fun σ' s' _ _ => FP.nxt h1 s'⟩
  · exact h1.elim
/-- x.append(e) -/
theorem ss_app {i : Nat} {x : Str} {npos apos cpos : Pos} (he : SE X W e fe) (hN : X.N[i]? = some x := by rfl) (hv : Vis X.env.scope x := by first | exact Or.inl rfl | exact Or.inr (Or.inl rfl) | exact Or.inr (Or.inr rfl)) (hd : (x == ("__debug__" : Str)) = false := by decide)
    (hcd : (x == ("__classdict__" : Str)) = false := by decide)
    (hs0 : starEach [e] X.env = (false, eval e X.env) :: starEach [] X.env := by rfl)
    (hbase : attributeBase (.Name x npos) "append" X.env (eval (.Name x npos) X.env) = eval (.Name x npos) X.env := by rfl)
    (hfew : ((backTo cpos (starEach [e] X.env)).all (fun x => !x.1) && (backToKw cpos (keywordEach [] X.env)).all (fun x => x.1.isSome)
      && decide ([e].length + ([] : List Keyword).length + (if ([] : List Keyword).isEmpty then 0 else 1) < 30)) = true := by rfl)
    (hline : (apos.endLine == cpos.line) = true := by rfl) (hplain : (backTo cpos (starEach [] X.env)).any (·.1) = false := by rfl)
    (hsw : swapsWith (.Call (.Attribute (.Name x npos) "append" apos) [e] [] cpos) none pos.line X.env = pure false := by rfl) :
    SS X W (.Expr (.Call (.Attribute (.Name x npos) "append" apos) [e] [] cpos) pos) (appS i fe) := by
  refine (ps_expr (pe_bm PySem.F.plainAttrs_list PySem.F.slot_list_append PySem.F.type_list_append mt_append (pe_var hN hv hd hcd) (pa_cons he pa_nil hs0) hbase hfew hline hs0 hplain) hsw).weak ?_
  rintro σ H D ⟨G, F, ρ, s, q⟩
  unfold appS at q
  split at q
  · exact q.elim
  · rename_i ds0 e0
    obtain ⟨t0, ht0, hl0⟩ := Option.bind_eq_some_iff.mp e0
    obtain ⟨a, vs0, hv0, hH0, _, _⟩ := s.own_lst ht0 hl0
    refine ⟨.ref a, hv0, .inl ⟨rfl, vs0, .inl (.inl hH0)⟩, ?_⟩
    refine ⟨G, F, ρ, s, (FP.of q).mono fun d ρ1 F1 H1 s1 f1 h1 v r => ?_⟩
    show rAppend (.ref a) [v] H1 (fun _ H2 => D.nx σ H2)
    split at h1
    · rename_i t ht
      split at h1
      · rename_i ds hl
        split at h1
        · rename_i hsz
          obtain ⟨a', vs, hv1, hH1, rs, wr⟩ := s1.own_lst ht hl
          rw [hv0] at hv1
          cases hv1
          exact ⟨a, vs, v, rfl, rfl, hH1, by rw [rs.length]; exact hsz, FP.nxt h1 (wr _ _ (rs.append (.one r)))⟩
        · exact h1.elim
      · exact h1.elim
    · exact h1.elim

/-- x[e] = f, a list -/
theorem ss_put {i : Nat} {x : Str} {npos spos : Pos} {k : Expr} {fk : M D} (he : SE X W e fe) (hk : SE X W k fk) (hN : X.N[i]? = some x := by rfl) (hv : Vis X.env.scope x := by first | exact Or.inl rfl | exact Or.inr (Or.inl rfl) | exact Or.inr (Or.inr rfl)) (hd : (x == ("__debug__" : Str)) = false := by decide)
    (hcd : (x == ("__classdict__" : Str)) = false := by decide)
    (ha : ∀ v, assign (.Subscript (.Name x npos) k spos) X.env v = (do
      let ov ← holding [v] (eval (.Name x npos) X.env)
      let iv ← holding [v, ov] (eval k X.env)
      standAt spos
      holding [v, ov, iv] (setItem ov iv v)
      release [v, ov, iv] []) := by intro _; rfl)
    (hs : swapsWithSole [.Subscript (.Name x npos) k spos] e pos.line X.env = pure false := by rfl) (hw : swappedStores [.Subscript (.Name x npos) k spos] e X.env = pure none := by rfl)
    (h1 : (assignEach [.Subscript (.Name x npos) k spos] X.env).map (·.2) = [assign (.Subscript (.Name x npos) k spos) X.env] := by rfl) :
    SS X W (.Assign [.Subscript (.Name x npos) k spos] e pos) (putS i fe fk) := by
  refine (ps_asg he (pg_sub (pe_var hN hv hd hcd) hk set_list ha) hs hw h1).weak ?_
  rintro σ H D ⟨G, F, ρ, s, q⟩
  refine ⟨G, F, ρ, s, (FP.of q).mono fun d ρ1 F1 H1 s1 f1 h1 v r => ?_⟩
  split at h1
  · exact h1.elim
  · rename_i ds0 e0
    obtain ⟨t0, ht0, hl0⟩ := Option.bind_eq_some_iff.mp e0
    obtain ⟨a, vs0, hv0, hH0, _, _⟩ := s1.own_lst ht0 hl0
    refine ⟨.ref a, hv0, G, F1, ρ1, s1, (FP.of (σ := σ) h1).mono fun kd ρ2 F2 H2 s2 f2 h2 kv rk => ?_⟩
    split at h2
    · rename_i t j ht
      cases rk
      split at h2
      · rename_i ds hl
        split at h2
        · rename_i n hn
          obtain ⟨a', vs, hv1, hH1, rs, wr⟩ := s2.own_lst ht hl
          rw [hv0] at hv1
          cases hv1
          exact ⟨a, vs, j, n, rfl, rfl, hH1, by rw [rs.length]; exact hn, FP.nxt h2 (wr _ _ (Reps.set (r.mono f2) n rs))⟩
        · exact h2.elim
      · exact h2.elim
    · exact h2.elim
/-- x += e, ints -/
theorem ss_aug {i : Nat} {x : Str} {op : Operator} {gi : Int → Int → Int} {pos' : Pos} (hN : X.N.Nodup) (he : SE X W e fe) (ho : PIp X op (ipI gi)) (hi : X.N[i]? = some x := by rfl) (hx : Loc X.env.scope x := by first | exact .inl rfl | exact .inr rfl)
    (hf : X.fn x = true ∨ X.env.scope.names.lookup x = some .local := by first | exact .inl rfl | exact .inr rfl) : SS X W (.AugAssign (.Name x pos') op e pos) (augS i fe gi) := by
  refine (ps_aug hN hi hx he ho hf).weak ?_
  rintro σ H D ⟨G, F, ρ, s, q⟩
  unfold augS at q
  split at q
  · rename_i a ha
    obtain ⟨v, hv, r⟩ := s.fr_at ha
    cases r
    refine ⟨.int a, hv, G, F, ρ, s, (FP.of q).mono fun d ρ1 F1 H1 s1 f1 h1 w r1 => ?_⟩
    split at h1
    · rename_i b
      cases r1
      exact ⟨a, b, rfl, rfl, FP.nxt h1 (s1.set_fr (.int _))⟩
    · exact h1.elim
  · exact q.elim

/-- what an iterator gives -/
structure ItR (N : En) (J : It) (ds : List D) (F : Hp) : Prop where
  go : ∀ i F2 H2, i < ds.length → Same F F2 → Same F2 H2 → J.go i H2
  stop : ∀ F2 H2, Same F F2 → Same F2 H2 → J.stop ds.length H2
  yld : ∀ i F2 H2 x H', i < ds.length → Same F F2 → Same F2 H2 → J.yld i H2 x H' → ∃ F' d, ds[i]? = some d ∧ Ext F2 H2 F' H' ∧ Rep N F' x d
def tI (N : En) (W : WX) (f : M (List D)) : TI := fun σ H R => ∃ G F ρ, SR N G F H σ ρ ∧ RP N W G F σ (f ρ) fun ds _ F' H' => ∀ J, ItR N J ds F' → R J H'
abbrev SI (X : Cx) (W : WX) (tg e : Expr) (f : M (List D)) : Prop := PI X tg e (tI X.en W f)
theorem _root_.L2.PI.weak {X : Cx} {tg e : Expr} {t t' : TI} (h : PI X tg e t) (w : ∀ σ H Q, t' σ H Q → t σ H Q) : PI X tg e t' := ⟨fun pins s σ H R I q => h.run pins s σ H R I (w σ H R q)⟩
theorem ss_for {tg iter : Expr} {body : List Stmt} {fi : M (List D)} {is : List Nat} {gg : TgF} (hp : PassesOwn (model X.prog X.w) X.A X.env X.xe) (hc : X.calm = true) (hi : SI X W tg iter fi) (hg : SG X is tg gg) (hb : SSs X W body f)
    (hs : ∀ x, foldedSetIterable iter X.env x = pure x := by intro _; rfl) : SS X W (.For tg iter body [] pos) (forS fi gg f) := by
  refine (ps_for hp hc hi hg hb hs).weak ?_
  rintro σ H D ⟨G, F, ρ, s, q⟩
  refine ⟨G, F, ρ, s, (FP.of q).mono fun ds ρ1 F1 H1 s1 f1 h1 J hJ => ?_⟩
  refine ⟨fun i m σ' H' => m = ds.length - i ∧ i ≤ ds.length ∧ ∃ F' ρ', SR X.en G F' H' σ' ρ' ∧ Same F1 F' ∧ FP X.en W G F' (forL gg f (ds.drop i) ρ') D, ⟨ds.length, by simp, Nat.zero_le _, F1, ρ1, s1, Same.refl _, by simpa using h1⟩, ?_⟩
  rintro i m σ2 H2 ⟨rfl, hi, F2, ρ2, s2, f2, h2⟩
  by_cases hlt : i < ds.length
  · refine .inr ⟨hJ.go i F2 H2 hlt f2 s2.bs.fh, fun σ' H' => ∃ F' ρ', SR X.en G F' H' σ' ρ' ∧ Same F1 F' ∧ FP X.en W G F' (forL gg f (ds.drop (i + 1)) ρ') D, fun σ' H' hn => ⟨ds.length - (i + 1), by omega, rfl, hlt, hn⟩, fun x H3 y => ?_⟩
    obtain ⟨F3, d, hd, ex, rx⟩ := hJ.yld i F2 H2 x H3 hlt f2 s2.bs.fh y
    have e : ds.drop i = d :: ds.drop (i + 1) := by
      rw [List.drop_eq_getElem_cons hlt]
      rw [List.getElem?_eq_getElem hlt] at hd
      cases hd; rfl
    rw [e] at h2
    unfold forL at h2
    split at h2
    · exact h2.elim
    · rename_i ρ3 e3
      refine ⟨G, F3, ρ2, d, ρ3, s2.ext ex, rx, e3, fun σ3 s3 _ _ => ?_⟩
      refine ⟨G, F3, ρ3, s3, FP.turn (FP.later h2 ex.ff) fun F4 H4 σ4 ρ4 s4 f4 h4 => ⟨F4, ρ4, s4, f2.trans (ex.ff.trans f4), h4⟩⟩
  · have e : i = ds.length := by omega
    subst e
    rw [List.drop_length] at h2
    exact .inl ⟨hJ.stop F2 H2 f2 s2.bs.fh, FP.nxt h2 s2⟩
theorem ss_while {body : List Stmt} (hp : PassesOwn (model X.prog X.w) X.A X.env X.xe) (hc : ST X W c ft) (hb : SSs X W body f) : SS X W (.While c body [] pos) (whileS ft f) := by
  refine (ps_while hp hc hb).weak ?_
  rintro σ H D ⟨G, F, ρ, s, q⟩
  unfold whileS at q
  split at q
  · rename_i ex
    generalize Classical.choose ex = n at q
    refine ⟨fun m σ' H' => ∃ F' ρ', SR X.en G F' H' σ' ρ' ∧ FP X.en W G F' (whileN ft f m ρ') D, ⟨n, F, ρ, s, q⟩, ?_⟩
    rintro m σ2 H2 ⟨F2, ρ2, s2, h2⟩
    cases m with
    | zero => exact h2.elim
    | succ m =>
      unfold whileN at h2
      refine ⟨G, F2, ρ2, s2, (FP.of h2).mono fun t ρ3 F3 H3 s3 f3 h3 => ?_⟩
      cases t with
      | false => rw [if_neg (by decide)] at h3 ⊢; exact FP.nxt h3 s3
      | true =>
        rw [if_pos rfl] at h3 ⊢
        exact ⟨fun σ' H' => ∃ F' ρ', SR X.en G F' H' σ' ρ' ∧ FP X.en W G F' (whileN ft f m ρ') D, fun σ' H' hn => ⟨m, Nat.lt_succ_self _, hn⟩, G, F3, ρ3, s3, FP.turn h3 fun F4 H4 σ4 ρ4 s4 f4 h4 => ⟨F4, ρ4, s4, h4⟩⟩
  · exact q.elim
end
end L2.Sc
set_option Elab.async false
set_option linter.all false
set_option maxRecDepth 100000
set_option maxHeartbeats 2000000
namespace PySem
open Sem (wp)
section
theorem sc_meets_enumerate_newB {v : Value} {o : Obj} {H : Heap → Prop} (B : Begins v o H) :
    Meets (Builtin.«enumerate.__new__» ⟨[.type "enumerate", v], []⟩) (fun _ R s => H s.heap ∧
      R (.ok (.ret (.ref (s.heap.push o).objs.size))) { s with heap := (s.heap.push o).push { cls := .type "enumerate", data := .fields #[.none, .bool false, .ref s.heap.objs.size, rawInt 0, .none, .none] } }) :=
  .of_wp fun prog w A R s h => by
    obtain ⟨hp, g, d, tk, os⟩ := s; obtain ⟨h1, h⟩ := h
    have hsub := sub_enumerate
    have q1 : ∀ {A' : Around} {E : Value → Shared → Prop} {Q : Value → Shared → Prop}, Q (.ref hp.objs.size) ⟨hp.push o, g, d, tk, os⟩ → wpAny (model prog w) A' (pyIter v) Q E ⟨hp, g, d, tk, os⟩ :=
      fun q => B.iter prog w _ _ ⟨hp, g, d, tk, os⟩ _ h1 q
    wp_walk using q1
    refine wpAny_stack_any fun st => wpAny_pure ?_
    split
    · rename_i c _ _ _ _ _
      cases (c == Value.type "enumerate")
      · wp_walk using q1
        exact ⟨_, rfl, h⟩
      · wp_walk using q1
        exact ⟨_, rfl, h⟩
    · wp_walk using q1
      exact ⟨_, rfl, h⟩
variable {prog : Program} {w : World} {A : Around} {E : Value → Shared → Prop} {s : Shared}
theorem sc_enum_begins {v : Value} {o : Obj} {H : Heap → Prop} {Q : Value → Shared → Prop} (B : Begins v o H) (h1 : H s.heap)
    (h : ∀ h', IsEnum h' (s.heap.objs.size + 1) s.heap.objs.size 0 .none → h'.get? s.heap.objs.size = some o → h'.objs.size = s.heap.objs.size + 2 →
      (∀ b o, s.heap.get? b = some o → h'.get? b = some o) → Q (.ref (s.heap.objs.size + 1)) { s with heap := h' }) :
    wpAny (model prog w) A (call (.type "enumerate") [v]) Q E s := by
  refine callType_new F.called_enumerate (by decide) (F.typeCall_enumerate_1 _) (F.newCall_enumerate_1 _) (fun obj => F.args_object_init_2 obj _) F.entry_enumerate_new
    (sc_meets_enumerate_newB B) ⟨h1, ?_⟩
  have hz : (s.heap.push o).objs.size = s.heap.objs.size + 1 := Heap.size_push ..
  show _ ∧ _
  rw [hz]
  have he : IsEnum ((s.heap.push o).push { cls := .type "enumerate", data := .fields #[.none, .bool false, .ref s.heap.objs.size, rawInt 0, .none, .none] }) (s.heap.objs.size + 1) s.heap.objs.size 0 .none := by
    have := Heap.get?_push_size (s.heap.push o) (o := { cls := .type "enumerate", data := .fields #[.none, .bool false, .ref s.heap.objs.size, rawInt 0, .none, .none] }) rfl
    rw [hz] at this; exact this
  refine ⟨⟨_, he, rfl⟩, h _ he (Heap.get?_push_of_some _ (Heap.get?_push_size _ B.free)) (by rw [Heap.size_push, hz]) fun b o x => Heap.get?_push_of_some _ (Heap.get?_push_of_some _ x)⟩
end
end PySem
namespace L2.Sc
open PySem PySem.Spec PyProof.Rows
def ItT (K : PySem.W.Frag) (a : Addr) : It :=
  ⟨fun i H => ∃ (xs : List V) (x : V), SqT K H a xs ∧ xs[i]? = some x, fun i H v H' => ∃ T x, v = .ref T ∧ H T = none ∧ H' = upd H T (.tup [.int (i : Nat), x]) ∧ ∀ xs, SqT K H a xs → xs[i]? = some x, fun i H => ∃ xs : List V, SqT K H a xs ∧ xs.length = i⟩
theorem turn_enumT {P : Program} {w : World} {K : PySem.W.Frag} {elts : List Expr} {kk : Nat} {tpos : Pos} (a e it : Addr) :
    Turn P w K (.Tuple elts kk tpos) (ItT K a) [e, it] e (fun i h => (∃ old, IsEnum h e it ((i : Nat) : Int) old) ∧ h.IsTupleIter it a i ∧ e ≠ it ∧ a ≠ it ∧ e ≠ a) where
  mem := by simp
  obj := fun i h st b hb => by
    obtain ⟨⟨old, he⟩, ⟨o, ho, hc, hd⟩, _⟩ := st
    have e' : b = e ∨ b = it := by simpa using hb
    rcases e' with z | z
    · rw [z]; exact ⟨_, he, fun v q => nomatch q⟩
    · rw [z]; exact ⟨o, ho, fun v q => by rw [hd] at q; cases q⟩
  keep := fun i h h' st k => let ⟨⟨old, he⟩, hi, hne⟩ := st; ⟨⟨old, k e (by simp) _ he⟩, hi.at fun o q => k it (by simp) o q, hne⟩
  item := by
    intro X hP hw hK hc i pins s σ H E I hf st hg
    subst hP hw hK
    obtain ⟨⟨old, he⟩, hit, hne, hai, hea⟩ := st
    obtain ⟨xs, x, hq, hx⟩ := hg
    obtain ⟨its, rv, p, hz⟩ := I.tuple hq
    obtain ⟨u, hu, ru⟩ := rv.get hx
    have hel : e < s.heap.objs.size := Heap.lt_size he
    have hil : it < s.heap.objs.size := by obtain ⟨_, q, _⟩ := hit; exact Heap.lt_size q
    have pt : s.heap.IsTuple a its.toArray := p
    have hlt : i < its.toArray.size := by
      have := (List.getElem?_eq_some_iff.mp hu).1
      simpa using this
    refine wpAny_pyNext_enum_itemD (Draws.tuple (A := X.A.in1) (show X.A.in1.handled = none from I.ok.hd hc) it a hai its.toArray) he ⟨hit, pt⟩ hlt hne (by simp [hne, hea]) fun x' h' tk hx' ho st' hT hsz hk => ?_
    have ex : x' = u := by
      have hx' : its.toArray[i]? = some x' := hx'
      have : its.toArray[i]? = some u := by simpa using hu
      rw [hx'] at this
      exact Option.some.inj this
    subst ex
    have hit' := st'.1
    refine ⟨_, rfl, wpAny_letOwnedTupleGo_enum (s := { s with heap := h', toks := tk + 1 }) ho fun h'' he' sb => ?_⟩
    have hT2 : h''.get? s.heap.objs.size = some { cls := .type "tuple", data := .seq #[.int i tk, x'] } := (sb.2 _ (Nat.ne_of_gt hel)).trans hT
    have new : ObjOk X.prog X.w (upd H s.heap.objs.size (.tup [.int (i : Nat), x])) h'' s.heap.objs.size (.tup [.int (i : Nat), x]) :=
      ⟨by show 2 ≤ sizeLine; decide, [.int i tk, x'], .cons ⟨_, rfl⟩ (.cons ru .nil), ⟨_, hT2, rfl, _, rfl⟩⟩
    have I1 : Inv X pins σ (upd H s.heap.objs.size (.tup [.int (i : Nat), x])) { s with heap := h'', toks := tk + 1 } :=
      I.turnedNew (ch := [e, it]) (fun b ob hb q => (sb.2 b (fun z => hb (by simp [z]))).trans (hk b ob (fun z => hb (by simp [z])) (fun z => hb (by simp [z])) q)) hf (Nat.le_refl _) new
    refine ⟨.ref s.heap.objs.size, _, I1, rfl, ⟨_, x, rfl, I.hok.fresh (Nat.le_refl _), rfl, fun ys hy => by rw [I.tuple_inj hy hq]; exact hx⟩, ⟨⟨x', ?_⟩, hit'.at fun o q => (sb.2 it (Ne.symm hne)).trans q, hne, hai, hea⟩, fun b hb => ?_⟩
    · have e1 : ((i + 1 : Nat) : Int) = (i : Int) + 1 := by omega
      rw [e1]; exact he'
    · have hb' : b < s.heap.objs.size := by
        have e' : b = e ∨ b = it := by simpa using hb
        rcases e' with z | z
        · rw [z]; exact hel
        · rw [z]; exact hil
      rw [upd_ne (Nat.ne_of_lt hb')]
      exact (hf b hb).1
  done := by
    intro X hP hw hK hc i pins s σ H E I hf st hg
    subst hP hw hK
    obtain ⟨⟨old, he⟩, hit, hne, hai, hea⟩ := st
    obtain ⟨xs, hq, hx⟩ := hg
    obtain ⟨its, rv, p, hz⟩ := I.tuple hq
    obtain ⟨f0, f1, f2, f3, f4, f5⟩ := hf it (by simp)
    have hl := rv.length
    have pt : s.heap.IsTuple a its.toArray := p
    have hsz : its.toArray.size = i := by simp; omega
    have D := Draws.tuple (prog := X.prog) (w := X.w) (A := X.A.in1) (show X.A.in1.handled = none from I.ok.hd hc) it a hai its.toArray
    rw [hsz] at D
    exact wpAny_pyNext_enum_endD D he ⟨hit, pt⟩ fun h' eb => ⟨rfl, I.turned (t' := s.toks) (fun b o hb q => eb b o hb q) f0 f1 f3 f4 f5⟩
  self := fun A i s Q E st h => let ⟨⟨_, he⟩, _⟩ := st; wpAny_pyIter_enum he h

def seqI (f : M D) : M (List D) := f.bind fun d => match d with
  | .list ds => M.pure ds
  | .tuple ds => M.pure ds
  | _ => M.fail
def rangeD (lo : Int) (n : Nat) : List D := (List.range n).map fun (i : Nat) => .int (lo + (i : Int))
def small (j : Int) : Bool := decide (j.natAbs < 4611686018427387904)
def range1 (f : M D) : M (List D) := f.bind fun d => match d with
  | .int j => if small j = true then M.pure (rangeD 0 j.toNat) else M.fail
  | _ => M.fail
def range2 (f g : M D) : M (List D) := f.bind fun d => g.bind fun e => match d, e with
  | .int i, .int j => if (small i && small j) = true then M.pure (rangeD i (j - i).toNat) else M.fail
  | _, _ => M.fail
def enumD (ds : List D) : List D := (List.range ds.length).zipWith (fun (i : Nat) d => .tuple [.int (i : Int), d]) ds
def enumI (f : M D) : M (List D) := f.bind fun d => match d with
  | .list ds => M.pure (enumD ds)
  | .tuple ds => M.pure (enumD ds)
  | _ => M.fail
def zipD (ds es : List D) : List D := List.zipWith (fun a b => .tuple [a, b]) ds es
def zipI (f g : M D) : M (List D) := f.bind fun d => g.bind fun e => match d, e with
  | .tuple ds, .tuple es => M.pure (zipD ds es)
  | .list ds, .list es => M.pure (zipD ds es)
  | _, _ => M.fail

section
variable {N : En} {F F' : Hp}
theorem itr_list {a : Addr} {vs : List V} {ds : List D} (s : SqL N.K F a vs) (r : Reps N F vs ds) : ItR N (Itl N.K a) ds F where
  go := fun i F2 H2 hi f h => ⟨vs, vs[i]'(by rw [r.length]; exact hi), SqL_mono (f.trans h) s, by simp [r.length, hi]⟩
  stop := fun F2 H2 f h => ⟨vs, SqL_mono (f.trans h) s, by rw [r.length]; exact Nat.le_refl _⟩
  yld := fun i F2 H2 x H' hi f h y => by
    obtain ⟨e, y⟩ := y
    subst e
    obtain ⟨d, hd, rx⟩ := r.getV (y vs (SqL_mono (f.trans h) s))
    exact ⟨F2, d, hd, Ext.refl h, rx.mono f⟩
theorem itr_tup {a : Addr} {vs : List V} {ds : List D} (s : SqT N.K F a vs) (r : Reps N F vs ds) : ItR N (Itt N.K a) ds F where
  go := fun i F2 H2 hi f h => ⟨vs, vs[i]'(by rw [r.length]; exact hi), SqT_mono (f.trans h) s, by simp [r.length, hi]⟩
  stop := fun F2 H2 f h => ⟨vs, SqT_mono (f.trans h) s, by rw [r.length]; exact Nat.le_refl _⟩
  yld := fun i F2 H2 x H' hi f h y => by
    obtain ⟨e, y⟩ := y
    subst e
    obtain ⟨d, hd, rx⟩ := r.getV (y vs (SqT_mono (f.trans h) s))
    exact ⟨F2, d, hd, Ext.refl h, rx.mono f⟩
theorem rangeD_length (lo : Int) (n : Nat) : (rangeD lo n).length = n := by simp [rangeD]
theorem rangeD_get {lo : Int} {n i : Nat} (h : i < n) : (rangeD lo n)[i]? = some (.int (lo + i)) := by simp [rangeD, h]
theorem itr_range {lo : Int} {n : Nat} : ItR N (Itr lo n) (rangeD lo n) F where
  go := fun i F2 H2 hi f h => by rw [rangeD_length] at hi; exact hi
  stop := fun F2 H2 f h => by rw [rangeD_length]; exact Nat.le_refl _
  yld := fun i F2 H2 x H' hi f h y => by
    rw [rangeD_length] at hi
    obtain ⟨e, y⟩ := y
    subst e y
    exact ⟨F2, _, rangeD_get hi, Ext.refl h, .int _⟩
theorem enumD_length (ds : List D) : (enumD ds).length = ds.length := by simp [enumD]
theorem enumD_get {ds : List D} {i : Nat} {d : D} (h : ds[i]? = some d) : (enumD ds)[i]? = some (.tuple [.int (i : Int), d]) := by
  have hi := (List.getElem?_eq_some_iff.mp h).1
  unfold enumD
  rw [List.getElem?_zipWith, List.getElem?_range hi, h]
/-- a new pair -/
theorem pair_ext {F2 H2 : Hp} (h : Same F2 H2) {T : Addr} {x y : V} {d e : D} (hT : H2 T = none) (rx : Rep N F2 x d) (ry : Rep N F2 y e) :
    Ext F2 H2 (upd F2 T (.tup [x, y])) (upd H2 T (.tup [x, y])) ∧ Rep N (upd F2 T (.tup [x, y])) (.ref T) (.tuple [d, e]) := by
  have x' := Ext.one h (.tup [x, y]) hT
  exact ⟨x', .tup (.inl (.inl upd_same)) (.cons (rx.mono x'.ff) (.cons (ry.mono x'.ff) .nil))⟩
theorem itr_enumL {a : Addr} {vs : List V} {ds : List D} (s : SqL N.K F a vs) (r : Reps N F vs ds) : ItR N (Ite N.K a) (enumD ds) F where
  go := fun i F2 H2 hi f h => by
    rw [enumD_length] at hi
    exact ⟨vs, vs[i]'(by rw [r.length]; exact hi), SqL_mono (f.trans h) s, by simp [r.length, hi]⟩
  stop := fun F2 H2 f h => ⟨vs, SqL_mono (f.trans h) s, by rw [enumD_length, r.length]; exact Nat.le_refl _⟩
  yld := fun i F2 H2 x H' hi f h y => by
    obtain ⟨T, z, rfl, hT, rfl, y⟩ := y
    obtain ⟨d, hd, rx⟩ := r.getV (y vs (SqL_mono (f.trans h) s))
    obtain ⟨e1, e2⟩ := pair_ext h hT (.int (i : Int)) (rx.mono f)
    exact ⟨_, _, enumD_get hd, e1, e2⟩
theorem itr_enumT {a : Addr} {vs : List V} {ds : List D} (s : SqT N.K F a vs) (r : Reps N F vs ds) : ItR N (ItT N.K a) (enumD ds) F where
  go := fun i F2 H2 hi f h => by
    rw [enumD_length] at hi
    exact ⟨vs, vs[i]'(by rw [r.length]; exact hi), SqT_mono (f.trans h) s, by simp [r.length, hi]⟩
  stop := fun F2 H2 f h => ⟨vs, SqT_mono (f.trans h) s, by rw [enumD_length, r.length]⟩
  yld := fun i F2 H2 x H' hi f h y => by
    obtain ⟨T, z, rfl, hT, rfl, y⟩ := y
    obtain ⟨d, hd, rx⟩ := r.getV (y vs (SqT_mono (f.trans h) s))
    obtain ⟨e1, e2⟩ := pair_ext h hT (.int (i : Int)) (rx.mono f)
    exact ⟨_, _, enumD_get hd, e1, e2⟩
theorem zipD_length (ds es : List D) : (zipD ds es).length = min ds.length es.length := by simp [zipD]
theorem zipD_get {ds es : List D} {i : Nat} {d e : D} (h : ds[i]? = some d) (h' : es[i]? = some e) : (zipD ds es)[i]? = some (.tuple [d, e]) := by
  unfold zipD
  rw [List.getElem?_zipWith, h, h']
theorem itr_zipT {a b : Addr} {vs ws : List V} {ds es : List D} (s : SqT N.K F a vs) (r : Reps N F vs ds) (s' : SqT N.K F b ws) (r' : Reps N F ws es) : ItR N (RZ.ItzT N.K a b) (zipD ds es) F where
  go := fun i F2 H2 hi f h => by
    rw [zipD_length] at hi
    exact ⟨vs, ws, vs[i]'(by rw [r.length]; omega), ws[i]'(by rw [r'.length]; omega), SqT_mono (f.trans h) s, SqT_mono (f.trans h) s', List.getElem?_eq_getElem _, List.getElem?_eq_getElem _⟩
  stop := fun F2 H2 f h => ⟨vs, ws, SqT_mono (f.trans h) s, SqT_mono (f.trans h) s', by rw [zipD_length, r.length, r'.length]; omega⟩
  yld := fun i F2 H2 x H' hi f h y => by
    obtain ⟨T, z, z', rfl, hT, rfl, y, y'⟩ := y
    obtain ⟨d, hd, rx⟩ := r.getV (y vs (SqT_mono (f.trans h) s))
    obtain ⟨e, he, ry⟩ := r'.getV (y' ws (SqT_mono (f.trans h) s'))
    obtain ⟨e1, e2⟩ := pair_ext h hT (rx.mono f) (ry.mono f)
    exact ⟨_, _, zipD_get hd he, e1, e2⟩
theorem itr_zipL {a b : Addr} {vs ws : List V} {ds es : List D} (s : SqL N.K F a vs) (r : Reps N F vs ds) (s' : SqL N.K F b ws) (r' : Reps N F ws es) : ItR N (Itz N.K a b) (zipD ds es) F where
  go := fun i F2 H2 hi f h => by
    rw [zipD_length] at hi
    exact ⟨vs, ws, vs[i]'(by rw [r.length]; omega), ws[i]'(by rw [r'.length]; omega), SqL_mono (f.trans h) s, SqL_mono (f.trans h) s', List.getElem?_eq_getElem _, List.getElem?_eq_getElem _⟩
  stop := fun F2 H2 f h => ⟨vs, ws, SqL_mono (f.trans h) s, SqL_mono (f.trans h) s', by rw [zipD_length, r.length, r'.length]; omega⟩
  yld := fun i F2 H2 x H' hi f h y => by
    obtain ⟨T, z, z', rfl, hT, rfl, y, y'⟩ := y
    obtain ⟨d, hd, rx⟩ := r.getV (y vs (SqL_mono (f.trans h) s))
    obtain ⟨e, he, ry⟩ := r'.getV (y' ws (SqL_mono (f.trans h) s'))
    obtain ⟨e1, e2⟩ := pair_ext h hT (rx.mono f) (ry.mono f)
    exact ⟨_, _, zipD_get hd he, e1, e2⟩
end

section
variable {X : Cx} {W : WX} {tg e e2 : Expr} {f g : M D}
def iSeq (K : PySem.W.Frag) (tl : TE) : TI := fun σ H R => tl σ H fun x H1 => ∃ a, x = .ref a ∧ (((∃ xs, SqL K H1 a xs) ∧ R (Itl K a) H1) ∨ ((∃ xs, SqT K H1 a xs) ∧ R (Itt K a) H1))
theorem pi_seq {l : Expr} {tl : TE} (hl : PE X l tl) : PI X tg l (iSeq X.K tl) := by
  refine ⟨fun pins s σ H R I h => ?_⟩
  refine thn (hl.run pins s σ H _ I h) fun v s1 ⟨x, H1, I1, r1, q1⟩ => ?_
  obtain ⟨a, e, q1⟩ := q1
  subst e
  cases r1
  rcases q1 with ⟨⟨xs, hq⟩, q⟩ | ⟨⟨xs, hq⟩, q⟩
  · obtain ⟨its, rv, p, hz⟩ := I1.list hq
    refine wpAny_pyIter_list p.isList ?_
    refine ⟨s1.heap.objs.size, [s1.heap.objs.size], _, _, H1, rfl, I1.kept (t' := s1.toks) fun b o e => Heap.get?_push_of_some _ e, turn_list a _, ⟨_, Heap.get?_push_size _ rfl, rfl, rfl⟩, fun b hb => ?_, q⟩
    have e : b = s1.heap.objs.size := by simpa using hb
    subst e
    exact I1.fpOk (Nat.le_refl _) (I1.hok.fresh (Nat.le_refl _))
  · obtain ⟨its, rv, p, hz⟩ := I1.tuple hq
    refine wpAny_pyIter_tuple (show s1.heap.IsTuple a its.toArray from p) ?_
    refine ⟨s1.heap.objs.size, [s1.heap.objs.size], _, _, H1, rfl, I1.kept (t' := s1.toks) fun b o e => Heap.get?_push_of_some _ e, turn_tuple a _, ⟨_, Heap.get?_push_size _ rfl, rfl, rfl⟩, fun b hb => ?_, q⟩
    have e : b = s1.heap.objs.size := by simpa using hb
    subst e
    exact I1.fpOk (Nat.le_refl _) (I1.hok.fresh (Nat.le_refl _))
theorem si_seq (h : SE X W e f) : SI X W tg e (seqI f) := by
  refine (pi_seq h).weak ?_
  rintro σ H R ⟨G, F, ρ, s, q⟩
  refine ⟨G, F, ρ, s, (RP.bind q).mono fun d ρ1 F1 H1 s1 f1 ⟨_, _, h1⟩ v r => ?_⟩
  cases r with
  | @lst a vs ds hs hr => exact ⟨a, rfl, .inl ⟨⟨vs, SqL.of (s1.bs.fh _ _ hs)⟩, RP.pure h1 s1 _ (itr_list (SqL.of hs) hr)⟩⟩
  | @tup a vs ds hs hr => exact ⟨a, rfl, .inr ⟨⟨vs, SqT_mono s1.bs.fh hs⟩, RP.pure h1 s1 _ (itr_tup hs hr)⟩⟩
  | _ => exact h1.elim
theorem small_b {j : Int} (h : small j = true) : -(2 ^ 62) ≤ j ∧ j < 2 ^ 62 := by
  have h := of_decide_eq_true h
  have e : (2 : Int) ^ 62 = 4611686018427387904 := by decide
  rw [e]
  omega
theorem si_range1 {p pos : Pos} (hg : Gl X "range") (hm : X.mg "range" = none) (h : SE X W e f) (hs : starEach [e] X.env = [(false, eval e X.env)] := by rfl) (hs2 : starEach [e] X.env = (false, eval e X.env) :: starEach [] X.env := by rfl) : SI X W tg (.Call (.Name "range" p) [e] [] pos) (range1 f) := by
  refine (pi_range1 hg hm (pa_cons h pa_nil hs2) hs).weak ?_
  rintro σ H R ⟨G, F, ρ, s, q⟩
  refine ⟨G, F, ρ, s, (RP.bind q).mono fun d ρ1 F1 H1 s1 f1 ⟨_, _, h1⟩ v r => ?_⟩
  cases r with
  | int j =>
    dsimp only at h1
    split at h1
    · rename_i hj
      exact ⟨j, rfl, (small_b hj).1, (small_b hj).2, RP.pure h1 s1 _ itr_range⟩
    · exact h1.elim
  | _ => exact h1.elim
theorem si_range2 {p pos : Pos} (hg : Gl X "range") (hm : X.mg "range" = none) (h : SE X W e f) (h' : SE X W e2 g) (hs : starEach [e, e2] X.env = [(false, eval e X.env), (false, eval e2 X.env)] := by rfl) (hs2 : starEach [e2] X.env = [(false, eval e2 X.env)] := by rfl)
    (hs3 : starEach [e, e2] X.env = (false, eval e X.env) :: starEach [e2] X.env := by rfl) (hs4 : starEach [e2] X.env = (false, eval e2 X.env) :: starEach [] X.env := by rfl) : SI X W tg (.Call (.Name "range" p) [e, e2] [] pos) (range2 f g) := by
  refine (pi_range2 hg hm (pa_cons h (pa_cons h' pa_nil hs4) hs3) hs hs2).weak ?_
  rintro σ H R ⟨G, F, ρ, s, q⟩
  refine ⟨G, F, ρ, s, (RP.bind q).mono fun d ρ1 F1 H1 s1 f1 ⟨_, _, h1⟩ v r => ?_⟩
  refine ⟨G, F1, ρ1, s1, (RP.bind h1).mono fun d2 ρ2 F2 H2 s2 f2 ⟨_, _, h2⟩ v2 r2 => ?_⟩
  cases r with
  | int i =>
    cases r2 with
    | int j =>
      dsimp only at h2
      split at h2
      · rename_i hj
        rw [Bool.and_eq_true] at hj
        exact ⟨i, j, rfl, ⟨(small_b hj.1).1, (small_b hj.1).2, (small_b hj.2).1, (small_b hj.2).2⟩, RP.pure h2 s2 _ itr_range⟩
      · exact h2.elim
    | _ => exact h2.elim
  | _ => exact h2.elim
def iEnumA (K : PySem.W.Frag) (ta : TA) : TI := fun σ H R => ta σ H fun vs H1 => ∃ a xs, vs = [.ref a] ∧ ((SqL K H1 a xs ∧ R (Ite K a) H1) ∨ (SqT K H1 a xs ∧ R (ItT K a) H1))
theorem pi_enumA {ta : TA} {p pos tpos : Pos} {elts : List Expr} {kk : Nat} (hg : Gl X "enumerate") (hm : X.mg "enumerate" = none) (ha : PA X [e] ta) (hs : starEach [e] X.env = [(false, eval e X.env)] := by rfl) :
    PI X (.Tuple elts kk tpos) (.Call (.Name "enumerate" p) [e] [] pos) (iEnumA X.K ta) := by
  refine ⟨fun pins s σ H R I h => ?_⟩
  refine Call_ (ld_blt I hg hm boot_enumerate (PyProof.Rows.callWith_type1 (thn (ha.run pos pins s σ H _ I h) fun us s1 ⟨vs, H1, I1, r1, q1⟩ => ?_) hs rfl))
  obtain ⟨a, xs, ex, q1⟩ := q1
  subst ex
  cases r1 with
  | cons r rr =>
    cases rr
    cases r
    have fpk : ∀ b ∈ [s1.heap.objs.size + 1, s1.heap.objs.size], FpOk X pins H1 b := fun b hb => by
      have e' : b = s1.heap.objs.size + 1 ∨ b = s1.heap.objs.size := by simpa using hb
      have hle : s1.heap.objs.size ≤ b := by
        rcases e' with z | z
        · rw [z]; exact Nat.le_add_right _ _
        · rw [z]; exact Nat.le_refl _
      exact I1.fpOk hle (I1.hok.fresh hle)
    rcases q1 with ⟨hq, q⟩ | ⟨hq, q⟩
    · obtain ⟨its, rv, p', hz⟩ := I1.list hq
      refine call_enumerate_list p'.isList fun h' he hit hsz hk => wpAny_pyIter_enum he ?_
      have I2 : Inv X pins σ H1 { s1 with heap := h' } := I1.kept (t' := s1.toks) hk
      exact ⟨s1.heap.objs.size + 1, [s1.heap.objs.size + 1, s1.heap.objs.size], _, _, H1, rfl, I2, turn_enum a (s1.heap.objs.size + 1) s1.heap.objs.size, ⟨⟨.none, he⟩, hit, Nat.succ_ne_self _⟩, fpk, q⟩
    · obtain ⟨its, rv, p', hz⟩ := I1.tuple hq
      have hlt : a < s1.heap.objs.size := p'.lt
      refine sc_enum_begins (begins_tuple a its.toArray) (show s1.heap.IsTuple a its.toArray from p') fun h' he ho hsz hk => wpAny_pyIter_enum he ?_
      have I2 : Inv X pins σ H1 { s1 with heap := h' } := I1.kept (t' := s1.toks) hk
      exact ⟨s1.heap.objs.size + 1, [s1.heap.objs.size + 1, s1.heap.objs.size], _, _, H1, rfl, I2, turn_enumT a (s1.heap.objs.size + 1) s1.heap.objs.size, ⟨⟨.none, he⟩, ⟨_, ho, rfl, rfl⟩, Nat.succ_ne_self _, Nat.ne_of_lt hlt, Nat.ne_of_gt (Nat.lt_succ_of_lt hlt)⟩, fpk, q⟩
theorem si_enum {p pos tpos : Pos} {elts : List Expr} {kk : Nat} (hg : Gl X "enumerate") (hm : X.mg "enumerate" = none) (h : SE X W e f) (hs : starEach [e] X.env = [(false, eval e X.env)] := by rfl) (hs2 : starEach [e] X.env = (false, eval e X.env) :: starEach [] X.env := by rfl) :
    SI X W (.Tuple elts kk tpos) (.Call (.Name "enumerate" p) [e] [] pos) (enumI f) := by
  refine (pi_enumA hg hm (pa_cons h pa_nil hs2) hs).weak ?_
  rintro σ H R ⟨G, F, ρ, s, q⟩
  refine ⟨G, F, ρ, s, (RP.bind q).mono fun d ρ1 F1 H1 s1 f1 ⟨_, _, h1⟩ v r => ?_⟩
  cases r with
  | @lst a vs ds hs hr => exact ⟨a, vs, rfl, .inl ⟨SqL.of (s1.bs.fh _ _ hs), RP.pure h1 s1 _ (itr_enumL (SqL.of hs) hr)⟩⟩
  | @tup a vs ds hs hr => exact ⟨a, vs, rfl, .inr ⟨SqT_mono s1.bs.fh hs, RP.pure h1 s1 _ (itr_enumT hs hr)⟩⟩
  | _ => exact h1.elim
theorem si_zip {p pos tpos : Pos} {elts : List Expr} {kk : Nat} (hg : Gl X "zip") (hm : X.mg "zip" = none) (h : SE X W e f) (h' : SE X W e2 g)
    (hs : starEach [e, e2] X.env = (false, eval e X.env) :: starEach [e2] X.env := by rfl) (hpl : (backTo pos (starEach [e2] X.env)).any (·.1) = false := by rfl) (hs4 : starEach [e2] X.env = (false, eval e2 X.env) :: starEach [] X.env := by rfl) :
    SI X W (.Tuple elts kk tpos) (.Call (.Name "zip" p) [e, e2] [] pos) (zipI f g) := by
  refine (RZ.pi_zipA hg hm (pa_cons h (pa_cons h' pa_nil hs4) hs) hs hpl).weak ?_
  rintro σ H R ⟨G, F, ρ, s, q⟩
  refine ⟨G, F, ρ, s, (RP.bind q).mono fun d ρ1 F1 H1 s1 f1 ⟨_, _, h1⟩ v r => ?_⟩
  refine ⟨G, F1, ρ1, s1, (RP.bind h1).mono fun d2 ρ2 F2 H2 s2 f2 ⟨_, _, h2⟩ v2 r2 => ?_⟩
  have r := r.mono f2
  cases r with
  | @lst a vs ds hs hr =>
    cases r2 with
    | @lst b ws es hs' hr' => exact ⟨a, b, vs, ws, rfl, .inl ⟨SqL.of (s2.bs.fh _ _ hs), SqL.of (s2.bs.fh _ _ hs'), RP.pure h2 s2 _ (itr_zipL (SqL.of hs) hr (SqL.of hs') hr')⟩⟩
    | _ => exact h2.elim
  | @tup a vs ds hs hr =>
    cases r2 with
    | @tup b ws es hs' hr' => exact ⟨a, b, vs, ws, rfl, .inr ⟨SqT_mono s2.bs.fh hs, SqT_mono s2.bs.fh hs', RP.pure h2 s2 _ (itr_zipT hs hr hs' hr')⟩⟩
    | _ => exact h2.elim
  | _ => exact h2.elim
end
end L2.Sc
set_option Elab.async false
set_option linter.all false
set_option maxRecDepth 100000
set_option maxHeartbeats 2000000
namespace L2.Sc
open PySem PySem.Spec PyProof.Rows

def Ent.hold (G : Ent) (a : Addr) (o : HO) : Ent := ⟨G.F0, upd G.H0 a o, G.io⟩
def W0 : WX := fun _ _ _ _ => False
section
variable {N : En} {G : Ent} {F H F' H' : Hp} {σ σ' : St} {ρ ρ' : List Sl} {a : Addr} {o o' : HO}
theorem SR.own_ne (s : SR N G F H σ ρ) (hp : H a = none) {i : Nat} {t : Sl} (h1 : σ[i]? = some (some (.ref a))) (h2 : ρ[i]? = some t) (h3 : t.own = true) : False := by
  have q := s.sl i _ t h1 h2
  cases t with
  | un => cases h3
  | fr d => cases h3
  | ol ds => obtain ⟨a, vs, e, h, _⟩ := q; cases e; rw [hp] at h; cases h
  | od ds => obtain ⟨a, o, vs, e, h, _⟩ := q; cases e; rw [hp] at h; cases h
  | io ds => obtain ⟨a, vs, e, h, _⟩ := q; cases e; rw [hp] at h; cases h
theorem SlR.upd_ne' {v : Option V} {t : Sl} (ne : t.own = true → v ≠ some (.ref a)) (q : SlR N G F H v t) : SlR N G F (upd H a o) v t := by
  cases t with
  | un => trivial
  | fr d => exact q
  | ol ds =>
    obtain ⟨b, vs, e, h1, r, h2, h3⟩ := q
    exact ⟨b, vs, e, by rw [upd_ne (fun z => ne rfl (by rw [e, z]))]; exact h1, r, h2, h3⟩
  | io ds =>
    obtain ⟨b, vs, e, h1, r, h2, h3⟩ := q
    exact ⟨b, vs, e, by rw [upd_ne (fun z => ne rfl (by rw [e, z]))]; exact h1, r, h2, h3⟩
  | od ds =>
    obtain ⟨b, ob, xs, e, h1, m, d, r, h2, h3⟩ := q
    exact ⟨b, ob, xs, e, by rw [upd_ne (fun z => ne rfl (by rw [e, z]))]; exact h1, m, d, r, h2, h3⟩
theorem SlR.ent {G' : Ent} {v : Option V} {t : Sl} (hio : G'.io = G.io) (h0 : ∀ b, t.own = true → v = some (.ref b) → G.H0 b = none → G'.H0 b = none) (q : SlR N G F H v t) : SlR N G' F H v t := by
  cases t with
  | un => trivial
  | fr d => exact q
  | ol ds => obtain ⟨b, vs, e, h1, r, h2, h3⟩ := q; exact ⟨b, vs, e, h1, r, h2, h0 b rfl e h3⟩
  | io ds => obtain ⟨b, vs, e, h1, r, h2, h3⟩ := q; exact ⟨b, vs, e, h1, r, h2, by rw [hio]; exact h3⟩
  | od ds => obtain ⟨b, ob, xs, e, h1, m, d, r, h2, h3⟩ := q; exact ⟨b, ob, xs, e, h1, m, d, r, h2, h0 b rfl e h3⟩
/-- a new object is put on hold -/
theorem SR.hold_new (s : SR N G F H σ ρ) (o : HO) (hp : H a = none) : SR N (G.hold a o) F (upd H a o) σ ρ where
  bs := {
    f0 := s.bs.f0
    fh := s.bs.fh.trans (same_upd hp)
    keep := fun b x h1 h2 => by
      have h1 : upd G.H0 a o b = some x := h1
      by_cases hb : b = a
      · subst hb; rw [upd_same] at h1 ⊢; exact h1
      · rw [upd_ne hb] at h1 ⊢; exact s.bs.keep b x h1 h2
    there := fun b h => by
      show upd G.H0 a o b = none
      by_cases hb : b = a
      · subst hb; rw [upd_same] at h; cases h
      · rw [upd_ne hb] at h ⊢; exact s.bs.there b h
    new := fun b h1 h2 => by
      have h2 : upd G.H0 a o b ≠ none := h2
      by_cases hb : b = a
      · subst hb; exact same_none s.bs.fh hp
      · rw [upd_ne hb] at h2; exact s.bs.new b h1 h2
    iot := fun b h => by
      show upd G.H0 a o b ≠ none
      by_cases hb : b = a
      · subst hb; rw [upd_same]; simp
      · rw [upd_ne hb]; exact s.bs.iot b h }
  len := s.len
  sl := fun i v t h1 h2 => by
    refine SlR.ent (G := G) (G' := G.hold a o) rfl (fun b ht e h => ?_) ((s.sl i v t h1 h2).upd_ne' (o := o) (a := a) fun ht z => ?_)
    · show upd G.H0 a o b = none
      rw [upd_ne (fun z => by subst z; subst e; exact s.own_ne hp h1 h2 ht)]; exact h
    · subst z; exact s.own_ne hp h1 h2 ht
  inj := s.inj
/-- the held object itself is changed -/
theorem SR.hold_set (s : SR N (G.hold a o) F H σ ρ) (o' : HO) (hF : F a = none) (hio : G.io ≠ some a) : SR N (G.hold a o') F (upd H a o') σ ρ where
  bs := {
    f0 := s.bs.f0
    fh := fun b x q => by rw [upd_ne (fun z => by subst z; rw [hF] at q; cases q)]; exact s.bs.fh _ _ q
    keep := fun b x h1 h2 => by
      have h1 : upd G.H0 a o' b = some x := h1
      by_cases hb : b = a
      · subst hb; rw [upd_same] at h1 ⊢; exact h1
      · rw [upd_ne hb] at h1 ⊢; exact s.bs.keep b x (by show upd G.H0 a o b = _; rw [upd_ne hb]; exact h1) h2
    there := fun b h => by
      show upd G.H0 a o' b = none
      by_cases hb : b = a
      · subst hb; rw [upd_same] at h; cases h
      · rw [upd_ne hb] at h ⊢
        have := s.bs.there b h
        have : upd G.H0 a o b = none := this
        rwa [upd_ne hb] at this
    new := fun b h1 h2 => by
      have h2 : upd G.H0 a o' b ≠ none := h2
      by_cases hb : b = a
      · subst hb; exact hF
      · rw [upd_ne hb] at h2; exact s.bs.new b h1 (by show upd G.H0 a o b ≠ none; rw [upd_ne hb]; exact h2)
    iot := fun b h => by
      show upd G.H0 a o' b ≠ none
      by_cases hb : b = a
      · subst hb; rw [upd_same]; simp
      · rw [upd_ne hb]
        have := s.bs.iot b h
        have : upd G.H0 a o b ≠ none := this
        rwa [upd_ne hb] at this }
  len := s.len
  sl := fun i v t h1 h2 => by
    have q := s.sl i v t h1 h2
    have ne : t.own = true → v ≠ some (.ref a) := fun ht z => by
      subst z
      cases t with
      | un => cases ht
      | fr d => cases ht
      | ol ds => obtain ⟨b, vs, e, _, _, _, h3⟩ := q; cases e; have h3 : upd G.H0 a o a = none := h3; rw [upd_same] at h3; cases h3
      | od ds => obtain ⟨b, ob, xs, e, _, _, _, _, _, h3⟩ := q; cases e; have h3 : upd G.H0 a o a = none := h3; rw [upd_same] at h3; cases h3
      | io ds => obtain ⟨b, vs, e, _, _, _, h3⟩ := q; cases e; exact hio h3
    refine SlR.ent (G := G.hold a o) (G' := G.hold a o') rfl (fun b ht e h => ?_) (q.upd_ne' (o := o') (a := a) ne)
    have hb : b ≠ a := fun z => ne ht (by rw [e, z])
    have h : upd G.H0 a o b = none := h
    show upd G.H0 a o' b = none
    rw [upd_ne hb] at h ⊢; exact h
  inj := s.inj
theorem SR.held (s : SR N (G.hold a o) F H σ ρ) (hF0 : G.F0 a = none) (hio : G.io ≠ some a) : H a = some o ∧ F a = none :=
  ⟨s.bs.keep a o (by show upd G.H0 a o a = _; rw [upd_same]) hio, s.bs.new a hF0 (by show upd G.H0 a o a ≠ none; rw [upd_same]; simp)⟩
/-- off hold, a virtual last slot -/
theorem SR.unhold {vs : List V} {ds : List D} (s : SR N (G.hold a (.lst vs)) F H σ ρ) (h0 : G.H0 a = none) (hF0 : G.F0 a = none) (hio : G.io ≠ some a) (r : Reps N F vs ds) : SR N G F H (σ ++ [some (.ref a)]) (ρ ++ [.ol ds]) := by
  obtain ⟨hH, hF⟩ := s.held hF0 hio
  have ne : ∀ {i : Nat} {v : Option V} {t : Sl}, σ[i]? = some v → ρ[i]? = some t → t.own = true → v ≠ some (.ref a) := fun {i v t} h1 h2 ht z => by
    have q := s.sl i v t h1 h2
    subst z
    cases t with
    | un => cases ht
    | fr d => cases ht
    | ol ds => obtain ⟨b, vs, e, _, _, _, h3⟩ := q; cases e; have h3 : upd G.H0 a _ a = none := h3; rw [upd_same] at h3; cases h3
    | od ds => obtain ⟨b, ob, xs, e, _, _, _, _, _, h3⟩ := q; cases e; have h3 : upd G.H0 a _ a = none := h3; rw [upd_same] at h3; cases h3
    | io ds => obtain ⟨b, vs, e, _, _, _, h3⟩ := q; cases e; exact hio h3
  have base : SR N G F H σ ρ := {
    bs := {
      f0 := s.bs.f0
      fh := s.bs.fh
      keep := fun b x h1 h2 => s.bs.keep b x (by show upd G.H0 a _ b = _; rw [upd_ne (fun z => by subst z; rw [h0] at h1; cases h1)]; exact h1) h2
      there := fun b h => by
        have q : upd G.H0 a (.lst vs) b = none := s.bs.there b h
        by_cases hb : b = a
        · subst hb; exact h0
        · rwa [upd_ne hb] at q
      new := fun b h1 h2 => s.bs.new b h1 (by show upd G.H0 a _ b ≠ none; rw [upd_ne (fun z => h2 (by rw [z]; exact h0))]; exact h2)
      iot := fun b h => by
        have q : upd G.H0 a (.lst vs) b ≠ none := s.bs.iot b h
        rwa [upd_ne (fun z => hio (by rw [← z]; exact h))] at q }
    len := s.len
    sl := fun i v t h1 h2 => SlR.ent (G := G.hold a (.lst vs)) (G' := G) rfl (fun b ht e h => by
      have h : upd G.H0 a (.lst vs) b = none := h
      rwa [upd_ne (fun z => ne h1 h2 ht (by rw [e, z]))] at h) (s.sl i v t h1 h2)
    inj := s.inj }
  -- the slots with one more
  have hl := base.len
  have old : ∀ {i : Nat} {v : Option V} {t : Sl}, i < σ.length → (σ ++ [some (.ref a)])[i]? = some v → (ρ ++ [.ol ds])[i]? = some t → σ[i]? = some v ∧ ρ[i]? = some t := by
    intro i v t hi h1 h2
    rw [List.getElem?_append_left hi] at h1
    rw [List.getElem?_append_left (by rw [← hl]; exact hi)] at h2
    exact ⟨h1, h2⟩
  have lst : ∀ {i : Nat} {v : Option V} {t : Sl}, ¬ i < σ.length → (σ ++ [some (.ref a)])[i]? = some v → (ρ ++ [.ol ds])[i]? = some t → i = σ.length ∧ v = some (.ref a) ∧ t = .ol ds := by
    intro i v t hi h1 h2
    rw [List.getElem?_append_right (by omega)] at h1
    rw [List.getElem?_append_right (by rw [← hl]; omega)] at h2
    have e : i - σ.length = 0 := by
      rcases Nat.lt_or_ge (i - σ.length) 1 with h | h
      · omega
      · rw [List.getElem?_eq_none (by simpa using h)] at h1; cases h1
    rw [e] at h1
    rw [← hl, e] at h2
    simp at h1 h2
    exact ⟨by omega, h1.symm, h2.symm⟩
  refine ⟨base.bs, by simp [hl], fun i v t h1 h2 => ?_, fun i j b t t' h1 h2 h3 h4 h5 h6 => ?_⟩
  · by_cases hi : i < σ.length
    · obtain ⟨e1, e2⟩ := old hi h1 h2
      exact base.sl i v t e1 e2
    · obtain ⟨_, rfl, rfl⟩ := lst hi h1 h2
      exact ⟨a, vs, rfl, hH, r, hF, h0⟩
  · by_cases hi : i < σ.length
    · obtain ⟨e1, e2⟩ := old hi h1 h2
      by_cases hj : j < σ.length
      · obtain ⟨e3, e4⟩ := old hj h4 h5
        exact s.inj i j b t t' e1 e2 h3 e3 e4 h6
      · obtain ⟨_, e, _⟩ := lst hj h4 h5
        cases e
        exact (ne e1 e2 h3 rfl).elim
    · obtain ⟨q1, e, _⟩ := lst hi h1 h2
      cases e
      by_cases hj : j < σ.length
      · obtain ⟨e3, e4⟩ := old hj h4 h5
        exact (ne e3 e4 h6 rfl).elim
      · obtain ⟨q2, _⟩ := lst hj h4 h5
        omega

def wipeR (ρ : List Sl) : List Nat → List Sl
  | [] => ρ
  | v :: vs => (wipeR ρ vs).set v .un
theorem SR.wipe (s : SR N G F H σ ρ) : ∀ vs : List Nat, SR N G F H (L2.wipe σ vs) (wipeR ρ vs)
  | [] => s
  | v :: vs => (s.wipe vs).forget none
def keepFr : Option Sl → Sl
  | some (.fr d) => .fr d
  | _ => .un
def backR (ρ1 ρ2 : List Sl) : List Nat → List Sl
  | [] => ρ2
  | v :: vs => (backR ρ1 ρ2 vs).set v (keepFr ρ1[v]?)
theorem wipe_out {i : Nat} : ∀ {vs : List Nat}, i ∉ vs → (L2.wipe σ vs)[i]? = σ[i]?
  | [], _ => rfl
  | v :: vs, h => by
    unfold L2.wipe
    simp only [List.mem_cons, not_or] at h
    rw [List.getElem?_set_ne (Ne.symm h.1)]
    exact wipe_out h.2
theorem wipe_congr {vs : List Nat} (h : ∀ j, j ∉ vs → σ'[j]? = σ[j]?) (hl : σ'.length = σ.length) : L2.wipe σ' vs = L2.wipe σ vs := by
  have inn : ∀ {τ : St} {j : Nat}, ∀ vs : List Nat, j ∈ vs → (L2.wipe τ vs)[j]? = if j < τ.length then some none else none := by
    intro τ j vs
    induction vs with
    | nil => intro h; cases h
    | cons v vs ih =>
      intro hm
      unfold L2.wipe
      by_cases e : v = j
      · subst e
        rw [List.getElem?_set]
        simp [wipe_length]
      · rw [List.getElem?_set_ne e]
        rcases List.mem_cons.mp hm with z | z
        · exact absurd z.symm e
        · exact ih z
  apply List.ext_getElem?
  intro j
  by_cases hj : j ∈ vs
  · rw [inn vs hj, inn vs hj, hl]
  · rw [wipe_out hj, wipe_out hj, h j hj]
theorem backR_len (ρ1 ρ2 : List Sl) : ∀ vs : List Nat, (backR ρ1 ρ2 vs).length = ρ2.length
  | [] => rfl
  | v :: vs => by unfold backR; rw [List.length_set, backR_len ρ1 ρ2 vs]
theorem backR_out {ρ1 ρ2 : List Sl} {i : Nat} : ∀ {vs : List Nat}, i ∉ vs → (backR ρ1 ρ2 vs)[i]? = ρ2[i]?
  | [], _ => rfl
  | v :: vs, h => by
    unfold backR
    simp only [List.mem_cons, not_or] at h
    rw [List.getElem?_set_ne (Ne.symm h.1)]
    exact backR_out h.2
theorem backR_in {ρ1 ρ2 : List Sl} {i : Nat} : ∀ {vs : List Nat}, i ∈ vs → i < ρ2.length → (backR ρ1 ρ2 vs)[i]? = some (keepFr ρ1[i]?)
  | v :: vs, h, hl => by
    unfold backR
    by_cases e : v = i
    · subst e
      rw [List.getElem?_set_self (by rw [backR_len]; exact hl)]
    · rw [List.getElem?_set_ne e]
      rcases List.mem_cons.mp h with z | z
      · exact absurd z.symm e
      · exact backR_in z hl
/-- behind a block: its own names as they were -/
theorem SR.back {ρ1 ρ2 : List Sl} {vs : List Nat} {F1 H1 : Hp} {v : Option V} {t : Sl} (s1 : SR N G F1 H1 σ ρ1) (f : Same F1 F) (s2 : SR N G F H (L2.wipe σ vs ++ [v]) (wipeR ρ2 vs ++ [t])) : SR N G F H (σ ++ [v]) (backR ρ1 (wipeR ρ2 vs) vs ++ [t]) := by
  have l1 := s1.len
  have l2 : σ.length = (wipeR ρ2 vs).length := by have := s2.len; simp [wipe_length] at this; exact this
  refine s2.reix (by simp [backR_len, l2]) (fun i => i) (fun _ _ _ _ e => e) fun i u w h1 h2 => ?_
  by_cases hi : i < σ.length
  · rw [List.getElem?_append_left hi] at h1
    rw [List.getElem?_append_left (by rw [backR_len, ← l2]; exact hi)] at h2
    by_cases hm : i ∈ vs
    · rw [backR_in hm (by rw [← l2]; exact hi)] at h2
      have h2 := Option.some.inj h2
      cases e : ρ1[i]? with
      | none => rw [e] at h2; exact .inl h2.symm
      | some x =>
        rw [e] at h2
        cases x with
        | fr d =>
          refine .inr (.inr ?_)
          obtain ⟨x, hx, r⟩ := s1.fr_at e
          rw [h1] at hx
          exact ⟨d, x, h2.symm, Option.some.inj hx, r.mono f⟩
        | un => exact .inl h2.symm
        | ol d => exact .inl h2.symm
        | od d => exact .inl h2.symm
        | io d => exact .inl h2.symm
    · rw [backR_out hm] at h2
      refine .inr (.inl ⟨?_, ?_⟩)
      · rw [List.getElem?_append_left (by rw [wipe_length]; exact hi), wipe_out hm]; exact h1
      · rw [List.getElem?_append_left (by rw [← l2]; exact hi)]; exact h2
  · refine .inr (.inl ⟨?_, ?_⟩)
    · rw [List.getElem?_append_right (by omega)] at h1
      rw [List.getElem?_append_right (by rw [wipe_length]; omega), wipe_length]; exact h1
    · rw [List.getElem?_append_right (by rw [backR_len, ← l2]; omega), backR_len] at h2
      rw [List.getElem?_append_right (by rw [← l2]; omega)]; exact h2
end

def lcL (own : List Nat) (g : TgF) (ft : M Bool) (fe : M D) : List D → List D → List Sl → Res (List D)
  | [], acc, ρ => .ok acc ρ
  | d :: ds, acc, ρ => match g d ρ with
    | none => .stuck
    | some ρa => match ft ρa with
      | .ok true ρb => match fe ρb with
        | .ok y ρc => if acc.length < sizeLine then lcL own g ft fe ds (acc ++ [y]) (wipeR ρc own) else .stuck
        | _ => .stuck
      | .ok false ρb => lcL own g ft fe ds acc (wipeR ρb own)
      | _ => .stuck
def lcF (own : List Nat) (fi : M (List D)) (g : TgF) (ft : M Bool) (fe : M D) : M Sl := fi.bind fun ds ρ1 => match lcL own g ft fe ds [] (wipeR ρ1 own) with
  | .ok acc ρ2 => .ok (.ol acc) (backR ρ1 (wipeR ρ2 own) own)
  | _ => .stuck
def yesT : M Bool := M.pure true

section
variable {X : Cx} {W : WX}
theorem lc_core' {N : En} {own is : List Nat} {fi : M (List D)} {g : TgF} {ft : M Bool} {fe : M D} (hio : ∀ i ∈ is, i ∈ own) (σ : St) (H : Hp) (Q : VK) (h : tF N W (lcF own fi g ft fe) σ H Q) :
    tLc (tI N W fi) (tG N is g) (tT N W0 ft) (tE N W0 fe) own σ H Q := by
  obtain ⟨G, F, ρ, s, q⟩ := h
  refine ⟨G, F, ρ, s, (RP.bind q).mono fun ds ρ1 F1 H1 s1 f1 ⟨_, _, h1⟩ J hJ => ?_⟩
  intro L hL
  have hF0 : G.F0 L = none := same_none (s1.bs.f0.trans s1.bs.fh) hL
  have hH0 : G.H0 L = none := s1.bs.there L hL
  have hio' : G.io ≠ some L := fun z => s1.bs.iot L z hH0
  obtain ⟨r0, hr0⟩ : ∃ r0, r0 = lcL own g ft fe ds [] (wipeR ρ1 own) := ⟨_, rfl⟩
  rw [← hr0] at h1
  have fin : ∀ {acc : List D} {ρ2 : List Sl} {F2 H2 : Hp} {vs : List V}, r0 = .ok acc ρ2 → SR N (G.hold L (.lst vs)) F2 H2 (L2.wipe σ own) (wipeR ρ2 own) → Same F1 F2 → Reps N F2 vs acc → Q (.ref L) H2 := by
    intro acc ρ2 F2 H2 vs e s2 f2 r
    rw [e] at h1
    have s3 := s2.unhold hH0 hF0 hio' r
    have s4 := SR.back s1 f2 s3
    exact h1 F2 H2 s4.unpush f2 (.ref L) H2 s4
  refine ⟨fun i m H' => m = ds.length - i ∧ i ≤ ds.length ∧ ∃ F' ρ' acc vs, SR N (G.hold L (.lst vs)) F' H' (L2.wipe σ own) (wipeR ρ' own) ∧ Same F1 F' ∧ Reps N F' vs acc ∧ r0 = lcL own g ft fe (ds.drop i) acc (wipeR ρ' own) ∧ r0 ≠ .stuck ∧ (∀ e ρ, r0 ≠ .err e ρ),
    ⟨ds.length, by simp, Nat.zero_le _, F1, ρ1, [], [], (s1.wipe own).hold_new _ hL, Same.refl _, .nil, by rw [hr0]; simp, ?_, ?_⟩, ?_⟩
  · intro z; rw [z] at h1; exact h1
  · intro e ρ z; rw [z] at h1; exact h1
  rintro i m H2 ⟨rfl, hi, F2, ρ2, acc, vs, s2, f2, r2, e2, ns, ne⟩
  by_cases hlt : i < ds.length
  · refine .inr ⟨hJ.go i F2 H2 hlt f2 s2.bs.fh, fun H' => ∃ F' ρ' acc vs, SR N (G.hold L (.lst vs)) F' H' (L2.wipe σ own) (wipeR ρ' own) ∧ Same F1 F' ∧ Reps N F' vs acc ∧ r0 = lcL own g ft fe (ds.drop (i + 1)) acc (wipeR ρ' own) ∧ r0 ≠ .stuck ∧ (∀ e ρ, r0 ≠ .err e ρ),
      fun H' hn => ⟨ds.length - (i + 1), by omega, rfl, hlt, hn⟩, fun x H3 y => ?_⟩
    obtain ⟨F3, d, hd, ex, rx⟩ := hJ.yld i F2 H2 x H3 hlt f2 s2.bs.fh y
    have ed : ds.drop i = d :: ds.drop (i + 1) := by
      rw [List.drop_eq_getElem_cons hlt]
      rw [List.getElem?_eq_getElem hlt] at hd
      cases hd; rfl
    rw [ed] at e2
    unfold lcL at e2
    cases eg : g d (wipeR ρ2 own) with
    | none => rw [eg] at e2; exact absurd e2 ns
    | some ρa =>
      rw [eg] at e2
      dsimp only at e2
      have s3 := s2.ext ex
      refine ⟨_, F3, wipeR ρ2 own, d, ρa, s3, rx, eg, fun σ3 s4 k4 l4 => ⟨?_, ?_⟩⟩
      · exact wipe_congr (fun j hj => (k4 j (fun z => hj (hio j z))).trans (wipe_out hj)) (l4.trans (wipe_length σ own))
      refine ⟨_, F3, ρa, s4, ?_⟩
      have wp : ∀ {ρ5 : List Sl} {F5 H5 : Hp} {vs5 : List V}, SR N (G.hold L (.lst vs5)) F5 H5 σ3 ρ5 → SR N (G.hold L (.lst vs5)) F5 H5 (L2.wipe σ own) (wipeR ρ5 own) := fun {ρ5 F5 H5 vs5} s5 => by
        have := s5.wipe own
        rwa [wipe_congr (σ' := σ3) (σ := σ) (fun j hj => (k4 j (fun z => hj (hio j z))).trans (wipe_out hj)) (l4.trans (wipe_length σ own))] at this
      cases et : ft ρa with
      | stuck => rw [et] at e2; exact absurd e2 ns
      | err x5 ρ5 => rw [et] at e2; exact absurd e2 ns
      | ok b ρb =>
        rw [et] at e2
        intro F5 H5 s5 f5
        cases b with
        | false =>
          rw [if_neg (by decide)]
          exact ⟨F5, ρb, acc, vs, wp s5, f2.trans (ex.ff.trans f5), r2.mono (ex.ff.trans f5), e2, ns, ne⟩
        | true =>
          rw [if_pos rfl]
          dsimp only at e2
          refine ⟨_, F5, ρb, s5, ?_⟩
          cases ee : fe ρb with
          | stuck => rw [ee] at e2; exact absurd e2 ns
          | err x5 ρ5 => rw [ee] at e2; exact absurd e2 ns
          | ok yd ρc =>
            rw [ee] at e2
            dsimp only at e2
            split at e2
            · rename_i hsz
              intro F6 H6 s6 f6 v r
              obtain ⟨hH6, hF6⟩ := s6.held hF0 hio'
              have r6 := r2.mono (ex.ff.trans (f5.trans f6))
              refine ⟨vs, hH6, by rw [r6.length]; exact hsz, F6, ρc, acc ++ [yd], vs ++ [v], ?_, f2.trans (ex.ff.trans (f5.trans f6)), r6.append (.one r), e2, ns, ne⟩
              exact wp (s6.hold_set _ hF6 hio')
            · exact absurd e2 ns
  · have e : i = ds.length := by omega
    subst e
    rw [List.drop_length] at e2
    refine .inl ⟨hJ.stop F2 H2 f2 s2.bs.fh, ?_⟩
    have e3 : r0 = .ok acc (wipeR ρ2 own) := e2
    have ww : wipeR (wipeR ρ2 own) own = wipeR ρ2 own := by
      have gen : ∀ (vs ws : List Nat), (∀ j ∈ ws, j ∈ vs) → wipeR (wipeR ρ2 vs) ws = wipeR ρ2 vs := by
        intro vs ws
        induction ws with
        | nil => intro _; rfl
        | cons w ws ih =>
          intro hs
          show (wipeR (wipeR ρ2 vs) ws).set w .un = wipeR ρ2 vs
          rw [ih fun j hj => hs j (List.mem_cons_of_mem _ hj)]
          have hw := hs w List.mem_cons_self
          have : ∀ vs : List Nat, w ∈ vs → (wipeR ρ2 vs).set w .un = wipeR ρ2 vs := by
            intro vs
            induction vs with
            | nil => intro h; cases h
            | cons v vs ih2 =>
              intro h
              unfold wipeR
              by_cases e : v = w
              · subst e; rw [List.set_set]
              · rw [List.set_comm _ _ e]
                rcases List.mem_cons.mp h with z | z
                · exact absurd z.symm e
                · rw [ih2 z]
          exact this vs hw
      exact gen own own fun _ h => h
    exact fin (ρ2 := wipeR ρ2 own) e3 (by rw [ww]; exact s2) f2 r2
theorem sts_nil : PTs X [] (tT X.en W0 yesT) := by
  refine ⟨fun pins s σ H Q I h => ?_⟩
  obtain ⟨G, F, ρ, s', q⟩ := h
  exact (pts_nil (X := X)).run pins s σ H Q I (RP.pure q s')
theorem sts_one {c : Expr} {f : M Bool} (h : ST X W0 c f) : PTs X [c] (tT X.en W0 f) := pts_one h
/-- [elt for tg in iter if ..], a new list -/
theorem sf_lc {elt tg iter : Expr} {ifs : List Expr} {scope : Scope} {own : List (Str × Nat)} {is : List Nat} {pos : Pos} {fi : M (List D)} {g : TgF} {ft : M Bool} {fe : M D} (hc : X.calm = true) (hN : X.N.Nodup) (hi : SI X W tg iter fi) (ok : BlkOk X.N X.env.scope scope own)
    (hg : ∀ (s : Shared) (H : Hp) (C : Addr) (cl : List (Str × Addr)) (fp : List Addr), SG (X.blk s H scope (compEnvC scope cl C X.env) fp) is tg g) (ht : ∀ (s : Shared) (H : Hp) (C : Addr) (cl : List (Str × Addr)) (fp : List Addr), PTs (X.blk s H scope (compEnvC scope cl C X.env) fp) ifs (tT X.en W0 ft))
    (he : ∀ (s : Shared) (H : Hp) (C : Addr) (cl : List (Str × Addr)) (fp : List Addr), SE (X.blk s H scope (compEnvC scope cl C X.env) fp) W0 elt fe) (his : ∀ i ∈ is, i ∈ own.map (·.2) := by decide) (hs : ∀ x, foldedSetIterable iter X.env x = pure x := by intro _; rfl) :
    SF X W (.ListComp elt [⟨tg, iter, ifs, 0⟩] scope pos) (lcF (own.map (·.2)) fi g ft fe) := by
  refine (pe_lc (g := tG X.en is g) (tt := tT X.en W0 ft) (te := tE X.en W0 fe) hc hN hi ok (fun s H C cl fp => hg s H C cl fp) ht (fun s H C cl fp => he s H C cl fp) hs).weak ?_
  intro σ H Q h
  exact lc_core' his σ H Q h
/-- name = [..] on one line, the name a local -/
theorem ss_setLc {i : Nat} {y : Str} {py : Pos} {elt tg iter : Expr} {ifs : List Expr} {scope : Scope} {own : List (Str × Nat)} {is : List Nat} {pos spos : Pos} {fi : M (List D)} {g : TgF} {ft : M Bool} {fe : M D} (hc : X.calm = true) (hN : X.N.Nodup) (hi : SI X W tg iter fi) (ok : BlkOk X.N X.env.scope scope own)
    (hg : ∀ (s : Shared) (H : Hp) (C : Addr) (cl : List (Str × Addr)) (fp : List Addr), SG (X.blk s H scope (compEnvC scope cl C X.env) fp) is tg g) (ht : ∀ (s : Shared) (H : Hp) (C : Addr) (cl : List (Str × Addr)) (fp : List Addr), PTs (X.blk s H scope (compEnvC scope cl C X.env) fp) ifs (tT X.en W0 ft))
    (he : ∀ (s : Shared) (H : Hp) (C : Addr) (cl : List (Str × Addr)) (fp : List Addr), SE (X.blk s H scope (compEnvC scope cl C X.env) fp) W0 elt fe)
    (hsw : swapsWith (.ListComp elt [⟨tg, iter, ifs, 0⟩] scope pos) (some (.Name y py)) spos.line X.env = pure true)
    (hy : X.N[i]? = some y := by rfl) (hyl : X.env.scope.names.lookup y = some .local := by rfl) (his : ∀ i ∈ is, i ∈ own.map (·.2) := by decide) (hs : ∀ x, foldedSetIterable iter X.env x = pure x := by intro _; rfl) :
    SS X W (.Assign [.Name y py] (.ListComp elt [⟨tg, iter, ifs, 0⟩] scope pos) spos) (setF i (lcF (own.map (·.2)) fi g ft fe)) := by
  refine (ps_setLc (g := tG X.en is g) (tt := tT X.en W0 ft) (te := tE X.en W0 fe) hc hN hy hyl hsw hi ok (fun s H C cl fp => hg s H C cl fp) ht (fun s H C cl fp => he s H C cl fp) hs).weak ?_
  rintro σ H D ⟨G, F, ρ, s, q⟩
  refine lc_core' (W := W) his σ H _ ⟨G, F, ρ, s, (FP.of q).mono fun o ρ1 F1 H1 s1 f1 h1 v H2 s2 => FP.nxt h1 (s2.move i)⟩

inductive FRes where
  | ok (d : D) (row : Option (List D))
  | err (e : Ex) (row : Option (List D))
  | stuck
abbrev Fs := Option (List D) → List D → FRes
def argSl : Option (List D) → List D → List Sl
  | none, ds => ds.map .fr
  | some xs, ds => .io xs :: ds.map .fr
def spOf (N : En) (n : Nat) (fs : Fs) : Sp := fun vs H Q E => vs.length = n ∧ ∃ (G : Ent) (row : Option (List D)) (ds : List D) (F : Hp), SR N G F H (vs.map some) (argSl row ds) ∧ match fs row ds with
  | .ok d row' => ∀ v F' H', SR N G F' H' (vs.map some) (argSl row' ds) → Same F F' → Rep N F' v d → Q v H'
  | .err e row' => ∀ cls dd F' H', SR N G F' H' (vs.map some) (argSl row' ds) → Same F F' → ExR N F' H' cls dd e → E cls dd H'
  | .stuck => False
/-- the row behind the body -/
def rowOf : Option (List D) → List Sl → Option (Option (List D))
  | none, _ => some none
  | some _, .io xs :: _ => some (some xs)
  | some _, _ => none
/-- a def by its body: k more names than parameters -/
def runB (k : Nat) (b : MS) : Fs := fun row ds => match b (argSl row ds ++ List.replicate k .un) with
  | .nx ρ => match rowOf row ρ with
    | some r => .ok .none r
    | none => .stuck
  | .rt d ρ => match rowOf row ρ with
    | some r => .ok d r
    | none => .stuck
  | .er e ρ => match rowOf row ρ with
    | some r => .err e r
    | none => .stuck
  | _ => .stuck
theorem SR.more {N : En} {G : Ent} {F H : Hp} {σ : St} {ρ : List Sl} (s : SR N G F H σ ρ) (k : Nat) : SR N G F H (σ ++ List.replicate k none) (ρ ++ List.replicate k .un) := by
  have hl := s.len
  refine s.reix (by simp [hl]) (fun i => i) (fun _ _ _ _ e => e) fun i v t h1 h2 => ?_
  by_cases hi : i < σ.length
  · rw [List.getElem?_append_left hi] at h1
    rw [List.getElem?_append_left (by omega)] at h2
    exact .inr (.inl ⟨h1, h2⟩)
  · rw [List.getElem?_append_right (by omega)] at h2
    rw [List.getElem?_replicate] at h2
    split at h2
    · cases h2; exact .inl rfl
    · cases h2
/-- the arguments behind the body -/
theorem SR.args {N : En} {G : Ent} {F H F' H' : Hp} {vs : List V} {σ' : St} {ρ' : List Sl} {row row' : Option (List D)} {ds : List D} (s : SR N G F H (vs.map some) (argSl row ds)) (s' : SR N G F' H' σ' ρ') (f : Same F F') (e : rowOf row ρ' = some row') :
    SR N G F' H' (vs.map some) (argSl row' ds) := by
  have frs : ∀ {i : Nat} {v : Option V} {d : D}, (vs.map some)[i]? = some v → (argSl row ds)[i]? = some (.fr d) → ∃ x, v = some x ∧ Rep N F' x d := fun {i v d} h1 h2 => by
    obtain ⟨x, e, r⟩ := s.sl i v _ h1 h2
    exact ⟨x, e, r.mono f⟩
  cases row with
  | none =>
    cases e
    refine ⟨s'.bs, by have := s.len; simpa [argSl] using this, fun i v t h1 h2 => ?_, fun i j a t t' h1 h2 h3 => ?_⟩
    · have : ∃ d, t = .fr d := by
        simp only [argSl, List.nil_append, List.getElem?_map] at h2
        cases q : ds[i]? with
        | none => rw [q] at h2; cases h2
        | some d => rw [q] at h2; exact ⟨d, (Option.some.inj h2).symm⟩
      obtain ⟨d, rfl⟩ := this
      exact frs h1 h2
    · have : ∃ d, t = .fr d := by
        simp only [argSl, List.nil_append, List.getElem?_map] at h2
        cases q : ds[i]? with
        | none => rw [q] at h2; cases h2
        | some d => rw [q] at h2; exact ⟨d, (Option.some.inj h2).symm⟩
      obtain ⟨d, rfl⟩ := this
      cases h3
  | some xs =>
    have hx : ∃ xs', ρ'[0]? = some (.io xs') ∧ row' = some xs' := by
      cases ρ' with
      | nil => cases e
      | cons t ρ'' =>
        cases t with
        | io xs' => cases e; exact ⟨xs', rfl, rfl⟩
        | un => cases e
        | fr d => cases e
        | ol d => cases e
        | od d => cases e
    obtain ⟨xs', hx, rfl⟩ := hx
    clear e
    · skip
      have tail : ∀ {i : Nat} {t : Sl} {ys : List D}, (argSl (some ys) ds)[i + 1]? = some t → ∃ d, t = .fr d ∧ (argSl (some xs) ds)[i + 1]? = some (.fr d) := fun {i t ys} h2 => by
        simp only [argSl, List.cons_append, List.nil_append, List.getElem?_cons_succ, List.getElem?_map] at h2 ⊢
        cases q : ds[i]? with
        | none => rw [q] at h2; cases h2
        | some d => rw [q] at h2; exact ⟨d, (Option.some.inj h2).symm, rfl⟩
      refine ⟨s'.bs, by have := s.len; simpa [argSl] using this, fun i v t h1 h2 => ?_, fun i j a t t' h1 h2 h3 h4 h5 h6 => ?_⟩
      · cases i with
        | zero =>
          have ht : t = .io xs' := by simpa [argSl] using h2.symm
          subst ht
          obtain ⟨w, hw, a, us, rfl, hH, r, hF, hio⟩ := s'.at_own hx
          obtain ⟨a0, us0, e0, _, _, _, hio0⟩ := s.sl 0 v (.io xs) h1 (by simp [argSl])
          rw [hio] at hio0
          cases hio0
          exact ⟨a, us, e0, hH, r, hF, hio⟩
        | succ i =>
          obtain ⟨d, rfl, h2'⟩ := tail h2
          exact frs h1 h2'
      · cases i with
        | zero =>
          cases j with
          | zero => rfl
          | succ j => obtain ⟨d, rfl, _⟩ := tail h5; cases h6
        | succ i => obtain ⟨d, rfl, _⟩ := tail h2; cases h3

/-- a def that is known: by its semantic function -/
structure FnS (P : Program) (w : World) (K : PySem.W.Frag) (mg : Str → Option Value) (base : Heap) (k : Nat) (x : Str) (n : Nat) (fs : Fs) : Prop where
  ex : ∃ f fd ps, FnOk P w K mg base (L2.CX P w) k f fd ps (spOf ⟨K, w, mg⟩ n fs) ∧ mg x = some (.ref f) ∧ PySem.W.keepIn K (.ref f) = true ∧ Binds K fd ps []
theorem FnS.mono {P : Program} {w : World} {K : PySem.W.Frag} {mg : Str → Option Value} {base : Heap} {j k : Nat} {x : Str} {n : Nat} {fs : Fs} (F : FnS P w K mg base j x n fs) (h : j ≤ k) : FnS P w K mg base k x n fs :=
  let ⟨f, fd, ps, a, b⟩ := F.ex; ⟨f, fd, ps, a.mono h, b⟩
/-- the same def by another function that says the same -/
theorem FnS.by {P : Program} {w : World} {K : PySem.W.Frag} {mg : Str → Option Value} {base : Heap} {k : Nat} {x : Str} {n : Nat} {fs gs : Fs} (F : FnS P w K mg base k x n fs) (h : ∀ row ds, gs row ds ≠ .stuck → fs row ds = gs row ds) : FnS P w K mg base k x n gs := by
  obtain ⟨f, fd, ps, a, b⟩ := F.ex
  refine ⟨f, fd, ps, a.imp fun vs H Q E q => ?_, b⟩
  obtain ⟨hl, G, row, ds, F, s, q⟩ := q
  refine ⟨hl, G, row, ds, F, s, ?_⟩
  rw [h row ds (fun z => by rw [z] at q; exact q)]
  exact q
/-- what a body may use -/
structure Ok (X : Cx) (W : WX) (k : Nat) : Prop where
  calm : X.calm = true
  nd : X.N.Nodup
  room : Room k X.A
  takes : Takes X W
  pass : PassesOwn (model X.prog X.w) X.A X.env X.xe
theorem fn_def {P : Program} {w : World} {K : PySem.W.Frag} {mg : Str → Option Value} {base : Heap} {x qual : Str} {st : Stmt} {f : Addr} {fd : FuncData} {Nn ps : List Str} {k : Nat} {b : MS} (F : Fun K x qual st f fd) (S : FnScope Nn ps (defScope st)) (hm : mg x = some (.ref f)) (hb : Binds K fd ps [])
    (hbody : ∀ (X : Cx) (W : WX), X.prog = P → X.w = w → X.K = K → X.mg = mg → X.base = base → X.N = Nn → X.env.scope = defScope st → X.fn = (fun _ => true) → Ok X W k → SSs X W (defBody st) b) : FnS P w K mg base (k + 1) x ps.length (runB (Nn.length - ps.length) b) := by
  refine ⟨f, fd, ps, F.okX S (fun vs H Q E h => h.1) (fun cdv A outer s H vs Q E hr h => ?_), hm, F.kp, hb⟩
  obtain ⟨hl, G, row, ds, F0, s0, q⟩ := h
  let X := cxOf (L2.CX P w) P w K mg base Nn qual (defScope st) f cdv A outer s H E
  have ok : Ok X (fun cls d _ H => E cls d H) k := ⟨rfl, S.nd, hr, takes_of rfl rfl rfl rfl, passes_of rfl⟩
  refine ⟨_, hbody X _ rfl rfl rfl rfl rfl rfl rfl rfl ok, G, F0, argSl row ds ++ List.replicate (Nn.length - ps.length) .un, ?_, ?_⟩
  · have := s0.more (Nn.length - ps.length)
    unfold start
    rw [hl]
    exact this
  · unfold runB at q
    cases e : b (argSl row ds ++ List.replicate (Nn.length - ps.length) .un) with
    | nx ρ =>
      rw [e] at q
      intro F' H' σ' s' f'
      dsimp only at q
      cases hr' : rowOf row ρ with
      | none => rw [hr'] at q; exact q.elim
      | some r =>
        rw [hr'] at q
        exact q .non F' H' (s0.args s' f' hr') f' .non
    | rt d ρ =>
      rw [e] at q
      intro F' H' σ' v s' f' rv
      dsimp only at q
      cases hr' : rowOf row ρ with
      | none => rw [hr'] at q; exact q.elim
      | some r =>
        rw [hr'] at q
        exact q v F' H' (s0.args s' f' hr') f' rv
    | er x ρ =>
      rw [e] at q
      intro cls dd F' H' σ' s' f' rx
      dsimp only at q
      cases hr' : rowOf row ρ with
      | none => rw [hr'] at q; exact q.elim
      | some r =>
        rw [hr'] at q
        exact q cls dd F' H' (s0.args s' f' hr') f' rx
    | bk ρ => rw [e] at q; exact q.elim
    | ct ρ => rw [e] at q; exact q.elim
    | stuck => rw [e] at q; exact q.elim

def callS (fa : M (List D)) (fs : Fs) : M D := fa.bind fun ds ρ => match fs none ds with
  | .ok d _ => .ok d ρ
  | .err e _ => .err e ρ
  | .stuck => .stuck
def callR (i : Nat) (fa : M (List D)) (fs : Fs) : M D := fun ρ0 => match ρ0[i]?.bind Sl.lget with
  | none => .stuck
  | some _ => fa.bind (fun ds ρ => match ρ[i]? with
    | some t => match t.lget with
      | some xs => match fs (some xs) ds with
        | .ok d (some ys) => .ok d (ρ.set i (t.lput ys))
        | .err e (some ys) => .err e (ρ.set i (t.lput ys))
        | _ => .stuck
      | none => .stuck
    | none => .stuck) ρ0
theorem argSl_none (ds : List D) : argSl none ds = ds.map .fr := rfl
/-- the state at a call -/
theorem SR.enter {N : En} {F H : Hp} (h : Same F H) {vs : List V} {ds : List D} (r : Reps N F vs ds) : SR N ⟨F, H, none⟩ F H (vs.map some) (argSl none ds) where
  bs := ⟨Same.refl _, h, fun _ _ e _ => e, fun _ e => e, fun _ e _ => e, fun _ e => by cases e⟩
  len := by simp [argSl, r.length]
  sl := fun i v t h1 h2 => by
    simp only [argSl, List.nil_append, List.getElem?_map] at h1 h2
    cases q : ds[i]? with
    | none => rw [q] at h2; cases h2
    | some d =>
      rw [q] at h2
      obtain ⟨x, e1, e2⟩ := r.get q
      rw [e1] at h1
      cases h1
      cases h2
      exact ⟨x, rfl, e2⟩
  inj := fun i j a t t' h1 h2 h3 => by
    simp only [argSl, List.nil_append, List.getElem?_map] at h2
    cases q : ds[i]? with
    | none => rw [q] at h2; cases h2
    | some d => rw [q] at h2; cases h2; cases h3
theorem Bs.toExt {F H F' H' : Hp} (b : Bs ⟨F, H, none⟩ F' H') : Ext F H F' H' := ⟨b.f0, fun a o e => b.keep a o e (by simp), b.fh, b.new⟩
theorem se_fn {k n : Nat} {x : Str} {fs : Fs} {fa : M (List D)} {e : Expr} {es : List Expr} {p pos : Pos} (F : FnS X.prog X.w X.K X.mg X.base k x n fs) (hr : Room k X.A) (tk : Takes X W) (hg : Gl X x) (ha : SAn X W n (e :: es) fa)
    (hdb : (x == ("__debug__" : Str)) = false := by decide) (he : starEach (e :: es) X.env = (false, eval e X.env) :: starEach es X.env := by rfl) (hpl : (backTo pos (starEach es X.env)).any (·.1) = false := by rfl) : SE X W (.Call (.Name x p) (e :: es) [] pos) (callS fa fs) := by
  obtain ⟨f, fd, ps, a, hm, hk, hb⟩ := F.ex
  refine (pe_callS (E := WE W) a hr hg hm hk hb (passAt tk) ha hdb he hpl).weak ?_
  rintro σ H Q ⟨G, F, ρ, s, q⟩
  refine ⟨G, F, ρ, s, (RP.bind q).mono fun ds ρ1 F1 H1 s1 f1 ⟨_, _, h1⟩ hl vs rs => ?_⟩
  refine ⟨by rw [rs.length, hl], ⟨F1, H1, none⟩, none, ds, F1, SR.enter s1.bs.fh rs, ?_⟩
  cases e2 : fs none ds with
  | ok d row =>
    rw [e2] at h1
    intro v F2 H2 s2 f2 r
    exact h1 F2 H2 (s1.ext s2.bs.toExt) f2 v r
  | err x row =>
    rw [e2] at h1
    intro cls dd F2 H2 s2 f2 r
    exact h1 cls dd F2 H2 (s1.ext s2.bs.toExt) f2 r
  | stuck => rw [e2] at h1; exact h1
end
end L2.Sc
set_option Elab.async false
set_option linter.all false
set_option maxRecDepth 100000
set_option maxHeartbeats 2000000
namespace L2.Sc
open PySem PySem.Spec PyProof.Rows

section
variable {X : Cx} {W : WX}
/-- f(row, e, ..) where the def writes the row at slot i -/
theorem se_fnR {k n i : Nat} {x y : Str} {fs : Fs} {fa : M (List D)} {es : List Expr} {p pos npos : Pos} (F : FnS X.prog X.w X.K X.mg X.base k x (n + 1) fs) (hr : Room k X.A) (tk : Takes X W) (hg : Gl X x) (ha : SAn X W n es fa)
    (hN : X.N[i]? = some y := by rfl) (hv : Vis X.env.scope y := by first | exact Or.inl rfl | exact Or.inr (Or.inl rfl) | exact Or.inr (Or.inr rfl)) (hd : (y == ("__debug__" : Str)) = false := by decide)
    (hcd : (y == ("__classdict__" : Str)) = false := by decide)
    (hdb : (x == ("__debug__" : Str)) = false := by decide) (he : starEach (.Name y npos :: es) X.env = (false, eval (.Name y npos) X.env) :: starEach es X.env := by rfl) (hpl : (backTo pos (starEach es X.env)).any (·.1) = false := by rfl) : SE X W (.Call (.Name x p) (.Name y npos :: es) [] pos) (callR i fa fs) := by
  obtain ⟨f, fd, ps, a, hm, hk, hb⟩ := F.ex
  refine (pe_callS (E := WE W) a hr hg hm hk hb (passAt tk) (pa_cons (pe_var hN hv hd hcd) ha he) hdb he hpl).weak ?_
  rintro σ H Q ⟨G, F, ρ, s, q⟩
  unfold callR at q
  split at q
  · exact q.elim
  · rename_i ds0 e0
    obtain ⟨t0, ht0, hl0⟩ := Option.bind_eq_some_iff.mp e0
    obtain ⟨ad, vs0, hv0, hH0, _, _⟩ := s.own_lst ht0 hl0
    refine ⟨.ref ad, hv0, G, F, ρ, s, (RP.bind q).mono fun ds ρ1 F1 H1 s1 f1 ⟨_, _, h1⟩ hl vs rs => ?_⟩
    split at h1
    · rename_i t ht
      split at h1
      · rename_i xs hxs
        obtain ⟨a', us, hv1, hH1, rus, wr⟩ := s1.own_lst ht hxs
        rw [hv0] at hv1
        cases hv1
        have hF1 : F1 ad = none := by
          obtain ⟨v, hv, q⟩ := s1.at_own ht
          rw [hv0] at hv
          cases hv
          cases t with
          | ol d => obtain ⟨b, _, e, _, _, h, _⟩ := q; cases e; exact h
          | io d => obtain ⟨b, _, e, _, _, h, _⟩ := q; cases e; exact h
          | un => cases hxs
          | fr d => cases hxs
          | od d => cases hxs
        have ent : SR X.en ⟨F1, H1, some ad⟩ F1 H1 ((V.ref ad :: vs).map some) (argSl (some xs) ds) := by
          refine ⟨⟨Same.refl _, s1.bs.fh, fun _ _ e _ => e, fun _ e => e, fun _ e _ => e, fun b e => ?_⟩, by simp [argSl, rs.length], fun j v u h2 h3 => ?_, fun j j' b u u' h2 h3 h4 h5 h6 h7 => ?_⟩
          · cases e
            show H1 ad ≠ none
            rw [hH1]; simp
          · cases j with
            | zero =>
              simp only [List.map_cons, List.getElem?_cons_zero, argSl] at h2 h3
              cases h2; cases h3
              exact ⟨ad, us, rfl, hH1, rus, hF1, rfl⟩
            | succ j =>
              simp only [List.map_cons, List.getElem?_cons_succ, argSl, List.getElem?_map] at h2 h3
              cases qd : ds[j]? with
              | none => rw [qd] at h3; cases h3
              | some d =>
                rw [qd] at h3
                obtain ⟨x', e1, e2⟩ := rs.get qd
                rw [e1] at h2
                cases h2
                cases h3
                exact ⟨x', rfl, e2⟩
          · have z : ∀ {j : Nat} {u : Sl}, (argSl (some xs) ds)[j]? = some u → u.own = true → j = 0 := fun {j u} h3 h4 => by
              cases j with
              | zero => rfl
              | succ j =>
                simp only [argSl, List.getElem?_cons_succ, List.getElem?_map] at h3
                cases qd : ds[j]? with
                | none => rw [qd] at h3; cases h3
                | some d => rw [qd] at h3; cases h3; cases h4
            rw [z h3 h4, z h6 h7]
        -- behind the call
        have aft : ∀ {F2 H2 : Hp} {ys : List D}, SR X.en ⟨F1, H1, some ad⟩ F2 H2 ((V.ref ad :: vs).map some) (argSl (some ys) ds) → SR X.en G F2 H2 σ (ρ1.set i (t.lput ys)) := fun {F2 H2 ys} s2 => by
          obtain ⟨b, ws, e, hH2, rws, hF2, hio⟩ := s2.sl 0 (some (.ref ad)) (.io ys) rfl rfl
          cases hio
          have old : Ext F1 H1 F2 (upd H2 ad (.lst us)) := {
            ff := s2.bs.f0
            hh := fun c o ec => by
              by_cases hc : c = ad
              · subst hc; rw [upd_same]; rw [hH1] at ec; exact ec
              · rw [upd_ne hc]; exact s2.bs.keep c o ec (fun z => hc (Option.some.inj z).symm)
            fh := fun c o ec => by
              rw [upd_ne (fun z => by subst z; rw [hF2] at ec; cases ec)]
              exact s2.bs.fh c o ec
            new := s2.bs.new }
          have s3 := s1.ext old
          obtain ⟨a2, us2, hv2, hH3, _, wr2⟩ := s3.own_lst ht hxs
          rw [hv0] at hv2
          cases hv2
          have s4 := wr2 ws ys rws
          have eh : upd (upd H2 ad (.lst us)) ad (.lst ws) = H2 := by
            rw [upd_upd]
            funext c
            unfold upd
            split
            · rename_i hc; rw [hc]; exact hH2.symm
            · rfl
          rw [eh] at s4
          exact s4
        refine ⟨by simp [rs.length, hl], ⟨F1, H1, some ad⟩, some xs, ds, F1, ent, ?_⟩
        cases e2 : fs (some xs) ds with
        | ok d row =>
          rw [e2] at h1
          cases row with
          | none => exact h1.elim
          | some ys =>
            intro v F2 H2 s2 f2 r
            exact h1 F2 H2 (aft s2) f2 v r
        | err x row =>
          rw [e2] at h1
          cases row with
          | none => exact h1.elim
          | some ys =>
            intro cls dd F2 H2 s2 f2 r
            exact h1 cls dd F2 H2 (aft s2) f2 r
        | stuck => rw [e2] at h1; exact h1
      · exact h1.elim
    · exact h1.elim
end

def intO (g : Int → Int → Option Int) : D → D → Option D
  | .int i, .int j => (g i j).map .int
  | _, _ => none
def mulOk (i j : Int) : Bool := decide (i.natAbs.log2 + j.natAbs.log2 < 1000000)
theorem mulOk_ok {i j : Int} (h : mulOk i j = true) : CMulW i j := by
  unfold mulOk at h
  have h2 := of_decide_eq_true h
  exact h2
def divOk (j : Int) : Bool := decide (0 < j) && decide (j.natAbs.log2 < 9000)
def addO : D → D → Option D
  | .int i, .int j => some (.int (i + j))
  | .tuple xs, .tuple ys => if xs.length + ys.length ≤ sizeLine then some (.tuple (xs ++ ys)) else none
  | .str x, .str y => if x.length + y.length ≤ sizeLine then some (.str (x ++ y)) else none
  | _, _ => none
def addL : D → D → Option (List D)
  | .list xs, .list ys => if xs.length + ys.length ≤ sizeLine then some (xs ++ ys) else none
  | _, _ => none
def subO : D → D → Option D
  | .int i, .int j => some (.int (i - j))
  | _, _ => none
def mulO : D → D → Option D
  | .int i, .int j => if mulOk i j = true then some (.int (i * j)) else none
  | _, _ => none
def mulL : D → D → Option (List D)
  | .list xs, .int k => if small k = true ∧ xs.length * k.toNat ≤ sizeLine then some (List.replicate k.toNat xs).flatten else none
  | _, _ => none
def fdivO : D → D → Option D
  | .int i, .int j => if divOk j = true then some (.int (i / j)) else none
  | _, _ => none
def modO : D → D → Option D
  | .int i, .int j => if j = 0 then none else some (.int (i.fmod j))
  | _, _ => none
def powO : D → D → Option D
  | .int i, .int j => if 0 ≤ j ∧ j ≤ 1000000 ∧ i.natAbs < 2 ^ 64 then some (.int (i ^ j.toNat)) else none
  | _, _ => none
def negO : D → Option D
  | .int i => some (.int (-i))
  | _ => none
section
variable {X : Cx} {N : En}
theorem DOp.or {r r' : R2} {g : D → D → Option D} (h : ∀ (F H : Hp) (x y : V) (a b d : D) (Q : VK), Same F H → BRep N F H x a → BRep N F H y b → g a b = some d → (∀ v F' H', Ext F H F' H' → Rep N F' v d → Q v H') → r x y H Q ∨ r' x y H Q) : DOp N (fun x y H Q => r x y H Q ∨ r' x y H Q) g := h
def rAdd (K : PySem.W.Frag) : R2 := fun x y H Q => rI0 (fun i j => .int (i + j)) x y H Q ∨ (rCatA K x y H Q ∨ (∃ i j, x = .str i ∧ y = .str j ∧ i.length + j.length ≤ sizeLine ∧ Q (.str (i ++ j)) H))
theorem op_addA : OpR X (binaryOp .Add) (rAdd X.K) := op_add.or (op_catA.or op_add_str)
theorem dop_add : DOp N (rAdd N.K) addO := by
  intro F H x y a b d Q h ra rb e q
  unfold addO at e
  split at e
  · cases e
    exact .inl ⟨_, _, ra.int, rb.int, q _ _ _ (Ext.refl h) (.int _)⟩
  · rename_i xs ys
    split at e
    · rename_i hz
      cases e
      obtain ⟨p, vs, rfl, s1, r1⟩ := ra.tup h
      obtain ⟨p', ws, rfl, s2, r2⟩ := rb.tup h
      refine .inr (.inl ⟨p, p', vs, ws, rfl, rfl, s1, s2, by rw [r1.length, r2.length]; exact hz, fun e => ?_, fun _ e => ?_, fun _ _ n hn => ?_⟩)
      · subst e
        cases r1
        cases rb with
        | va rb => exact q _ _ _ (Ext.refl h) rb
      · subst e
        cases r2
        rw [List.append_nil] at q
        cases ra with
        | va ra => exact q _ _ _ (Ext.refl h) ra
      · have x' := Ext.one h (.tup (vs ++ ws)) hn
        exact q _ _ _ x' (.tup (.inl (.inl upd_same)) ((r1.append r2).mono x'.ff))
    · cases e
  · split at e
    · rename_i hz
      cases e
      exact .inr (.inr ⟨_, _, ra.str, rb.str, hz, q _ _ _ (Ext.refl h) (.str _)⟩)
    · cases e
  · cases e
theorem dopf_add : DOpF N rCat addL := by
  intro F H x y a b ds Q h ra rb e q
  unfold addL at e
  split at e
  · split at e
    · rename_i hz
      cases e
      obtain ⟨p, vs, rfl, s1, r1⟩ := ra.lst h
      obtain ⟨p', ws, rfl, s2, r2⟩ := rb.lst h
      exact ⟨p, p', vs, ws, rfl, rfl, s1, s2, by rw [r1.length, r2.length]; exact hz, fun n hn => q n _ hn (r1.append r2)⟩
    · cases e
  · cases e
theorem dop_sub : DOp N (rI0 fun i j => .int (i - j)) subO := by
  intro F H x y a b d Q h ra rb e q
  unfold subO at e
  split at e
  · cases e; exact ⟨_, _, ra.int, rb.int, q _ _ _ (Ext.refl h) (.int _)⟩
  · cases e
theorem dop_mul : DOp N (rI CMulW fun i j => .int (i * j)) mulO := by
  intro F H x y a b d Q h ra rb e q
  unfold mulO at e
  split at e
  · split at e
    · rename_i hm
      cases e; exact ⟨_, _, ra.int, rb.int, mulOk_ok hm, q _ _ _ (Ext.refl h) (.int _)⟩
    · cases e
  · cases e
theorem Reps.flat {F : Hp} {vs : List V} {ds : List D} (r : Reps N F vs ds) : ∀ n : Nat, Reps N F (List.replicate n vs).flatten (List.replicate n ds).flatten
  | 0 => .nil
  | n + 1 => by
    rw [List.replicate_succ, List.replicate_succ, List.flatten_cons, List.flatten_cons]
    exact r.append (Reps.flat r n)
theorem dopf_mul : DOpF N rRep mulL := by
  intro F H x y a b ds Q h ra rb e q
  unfold mulL at e
  split at e
  · split at e
    · rename_i hz
      cases e
      obtain ⟨p, vs, rfl, s1, r1⟩ := ra.lst h
      have hk := small_b hz.1
      exact ⟨p, _, vs, rfl, rb.int, s1, by omega, by omega, by rw [r1.length]; exact hz.2, fun n hn => q n _ hn (r1.flat _)⟩
    · cases e
  · cases e
theorem dop_fdiv : DOp N (rI CDivW fun i j => .int (i / j)) fdivO := by
  intro F H x y a b d Q h ra rb e q
  unfold fdivO at e
  split at e
  · split at e
    · rename_i hm
      unfold divOk at hm
      rw [Bool.and_eq_true] at hm
      cases e; exact ⟨_, _, ra.int, rb.int, ⟨of_decide_eq_true hm.1, of_decide_eq_true hm.2⟩, q _ _ _ (Ext.refl h) (.int _)⟩
    · cases e
  · cases e
theorem dop_mod : DOp N (rI (fun _ j => j ≠ 0) fun i j => .int (i.fmod j)) modO := by
  intro F H x y a b d Q h ra rb e q
  unfold modO at e
  split at e
  · split at e
    · cases e
    · rename_i hm
      cases e; exact ⟨_, _, ra.int, rb.int, hm, q _ _ _ (Ext.refl h) (.int _)⟩
  · cases e
theorem dop_pow : DOp N (rI CPow fun i j => .int (i ^ j.toNat)) powO := by
  intro F H x y a b d Q h ra rb e q
  unfold powO at e
  split at e
  · split at e
    · rename_i hm
      cases e; exact ⟨_, _, ra.int, rb.int, hm, q _ _ _ (Ext.refl h) (.int _)⟩
    · cases e
  · cases e
theorem dneg : ∀ (F H : Hp) (x : V) (a d : D) (Q : VK), Rep N F x a → negO a = some d → (∀ v, Rep N F v d → Q v H) → rU (fun i => .int (-i)) x H Q := by
  intro F H x a d Q r e q
  unfold negO at e
  split at e
  · cases e; cases r; exact ⟨_, rfl, q _ (.int _)⟩
  · cases e

def cmpB (p : Int → Int → Bool) : D → D → Option Bool
  | .int i, .int j => some (p i j)
  | _, _ => none
theorem dopB {r : R2} {g : D → D → Option Bool} (k : ∀ (F H : Hp) (x y : V) (a b : D) (c : Bool) (Q : VK), Same F H → BRep N F H x a → BRep N F H y b → g a b = some c → Q (.bl c) H → r x y H Q) : DOp N r (fun a b => (g a b).map .bool) := by
  intro F H x y a b d Q h ra rb e q
  cases eg : g a b with
  | none => rw [show (fun a b => (g a b).map PyData.bool) a b = (g a b).map PyData.bool from rfl, eg] at e; cases e
  | some c =>
    rw [show (fun a b => (g a b).map PyData.bool) a b = (g a b).map PyData.bool from rfl, eg] at e
    cases e
    exact k F H x y a b c Q h ra rb eg (q _ _ _ (Ext.refl h) (.bl _))
theorem dop_cmp (p : Int → Int → Bool) : DOp N (rI0 fun i j => .bl (p i j)) (fun a b => (cmpB p a b).map .bool) := by
  refine dopB fun F H x y a b d Q h ra rb e q => ?_
  unfold cmpB at e
  split at e
  · cases e; exact ⟨_, _, ra.int, rb.int, q⟩
  · cases e
/-- data without dicts, not too deep -/
def eqB (a b : D) : Option Bool := if SeqAt.shaped a = true ∧ SeqAt.shaped b = true then some (PyData.eqv a b) else none
def neB (a b : D) : Option Bool := (eqB a b).map (!·)
theorem canLayAll_mem : ∀ {ds : List D}, PyData.canLayAll0 ds = true → ∀ d ∈ ds, PyData.canLay0 d = true
  | [], _, _, h => by cases h
  | d :: ds, h, e, he => by
    unfold PyData.canLayAll0 at h
    rw [Bool.and_eq_true] at h
    rcases List.mem_cons.mp he with z | z
    · rw [z]; exact h.1
    · exact canLayAll_mem h.2 e z
mutual
theorem Rep.dp {F H : Hp} (h : Same F H) : ∀ {v : V} {d : D}, Rep N F v d → PyData.canLay0 d = true → Dp N.K H v d
  | _, _, .non, _ => .non
  | _, _, .bl b, _ => .bl b
  | _, _, .int i, _ => .int i
  | _, _, .str x, _ => .str x
  | _, _, .lst s r, e => .lst (SqL.of (h _ _ s)) (r.dp h (by unfold PyData.canLay0 at e; exact e))
  | _, _, .tup s r, e => .tup (SqT_mono h s) (r.dp h (by unfold PyData.canLay0 at e; exact e))
  | _, _, .dct _ _ _ _, e => by unfold PyData.canLay0 at e; cases e
  | _, _, .scr _ _, e => by unfold PyData.canLay0 at e; cases e
theorem Reps.dp {F H : Hp} (h : Same F H) : ∀ {vs : List V} {ds : List D}, Reps N F vs ds → PyData.canLayAll0 ds = true → DpAll N.K H vs ds
  | _, _, .nil, _ => .nil
  | _, _, .cons a b, e => .cons (a.dp h (by unfold PyData.canLayAll0 at e; rw [Bool.and_eq_true] at e; exact e.1)) (b.dp h (by unfold PyData.canLayAll0 at e; rw [Bool.and_eq_true] at e; exact e.2))
end
theorem BRep.dp {F H : Hp} (h : Same F H) {v : V} {d : D} (b : BRep N F H v d) (e : PyData.canLay0 d = true) : Dp N.K H v d := by
  cases b with
  | va r => exact r.dp h e
  | ol s r => exact .lst (SqL.of s) (r.dp h (by unfold PyData.canLay0 at e; exact e))
  | od s m o r => unfold PyData.canLay0 at e; cases e
theorem dop_eq : DOp N (rEqD N.K) (fun a b => (eqB a b).map .bool) := by
  refine dopB fun F H x y a b d Q h ra rb e q => ?_
  unfold eqB at e
  split at e
  · rename_i hs
    cases e
    exact ⟨a, b, ra.dp h (SeqAt.canLay_of_shaped hs.1), rb.dp h (SeqAt.canLay_of_shaped hs.2), hs.1, hs.2, q⟩
  · cases e
theorem dop_ne : DOp N (rNeD N.K) (fun a b => (neB a b).map .bool) := by
  refine dopB fun F H x y a b d Q h ra rb e q => ?_
  unfold neB eqB at e
  by_cases hs : SeqAt.shaped a = true ∧ SeqAt.shaped b = true
  · rw [if_pos hs] at e
    cases e
    exact ⟨a, b, ra.dp h (SeqAt.canLay_of_shaped hs.1), rb.dp h (SeqAt.canLay_of_shaped hs.2), hs.1, hs.2, q⟩
  · rw [if_neg hs] at e; cases e
/-- a is None; the right side is None -/
def isNoneB : D → D → Option Bool
  | .none, .none => some true
  | _, .none => some false
  | _, _ => none
def notNoneB (a b : D) : Option Bool := (isNoneB a b).map (!·)
theorem BRep.non_iff {F H : Hp} {v : V} {d : D} (b : BRep N F H v d) : decide (v = .non) = (match d with | .none => true | _ => false) := by
  cases b with
  | va r => cases r <;> simp
  | ol s r => simp
  | od s m o r => simp
theorem dop_isN : DOp N (fun x y H Q => y = .non ∧ Q (.bl (decide (x = .non))) H) (fun a b => (isNoneB a b).map .bool) := by
  refine dopB fun F H x y a b d Q h ra rb e q => ?_
  have hn := ra.non_iff
  unfold isNoneB at e
  split at e
  · cases e; exact ⟨rb.non, by rw [hn]; exact q⟩
  · rename_i z
    cases e
    refine ⟨rb.non, ?_⟩
    have : decide (x = V.non) = false := by
      rw [hn]
      split
      · exact (z rfl).elim
      · rfl
    rw [this]
    exact q
  · cases e
theorem dop_notN : DOp N (fun x y H Q => y = .non ∧ Q (.bl (!decide (x = .non))) H) (fun a b => (notNoneB a b).map .bool) := by
  refine dopB fun F H x y a b d Q h ra rb e q => ?_
  have hn := ra.non_iff
  unfold notNoneB at e
  cases ei : isNoneB a b with
  | none => rw [ei] at e; cases e
  | some c =>
    rw [ei] at e
    cases e
    unfold isNoneB at ei
    split at ei
    · cases ei; exact ⟨rb.non, by rw [hn]; exact q⟩
    · rename_i z
      cases ei
      refine ⟨rb.non, ?_⟩
      have : decide (x = V.non) = false := by
        rw [hn]
        split
        · exact (z rfl).elim
        · rfl
      rw [this]
      exact q
    · cases ei

def ixO : D → D → Option D
  | .list xs, .int i => atI xs i
  | .tuple xs, .int i => atI xs i
  | .dict [(.none, .list xs)], .int i => atI xs i
  | _, _ => none
def rIxLT (K : PySem.W.Frag) : R2 := fun x y H Q => rIxL K x y H Q ∨ rIxT K x y H Q
theorem ix_lt : IxR X (rIxLT X.K) := ix_list.or ix_tup
theorem Reps.atI {F : Hp} {vs : List V} {ds : List D} (r : Reps N F vs ds) {i : Int} {d : D} (h : atI ds i = some d) : ∃ v, L2.atI vs i = some v ∧ Rep N F v d := by
  unfold L2.atI at h ⊢
  rw [r.length]
  cases e : ixN ds.length i with
  | none => rw [e] at h; cases h
  | some j =>
    rw [e] at h
    obtain ⟨v, h1, h2⟩ := r.get (i := j) h
    exact ⟨v, h1, h2⟩
theorem dop_ix : DOp N (rIxLT N.K) ixO := by
  intro F H x y a b d Q h ra rb e q
  unfold ixO at e
  split at e
  · obtain ⟨p, vs, rfl, s1, r1⟩ := ra.lst h
    obtain ⟨v, h1, h2⟩ := r1.atI e
    exact .inl ⟨p, vs, _, v, rfl, rb.int, SqL.of s1, h1, q _ _ _ (Ext.refl h) h2⟩
  · obtain ⟨p, vs, rfl, s1, r1⟩ := ra.tup h
    obtain ⟨v, h1, h2⟩ := r1.atI e
    exact .inr ⟨p, vs, _, v, rfl, rb.int, s1, h1, q _ _ _ (Ext.refl h) h2⟩
  · obtain ⟨p, vs, rfl, s1, r1⟩ := ra.scr h
    obtain ⟨v, h1, h2⟩ := r1.atI e
    exact .inl ⟨p, vs, _, v, rfl, rb.int, s1, h1, q _ _ _ (Ext.refl h) h2⟩
  · cases e
end
end L2.Sc
set_option Elab.async false
set_option linter.all false
set_option maxRecDepth 100000
set_option maxHeartbeats 2000000
namespace L2.Sc
open PySem PySem.Spec PyProof.Rows

def cut {α : Type} (xs : List α) (lo hi : Option Int) : List α := (xs.drop (HT.sIx xs.length 0 lo)).take (HT.sIx xs.length xs.length hi - HT.sIx xs.length 0 lo)
def tO (N : En) (W : WX) (f : M (Option Int)) : TO := fun σ H Q => ∃ G F ρ, SR N G F H σ ρ ∧ RP N W G F σ (f ρ) fun o _ _ H' => Q o H'
abbrev SO (X : Cx) (W : WX) (e : Option Expr) (f : M (Option Int)) : Prop := PO X e (tO X.en W f)
def noO : M (Option Int) := M.pure none
def someO (f : M D) : M (Option Int) := f.bind fun d => match d with
  | .int i => M.pure (some i)
  | _ => M.fail
def slR (b : Bv) (lo hi : Option Int) (g : D → Option Int → Option Int → Option D) : M D := fun ρ => match rdB b ρ with
  | some x => match g x lo hi with
    | some d => .ok d ρ
    | none => .stuck
  | none => .stuck
def slE (fa : M Bv) (lo hi : M (Option Int)) (g : D → Option Int → Option Int → Option D) : M D := fa.bind fun a => lo.bind fun l => hi.bind fun u => slR a l u g
def slFR (b : Bv) (lo hi : Option Int) : M Sl := fun ρ => match rdB b ρ with
  | some (.list ds) => .ok (.ol (cut ds lo hi)) ρ
  | _ => .stuck
def slF (fa : M Bv) (lo hi : M (Option Int)) : M Sl := fa.bind fun a => lo.bind fun l => hi.bind fun u => slFR a l u
def cutO : D → Option Int → Option Int → Option D
  | .tuple ds, lo, hi => some (.tuple (cut ds lo hi))
  | .str x, lo, hi => if x.length ≤ sizeLine then some (.str (cutS x lo hi)) else none
  | _, _, _ => none
section
variable {X : Cx} {W : WX} {N : En} {e : Expr} {f : M D} {fa : M Bv} {lo hi : Option Expr} {fl fh : M (Option Int)} {pos p2 : Pos}
theorem _root_.L2.PO.weak {X : Cx} {e : Option Expr} {t t' : TO} (h : PO X e t) (w : ∀ σ H Q, t' σ H Q → t σ H Q) : PO X e t' := ⟨fun pins s σ H Q I q => h.run pins s σ H Q I (w σ H Q q)⟩
theorem so_none : SO X W none noO := by
  refine po_none.weak ?_
  rintro σ H Q ⟨G, F, ρ, s, q⟩
  exact RP.pure q s
theorem so_some (h : SE X W e f) : SO X W (some e) (someO f) := by
  refine (po_some h).weak ?_
  rintro σ H Q ⟨G, F, ρ, s, q⟩
  refine ⟨G, F, ρ, s, (RP.bind q).mono fun d ρ1 F1 H1 s1 f1 ⟨_, _, h1⟩ v r => ?_⟩
  cases r with
  | int i => exact ⟨i, rfl, RP.pure h1 s1⟩
  | _ => exact h1.elim
theorem cut_whole {α : Type} (xs : List α) (lo hi : Option Int) (h : HT.sIx xs.length 0 lo = 0 ∧ HT.sIx xs.length xs.length hi = xs.length) : cut xs lo hi = xs := by
  unfold cut
  rw [h.1, h.2]
  simp
theorem Reps.cut {F : Hp} {vs : List V} {ds : List D} (r : Reps N F vs ds) (lo hi : Option Int) : Reps N F (cutV vs lo hi) (Sc.cut ds lo hi) := by
  unfold cutV Sc.cut
  rw [r.length]
  exact (r.drop _).take _
theorem se_slice (hf : SB X W e fa) (hl : SO X W lo fl) (hu : SO X W hi fh) : SE X W (.Subscript e (.Slice lo hi none p2) pos) (slE fa fl fh cutO) := by
  refine (pe_slice (sl_tupA.or sl_str) hf hl hu).weak ?_
  rintro σ H Q ⟨G, F, ρ, s, q⟩
  refine ⟨G, F, ρ, s, (RP.bind q).mono fun a ρ1 F1 H1 s1 f1 ⟨_, _, h1⟩ v r1 => ?_⟩
  refine ⟨G, F1, ρ1, s1, (RP.bind h1).mono fun l ρ2 F2 H2 s2 f2 ⟨_, _, h2⟩ => ?_⟩
  refine ⟨G, F2, ρ2, s2, (RP.bind h2).mono fun u ρ3 F3 H3 s3 f3 ⟨_, _, h3⟩ => ?_⟩
  unfold slR at h3
  split at h3
  · rename_i x e1
    have b := s3.rd r1 (f2.trans f3) e1
    split at h3
    · rename_i d e2
      unfold cutO at e2
      split at e2
      · rename_i ds
        cases e2
        obtain ⟨p, vs, rfl, hs, rs⟩ := b.tup s3.bs.fh
        refine .inl ⟨p, vs, rfl, hs, fun hw => ?_, fun hw n hn => ?_⟩
        · rw [rs.length] at hw
          rw [cut_whole ds l u hw] at h3
          cases b with
          | va b => exact h3 F3 H3 s3 (Same.refl _) _ b
        · have x' := Ext.one s3.bs.fh (.tup (cutV vs l u)) hn
          exact h3 _ _ (s3.ext x') x'.ff _ (.tup (.inl (.inl upd_same)) ((rs.cut l u).mono x'.ff))
      · split at e2
        · rename_i hz
          cases e2
          exact .inr ⟨_, b.str, hz, RP.pure h3 s3 _ (.str _)⟩
        · cases e2
      · cases e2
    · exact h3.elim
  · exact h3.elim
theorem sf_slice (hf : SB X W e fa) (hl : SO X W lo fl) (hu : SO X W hi fh) : SF X W (.Subscript e (.Slice lo hi none p2) pos) (slF fa fl fh) := by
  refine (pe_slice sl_list hf hl hu).weak ?_
  rintro σ H Q ⟨G, F, ρ, s, q⟩
  refine ⟨G, F, ρ, s, (RP.bind q).mono fun a ρ1 F1 H1 s1 f1 ⟨_, _, h1⟩ v r1 => ?_⟩
  refine ⟨G, F1, ρ1, s1, (RP.bind h1).mono fun l ρ2 F2 H2 s2 f2 ⟨_, _, h2⟩ => ?_⟩
  refine ⟨G, F2, ρ2, s2, (RP.bind h2).mono fun u ρ3 F3 H3 s3 f3 ⟨_, _, h3⟩ => ?_⟩
  unfold slFR at h3
  split at h3
  · rename_i ds e1
    obtain ⟨p, vs, rfl, hs, rs⟩ := (s3.rd r1 (f2.trans f3) e1).lst s3.bs.fh
    exact ⟨p, vs, rfl, SqL.of hs, fun n hn => RP.pure h3 s3 (.ref n) _ (s3.push hn (rs.cut l u))⟩
  · exact h3.elim
end

def lenC : List D → Option D
  | [.list ds] => some (.int ds.length)
  | [.tuple ds] => some (.int ds.length)
  | [.dict [(.none, .list ds)]] => some (.int ds.length)
  | [.str x] => if x.length ≤ sizeLine then some (.int x.length) else none
  | _ => none
def listC : List D → Option (List D)
  | [.list ds] => some ds
  | [.tuple ds] => some ds
  | _ => none
def tupleC : List D → Option D
  | [.list ds] => some (.tuple ds)
  | [.tuple ds] => some (.tuple ds)
  | _ => none
def intC : List D → Option D
  | [.int i] => some (.int i)
  | [.bool b] => some (.int (if b = true then 1 else 0))
  | _ => none
def absC : List D → Option D
  | [.int i] => some (.int (if i < 0 then -i else i))
  | _ => none
def max2C : List D → Option D
  | [.int i, .int j] => some (.int (if j > i then j else i))
  | _ => none
def min2C : List D → Option D
  | [.int i, .int j] => some (.int (if j < i then j else i))
  | _ => none
def intsL : List D → Option (List Int)
  | [] => some []
  | .int i :: ds => (intsL ds).map (i :: ·)
  | _ :: _ => none
def sumC : List D → Option D
  | [.list ds] => (intsL ds).map fun ns => .int ns.sum
  | _ => none
section
variable {X : Cx} {N : En}
theorem BReps.one {F H : Hp} {vs : List V} {d : D} (r : BReps N F H vs [d]) : ∃ v, vs = [v] ∧ BRep N F H v d := by
  cases r with
  | cons a b => cases b; exact ⟨_, rfl, a⟩
theorem BReps.two {F H : Hp} {vs : List V} {d e : D} (r : BReps N F H vs [d, e]) : ∃ v u, vs = [v, u] ∧ BRep N F H v d ∧ BRep N F H u e := by
  cases r with
  | cons a b =>
    cases b with
    | cons b c => cases c; exact ⟨_, _, rfl, a, b⟩
theorem dc_len : DCall N (fun xs H Q => ∃ x n, xs = [x] ∧ LenV N.K x H n ∧ Q (.int n) H) lenC := by
  intro F H vs ds d Q h r e q
  unfold lenC at e
  split at e
  · cases e
    obtain ⟨v, rfl, b⟩ := r.one
    obtain ⟨a, ws, rfl, hs, rs⟩ := b.lst h
    exact ⟨_, _, rfl, .inl ⟨ws, SqL.of hs, rs.length.symm⟩, q _ _ _ (Ext.refl h) (.int _)⟩
  · cases e
    obtain ⟨v, rfl, b⟩ := r.one
    obtain ⟨a, ws, rfl, hs, rs⟩ := b.tup h
    exact ⟨_, _, rfl, .inr ⟨ws, hs, rs.length.symm⟩, q _ _ _ (Ext.refl h) (.int _)⟩
  · cases e
    obtain ⟨v, rfl, b⟩ := r.one
    obtain ⟨a, ws, rfl, hs, rs⟩ := b.scr h
    exact ⟨_, _, rfl, .inl ⟨ws, hs, rs.length.symm⟩, q _ _ _ (Ext.refl h) (.int _)⟩
  · split at e
    · rename_i hz
      cases e
      obtain ⟨v, rfl, b⟩ := r.one
      have := b.str
      subst this
      exact ⟨_, _, rfl, ⟨hz, rfl⟩, q _ _ _ (Ext.refl h) (.int _)⟩
    · cases e
  · cases e
theorem dcf_list : DCallF N (fun xs H Q => ∃ p ys, xs = [.ref p] ∧ (SqL N.K H p ys ∨ SqT N.K H p ys) ∧ ∀ l, H l = none → Q (.ref l) (upd H l (.lst ys))) listC := by
  intro F H vs ds es Q h r e q
  unfold listC at e
  split at e
  · cases e
    obtain ⟨v, rfl, b⟩ := r.one
    obtain ⟨a, ws, rfl, hs, rs⟩ := b.lst h
    exact ⟨a, ws, rfl, .inl (SqL.of hs), fun l hl => q l ws hl rs⟩
  · cases e
    obtain ⟨v, rfl, b⟩ := r.one
    obtain ⟨a, ws, rfl, hs, rs⟩ := b.tup h
    exact ⟨a, ws, rfl, .inr hs, fun l hl => q l ws hl rs⟩
  · cases e
theorem dc_tuple : DCall N (fun xs H Q => ∃ p ys, xs = [.ref p] ∧ ((SqL N.K H p ys ∧ ∀ l, H l = none → Q (.ref l) (upd H l (.tup ys))) ∨ (SqT N.K H p ys ∧ Q (.ref p) H))) tupleC := by
  intro F H vs ds d Q h r e q
  unfold tupleC at e
  split at e
  · cases e
    obtain ⟨v, rfl, b⟩ := r.one
    obtain ⟨a, ws, rfl, hs, rs⟩ := b.lst h
    refine ⟨a, ws, rfl, .inl ⟨SqL.of hs, fun l hl => ?_⟩⟩
    have x' := Ext.one h (.tup ws) hl
    exact q _ _ _ x' (.tup (.inl (.inl upd_same)) (rs.mono x'.ff))
  · cases e
    obtain ⟨v, rfl, b⟩ := r.one
    obtain ⟨a, ws, rfl, hs, rs⟩ := b.tup h
    cases b with
    | va b => exact ⟨a, ws, rfl, .inr ⟨hs, q _ _ _ (Ext.refl h) b⟩⟩
  · cases e
theorem dc_int : DCall N (fun xs H Q => (∃ i, xs = [.int i] ∧ Q (.int i) H) ∨ ∃ k, xs = [.bl k] ∧ Q (.int (if k then 1 else 0)) H) intC := by
  intro F H vs ds d Q h r e q
  unfold intC at e
  split at e
  · cases e
    obtain ⟨v, rfl, b⟩ := r.one
    have := b.int
    subst this
    exact .inl ⟨_, rfl, q _ _ _ (Ext.refl h) (.int _)⟩
  · cases e
    obtain ⟨v, rfl, b⟩ := r.one
    have := b.bl
    subst this
    exact .inr ⟨_, rfl, q _ _ _ (Ext.refl h) (.int _)⟩
  · cases e
theorem dc_abs : DCall N (fun xs H Q => ∃ i, xs = [.int i] ∧ Q (.int (if i < 0 then -i else i)) H) absC := by
  intro F H vs ds d Q h r e q
  unfold absC at e
  split at e
  · cases e
    obtain ⟨v, rfl, b⟩ := r.one
    have := b.int
    subst this
    exact ⟨_, rfl, q _ _ _ (Ext.refl h) (.int _)⟩
  · cases e
theorem dc_max2 : DCall N (fun xs H Q => ∃ i j, xs = [.int i, .int j] ∧ Q (.int (if j > i then j else i)) H) max2C := by
  intro F H vs ds d Q h r e q
  unfold max2C at e
  split at e
  · cases e
    obtain ⟨v, u, rfl, b, b'⟩ := r.two
    have := b.int
    subst this
    have := b'.int
    subst this
    exact ⟨_, _, rfl, q _ _ _ (Ext.refl h) (.int _)⟩
  · cases e
theorem dc_min2 : DCall N (fun xs H Q => ∃ i j, xs = [.int i, .int j] ∧ Q (.int (if j < i then j else i)) H) min2C := by
  intro F H vs ds d Q h r e q
  unfold min2C at e
  split at e
  · cases e
    obtain ⟨v, u, rfl, b, b'⟩ := r.two
    have := b.int
    subst this
    have := b'.int
    subst this
    exact ⟨_, _, rfl, q _ _ _ (Ext.refl h) (.int _)⟩
  · cases e
theorem intsL_reps {F : Hp} : ∀ {ds : List D} {vs : List V} {ns : List Int}, Reps N F vs ds → intsL ds = some ns → vs = ns.map V.int
  | [], _, _, .nil, e => by cases e; rfl
  | d :: ds, _, ns, .cons a b, e => by
    cases d with
    | int i =>
      unfold intsL at e
      cases e2 : intsL ds with
      | none => rw [e2] at e; cases e
      | some ms =>
        rw [e2] at e
        cases e
        cases a
        rw [intsL_reps b e2]
        rfl
    | _ => cases e
theorem dc_sum : DCall N (rSum N.K) sumC := by
  intro F H vs ds d Q h r e q
  unfold sumC at e
  split at e
  · rename_i es
    cases e2 : intsL es with
    | none => rw [e2] at e; cases e
    | some ns =>
      rw [e2] at e
      cases e
      obtain ⟨v, rfl, b⟩ := r.one
      obtain ⟨a, ws, rfl, hs, rs⟩ := b.lst h
      have := intsL_reps rs e2
      subst this
      exact ⟨a, ns, rfl, SqL.of hs, q _ _ _ (Ext.refl h) (.int _)⟩
  · cases e
end

section
variable {X : Cx} {N : En}
def depthOk (d : D) : Bool := decide (d.depth ≤ 60)
def notNone : D → Bool
  | .none => false
  | _ => true
def ordOk (a b : D) : Bool := PySem.W.alike a b && notNone a && PyData.canLay0 a && PyData.canLay0 b && depthOk a
def ordB (p : D → D → Bool) (a b : D) : Option Bool := if ordOk a b = true then some (p a b) else none
def rOrd (N : En) (p : D → D → Bool) : R2 := fun x y H Q => ∃ d e, Dp N.K H x d ∧ Dp N.K H y e ∧ PySem.W.alike d e = true ∧ d ≠ .none ∧ d.depth ≤ 60 ∧ Q (.bl (p d e)) H
theorem dop_ord (p : D → D → Bool) : DOp N (rOrd N p) (fun a b => (ordB p a b).map .bool) := by
  refine dopB fun F H x y a b c Q h ra rb e q => ?_
  unfold ordB at e
  by_cases hs : ordOk a b = true
  · rw [if_pos hs] at e
    cases e
    unfold ordOk at hs
    simp only [Bool.and_eq_true] at hs
    obtain ⟨⟨⟨⟨h1, h2⟩, h3⟩, h4⟩, h5⟩ := hs
    refine ⟨a, b, ra.dp h h3, rb.dp h h4, h1, fun z => ?_, of_decide_eq_true h5, q⟩
    rw [z] at h2
    cases h2
  · rw [if_neg hs] at e; cases e
theorem op_ltD (hu : X.A.units + 64 < cLine) : OpR X (compareOp .Lt) (rOrd X.en PySem.W.dataLt) := by
  intro pins s σ H x y v u Q I rx ry h
  obtain ⟨d, e, hd, he, al, hn, hz, q⟩ := h
  obtain ⟨as, r1⟩ := Dp.reads I d x v hd rx
  obtain ⟨bs, r2⟩ := Dp.reads I e y u he ry
  have : X.A.units + min d.depth e.depth < cLine := by
    have := Nat.min_le_left d.depth e.depth
    omega
  exact PySem.W.lt_data r1 r2 al hn this ⟨.bl _, H, I, rfl, q⟩
theorem op_leD (hu : X.A.units + 64 < cLine) : OpR X (compareOp .LtE) (rOrd X.en fun a b => !PySem.W.dataLt b a) := by
  intro pins s σ H x y v u Q I rx ry h
  obtain ⟨d, e, hd, he, al, hn, hz, q⟩ := h
  obtain ⟨as, r1⟩ := Dp.reads I d x v hd rx
  obtain ⟨bs, r2⟩ := Dp.reads I e y u he ry
  have : X.A.units + min d.depth e.depth < cLine := by
    have := Nat.min_le_left d.depth e.depth
    omega
  exact PySem.W.le_data r1 r2 al hn this ⟨.bl _, H, I, rfl, q⟩
theorem op_gtD (hu : X.A.units + 64 < cLine) : OpR X (compareOp .Gt) (rOrd X.en fun a b => PySem.W.dataLt b a) := by
  intro pins s σ H x y v u Q I rx ry h
  obtain ⟨d, e, hd, he, al, hn, hz, q⟩ := h
  obtain ⟨as, r1⟩ := Dp.reads I d x v hd rx
  obtain ⟨bs, r2⟩ := Dp.reads I e y u he ry
  have : X.A.units + min d.depth e.depth < cLine := by
    have := Nat.min_le_left d.depth e.depth
    omega
  exact PySem.W.gt_data r1 r2 al hn this ⟨.bl _, H, I, rfl, q⟩
theorem op_geD (hu : X.A.units + 64 < cLine) : OpR X (compareOp .GtE) (rOrd X.en fun a b => !PySem.W.dataLt a b) := by
  intro pins s σ H x y v u Q I rx ry h
  obtain ⟨d, e, hd, he, al, hn, hz, q⟩ := h
  obtain ⟨as, r1⟩ := Dp.reads I d x v hd rx
  obtain ⟨bs, r2⟩ := Dp.reads I e y u he ry
  have : X.A.units + min d.depth e.depth < cLine := by
    have := Nat.min_le_left d.depth e.depth
    omega
  exact PySem.W.ge_data r1 r2 al hn this ⟨.bl _, H, I, rfl, q⟩

open Classical in
noncomputable def sortOk (ds : List D) : Bool := decide ((ds.length ≤ 1 ∨ PySem.W.AllAlike ds ∧ PySem.W.Sortable ds) ∧ PyData.canLayAll0 ds = true ∧ PyData.depthAll ds ≤ 60)
open Classical in
theorem sortOk_iff {ds : List D} : sortOk ds = true ↔ (ds.length ≤ 1 ∨ PySem.W.AllAlike ds ∧ PySem.W.Sortable ds) ∧ PyData.canLayAll0 ds = true ∧ PyData.depthAll ds ≤ 60 := by
  unfold sortOk
  exact decide_eq_true_iff
def sortD (ds : List D) : List D := ds.mergeSort (PySem.W.dataLe false id)
noncomputable def sortC : List D → Option (List D)
  | [.list ds] => if sortOk ds = true then some (sortD ds) else none
  | _ => none
def rSortD (N : En) : List V → Hp → VK → Prop := fun vs H Q => ∃ (a : Addr) (bs : List (D × V)), vs = [V.ref a] ∧ SqL N.K H a (bs.map (·.2)) ∧ (∀ b ∈ bs, Dp N.K H b.2 b.1) ∧ (bs.length ≤ 1 ∨ PySem.W.AllAlike (bs.map (·.1)) ∧ PySem.W.Sortable (bs.map (·.1))) ∧ (∀ b ∈ bs, b.1.depth ≤ 60) ∧
  ∀ p, H p = none → Q (.ref p) (upd H p (.lst ((bs.mergeSort (PySem.W.dataLe false (·.1))).map (·.2))))
theorem eachIs_of {bs : List (D × V)} : ∀ {us : List Value}, Vals (bs.map (·.2)) us → PySem.W.EachIs (fun (u : Value) (b : D × V) => RelV b.2 u) us bs := by
  induction bs with
  | nil => intro us r; cases r; exact .nil
  | cons b bs ih => intro us r; cases r with | cons r t => exact .cons r (ih t)
theorem eachIs_to {bs : List (D × V)} : ∀ {us : List Value}, PySem.W.EachIs (fun (u : Value) (b : D × V) => RelV b.2 u) us bs → Vals (bs.map (·.2)) us := by
  induction bs with
  | nil => intro us r; cases r; exact .nil
  | cons b bs ih => intro us r; cases r with | cons r t => exact .cons r (ih t)
theorem cr_sortD (hu : X.A.units + 64 < cLine) : CallR X (.builtin "sorted") (rSortD X.en) := by
  intro pins s σ H vs us Q I r h
  obtain ⟨a, bs, rfl, hs, hd, hal, hz, q⟩ := h
  obtain ⟨u, rfl, ru⟩ := Vals.one r
  cases ru
  obtain ⟨its, rv, p, hl⟩ := I.list hs
  have er : ∀ {cs : List (D × V)} {ws : List Value}, (∀ b ∈ cs, Dp X.en.K H b.2 b.1) → Vals (cs.map (·.2)) ws → PySem.W.EachIs (fun (v : Value) (b : D × V) => ∃ as, Reads s.heap v b.1 as) ws cs := by
    intro cs
    induction cs with
    | nil => intro ws _ r; cases r; exact .nil
    | cons c cs ih =>
      intro ws hc r
      cases r with
      | cons r t => exact .cons (Dp.reads I c.1 c.2 _ (hc c List.mem_cons_self) r) (ih (fun b hb => hc b (List.mem_cons_of_mem _ hb)) t)
  have hlen : bs.length ≤ sizeLine := by simpa using hl
  have done : ∀ out : List Value, Vals ((bs.mergeSort (PySem.W.dataLe false (·.1))).map (·.2)) out → EP X pins σ Q (.ref (s.heap.objs.size + 1)) { s with heap := PyProof.Rows.sortedAll s.heap its out.toArray } := fun out rv2 => by
    obtain ⟨ep, he'⟩ := PyProof.Rows.sortedAll_at s.heap its out.toArray
    refine ⟨.ref _, upd H (s.heap.objs.size + 1) (.lst ((bs.mergeSort (PySem.W.dataLe false (·.1))).map (·.2))), I.laid (t' := s.toks) (fun _ _ => PyProof.Rows.sortedAll_old) (Nat.le_succ _) ⟨?_, out, ep, rv2, he'⟩, rfl, q _ (I.hok.fresh (Nat.le_succ _))⟩
    rw [List.length_map, List.length_mergeSort]; exact hlen
  rcases hal with h1 | ⟨hal, hk⟩
  · have hl1 : its.length = bs.length := by have := rv.length; simpa using this.symm
    refine _root_.Srt.sorted_any p.isList (by omega) (fun h2 => absurd h2 (by omega)) fun out hp => done out ?_
    have ho : out = its := by
      match its, hl1, hp with
      | [], _, hp => exact List.perm_nil.mp hp
      | [x], _, hp => exact List.perm_singleton.mp hp
      | x :: y :: r, hl1, _ => exfalso; simp at hl1; omega
    have hb : bs.mergeSort (PySem.W.dataLe false (·.1)) = bs := by
      match bs, h1 with
      | [], _ => exact List.mergeSort_nil
      | [x], _ => exact List.mergeSort_singleton x
      | x :: y :: r, h1 => exfalso; simp at h1
    rw [ho, hb]
    exact rv
  refine PySem.W.sorted_data (enc := (·.1)) p.isList (eachIs_of rv) (er hd rv) hal hk hlen (fun b hb => ?_) fun out ho eo => ?_
  · have := hz b hb
    omega
  exact done out (eachIs_to eo)
theorem dcf_sort : DCallF N (rSortD N) sortC := by
  intro F H vs ds es Q h r e q
  unfold sortC at e
  split at e
  · rename_i xs
    split at e
    · rename_i hs
      cases e
      obtain ⟨h1, h3, h4⟩ := sortOk_iff.mp hs
      obtain ⟨v, rfl, b⟩ := r.one
      obtain ⟨a, ws, rfl, ha, rs⟩ := b.lst h
      have hzip1 : (xs.zip ws).map (·.1) = xs := by rw [List.map_fst_zip]; rw [rs.length]; exact Nat.le_refl _
      have hzip2 : (xs.zip ws).map (·.2) = ws := by rw [List.map_snd_zip]; rw [rs.length]; exact Nat.le_refl _
      have hrep : ∀ b ∈ xs.zip ws, Rep N F b.2 b.1 := by
        intro b hb
        obtain ⟨i, hi⟩ := List.mem_iff_getElem?.mp hb
        rw [List.getElem?_zip_eq_some] at hi
        obtain ⟨d, e1, e2⟩ := rs.getV hi.2
        rw [hi.1] at e1
        cases e1
        exact e2
      have hdep : ∀ {ys : List D}, PyData.depthAll ys ≤ 60 → ∀ d ∈ ys, d.depth ≤ 60 := by
        intro ys
        induction ys with
        | nil => intro _ d hd; cases hd
        | cons y ys ih =>
          intro hh d hd
          rw [PyData.depthAll] at hh
          rcases List.mem_cons.mp hd with z | z
          · rw [z]; omega
          · exact ih (by omega) d z
      refine ⟨a, xs.zip ws, rfl, by rw [hzip2]; exact SqL.of ha, fun b hb => (hrep b hb).dp h (canLayAll_mem h3 _ (List.of_mem_zip hb).1), by rw [hzip1]; exact h1.imp (fun h => by rw [List.length_zip, rs.length]; omega) id, fun b hb => hdep h4 _ (List.of_mem_zip hb).1, fun p hp => ?_⟩
      refine q p _ hp ?_
      have e1 : sortD xs = ((xs.zip ws).mergeSort (PySem.W.dataLe false (·.1))).map (·.1) := by
        unfold sortD
        have e0 := List.map_mergeSort (r := PySem.W.dataLe false (fun b : D × V => b.1)) (s := PySem.W.dataLe false (id : D → D)) (f := fun b : D × V => b.1) (l := xs.zip ws) (fun a _ b _ => rfl)
        rw [hzip1] at e0
        exact e0.symm
      rw [e1]
      have all : ∀ b ∈ (xs.zip ws).mergeSort (PySem.W.dataLe false (·.1)), Rep N F b.2 b.1 := fun b hb => hrep b (List.mem_mergeSort.mp hb)
      generalize (xs.zip ws).mergeSort (PySem.W.dataLe false (·.1)) = l at all
      clear e1
      induction l with
      | nil => exact .nil
      | cons b l ih => exact .cons (all b List.mem_cons_self) (ih fun c hc => all c (List.mem_cons_of_mem _ hc))
    · cases e
  · cases e
end
end L2.Sc
set_option Elab.async false
set_option linter.all false
set_option maxRecDepth 100000
set_option maxHeartbeats 2000000
namespace L2.Sc
open PySem PySem.Spec PyProof.Rows

def keyOf (kd : D) : Option NestedKey := match kd with
  | .tuple xs => match nk (.tuple xs) with
    | some k => if k.depth ≤ 8 then some k else none
    | none => none
  | _ => none
def lookK (kvs : List (D × D)) (k : NestedKey) : Option D := (kvs.find? fun p => decide (nk p.1 = some k)).map (·.2)
def putK (kvs : List (D × D)) (k : NestedKey) (kd d : D) : List (D × D) := if (lookK kvs k).isSome = true then kvs.map (fun p => if nk p.1 = some k then (p.1, d) else p) else kvs ++ [(kd, d)]

section
variable {N : En} {F H : Hp} {X : Cx} {pins : List (Addr × Obj)} {σ : St} {s : Shared}
mutual
theorem Rep.nested (I : Inv X pins σ H s) (h : Same F H) : ∀ {d : D} {v : V} {u : Value} {k : NestedKey}, Rep X.en F v d → RelV v u → nk d = some k → NestedIs s.heap k u
  | .none, _, _, _, .non, r, e => by cases e; cases r; exact .none
  | .bool b, _, _, _, .bl _, r, e => by cases e; cases r; exact .bool rfl
  | .int i, _, _, _, .int _, r, e => by cases e; obtain ⟨t, rfl⟩ := r; exact .int _ _
  | .str x, _, _, _, .str _, r, e => by cases e; obtain ⟨t, rfl⟩ := r; exact .text _ _
  | .tuple ds, _, _, _, .tup hs hr, r, e => by
    cases r
    rw [nk] at e
    obtain ⟨ks, ek, rfl⟩ := Option.map_eq_some_iff.mp e
    obtain ⟨its, rv, ⟨o, ho, hc, n, hd⟩, _⟩ := I.tuple (SqT_mono h hs)
    exact .tup ho hc hd (by simpa using Reps.nested I h hr rv ek)
  | .list ds, _, _, _, _, _, e => by rw [nk] at e; cases e
  | .dict ds, _, _, _, _, _, e => by rw [nk] at e; cases e
theorem Reps.nested (I : Inv X pins σ H s) (h : Same F H) : ∀ {ds : List D} {vs : List V} {us : List Value} {ks : List NestedKey}, Reps X.en F vs ds → Vals vs us → nks ds = some ks → NestedAll s.heap ks us
  | [], _, _, _, .nil, r, e => by cases r; rw [nks] at e; cases e; exact .nil
  | d :: ds, _, _, _, .cons a b, r, e => by
    cases r with
    | cons r t =>
      rw [nks] at e
      split at e
      · rename_i k ks' e1 e2
        cases e
        exact .cons (Rep.nested I h a r e1) (Reps.nested I h b t e2)
      · cases e
end
theorem keyOf_eq {kd : D} {k : NestedKey} (h : keyOf kd = some k) : (∃ xs, kd = .tuple xs) ∧ nk kd = some k ∧ k.depth ≤ 8 := by
  cases kd with
  | tuple xs =>
    unfold keyOf at h
    dsimp only at h
    cases e : nk (.tuple xs) with
    | none => rw [e] at h; cases h
    | some k' =>
      rw [e] at h
      dsimp only at h
      split at h
      · rename_i hz
        cases h
        exact ⟨⟨xs, rfl⟩, rfl, hz⟩
      · cases h
  | _ => cases h
theorem BRep.key (I : Inv X pins σ H s) (h : Same F H) {kd : D} {v : V} {u : Value} {k : NestedKey} (b : BRep X.en F H v kd) (r : RelV v u) (e : keyOf kd = some k) : ∃ a, v = .ref a ∧ u = .ref a ∧ (nestedKind X.prog X.w).is s.heap k a ∧ Rep X.en F (.ref a) kd := by
  obtain ⟨⟨xs, rfl⟩, e1, hz⟩ := keyOf_eq e
  cases b with
  | va b =>
    cases b with
    | tup hs hr =>
      cases r
      exact ⟨_, rfl, rfl, ⟨Rep.nested I h (.tup hs hr) rfl e1, hz⟩, .tup hs hr⟩
theorem RepK.mem : ∀ {xs : List (NestedKey × Addr × Value)} {kvs : List (D × D)}, RepK N F xs kvs → ∀ x ∈ xs, ∃ kd, Rep N F (.ref x.2.1) kd ∧ nk kd = some x.1 ∧ x.1.depth ≤ 8
  | _, _, .nil, x, hx => by cases hx
  | _, _, .cons a b c d e f, x, hx => by
    rcases List.mem_cons.mp hx with z | z
    · subst z; exact ⟨_, a, b, c⟩
    · exact f.mem x z
theorem RepK.length : ∀ {xs : List (NestedKey × Addr × Value)} {kvs : List (D × D)}, RepK N F xs kvs → xs.length = kvs.length
  | _, _, .nil => rfl
  | _, _, .cons _ _ _ _ _ f => by simp [f.length]
theorem RepK.look {k : NestedKey} : ∀ {xs : List (NestedKey × Addr × Value)} {kvs : List (D × D)}, RepK N F xs kvs → match lookK kvs k with
    | some d => ∃ b u v, atKey xs k = some (b, u) ∧ RelV v u ∧ Rep N F v d
    | none => atKey xs k = none
  | _, _, .nil => rfl
  | (k', b, u) :: xs, (kd, vd) :: kvs, .cons (v := v) a e c d r f => by
    by_cases hk : k' = k
    · subst hk
      have e1 : lookK ((kd, vd) :: kvs) k' = some vd := by simp [lookK, e]
      rw [e1]
      exact ⟨b, u, v, by simp [atKey], d, r⟩
    · have e1 : lookK ((kd, vd) :: kvs) k = lookK kvs k := by
        unfold lookK
        rw [List.find?_cons_of_neg]
        simp [e, hk]
      have e2 : atKey ((k', b, u) :: xs) k = atKey xs k := by
        unfold atKey
        rw [List.find?_cons_of_neg]
        simp [hk]
      rw [e1, e2]
      exact f.look
theorem RepK.append {ys : List (NestedKey × Addr × Value)} {ls : List (D × D)} (g : RepK N F ys ls) : ∀ {xs : List (NestedKey × Addr × Value)} {kvs : List (D × D)}, RepK N F xs kvs → RepK N F (xs ++ ys) (kvs ++ ls)
  | _, _, .nil => g
  | _, _, .cons a b c d e f => .cons a b c d e (RepK.append g f)
theorem RepK.put {k : NestedKey} {b : Addr} {u : Value} {v : V} {kd d : D} (hk : Rep N F (.ref b) kd) (e : nk kd = some k) (hz : k.depth ≤ 8) (r : RelV v u) (rd : Rep N F v d) {xs : List (NestedKey × Addr × Value)} {kvs : List (D × D)} (f : RepK N F xs kvs) :
    RepK N F (storedH xs k b u) (putK kvs k kd d) := by
  have l := f.look (k := k)
  unfold storedH putK
  cases q : lookK kvs k with
  | none =>
    rw [q] at l
    rw [l]
    rw [if_neg (by simp), if_neg (by simp)]
    exact RepK.append (.cons hk e hz r rd .nil) f
  | some d0 =>
    rw [q] at l
    obtain ⟨b0, u0, v0, l, _⟩ := l
    rw [l]
    rw [if_pos (by simp), if_pos (by simp)]
    clear l q
    have gen : ∀ {xs : List (NestedKey × Addr × Value)} {kvs : List (D × D)}, RepK N F xs kvs → RepK N F (xs.map (putAt k u)) (kvs.map fun p => if nk p.1 = some k then (p.1, d) else p) := by
      intro xs kvs f
      induction xs generalizing kvs with
      | nil => cases f; exact .nil
      | cons x xs ih =>
        cases f with
        | @cons k' b' u' v' kd' vd' _ kvs' a2 e2 c2 d2 r2 f2 =>
          rw [List.map_cons, List.map_cons]
          by_cases hk : k' = k
          · subst hk
            rw [show putAt k' u (k', b', u') = (k', b', u) by simp [putAt], if_pos e2]
            exact .cons a2 e2 c2 r rd (ih f2)
          · rw [show putAt k u (k', b', u') = (k', b', u') by simp [putAt, hk], if_neg (by rw [e2]; simp [hk])]
            exact .cons a2 e2 c2 d2 r2 (ih f2)
    exact gen f

/-- the dict as the library has it -/
theorem dict_at (I : Inv X pins σ H s) (h : Same F H) {a : Addr} {o : Obj} {xs : List (NestedKey × Addr × Value)} {kvs : List (D × D)} (hH : H a = some (dobj a o)) (ob : DObj X.w o xs) (r : RepK X.en F xs kvs) :
    s.heap.get? a = some o ∧ s.heap.DictOfH (nestedKind X.prog X.w) a xs := by
  obtain ⟨hg, _⟩ := I.hok a _ hH
  obtain ⟨es, ep, hd, he⟩ := ob.data
  refine ⟨hg, o, es, ep, hg, ob.ex, hd, he, fun x hx => ?_, ob.nd⟩
  obtain ⟨kd, r1, e1, hz⟩ := r.mem x hx
  exact ⟨Rep.nested I h r1 rfl e1, hz⟩
theorem dobj_of {w : World} {prog : Program} {h : Heap} {a : Addr} {xs : List (NestedKey × Addr × Value)} (m : h.DictOfH (nestedKind prog w) a xs) (hz : xs.length ≤ sizeLine) : ∃ o, h.get? a = some o ∧ DObj w o xs := by
  obtain ⟨o, es, ep, hg, hx, hd, he, _, nd⟩ := m
  exact ⟨o, hg, hx, ⟨es, ep, hd, he⟩, nd, hz⟩
theorem dobj_ok {P : Program} {w : World} {H : Hp} {h : Heap} {a : Addr} {o : Obj} (e : h.get? a = some o) : ObjOk P w H h a (dobj a o) := ⟨e, ⟨o, e⟩, fun h1 h2 q k => k _ q⟩
end

def inK : D → D → Option Bool
  | kd, .dict kvs => if keysOk kvs = true then (keyOf kd).map fun k => (lookK kvs k).isSome else none
  | _, _ => none
def notInK (a b : D) : Option Bool := (inK a b).map (!·)
def getK : D → D → Option D
  | .dict kvs, kd => if keysOk kvs = true then (keyOf kd).bind fun k => lookK kvs k else none
  | _, _ => none
def rInK (N : En) (neg : Bool) : R2 := fun x y H Q => ∃ F kd kvs k, Same F H ∧ BRep N F H x kd ∧ BRep N F H y (.dict kvs) ∧ keysOk kvs = true ∧ keyOf kd = some k ∧ Q (.bl (if neg = true then !(lookK kvs k).isSome else (lookK kvs k).isSome)) H
def rGetK (N : En) : R2 := fun x y H Q => ∃ F kd kvs k d, Same F H ∧ BRep N F H y kd ∧ BRep N F H x (.dict kvs) ∧ keysOk kvs = true ∧ keyOf kd = some k ∧ lookK kvs k = some d ∧ ∀ v, Rep N F v d → Q v H
section
variable {X : Cx} {W : WX} {N : En}
theorem room_in1 (hu : X.A.units + 64 < cLine) : (nestedKind X.prog X.w).room X.A.in1 := by
  show X.A.in1.units + 8 < cLine
  have : X.A.in1.units = X.A.units + 1 := rfl
  omega
theorem op_inK (hu : X.A.units + 64 < cLine) : OpR X (compareOp .In) (rInK X.en false) := by
  intro pins s σ H x y v u Q I rx ry h
  obtain ⟨F, kd, kvs, k, hs, b1, b2, hk, e, q⟩ := h
  obtain ⟨a, rfl, rfl, ka, _⟩ := b1.key I hs rx e
  obtain ⟨d, o, xs, rfl, hH, hm, ob, r⟩ := b2.dct hs hk
  cases ry
  obtain ⟨hg, dm⟩ := dict_at I hs hH ob r
  refine PySem.wpAny_in_heap (room_in1 hu) ka hm dm ⟨.bl _, H, I.tok _, rfl, ?_⟩
  have l := r.look (k := k)
  cases e2 : lookK kvs k with
  | none => rw [e2] at l q; rw [l]; exact q
  | some d0 => rw [e2] at l q; obtain ⟨b0, u0, v0, l, _⟩ := l; rw [l]; exact q
theorem op_notInK (hu : X.A.units + 64 < cLine) : OpR X (compareOp .NotIn) (rInK X.en true) := by
  intro pins s σ H x y v u Q I rx ry h
  obtain ⟨F, kd, kvs, k, hs, b1, b2, hk, e, q⟩ := h
  obtain ⟨a, rfl, rfl, ka, _⟩ := b1.key I hs rx e
  obtain ⟨d, o, xs, rfl, hH, hm, ob, r⟩ := b2.dct hs hk
  cases ry
  obtain ⟨hg, dm⟩ := dict_at I hs hH ob r
  refine PySem.notIn_keyed (room_in1 hu) ka hm ⟨xs, dm, rfl⟩ ⟨.bl _, H, I.tok _, rfl, ?_⟩
  rw [valueAt_pairsH, Option.isSome_map]
  have l := r.look (k := k)
  cases e2 : lookK kvs k with
  | none => rw [e2] at l q; rw [l]; exact q
  | some d0 => rw [e2] at l q; obtain ⟨b0, u0, v0, l, _⟩ := l; rw [l]; exact q
theorem dop_inK : DOp N (rInK N false) (fun a b => (inK a b).map .bool) := by
  refine dopB fun F H x y a b c Q h ra rb e q => ?_
  unfold inK at e
  split at e
  · split at e
    · rename_i hk
      obtain ⟨k, e1, e2⟩ := Option.map_eq_some_iff.mp e
      subst e2
      exact ⟨F, _, _, k, h, ra, rb, hk, e1, q⟩
    · cases e
  · cases e
theorem dop_notInK : DOp N (rInK N true) (fun a b => (notInK a b).map .bool) := by
  refine dopB fun F H x y a b c Q h ra rb e q => ?_
  unfold notInK inK at e
  split at e
  · split at e
    · rename_i hk
      obtain ⟨c0, e0, rfl⟩ := Option.map_eq_some_iff.mp e
      obtain ⟨k, e1, e2⟩ := Option.map_eq_some_iff.mp e0
      subst e2
      exact ⟨F, _, _, k, h, ra, rb, hk, e1, q⟩
    · cases e
  · cases e
theorem ix_getK (hu : X.A.units + 64 < cLine) : IxR X (rGetK X.en) := by
  intro value slice pins s σ H x y v u Q I rx ry h hs'
  obtain ⟨F, kd, kvs, k, d0, hs, b1, b2, hk, e, el, q⟩ := h
  obtain ⟨a, rfl, rfl, ka, _⟩ := b1.key I hs ry e
  obtain ⟨d, o, xs, rfl, hH, hm, ob, r⟩ := b2.dct hs hk
  cases rx
  obtain ⟨hg, dm⟩ := dict_at I hs hH ob r
  have l := r.look (k := k)
  rw [el] at l
  obtain ⟨b0, u0, v0, l, rv, rp⟩ := l
  exact tail_any dm.typeIs PySem.F.slot_dict_getitem.lookup (PySem.wpAny_getItem_heap (room_in1 hu) ka dm l ⟨v0, H, I.tok _, rv, q v0 rp⟩) hs'
theorem dop_getK : DOp N (rGetK N) getK := by
  intro F H x y a b d Q h ra rb e q
  unfold getK at e
  split at e
  · split at e
    · rename_i hk
      obtain ⟨k, e1, e2⟩ := Option.bind_eq_some_iff.mp e
      exact ⟨F, _, _, k, d, h, rb, ra, hk, e1, e2, fun v r => q _ _ _ (Ext.refl h) r⟩
    · cases e
  · cases e
def ixA (a b : D) : Option D := match ixO a b with
  | some d => some d
  | none => getK a b
def rIxA (N : En) : R2 := fun x y H Q => rIxLT N.K x y H Q ∨ rGetK N x y H Q
theorem ix_all (hu : X.A.units + 64 < cLine) : IxR X (rIxA X.en) := IxR.or (r := rIxLT X.en.K) ix_lt (ix_getK hu)
theorem dop_ixA : DOp N (rIxA N) ixA := by
  intro F H x y a b d Q h ra rb e q
  unfold ixA at e
  cases e1 : ixO a b with
  | some d' =>
    rw [e1] at e
    cases e
    exact .inl (dop_ix F H x y a b _ Q h ra rb e1 q)
  | none =>
    rw [e1] at e
    exact .inr (dop_getK F H x y a b d Q h ra rb e q)

def flatD : D → Bool
  | .none => true
  | .bool _ => true
  | .int _ => true
  | .str _ => true
  | _ => false
def inA : D → D → Option Bool
  | kd, .dict kvs => inK kd (.dict kvs)
  | x, .list ds => if SeqAt.shaped x = true ∧ SeqAt.shaped (.list ds) = true then some (ds.any fun z => PyData.eqv z x) else none
  | x, .tuple ds => if flatD x = true ∧ ds.all flatD = true then some (ds.any fun z => PyData.eqv z x) else none
  | .str x, .str y => some (!(Builtin.Str.occurrences y x 0 y.length 1).isEmpty)
  | _, _ => none
def notInA (a b : D) : Option Bool := (inA a b).map (!·)
def rIsStr (neg : Bool) : R2 := fun x y H Q => ∃ i j, x = .str i ∧ y = .str j ∧ Q (.bl (if neg = true then (Builtin.Str.occurrences j i 0 j.length 1).isEmpty else !(Builtin.Str.occurrences j i 0 j.length 1).isEmpty)) H
def rInA (N : En) : R2 := fun x y H Q => rInK N false x y H Q ∨ (rInD N.K x y H Q ∨ rIn N.K false x y H Q)
def rNotInA (N : En) : R2 := fun x y H Q => rInK N true x y H Q ∨ (rNotInD N.K x y H Q ∨ rIn N.K true x y H Q)
theorem op_inA (hu : X.A.units + 65 < cLine) : OpR X (compareOp .In) (rInA X.en) := OpR.or (op_inK (by omega)) (OpR.or (r := rInD X.en.K) (op_inD hu) (op_in_seq))
theorem op_notInA (hu : X.A.units + 65 < cLine) : OpR X (compareOp .NotIn) (rNotInA X.en) := OpR.or (op_notInK (by omega)) (OpR.or (r := rNotInD X.en.K) (op_notInD hu) (op_notIn_seq))
end
end L2.Sc
set_option Elab.async false
set_option linter.all false
set_option maxRecDepth 100000
set_option maxHeartbeats 2000000
namespace L2.Sc
open PySem PySem.Spec PyProof.Rows

section
variable {X : Cx} {W : WX} {N : En}
theorem flat_rep {F H : Hp} {v : V} {d : D} (b : BRep N F H v d) (e : flatD d = true) : flatV v = true ∧ ∀ {v' : V} {d' : D} {F' H' : Hp}, BRep N F' H' v' d' → flatD d' = true → eqV v v' = PyData.eqv d d' := by
  cases d with
  | none =>
    have := b.non; subst this
    refine ⟨rfl, fun b' e' => ?_⟩
    rename_i d' _ _
    cases d' with
    | none => have := b'.non; subst this; rfl
    | bool c => have := b'.bl; subst this; rfl
    | int c => have := b'.int; subst this; rfl
    | str c => have := b'.str; subst this; rfl
    | _ => cases e'
  | bool x =>
    have := b.bl; subst this
    refine ⟨rfl, fun b' e' => ?_⟩
    rename_i d' _ _
    cases d' with
    | none => have := b'.non; subst this; rfl
    | bool c => have := b'.bl; subst this; rfl
    | int c => have := b'.int; subst this; rfl
    | str c => have := b'.str; subst this; rfl
    | _ => cases e'
  | int x =>
    have := b.int; subst this
    refine ⟨rfl, fun b' e' => ?_⟩
    rename_i d' _ _
    cases d' with
    | none => have := b'.non; subst this; rfl
    | bool c => have := b'.bl; subst this; rfl
    | int c => have := b'.int; subst this; rfl
    | str c => have := b'.str; subst this; rfl
    | _ => cases e'
  | str x =>
    have := b.str; subst this
    refine ⟨rfl, fun b' e' => ?_⟩
    rename_i d' _ _
    cases d' with
    | none => have := b'.non; subst this; rfl
    | bool c => have := b'.bl; subst this; rfl
    | int c => have := b'.int; subst this; rfl
    | str c => have := b'.str; subst this; rfl
    | _ => cases e'
  | _ => cases e
theorem flat_all {F H : Hp} {x : V} {d : D} (b : BRep N F H x d) (e : flatD d = true) : ∀ {vs : List V} {ds : List D}, Reps N F vs ds → ds.all flatD = true → vs.all flatV = true ∧ inV x vs = ds.any (fun z => PyData.eqv z d)
  | _, _, .nil, _ => ⟨rfl, rfl⟩
  | _, _, .cons (v := v) (d := z) a t, h => by
    rw [List.all_cons, Bool.and_eq_true] at h
    obtain ⟨h1, h2⟩ := flat_all b e t h.2
    have f1 := flat_rep (H := H) (.va a) h.1
    refine ⟨by rw [List.all_cons, f1.1, h1]; rfl, ?_⟩
    unfold inV at h2 ⊢
    rw [List.any_cons, List.any_cons, h2, f1.2 b e]
theorem dop_in_core (neg : Bool) {F H : Hp} {x y : V} {a b : D} {c : Bool} {Q : VK} (h : Same F H) (ra : BRep N F H x a) (rb : BRep N F H y b) (e : inA a b = some c) (hs : ∀ i j, ¬ (a = .str i ∧ b = .str j)) (q : Q (.bl (if neg = true then !c else c)) H) :
    rInK N neg x y H Q ∨ ((if neg = true then rNotInD N.K x y H Q else rInD N.K x y H Q) ∨ rIn N.K neg x y H Q) := by
  unfold inA at e
  split at e
  · unfold inK at e
    dsimp only at e
    split at e
    · rename_i hk
      obtain ⟨k, e1, e2⟩ := Option.map_eq_some_iff.mp e
      subst e2
      exact .inl ⟨F, _, _, k, h, ra, rb, hk, e1, q⟩
    · cases e
  · split at e
    · rename_i hsh
      cases e
      refine .inr (.inl ?_)
      have d1 := ra.dp h (SeqAt.canLay_of_shaped hsh.1)
      have d2 := rb.dp h (SeqAt.canLay_of_shaped hsh.2)
      cases neg with
      | true => rw [if_pos rfl]; exact ⟨_, _, d1, d2, hsh.1, hsh.2, q⟩
      | false => rw [if_neg (by decide)]; exact ⟨_, _, d1, d2, hsh.1, hsh.2, q⟩
    · cases e
  · split at e
    · rename_i hf
      cases e
      obtain ⟨p, ws, rfl, s1, r1⟩ := rb.tup h
      obtain ⟨h1, h2⟩ := flat_all ra hf.1 r1 hf.2
      refine .inr (.inr ⟨p, ws, rfl, .inr s1, (flat_rep ra hf.1).1, h1, ?_⟩)
      rw [h2]; exact q
    · cases e
  · exact (hs _ _ ⟨rfl, rfl⟩).elim
  · cases e
def rInS (N : En) : R2 := fun x y H Q => rInA N x y H Q ∨ ∃ i j, x = .str i ∧ y = .str j ∧ Q (.bl (!(Builtin.Str.occurrences j i 0 j.length 1).isEmpty)) H
def rNotInS (N : En) : R2 := fun x y H Q => rNotInA N x y H Q ∨ ∃ i j, x = .str i ∧ y = .str j ∧ Q (.bl (!(!(Builtin.Str.occurrences j i 0 j.length 1).isEmpty))) H
theorem op_inS (hu : X.A.units + 65 < cLine) : OpR X (compareOp .In) (rInS X.en) := OpR.or (op_inA hu) op_in_str
theorem op_notInS (hu : X.A.units + 65 < cLine) : OpR X (compareOp .NotIn) (rNotInS X.en) := OpR.or (op_notInA hu) op_notin_str
theorem dop_inA : DOp N (rInS N) (fun a b => (inA a b).map .bool) := by
  refine dopB fun F H x y a b c Q h ra rb e q => ?_
  by_cases hs : ∃ i j, a = .str i ∧ b = .str j
  · obtain ⟨i, j, rfl, rfl⟩ := hs
    cases e
    exact .inr ⟨i, j, ra.str, rb.str, q⟩
  · exact .inl (dop_in_core false h ra rb e (fun i j z => hs ⟨i, j, z⟩) q)
theorem dop_notInA : DOp N (rNotInS N) (fun a b => (notInA a b).map .bool) := by
  refine dopB fun F H x y a b c Q h ra rb e q => ?_
  obtain ⟨c0, e0, rfl⟩ := Option.map_eq_some_iff.mp e
  by_cases hs : ∃ i j, a = .str i ∧ b = .str j
  · obtain ⟨i, j, rfl, rfl⟩ := hs
    cases e0
    exact .inr ⟨i, j, ra.str, rb.str, q⟩
  · exact .inl (dop_in_core true h ra rb e0 (fun i j z => hs ⟨i, j, z⟩) q)

def rSetK (N : En) : V → V → V → Hp → (Hp → Prop) → Prop := fun o i v H Q => ∃ a ob xs kvs F kd k, o = .ref a ∧ Same F H ∧ H a = some (dobj a ob) ∧ DObj N.w ob xs ∧ RepK N F xs kvs ∧ BRep N F H i kd ∧ keyOf kd = some k ∧ kvs.length < sizeLine ∧
  ∀ ob' b u, i = .ref b → Rep N F (.ref b) kd → RelV v u → DObj N.w ob' (storedH xs k b u) → Q (upd H a (dobj a ob'))
theorem storedH_len {K : Type} [DecidableEq K] (xs : List (K × Addr × Value)) (k : K) (a : Addr) (v : Value) : (storedH xs k a v).length ≤ xs.length + 1 := by
  unfold storedH
  split
  · simp
  · simp
theorem set_dictK (hu : X.A.units + 64 < cLine) : PSet X (rSetK X.en) := by
  intro pins s σ H o i v ov iv u Q I ro ri rv h
  obtain ⟨a, ob, xs, kvs, F, kd, k, rfl, hs, hH, hob, r, bk, e, hz, q⟩ := h
  cases ro
  obtain ⟨b, rfl, rfl, ka, rk⟩ := bk.key I hs ri e
  obtain ⟨hg, dm⟩ := dict_at I hs hH hob r
  have hl := r.length
  refine PySem.wpAny_setItem_heap (room_in1 hu) ka dm (fun h' hm' hsb => ?_) (by omega)
  have hz2 := storedH_len xs k b u
  obtain ⟨o', hg', ob'⟩ := dobj_of (w := X.w) hm' (by omega)
  have mu : Mut (H a) := by rw [hH]; trivial
  refine ⟨upd H a (dobj a o'), I.write (e := a) (t' := _) mu (.inl rfl) (fun c o hc hg2 => (hsb.2 c hc).trans hg2) ⟨_, hg'⟩ (dobj_ok hg'), q o' b u rfl rk rv ob'⟩
/-- x[e] = f: a list by its place, a dict by its key -/
def putA (i : Nat) (f : M D) (e : M D) : MS := f.st fun d ρ1 => match ρ1[i]? with
  | some (.od _) => e.st (fun k ρ => match ρ[i]? with
    | some (.od kvs) => match keyOf k with
      | some kk => if kvs.length < sizeLine then .nx (ρ.set i (.od (putK kvs kk k d))) else .stuck
      | none => .stuck
    | _ => .stuck) ρ1
  | some (.ol _) => e.st (fun k ρ => match ρ[i]?, k with
    | some t, .int j => match t.lget with
      | some ds => match ixN ds.length j with
        | some n => .nx (ρ.set i (t.lput (ds.set n d)))
        | none => .stuck
      | none => .stuck
    | _, _ => .stuck) ρ1
  | some (.io _) => e.st (fun k ρ => match ρ[i]?, k with
    | some t, .int j => match t.lget with
      | some ds => match ixN ds.length j with
        | some n => .nx (ρ.set i (t.lput (ds.set n d)))
        | none => .stuck
      | none => .stuck
    | _, _ => .stuck) ρ1
  | _ => .stuck
theorem _root_.L2.PSet.or {X : Cx} {t t' : TSet} (h : PSet X t) (h' : PSet X t') : PSet X (fun o i v H Q => t o i v H Q ∨ t' o i v H Q) := by
  intro pins s σ H o i v ov iv u Q I ro ri rv q
  rcases q with q | q
  · exact h pins s σ H o i v ov iv u Q I ro ri rv q
  · exact h' pins s σ H o i v ov iv u Q I ro ri rv q
theorem ss_putA {i : Nat} {x : Str} {e k : Expr} {fe fk : M D} {npos spos pos : Pos} (hu : X.A.units + 64 < cLine) (he : SE X W e fe) (hk : SE X W k fk) (hN : X.N[i]? = some x := by rfl) (hv : Vis X.env.scope x := by first | exact Or.inl rfl | exact Or.inr (Or.inl rfl) | exact Or.inr (Or.inr rfl)) (hd : (x == ("__debug__" : Str)) = false := by decide)
    (hcd : (x == ("__classdict__" : Str)) = false := by decide)
    (ha : ∀ v, assign (.Subscript (.Name x npos) k spos) X.env v = (do
      let ov ← holding [v] (eval (.Name x npos) X.env)
      let iv ← holding [v, ov] (eval k X.env)
      standAt spos
      holding [v, ov, iv] (setItem ov iv v)
      release [v, ov, iv] []) := by intro _; rfl)
    (hs : swapsWithSole [.Subscript (.Name x npos) k spos] e pos.line X.env = pure false := by rfl) (hw : swappedStores [.Subscript (.Name x npos) k spos] e X.env = pure none := by rfl)
    (h1 : (assignEach [.Subscript (.Name x npos) k spos] X.env).map (·.2) = [assign (.Subscript (.Name x npos) k spos) X.env] := by rfl) :
    SS X W (.Assign [.Subscript (.Name x npos) k spos] e pos) (putA i fe fk) := by
  refine (ps_asg he (pg_sub (pe_var hN hv hd hcd) hk (PSet.or set_list (set_dictK hu)) ha) hs hw h1).weak ?_
  rintro σ H D ⟨G, F, ρ, s, q⟩
  refine ⟨G, F, ρ, s, (FP.of q).mono fun d ρ1 F1 H1 s1 f1 h1 v r => ?_⟩
  have lst : ∀ {t0 : Sl} {ds0 : List Sc.D}, ρ1[i]? = some t0 → t0.lget = some ds0 → FP X.en W G F1 (fk.st (fun k ρ => match ρ[i]?, k with
      | some t, .int j => match t.lget with
        | some ds => match ixN ds.length j with
          | some n => .nx (ρ.set i (t.lput (ds.set n d)))
          | none => .stuck
        | none => .stuck
      | _, _ => .stuck) ρ1) D → gSub (tVar i) (tE X.en W fk) (fun o i v H Q => rSetL o i v H Q ∨ rSetK X.en o i v H Q) v σ H1 D.nx := by
    intro t0 ds0 ht0 hl0 h1
    obtain ⟨a, vs0, hv0, hH0, _, _⟩ := s1.own_lst ht0 hl0
    refine ⟨.ref a, hv0, G, F1, ρ1, s1, (FP.of (σ := σ) h1).mono fun kd ρ2 F2 H2 s2 f2 h2 kv rk => .inl ?_⟩
    split at h2
    · rename_i t j ht
      cases rk
      split at h2
      · rename_i ds hl
        split at h2
        · rename_i n hn
          obtain ⟨a', vs, hv1, hH1, rs, wr⟩ := s2.own_lst ht hl
          rw [hv0] at hv1
          cases hv1
          exact ⟨a, vs, j, n, rfl, rfl, hH1, by rw [rs.length]; exact hn, FP.nxt h2 (wr _ _ (Reps.set (r.mono f2) n rs))⟩
        · exact h2.elim
      · exact h2.elim
    · exact h2.elim
  split at h1
  · rename_i kv0 e0
    obtain ⟨a, o0, xs0, hv0, _⟩ := s1.own_dct e0
    refine ⟨.ref a, hv0, G, F1, ρ1, s1, (FP.of (σ := σ) h1).mono fun kd ρ2 F2 H2 s2 f2 h2 kv rk => .inr ?_⟩
    split at h2
    · rename_i kvs ht
      split at h2
      · rename_i kk hkk
        split at h2
        · rename_i hz
          obtain ⟨a', o, xs, hv1, hH1, hm, ob, rk2, wr⟩ := s2.own_dct ht
          rw [hv0] at hv1
          cases hv1
          refine ⟨a, o, xs, kvs, F2, kd, kk, rfl, s2.bs.fh, hH1, ob, rk2, .va rk, hkk, hz, fun ob' b u _ hb ru hob => ?_⟩
          obtain ⟨_, ek, hz8⟩ := keyOf_eq hkk
          exact FP.nxt h2 (wr ob' _ _ hob (rk2.put hb ek hz8 ru (r.mono f2)))
        · exact h2.elim
      · exact h2.elim
    · exact h2.elim
  · rename_i ds0 e0; exact lst e0 rfl h1
  · rename_i ds0 e0; exact lst e0 rfl h1
  · exact h1.elim

def newD : M Sl := M.pure (.od [])
theorem SR.pushD {G : Ent} {F H : Hp} {σ : St} {ρ : List Sl} (s : SR N G F H σ ρ) {p : Addr} {o : Obj} {xs : List (NestedKey × Addr × Value)} {kvs : List (D × D)} (hp : H p = none) (hm : (p == sysModules) = false) (ob : DObj N.w o xs) (r : RepK N F xs kvs) :
    SR N G F (upd H p (dobj p o)) (σ ++ [some (.ref p)]) (ρ ++ [.od kvs]) := by
  -- as SR.push, by a list in its place
  have s2 := s.push (ds := []) hp .nil
  have hl := s.len
  have e1 : (σ ++ [some (.ref p)])[σ.length]? = some (some (.ref p)) := by simp
  have e2 : (ρ ++ [.ol []])[σ.length]? = some (.ol []) := by simp [hl]
  have hF : F p = none := same_none s.bs.fh hp
  have h0 : G.H0 p = none := s.bs.there p hp
  have s3 := s2.write (t' := .od kvs) (o := dobj p o) e2 e1 rfl hF (.inl h0) rfl ⟨p, o, xs, rfl, upd_same, hm, ob, r, hF, h0⟩
  rw [upd_upd] at s3
  have : (ρ ++ [Sl.ol []]).set σ.length (.od kvs) = ρ ++ [.od kvs] := by
    rw [hl, List.set_append_right _ _ (Nat.le_refl _)]; simp
  rwa [this] at s3
theorem dobj_new (w : World) : DObj w { cls := .type "dict", data := .dict #[] } [] := ⟨⟨rfl, rfl, rfl⟩, ⟨#[], 0, rfl, rfl⟩, List.nodup_nil, Nat.zero_le _⟩
theorem big_ne {pins : List (Addr × Obj)} {σ : St} {H : Hp} {s : Shared} (I : Inv X pins σ H s) {p : Addr} (h : s.heap.objs.size ≤ p) : (p == sysModules) = false := beq_eq_false_iff_ne.mpr (Ne.symm (Nat.ne_of_lt (Nat.lt_of_lt_of_le I.big h)))
def tDNew : TE := fun _ H Q => ∀ p, H p = none → (p == sysModules) = false → Q (.ref p) (upd H p (dobj p { cls := .type "dict", data := .dict #[] }))
theorem pe_dnew {pos : Pos} : PE X (.Dict [] [] pos) tDNew := ⟨fun pins s σ H Q I h =>
  wpAny_Dict_empty ⟨.ref s.heap.objs.size, _, I.laid (a := s.heap.objs.size) (o := dobj s.heap.objs.size { cls := .type "dict", data := .dict #[] }) (t' := s.toks) (fun _ _ q => Heap.get?_push_of_some _ q) (Nat.le_refl _) (dobj_ok (Heap.get?_push_size _ rfl)), rfl, h _ (I.hok.fresh (Nat.le_refl _)) (big_ne I (Nat.le_refl _))⟩⟩
theorem sf_dnew {pos : Pos} : SF X W (.Dict [] [] pos) newD := by
  refine pe_dnew.weak ?_
  rintro σ H Q ⟨G, F, ρ, s, q⟩
  intro p hp hm
  exact RP.pure q s (.ref p) _ (s.pushD hp hm (dobj_new _) .nil)
end
end L2.Sc
set_option Elab.async false
set_option linter.all false
set_option maxRecDepth 100000
set_option maxHeartbeats 2000000
namespace PySem
section
open PySem.W PySem.Calls PyProof.Rows PyProof.V PySem.Spec
mutual
theorem sc_reads_live {h : Heap} : ∀ {v : Value} {d : PyData} {as : List Addr}, Reads h v d as → ∀ b ∈ as, ∃ o, h.get? b = some o
  | _, _, _, .none, b, hb => by cases hb
  | _, _, _, .bool _, b, hb => by cases hb
  | _, _, _, .int _ _, b, hb => by cases hb
  | _, _, _, .str _ _, b, hb => by cases hb
  | _, _, _, .list ho _ _ r, b, hb => by
    rcases List.mem_cons.mp hb with z | z
    · rw [z]; exact ⟨_, ho⟩
    · exact sc_readsAll_live r b z
  | _, _, _, .tuple _ _ _ r, b, hb => sc_readsAll_live r b hb
  | _, _, _, .dict ho _ _ r1 r2, b, hb => by
    rcases List.mem_append.mp hb with z | z
    · rcases List.mem_cons.mp z with y | y
      · rw [y]; exact ⟨_, ho⟩
      · exact sc_readsAll_live r1 b y
    · exact sc_readsAll_live r2 b z
theorem sc_readsAll_live {h : Heap} : ∀ {vs : List Value} {ds : List PyData} {as : List Addr}, ReadsAll h vs ds as → ∀ b ∈ as, ∃ o, h.get? b = some o
  | _, _, _, .nil, b, hb => by cases hb
  | _, _, _, .cons r t, b, hb => by
    rcases List.mem_append.mp hb with z | z
    · exact sc_reads_live r b z
    · exact sc_readsAll_live t b z
end
variable {prog : Program} {w : World} {A : Around} {E : Value → Shared → Prop} {s : Shared} {T : String} {r d : Addr} {n : Nat} {P : Nat → Value → Prop} {OK : Heap → Prop}
theorem sc_collect {R : List Value → Shared → Prop} (K : KdlSrc prog w T r d n P OK) (hh : A.handled = none) (hok : OK s.heap) (hn : n ≤ sizeLine)
    (h : ∀ (h' : Heap) (tk : Nat) (acc : Array Value), (∀ b o, s.heap.get? b = some o → h'.get? b = some o) → s.heap.objs.size < h'.objs.size → ItemsOf P acc n → R acc.toList { s with heap := h', toks := tk }) :
    wpAny (model prog w) A (collect (.ref r)) R E s := by
  obtain ⟨hr, hd⟩ := K.there _ hok
  unfold collect
  refine wpAny_bind (wpAny_runValue (codeAny_builtin entry_proto_collect' ?_))
  rw [Around.under_plainId PySem.F.plain_proto_collect _]
  show wpAny _ A.in1 (newList [] >>= fun l => again (.builtin "list.__iadd__" ⟨[l, .ref r], []⟩)) _ _ s
  refine wpAny_bind (wpAny_newObj_type ?_)
  refine wpAny_pure ⟨plainId_quiet PySem.F.plain_list_iadd _, codeAny_builtin entry_list_iadd' ?_⟩
  rw [Around.under_plainId PySem.F.plain_list_iadd _]
  have hS₁ : (s.heap.push { cls := .type "list", data := .seq ([] : List Value).toArray }).get? s.heap.objs.size = some { cls := .type "list", data := .seq #[] } := Heap.get?_push_size _ rfl
  show wpAny _ A.in1 (Builtin.List.listExtendWith (.ref s.heap.objs.size) (.ref r) (.ref s.heap.objs.size)) _ _ _
  have key := kdl_extend (A := A) (s := { s with heap := s.heap.push { cls := .type "list", data := .seq ([] : List Value).toArray } })
    (R := fun (q : Result) (s' : Shared) => ∃ (h' : Heap) (tk : Nat) (acc' : Array Value) (c' : Nat), q = .ok (.ret (.ref s.heap.objs.size)) ∧ s' = { s with heap := h', toks := tk } ∧
      (∀ b o, s.heap.get? b = some o → h'.get? b = some o) ∧ h'.get? s.heap.objs.size = some { cls := .type "list", dict := none, data := .seq acc' c', slots := #[] } ∧ ItemsOf P acc' n)
    K hh (K.keep _ _ hok fun b _ o e => Heap.get?_push_of_some _ e) s.heap.objs.size (Nat.ne_of_gt hr) (Nat.ne_of_gt hd) (.ref s.heap.objs.size) 0 hS₁
    (fun h' tk acc' c' hk hS' hacc => ⟨h', tk, acc', c', rfl, rfl, fun b o e => hk b o (Nat.ne_of_lt (Heap.lt_size e)) (Heap.get?_push_of_some _ e), hS', hacc⟩) hn
  refine wpAny_mono key (fun fin s' x => ?_) fun e s' x => ?_
  · cases fin with
    | done f =>
      obtain ⟨h', tk, acc', c', e, rfl, hk, hS', hacc⟩ := x
      cases e
      show wpAny _ A (load s.heap.objs.size >>= _) _ _ _
      refine wpAny_bind (wpAny_load hS' ?_)
      refine wpAny_pure ?_
      exact h h' tk acc' hk (Heap.lt_size hS') hacc
    | again c₁ =>
      refine ⟨x.1, codeAny_mono x.2 fun q s₂ y => ?_⟩
      obtain ⟨h', tk, acc', c', rfl, rfl, hk, hS', hacc⟩ := y
      show wpAny _ A (load s.heap.objs.size >>= _) _ _ _
      refine wpAny_bind (wpAny_load hS' ?_)
      refine wpAny_pure ?_
      exact h h' tk acc' hk (Heap.lt_size hS') hacc
  · obtain ⟨_, _, _, _, e', _⟩ := x
    cases e'
/-- sorted(view), up to the sort -/
theorem sc_sorted_src {Q : Value → Shared → Prop} (K : KdlSrc prog w T r d n P OK) (hh : A.handled = none) (hok : OK s.heap) (hn : n ≤ sizeLine)
    (h : ∀ (h' : Heap) (tk : Nat) (acc : Array Value), (∀ b o, s.heap.get? b = some o → h'.get? b = some o) → s.heap.objs.size < h'.objs.size → ItemsOf P acc n →
      wpAny (model prog w) A.in1 (call (.builtin "list.sort") [.ref h'.objs.size]) (fun _ s' => Q (.ref h'.objs.size) s') E { s with heap := h'.push { cls := .type "list", data := .seq acc }, toks := tk }) :
    wpAny (model prog w) A (call (.builtin "sorted") [.ref r]) Q E s := by
  refine call_function_entry kind_sorted plain_sorted entry_sorted (args_sorted1 _) ?_
  unfold Builtin.«sorted»
  refine wpAny_bind (m := checkCount "sorted" 1 1 _) (wpAny_pure ?_)
  refine wpAny_bind (sc_collect (A := A.in1) K hh hok hn fun h' tk acc hk hlt hacc => ?_)
  refine wpAny_bind (wpAny_newList ?_ (by rw [Array.length_toList, hacc.1]; exact hn))
  have hg := h h' tk acc hk hlt hacc
  refine wpAny_bind (wpAny_holding (wpAny_mono hg (fun _ s' x => ?_) fun _ _ e => e))
  exact wpAny_pure ⟨_, rfl, x⟩
end
end PySem
namespace L2.Sc
open PySem PySem.Spec PyProof.Rows

def keysObj (d : Addr) : Obj := { cls := .type "dict_keys", data := .fields #[.ref d] }
def valsObj (d : Addr) : Obj := { cls := .type "dict_values", data := .fields #[.ref d] }
/-- a dict's own object, whatever stands in it -/
def DictHO (H : Hp) (d : Addr) (o : Obj) : Prop := H d = some (dobj d o) ∧ (d == sysModules) = false ∧ o.ExactDict ∧ ∃ es ep, o.data = .dict es ep
section
variable {X : Cx} {W : WX} {N : En} {e : Expr} {td : TE} {apos cpos : Pos}
def tView (vo : Addr → Obj) (td : TE) : TE := fun σ H Q => td σ H fun x H1 => ∃ d o, x = .ref d ∧ DictHO H1 d o ∧ ∀ p, H1 p = none → Q (.ref p) (upd H1 p (dobj p (vo d)))
theorem DictHO.get {pins : List (Addr × Obj)} {σ : St} {H : Hp} {s : Shared} (I : Inv X pins σ H s) {d : Addr} {o : Obj} (h : DictHO H d o) : s.heap.get? d = some o ∧ ∃ es ep, o.data = .dict es ep ∧ s.heap.DictRaw d es ep := by
  obtain ⟨hH, hm, hx, es, ep, hd⟩ := h
  obtain ⟨hg, _⟩ := I.hok d _ hH
  exact ⟨hg, es, ep, hd, o, hg, hx, hd⟩
theorem pe_keysV (he : PE X e td) (hbase : attributeBase e "keys" X.env (eval e X.env) = eval e X.env := by rfl) (hline : (apos.endLine == cpos.line) = true := by rfl) : PE X (.Call (.Attribute e "keys" apos) [] [] cpos) (tView keysObj td) := by
  refine ⟨fun pins s σ H Q I h => ?_⟩
  refine wpAny_Call_method (T := "dict") (id := "dict.keys") hbase rfl hline F.plainAttrs_dict F.slot_dict_keys F.type_dict_keys (thn (he.run pins s σ H _ I h) fun u s1 ⟨x, H1, I1, rx, d, o, ex, hd, q⟩ => ?_)
  subst ex
  obtain rfl : u = Value.ref d := rx
  obtain ⟨hg, es, ep, hdt, raw⟩ := hd.get I1
  refine ⟨raw.typeIs, fun a ea => by cases ea; exact ⟨o, hg, hd.2.2.1.2.1⟩, ?_⟩
  show wpAny _ _ (callWith cpos (.builtin "dict.keys") [.ref d] [] []) _ X.xe s1
  refine method_meetsIn F.slot_dict_keys F.entry_dict_keys rfl (PySem.evalArgs_none ⟨rfl, raw.typeIs, F.args_dict_keys_1 _, _, PySem.meets_dict_keys_raw d hd.2.1, ⟨es, ep, raw⟩, ?_⟩)
  exact ⟨.ref s1.heap.objs.size, _, I1.laid (a := s1.heap.objs.size) (o := dobj s1.heap.objs.size (keysObj d)) (t' := s1.toks) (fun _ _ q => Heap.get?_push_of_some _ q) (Nat.le_refl _) (dobj_ok (Heap.get?_push_size _ rfl)), rfl, q _ (I1.hok.fresh (Nat.le_refl _))⟩
theorem pe_valsV (he : PE X e td) (hbase : attributeBase e "values" X.env (eval e X.env) = eval e X.env := by rfl) (hline : (apos.endLine == cpos.line) = true := by rfl) : PE X (.Call (.Attribute e "values" apos) [] [] cpos) (tView valsObj td) := by
  refine ⟨fun pins s σ H Q I h => ?_⟩
  refine wpAny_Call_method (T := "dict") (id := "dict.values") hbase rfl hline F.plainAttrs_dict F.slot_dict_values F.type_dict_values (thn (he.run pins s σ H _ I h) fun u s1 ⟨x, H1, I1, rx, d, o, ex, hd, q⟩ => ?_)
  subst ex
  obtain rfl : u = Value.ref d := rx
  obtain ⟨hg, es, ep, hdt, raw⟩ := hd.get I1
  refine ⟨raw.typeIs, fun a ea => by cases ea; exact ⟨o, hg, hd.2.2.1.2.1⟩, ?_⟩
  show wpAny _ _ (callWith cpos (.builtin "dict.values") [.ref d] [] []) _ X.xe s1
  refine method_meetsIn F.slot_dict_values F.entry_dict_values rfl (PySem.evalArgs_none ⟨rfl, raw.typeIs, F.args_dict_values_1 _, _, PySem.meets_dict_values_raw d hd.2.1, ⟨es, ep, raw⟩, ?_⟩)
  exact ⟨.ref s1.heap.objs.size, _, I1.laid (a := s1.heap.objs.size) (o := dobj s1.heap.objs.size (valsObj d)) (t' := s1.toks) (fun _ _ q => Heap.get?_push_of_some _ q) (Nat.le_refl _) (dobj_ok (Heap.get?_push_size _ rfl)), rfl, q _ (I1.hok.fresh (Nat.le_refl _))⟩
/-- the keys as they stand in the entries -/
theorem DObj.entries {w : World} {o : Obj} {xs : List (NestedKey × Addr × Value)} (ob : DObj w o xs) : ∃ es ep, o.data = .dict es ep ∧ es.size = xs.length ∧ ∀ i (hi : i < es.size), ∃ x, xs[i]? = some x ∧ es[i].key = .ref x.2.1 ∧ es[i].val = x.2.2 := by
  obtain ⟨es, ep, hd, he⟩ := ob.data
  have hsz : es.size = xs.length := by rw [← Array.length_toList, he, List.length_map]
  refine ⟨es, ep, hd, hsz, fun i hi => ?_⟩
  have hi' : i < xs.length := by omega
  have e1 : es.toList[i]? = some es[i] := by simp [hi]
  rw [he, List.getElem?_map, List.getElem?_eq_getElem hi'] at e1
  have e2 := Option.some.inj e1
  exact ⟨xs[i], List.getElem?_eq_getElem hi', by rw [← e2], by rw [← e2]⟩

/-- the keys of a dict, with the values that stand for them -/
def KeysAt (N : En) (F H : Hp) (d : Addr) (o : Obj) (bs : List (D × V)) : Prop := ∃ xs kvs, DObj N.w o xs ∧ RepK N F xs kvs ∧ bs = (xs.zip kvs).map fun p => (p.2.1, V.ref p.1.2.1)
def rSortKeys (N : En) : List V → Hp → VK → Prop := fun vs H Q => ∃ (v d : Addr) (o : Obj) (F : Hp) (bs : List (D × V)), vs = [V.ref v] ∧ H v = some (dobj v (keysObj d)) ∧ DictHO H d o ∧ Same F H ∧ KeysAt N F H d o bs ∧ (∀ b ∈ bs, Dp N.K H b.2 b.1) ∧ (bs.length ≤ 1 ∨ PySem.W.AllAlike (bs.map (·.1)) ∧ PySem.W.Sortable (bs.map (·.1))) ∧ (∀ b ∈ bs, b.1.depth ≤ 60) ∧ bs.length ≤ sizeLine ∧
  ∀ p, H p = none → Q (.ref p) (upd H p (.lst ((bs.mergeSort (PySem.W.dataLe false (·.1))).map (·.2))))
theorem keys_vals {F H : Hp} {d : Addr} {o : Obj} {bs : List (D × V)} (k : KeysAt N F H d o bs) : ∃ es ep, o.data = .dict es ep ∧ es.size = bs.length ∧ (∀ i (hi : i < es.size), ∃ b, bs[i]? = some b ∧ RelV b.2 es[i].key) := by
  obtain ⟨xs, kvs, ob, r, rfl⟩ := k
  obtain ⟨es, ep, hd, hsz, he⟩ := ob.entries
  have hl := r.length
  refine ⟨es, ep, hd, by simp [hsz, hl], fun i hi => ?_⟩
  obtain ⟨x, hx, hk, _⟩ := he i hi
  have h2 : i < kvs.length := by omega
  refine ⟨(kvs[i].1, V.ref x.2.1), ?_, hk⟩
  rw [List.getElem?_map, (List.getElem?_zip_eq_some (z := (x, kvs[i]))).mpr ⟨hx, List.getElem?_eq_getElem h2⟩]
  rfl
theorem cr_sortKeys (hc : X.calm = true) (hu : X.A.units + 64 < cLine) : CallR X (.builtin "sorted") (rSortKeys X.en) := by
  intro pins s σ H vs us Q I r h
  obtain ⟨v, d, o, F, bs, rfl, hv, hd, hsame, hk, hdp, hal, hz, hlen, q⟩ := h
  obtain ⟨u, rfl, ru⟩ := Vals.one r
  cases ru
  obtain ⟨hgv, _⟩ := I.hok v _ hv
  obtain ⟨hgd, _⟩ := hd.get I
  obtain ⟨es, ep, hdt, hsz, hkey⟩ := keys_vals hk
  have raw : s.heap.DictRaw d es ep := ⟨o, hgd, hd.2.2.1, hdt⟩
  refine sc_sorted_src (PySem.KdlSrc.rawKeys) (I.ok.hd hc) ⟨⟨_, hgv, rfl, rfl⟩, raw⟩ (by rw [hsz]; exact hlen) fun h' tk acc hkp hlt hacc => ?_
  have rv : Vals (bs.map (·.2)) acc.toList := by
    have gen : ∀ {l : List V} {us : List Value}, l.length = us.length → (∀ (i : Nat) (x : V), l[i]? = some x → ∃ u, us[i]? = some u ∧ RelV x u) → Vals l us := by
      intro l
      induction l with
      | nil => intro us hl _; cases us with
        | nil => exact .nil
        | cons a b => cases hl
      | cons x l ih => intro us hl hh; cases us with
        | nil => cases hl
        | cons a b =>
          refine .cons ?_ (ih (by simpa using hl) fun i y hy => hh (i + 1) y (by simpa using hy))
          obtain ⟨u, e1, e2⟩ := hh 0 x rfl
          cases e1; exact e2
    refine gen (by simp [hacc.1, hsz]) fun i x hx => ?_
    rw [List.getElem?_map] at hx
    cases e : bs[i]? with
    | none => rw [e] at hx; cases hx
    | some b =>
      rw [e] at hx
      cases hx
      have hi : i < es.size := by rw [hsz]; exact (List.getElem?_eq_some_iff.mp e).1
      obtain ⟨b', e', r'⟩ := hkey i hi
      rw [e] at e'
      cases e'
      have hi2 : i < acc.size := by rw [hacc.1]; exact hi
      obtain ⟨_, hP⟩ := hacc.2 i acc[i] (Array.getElem?_eq_getElem hi2)
      exact ⟨acc[i], by simp [hi2], by rw [hP]; exact r'⟩
  have hkeepall : ∀ b ob, s.heap.get? b = some ob → (h'.push { cls := .type "list", data := .seq acc }).get? b = some ob := fun b ob e => Heap.get?_push_of_some _ (hkp b ob e)
  have er : ∀ {cs : List (D × V)} {ws : List Value}, (∀ b ∈ cs, Dp X.en.K H b.2 b.1) → Vals (cs.map (·.2)) ws → PySem.W.EachIs (fun (v : Value) (b : D × V) => ∃ as, Reads (h'.push { cls := .type "list", data := .seq acc }) v b.1 as ∧ h'.objs.size ∉ as) ws cs := by
    intro cs
    induction cs with
    | nil => intro ws _ r; cases r; exact .nil
    | cons c cs ih =>
      intro ws hc r
      cases r with
      | cons r t =>
        obtain ⟨as, ra⟩ := Dp.reads I c.1 c.2 _ (hc c List.mem_cons_self) r
        refine .cons ⟨as, PyProof.Rows.Reads.keeps hkeepall ra, fun hm => ?_⟩ (ih (fun b hb => hc b (List.mem_cons_of_mem _ hb)) t)
        obtain ⟨ob, hob⟩ := PySem.sc_reads_live ra _ hm
        exact absurd (Heap.lt_size (hkp _ _ hob)) (Nat.lt_irrefl _)
  have hlist : (h'.push { cls := .type "list", data := .seq acc }).get? h'.objs.size = some (seqObj "list" acc.toList.toArray 0) := by
    rw [Array.toArray_toList]
    exact Heap.get?_push_size _ rfl
  have hge : s.heap.objs.size ≤ h'.objs.size := Nat.le_of_lt hlt
  have done : ∀ out : List Value, Vals ((bs.mergeSort (PySem.W.dataLe false (·.1))).map (·.2)) out → ∃ v H', Inv X pins σ H' { s with heap := sortedHeap (h'.push { cls := .type "list", data := .seq acc }) h'.objs.size acc.toList out.toArray, toks := tk } ∧ RelV v (.ref h'.objs.size) ∧ Q v H' := fun out rv2 => by
    obtain ⟨ep', he'⟩ := PyProof.Rows.sortedHeap_at (out := out.toArray) hlist
    have I2 := I.laid (a := h'.objs.size) (o := .lst ((bs.mergeSort (PySem.W.dataLe false (·.1))).map (·.2))) (t' := tk) (h' := sortedHeap (h'.push { cls := .type "list", data := .seq acc }) h'.objs.size acc.toList out.toArray) (fun b ob e => ?_) hge ⟨by rw [List.length_map, List.length_mergeSort]; exact hlen, out, ep', rv2, he'⟩
    · exact ⟨.ref _, _, I2, rfl, q _ (I.hok.fresh hge)⟩
    · have hb : b < h'.objs.size := Heap.lt_size (hkp b ob e)
      rw [PyProof.Rows.sortedHeap_old (Nat.ne_of_lt hb) (by rw [Heap.size_push]; exact Nat.lt_succ_of_lt hb)]
      exact hkeepall b ob e
  rcases hal with h1 | ⟨hal, hso⟩
  · have hl1 : acc.toList.length = bs.length := by have := rv.length; simpa using this.symm
    refine wpAny_call_entry PyProof.Rows.slot_list_sort ⟨_, hlist, rfl⟩ PyProof.Rows.entry_list_sort (_root_.Srt.list_sort_any (s := { s with heap := h'.push { cls := .type "list", data := .seq acc }, toks := tk }) hlist (by omega) (fun h2 => absurd h2 (by omega)) fun out hp => ⟨.none, rfl, done out ?_⟩) (PyProof.Rows.args_list_sort _)
    have ho : out = acc.toList := by
      generalize acc.toList = its at *
      match its, hl1, hp with
      | [], _, hp => exact List.perm_nil.mp hp
      | [x], _, hp => exact List.perm_singleton.mp hp
      | x :: y :: r, hl1, _ => exfalso; simp at hl1; omega
    have hb : bs.mergeSort (PySem.W.dataLe false (·.1)) = bs := by
      match bs, h1 with
      | [], _ => exact List.mergeSort_nil
      | [x], _ => exact List.mergeSort_singleton x
      | x :: y :: r, h1 => exfalso; simp at h1
    rw [ho, hb]
    exact rv
  refine PySem.W.list_sort_data (s := { s with heap := h'.push { cls := .type "list", data := .seq acc }, toks := tk }) (enc := (·.1)) hlist (eachIs_of rv) (er hdp rv) hal hso hlen (fun b hb => ?_) fun out ho eo => ?_
  · have := hz b hb
    have : X.A.in1.units = X.A.units + 1 := rfl
    omega
  exact done out (eachIs_to eo)
def dictB (b : Bv) (ρ : List Sl) : Option (List (D × D)) := match rdB b ρ with
  | some (.dict kvs) => if keysOk kvs = true ∧ kvs.length ≤ sizeLine then some kvs else none
  | _ => none
noncomputable def keysSortF (fa : M Bv) : M Sl := fa.bind fun b ρ => match dictB b ρ with
  | some kvs => if sortOk (kvs.map (·.1)) = true then .ok (.ol (sortD (kvs.map (·.1)))) ρ else .stuck
  | none => .stuck
theorem BRep.dictHO {F H : Hp} {v : V} {kvs : List (D × D)} (h : Same F H) (hk : keysOk kvs = true) (b : BRep N F H v (.dict kvs)) : ∃ d o xs, v = .ref d ∧ DictHO H d o ∧ DObj N.w o xs ∧ RepK N F xs kvs := by
  obtain ⟨d, o, xs, rfl, hH, hm, ob, r⟩ := b.dct h hk
  obtain ⟨es, ep, hd, _⟩ := ob.data
  exact ⟨d, o, xs, rfl, ⟨hH, hm, ob.ex, es, ep, hd⟩, ob, r⟩
theorem RepK.zip_fst {F : Hp} : ∀ {xs : List (NestedKey × Addr × Value)} {kvs : List (D × D)}, RepK N F xs kvs → ((xs.zip kvs).map fun p => (p.2.1, V.ref p.1.2.1)).map (·.1) = kvs.map (·.1)
  | _, _, .nil => rfl
  | _, _, .cons _ _ _ _ _ f => by
    simp only [List.zip_cons_cons, List.map_cons]
    rw [f.zip_fst]
theorem RepK.zip_rep {F : Hp} : ∀ {xs : List (NestedKey × Addr × Value)} {kvs : List (D × D)}, RepK N F xs kvs → ∀ b ∈ ((xs.zip kvs).map fun p => (p.2.1, V.ref p.1.2.1)), Rep N F b.2 b.1
  | _, _, .nil, b, hb => by cases hb
  | _, _, .cons a _ _ _ _ f, b, hb => by
    simp only [List.zip_cons_cons, List.map_cons] at hb
    rcases List.mem_cons.mp hb with z | z
    · rw [z]; exact a
    · exact f.zip_rep b z
theorem depthAll_mem : ∀ {ys : List D}, PyData.depthAll ys ≤ 60 → ∀ d ∈ ys, d.depth ≤ 60
  | [], _, d, hd => by cases hd
  | y :: ys, hh, d, hd => by
    rw [PyData.depthAll] at hh
    rcases List.mem_cons.mp hd with z | z
    · rw [z]; omega
    · exact depthAll_mem (by omega) d z
theorem reps_pairs {F : Hp} : ∀ {l : List (D × V)}, (∀ b ∈ l, Rep N F b.2 b.1) → Reps N F (l.map (·.2)) (l.map (·.1))
  | [], _ => .nil
  | b :: l, h => .cons (h b List.mem_cons_self) (reps_pairs fun c hc => h c (List.mem_cons_of_mem _ hc))
theorem sf_keysSort {x : Str} {p pos : Pos} {fa : M Bv} (hc : X.calm = true) (hu : X.A.units + 64 < cLine) (hgl : Gl X x) (hm : X.mg x = none) (hv : bootBuiltins x = some (.builtin "sorted")) (he : SB X W e fa)
    (hbase : attributeBase e "keys" X.env (eval e X.env) = eval e X.env := by rfl) (hline : (apos.endLine == cpos.line) = true := by rfl) (hn : x ≠ "__name__" := by decide) (hdb : (x == ("__debug__" : Str)) = false := by decide)
    (hs : starEach [.Call (.Attribute e "keys" apos) [] [] cpos] X.env = (false, eval (.Call (.Attribute e "keys" apos) [] [] cpos) X.env) :: starEach [] X.env := by rfl) (hpl : (backTo pos (starEach [] X.env)).any (·.1) = false := by rfl) :
    SF X W (.Call (.Name x p) [.Call (.Attribute e "keys" apos) [] [] cpos] [] pos) (keysSortF fa) := by
  refine (pe_callB (cr_sortKeys hc hu) hgl hm hv (pa_cons (pe_keysV he hbase hline) pa_nil hs) hn hdb hs hpl).weak ?_
  rintro σ H Q ⟨G, F, ρ, s, q⟩
  refine ⟨G, F, ρ, s, (RP.bind q).mono fun b ρ1 F1 H1 s1 f1 ⟨_, _, h1⟩ v r1 => ?_⟩
  unfold dictB at h1
  cases e1 : rdB b ρ1 with
  | none => rw [e1] at h1; exact h1.elim
  | some dd =>
    rw [e1] at h1
    cases dd with
    | dict kvs =>
      dsimp only at h1
      by_cases hk : keysOk kvs = true ∧ kvs.length ≤ sizeLine
      · rw [if_pos hk] at h1
        dsimp only at h1
        by_cases hso : sortOk (kvs.map (·.1)) = true
        · rw [if_pos hso] at h1
          obtain ⟨g1, g3, g4⟩ := sortOk_iff.mp hso
          obtain ⟨d, o, xs, rfl, hd, ob, r⟩ := (s1.rd r1 (Same.refl _) e1).dictHO s1.bs.fh hk.1
          refine ⟨d, o, rfl, hd, fun vw hvw => ?_⟩
          have hh := same_upd (o := dobj vw (keysObj d)) hvw
          have hk1 := r.zip_fst
          have hrp := r.zip_rep
          have hd2 : DictHO (upd H1 vw (dobj vw (keysObj d))) d o := ⟨hh _ _ hd.1, hd.2⟩
          refine ⟨vw, d, o, F1, _, rfl, upd_same, hd2, s1.bs.fh.trans hh, ⟨xs, kvs, ob, r, rfl⟩, fun c hc => ?_, by rw [hk1]; exact g1.imp (fun h => by rw [← hk1, List.length_map] at h; exact h) id, fun c hc => ?_, ?_, fun p hp => ?_⟩
          · refine (hrp c hc).dp (s1.bs.fh.trans hh) (canLayAll_mem g3 _ ?_)
            rw [← hk1]; exact List.mem_map.mpr ⟨c, hc, rfl⟩
          · refine depthAll_mem g4 _ ?_
            rw [← hk1]; exact List.mem_map.mpr ⟨c, hc, rfl⟩
          · rw [List.length_map, List.length_zip, r.length, Nat.min_self]; exact hk.2
          · have x1 : Ext F1 H1 F1 (upd H1 vw (dobj vw (keysObj d))) := ⟨Same.refl _, hh, s1.bs.fh.trans hh, fun _ h _ => h⟩
            have s2 := s1.ext x1
            refine RP.pure h1 s2 (.ref p) _ (s2.push hp ?_)
            have e0 := List.map_mergeSort (r := PySem.W.dataLe false (fun b : D × V => b.1)) (s := PySem.W.dataLe false (id : D → D)) (f := fun b : D × V => b.1) (l := (xs.zip kvs).map fun p => (p.2.1, V.ref p.1.2.1)) (fun a _ b _ => rfl)
            rw [hk1] at e0
            show Reps X.en F1 _ (sortD (kvs.map (·.1)))
            unfold sortD
            rw [← e0]
            exact reps_pairs fun c hc => hrp c (List.mem_mergeSort.mp hc)
        · rw [if_neg hso] at h1; exact h1.elim
      · rw [if_neg hk] at h1; exact h1.elim
    | _ => exact h1.elim

theorem RepK.key_at {F : Hp} : ∀ {xs : List (NestedKey × Addr × Value)} {kvs : List (D × D)} {i : Nat} {z : NestedKey × Addr × Value}, RepK N F xs kvs → xs[i]? = some z → ∃ kd, (kvs.map (·.1))[i]? = some kd ∧ Rep N F (.ref z.2.1) kd
  | _, _, _, _, .nil, h => by simp at h
  | _, _, 0, _, .cons a _ _ _ _ _, h => by simp at h; subst h; exact ⟨_, rfl, a⟩
  | _, _, i + 1, _, .cons _ _ _ _ _ f, h => by
    obtain ⟨kd, h1, h2⟩ := f.key_at (i := i) (by simpa using h)
    exact ⟨kd, by simpa using h1, h2⟩
theorem RepK.val_at {F : Hp} : ∀ {xs : List (NestedKey × Addr × Value)} {kvs : List (D × D)} {i : Nat} {z : NestedKey × Addr × Value}, RepK N F xs kvs → xs[i]? = some z → ∃ d v, (kvs.map (·.2))[i]? = some d ∧ RelV v z.2.2 ∧ Rep N F v d
  | _, _, _, _, .nil, h => by simp at h
  | _, _, 0, _, .cons _ _ _ d r _, h => by simp at h; subst h; exact ⟨_, _, rfl, d, r⟩
  | _, _, i + 1, _, .cons _ _ _ _ _ f, h => by
    obtain ⟨kd, v, h1, h2⟩ := f.val_at (i := i) (by simpa using h)
    exact ⟨kd, v, by simpa using h1, h2⟩
def keysI (f : M D) : M (List D) := f.bind fun d => match d with
  | .dict kvs => if keysOk kvs = true then M.pure (kvs.map (·.1)) else M.fail
  | _ => M.fail
def Itkd (d : Addr) (o : Obj) (es : Array DictEntry) : It := ⟨fun i H => H d = some (dobj d o) ∧ i < es.size, fun i H x H' => H' = H ∧ ∃ (hi : i < es.size), RelV x es[i].key, fun i H => H d = some (dobj d o) ∧ i = es.size⟩
theorem turn_keysD {P : Program} {w : World} {K : PySem.W.Frag} {tg : Expr} {d : Addr} {o : Obj} {es : Array DictEntry} {ep : Nat} (it : Addr) (hx : o.ExactDict) (hod : o.data = .dict es ep) (hkey : ∀ i (hi : i < es.size), ∃ a, es[i].key = .ref a) :
    Turn P w K tg (Itkd d o es) [it] it (fun i h => h.IsKeyIter it d i es.size ep) where
  mem := by simp
  obj := fun i h st b hb => by
    have e : b = it := by simpa using hb
    subst e
    obtain ⟨oi, e, c, dd⟩ := st
    exact ⟨oi, e, fun v z => by rw [dd] at z; cases z⟩
  keep := fun i h h' st k => st.at fun oi e => k it (by simp) oi e
  item := by
    intro X hP hw hK hc i pins s σ H E I hf st hg
    subst hP hw hK
    obtain ⟨hd, hi⟩ := hg
    obtain ⟨f0, f1, f2, f3, f4, f5⟩ := hf it (by simp)
    obtain ⟨hgd, _⟩ := I.hok d _ hd
    obtain ⟨a, hka⟩ := hkey i hi
    refine PySem.wpAny_pyNext_keys_item_raw st ⟨o, hgd, hx, hod⟩ hi fun h' st' sb => ?_
    have I1 : Inv X pins σ H { s with heap := h' } := I.turned (t' := s.toks) (fun b ob hb e => (sb.2 b hb).trans e) f0 f1 f3 f4 f5
    obtain ⟨oi, e, c, dd⟩ := id st'
    refine ⟨es[i].key, rfl, go_of (s := { s with heap := h' }) e c dd (by decide) ⟨.ref a, H, I1, hka, ⟨rfl, hi, hka⟩, st', fun b hb => (hf b hb).1⟩⟩
  done := by
    intro X hP hw hK hc i pins s σ H E I hf st hg
    subst hP hw hK
    obtain ⟨hd, hi⟩ := hg
    obtain ⟨f0, f1, f2, f3, f4, f5⟩ := hf it (by simp)
    obtain ⟨hgd, _⟩ := I.hok d _ hd
    exact PySem.wpAny_pyNext_keys_end_raw (I.ok.hd hc) st ⟨o, hgd, hx, hod⟩ (by rw [hi]; exact Nat.le_refl _) fun h' eb => ⟨rfl, I.turned (t' := s.toks) (fun b ob hb e => eb b ob hb e) f0 f1 f3 f4 f5⟩
  self := fun A i s Q E st h => wpAny_pyIter_keyiter st h
def iKeysD (w : World) (td : TE) : TI := fun σ H R => td σ H fun x H1 => ∃ d o es ep, x = .ref d ∧ DictHO H1 d o ∧ o.data = .dict es ep ∧ (∀ i (hi : i < es.size), ∃ a, es[i].key = .ref a) ∧ R (Itkd d o es) H1
theorem pi_keysD {tg : Expr} (he : PE X e td) (hbase : attributeBase e "keys" X.env (eval e X.env) = eval e X.env := by rfl) (hline : (apos.endLine == cpos.line) = true := by rfl) : PI X tg (.Call (.Attribute e "keys" apos) [] [] cpos) (iKeysD X.w td) := by
  refine ⟨fun pins s σ H R I h => ?_⟩
  refine wpAny_Call_method (T := "dict") (id := "dict.keys") hbase rfl hline F.plainAttrs_dict F.slot_dict_keys F.type_dict_keys (thn (he.run pins s σ H _ I h) fun u s1 ⟨x, H1, I1, rx, d, o, es, ep, ex, hd, hdt, hkey, q⟩ => ?_)
  subst ex
  obtain rfl : u = Value.ref d := rx
  obtain ⟨hg, _⟩ := hd.get I1
  have raw : s1.heap.DictRaw d es ep := ⟨o, hg, hd.2.2.1, hdt⟩
  refine ⟨raw.typeIs, fun a ea => by cases ea; exact ⟨o, hg, hd.2.2.1.2.1⟩, ?_⟩
  have I2 : Inv X pins σ H1 { s1 with heap := s1.heap.push (keysObj d) } := I1.kept (t' := s1.toks) fun b ob q => Heap.get?_push_of_some _ q
  have raw2 : (s1.heap.push (keysObj d)).DictRaw d es ep := raw.at fun o e => Heap.get?_push_of_some _ e
  have fin : wpAny (model X.prog X.w) X.A (pyIter (.ref s1.heap.objs.size)) (PIE X pins σ tg R) X.xe { s1 with heap := s1.heap.push (keysObj d) } := by
    refine PySem.wpAny_pyIter_keys_raw (d := d) ⟨_, Heap.get?_push_size _ rfl, rfl, rfl⟩ raw2 (pi_one (tk := s1.toks) I2 _ (turn_keysD _ hd.2.2.1 hdt hkey) ⟨_, Heap.get?_push_size _ rfl, rfl, rfl⟩ q)
  show wpAny _ _ (callWith cpos (.builtin "dict.keys") [.ref d] [] []) _ X.xe s1
  exact method_meetsIn F.slot_dict_keys F.entry_dict_keys rfl (PySem.evalArgs_none ⟨rfl, raw.typeIs, F.args_dict_keys_1 _, _, PySem.meets_dict_keys_raw d hd.2.1, ⟨es, ep, raw⟩, fin⟩)
theorem si_keys {tg : Expr} {f : M D} (h : SE X W e f) (hbase : attributeBase e "keys" X.env (eval e X.env) = eval e X.env := by rfl) (hline : (apos.endLine == cpos.line) = true := by rfl) : SI X W tg (.Call (.Attribute e "keys" apos) [] [] cpos) (keysI f) := by
  refine (pi_keysD h hbase hline).weak ?_
  rintro σ H R ⟨G, F, ρ, s, q⟩
  refine ⟨G, F, ρ, s, (RP.bind q).mono fun d ρ1 F1 H1 s1 f1 ⟨_, _, h1⟩ v r => ?_⟩
  cases d with
  | dict kvs =>
    dsimp only at h1
    by_cases hk : keysOk kvs = true
    · rw [if_pos hk] at h1
      cases r with
      | @dct a o xs kvs hF hm ob r =>
        obtain ⟨es, ep, hd, hsz, hent⟩ := ob.entries
        refine ⟨a, o, es, ep, rfl, ⟨s1.bs.fh _ _ hF, hm, ob.ex, es, ep, hd⟩, hd, fun i hi => ?_, RP.pure h1 s1 _ ?_⟩
        · obtain ⟨x, _, e1, _⟩ := hent i hi
          exact ⟨_, e1⟩
        · have hl := r.length
          refine ⟨fun i F2 H2 hi f h => ⟨h _ _ (f _ _ hF), by rw [List.length_map] at hi; omega⟩, fun F2 H2 f h => ⟨h _ _ (f _ _ hF), by rw [List.length_map]; omega⟩, fun i F2 H2 x H' hi f h y => ?_⟩
          obtain ⟨e, hi2, rx⟩ := y
          subst e
          obtain ⟨z, hz, e1, _⟩ := hent i hi2
          obtain ⟨kd, e2, rk⟩ := r.key_at hz
          refine ⟨F2, kd, e2, Ext.refl h, ?_⟩
          rw [e1] at rx
          have : x = .ref z.2.1 := rx.inj (y := V.ref z.2.1) rfl
          rw [this]
          exact rk.mono f
      | scr _ _ => cases hk
    · rw [if_neg hk] at h1; exact h1.elim
  | _ => exact h1.elim
end
end L2.Sc
set_option Elab.async false
set_option linter.all false
set_option maxRecDepth 100000
set_option maxHeartbeats 2000000
namespace HT
open PySem PySem.Spec PyProof.Rows L2
section
variable {prog : Program} {w : World} {A : Around} {E : Value → Shared → Prop} {s : Shared}
theorem sc_adjust_rev (n : Nat) : Builtin.Slice.sliceAdjust none none (-1) (n : Int) = ((n : Int) - 1, -1) := by
  unfold Builtin.Slice.sliceAdjust
  simp
theorem sc_places_rev (n : Nat) : Builtin.Slice.slicePlaces ((n : Int) - 1) (-1) (-1) = n := by
  unfold Builtin.Slice.slicePlaces
  simp
  split <;> omega
theorem sc_sliceApplied_rev {sl : Addr} {t : Tok} {n : Nat} {Q : Int × Int × Nat → Shared → Prop} (hs : s.heap.IsSliceOf sl .none .none (.int (-1) t)) (h : Q ((n : Int) - 1, -1, n) s) : wpAny (model prog w) A (Builtin.Slice.sliceApplied (.ref sl) (pure (n : Int))) Q E s := by
  obtain ⟨os, hos, hcs, hds⟩ := id hs
  unfold Builtin.Slice.sliceApplied Builtin.Slice.sliceFields
  refine wpAny_bind (wpAny_bind (wpAny_field hos hds (x := .none) rfl (wpAny_bind (wpAny_field hos hds (x := .none) rfl (wpAny_bind (wpAny_field hos hds (x := .int (-1) t) rfl (wpAny_pure ?_)))))))
  refine wpAny_bind (slicePart_int ?_)
  show wpAny _ _ (if ((-1 : Int) == 0) = true then _ else _) _ _ s
  rw [if_neg (by decide)]
  refine wpAny_bind (slicePart_none (wpAny_bind (slicePart_none (wpAny_bind (wpAny_pure ?_)))))
  show wpAny _ _ (match Builtin.Slice.sliceAdjust none none (-1) (n : Int) with | (lo, hi) => pure (lo, (-1 : Int), Builtin.Slice.slicePlaces lo hi (-1))) _ _ s
  rw [sc_adjust_rev n]
  show wpAny _ _ (pure ((n : Int) - 1, (-1 : Int), Builtin.Slice.slicePlaces ((n : Int) - 1) (-1) (-1))) _ _ s
  rw [sc_places_rev]
  exact wpAny_pure h
theorem sc_pick_rev (xs : List Value) : ((List.range xs.length).filterMap fun (m : Nat) => xs.toArray[(((xs.length : Int) - 1) + (m : Int) * (-1)).toNat]?) = xs.reverse := by
  have e : ∀ m ∈ List.range xs.length, xs.toArray[(((xs.length : Int) - 1) + (m : Int) * (-1)).toNat]? = some (xs.reverse.getD m .none) := by
    intro m hm
    have hm := List.mem_range.mp hm
    have e1 : (((xs.length : Int) - 1) + (m : Int) * (-1)).toNat = xs.length - 1 - m := by omega
    rw [e1]
    have h2 : xs.length - 1 - m < xs.length := by omega
    simp [h2, hm]
  have gen : ∀ (l : List Nat) (f : Nat → Option Value) (g : Nat → Value), (∀ m ∈ l, f m = some (g m)) → l.filterMap f = l.map g := by
    intro l f g
    induction l with
    | nil => intro _; rfl
    | cons a l ih => intro h; rw [List.filterMap_cons, h a List.mem_cons_self, List.map_cons, ih fun m hm => h m (List.mem_cons_of_mem _ hm)]
  rw [gen _ _ _ e]
  apply List.ext_getElem
  · simp
  · intro i h1 h2
    simp at h1 h2
    simp [h1]
theorem sc_getItem_tuple_rev {t sl : Addr} {its : List Value} {tk : Tok} {Q : Value → Shared → Prop} (ht : IsTup s.heap t its.toArray) (hs : s.heap.IsSliceOf sl .none .none (.int (-1) tk))
    (h : Q (.ref s.heap.objs.size) { s with heap := s.heap.push { cls := .type "tuple", data := .seq its.reverse.toArray } })
    (hsz : its.length ≤ sizeLine) : wpAny (model prog w) A (getItem (.ref t) (.ref sl)) Q E s := by
  have htake : sizeOk (.seq its.reverse.toArray) := by
    show its.reverse.toArray.size ≤ sizeLine
    rw [List.size_toArray, List.length_reverse]; exact hsz
  obtain ⟨os, hos, hcs, hds⟩ := id hs
  have hTs : s.TypeIs (.ref sl) "slice" := ⟨os, hos, hcs⟩
  unfold getItem
  try with_reducible refine wpAny_holding ?_
  first | refine wpAny_bind (wpAny_pure ?_) | skip
  refine wpAny_bind (wpAny_sequenceKey ht.typeIs (by decide) ?_)
  refine wpAny_bind (wpAny_callSpecial?_slot (name := Str.ofString "__getitem__") ht.typeIs PyProof.Rows.slot_tuple_getitem
    (wpAny_call_entry PyProof.Rows.slot_tuple_getitem ht.typeIs entry_tuple_getitem ?_ (args_tuple_getitem _ _)))
  show wpAny _ _ (Builtin.Tuple.tupleItemsOf (.ref t) >>= _) _ _ s
  refine wpAny_bind (tupleItemsOf_ ht ?_)
  refine wpAny_bind (wpAny_typeOf hTs ?_)
  rw [if_pos (by decide)]
  have hz : its.toArray.size = its.length := by simp
  rw [hz]
  refine wpAny_bind (sc_sliceApplied_rev hs ?_)
  have hno : ¬ ((((its.length : Int) - 1) == 0 && (-1 : Int) == 1 && its.length == its.length) = true) := by simp
  show wpAny _ _ (if (((its.length : Int) - 1) == 0 && (-1 : Int) == 1 && its.length == its.length) = true then _ else _) _ _ s
  rw [if_neg hno, sc_pick_rev]
  first
    | exact wpAny_bind (m := Builtin.Tuple.tupleExact _) (wpAny_newObj_type (wpAny_pure ⟨_, rfl, wpAny_pure h⟩) htake)
    | exact wpAny_bind (m := Builtin.Tuple.tupleExact _) (wpAny_newObj_type (wpAny_bind (wpAny_pure (wpAny_pure ⟨_, rfl, wpAny_pure h⟩))) htake)
    | exact wpAny_bind (wpAny_bind (m := Builtin.Tuple.tupleExact _) (wpAny_newObj_type (wpAny_pure (wpAny_pure ⟨_, rfl, wpAny_pure h⟩)) htake))
    | exact wpAny_bind (wpAny_bind (m := Builtin.Tuple.tupleExact _) (wpAny_newObj_type (wpAny_pure ⟨_, rfl, wpAny_pure h⟩) htake))
end
end HT
namespace L2.Sc
open PySem PySem.Spec PyProof.Rows
section
variable {X : Cx} {W : WX} {N : En} {e : Expr} {fa : M Bv}
theorem Reps.reverse {F : Hp} {vs : List V} {ds : List D} (r : Reps N F vs ds) : Reps N F vs.reverse ds.reverse := by
  induction ds generalizing vs with
  | nil => cases r; exact .nil
  | cons d ds ih =>
    cases r with
    | cons a b =>
      rw [List.reverse_cons, List.reverse_cons]
      exact (ih b).append (.one a)
def tRevT (K : PySem.W.Frag) (te : TE) : TE := fun σ H Q => te σ H fun x H1 => ∃ a xs, x = .ref a ∧ ((SqL K H1 a xs ∧ ∀ p, H1 p = none → Q (.ref p) (upd H1 p (.lst xs.reverse))) ∨ (SqT K H1 a xs ∧ ∀ p, H1 p = none → Q (.ref p) (upd H1 p (.tup xs.reverse))))
theorem pe_rev {te : TE} {k : Nat} {p1 p2 p3 pos : Pos} (he : PE X e te) : PE X (.Subscript e (.Slice none none (some (.UnaryOp .USub (.Constant (.int 1) k p1) p2)) p3) pos) (tRevT X.K te) := by
  refine ⟨fun pins s σ H Q I h => ?_⟩
  refine Subscript_ (thn (he.run pins s σ H _ I h) fun v s1 ⟨x, H1, I1, r1, q1⟩ => ?_)
  obtain ⟨a, xs, ex, q⟩ := q1
  subst ex
  cases r1
  have hst : PO X (some (.UnaryOp .USub (.Constant (.int 1) k p1) p2)) (tPart (tUn (rU fun i => .int (-i)) (tC (.int 1)))) := po_some (pe_un un_neg pe_int)
  refine wpAny_Slice (thn (po_none.run pins s1 σ H1 (fun o H2 => o = none ∧ H2 = H1) I1 ⟨rfl, rfl⟩) fun vl s2 ⟨l, H2, I2, pl, el, e2⟩ => ?_)
  subst el e2
  refine thn (po_none.run pins s2 σ H2 (fun o H3 => o = none ∧ H3 = H2) I2 ⟨rfl, rfl⟩) fun vu s3 ⟨u, H3, I3, pu, eu, e3⟩ => ?_
  subst eu e3
  refine thn (hst.run pins s3 σ H3 (fun o H4 => o = some (-1) ∧ H4 = H3) I3 ⟨1, rfl, -1, rfl, rfl, rfl⟩) fun vs s4 ⟨o, H4, I4, ps, eo, e4⟩ => ?_
  subst eo e4
  have I5 : Inv X pins σ H4 { s4 with heap := s4.heap.push { cls := .type "slice", data := .fields #[vl, vu, vs] } } := I4.kept (t' := s4.toks) fun b ob q => Heap.get?_push_of_some _ q
  show wpAny (model X.prog X.w) X.A (subscriptTail e (.Slice none none (some (.UnaryOp .USub (.Constant (.int 1) k p1) p2)) p3) (.ref a) (.ref s4.heap.objs.size)) (EP X pins σ Q) X.xe { s4 with heap := s4.heap.push { cls := .type "slice", data := .fields #[vl, vu, vs] } }
  rcases q with ⟨hx, q⟩ | ⟨hx, q⟩
  · obtain ⟨its, r, ht, hz⟩ := I5.list hx
    have hlen := r.length
    refine tail_any (ops := [.ref a, .ref s4.heap.objs.size]) ht.isList.typeIs (PySem.slot_list_getitem.lookup) ?_ (by with_unfolding_all rfl)
    refine wpAny_getItem_list_slice ht.isList (Heap.IsSliceOf.new _ vl vu vs) pl pu ps (by decide) ?_ (by rw [List.size_toArray]; omega)
    rw [PySem.W.krv_pick]
    refine ⟨.ref _, _, I5.laid (t' := s4.toks) (o := .lst xs.reverse) (fun b ob q => Heap.get?_push_of_some _ q) (Nat.le_refl _) ?_, rfl, q _ (I5.hok.fresh (Nat.le_refl _))⟩
    exact ⟨by rw [List.length_reverse]; exact hz, _, 0, r.reverse, Heap.get?_push_size _ rfl⟩
  · obtain ⟨its, r, ht, hz⟩ := I5.tuple hx
    have hlen := r.length
    cases pl
    cases pu
    cases ps
    refine tail_any (ops := [.ref a, .ref s4.heap.objs.size]) ht.typeIs (PyProof.Rows.slot_tuple_getitem.lookup) ?_ (by with_unfolding_all rfl)
    refine HT.sc_getItem_tuple_rev ht (Heap.IsSliceOf.new _ _ _ _) ?_ (by omega)
    refine ⟨.ref _, _, I5.laid (t' := s4.toks) (o := .tup xs.reverse) (fun b ob q => Heap.get?_push_of_some _ q) (Nat.le_refl _) ?_, rfl, q _ (I5.hok.fresh (Nat.le_refl _))⟩
    exact ⟨by rw [List.length_reverse]; exact hz, _, r.reverse, IsTup.new _ _⟩
def revE (fa : M Bv) : M D := fa.bind fun b ρ => match rdB b ρ with
  | some (.list ds) => .ok (.list ds.reverse) ρ
  | some (.tuple ds) => .ok (.tuple ds.reverse) ρ
  | _ => .stuck
theorem se_rev {k : Nat} {p1 p2 p3 pos : Pos} (he : SB X W e fa) : SE X W (.Subscript e (.Slice none none (some (.UnaryOp .USub (.Constant (.int 1) k p1) p2)) p3) pos) (revE fa) := by
  refine (pe_rev he).weak ?_
  rintro σ H Q ⟨G, F, ρ, s, q⟩
  refine ⟨G, F, ρ, s, (RP.bind q).mono fun b ρ1 F1 H1 s1 f1 ⟨_, _, h1⟩ v r1 => ?_⟩
  split at h1
  · rename_i ds e1
    obtain ⟨a, vs, rfl, hH, rs⟩ := (s1.rd r1 (Same.refl _) e1).lst s1.bs.fh
    refine ⟨a, vs, rfl, .inl ⟨SqL.of hH, fun p hp => ?_⟩⟩
    have x' := Ext.one s1.bs.fh (.lst vs.reverse) hp
    exact h1 _ _ (s1.ext x') x'.ff _ (.lst upd_same (rs.reverse.mono x'.ff))
  · rename_i ds e1
    obtain ⟨a, vs, rfl, hH, rs⟩ := (s1.rd r1 (Same.refl _) e1).tup s1.bs.fh
    refine ⟨a, vs, rfl, .inr ⟨hH, fun p hp => ?_⟩⟩
    have x' := Ext.one s1.bs.fh (.tup vs.reverse) hp
    exact h1 _ _ (s1.ext x') x'.ff _ (.tup (.inl (.inl upd_same)) (rs.reverse.mono x'.ff))
  · exact h1.elim

def chainV (ga gb : M Bv) (g : D → D → Option Bool) (gc : M Bv) (g' : D → D → Option Bool) : M D := ga.bind fun a => gb.bind fun b => (opT a b g).bind fun c => if c = true then gc.bind fun d => (opT b d g').bind fun t => M.pure (.bool t) else M.pure (.bool false)
def chainT (ga gb : M Bv) (g : D → D → Option Bool) (gc : M Bv) (g' : D → D → Option Bool) : M Bool := ga.bind fun a => gb.bind fun b => (opT a b g).bind fun c => if c = true then gc.bind fun d => opT b d g' else M.pure false
theorem opT_out {a b : Bv} {g : D → D → Option Bool} {r : R2} {G : Ent} {F F0 H : Hp} {σ : St} {ρ : List Sl} {x y : V} {β : Type} {k : Bool → M β} {P : β → List Sl → Hp → Hp → Prop} (hg : DOp N r (fun a b => (g a b).map .bool)) (s : SR N G F H σ ρ) (ra : BvR N F0 σ x a) (rb : BvR N F0 σ y b) (f : Same F0 F)
    (h : RP N W G F σ (((opT a b g).bind k) ρ) P) {Q : VK} (hQ : ∀ c F' H', SR N G F' H' σ ρ → Same F F' → RP N W G F' σ (k c ρ) P → Q (.bl c) H') : r x y H Q := by
  have h2 := RP.bind (r := opT a b g ρ) (g := k) h
  unfold opT at h2
  split at h2
  · rename_i u v e1 e2
    split at h2
    · rename_i d e3
      refine hg F H x y u v (.bool d) Q s.bs.fh (s.rd ra f e1) (s.rd rb f e2) (by simp [e3]) fun w F' H' x' rw' => ?_
      cases rw'
      obtain ⟨s3, f3, h3⟩ := h2 F' H' (s.ext x') x'.ff
      exact hQ d F' H' s3 f3 h3
    · exact h2.elim
  · exact h2.elim
theorem st_chain {a b c : Expr} {op op' : CmpOp} {r r' : R2} {g g' : D → D → Option Bool} {ga gb gc : M Bv} {pos : Pos} (ho : OpR X (compareOp op) r) (hg : DOp X.en r (fun a b => (g a b).map .bool)) (ho' : OpR X (compareOp op') r') (hg' : DOp X.en r' (fun a b => (g' a b).map .bool))
    (ha : SB X W a ga) (hb : SB X W b gb) (hc : SB X W c gc) (hm : lastMarks [op, op'] [b, c] = false := by with_unfolding_all rfl) : ST X W (.Compare a [op, op'] [b, c] pos) (chainT ga gb g gc g') := by
  refine (pt_chain ho ho' ha hb hc hm).weak ?_
  rintro σ H Q ⟨G, F, ρ, s, q⟩
  refine ⟨G, F, ρ, s, (RP.bind q).mono fun a ρ1 F1 H1 s1 f1 ⟨_, _, h1⟩ x rx => ?_⟩
  refine ⟨G, F1, ρ1, s1, (RP.bind h1).mono fun b ρ2 F2 H2 s2 f2 ⟨_, _, h2⟩ y ry => ?_⟩
  refine opT_out hg s2 (BvR.mono f2 rx) ry (Same.refl _) h2 fun k F3 H3 s3 f3 h3 => ⟨k, rfl, ?_⟩
  cases k with
  | false => rw [if_neg (by decide)] at h3 ⊢; exact ⟨false, rfl, RP.pure h3 s3⟩
  | true =>
    rw [if_pos rfl] at h3 ⊢
    refine ⟨G, F3, ρ2, s3, (RP.bind h3).mono fun d ρ4 F4 H4 s4 f4 ⟨_, _, h4⟩ z rz => ?_⟩
    refine opT_out (W := W) (k := M.pure) hg' s4 (BvR.mono (f3.trans f4) ry) rz (Same.refl _) (P := fun b _ _ H' => Q b H') ?_ fun t F5 H5 s5 f5 h5 => ⟨t, rfl, RP.pure h5 s5⟩
    have : (opT b d g').bind M.pure = opT b d g' := by
      funext ρ
      unfold M.bind Res.bind
      cases opT b d g' ρ <;> rfl
    rw [this]; exact h4
theorem se_chain {a b c : Expr} {op op' : CmpOp} {r r' : R2} {g g' : D → D → Option Bool} {ga gb gc : M Bv} {pos : Pos} (ho : OpR X (compareOp op) r) (hg : DOp X.en r (fun a b => (g a b).map .bool)) (ho' : OpR X (compareOp op') r') (hg' : DOp X.en r' (fun a b => (g' a b).map .bool))
    (ha : SB X W a ga) (hb : SB X W b gb) (hc : SB X W c gc) (hm : lastMarks [op, op'] [b, c] = false := by with_unfolding_all rfl) : SE X W (.Compare a [op, op'] [b, c] pos) (chainV ga gb g gc g') := by
  refine (pe_chain ho ho' ha hb hc hm).weak ?_
  rintro σ H Q ⟨G, F, ρ, s, q⟩
  refine ⟨G, F, ρ, s, (RP.bind q).mono fun a ρ1 F1 H1 s1 f1 ⟨_, _, h1⟩ x rx => ?_⟩
  refine ⟨G, F1, ρ1, s1, (RP.bind h1).mono fun b ρ2 F2 H2 s2 f2 ⟨_, _, h2⟩ y ry => ?_⟩
  refine opT_out hg s2 (BvR.mono f2 rx) ry (Same.refl _) h2 fun k F3 H3 s3 f3 h3 => ⟨k, rfl, ?_⟩
  cases k with
  | false => rw [if_neg (by decide)] at h3 ⊢; exact RP.pure h3 s3 _ (.bl false)
  | true =>
    rw [if_pos rfl] at h3 ⊢
    refine ⟨G, F3, ρ2, s3, (RP.bind h3).mono fun d ρ4 F4 H4 s4 f4 ⟨_, _, h4⟩ z rz => ?_⟩
    exact opT_out hg' s4 (BvR.mono (f3.trans f4) ry) rz (Same.refl _) h4 fun t F5 H5 s5 f5 h5 => RP.pure h5 s5 _ (.bl t)

def isTy (T : String) (d : D) : Option Bool := match T with
  | "int" => some (match d with | .int _ => true | .bool _ => true | _ => false)
  | "bool" => some (match d with | .bool _ => true | _ => false)
  | "str" => some (match d with | .str _ => true | _ => false)
  | "tuple" => some (match d with | .tuple _ => true | _ => false)
  | "list" => some (match d with | .list _ => true | _ => false)
  | _ => none
def isiV (fa : M Bv) (T : String) : M D := fa.bind fun b ρ => match rdB b ρ with
  | some d => match d with
    | .dict _ => .stuck
    | d => match isTy T d with
      | some c => .ok (.bool c) ρ
      | none => .stuck
  | none => .stuck
def tyD : D → String
  | .none => "NoneType"
  | .bool _ => "bool"
  | .int _ => "int"
  | .str _ => "str"
  | .list _ => "list"
  | .tuple _ => "tuple"
  | .dict _ => "dict"
def notDict : D → Bool
  | .dict _ => false
  | _ => true
theorem BRep.ty {F H : Hp} (h : Same F H) {v : V} {d : D} (b : BRep N F H v d) (e : notDict d = true) : TyX N.K H v (.type (tyD d)) := by
  cases d with
  | none => have := b.non; subst this; exact .base .non
  | bool c => have := b.bl; subst this; exact .base (.bl _)
  | int c => have := b.int; subst this; exact .base (.int _)
  | str c => have := b.str; subst this; exact .base (.str _)
  | list c => obtain ⟨a, vs, rfl, hs, _⟩ := b.lst h; exact .base (.lst hs)
  | tuple c =>
    obtain ⟨a, vs, rfl, hs, _⟩ := b.tup h
    rcases hs with (hs | ⟨o, hs⟩) | ⟨o, its, n, hk, hc, _⟩
    · exact .base (.tup hs)
    · exact .fTuple hs
    · exact .kTuple hk hc
  | dict c => cases e
theorem ty_ok {K : PySem.W.Frag} {T : String} {d : D} {c : Bool} (h : isTy T d = some c) (hd : notDict d = true) : PySem.W.kitOne K (.type (tyD d)) (.type T) = some c := by
  unfold isTy at h
  split at h <;> (first | (cases h) | skip) <;> (cases d <;> dsimp only [tyD] <;> first | exact kit_ty (r := true) (by decide +kernel) | exact kit_ty (r := false) (by decide +kernel) | cases hd)
theorem se_isi {x : Str} {y : Str} {p p2 pos : Pos} {T : String} (hgl : Gl X x) (hm : X.mg x = none) (hv : bootBuiltins x = some (.builtin "isinstance")) (ha : SB X W e fa)
    (hgy : Gl X y) (hmy : X.mg y = none) (hvy : bootBuiltins y = some (.type T)) (hny : y ≠ "__name__" := by decide)
    (hn : x ≠ "__name__" := by decide) (hdb : (x == ("__debug__" : Str)) = false := by decide) (hdy : (y == ("__debug__" : Str)) = false := by decide)
    (he : starEach [e, .Name y p2] X.env = (false, eval e X.env) :: starEach [.Name y p2] X.env := by rfl) (he2 : starEach [.Name y p2] X.env = (false, eval (.Name y p2) X.env) :: starEach [] X.env := by rfl) (hpl : (backTo pos (starEach [.Name y p2] X.env)).any (·.1) = false := by rfl) :
    SE X W (.Call (.Name x p) [e, .Name y p2] [] pos) (isiV fa T) := by
  refine (pe_callB call_isi hgl hm hv (pa_cons ha (pa_cons (pe_bltn (v := .ty T) hgy hmy hvy rfl hny hdy) pa_nil he2) he) hn hdb he hpl).weak ?_
  rintro σ H Q ⟨G, F, ρ, s, q⟩
  refine ⟨G, F, ρ, s, (RP.bind q).mono fun b ρ1 F1 H1 s1 f1 ⟨_, _, h1⟩ v r1 => ?_⟩
  cases e1 : rdB b ρ1 with
  | none => rw [e1] at h1; exact h1.elim
  | some d =>
    rw [e1] at h1
    have hnd : notDict d = true := by
      cases d with
      | dict _ => exact h1.elim
      | _ => rfl
    have b := (s1.rd r1 (Same.refl _) e1).ty s1.bs.fh hnd
    cases e2 : isTy T d with
    | none =>
      exfalso
      cases d <;> (dsimp only at h1; first | exact h1 | (rw [e2] at h1; exact h1))
    | some c =>
      have h3 : RP X.en W G F1 σ (Res.ok (.bool c) ρ1) fun d _ F' H' => ∀ v, Rep X.en F' v d → Q v H' := by
        cases d <;> (dsimp only at h1; first | exact h1.elim | (rw [e2] at h1; exact h1))
      exact ⟨v, .ty T, _, _, c, rfl, .ty T, b, ty_ok e2 hnd, RP.pure h3 s1 _ (.bl c)⟩
end
end L2.Sc
set_option Elab.async false
set_option linter.all false
set_option maxRecDepth 100000
set_option maxHeartbeats 2000000
namespace L2.Sc
open PySem PySem.Spec PyProof.Rows
theorem preSum_list : ∀ (ns : List Int), preSum (fun i => ns.getD i 0) ns.length = ns.sum := by
  have gen : ∀ (ns : List Int) (k : Nat), k ≤ ns.length → preSum (fun i => ns.getD i 0) k = (ns.take k).sum := by
    intro ns k
    induction k with
    | zero => intro _; simp [preSum]
    | succ k ih =>
      intro h
      have hk : k < ns.length := h
      rw [preSum, ih (by omega), List.take_add_one, List.getElem?_eq_getElem hk, List.sum_append]
      simp [hk, List.getD]
  intro ns
  rw [gen ns ns.length (Nat.le_refl _), List.take_length]
section
variable {X : Cx} {W : WX} {N : En}
def rSumT (K : PySem.W.Frag) : List V → Hp → VK → Prop := fun vs H Q => ∃ (a : Addr) (ns : List Int), vs = [V.ref a] ∧ SqT K H a (ns.map V.int) ∧ Q (.int ns.sum) H
theorem vals_ints_get : ∀ {ns : List Int} {us : List Value} {i : Nat} {u : Value}, Vals (ns.map V.int) us → us[i]? = some u → ∃ t, u = .int (ns.getD i 0) t
  | [], _, _, _, .nil, e => by simp at e
  | n :: ns, _, 0, _, .cons r _, e => by simp at e; subst e; obtain ⟨t, rfl⟩ := r; exact ⟨t, rfl⟩
  | n :: ns, _, i + 1, _, .cons _ t, e => by
    obtain ⟨tk, h⟩ := vals_ints_get (i := i) t (by simpa using e)
    exact ⟨tk, by simpa using h⟩
theorem cr_sumT (hc : X.calm = true) : CallR X (.builtin "sum") (rSumT X.K) := by
  intro pins s σ H vs us Q I r h
  obtain ⟨a, ns, rfl, hs, q⟩ := h
  obtain ⟨its, rv, ht, hz⟩ := I.tuple hs
  rw [Vals.ref1 r]
  have tt : s.heap.IsTuple a its.toArray := ht
  have hlt : a < s.heap.objs.size := ht.lt
  refine PySem.call_sum_walkG (wpAny_pyIter_tuple tt ?_)
  refine ⟨s.heap.objs.size, _, _, its.toArray.size, _, _, fun i => ns.getD i 0, rfl, Walks.tuple (show X.A.in1.handled = none from I.ok.hd hc) s.heap.objs.size a (Nat.ne_of_lt hlt) its.toArray, ⟨⟨_, Heap.get?_push_size _ rfl, rfl, rfl⟩, tt.push _⟩, fun b hb => ?_, fun i v hv => ?_, fun h' tk t' hk => ?_⟩
  · rw [Heap.size_push]
    have : b = s.heap.objs.size ∨ b = a := by simpa using hb
    rcases this with e | e
    · rw [e]; exact Nat.lt_succ_self _
    · rw [e]; exact Nat.lt_succ_of_lt hlt
  · have hv : its.toArray[i]? = some v := hv
    exact vals_ints_get rv (by simpa using hv)
  · have hl := rv.length
    simp at hl
    have e : its.toArray.size = ns.length := by simp [hl]
    rw [e, preSum_list]
    refine ⟨.int _, H, I.kept (t' := tk) fun b o q => ?_, ⟨_, rfl⟩, q⟩
    refine hk b o ?_ (Heap.get?_push_of_some _ q)
    intro hb
    have : b = s.heap.objs.size := by simpa using hb
    exact absurd (Heap.lt_size q) (by rw [this]; exact Nat.lt_irrefl _)
def sumA : List D → Option D
  | [.list ds] => (intsL ds).map fun ns => .int ns.sum
  | [.tuple ds] => (intsL ds).map fun ns => .int ns.sum
  | _ => none
theorem CallR.or {f : Value} {r r' : List V → Hp → VK → Prop} (h : CallR X f r) (h' : CallR X f r') : CallR X f (fun vs H Q => r vs H Q ∨ r' vs H Q) := by
  intro pins s σ H vs us Q I rv q
  rcases q with q | q
  · exact h pins s σ H vs us Q I rv q
  · exact h' pins s σ H vs us Q I rv q
def rSumA (K : PySem.W.Frag) : List V → Hp → VK → Prop := fun vs H Q => rSum K vs H Q ∨ rSumT K vs H Q
theorem cr_sumA (hc : X.calm = true) : CallR X (.builtin "sum") (rSumA X.K) := CallR.or (cr_sum hc) (cr_sumT hc)
theorem dc_sumA : DCall N (rSumA N.K) sumA := by
  intro F H vs ds d Q h r e q
  unfold sumA at e
  split at e
  · rename_i es
    obtain ⟨ns, e2, rfl⟩ := Option.map_eq_some_iff.mp e
    obtain ⟨v, rfl, b⟩ := r.one
    obtain ⟨a, ws, rfl, hs, rs⟩ := b.lst h
    have := intsL_reps rs e2
    subst this
    exact .inl ⟨a, ns, rfl, SqL.of hs, q _ _ _ (Ext.refl h) (.int _)⟩
  · rename_i es
    obtain ⟨ns, e2, rfl⟩ := Option.map_eq_some_iff.mp e
    obtain ⟨v, rfl, b⟩ := r.one
    obtain ⟨a, ws, rfl, hs, rs⟩ := b.tup h
    have := intsL_reps rs e2
    subst this
    exact .inr ⟨a, ns, rfl, hs, q _ _ _ (Ext.refl h) (.int _)⟩
  · cases e

def rMM (N : En) (pick : D → List D → D) : List V → Hp → VK → Prop := fun vs H Q => ∃ (a : Addr) (x : D) (ds : List D) (xs : List V), vs = [V.ref a] ∧ (SqL N.K H a xs ∨ SqT N.K H a xs) ∧ DpAll N.K H xs (x :: ds) ∧ PySem.W.AlikeAll (x :: ds) ∧ PyData.canLayAll0 (x :: ds) = true ∧ PyData.depthAll (x :: ds) ≤ 60 ∧
  ∀ (i : Nat) v, xs[i]? = some v → (x :: ds)[i]? = some (pick x ds) → Q v H
theorem mm_core {pins : List (Addr × Obj)} {σ : St} {H : Hp} {s : Shared} {Q : VK} (I : Inv X pins σ H s) {x dd : D} {ds : List D} {xs : List V} {its : List Value} (rv : Vals xs its) (dp : DpAll X.K H xs (x :: ds)) (hcl : PyData.canLayAll0 (x :: ds) = true)
    (q : ∀ (i : Nat) v, xs[i]? = some v → (x :: ds)[i]? = some dd → Q v H) {i : Nat} {u : Value} {h' : Heap} {tk : Nat} {bs : List Addr} (hu : its.toArray[i]? = some u) (rd : Reads h' u dd bs) (hk : ∀ b o, s.heap.get? b = some o → h'.get? b = some o) : EP X pins σ Q u { s with heap := h', toks := tk } := by
  have hu : its[i]? = some u := by simpa using hu
  have hi : i < xs.length := by rw [rv.length]; exact (List.getElem?_eq_some_iff.mp hu).1
  obtain ⟨u', hu', ru⟩ := rv.get (List.getElem?_eq_getElem hi)
  rw [hu] at hu'
  cases hu'
  have gen : ∀ {xs : List V} {ds : List D} {i : Nat} {v : V}, DpAll X.K H xs ds → xs[i]? = some v → ∃ d, ds[i]? = some d ∧ Dp X.K H v d := by
    intro xs
    induction xs with
    | nil => intro ds i v _ h; simp at h
    | cons y ys ih =>
      intro ds i v hd h
      cases hd with
      | cons h1 h2 =>
        cases i with
        | zero => simp at h; subst h; exact ⟨_, rfl, h1⟩
        | succ i => simpa using ih h2 (by simpa using h)
  obtain ⟨d, hd, dpd⟩ := gen dp (List.getElem?_eq_getElem hi)
  obtain ⟨as, r1⟩ := Dp.reads I d _ _ dpd ru
  have r2 := PyProof.Rows.Reads.keeps hk r1
  have hcd := canLayAll_mem hcl d (List.mem_of_getElem? hd)
  have e := PySem.SeqAt.Reads.unique d dd u _ _ hcd r2 rd
  subst e
  exact ⟨xs[i], H, I.kept (t' := tk) hk, ru, q i _ (List.getElem?_eq_getElem hi) hd⟩
theorem cr_minD (hc : X.calm = true) (hu : X.A.units + 64 < cLine) : CallR X (.builtin "min") (rMM X.en PySem.W.minD) := by
  intro pins s σ H vs us Q I r h
  obtain ⟨a, x, ds, xs, rfl, hs, dp, hal, hcl, hz, q⟩ := h
  rw [Vals.ref1 r]
  rcases hs with hs | hs
  · obtain ⟨its, rv, hl, _⟩ := I.list hs
    obtain ⟨as, ra⟩ := Dp.readsAll I _ _ _ dp rv
    exact PySem.W.min_list_data (I.ok.hd hc) hl.isList (by simpa using ra) hal (by omega) fun i v h' tk bs hv rd hk => mm_core I rv dp hcl q hv rd hk
  · obtain ⟨its, rv, hl, _⟩ := I.tuple hs
    obtain ⟨as, ra⟩ := Dp.readsAll I _ _ _ dp rv
    exact PySem.W.min_tuple_data (I.ok.hd hc) (show s.heap.IsTuple a its.toArray from hl) (by simpa using ra) hal (by omega) fun i v h' tk bs hv rd hk => mm_core I rv dp hcl q hv rd hk
theorem cr_maxD (hc : X.calm = true) (hu : X.A.units + 64 < cLine) : CallR X (.builtin "max") (rMM X.en PySem.W.maxD) := by
  intro pins s σ H vs us Q I r h
  obtain ⟨a, x, ds, xs, rfl, hs, dp, hal, hcl, hz, q⟩ := h
  rw [Vals.ref1 r]
  rcases hs with hs | hs
  · obtain ⟨its, rv, hl, _⟩ := I.list hs
    obtain ⟨as, ra⟩ := Dp.readsAll I _ _ _ dp rv
    exact PySem.W.max_list_data (I.ok.hd hc) hl.isList (by simpa using ra) hal (by omega) fun i v h' tk bs hv rd hk => mm_core I rv dp hcl q hv rd hk
  · obtain ⟨its, rv, hl, _⟩ := I.tuple hs
    obtain ⟨as, ra⟩ := Dp.readsAll I _ _ _ dp rv
    exact PySem.W.max_tuple_data (I.ok.hd hc) (show s.heap.IsTuple a its.toArray from hl) (by simpa using ra) hal (by omega) fun i v h' tk bs hv rd hk => mm_core I rv dp hcl q hv rd hk
open Classical in
noncomputable def mmOk (ds : List D) : Bool := decide (PySem.W.AlikeAll ds ∧ PyData.canLayAll0 ds = true ∧ PyData.depthAll ds ≤ 60)
open Classical in
theorem mmOk_iff {ds : List D} : mmOk ds = true ↔ PySem.W.AlikeAll ds ∧ PyData.canLayAll0 ds = true ∧ PyData.depthAll ds ≤ 60 := by
  unfold mmOk
  exact decide_eq_true_iff
noncomputable def mmC (pick : D → List D → D) : List D → Option D
  | [.list (x :: ds)] => if mmOk (x :: ds) = true then some (pick x ds) else none
  | [.tuple (x :: ds)] => if mmOk (x :: ds) = true then some (pick x ds) else none
  | _ => none
theorem dc_mm (pick : D → List D → D) : DCall N (rMM N pick) (mmC pick) := by
  intro F H vs ds d Q h r e q
  unfold mmC at e
  split at e
  · rename_i x es
    split at e
    · rename_i hm
      cases e
      obtain ⟨h1, h2, h3⟩ := mmOk_iff.mp hm
      obtain ⟨v, rfl, b⟩ := r.one
      obtain ⟨a, ws, rfl, hs, rs⟩ := b.lst h
      refine ⟨a, x, es, ws, rfl, .inl (SqL.of hs), rs.dp h h2, h1, h2, h3, fun i v hv hd => ?_⟩
      obtain ⟨d', e1, r'⟩ := rs.getV hv
      rw [hd] at e1
      cases e1
      exact q _ _ _ (Ext.refl h) r'
    · cases e
  · rename_i x es
    split at e
    · rename_i hm
      cases e
      obtain ⟨h1, h2, h3⟩ := mmOk_iff.mp hm
      obtain ⟨v, rfl, b⟩ := r.one
      obtain ⟨a, ws, rfl, hs, rs⟩ := b.tup h
      refine ⟨a, x, es, ws, rfl, .inr hs, rs.dp h h2, h1, h2, h3, fun i v hv hd => ?_⟩
      obtain ⟨d', e1, r'⟩ := rs.getV hv
      rw [hd] at e1
      cases e1
      exact q _ _ _ (Ext.refl h) r'
    · cases e
  · cases e

def getE (fa : M Bv) (fk fx : M D) : M D := fa.bind fun b ρ1 => match dictB b ρ1 with
  | none => .stuck
  | some _ => (fk.bind fun k => fx.bind fun x ρ3 => match dictB b ρ3, keyOf k with
    | some kvs, some kk => .ok ((lookK kvs kk).getD x) ρ3
    | _, _ => .stuck) ρ1
def tGetK (N : En) (to ty tx : TE) : TE := fun σ H Q => to σ H fun x H1 => ∃ d o, x = .ref d ∧ DictHO H1 d o ∧ ty σ H1 fun y H2 => tx σ H2 fun z H3 => ∃ F kd kvs k, Same F H3 ∧ BRep N F H3 y kd ∧ BRep N F H3 (.ref d) (.dict kvs) ∧ keysOk kvs = true ∧ keyOf kd = some k ∧
  (match lookK kvs k with
  | some d0 => ∀ v, Rep N F v d0 → Q v H3
  | none => Q z H3)
theorem pe_getK {o e f : Expr} {to ty tx : TE} {apos cpos : Pos} (hu : X.A.units + 64 < cLine) (ho : PE X o to) (he : PE X e ty) (hf : PE X f tx) (m : M2 X o "get" apos e f cpos) : PE X (.Call (.Attribute o "get" apos) [e, f] [] cpos) (tGetK X.en to ty tx) := by
  refine ⟨fun pins s σ H Q I h => ?_⟩
  refine wpAny_Call_method m.base m.few m.line PySem.F.plainAttrs_dict PySem.F.slot_dict_get PySem.F.type_dict_get (thn (ho.run pins s σ H _ I h) fun u s1 ⟨x, H1, I1, rx, d, ob, ex, hd, q1⟩ => ?_)
  subst ex
  obtain rfl : u = Value.ref d := rx
  obtain ⟨hg, es, ep, hdt, raw⟩ := hd.get I1
  refine ⟨raw.typeIs, fun a ea => by cases ea; exact ⟨ob, hg, hd.2.2.1.2.1⟩, ?_⟩
  rw [m.trees]
  refine Calls.callWith_builtin rfl (Calls.evalArgs_plain (Calls.spliced_cons (thn (he.run pins s1 σ H1 _ I1 q1) fun iv s2 ⟨y, H2, I2, ry, q2⟩ =>
    Calls.spliced_cons (thn (hf.run pins s2 σ H2 _ I2 q2) fun fv s3 ⟨z, H3, I3, rz, F, kd, kvs, k, hs, bk, bd, hkk, hk, q3⟩ => Calls.spliced_nil ?_))))
  obtain ⟨a, rfl, rfl, ka, _⟩ := bk.key I3 hs ry hk
  obtain ⟨d', o', xs, e1, hH, hm, hob, r⟩ := bd.dct hs hkk
  cases e1
  obtain ⟨_, dm⟩ := dict_at I3 hs hH hob r
  have l := r.look (k := k)
  refine PySem.getOr_keyed (room_in1 hu) ka hm ⟨xs, dm, rfl⟩ ?_
  rw [valueAt_pairsH]
  cases e2 : lookK kvs k with
  | none =>
    rw [e2] at l q3
    rw [l]
    exact ⟨z, H3, I3.tok _, rz, q3⟩
  | some d0 =>
    rw [e2] at l q3
    obtain ⟨b0, u0, v0, l, rv0, rep0⟩ := l
    rw [l]
    exact ⟨v0, H3, I3.tok _, rv0, q3 v0 rep0⟩
theorem dictB_some {b : Bv} {ρ : List Sl} {kvs : List (D × D)} (h : dictB b ρ = some kvs) : rdB b ρ = some (.dict kvs) ∧ keysOk kvs = true ∧ kvs.length ≤ sizeLine := by
  unfold dictB at h
  split at h
  · rename_i l e
    split at h
    · rename_i hk
      cases h
      exact ⟨e, hk⟩
    · cases h
  · cases h
theorem se_get {o e f : Expr} {fa : M Bv} {fk fx : M D} {apos cpos : Pos} (hu : X.A.units + 64 < cLine) (ho : SB X W o fa) (he : SE X W e fk) (hf : SE X W f fx) (m : M2 X o "get" apos e f cpos := by exact ⟨rfl, rfl, rfl, rfl⟩) : SE X W (.Call (.Attribute o "get" apos) [e, f] [] cpos) (getE fa fk fx) := by
  refine (pe_getK hu ho he hf m).weak ?_
  rintro σ H Q ⟨G, F, ρ, s, q⟩
  refine ⟨G, F, ρ, s, (RP.bind q).mono fun b ρ1 F1 H1 s1 f1 ⟨_, _, h1⟩ v r1 => ?_⟩
  cases e1 : dictB b ρ1 with
  | none => rw [e1] at h1; exact h1.elim
  | some kvs1 =>
    rw [e1] at h1
    obtain ⟨g1, g2, g3⟩ := dictB_some e1
    obtain ⟨d, o1, xs, rfl, hd, _, _⟩ := (s1.rd r1 (Same.refl _) g1).dictHO s1.bs.fh g2
    refine ⟨d, o1, rfl, hd, G, F1, ρ1, s1, (RP.bind h1).mono fun kd ρ2 F2 H2 s2 f2 ⟨_, _, h2⟩ kv rk => ?_⟩
    refine ⟨G, F2, ρ2, s2, (RP.bind h2).mono fun xd ρ3 F3 H3 s3 f3 ⟨_, _, h3⟩ xv rx => ?_⟩
    cases e3 : dictB b ρ3 with
    | none => rw [e3] at h3; exact h3.elim
    | some kvs =>
      rw [e3] at h3
      cases ek : keyOf kd with
      | none => rw [ek] at h3; exact h3.elim
      | some kk =>
        rw [ek] at h3
        obtain ⟨k1, k2, k3⟩ := dictB_some e3
        refine ⟨F3, kd, kvs, kk, s3.bs.fh, .va (rk.mono f3), s3.rd r1 (f2.trans f3) k1, k2, ek, ?_⟩
        cases el : lookK kvs kk with
        | none => dsimp only at h3; rw [el] at h3; exact RP.pure h3 s3 _ rx
        | some d0 => dsimp only at h3; rw [el] at h3; exact fun v r => RP.pure h3 s3 _ r
end
end L2.Sc
set_option Elab.async false
set_option linter.all false
set_option maxRecDepth 100000
set_option maxHeartbeats 2000000
namespace L2.Sc
open PySem PySem.Spec PyProof.Rows
def Sl.mut : Sl → Bool
  | .ol _ => true
  | .od _ => true
  | _ => false
section
variable {N : En} {G : Ent} {F H : Hp} {σ : St} {ρ : List Sl} {a : Addr} {o : HO} {t : Sl}
/-- the virtual last slot is put on hold -/
theorem SR.tohold {v : Option V} (s : SR N G F H (σ ++ [v]) (ρ ++ [t])) (ht : t.mut = true) : ∃ a o, v = some (.ref a) ∧ H a = some o ∧ F a = none ∧ G.H0 a = none ∧ SR N (G.hold a o) F H σ ρ ∧
    ∀ F' H', Same F F' → H' a = some o → F' a = none → SlR N G F' H' (some (.ref a)) t := by
  have hl : σ.length = ρ.length := by have := s.len; simpa using this
  have e1 : (σ ++ [v])[σ.length]? = some v := by simp
  have e2 : (ρ ++ [t])[σ.length]? = some t := by simp [hl]
  have q := s.sl σ.length v t e1 e2
  have own : t.own = true := by cases t <;> first | rfl | cases ht
  have core : ∀ a o, v = some (.ref a) → H a = some o → F a = none → SR N (G.hold a o) F H σ ρ := fun a o hv hH hF => by
    have s0 := s.unpush
    have ne : ∀ {i : Nat} {w : Option V} {u : Sl}, σ[i]? = some w → ρ[i]? = some u → u.own = true → w ≠ some (.ref a) := fun {i w u} h1 h2 hu z => by
      subst z hv
      have hi : i < σ.length := (List.getElem?_eq_some_iff.mp h1).1
      have := s.inj i σ.length a u t (by rw [List.getElem?_append_left hi]; exact h1) (by rw [List.getElem?_append_left (by omega)]; exact h2) hu e1 e2 own
      omega
    exact {
      bs := {
        f0 := s0.bs.f0
        fh := s0.bs.fh
        keep := fun b x h1 h2 => by
          have h1 : upd G.H0 a o b = some x := h1
          by_cases hb : b = a
          · subst hb; rw [upd_same] at h1; rw [hH]; exact h1
          · rw [upd_ne hb] at h1; exact s0.bs.keep b x h1 h2
        there := fun b h => by
          show upd G.H0 a o b = none
          rw [upd_ne (fun z => by subst z; rw [hH] at h; cases h)]
          exact s0.bs.there b h
        new := fun b h1 h2 => by
          have h2 : upd G.H0 a o b ≠ none := h2
          by_cases hb : b = a
          · subst hb; exact hF
          · rw [upd_ne hb] at h2; exact s0.bs.new b h1 h2
        iot := fun b h => by
          show upd G.H0 a o b ≠ none
          by_cases hb : b = a
          · subst hb; rw [upd_same]; exact fun z => nomatch z
          · rw [upd_ne hb]; exact s0.bs.iot b h }
      len := s0.len
      sl := fun i w u h1 h2 => SlR.ent (G := G) (G' := G.hold a o) rfl (fun b hu e h => by
        show upd G.H0 a o b = none
        rw [upd_ne (fun z => ne h1 h2 hu (by rw [e, z]))]
        exact h) (s0.sl i w u h1 h2)
      inj := s0.inj }
  cases t with
  | ol ds =>
    obtain ⟨a, vs, hv, h1, r, h2, h3⟩ := q
    exact ⟨a, _, hv, h1, h2, h3, core a _ hv h1 h2, fun F' H' f e1 e2 => ⟨a, vs, rfl, e1, r.mono f, e2, h3⟩⟩
  | od ds =>
    obtain ⟨a, ob, xs, hv, h1, m, d, r, h2, h3⟩ := q
    exact ⟨a, _, hv, h1, h2, h3, core a _ hv h1 h2, fun F' H' f e1 e2 => ⟨a, ob, xs, rfl, e1, m, d, r.mono f, e2, h3⟩⟩
  | _ => cases ht
theorem SR.unholdS (s : SR N (G.hold a o) F H σ ρ) (h0 : G.H0 a = none) (hF0 : G.F0 a = none) (hio : G.io ≠ some a) (ht : t.mut = true) (hs : H a = some o → F a = none → SlR N G F H (some (.ref a)) t) : SR N G F H (σ ++ [some (.ref a)]) (ρ ++ [t]) := by
  obtain ⟨hH, hF⟩ := s.held hF0 hio
  have ne : ∀ {i : Nat} {v : Option V} {t : Sl}, σ[i]? = some v → ρ[i]? = some t → t.own = true → v ≠ some (.ref a) := fun {i v t} h1 h2 ht z => by
    have q := s.sl i v t h1 h2
    subst z
    cases t with
    | un => cases ht
    | fr d => cases ht
    | ol ds => obtain ⟨b, vs, e, _, _, _, h3⟩ := q; cases e; have h3 : upd G.H0 a _ a = none := h3; rw [upd_same] at h3; cases h3
    | od ds => obtain ⟨b, ob, xs, e, _, _, _, _, _, h3⟩ := q; cases e; have h3 : upd G.H0 a _ a = none := h3; rw [upd_same] at h3; cases h3
    | io ds => obtain ⟨b, vs, e, _, _, _, h3⟩ := q; cases e; exact hio h3
  have base : SR N G F H σ ρ := {
    bs := {
      f0 := s.bs.f0
      fh := s.bs.fh
      keep := fun b x h1 h2 => s.bs.keep b x (by show upd G.H0 a _ b = _; rw [upd_ne (fun z => by subst z; rw [h0] at h1; cases h1)]; exact h1) h2
      there := fun b h => by
        have q : upd G.H0 a o b = none := s.bs.there b h
        by_cases hb : b = a
        · subst hb; exact h0
        · rwa [upd_ne hb] at q
      new := fun b h1 h2 => s.bs.new b h1 (by show upd G.H0 a _ b ≠ none; rw [upd_ne (fun z => h2 (by rw [z]; exact h0))]; exact h2)
      iot := fun b h => by
        have q : upd G.H0 a o b ≠ none := s.bs.iot b h
        rwa [upd_ne (fun z => hio (by rw [← z]; exact h))] at q }
    len := s.len
    sl := fun i v t h1 h2 => SlR.ent (G := G.hold a o) (G' := G) rfl (fun b ht e h => by
      have h : upd G.H0 a o b = none := h
      rwa [upd_ne (fun z => ne h1 h2 ht (by rw [e, z]))] at h) (s.sl i v t h1 h2)
    inj := s.inj }
  have hl := base.len
  have old : ∀ {i : Nat} {v : Option V} {u : Sl}, i < σ.length → (σ ++ [some (.ref a)])[i]? = some v → (ρ ++ [t])[i]? = some u → σ[i]? = some v ∧ ρ[i]? = some u := by
    intro i v u hi h1 h2
    rw [List.getElem?_append_left hi] at h1
    rw [List.getElem?_append_left (by rw [← hl]; exact hi)] at h2
    exact ⟨h1, h2⟩
  have lst : ∀ {i : Nat} {v : Option V} {u : Sl}, ¬ i < σ.length → (σ ++ [some (.ref a)])[i]? = some v → (ρ ++ [t])[i]? = some u → i = σ.length ∧ v = some (.ref a) ∧ u = t := by
    intro i v u hi h1 h2
    rw [List.getElem?_append_right (by omega)] at h1
    rw [List.getElem?_append_right (by rw [← hl]; omega)] at h2
    have e : i - σ.length = 0 := by
      rcases Nat.lt_or_ge (i - σ.length) 1 with h | h
      · omega
      · rw [List.getElem?_eq_none (by simpa using h)] at h1; cases h1
    rw [e] at h1
    rw [← hl, e] at h2
    simp at h1 h2
    exact ⟨by omega, h1.symm, h2.symm⟩
  refine ⟨base.bs, by simp [hl], fun i v t h1 h2 => ?_, fun i j b t t' h1 h2 h3 h4 h5 h6 => ?_⟩
  · by_cases hi : i < σ.length
    · obtain ⟨e1, e2⟩ := old hi h1 h2
      exact base.sl i v t e1 e2
    · obtain ⟨_, rfl, rfl⟩ := lst hi h1 h2
      exact hs hH hF
  · by_cases hi : i < σ.length
    · obtain ⟨e1, e2⟩ := old hi h1 h2
      by_cases hj : j < σ.length
      · obtain ⟨e3, e4⟩ := old hj h4 h5
        exact s.inj i j b t t' e1 e2 h3 e3 e4 h6
      · obtain ⟨_, e, _⟩ := lst hj h4 h5
        cases e
        exact (ne e1 e2 h3 rfl).elim
    · obtain ⟨q1, e, _⟩ := lst hi h1 h2
      cases e
      by_cases hj : j < σ.length
      · obtain ⟨e3, e4⟩ := old hj h4 h5
        exact (ne e3 e4 h6 rfl).elim
      · obtain ⟨q2, _⟩ := lst hj h4 h5
        omega
theorem SR.addFr (s : SR N G F H σ ρ) {v : V} {d : D} (r : Rep N F v d) : SR N G F H (σ ++ [some v]) (ρ ++ [.fr d]) := by
  have hl := s.len
  refine s.reix (by simp [hl]) (fun j => j) (fun _ _ _ _ e => e) (fun j u w h1 h2 => ?_)
  by_cases hj : j < σ.length
  · rw [List.getElem?_append_left hj] at h1
    rw [List.getElem?_append_left (by omega)] at h2
    exact .inr (.inl ⟨h1, h2⟩)
  · rw [List.getElem?_append_right (by omega)] at h1
    rw [List.getElem?_append_right (by omega)] at h2
    have e : j - σ.length = 0 := by
      rcases Nat.lt_or_ge (j - σ.length) 1 with h | h
      · omega
      · rw [List.getElem?_eq_none (by simpa using h)] at h1; cases h1
    rw [e] at h1
    rw [← hl, e] at h2
    simp at h1 h2
    exact .inr (.inr ⟨d, v, h2.symm, h1.symm, r⟩)
end
section
variable {X : Cx} {W : WX}
def tPs (N : En) (W : WX) (n : Nat) (f : M (List Sl)) : TA := fun σ H Q => ∃ G F ρ, SR N G F H σ ρ ∧ RP N W G F σ (f ρ) fun os ρ' F' _ => os.length = n → ∀ vs H', vs.length = n → SR N G F' H' (σ ++ (vs.map some).reverse) (ρ' ++ os.reverse) → Q vs H'
abbrev SPs (X : Cx) (W : WX) (n : Nat) (es : List Expr) (f : M (List Sl)) : Prop := PA X es (tPs X.en W n f)
def nilP : M (List Sl) := M.pure []
def consE (fe : M D) (g : M (List Sl)) : M (List Sl) := fe.bind fun d => g.bind fun os => M.pure (.fr d :: os)
def consF (ff : M Sl) (g : M (List Sl)) : M (List Sl) := ff.bind fun o ρ => if o.mut = true then (match g ρ with
  | .ok os ρ' => .ok (o :: os) ρ'
  | _ => .stuck) else .stuck
theorem sps_nil : SPs X W 0 [] nilP := by
  refine pa_nil.weak ?_
  rintro σ H Q ⟨G, F, ρ, s, q⟩
  exact RP.pure q s rfl [] H rfl (by simpa using s)
theorem sps_E {e : Expr} {es : List Expr} {fe : M D} {g : M (List Sl)} {n : Nat} (ha : SE X W e fe) (hr : SPs X W n es g) (hs : starEach (e :: es) X.env = (false, eval e X.env) :: starEach es X.env := by rfl) : SPs X W (n + 1) (e :: es) (consE fe g) := by
  refine (pa_cons ha hr hs).weak ?_
  rintro σ H Q ⟨G, F, ρ, s, q⟩
  refine ⟨G, F, ρ, s, (RP.bind q).mono fun d ρ1 F1 H1 s1 f1 ⟨_, _, h1⟩ v r => ?_⟩
  refine ⟨G, F1, ρ1, s1, (RP.bind h1).mono fun os ρ2 F2 H2 s2 f2 ⟨_, _, h2⟩ hl vs H3 hv s3 => ?_⟩
  refine (h2 F2 H2 s2 (Same.refl _)) (by simp [hl]) (v :: vs) H3 (by simp [hv]) ?_
  have := s3.addFr (r.mono f2)
  simpa [List.append_assoc] using this
theorem sps_F {e : Expr} {es : List Expr} {ff : M Sl} {g : M (List Sl)} {n : Nat} (ha : SF X W e ff) (hr : SPs X W0 n es g) (hs : starEach (e :: es) X.env = (false, eval e X.env) :: starEach es X.env := by rfl) : SPs X W (n + 1) (e :: es) (consF ff g) := by
  refine (pa_cons ha hr hs).weak ?_
  rintro σ H Q ⟨G, F, ρ, s, q⟩
  refine ⟨G, F, ρ, s, (RP.bind q).mono fun o ρ1 F1 H1 s1 f1 ⟨_, _, h1⟩ v H2 s2 => ?_⟩
  split at h1
  · rename_i hm
    obtain ⟨a, ob, hv, hH, hF, h0, sh, back⟩ := s2.tohold hm
    have hF0 : G.F0 a = none := same_none s2.bs.f0 hF
    have hio : G.io ≠ some a := fun z => s2.bs.iot a z h0
    refine ⟨G.hold a ob, F1, ρ1, sh, ?_⟩
    cases eg : g ρ1 with
    | ok os ρ2 =>
      rw [eg] at h1
      intro F3 H3 s3 f3 hl vs H4 hvs s4
      have s5 := s4.unholdS (t := o) h0 hF0 hio hm (fun e1 e2 => back _ _ f3 e1 e2)
      have s6 := (s3.unholdS (t := o) h0 hF0 hio hm (fun e1 e2 => back _ _ f3 e1 e2)).unpush
      refine h1 F3 H3 s6 f3 (by simp [hl]) (v :: vs) H4 (by simp [hvs]) ?_
      rw [List.map_cons, List.reverse_cons, List.reverse_cons, ← List.append_assoc, ← List.append_assoc, hv]
      exact s5
    | err e ρ2 => rw [eg] at h1; exact h1.elim
    | stuck => rw [eg] at h1; exact h1.elim
  · exact h1.elim
def setsR : List Nat → List Sl → List Sl → Option (List Sl)
  | [], [], ρ => some ρ
  | i :: is, o :: os, ρ => if i < ρ.length then setsR is os (ρ.set i o) else none
  | _, _, _ => none
def parS (is : List Nat) (f : M (List Sl)) : MS := f.st fun os ρ => match setsR is os ρ with
  | some ρ' => .nx ρ'
  | none => .stuck
theorem SR.sets {N : En} {G : Ent} {F H : Hp} : ∀ {is : List Nat} {os : List Sl} {vs : List V} {σ : St} {ρ ρ' : List Sl}, SR N G F H (σ ++ (vs.map some).reverse) (ρ ++ os.reverse) → vs.length = os.length → setsR is os ρ = some ρ' →
    SR N G F H ((is.zip vs).foldl (fun σ p => σ.set p.1 (some p.2)) σ) ρ' ∧ is.length = os.length
  | [], [], [], σ, ρ, ρ', s, _, e => by cases e; exact ⟨by simpa using s, rfl⟩
  | i :: is, o :: os, v :: vs, σ, ρ, ρ', s, hl, e => by
    rw [setsR] at e
    split at e
    · rename_i hi
      have hl : vs.length = os.length := by simpa using hl
      have len : σ.length = ρ.length := by have := s.len; simp at this; omega
      rw [List.map_cons, List.reverse_cons, List.reverse_cons, ← List.append_assoc, ← List.append_assoc] at s
      have s2 := s.move i
      rw [List.set_append_left _ _ (by omega), List.set_append_left _ _ hi] at s2
      obtain ⟨h1, h2⟩ := SR.sets (is := is) s2 hl e
      exact ⟨h1, by simp [h2]⟩
    · cases e
  | [], o :: os, _, _, _, _, _, _, e => by simp [setsR] at e
  | i :: is, [], _, _, _, _, _, _, e => by simp [setsR] at e
  | [], [], v :: vs, _, _, _, _, hl, _ => by simp at hl
  | i :: is, o :: os, [], _, _, _, _, hl, _ => by simp at hl
theorem ss_par2 {i j : Nat} {x y : Str} {a b : Expr} {f : M (List Sl)} {px py pt pos : Pos} {kt k2 pt2} (hc : X.calm = true) (hN : X.N.Nodup) (ha : SPs X W 2 [a, b] f) (hi : X.N[i]? = some x := by rfl) (hj : X.N[j]? = some y := by rfl) (hij : i ≠ j := by decide)
    (hx : X.env.scope.names.lookup x = some .local := by rfl) (hy : X.env.scope.names.lookup y = some .local := by rfl)
    (hw : swappedStores [.Tuple [.Name x px, .Name y py] kt pt] (.Tuple [a, b] k2 pt2) X.env = pure (some [x, y]) := by rfl)
    (hs : swapsWithSole [.Tuple [.Name x px, .Name y py] kt pt] (.Tuple [a, b] k2 pt2) pos.line X.env = pure false := by rfl) :
    SS X W (.Assign [.Tuple [.Name x px, .Name y py] kt pt] (.Tuple [a, b] k2 pt2) pos) (parS [i, j] f) := by
  refine (ps_par hc hN hi hj hij hx hy ha hw hs).weak ?_
  rintro σ H D ⟨G, F, ρ, s, q⟩
  refine ⟨G, F, ρ, s, (FP.of q).mono fun os ρ1 F1 H1 s1 f1 h1 hl vs H2 hv s2 => ?_⟩
  split at h1
  · rename_i ρ' e
    obtain ⟨s3, _⟩ := SR.sets s2 (by rw [hv, hl]) e
    match vs, hv with
    | [v, w], _ => exact ⟨v, w, rfl, FP.nxt h1 s3⟩
  · exact h1.elim
theorem ss_par3 {i j l : Nat} {x y z : Str} {a b c : Expr} {f : M (List Sl)} {px py pz pt pos : Pos} {kt k2 pt2} (hc : X.calm = true) (hN : X.N.Nodup) (ha : SPs X W 3 [a, b, c] f) (hi : X.N[i]? = some x := by rfl) (hj : X.N[j]? = some y := by rfl) (hl : X.N[l]? = some z := by rfl) (hij : i ≠ j := by decide) (hil : i ≠ l := by decide) (hjl : j ≠ l := by decide)
    (hx : X.env.scope.names.lookup x = some .local := by rfl) (hy : X.env.scope.names.lookup y = some .local := by rfl) (hz : X.env.scope.names.lookup z = some .local := by rfl)
    (hw : swappedStores [.Tuple [.Name x px, .Name y py, .Name z pz] kt pt] (.Tuple [a, b, c] k2 pt2) X.env = pure (some [x, y, z]) := by rfl)
    (hs : swapsWithSole [.Tuple [.Name x px, .Name y py, .Name z pz] kt pt] (.Tuple [a, b, c] k2 pt2) pos.line X.env = pure false := by rfl) :
    SS X W (.Assign [.Tuple [.Name x px, .Name y py, .Name z pz] kt pt] (.Tuple [a, b, c] k2 pt2) pos) (parS [i, j, l] f) := by
  refine (ps_par3 hc hN hi hj hl hij hil hjl hx hy hz ha hw hs).weak ?_
  rintro σ H D ⟨G, F, ρ, s, q⟩
  refine ⟨G, F, ρ, s, (FP.of q).mono fun os ρ1 F1 H1 s1 f1 h1 hl vs H2 hv s2 => ?_⟩
  split at h1
  · rename_i ρ' e
    obtain ⟨s3, _⟩ := SR.sets s2 (by rw [hv, hl]) e
    match vs, hv with
    | [v, w, u], _ => exact ⟨v, w, u, rfl, FP.nxt h1 s3⟩
  · exact h1.elim

def neverS : MS := fun _ => .stuck
theorem ss_never {st : Stmt} : SS X W st neverS := by
  refine ps_never.weak ?_
  rintro σ H D ⟨G, F, ρ, s, q⟩
  exact q

theorem tuple_mul_same (l : Addr) (items : Array Value) (n : Nat) (dd : Option Addr) (sl : Array (Option Value)) (x : Int) (u : Tok) (c0 : (decide (x < -(2 ^ 63)) || decide (x ≥ 2 ^ 63)) = false) (c1 : (items.isEmpty || x == 1) = true) :
    Meets (Builtin.«tuple.__mul__» ⟨[.ref l, .int x u], []⟩) (fun _ R s => s.heap.get? l = some { cls := .type "tuple", dict := dd, data := .seq items n, slots := sl } ∧
      R (.ok (.ret (Value.ref l))) s) :=
  .of_wp fun prog w A R s h => by
    obtain ⟨hp, g, d, tk, os⟩ := s
    obtain ⟨hl, h⟩ := h
    have f1 := AutoSeq1.idx_int
    wp_walk using wpAny_loadPart' hl
    repeat (first
      | (refine wpAny_ite_false (decide_eq_false (by rw [c0]; exact Bool.false_ne_true)) ?_; wp_walk using wpAny_loadPart' hl)
      | (refine wpAny_ite_true (decide_eq_true c1) ?_; wp_walk using wpAny_loadPart' hl))
    exact ⟨_, rfl, h⟩
theorem tuple_mul_none (l : Addr) (items : Array Value) (n : Nat) (dd : Option Addr) (sl : Array (Option Value)) (x : Int) (u : Tok) (c0 : (decide (x < -(2 ^ 63)) || decide (x ≥ 2 ^ 63)) = false) (c1 : (items.isEmpty || x == 1) = false) (c2 : (decide (x ≤ 0) || items.isEmpty) = true) :
    Meets (Builtin.«tuple.__mul__» ⟨[.ref l, .int x u], []⟩) (fun _ R s => s.heap.get? l = some { cls := .type "tuple", dict := dd, data := .seq items n, slots := sl } ∧
      R (.ok (.ret (Value.ref s.heap.objs.size))) { s with heap := s.heap.push { cls := Value.type "tuple", data := Data.seq #[] }, toks := s.toks }) :=
  .of_wp fun prog w A R s h => by
    obtain ⟨hp, g, d, tk, os⟩ := s
    obtain ⟨hl, h⟩ := h
    have f1 := AutoSeq1.idx_int
    wp_walk using wpAny_loadPart' hl
    repeat (first
      | (refine wpAny_ite_false (decide_eq_false (by rw [c0]; exact Bool.false_ne_true)) ?_; wp_walk using wpAny_loadPart' hl)
      | (refine wpAny_ite_false (decide_eq_false (by rw [c1]; exact Bool.false_ne_true)) ?_; wp_walk using wpAny_loadPart' hl)
      | (refine wpAny_ite_true (decide_eq_true c2) ?_; wp_walk using wpAny_loadPart' hl))
    exact ⟨_, rfl, h⟩
end
end L2.Sc
set_option Elab.async false
set_option linter.all false
set_option maxRecDepth 100000
set_option maxHeartbeats 2000000
namespace L2.Sc
open PySem PySem.Spec PyProof.Rows
section
variable {X : Cx} {W : WX} {N : En}
def rRepG (K : PySem.W.Frag) : R2 := fun x y H Q => ∃ l k xs, x = .ref l ∧ y = .int k ∧ SqT K H l xs ∧ -1000 ≤ k ∧ k ≤ 1000 ∧ xs.length ≤ 1000 ∧ (xs = [] ∨ k = 1 → Q (.ref l) H) ∧ (xs ≠ [] → k ≠ 1 → ∀ p, H p = none → Q (.ref p) (upd H p (.tup (List.replicate k.toNat xs).flatten)))
theorem op_repG : OpR X (binaryOp .Mult) (rRepG X.K) := by
  intro pins s σ H x y v u Q I rx ry h
  obtain ⟨l, k, xs, rfl, rfl, hT, h0, h2, hz, q1, q2⟩ := h
  by_cases hne : xs = [] ∨ k = 1
  · have q := q1 hne
    cases rx
    obtain ⟨t, rfl⟩ := ry
    obtain ⟨its, r, ⟨⟨cls, dd, data, sl⟩, ho, hc, n, hd⟩, hs⟩ := I.tuple hT
    simp only at hc hd
    subst hc hd
    have hle : its.length = xs.length := r.length.symm
    have c0 : (decide (k < -(2 ^ 63)) || decide (k ≥ 2 ^ 63)) = false := by
      rw [decide_eq_false (by omega), decide_eq_false (by omega)] <;> rfl
    have c1 : (its.toArray.isEmpty || k == 1) = true := by
      rcases hne with e | e
      · subst e
        have : its = [] := List.eq_nil_of_length_eq_zero hle
        subst this; rfl
      · subst e; simp
    refine wpAny_binaryOp_repeat_ref (T := "tuple") (U := "int") (by decide) ⟨_, ho, rfl⟩ (fun s' => typeIs_int s' k t) noFill_tuple_mul F.fills_int_mul F.slot_int_rmul repeat_tuple F.slot_int_index.lookup
      (call_meets F.slot_int_rmul (typeIs_int s k t) F.entry_int_rmul (F.args_int_rmul_2 _ _) (int_rmul_tuple k t l its.toArray n dd sl)
        ⟨ho, rfl, ⟨_, ho, rfl⟩, call_meets F.slot_tuple_mul ⟨_, ho, rfl⟩ F.entry_tuple_mul (F.args_tuple_mul_2 _ _) (tuple_mul_same l its.toArray n dd sl k t c0 c1) ⟨ho, ?_⟩⟩)
    exact ⟨.ref l, H, I, rfl, q⟩
  · have hx : xs ≠ [] := fun e => hne (.inl e)
    have hk : k ≠ 1 := fun e => hne (.inr e)
    have q := q2 hx hk
    by_cases hk2 : 2 ≤ k
    · exact op_repT pins s σ H _ _ _ _ Q I rx ry ⟨l, k, xs, rfl, rfl, hT, hx, hk2, h2, hz, q⟩
    · cases rx
      obtain ⟨t, rfl⟩ := ry
      obtain ⟨its, r, ⟨⟨cls, dd, data, sl⟩, ho, hc, n, hd⟩, hs⟩ := I.tuple hT
      simp only at hc hd
      subst hc hd
      have hle : its.length = xs.length := r.length.symm
      have hi : its.toArray.isEmpty = false := by
        cases its with
        | nil => exact absurd (List.eq_nil_of_length_eq_zero hle.symm) hx
        | cons a b => rfl
      have c0 : (decide (k < -(2 ^ 63)) || decide (k ≥ 2 ^ 63)) = false := by
        rw [decide_eq_false (by omega), decide_eq_false (by omega)] <;> rfl
      have c1 : (its.toArray.isEmpty || k == 1) = false := by
        rw [hi, Bool.false_or]
        exact beq_eq_false_iff_ne.mpr hk
      have c2 : (decide (k ≤ 0) || its.toArray.isEmpty) = true := by
        rw [decide_eq_true (by omega)] <;> rfl
      refine wpAny_binaryOp_repeat_ref (T := "tuple") (U := "int") (by decide) ⟨_, ho, rfl⟩ (fun s' => typeIs_int s' k t) noFill_tuple_mul F.fills_int_mul F.slot_int_rmul repeat_tuple F.slot_int_index.lookup
        (call_meets F.slot_int_rmul (typeIs_int s k t) F.entry_int_rmul (F.args_int_rmul_2 _ _) (int_rmul_tuple k t l its.toArray n dd sl)
          ⟨ho, rfl, ⟨_, ho, rfl⟩, call_meets F.slot_tuple_mul ⟨_, ho, rfl⟩ F.entry_tuple_mul (F.args_tuple_mul_2 _ _) (tuple_mul_none l its.toArray n dd sl k t c0 c1 c2) ⟨ho, ?_⟩⟩)
      have e0 : k.toNat = 0 := by omega
      rw [e0] at q
      refine ⟨.ref s.heap.objs.size, _, I.laid (t' := s.toks) (o := .tup []) (fun b ob q => Heap.get?_push_of_some _ q) (Nat.le_refl _) ?_, rfl, q _ (I.hok.fresh (Nat.le_refl _))⟩
      exact ⟨Nat.zero_le _, [], .nil, IsTup.new _ _⟩
def mulA : D → D → Option D
  | .int i, .int j => if mulOk i j = true then some (.int (i * j)) else none
  | .tuple xs, .int k => if -1000 ≤ k ∧ k ≤ 1000 ∧ xs.length ≤ 1000 then some (.tuple (List.replicate k.toNat xs).flatten) else none
  | _, _ => none
def rMulA (K : PySem.W.Frag) : R2 := fun x y H Q => rI CMulW (fun i j => .int (i * j)) x y H Q ∨ rRepG K x y H Q
theorem op_mulA : OpR X (binaryOp .Mult) (rMulA X.K) := OpR.or op_mulW op_repG
theorem reps_flat {F : Hp} {vs : List V} {ds : List D} (r : Reps N F vs ds) : ∀ n : Nat, Reps N F (List.replicate n vs).flatten (List.replicate n ds).flatten
  | 0 => .nil
  | n + 1 => by
    rw [List.replicate_succ, List.replicate_succ, List.flatten_cons, List.flatten_cons]
    exact r.append (reps_flat r n)
theorem dop_mulA : DOp N (rMulA N.K) mulA := by
  intro F H x y a b d Q h ra rb e q
  unfold mulA at e
  split at e
  · split at e
    · rename_i hm
      cases e; exact .inl ⟨_, _, ra.int, rb.int, mulOk_ok hm, q _ _ _ (Ext.refl h) (.int _)⟩
    · cases e
  · rename_i xs k
    split at e
    · rename_i hz
      cases e
      obtain ⟨p, vs, rfl, s1, r1⟩ := ra.tup h
      refine .inr ⟨p, k, vs, rfl, rb.int, s1, hz.1, hz.2.1, by rw [r1.length]; exact hz.2.2, fun hc => ?_, fun h1 h2 p' hp => ?_⟩
      · have e : (List.replicate k.toNat xs).flatten = xs := by
          rcases hc with hc | hc
          · have : xs = [] := List.eq_nil_of_length_eq_zero (by rw [← r1.length, hc]; rfl)
            subst this
            simp
          · subst hc; simp
        rw [e] at q
        cases ra with
        | va ra => exact q _ _ _ (Ext.refl h) ra
      · exact q _ (upd F p' (.tup (List.replicate k.toNat vs).flatten)) _ (Ext.one h _ hp) (.tup (.inl (.inl upd_same)) ((reps_flat r1 _).mono (same_upd (same_none h hp))))
    · cases e
  · cases e

def lstRgF (fi : M D) : M Sl := fi.bind fun d => match d with
  | .int j => if -16777216 ≤ j ∧ j ≤ 16777216 then M.pure (.ol (rangeD 0 j.toNat)) else M.fail
  | _ => M.fail
theorem reps_rg {F : Hp} (n : Int) : Reps N F (rgV 0 n) (rangeD 0 n.toNat) := by
  unfold rgV rangeD
  rw [Int.sub_zero]
  generalize List.range n.toNat = l
  induction l with
  | nil => exact .nil
  | cons a l ih => exact .cons (.int _) ih
theorem sf_lstRg {e : Expr} {fi : M D} {p p2 pos pos2 : Pos} (hc : X.calm = true) (hg : Gl X "list") (hm : X.mg "list" = none) (hg2 : Gl X "range") (hm2 : X.mg "range" = none) (he : SE X W e fi) (na : starEach [e] X.env = (false, eval e X.env) :: starEach [] X.env := by rfl)
    (na2 : starEach [.Call (.Name "range" p2) [e] [] pos2] X.env = (false, eval (.Call (.Name "range" p2) [e] [] pos2) X.env) :: starEach [] X.env := by rfl) : SF X W (.Call (.Name "list" p) [.Call (.Name "range" p2) [e] [] pos2] [] pos) (lstRgF fi) := by
  refine (pe_listRg hc hg hm (prg_1 hg2 hm2 he na) na2).weak ?_
  rintro σ H Q ⟨G, F, ρ, s, q⟩
  refine ⟨G, F, ρ, s, (RP.bind q).mono fun d ρ1 F1 H1 s1 f1 ⟨_, _, h1⟩ v r => ?_⟩
  cases r with
  | int j =>
    dsimp only at h1
    split at h1
    · rename_i hj
      exact ⟨j, rfl, ⟨by omega, by omega, by omega, by omega, by omega⟩, fun p hp => RP.pure h1 s1 (.ref p) _ (s1.push hp (reps_rg j))⟩
    · exact h1.elim
  | _ => exact h1.elim

def isi2V (fa : M Bv) (S T : String) : M D := fa.bind fun b ρ => match rdB b ρ with
  | some d => match d with
    | .dict _ => .stuck
    | d => match isTy S d, isTy T d with
      | some c, some e => .ok (.bool (c || e)) ρ
      | _, _ => .stuck
  | none => .stuck
theorem kit_any2 {K : PySem.W.Frag} {t u v : Value} {a b : Bool} (h1 : PySem.W.kitOne K t u = some a) (h2 : PySem.W.kitOne K t v = some b) : PySem.W.kitAny K t [u, v] = some (a || b) := by
  cases a <;> cases b <;> simp [PySem.W.kitAny, h1, h2]
theorem se_isi2 {e : Expr} {fa : M Bv} {x y z : Str} {p p2 p3 tp pos : Pos} {kt} {S T : String} (hgl : Gl X x) (hm : X.mg x = none) (hv : bootBuiltins x = some (.builtin "isinstance")) (ha : SB X W e fa)
    (hgy : Gl X y) (hmy : X.mg y = none) (hvy : bootBuiltins y = some (.type S)) (hgz : Gl X z) (hmz : X.mg z = none) (hvz : bootBuiltins z = some (.type T)) (hny : y ≠ "__name__" := by decide) (hnz : z ≠ "__name__" := by decide)
    (hn : x ≠ "__name__" := by decide) (hdb : (x == ("__debug__" : Str)) = false := by decide) (hdy : (y == ("__debug__" : Str)) = false := by decide) (hdz : (z == ("__debug__" : Str)) = false := by decide)
    (he : starEach [e, .Tuple [.Name y p2, .Name z p3] kt tp] X.env = (false, eval e X.env) :: starEach [.Tuple [.Name y p2, .Name z p3] kt tp] X.env := by rfl) (he2 : starEach [.Tuple [.Name y p2, .Name z p3] kt tp] X.env = (false, eval (.Tuple [.Name y p2, .Name z p3] kt tp) X.env) :: starEach [] X.env := by rfl)
    (he3 : starEach [.Name y p2, .Name z p3] X.env = (false, eval (.Name y p2) X.env) :: starEach [.Name z p3] X.env := by rfl) (he4 : starEach [.Name z p3] X.env = (false, eval (.Name z p3) X.env) :: starEach [] X.env := by rfl)
    (hpl : (backTo pos (starEach [.Tuple [.Name y p2, .Name z p3] kt tp] X.env)).any (·.1) = false := by rfl) :
    SE X W (.Call (.Name x p) [e, .Tuple [.Name y p2, .Name z p3] kt tp] [] pos) (isi2V fa S T) := by
  refine (pe_callB call_isiT hgl hm hv (pa_cons ha (pa_cons (pe_tup (pa_cons (pe_bltn (v := .ty S) hgy hmy hvy rfl hny hdy) (pa_cons (pe_bltn (v := .ty T) hgz hmz hvz rfl hnz hdz) pa_nil he4) he3)) pa_nil he2) he) hn hdb he hpl).weak ?_
  rintro σ H Q ⟨G, F, ρ, s, q⟩
  refine ⟨G, F, ρ, s, (RP.bind q).mono fun b ρ1 F1 H1 s1 f1 ⟨_, _, h1⟩ v r1 => ?_⟩
  cases e1 : rdB b ρ1 with
  | none => rw [e1] at h1; exact h1.elim
  | some d =>
    rw [e1] at h1
    have hnd : notDict d = true := by
      cases d with
      | dict _ => exact h1.elim
      | _ => rfl
    cases e2 : isTy S d with
    | none =>
      exfalso
      cases d <;> (dsimp only at h1; first | exact h1 | (rw [e2] at h1; exact h1))
    | some c =>
      cases e3 : isTy T d with
      | none =>
        exfalso
        cases d <;> (dsimp only at h1; first | exact h1 | (rw [e2, e3] at h1; exact h1))
      | some c2 =>
        have h3 : RP X.en W G F1 σ (Res.ok (.bool (c || c2)) ρ1) fun d _ F' H' => ∀ v, Rep X.en F' v d → Q v H' := by
          cases d <;> (dsimp only at h1; first | exact h1.elim | (rw [e2, e3] at h1; exact h1))
        refine ⟨by show 2 ≤ sizeLine; decide, fun p hp => ?_⟩
        have ex : Ext F1 H1 F1 (upd H1 p (.tup [V.ty S, V.ty T])) := ⟨Same.refl _, same_upd hp, s1.bs.fh.trans (same_upd hp), fun _ h _ => h⟩
        have s2 := s1.ext ex
        have b := (s2.rd r1 (Same.refl _) e1).ty s2.bs.fh hnd
        exact ⟨v, p, [.ty S, .ty T], _, [.type S, .type T], c || c2, rfl, upd_same, .cons (.ty S) (.cons (.ty T) .nil), b, kit_any2 (ty_ok e2 hnd) (ty_ok e3 hnd), RP.pure h3 s2 _ (.bl _)⟩

def rSumVals (N : En) : List V → Hp → VK → Prop := fun vs H Q => ∃ (v d : Addr) (o : Obj) (xs : List (NestedKey × Addr × Value)) (kvs : List (D × D)) (ns : List Int) (F : Hp), vs = [V.ref v] ∧ H v = some (dobj v (valsObj d)) ∧ DictHO H d o ∧ DObj N.w o xs ∧ Same F H ∧ RepK N F xs kvs ∧ intsL (kvs.map (·.2)) = some ns ∧ Q (.int ns.sum) H
theorem intsL_get : ∀ {ds : List D} {ns : List Int} {i : Nat} {d : D}, intsL ds = some ns → ds[i]? = some d → d = .int (ns.getD i 0) := by
  intro ds
  induction ds with
  | nil => intro ns i d _ h; simp at h
  | cons x xs ih =>
    intro ns i d e h
    cases x with
    | int j =>
      rw [intsL] at e
      obtain ⟨ms, e1, rfl⟩ := Option.map_eq_some_iff.mp e
      cases i with
      | zero => simp at h; subst h; rfl
      | succ i => simpa using ih (i := i) e1 (by simpa using h)
    | _ => simp [intsL] at e
theorem intsL_len : ∀ {ds : List D} {ns : List Int}, intsL ds = some ns → ns.length = ds.length := by
  intro ds
  induction ds with
  | nil => intro ns e; simp [intsL] at e; subst e; rfl
  | cons x xs ih =>
    intro ns e
    cases x with
    | int j =>
      rw [intsL] at e
      obtain ⟨ms, e1, rfl⟩ := Option.map_eq_some_iff.mp e
      simp [ih e1]
    | _ => simp [intsL] at e
theorem cr_sumVals (hc : X.calm = true) : CallR X (.builtin "sum") (rSumVals X.en) := by
  intro pins s σ H vs us Q I r h
  obtain ⟨v, d, o, xs, kvs, ns, F, rfl, hv, hd, ob, hs, rk, hi, q⟩ := h
  rw [Vals.ref1 r]
  obtain ⟨hg, es0, ep0, hdt0, raw0⟩ := hd.get I
  obtain ⟨hgv, _⟩ := I.hok v _ hv
  obtain ⟨es, ep, hdt, hsz, hent⟩ := ob.entries
  have raw : s.heap.DictRaw d es ep := by
    rw [hdt] at hdt0
    cases hdt0
    exact raw0
  have hlt : d < s.heap.objs.size := Heap.lt_size hg
  refine PySem.call_sum_walkG (wpAny_pyIter_values_raw ⟨_, hgv, rfl, rfl⟩ raw ?_)
  refine ⟨s.heap.objs.size, _, _, es.size, _, _, fun i => ns.getD i 0, rfl, Walks.rawValues (show X.A.in1.handled = none from I.ok.hd hc) s.heap.objs.size d (Nat.ne_of_lt hlt) es ep, ⟨⟨_, Heap.get?_push_size _ rfl, rfl, rfl⟩, raw.push _⟩, fun b hb => ?_, fun i u hu => ?_, fun h' tk t' hk => ?_⟩
  · rw [Heap.size_push]
    have : b = s.heap.objs.size ∨ b = d := by simpa using hb
    rcases this with e | e
    · rw [e]; exact Nat.lt_succ_self _
    · rw [e]; exact Nat.lt_succ_of_lt hlt
  · obtain ⟨hi2, rfl⟩ := hu
    obtain ⟨x, hx, _, ev⟩ := hent i hi2
    obtain ⟨dd, w, e1, rv, rd⟩ := rk.val_at hx
    have := intsL_get hi e1
    subst this
    cases rd
    rw [ev]
    exact rv
  · have e : es.size = ns.length := by rw [hsz, rk.length, intsL_len hi, List.length_map]
    rw [e, preSum_list]
    refine ⟨.int _, H, I.kept (t' := tk) fun b o q => ?_, ⟨_, rfl⟩, q⟩
    refine hk b o ?_ (Heap.get?_push_of_some _ q)
    intro hb
    have : b = s.heap.objs.size := by simpa using hb
    exact absurd (Heap.lt_size q) (by rw [this]; exact Nat.lt_irrefl _)
def sumVals (fa : M Bv) : M D := fa.bind fun b ρ => match dictB b ρ with
  | some kvs => match intsL (kvs.map (·.2)) with
    | some ns => .ok (.int ns.sum) ρ
    | none => .stuck
  | none => .stuck
theorem se_sumVals {e : Expr} {fa : M Bv} {p apos cpos pos : Pos} (hc : X.calm = true) (hgl : Gl X "sum") (hm : X.mg "sum" = none) (ha : SB X W e fa)
    (hbase : attributeBase e "values" X.env (eval e X.env) = eval e X.env := by rfl) (hline : (apos.endLine == cpos.line) = true := by rfl)
    (hs : starEach [.Call (.Attribute e "values" apos) [] [] cpos] X.env = (false, eval (.Call (.Attribute e "values" apos) [] [] cpos) X.env) :: starEach [] X.env := by rfl) (hpl : (backTo pos (starEach [] X.env)).any (·.1) = false := by rfl) :
    SE X W (.Call (.Name "sum" p) [.Call (.Attribute e "values" apos) [] [] cpos] [] pos) (sumVals fa) := by
  refine (pe_callB (cr_sumVals hc) hgl hm (by rfl) (pa_cons (pe_valsV ha hbase hline) pa_nil hs) (by decide) (by decide) hs hpl).weak ?_
  rintro σ H Q ⟨G, F, ρ, s, q⟩
  refine ⟨G, F, ρ, s, (RP.bind q).mono fun b ρ1 F1 H1 s1 f1 ⟨_, _, h1⟩ v r1 => ?_⟩
  cases e1 : dictB b ρ1 with
  | none => rw [e1] at h1; exact h1.elim
  | some kvs =>
    rw [e1] at h1
    dsimp only at h1
    cases e2 : intsL (kvs.map (·.2)) with
    | none => rw [e2] at h1; exact h1.elim
    | some ns =>
      rw [e2] at h1
      obtain ⟨g1, g2, g3⟩ := dictB_some e1
      obtain ⟨d, o, xs, rfl, hd, ob, r⟩ := (s1.rd r1 (Same.refl _) g1).dictHO s1.bs.fh g2
      refine ⟨d, o, rfl, hd, fun vw hvw => ?_⟩
      have hh := same_upd (o := dobj vw (valsObj d)) hvw
      have x1 : Ext F1 H1 F1 (upd H1 vw (dobj vw (valsObj d))) := ⟨Same.refl _, hh, s1.bs.fh.trans hh, fun _ h _ => h⟩
      exact ⟨vw, d, o, xs, kvs, ns, F1, rfl, upd_same, ⟨hh _ _ hd.1, hd.2⟩, ob, s1.bs.fh.trans hh, r, e2, RP.pure h1 (s1.ext x1) _ (.int _)⟩

def dict1F (fk fv : M D) : M Sl := fun ρ0 => match fk ρ0 with
  | .ok k ρ1 => match fv ρ1 with
    | .ok v ρ2 => match keyOf k with
      | some _ => .ok (.od [(k, v)]) ρ2
      | none => .stuck
    | _ => .stuck
  | _ => .stuck
def tDict1 (N : En) (tk tv : TE) : TE := fun σ H Q => ∀ p, H p = none → (p == sysModules) = false → tk σ (upd H p (dobj p { cls := .type "dict", data := .dict #[] })) fun x H1 => tv σ H1 fun y H2 => ∃ F kd k, H2 p = some (dobj p { cls := .type "dict", data := .dict #[] }) ∧ Same F H2 ∧ BRep N F H2 x kd ∧ keyOf kd = some k ∧
  ∀ ob' b u, x = .ref b → Rep N F (.ref b) kd → RelV y u → DObj N.w ob' (storedH [] k b u) → Q (.ref p) (upd H2 p (dobj p ob'))
theorem pe_dict1 {k v : Expr} {tk tv : TE} {pos : Pos} (hu : X.A.units + 64 < cLine) (hk : PE X k tk) (hv : PE X v tv) (hsh : (evalEachOpt [some k] X.env).zip ((evalEach [v] X.env).map fun z => do let x ← z; standAt pos; pure x) = [((some (eval k X.env)), (do let x ← eval v X.env; standAt pos; pure x))] := by rfl) :
    PE X (.Dict [some k] [v] pos) (tDict1 X.en tk tv) := by
  refine ⟨fun pins s σ H Q I h => ?_⟩
  have hp := I.hok.fresh (Nat.le_refl s.heap.objs.size)
  have q := h _ hp (big_ne I (Nat.le_refl _))
  have I1 : Inv X pins σ (upd H s.heap.objs.size (dobj s.heap.objs.size { cls := .type "dict", data := .dict #[] })) { s with heap := s.heap.push { cls := .type "dict", data := .dict #[] } } :=
    I.laid (a := s.heap.objs.size) (t' := s.toks) (fun _ _ q => Heap.get?_push_of_some _ q) (Nat.le_refl _) (dobj_ok (Heap.get?_push_size _ rfl))
  have hr0 : (nestedKind X.prog X.w).room X.A := by
    show X.A.units + 8 < cLine
    omega
  rw [arm_eval_Dict, hsh]
  show wpAny _ _ (do standAt pos; dictDisplay ([(eval k X.env, (do let x ← eval v X.env; standAt pos; pure x))].map fun p => (some p.1, p.2))) _ _ _
  rw [PySem.dictDisplay_pairs _ (by simp) (by simp)]
  refine wpAny_bind (wpAny_standAt (wpAny_bind (PySem.wpAny_subDictH (knd := nestedKind X.prog X.w) hr0 (by simp) ?_)))
  refine PySem.evalPairs_cons (thn (hk.run pins _ σ _ _ I1 q) fun kv s2 ⟨x, H2, I2, rx, q2⟩ => ?_)
  refine wpAny_bind (thn (hv.run pins s2 σ H2 _ I2 q2) fun vv s3 ⟨y, H3, I3, ry, q3⟩ => wpAny_bind (wpAny_standAt (wpAny_pure (PySem.evalPairs_nil ?_))))
  obtain ⟨F, kd, kk, hH, hs, bk, ek, q4⟩ := q3
  obtain ⟨a, rfl, rfl, ka, rk⟩ := bk.key I3 hs rx ek
  obtain ⟨hg, dm⟩ := dict_at (F := F) I3 hs hH (dobj_new X.w) .nil
  refine ⟨[(kk, a, vv)], ⟨rfl, rfl, ka, trivial⟩, dm, fun h' tk hm' hsb => ?_⟩
  have hz2 := storedH_len ([] : List (NestedKey × Addr × Value)) kk a vv
  obtain ⟨o', hg', ob'⟩ := dobj_of (w := X.w) hm' (by rw [sizeLine_eq]; simp at hz2; show (storedH [] kk a vv).length ≤ _; omega)
  have mu : Mut (upd H s.heap.objs.size (dobj s.heap.objs.size { cls := .type "dict", data := .dict #[] }) s.heap.objs.size) := by rw [upd_same]; trivial
  have mu2 : Mut (H3 s.heap.objs.size) := by rw [hH]; trivial
  exact wpAny_pure ⟨.ref s.heap.objs.size, upd H3 s.heap.objs.size (dobj s.heap.objs.size o'), I3.write (e := s.heap.objs.size) (t' := tk) mu2 (.inl rfl) (fun c o hc hg2 => (hsb.2 c hc).trans hg2) ⟨_, hg'⟩ (dobj_ok hg'), rfl, q4 o' a vv rfl rk ry ob'⟩
theorem sf_dict1 {k v : Expr} {fk fv : M D} {pos : Pos} (hu : X.A.units + 64 < cLine) (hk : SE X W0 k fk) (hv : SE X W0 v fv) (hsh : (evalEachOpt [some k] X.env).zip ((evalEach [v] X.env).map fun z => do let x ← z; standAt pos; pure x) = [((some (eval k X.env)), (do let x ← eval v X.env; standAt pos; pure x))] := by rfl) :
    SF X W (.Dict [some k] [v] pos) (dict1F fk fv) := by
  refine (pe_dict1 hu hk hv hsh).weak ?_
  rintro σ H Q ⟨G, F, ρ, s, q⟩
  intro p hp hm
  have hF : F p = none := same_none s.bs.fh hp
  have h0 : G.H0 p = none := s.bs.there p hp
  have hF0 : G.F0 p = none := same_none s.bs.f0 hF
  have hio : G.io ≠ some p := fun z => s.bs.iot p z h0
  have sh := s.hold_new (dobj p { cls := .type "dict", data := .dict #[] }) hp
  refine ⟨_, F, ρ, sh, ?_⟩
  unfold dict1F at q
  cases e1 : fk ρ with
  | ok kd ρ1 =>
    rw [e1] at q
    dsimp only at q
    intro F1 H1 s1 f1 x rx
    refine ⟨_, F1, ρ1, s1, ?_⟩
    cases e2 : fv ρ1 with
    | ok vd ρ2 =>
      rw [e2] at q
      dsimp only at q
      intro F2 H2 s2 f2 y ry
      cases ek : keyOf kd with
      | none => rw [ek] at q; exact q.elim
      | some kk =>
        rw [ek] at q
        dsimp only at q
        obtain ⟨hH, hF2⟩ := s2.held hF0 hio
        refine ⟨F2, kd, kk, hH, s2.bs.fh, .va (rx.mono f2), ek, fun ob' b u hxb hb ru hob => ?_⟩
        have s3 := s2.hold_set (dobj p ob') hF2 hio
        obtain ⟨_, ek', hz8⟩ := keyOf_eq ek
        have rk : RepK X.en F2 (storedH [] kk b u) [(kd, vd)] := .cons hb ek' hz8 ru ry .nil
        have s4 := s3.unholdS (t := .od [(kd, vd)]) h0 hF0 hio rfl (fun _ _ => ⟨p, ob', _, rfl, upd_same, hm, hob, rk, hF2, h0⟩)
        exact q F2 _ s4.unpush (f1.trans f2) (.ref p) _ s4
    | err e ρ2 => rw [e2] at q; exact q.elim
    | stuck => rw [e2] at q; exact q.elim
  | err e ρ1 => rw [e1] at q; exact q.elim
  | stuck => rw [e1] at q; exact q.elim
end
end L2.Sc
set_option Elab.async false
set_option linter.all false
set_option maxRecDepth 100000
set_option maxHeartbeats 2000000
namespace L2.Sc
open PySem PySem.Spec PyProof.Rows
theorem takes0 {X : Cx} : Takes X W0 := fun _ _ ⟨_, _, _, _, _, _, _, _, _, _, _, _, _, _, _, _, w⟩ => w.elim
/-- a def of the top: its object -/
def DefOf (K : PySem.W.Frag) (mg : Str → Option Value) (x : Str) (st : Stmt) : Prop := ∃ f fd, FunD K x x (defArgs st) (defBody st) (defScope st) [] [] f fd ∧ mg x = some (.ref f)
abbrev cxD (P : Program) (w : World) (K : PySem.W.Frag) (mg : Str → Option Value) (base : Heap) (Nn : List Str) (x : Str) (st : Stmt) (f : Addr) (cdv : Value) (A : Around) (outer : List Env) (s : Shared) (H : Hp) (E : XK) : Cx := cxOf (L2.CX P w) P w K mg base Nn x (defScope st) f cdv A outer s H E
abbrev wE (E : XK) : WX := fun cls d _ H => E cls d H
theorem fn_okD {P : Program} {w : World} {K : PySem.W.Frag} {mg : Str → Option Value} {base : Heap} {x : Str} {st : Stmt} {f : Addr} {fd : FuncData} {Nn ps : List Str} {k : Nat} {b : MS} (F : FunD K x x (defArgs st) (defBody st) (defScope st) [] [] f fd) (S : FnScope Nn ps (defScope st))
    (hbody : ∀ (cdv : Value) (A : Around) (outer : List Env) (s : Shared) (H : Hp) (E : XK), Ok (cxD P w K mg base Nn x st f cdv A outer s H E) (wE E) k → SSs (cxD P w K mg base Nn x st f cdv A outer s H E) (wE E) (defBody st) b) :
    FnOk P w K mg base (L2.CX P w) (k + 1) f fd ps (spOf ⟨K, w, mg⟩ ps.length (runB (Nn.length - ps.length) b)) := by
  refine F.ok S (fun vs H Q E h => h.1) (fun cdv A outer s H vs Q E hr h => ?_)
  obtain ⟨hl, G, row, ds, F0, s0, q⟩ := h
  let X := cxOf (L2.CX P w) P w K mg base Nn x (defScope st) f cdv A outer s H E
  have ok : Ok X (fun cls d _ H => E cls d H) k := ⟨rfl, S.nd, hr, takes_of rfl rfl rfl rfl, passes_of rfl⟩
  refine ⟨_, hbody cdv A outer s H E ok, G, F0, argSl row ds ++ List.replicate (Nn.length - ps.length) .un, ?_, ?_⟩
  · have := s0.more (Nn.length - ps.length)
    unfold start
    rw [hl]
    exact this
  · unfold runB at q
    cases e : b (argSl row ds ++ List.replicate (Nn.length - ps.length) .un) with
    | nx ρ =>
      rw [e] at q
      intro F' H' σ' s' f'
      dsimp only at q
      cases hr' : rowOf row ρ with
      | none => rw [hr'] at q; exact q.elim
      | some r =>
        rw [hr'] at q
        exact q .non F' H' (s0.args s' f' hr') f' .non
    | rt d ρ =>
      rw [e] at q
      intro F' H' σ' v s' f' rv
      dsimp only at q
      cases hr' : rowOf row ρ with
      | none => rw [hr'] at q; exact q.elim
      | some r =>
        rw [hr'] at q
        exact q v F' H' (s0.args s' f' hr') f' rv
    | er x ρ =>
      rw [e] at q
      intro cls dd F' H' σ' s' f' rx
      dsimp only at q
      cases hr' : rowOf row ρ with
      | none => rw [hr'] at q; exact q.elim
      | some r =>
        rw [hr'] at q
        exact q cls dd F' H' (s0.args s' f' hr') f' rx
    | bk ρ => rw [e] at q; exact q.elim
    | ct ρ => rw [e] at q; exact q.elim
    | stuck => rw [e] at q; exact q.elim
theorem fn_defD {P : Program} {w : World} {K : PySem.W.Frag} {mg : Str → Option Value} {base : Heap} {x : Str} {st : Stmt} {Nn ps : List Str} {k : Nat} {b : MS} (F : DefOf K mg x st) (S : FnScope Nn ps (defScope st))
    (bnd : ∀ (kV doc pm : Value) (an : Option Addr) (cdv ct : Value) (us : List Value), us.length = ps.length → bindArgs (PySem.W.fnOf x x (defArgs st) (defBody st) (defScope st) .none kV doc pm an cdv ct) ⟨us, []⟩ = pure (ps.zip us))
    (hbody : ∀ (f : Addr) (cdv : Value) (A : Around) (outer : List Env) (s : Shared) (H : Hp) (E : XK), Ok (cxD P w K mg base Nn x st f cdv A outer s H E) (wE E) k → SSs (cxD P w K mg base Nn x st f cdv A outer s H E) (wE E) (defBody st) b) :
    FnS P w K mg base (k + 1) x ps.length (runB (Nn.length - ps.length) b) := by
  obtain ⟨f, fd, F, hm⟩ := F
  exact ⟨f, fd, ps, fn_okD F S (fun cdv A outer s H E ok => hbody f cdv A outer s H E ok), hm, F.kp, F.bindsN bnd⟩
theorem se_globI {X : Cx} {W : WX} {x : Str} {i : Int} {pos : Pos} (hm : ∃ t, X.mg x = some (.int i t)) (hg : Gl X x := by rfl) (hd : (x == ("__debug__" : Str)) = false := by decide) : SE X W (.Name x pos) (cE (.int i)) := by
  obtain ⟨t, hm⟩ := hm
  exact se_glob (v := .int i) hg hm ⟨t, rfl⟩ (fun _ => .int _) hd
/-- a def of which nothing is said -/
def stuckF : Fs := fun _ _ => .stuck
theorem fn_none {P : Program} {w : World} {K : PySem.W.Frag} {mg : Str → Option Value} {base : Heap} {x : Str} {st : Stmt} {Nn ps : List Str} {k : Nat} (F : DefOf K mg x st) (S : FnScope Nn ps (defScope st))
    (bnd : ∀ (kV doc pm : Value) (an : Option Addr) (cdv ct : Value) (us : List Value), us.length = ps.length → bindArgs (PySem.W.fnOf x x (defArgs st) (defBody st) (defScope st) .none kV doc pm an cdv ct) ⟨us, []⟩ = pure (ps.zip us)) :
    FnS P w K mg base (k + 1) x ps.length stuckF := by
  obtain ⟨f, fd, F, hm⟩ := F
  refine ⟨f, fd, ps, F.ok S (fun vs H Q E h => h.1) (fun cdv A outer s H vs Q E hr h => ?_), hm, F.kp, F.bindsN bnd⟩
  obtain ⟨hl, G, row, ds, F0, s0, q⟩ := h
  exact q.elim
end L2.Sc
set_option Elab.async false
set_option linter.all false
set_option maxRecDepth 100000
set_option maxHeartbeats 2000000
namespace L2.Sc
open PySem PySem.Spec PyProof.Rows
/-- the script -/
def scr (ns : List Int) : D := .dict [(.none, .list (ns.map PyData.int))]
theorem reps_ints {N : En} {F : Hp} : ∀ ns : List Int, Reps N F (ns.map V.int) (ns.map PyData.int)
  | [] => .nil
  | n :: ns => .cons (.int n) (reps_ints ns)
theorem FnOk.no {P : Program} {w : World} {K : PySem.W.Frag} {mg : Str → Option Value} {base : Heap} {k : Nat} {f : Addr} {fd : FuncData} {ps : List Str} {sp : Sp} (F : FnOk P w K mg base (L2.CX P w) k f fd ps sp) : FnOk P w K mg base CX0 k f fd ps (fun vs H Q _ => sp vs H Q fun _ _ _ => False) :=
  ⟨fun vs H Q E q => F.len vs H Q _ q, fun A outer s H args us vs Q E hr he hb hv hs => by
    refine codeAny_mono (F.run A outer s H args us vs Q _ hr he hb hv hs) fun r s' h => ?_
    cases r with
    | ok a => cases a <;> exact h
    | error e =>
      obtain ⟨_, _, _, _, _, _, _, _, _, _, _, _, z⟩ := h
      exact z.elim⟩
theorem law_sp {N : En} {fs : Fs} (hf : ∀ ns : List Int, ns.length ≤ 63 → ∃ r, fs none [scr ns] = .ok (.bool true) r) {H : Hp} {a : Addr} {ns : List Int} (hl : ns.length ≤ 63) (hs : SqL N.K H a (ns.map V.int)) :
    spOf N 1 fs [.ref a] H (fun v _ => v = .bl true) fun _ _ _ => False := by
  obtain ⟨r, e⟩ := hf ns hl
  refine ⟨rfl, ⟨H, H, none⟩, none, [scr ns], H, SR.enter (Same.refl _) (.cons (.scr hs (reps_ints ns)) .nil), ?_⟩
  rw [e]
  intro v F' H' _ _ rv
  cases rv
  rfl
end L2.Sc
set_option Elab.async false
set_option linter.all false
set_option maxRecDepth 100000
set_option maxHeartbeats 2000000
namespace L2.Sc
open PySem PySem.Spec PyProof.Rows
section
variable {X : Cx} {W : WX} {N : En}
def popE (i : Nat) : M D := fun ρ => match ρ[i]? with
  | some t => match t.lget with
    | some ds => match ds[ds.length - 1]? with
      | some d => .ok d (ρ.set i (t.lput ds.dropLast))
      | none => .stuck
    | none => .stuck
  | none => .stuck
theorem Reps.dropLast {F : Hp} {vs : List V} {ds : List D} (r : Reps N F vs ds) : Reps N F vs.dropLast ds.dropLast := by
  rw [List.dropLast_eq_take, List.dropLast_eq_take, r.length]
  exact r.take _
theorem se_pop {i : Nat} {x : Str} {npos apos cpos : Pos} (hN : X.N[i]? = some x := by rfl) (hv : Vis X.env.scope x := by first | exact Or.inl rfl | exact Or.inr (Or.inl rfl) | exact Or.inr (Or.inr rfl)) (hd : (x == ("__debug__" : Str)) = false := by decide)
    (hcd : (x == ("__classdict__" : Str)) = false := by decide)
    (hbase : attributeBase (.Name x npos) "pop" X.env (eval (.Name x npos) X.env) = eval (.Name x npos) X.env := by rfl) (hline : (apos.endLine == cpos.line) = true := by rfl) :
    SE X W (.Call (.Attribute (.Name x npos) "pop" apos) [] [] cpos) (popE i) := by
  refine (pe_bm0 (T := "list") (id := "list.pop") PySem.F.plainAttrs_list PySem.F.slot_list_pop PySem.F.type_list_pop mt_pop (pe_var hN hv hd hcd) hbase hline).weak ?_
  rintro σ H Q ⟨G, F, ρ, s, q⟩
  unfold popE at q
  split at q
  · rename_i t ht
    split at q
    · rename_i ds hl
      split at q
      · rename_i d hd
        obtain ⟨a, vs, hv0, hH, rs, wr⟩ := s.own_lst ht hl
        refine ⟨.ref a, hv0, .inl ⟨rfl, vs, .inl (.inl hH)⟩, ?_⟩
        obtain ⟨v, e1, r1⟩ := rs.get hd
        rw [← rs.length] at e1
        have s2 := wr _ _ rs.dropLast
        exact ⟨a, vs, v, rfl, rfl, hH, e1, q _ _ s2 (Same.refl _) v r1⟩
      · exact q.elim
    · exact q.elim
  · exact q.elim
def lenK : List D → Option D
  | [.dict kvs] => if keysOk kvs = true then some (.int kvs.length) else none
  | _ => none
def rLenK (N : En) : List V → Hp → VK → Prop := fun vs H Q => ∃ (d : Addr) (o : Obj) (xs : List (NestedKey × Addr × Value)) (kvs : List (D × D)) (F : Hp), vs = [V.ref d] ∧ H d = some (dobj d o) ∧ (d == sysModules) = false ∧ DObj N.w o xs ∧ Same F H ∧ RepK N F xs kvs ∧ Q (.int kvs.length) H
theorem cr_lenK : CallR X (.builtin "len") (rLenK X.en) := by
  intro pins s σ H vs us Q I r h
  obtain ⟨d, o, xs, kvs, F, rfl, hd, hm, ob, hs, rk, q⟩ := h
  rw [Vals.ref1 r]
  obtain ⟨_, dm⟩ := dict_at I hs hd ob rk
  have hl := rk.length
  have hz := ob.sz
  refine PySem.call_len_dictH hm dm (by rw [sizeLine_eq] at hz; omega) ?_
  rw [hl]
  exact ⟨.int kvs.length, H, I.tok _, ⟨_, rfl⟩, q⟩
theorem dc_lenK : DCall N (rLenK N) lenK := by
  intro F H vs ds d Q h r e q
  unfold lenK at e
  split at e
  · split at e
    · rename_i hk
      cases e
      obtain ⟨v, rfl, b⟩ := r.one
      obtain ⟨a, o, xs, rfl, hH, hm, ob, rk⟩ := b.dct h hk
      exact ⟨a, o, xs, _, F, rfl, hH, hm, ob, h, rk, q _ _ _ (Ext.refl h) (.int _)⟩
    · cases e
  · cases e
theorem pairs_none {P : Program} {w : World} {A : Around} {E : Value → Shared → Prop} {s : Shared} {nm : String} {p q : Addr} {us vs : Array DictEntry} {e1 e2 : Nat} {Q : Bool → Shared → Prop} (hp : (p == sysModules) = false) (hq : (q == sysModules) = false)
    (dp : s.heap.DictRaw p us e1) (dq : s.heap.DictRaw q vs e2) (h0 : vs.size = 0) (h : Q (us.size == 0) s) : wpAny (model P w) A (Builtin.Dict.samePairs nm p q) Q E s := by
  obtain ⟨o1, g1, _, d1⟩ := dp
  obtain ⟨o2, g2, _, d2⟩ := dq
  unfold Builtin.Dict.samePairs Builtin.Dict.showsAll
  rw [if_neg (show ¬ (p == sysModules) = true by rw [hp]; decide), if_neg (show ¬ (q == sysModules) = true by rw [hq]; decide)]
  refine wpAny_bind (wpAny_pure (wpAny_bind (wpAny_pure ?_)))
  refine wpAny_bind (wpAny_dictEntries g1 d1 ?_)
  dsimp only
  refine wpAny_bind (wpAny_dictEntries g2 d2 ?_)
  by_cases hz : us.size = vs.size
  · rw [if_neg (by rw [hz]; simp)]
    refine wpAny_bind (wpAny_dictEpoch g1 d1 ?_)
    refine wpAny_bind ?_
    rw [Std.Legacy.Range.forIn_eq_forIn_range']
    simp only [Std.Legacy.Range.size, Nat.sub_zero, Nat.add_sub_cancel, Nat.div_one]
    rw [show us.size = 0 by omega] at h ⊢
    rw [List.range'_zero, List.forIn_nil]
    exact wpAny_pure (wpAny_pure h)
  · rw [if_pos (by simpa using hz)]
    have e : (us.size == 0) = false := beq_eq_false_iff_ne.mpr (by omega)
    rw [e] at h
    exact wpAny_bind (wpAny_rule (wpAny_pure h))
theorem eq_none {P : Program} {w : World} {A : Around} {E : Value → Shared → Prop} {s : Shared} {p q : Addr} {us vs : Array DictEntry} {e1 e2 : Nat} {Q : Value → Shared → Prop} (hp : (p == sysModules) = false) (hq : (q == sysModules) = false)
    (dp : s.heap.DictRaw p us e1) (dq : s.heap.DictRaw q vs e2) (h0 : vs.size = 0) (hu : A.units < cLine) (h : Q (.bool (us.size == 0)) s) : wpAny (model P w) A (compareOp .Eq (.ref p) (.ref q)) Q E s := by
  refine wpAny_richCompare_same_room (op := .Eq) dp.typeIs dq.typeIs PySem.F.slot_dict_eq (wpAny_call_entry PySem.F.slot_dict_eq dp.typeIs PySem.F.entry_dict_eq ?_ (PySem.F.args_dict_eq_2 _ _)) hu
  show wpAny _ _ (Builtin.Dict.dictSlotArgs "__eq__" ⟨[.ref p, .ref q], []⟩ >>= _) _ _ s
  refine wpAny_bind ?_
  unfold Builtin.Dict.dictSlotArgs
  refine wpAny_bind (wpAny_notOrdered_dict dp.typeIs ?_)
  show wpAny _ _ (pure (Value.ref p, Value.ref q)) _ _ s
  refine wpAny_pure (wpAny_bind (wpAny_isInstance (T := "dict") dq.typeIs PySem.F.sub_dict_dict ?_))
  simp only [Bool.not_true, Bool.false_eq_true, if_false]
  refine wpAny_bind (wpAny_pure (wpAny_bind (wpAny_pure (wpAny_bind (pairs_none hp hq dp dq h0 ?_)))))
  exact wpAny_pure ⟨_, rfl, (fun x => nomatch x), by simpa using h⟩
theorem ne_none {P : Program} {w : World} {A : Around} {E : Value → Shared → Prop} {s : Shared} {p q : Addr} {us vs : Array DictEntry} {e1 e2 : Nat} {Q : Value → Shared → Prop} (hp : (p == sysModules) = false) (hq : (q == sysModules) = false)
    (dp : s.heap.DictRaw p us e1) (dq : s.heap.DictRaw q vs e2) (h0 : vs.size = 0) (hu : A.units < cLine) (h : Q (.bool (!(us.size == 0))) s) : wpAny (model P w) A (compareOp .NotEq (.ref p) (.ref q)) Q E s := by
  refine wpAny_richCompare_same_room (op := .NotEq) dp.typeIs dq.typeIs PySem.F.slot_dict_ne (wpAny_call_entry PySem.F.slot_dict_ne dp.typeIs PySem.F.entry_dict_ne ?_ (PySem.F.args_dict_ne_2 _ _)) hu
  show wpAny _ _ (Builtin.Dict.dictSlotArgs "__ne__" ⟨[.ref p, .ref q], []⟩ >>= _) _ _ s
  refine wpAny_bind ?_
  unfold Builtin.Dict.dictSlotArgs
  refine wpAny_bind (wpAny_notOrdered_dict dp.typeIs ?_)
  show wpAny _ _ (pure (Value.ref p, Value.ref q)) _ _ s
  refine wpAny_pure (wpAny_bind (wpAny_isInstance (T := "dict") dq.typeIs PySem.F.sub_dict_dict ?_))
  simp only [Bool.not_true, Bool.false_eq_true, if_false]
  refine wpAny_bind (wpAny_pure (wpAny_bind (wpAny_pure (wpAny_bind (pairs_none hp hq dp dq h0 ?_)))))
  exact wpAny_pure ⟨_, rfl, (fun x => nomatch x), by simpa using h⟩
/-- a dict against an empty one -/
def eqKB (a b : D) : Option Bool := match a, b with
  | .dict kvs, .dict [] => if keysOk kvs = true then some kvs.isEmpty else none
  | _, _ => none
def neKB (a b : D) : Option Bool := (eqKB a b).map (!·)
def rEqK (N : En) (neg : Bool) : R2 := fun x y H Q => ∃ (d e : Addr) (o o' : Obj) (xs : List (NestedKey × Addr × Value)) (kvs : List (D × D)) (F : Hp), x = .ref d ∧ y = .ref e ∧ H d = some (dobj d o) ∧ H e = some (dobj e o') ∧ (d == sysModules) = false ∧ (e == sysModules) = false ∧ DObj N.w o xs ∧ DObj N.w o' [] ∧ Same F H ∧ RepK N F xs kvs ∧
  Q (.bl (if neg = true then !kvs.isEmpty else kvs.isEmpty)) H
theorem DObj.raw {w : World} {h : Heap} {a : Addr} {o : Obj} {xs : List (NestedKey × Addr × Value)} (ob : DObj w o xs) (g : h.get? a = some o) : ∃ es ep, h.DictRaw a es ep ∧ es.size = xs.length := by
  obtain ⟨es, ep, hd, hz, _⟩ := ob.entries
  exact ⟨es, ep, ⟨o, g, ob.ex, hd⟩, hz⟩
theorem op_eqK (hu : X.A.units + 64 < cLine) : OpR X (compareOp .Eq) (rEqK X.en false) := by
  intro pins s σ H x y v u Q I rx ry h
  obtain ⟨d, e, o, o', xs, kvs, F, rfl, rfl, h1, h2, m1, m2, ob, ob', hs, rk, q⟩ := h
  cases rx; cases ry
  obtain ⟨g1, _⟩ := I.hok d _ h1
  obtain ⟨g2, _⟩ := I.hok e _ h2
  obtain ⟨es, ep, r1, z1⟩ := ob.raw g1
  obtain ⟨es', ep', r2, z2⟩ := ob'.raw g2
  refine eq_none m1 m2 r1 r2 (by simpa using z2) (by omega) ⟨.bl kvs.isEmpty, H, I, ?_, q⟩
  have hl := rk.length
  show Value.bool _ = Value.bool _
  congr 1
  rw [z1, hl]
  cases kvs <;> rfl
theorem op_neK (hu : X.A.units + 64 < cLine) : OpR X (compareOp .NotEq) (rEqK X.en true) := by
  intro pins s σ H x y v u Q I rx ry h
  obtain ⟨d, e, o, o', xs, kvs, F, rfl, rfl, h1, h2, m1, m2, ob, ob', hs, rk, q⟩ := h
  cases rx; cases ry
  obtain ⟨g1, _⟩ := I.hok d _ h1
  obtain ⟨g2, _⟩ := I.hok e _ h2
  obtain ⟨es, ep, r1, z1⟩ := ob.raw g1
  obtain ⟨es', ep', r2, z2⟩ := ob'.raw g2
  refine ne_none m1 m2 r1 r2 (by simpa using z2) (by omega) ⟨.bl (!kvs.isEmpty), H, I, ?_, q⟩
  have hl := rk.length
  show Value.bool _ = Value.bool _
  congr 2
  rw [z1, hl]
  cases kvs <;> rfl
theorem dop_eqK : DOp N (rEqK N false) (fun a b => (eqKB a b).map .bool) := by
  refine dopB fun F H x y a b c Q h ra rb e q => ?_
  unfold eqKB at e
  split at e
  · split at e
    · rename_i hk
      cases e
      obtain ⟨d, o, xs, rfl, h1, m1, ob, rk⟩ := ra.dct h hk
      obtain ⟨d', o', xs', rfl, h2, m2, ob', rk'⟩ := rb.dct h rfl
      cases rk'
      exact ⟨d, d', o, o', xs, _, F, rfl, rfl, h1, h2, m1, m2, ob, ob', h, rk, q⟩
    · cases e
  · cases e
theorem dop_neK : DOp N (rEqK N true) (fun a b => (neKB a b).map .bool) := by
  refine dopB fun F H x y a b c Q h ra rb e q => ?_
  unfold neKB at e
  obtain ⟨c0, e, ec⟩ := Option.map_eq_some_iff.mp e
  unfold eqKB at e
  split at e
  · split at e
    · rename_i hk
      cases e
      subst ec
      obtain ⟨d, o, xs, rfl, h1, m1, ob, rk⟩ := ra.dct h hk
      obtain ⟨d', o', xs', rfl, h2, m2, ob', rk'⟩ := rb.dct h rfl
      cases rk'
      exact ⟨d, d', o, o', xs, _, F, rfl, rfl, h1, h2, m1, m2, ob, ob', h, rk, q⟩
    · cases e
  · cases e
def keysF (fa : M Bv) : M Sl := fa.bind fun b ρ => match dictB b ρ with
  | some kvs => .ok (.ol (kvs.map (·.1))) ρ
  | none => .stuck
theorem vals_by {l : List V} : ∀ {us : List Value}, l.length = us.length → (∀ (i : Nat) (x : V), l[i]? = some x → ∃ u, us[i]? = some u ∧ RelV x u) → Vals l us := by
  induction l with
  | nil =>
    intro us hl _
    cases us with
    | nil => exact .nil
    | cons a b => cases hl
  | cons x l ih =>
    intro us hl hh
    cases us with
    | nil => cases hl
    | cons a b =>
      obtain ⟨u, e1, e2⟩ := hh 0 x rfl
      cases e1
      exact .cons e2 (ih (by simpa using hl) fun i y hy => hh (i + 1) y (by simpa using hy))
def rListKeys (N : En) : List V → Hp → VK → Prop := fun vs H Q => ∃ (v d : Addr) (o : Obj) (xs : List (NestedKey × Addr × Value)), vs = [V.ref v] ∧ H v = some (dobj v (keysObj d)) ∧ DictHO H d o ∧ DObj N.w o xs ∧ ∀ p, H p = none → Q (.ref p) (upd H p (.lst (xs.map fun x => V.ref x.2.1)))
theorem cr_listKeys (hc : X.calm = true) : CallR X (.type "list") (rListKeys X.en) := by
  intro pins s σ H vs us Q I r h
  obtain ⟨v, d, o, xs, rfl, hv, hd, ob, q⟩ := h
  rw [Vals.ref1 r]
  obtain ⟨hgv, _⟩ := I.hok v _ hv
  obtain ⟨hgd, _⟩ := hd.get I
  obtain ⟨es, ep, hdt, hsz, hent⟩ := ob.entries
  have raw : s.heap.DictRaw d es ep := ⟨o, hgd, hd.2.2.1, hdt⟩
  refine PySem.W.kdl_call (PySem.KdlSrc.rawKeys) (I.ok.hd hc) ⟨⟨_, hgv, rfl, rfl⟩, raw⟩ (by rw [hsz]; exact ob.sz) fun h' tk acc c hk hS hacc => ?_
  have rv : Vals (xs.map fun x => V.ref x.2.1) acc.toList := by
    refine vals_by (by simp [hacc.1, hsz]) fun i x hx => ?_
    rw [List.getElem?_map] at hx
    cases e : xs[i]? with
    | none => rw [e] at hx; cases hx
    | some b =>
      rw [e] at hx
      cases hx
      have hi : i < es.size := by rw [hsz]; exact (List.getElem?_eq_some_iff.mp e).1
      obtain ⟨b', e', hkey, _⟩ := hent i hi
      rw [e] at e'
      cases e'
      have hi2 : i < acc.size := by rw [hacc.1]; exact hi
      obtain ⟨_, hP⟩ := hacc.2 i acc[i] (Array.getElem?_eq_getElem hi2)
      exact ⟨acc[i], by simp [hi2], by rw [hP, hkey]; rfl⟩
  refine ⟨.ref s.heap.objs.size, _, I.laid (a := s.heap.objs.size) (o := .lst (xs.map fun x => V.ref x.2.1)) hk (Nat.le_refl _) (show ObjOk X.prog X.w _ _ _ (.lst _) from ⟨by rw [List.length_map]; exact ob.sz, acc.toList, c, rv, ?_⟩), rfl, q _ (I.hok.fresh (Nat.le_refl _))⟩
  rw [Array.toArray_toList]
  exact hS
theorem RepK.keys {F : Hp} : ∀ {xs : List (NestedKey × Addr × Value)} {kvs : List (D × D)}, RepK N F xs kvs → Reps N F (xs.map fun x => V.ref x.2.1) (kvs.map (·.1))
  | _, _, .nil => .nil
  | _, _, .cons a _ _ _ _ f => .cons a f.keys
theorem sf_listKeys {e : Expr} {fa : M Bv} {p apos cpos pos : Pos} (hc : X.calm = true) (hgl : Gl X "list") (hm : X.mg "list" = none) (ha : SB X W e fa)
    (hbase : attributeBase e "keys" X.env (eval e X.env) = eval e X.env := by rfl) (hline : (apos.endLine == cpos.line) = true := by rfl)
    (hs : starEach [.Call (.Attribute e "keys" apos) [] [] cpos] X.env = (false, eval (.Call (.Attribute e "keys" apos) [] [] cpos) X.env) :: starEach [] X.env := by rfl) (hpl : (backTo pos (starEach [] X.env)).any (·.1) = false := by rfl) :
    SF X W (.Call (.Name "list" p) [.Call (.Attribute e "keys" apos) [] [] cpos] [] pos) (keysF fa) := by
  refine (pe_callTy (cr_listKeys hc) hgl hm (by rfl) (pa_cons (pe_keysV ha hbase hline) pa_nil hs) (by decide) (by decide) hs hpl).weak ?_
  rintro σ H Q ⟨G, F, ρ, s, q⟩
  refine ⟨G, F, ρ, s, (RP.bind q).mono fun b ρ1 F1 H1 s1 f1 ⟨_, _, h1⟩ v r1 => ?_⟩
  cases e1 : dictB b ρ1 with
  | none => rw [e1] at h1; exact h1.elim
  | some kvs =>
    rw [e1] at h1
    obtain ⟨g1, g2, g3⟩ := dictB_some e1
    obtain ⟨d, o, xs, rfl, hd, ob, r⟩ := (s1.rd r1 (Same.refl _) g1).dictHO s1.bs.fh g2
    refine ⟨d, o, rfl, hd, fun vw hvw => ?_⟩
    have hh := same_upd (o := dobj vw (keysObj d)) hvw
    have x1 : Ext F1 H1 F1 (upd H1 vw (dobj vw (keysObj d))) := ⟨Same.refl _, hh, s1.bs.fh.trans hh, fun _ h _ => h⟩
    have s2 := s1.ext x1
    exact ⟨vw, d, o, xs, rfl, upd_same, ⟨hh _ _ hd.1, hd.2⟩, ob, fun p hp => RP.pure h1 s2 (.ref p) _ (s2.push hp r.keys)⟩
theorem call_dictK {P : Program} {w : World} {A : Around} {E : Value → Shared → Prop} {s : Shared} {q : Addr} {xs : List (NestedKey × Addr × Value)} {Q : Value → Shared → Prop} (hr : (nestedKind P w).room A.in1.in1) (hq : (q == sysModules) = false) (hm : s.heap.DictOfH (nestedKind P w) q xs)
    (hty : ∀ x ∈ xs, s.TypeIs (.ref x.2.1) "tuple") (hap : (xs.map fun x => (nestedKind P w).hash x.1).Nodup) (hz : xs.length ≤ sizeLine)
    (h : ∀ h', h'.DictOfH (nestedKind P w) s.heap.objs.size xs → (∀ b o, s.heap.get? b = some o → h'.get? b = some o) → Q (.ref s.heap.objs.size) { s with heap := h' }) :
    wpAny (model P w) A (call (.type "dict") [.ref q]) Q E s := by
  refine callType_codes (Q₁ := fun u s₁ => u = .ref s.heap.objs.size ∧ s₁ = { s with heap := s.heap.push { cls := .type "dict", data := .dict #[] } }) PySem.F.kt_called_dict (PySem.F.kt_typeCall_dict_1 _) PySem.F.entry_dict_init (PySem.kt_code_dict_new _ ⟨rfl, rfl⟩) ?_
  rintro u s₁ ⟨rfl, rfl⟩
  have hT : Shared.TypeIs { s with heap := s.heap.push { cls := .type "dict", data := .dict #[] } } (.ref s.heap.objs.size) "dict" := ⟨_, Heap.get?_push_size _ rfl, rfl⟩
  have hne : s.heap.objs.size ≠ q := by
    obtain ⟨_, _, _, hg, _⟩ := hm
    exact fun e => absurd (Heap.lt_size hg) (by rw [e]; exact Nat.lt_irrefl _)
  have kp : ∀ b o, s.heap.get? b = some o → (s.heap.push { cls := .type "dict", data := .dict #[] }).get? b = some o := fun b o e => Heap.get?_push_of_some _ e
  have hm' : (s.heap.push { cls := .type "dict", data := .dict #[] }).DictOfH (nestedKind P w) q xs := by
    obtain ⟨o, es, ep, hg, hx, hd, he, his, hn⟩ := hm
    exact ⟨o, es, ep, kp _ _ hg, hx, hd, he, fun x hx => ⟨NestedIs.at (fun b ob vs n hb _ => kp b ob hb) _ _ (his x hx).1, (his x hx).2⟩, hn⟩
  have hty' : ∀ x ∈ xs, Shared.TypeIs { s with heap := s.heap.push { cls := .type "dict", data := .dict #[] } } (.ref x.2.1) "tuple" := fun x hx => by
    obtain ⟨o, h1, h2⟩ := hty x hx
    exact ⟨o, kp _ _ h1, h2⟩
  refine ⟨hT, PySem.F.args_dict_init_2 _ _, ?_⟩
  unfold Builtin.«dict.__init__»
  refine wpAny_bind ?_
  unfold Builtin.Dict.selfAndRest
  refine wpAny_bind (wpAny_notOrdered_dict hT ?_)
  show wpAny _ _ (pure (s.heap.objs.size, [Value.ref q])) _ _ _
  refine wpAny_pure (PySem.updateFrom_dictH (A := A.in1) (kvs := []) .none hr hne hq (Heap.DictOfH.new s.heap) hm' (.inr ⟨hty', hap⟩) (by simpa using hz) fun h' hd' hm2 hs' => ?_)
  rw [PySem.storedAllH_nil_of_nodup xs hm.nodup] at hd'
  exact ⟨rfl, h h' hd' fun b o e => (hs'.2 b (Nat.ne_of_lt (Heap.lt_size e))).trans (kp b o e)⟩
/-- no two keys of one hash (beyond that the model does not say what dict(d) does) -/
def Apart (kvs : List (D × D)) : Prop := ∀ w : World, (kvs.map fun p => (nk p.1).map (NestedKey.hash w)).Nodup
open Classical in
noncomputable def apartB (kvs : List (D × D)) : Bool := decide (Apart kvs)
open Classical in
theorem apartB_iff {kvs : List (D × D)} : apartB kvs = true ↔ Apart kvs := by
  unfold apartB
  exact decide_eq_true_iff
noncomputable def dcopyF (fa : M Bv) : M Sl := fa.bind fun b ρ => match dictB b ρ with
  | some kvs => if apartB kvs = true then .ok (.od kvs) ρ else .stuck
  | none => .stuck
def rDcopy (N : En) : List V → Hp → VK → Prop := fun vs H Q => ∃ (d : Addr) (o : Obj) (xs : List (NestedKey × Addr × Value)) (kvs : List (D × D)) (F : Hp), vs = [V.ref d] ∧ H d = some (dobj d o) ∧ (d == sysModules) = false ∧ DObj N.w o xs ∧ Same F H ∧ RepK N F xs kvs ∧ keysOk kvs = true ∧ Apart kvs ∧
  ∀ p o', H p = none → (p == sysModules) = false → DObj N.w o' xs → Q (.ref p) (upd H p (dobj p o'))
theorem RepK.hashes {F : Hp} (w : World) : ∀ {xs : List (NestedKey × Addr × Value)} {kvs : List (D × D)}, RepK N F xs kvs → (kvs.map fun p => (nk p.1).map (NestedKey.hash w)) = xs.map fun x => some (NestedKey.hash w x.1)
  | _, _, .nil => rfl
  | _, _, .cons _ e _ _ _ f => by
    rw [List.map_cons, List.map_cons, f.hashes w, e]
    rfl
theorem RepK.tups {pins : List (Addr × Obj)} {σ : St} {H F : Hp} {s : Shared} (I : Inv X pins σ H s) (h : Same F H) : ∀ {xs : List (NestedKey × Addr × Value)} {kvs : List (D × D)}, RepK X.en F xs kvs → keysOk kvs = true → ∀ x ∈ xs, s.TypeIs (.ref x.2.1) "tuple"
  | _, _, .nil, _, x, hx => by cases hx
  | _, _, .cons (kd := kd) a _ _ _ _ f, hk, x, hx => by
    unfold keysOk at hk
    rw [List.all_cons, Bool.and_eq_true] at hk
    rcases List.mem_cons.mp hx with rfl | hx
    · cases a with
      | tup hs hr =>
        obtain ⟨its, _, ⟨o, ho, hc, _⟩, _⟩ := I.tuple (SqT_mono h hs)
        exact ⟨o, ho, hc⟩
      | _ => cases hk.1
    · exact f.tups I h hk.2 x hx
theorem cr_dcopy (hu : X.A.units + 64 < cLine) : CallR X (.type "dict") (rDcopy X.en) := by
  intro pins s σ H vs us Q I r h
  obtain ⟨d, o, xs, kvs, F, rfl, hd, hm, ob, hs, rk, hk, ap, q⟩ := h
  rw [Vals.ref1 r]
  obtain ⟨_, dm⟩ := dict_at I hs hd ob rk
  have hr : (nestedKind X.prog X.w).room X.A.in1.in1 := by
    show X.A.in1.in1.units + 8 < cLine
    have : X.A.in1.in1.units = X.A.units + 2 := rfl
    omega
  have hap : (xs.map fun x => (nestedKind X.prog X.w).hash x.1).Nodup := by
    have h1 := ap X.w
    rw [rk.hashes X.w] at h1
    have e : (xs.map fun x => some (NestedKey.hash X.w x.1)) = (xs.map fun x => NestedKey.hash X.w x.1).map some := by rw [List.map_map]; rfl
    rw [e] at h1
    exact List.Pairwise.of_map some (fun a b hab e => hab (by rw [e])) h1
  refine call_dictK hr hm dm (rk.tups I hs hk) hap ob.sz fun h' hd' hk' => ?_
  obtain ⟨o', hg, ob'⟩ := dobj_of (w := X.w) hd' ob.sz
  exact ⟨.ref s.heap.objs.size, _, I.laid (a := s.heap.objs.size) (o := dobj s.heap.objs.size o') (t' := s.toks) hk' (Nat.le_refl _) (dobj_ok hg), rfl, q _ o' (I.hok.fresh (Nat.le_refl _)) (big_ne I (Nat.le_refl _)) ob'⟩
theorem sf_dcopy {e : Expr} {fa : M Bv} {p pos : Pos} (hu : X.A.units + 64 < cLine) (hgl : Gl X "dict") (hm : X.mg "dict" = none) (ha : SB X W e fa)
    (hs : starEach [e] X.env = (false, eval e X.env) :: starEach [] X.env := by rfl) (hpl : (backTo pos (starEach [] X.env)).any (·.1) = false := by rfl) :
    SF X W (.Call (.Name "dict" p) [e] [] pos) (dcopyF fa) := by
  refine (pe_callTy (cr_dcopy hu) hgl hm (by rfl) (pa_cons ha pa_nil hs) (by decide) (by decide) hs hpl).weak ?_
  rintro σ H Q ⟨G, F, ρ, s, q⟩
  refine ⟨G, F, ρ, s, (RP.bind q).mono fun b ρ1 F1 H1 s1 f1 ⟨_, _, h1⟩ v r1 => ?_⟩
  cases e1 : dictB b ρ1 with
  | none => rw [e1] at h1; exact h1.elim
  | some kvs =>
    rw [e1] at h1
    dsimp only at h1
    by_cases ap : apartB kvs = true
    · rw [if_pos ap] at h1
      obtain ⟨g1, g2, g3⟩ := dictB_some e1
      obtain ⟨d, o, xs, rfl, hd, ob, r⟩ := (s1.rd r1 (Same.refl _) g1).dictHO s1.bs.fh g2
      exact ⟨d, o, xs, kvs, F1, rfl, hd.1, hd.2.1, ob, s1.bs.fh, r, g2, apartB_iff.mp ap, fun p o' hp hm' ob' => RP.pure h1 s1 (.ref p) _ (s1.pushD hp hm' ob' r)⟩
    · rw [if_neg ap] at h1; exact h1.elim
def pairOf : D → Option (NestedKey × D × D)
  | .tuple [k, v] => (keyOf k).map fun kk => (kk, k, v)
  | _ => none
theorem pairOf_some {d : D} {t : NestedKey × D × D} (h : pairOf d = some t) : d = .tuple [t.2.1, t.2.2] ∧ keyOf t.2.1 = some t.1 := by
  unfold pairOf at h
  split at h
  · obtain ⟨kk, e, rfl⟩ := Option.map_eq_some_iff.mp h
    exact ⟨rfl, e⟩
  · cases h
def mkPairs : List D → List (D × D) → Option (List (D × D))
  | [], acc => some acc
  | d :: ds, acc => (pairOf d).bind fun t => mkPairs ds (putK acc t.1 t.2.1 t.2.2)
def dpairsF (fa : M Bv) : M Sl := fa.bind fun b ρ => match rdB b ρ with
  | some (.list ds) => match mkPairs ds [] with
    | some kvs => .ok (.od kvs) ρ
    | none => .stuck
  | _ => .stuck
/-- the pairs as they lie -/
inductive PairsLie (N : En) (F : Hp) (P : Program) (h : Heap) : List V → List D → List Addr → List (NestedKey × Addr × Value) → Prop
  | nil : PairsLie N F P h [] [] [] []
  | cons {us ds Ts ps T k b u v kd vd} : h.IsTuple T #[.ref b, u] → (nestedKind P N.w).is h k b → Rep N F (.ref b) kd → nk kd = some k → k.depth ≤ 8 → keyOf kd = some k → RelV v u → Rep N F v vd → PairsLie N F P h us ds Ts ps →
      PairsLie N F P h (.ref T :: us) (.tuple [kd, vd] :: ds) (T :: Ts) ((k, b, u) :: ps)
theorem pairs_lie {pins : List (Addr × Obj)} {σ : St} {H F : Hp} {s : Shared} (I : Inv X pins σ H s) (h : Same F H) : ∀ {us : List V} {ds : List D} {acc kvs : List (D × D)}, Reps X.en F us ds → mkPairs ds acc = some kvs → ∃ Ts ps, PairsLie X.en F X.prog s.heap us ds Ts ps
  | _, _, acc, kvs, .nil, _ => ⟨[], [], .nil⟩
  | u :: us, d :: ds, acc, kvs, .cons r rs, e => by
    rw [mkPairs] at e
    obtain ⟨⟨kk, kd, vd⟩, e1, e3⟩ := Option.bind_eq_some_iff.mp e
    obtain ⟨e2, hk⟩ := pairOf_some e1
    subst e2
    obtain ⟨Ts, ps, l⟩ := pairs_lie I h rs e3
    cases r with
    | tup hs hr =>
      cases hr with
      | cons r1 r2 =>
        cases r2 with
        | cons r2 r3 =>
          cases r3
          obtain ⟨its, rv, ht, _⟩ := I.tuple (SqT_mono h hs)
          cases rv with
          | cons q1 q2 =>
            cases q2 with
            | cons q2 q3 =>
              cases q3
              obtain ⟨b, rfl, rfl, ka, rk⟩ := BRep.key I h (.va r1) q1 hk
              obtain ⟨_, ek, hz⟩ := keyOf_eq hk
              exact ⟨_, _, .cons ht ka rk ek hz hk q2 r2 l⟩
theorem PairsLie.rep {F : Hp} {P : Program} {h : Heap} : ∀ {us : List V} {ds : List D} {Ts : List Addr} {ps : List (NestedKey × Addr × Value)} {xs : List (NestedKey × Addr × Value)} {acc kvs : List (D × D)}, PairsLie N F P h us ds Ts ps → RepK N F xs acc → mkPairs ds acc = some kvs → RepK N F (PySem.storedAllH xs ps) kvs
  | _, _, _, _, xs, acc, kvs, .nil, r, e => by
    rw [mkPairs] at e
    cases e
    exact r
  | _, _, _, _, xs, acc, kvs, .cons (kd := kd) (vd := vd) a1 a2 a3 a4 a5 a6 a7 a8 l, r, e => by
    rw [mkPairs] at e
    have e1 : pairOf (.tuple [kd, vd]) = (keyOf kd).map fun kk => (kk, kd, vd) := rfl
    rw [e1, a6] at e
    exact l.rep (r.put a3 a4 a5 a7 a8) e
theorem PairsLie.len {F : Hp} {P : Program} {h : Heap} : ∀ {us : List V} {ds : List D} {Ts : List Addr} {ps : List (NestedKey × Addr × Value)}, PairsLie N F P h us ds Ts ps → us = Ts.map V.ref ∧ ps.length = Ts.length ∧ ds.length = Ts.length ∧ (∀ (j : Nat) (T : Addr) (x : NestedKey × Addr × Value), Ts[j]? = some T → ps[j]? = some x → h.IsTuple T #[.ref x.2.1, x.2.2]) ∧ ∀ x ∈ ps, (nestedKind P N.w).is h x.1 x.2.1
  | _, _, _, _, .nil => ⟨rfl, rfl, rfl, fun j T x h1 => by simp at h1, fun x hx => by cases hx⟩
  | _, _, _, _, .cons a1 a2 a3 a4 a5 a6 a7 a8 l => by
    obtain ⟨h1, h2, h3, h4, h5⟩ := l.len
    refine ⟨by rw [h1]; rfl, by simp [h2], by simp [h3], fun j T x e1 e2 => ?_, fun x hx => ?_⟩
    · cases j with
      | zero => simp at e1 e2; subst e1 e2; exact a1
      | succ j => exact h4 j T x (by simpa using e1) (by simpa using e2)
    · rcases List.mem_cons.mp hx with rfl | hx
      · exact a2
      · exact h5 x hx
def rDpairs (N : En) : List V → Hp → VK → Prop := fun vs H Q => ∃ (a : Addr) (us : List V) (ds : List D) (kvs : List (D × D)) (F : Hp), vs = [V.ref a] ∧ H a = some (.lst us) ∧ Same F H ∧ Reps N F us ds ∧ mkPairs ds [] = some kvs ∧
  ∀ p o' xs, H p = none → (p == sysModules) = false → DObj N.w o' xs → RepK N F xs kvs → Q (.ref p) (upd H p (dobj p o'))
theorem vals_refs {Ts : List Addr} : ∀ {us : List Value}, Vals (Ts.map V.ref) us → us = Ts.map Value.ref := by
  induction Ts with
  | nil => intro us r; cases r; rfl
  | cons T Ts ih =>
    intro us r
    cases r with
    | cons a b =>
      rw [ih b]
      cases a
      rfl
theorem cr_dpairs (hc : X.calm = true) (hu : X.A.units + 64 < cLine) : CallR X (.type "dict") (rDpairs X.en) := by
  intro pins s σ H vs us0 Q I r h
  obtain ⟨a, us, ds, kvs, F, rfl, ha, hs, rs, em, q⟩ := h
  rw [Vals.ref1 r]
  obtain ⟨Ts, ps, l⟩ := pairs_lie I hs rs em
  have rep := l.rep (xs := []) .nil em
  obtain ⟨e1, e2, e3, e4, e5⟩ := l.len
  subst e1
  obtain ⟨hz, its, n, rv, hl, hg⟩ := I.lstM ha
  have ei := vals_refs rv
  subst ei
  have hr : (nestedKind X.prog X.w).room X.A.in1.in1 := by
    show X.A.in1.in1.units + 8 < cLine
    have : X.A.in1.in1.units = X.A.units + 2 := rfl
    omega
  have hlen : (ps.map fun x => (Value.ref x.2.1, x.2.2)).length = ps.length := by simp
  have ok : PySem.PlainSeq "list" s.heap a (Ts.map Value.ref).toArray ∧ PySem.PairItems s.heap (Ts.map Value.ref).toArray (fun j => Ts.getD j 0) (ps.map fun x => (Value.ref x.2.1, x.2.2)) := by
    refine ⟨⟨_, n, hg, rfl, rfl, rfl⟩, by simp [e2], fun j k v hj => ?_⟩
    rw [List.getElem?_map] at hj
    obtain ⟨x, hx, e⟩ := Option.map_eq_some_iff.mp hj
    cases e
    have hjT : j < Ts.length := by rw [← e2]; exact (List.getElem?_eq_some_iff.mp hx).1
    have hT : Ts[j]? = some Ts[j] := List.getElem?_eq_getElem hjT
    have hd : Ts.getD j 0 = Ts[j] := by rw [List.getD_eq_getElem?_getD, hT]; rfl
    refine ⟨by simp [hjT, hd], .inl ?_⟩
    show s.heap.IsTuple (Ts.getD j 0) _
    rw [hd]
    exact e4 j _ x hT hx
  refine PySem.call_dict_pairsH (knd := nestedKind X.prog X.w) (ps := ps) (PySem.PairArg.list a (Ts.map Value.ref).toArray (fun j => Ts.getD j 0) (ps.map fun x => (Value.ref x.2.1, x.2.2))) (I.ok.hd hc) hr ok ⟨hlen.symm, fun i key v hrel => ?_⟩ (fun h' hk x hx => ?_) (by rw [hlen, e2]; simpa using hz) fun h' tk hd hk => ?_
  · have hrel : (ps.map fun x => (Value.ref x.2.1, x.2.2))[i]? = some (key, v) := hrel
    rw [List.getElem?_map] at hrel
    obtain ⟨x, hx, e⟩ := Option.map_eq_some_iff.mp hrel
    cases e
    exact ⟨x.1, x.2.1, hx, rfl⟩
  · obtain ⟨h1, h2⟩ := e5 x hx
    refine ⟨NestedIs.at (fun b ob vs n hb _ => hk b ob (Nat.ne_of_lt (Heap.lt_size hb)) (by simp) hb) _ _ h1, h2⟩
  · have hz2 : (PySem.storedAllH [] ps).length ≤ sizeLine := by
      have := PySem.storedAllH_length ps []
      have h3 : ps.length ≤ sizeLine := by rw [e2]; simpa using hz
      simp at this
      omega
    obtain ⟨o', hg', ob'⟩ := dobj_of (w := X.w) hd hz2
    exact ⟨.ref s.heap.objs.size, _, I.laid (a := s.heap.objs.size) (o := dobj s.heap.objs.size o') (t' := tk) (fun b o e => hk b o (by simp) e) (Nat.le_refl _) (dobj_ok hg'), rfl, q _ o' _ (I.hok.fresh (Nat.le_refl _)) (big_ne I (Nat.le_refl _)) ob' rep⟩
theorem sf_dpairs {e : Expr} {fa : M Bv} {p pos : Pos} (hc : X.calm = true) (hu : X.A.units + 64 < cLine) (hgl : Gl X "dict") (hm : X.mg "dict" = none) (ha : SB X W e fa)
    (hs : starEach [e] X.env = (false, eval e X.env) :: starEach [] X.env := by rfl) (hpl : (backTo pos (starEach [] X.env)).any (·.1) = false := by rfl) :
    SF X W (.Call (.Name "dict" p) [e] [] pos) (dpairsF fa) := by
  refine (pe_callTy (cr_dpairs hc hu) hgl hm (by rfl) (pa_cons ha pa_nil hs) (by decide) (by decide) hs hpl).weak ?_
  rintro σ H Q ⟨G, F, ρ, s, q⟩
  refine ⟨G, F, ρ, s, (RP.bind q).mono fun b ρ1 F1 H1 s1 f1 ⟨_, _, h1⟩ v r1 => ?_⟩
  split at h1
  · rename_i ds e1
    split at h1
    · rename_i kvs e2
      obtain ⟨a, us, rfl, ha, rs⟩ := (s1.rd r1 (Same.refl _) e1).lst s1.bs.fh
      exact ⟨a, us, ds, kvs, F1, rfl, ha, s1.bs.fh, rs, e2, fun p o' xs hp hm' ob' rk => RP.pure h1 s1 (.ref p) _ (s1.pushD hp hm' ob' rk)⟩
    · exact h1.elim
  · exact h1.elim
end
end L2.Sc
set_option Elab.async false
set_option linter.all false
set_option maxRecDepth 100000
set_option maxHeartbeats 2000000
namespace L2.Sc
open PySem PySem.Spec PyProof.Rows

theorem _root_.L2.Room.units65 {k : Nat} {A : Around} (r : Room k A) : A.units + 65 < cLine := by have := r.un; omega
/-- what the head tells of an own exception class without own __init__ -/
structure ExcF (K : PySem.W.Frag) (mg : Str → Option Value) (x : Str) (C : Addr) : Prop where
  gl : mg x = some (.ref C)
  ex : PySem.W.excIn K C He.veBase "ValueError.__new__" = true
  kp : PySem.W.keepIn K (.ref C) = true
  sub : PySem.W.subIn K (.ref C) (.type "BaseException") = some true
  ty : PySem.W.typeIn K (.ref C) = some (.type "type")
section
variable {X : Cx} {W : WX}
/-- X() -/
theorem pmk_own0 {C : Addr} {x : Str} {p pos : Pos} (F : ExcF X.K X.mg x C) (hg : Gl X x) (hdb : (x == ("__debug__" : Str)) = false := by decide) :
    PMk X (.Call (.Name x p) [] [] pos) (fun _ H Q => Q (.ref C) none H) := by
  intro pins s σ H Q I h
  refine wpAny_Call_Name_kw (ld_glob I hg F.gl ?_ hdb)
  refine PySem.W.callWith_K0 (first := []) I.kIn F.kp ?_
  show wpAny _ _ (call (.ref C) []) _ _ _
  obtain ⟨bm, N, nm, qn, bs, hdct, sn, sub, ab, col, dd, k0, k1, k2, k3, k5, mN, hC, hN, hni, T⟩ := exc_obj I.kIn F.ex
  refine wpAny_call_exc_subT PySem.F.excBase_ValueError T hC hN hni (fun h' e hm => ?_) (Nat.zero_le _)
  exact mk_of I hm (raises_own F.sub F.ty) h (I.hok.gone hm.new)
def raiseS (e : Ex) : MS := fun ρ => .er e ρ
theorem ss_raise0 {x : Str} {p pos pos' : Pos} (hc : X.calm = true) (tk : Takes X W) (F : ∃ C, ExcF X.K X.mg x C) (hg : Gl X x := by rfl) (hdb : (x == ("__debug__" : Str)) = false := by decide) :
    SS X W (.Raise (some (.Call (.Name x p) [] [] pos)) none pos') (raiseS ⟨x, []⟩) := by
  obtain ⟨C, F⟩ := F
  refine (ps_raise hc tk (pmk_own0 F hg hdb)).weak ?_
  rintro σ H D ⟨G, F0, ρ, s, q⟩
  exact q _ _ _ _ _ s (Same.refl _) ⟨⟨C, rfl, F.gl⟩, .inl ⟨rfl, rfl⟩⟩
end

section
variable {N : En} {W W' : WX} {G : Ent} {F F' H : Hp} {σ : St} {ρ : List Sl}
theorem SR.set_any (s : SR N G F H σ ρ) (i : Nat) (v : Option V) : SR N G F H (σ.set i v) (ρ.set i .un) := by
  refine s.reix (by simp [s.len]) (fun i => i) (fun _ _ _ _ e => e) fun j w t h1 h2 => ?_
  by_cases hj : i = j
  · subst hj
    rw [List.getElem?_set] at h2
    simp only [if_true] at h2
    split at h2
    · cases h2; exact .inl rfl
    · cases h2
  · rw [List.getElem?_set_ne hj] at h1 h2
    exact .inr (.inl ⟨h1, h2⟩)
/-- behind a suite: the clause's name is gone -/
def Fl.uns (i : Nat) : Fl → Fl
  | .nx ρ => .nx (ρ.set i .un)
  | .rt d ρ => .rt d ρ
  | .bk ρ => .bk (ρ.set i .un)
  | .ct ρ => .ct (ρ.set i .un)
  | _ => .stuck
def tryS (i : Nat) (names : List Str) (b : MS) (h : Ex → MS) : MS := fun ρ => match b ρ with
  | .er e ρ1 => if e.cls ∈ names ∧ i < ρ1.length then (h e (ρ1.set i .un)).uns i else .stuck
  | r => r
theorem FP.uns {i : Nat} {r : Fl} {D : Ends} (h : FP N W G F (r.uns i) D) :
    FP N W' G F r { nx := fun σ' H' => D.nx (σ'.set i none) H', rt := D.rt, bk := fun σ' H' => D.bk (σ'.set i none) H', ct := fun σ' H' => D.ct (σ'.set i none) H' } := by
  cases r with
  | nx ρ => exact fun F' H' σ' s f => h F' H' _ (s.set_any i none) f
  | rt d ρ => exact fun F' H' σ' v s f r => h F' H' σ' v s f r
  | bk ρ => exact fun F' H' σ' s f => h F' H' _ (s.set_any i none) f
  | ct ρ => exact fun F' H' σ' s f => h F' H' _ (s.set_any i none) f
  | er e ρ => exact h.elim
  | stuck => exact h
end
/-- the classes that a clause takes -/
def TakesAll (K : PySem.W.Frag) (mg : Str → Option Value) (c : Value) (names : List Str) : Prop := ∀ x ∈ names, ∀ C, mg x = some (.ref C) → PySem.W.exmOne K (.ref C) c = some true
/-- a suite's start -/
def tX (N : En) (i a : Nat) (d : Option Addr) (e : Ex) (C : Addr) (f : MS) : TS := fun D σ H => (σ[i]? = some (some (.ref a)) ∧ ∃ F0, Same F0 H ∧ ExR N F0 H (.ref C) d e) ∧ tS N W0 f D σ H
theorem set_self {α : Type} {l : List α} {i : Nat} {v : α} (h : i < l.length) : (l.set i v)[i]? = some v := List.getElem?_set_self h
section
variable {X : Cx} {W : WX} {k : Nat}
theorem ss_try {i : Nat} {n x : Str} {names : List Str} {body suite : List Stmt} {b₀ : Stmt} {np pos pos' : Pos} {b : MS} {h : Ex → MS} (ok : Ok X W k) (T : ∃ c, X.mg x = some (.ref c) ∧ TakesAll X.K X.mg (.ref c) names)
    (hb : ∀ (W : WX) (pn : List (Addr × Obj)) (xe : Value → Shared → Prop), Ok (X.tr pn xe) W k → SSs (X.tr pn xe) W body b)
    (hsu : ∀ (a : Addr) (oe : Obj) (C : Addr) (d : Option Addr) (pn : List (Addr × Obj)) (e : Ex), e.cls ∈ names → X.mg e.cls = some (.ref C) → Zc (.ref C) d oe → (∃ vs, oe.data = .fields vs) → PSs (X.suite a ((a, oe) :: pn)) (b₀ :: suite) (tX X.en i a d e C (h e)))
    (hs : X.stack = X.env :: X.outer := by rfl) (hf : X.env.frame = some X.env.locals := by rfl) (hi : X.N[i]? = some n := by rfl) (hln : X.env.kindOf n = some .local := by rfl) (hx : Gl X x := by rfl) (hdb : (x == ("__debug__" : Str)) = false := by decide) :
    SS X W (.Try body [.ExceptHandler (some (.Name x np)) (some n) (b₀ :: suite) pos'] [] [] pos) (tryS i names b h) := by
  obtain ⟨c, hc, T⟩ := T
  refine (ps_try_as (i := i) (c := .ref c) (tb := fun W => tS X.en W b) (ts := fun a cls d D σ H => ∃ e C, e.cls ∈ names ∧ cls = .ref C ∧ X.mg e.cls = some (.ref C) ∧ tX X.en i a d e C (h e) D σ H) (Wout := W) hs hf ok.nd hi hln ⟨hx, hdb, .inl hc⟩ ok.takes (fun W2 pn xe tk ps => hb W2 pn xe ⟨ok.calm, ok.nd, ok.room, tk, ps⟩) (fun a oe cls d pn hz hv => ⟨fun pins s σ H Q I q => ?_⟩)).weak ?_
  · obtain ⟨e, C, hn, rfl, hm, q⟩ := q
    exact (hsu a oe C d pn e hn hm hz hv).run pins s σ H Q I q
  · rintro σ H D ⟨G, F, ρ, s, q⟩
    refine ⟨G, F, ρ, s, ?_⟩
    unfold tryS at q
    cases e1 : b ρ with
    | nx ρ1 => rw [e1] at q; exact q
    | rt d ρ1 => rw [e1] at q; exact q
    | bk ρ1 => rw [e1] at q; exact q
    | ct ρ1 => rw [e1] at q; exact q
    | stuck => rw [e1] at q; exact q
    | er e ρ1 =>
      rw [e1] at q
      dsimp only at q
      split at q
      · rename_i hm
        intro cls d F' H' σ' s' f' xr
        obtain ⟨⟨C, rfl, hC⟩, xf⟩ := id xr
        refine ⟨true, T _ hm.1 C hC, fun _ a na => ⟨e, C, hm.1, rfl, hC, ⟨?_, F', s'.bs.fh, xr⟩, G, F', ρ1.set i .un, s'.set_any i _, ?_⟩, fun z => nomatch z⟩
        · exact set_self (by rw [s'.len]; exact hm.2)
        · exact FP.uns (FP.later q f')
      · exact q.elim
end

/-- isinstance(e, c), e the exception that the suite holds -/
def rIsX (K : PySem.W.Frag) (D a : Addr) (d : Option Addr) : List V → Hp → VK → Prop := fun xs H Q => ∃ (c : V) (cv : Value) (b : Bool), xs = [.ref a, c] ∧ (∀ u, RelV c u → u = cv) ∧ PySem.W.kitOne K (.ref D) cv = some b ∧ (d = none ∨ ∃ dd fs, d = some dd ∧ H dd = some (.xd fs)) ∧ Q (.bl b) H
theorem call_isX {X : Cx} {a D : Addr} {d : Option Addr} {oe : Obj} {pn : List (Addr × Obj)} (C : ExcC X.K D) (hz : Zc (.ref D) d oe) (hf : ∃ vs, oe.data = .fields vs) : CallR (X.suite a ((a, oe) :: pn)) (.builtin "isinstance") (rIsX X.K D a d) := by
  intro pins s σ H xs us Q I r h
  obtain ⟨c, cv, b, rfl, hcv, e, hd, q⟩ := h
  cases r with
  | cons rx rr =>
    cases rr with
    | cons rt rr =>
      cases rr
      cases rx
      have ec := hcv _ rt
      subst ec
      obtain ⟨hget, _⟩ := I.pin (a, oe) (List.mem_append.mpr (.inl List.mem_cons_self))
      obtain ⟨vs, hv⟩ := hf
      have hcl : (PySem.W.clsIn X.K D).isSome = true := by
        have h := C.hd
        unfold PySem.W.hasDictIn at h
        cases q : PySem.W.clsIn X.K D with
        | none => rw [q] at h; cases h
        | some _ => rfl
      have J : ∃ od, PySem.W.InstAt s.heap a oe D od := by
        obtain ⟨oc, od, oda, osl⟩ := oe
        obtain ⟨h1, h2⟩ := hz
        dsimp only at h1 h2 hv
        subst h1 h2 hv
        rcases hd with hd | ⟨dd, fs, hd, hx⟩
        · subst hd
          exact ⟨none, hget, rfl, rfl, trivial⟩
        · subst hd
          have hk : ObjOk X.prog X.w H s.heap dd (.xd fs) := I.hok dd _ hx
          obtain ⟨mA, ⟨o, es, ep, ho, hr⟩, _⟩ := hk
          exact ⟨some o, hget, rfl, rfl, ho⟩
      obtain ⟨od, J⟩ := J
      exact PySem.W.kia_one (PySem.W.kitx_exc (od := od) hcl C.hg C.hk C.hs C.ha C.hn C.ht C.hm) I.kIn J e (fun z => nomatch z) fun tk => ⟨.bl b, H, I.kept (t' := tk) fun _ _ z => z, rfl, q⟩
/-- what isinstance(e, y) says of the classes -/
def IsAll (K : PySem.W.Frag) (mg : Str → Option Value) (y : Str) (names : List Str) : Prop := ∃ D, mg y = some (.ref D) ∧ ∀ x ∈ names, ∀ C, mg x = some (.ref C) → ExcC K C ∧ PySem.W.kitOne K (.ref C) (.ref D) = some (decide (x = y))
/-- an expression of a suite -/
def tXE (N : En) (i a : Nat) (d : Option Addr) (e : Ex) (C : Addr) (f : M D) : TE := fun σ H Q => (σ[i]? = some (some (.ref a)) ∧ ∃ F0, Same F0 H ∧ ExR N F0 H (.ref C) d e) ∧ tE N W0 f σ H Q
section
variable {X : Cx} {i : Nat} {a C : Addr} {d : Option Addr} {oe : Obj} {pn : List (Addr × Obj)} {e : Ex} {pos : Pos}
theorem sx_se {ex : Expr} {f : M D} (h : SE (X.suite a ((a, oe) :: pn)) W0 ex f) : PE (X.suite a ((a, oe) :: pn)) ex (tXE X.en i a d e C f) := h.weak fun _ _ _ q => q.2
theorem sx_isi {x n y : Str} {names : List Str} {p p1 p2 : Pos} (T : IsAll X.K X.mg y names) (he : e.cls ∈ names) (hC : X.mg e.cls = some (.ref C)) (hz : Zc (.ref C) d oe) (hf : ∃ vs, oe.data = .fields vs)
    (hgl : Gl X x) (hm : X.mg x = none) (hv : bootBuiltins x = some (.builtin "isinstance"))
    (hi : X.N[i]? = some n := by rfl) (hgy : Gl X y := by rfl) (hvi : Vis X.env.scope n := by first | exact Or.inl rfl | exact Or.inr (Or.inl rfl) | exact Or.inr (Or.inr rfl)) (hn : x ≠ "__name__" := by decide) (hdb : (x == ("__debug__" : Str)) = false := by decide) (hdy : (y == ("__debug__" : Str)) = false := by decide)
    (hdn : (n == ("__debug__" : Str)) = false := by decide) (hcn : (n == ("__classdict__" : Str)) = false := by decide) :
    PE (X.suite a ((a, oe) :: pn)) (.Call (.Name x p) [.Name n p1, .Name y p2] [] pos) (tXE X.en i a d e C (cE (.bool (decide (e.cls = y))))) := by
  obtain ⟨D, hy, T⟩ := T
  obtain ⟨c, hk⟩ := T _ he C hC
  refine (pe_callB (call_isX c hz hf) hgl hm hv (pa_cons (pe_var (X := X.suite a ((a, oe) :: pn)) hi hvi hdn hcn) (pa_cons (pe_glob (X := X.suite a ((a, oe) :: pn)) (v := .ref D) hgy hy rfl hdy) pa_nil)) hn hdb).weak ?_
  rintro σ H Q ⟨⟨hσ, F0, _, xr⟩, G, F, ρ, s, q⟩
  refine ⟨_, hσ, .ref D, .ref D, _, rfl, fun u r => r, hk, ?_, q F H s (Same.refl _) _ (.bl _)⟩
  rcases xr.2 with ⟨_, hd⟩ | ⟨dd, vfs, hd, hh, _⟩
  · exact .inl hd
  · exact .inr ⟨dd, vfs, hd, hh⟩
theorem sx_and {ea eb : Expr} {rest : List Expr} {fb : M D} {b : Bool} (ha : PE (X.suite a ((a, oe) :: pn)) ea (tXE X.en i a d e C (cE (.bool b)))) (hb : SE (X.suite a ((a, oe) :: pn)) W0 (.BoolOp .And (eb :: rest) pos) fb) :
    PE (X.suite a ((a, oe) :: pn)) (.BoolOp .And (ea :: eb :: rest) pos) (tXE X.en i a d e C (andV (cE (.bool b)) fb)) := by
  refine (pe_and ha hb).weak ?_
  rintro σ H Q ⟨hx, G, F, ρ, s, q⟩
  refine ⟨hx, G, F, ρ, s, fun F1 H1 s1 f1 v r => ?_⟩
  cases r
  refine ⟨b, rfl, ?_⟩
  cases b with
  | true => rw [if_pos rfl]; exact ⟨G, F1, ρ, s1, RP.later (show RP X.en W0 G F σ (fb ρ) _ from q) f1⟩
  | false =>
    rw [if_neg (by decide)]
    have e1 : andV (cE (.bool false)) fb ρ = .ok (.bool false) ρ := rfl
    rw [e1] at q
    exact q F1 H1 s1 f1 _ (.bl false)
theorem sx_ret {ex : Expr} {f : M D} (h : PE (X.suite a ((a, oe) :: pn)) ex (tXE X.en i a d e C f)) : PSs (X.suite a ((a, oe) :: pn)) [.Return (some ex) pos] (tX X.en i a d e C (retS f)) := by
  refine (pss_one (ps_ret h)).weak ?_
  rintro σ H D ⟨hx, G, F, ρ, s, q⟩
  exact ⟨hx, G, F, ρ, s, (FP.of q).mono fun d ρ1 F1 H1 s1 f1 h1 v r => h1 F1 H1 σ v s1 (Same.refl _) r⟩
end
end L2.Sc
set_option Elab.async false
set_option linter.all false
set_option maxRecDepth 100000
set_option maxHeartbeats 2000000
namespace L2.Sc
open PySem PySem.Spec PyProof.Rows He
/-- isinstance may ask instances of the class at D -/
def excCB (K : PySem.W.Frag) (D : Addr) : Bool :=
  (decide (PySem.W.findIn K (.ref D) "__getattribute__" = some (some (.builtin "BaseException.__getattribute__"))) && decide (PySem.W.findIn K (.ref D) "__getattr__" = some none)) &&
  ((decide (PySem.W.subIn K (.ref D) (.type "BaseException") = some true) && PySem.W.hasDictIn K D) &&
  ((decide (PySem.W.findIn K (.ref D) "__class__" = some (some (.builtin "object.__class__"))) && decide (PySem.W.specialIn K (.builtin "object.__class__") "__get__" = some (some (.builtin "getset_descriptor.__get__")))) &&
  (decide (PySem.W.takesIn K (.builtin "object.__class__") = some true) && decide (PySem.W.mroIn K D (.type "object") = some true))))
theorem excCB_ok {K : PySem.W.Frag} {D : Addr} (h : excCB K D = true) : ExcC K D := by
  obtain ⟨h1, h⟩ := ba h
  obtain ⟨h2, h⟩ := ba h
  obtain ⟨h3, h4⟩ := ba h
  obtain ⟨a1, a2⟩ := ba h1
  obtain ⟨a3, a4⟩ := ba h2
  obtain ⟨a5, a6⟩ := ba h3
  obtain ⟨a7, a8⟩ := ba h4
  exact ⟨of_decide_eq_true a1, of_decide_eq_true a2, of_decide_eq_true a3, a4, of_decide_eq_true a5, of_decide_eq_true a6, of_decide_eq_true a7, of_decide_eq_true a8⟩
/-- what is asked of the classes, names: those that may be raised; bases: those that a clause names; asked: those that isinstance names -/
def exB (names bases asked : List Str) (K : PySem.W.Frag) : Bool := (names.all fun x => excCB K (ga K x)) && ((bases.all fun b => names.all fun x => decide (PySem.W.exmOne K (.ref (ga K x)) (.ref (ga K b)) = some true)) &&
  asked.all fun y => names.all fun x => decide (PySem.W.kitOne K (.ref (ga K x)) (.ref (ga K y)) = some (decide (x = y))))
section
variable {names bases asked : List Str} {K : PySem.W.Frag} {h : Heap} {mg : Str → Option Value}
theorem exB_takes (g : ∀ x ∈ names, mg x = some (.ref (ga K x))) (c : exB names bases asked K = true) {b : Str} (hb : b ∈ bases) (gb : mg b = some (.ref (ga K b))) : ∃ c, mg b = some (.ref c) ∧ TakesAll K mg (.ref c) names := by
  obtain ⟨_, c⟩ := ba c
  obtain ⟨c, _⟩ := ba c
  refine ⟨_, gb, fun x hx C hC => ?_⟩
  have e := (g x hx).symm.trans hC
  cases e
  exact of_decide_eq_true (List.all_eq_true.mp (List.all_eq_true.mp c b hb) x hx)
theorem exB_is (g : ∀ x ∈ names, mg x = some (.ref (ga K x))) (c : exB names bases asked K = true) {y : Str} (hy : y ∈ asked) (gy : mg y = some (.ref (ga K y))) : IsAll K mg y names := by
  obtain ⟨c1, c⟩ := ba c
  obtain ⟨_, c2⟩ := ba c
  refine ⟨_, gy, fun x hx C hC => ?_⟩
  have e := (g x hx).symm.trans hC
  cases e
  exact ⟨excCB_ok (List.all_eq_true.mp c1 x hx), of_decide_eq_true (List.all_eq_true.mp (List.all_eq_true.mp c2 y hy) x hx)⟩
theorem exF_ok {x : Str} (g : mg x = some (.ref (ga K x))) (c : (Fa.exc x).ok K = true) : ∃ C, ExcF K mg x C := by
  obtain ⟨h1, h2, h3, h4⟩ := exc_ok c
  exact ⟨_, g, h1, h2, h3, h4⟩
end
def obsE (fa : List Fa) (fn : List DefD) (ex : PySem.W.Frag → Bool) (K : PySem.W.Frag) : AlD × Bool := (obsD fa fn K, ex K)
def obsEG (n : Nat) (fa : List Fa) (fn : List DefD) (ex : PySem.W.Frag → Bool) (g : Addr → Option Obj) : AlD × Bool := obsE fa fn ex (frG g (asD g n))
def hookE (n : Nat) (fa : List Fa) (fn : List DefD) (ex : PySem.W.Frag → Bool) : PySem.W.Hook where
  α := AlD × Bool
  obs := fun s => obsEG n fa fn ex s.heap.get?
  val := fun _ => (valD fn, true)
  says := fun _ h => ∃ K : PySem.W.Frag, K.In h ∧ SaysD fa fn K ∧ ex K = true
  of := fun _ _ e => ⟨_, frG_in, congrArg (fun z : AlD × Bool => z.1) e, congrArg (fun z : AlD × Bool => z.2) e⟩
  keeps := fun _ _ _ ⟨K, hK, c⟩ k => ⟨K, PySem.W.Frag.In.keeps hK k, c⟩
theorem obsEG_eq {n : Nat} {fa : List Fa} {fn : List DefD} {ex : PySem.W.Frag → Bool} {g : Addr → Option Obj} {s : Shared} (h : ∀ a, g a = s.heap.get? a) : obsEG n fa fn ex g = (hookE n fa fn ex).obs s := by
  have e : g = s.heap.get? := funext h
  rw [e] <;> rfl
end L2.Sc
set_option Elab.async false
set_option linter.all false
set_option maxRecDepth 100000
set_option maxHeartbeats 0
namespace ScH
open PySem PySem.Spec PyProof.Rows L2
def top (i : Nat) : Stmt := PySem.Challenge.pw_scatterbooks_k00_whole_steps_and_walks.main.body.getD i (.Pass ⟨0, 0, 0, 0⟩)

abbrev s_is_in : Stmt := top 7
abbrev s_is_row : Stmt := top 12
abbrev s_is_rule : Stmt := top 13
abbrev s_need_book : Stmt := top 14
abbrev s_need_word : Stmt := top 15
abbrev s_spots_of : Stmt := top 16
abbrev s_steps_in : Stmt := top 17
abbrev s_need_both : Stmt := top 21
abbrev s_steps : Stmt := top 22
abbrev s_come_in : Stmt := top 23
abbrev s_all_come : Stmt := top 24
abbrev s_rests_in : Stmt := top 25
abbrev s_walked_rests : Stmt := top 26
abbrev s_order_in : Stmt := top 27
abbrev s_goes_on : Stmt := top 28
abbrev s_longest : Stmt := top 29
abbrev s__law_taken : Stmt := top 31
abbrev s__law_order : Stmt := top 32
abbrev s__law_letters : Stmt := top 33
abbrev s__law_book : Stmt := top 34
abbrev s__law_alike : Stmt := top 35
abbrev s__law_steps : Stmt := top 36
abbrev s__law_walk : Stmt := top 37
abbrev s__law_layers : Stmt := top 38
abbrev s__law_last_ones : Stmt := top 39
abbrev s_law : Stmt := top 40
def d_is_in : He.DefD := ⟨("is_in", none), "is_in", "is_in", defArgs s_is_in, defBody s_is_in, defScope s_is_in, [], []⟩
def d_is_row : He.DefD := ⟨("is_row", none), "is_row", "is_row", defArgs s_is_row, defBody s_is_row, defScope s_is_row, [], []⟩
def d_is_rule : He.DefD := ⟨("is_rule", none), "is_rule", "is_rule", defArgs s_is_rule, defBody s_is_rule, defScope s_is_rule, [], []⟩
def d_need_book : He.DefD := ⟨("need_book", none), "need_book", "need_book", defArgs s_need_book, defBody s_need_book, defScope s_need_book, [], []⟩
def d_need_word : He.DefD := ⟨("need_word", none), "need_word", "need_word", defArgs s_need_word, defBody s_need_word, defScope s_need_word, [], []⟩
def d_spots_of : He.DefD := ⟨("spots_of", none), "spots_of", "spots_of", defArgs s_spots_of, defBody s_spots_of, defScope s_spots_of, [], []⟩
def d_steps_in : He.DefD := ⟨("steps_in", none), "steps_in", "steps_in", defArgs s_steps_in, defBody s_steps_in, defScope s_steps_in, [], []⟩
def d_need_both : He.DefD := ⟨("need_both", none), "need_both", "need_both", defArgs s_need_both, defBody s_need_both, defScope s_need_both, [], []⟩
def d_steps : He.DefD := ⟨("steps", none), "steps", "steps", defArgs s_steps, defBody s_steps, defScope s_steps, [], []⟩
def d_come_in : He.DefD := ⟨("come_in", none), "come_in", "come_in", defArgs s_come_in, defBody s_come_in, defScope s_come_in, [], []⟩
def d_all_come : He.DefD := ⟨("all_come", none), "all_come", "all_come", defArgs s_all_come, defBody s_all_come, defScope s_all_come, [], []⟩
def d_rests_in : He.DefD := ⟨("rests_in", none), "rests_in", "rests_in", defArgs s_rests_in, defBody s_rests_in, defScope s_rests_in, [], []⟩
def d_walked_rests : He.DefD := ⟨("walked_rests", none), "walked_rests", "walked_rests", defArgs s_walked_rests, defBody s_walked_rests, defScope s_walked_rests, [], []⟩
def d_order_in : He.DefD := ⟨("order_in", none), "order_in", "order_in", defArgs s_order_in, defBody s_order_in, defScope s_order_in, [], []⟩
def d_goes_on : He.DefD := ⟨("goes_on", none), "goes_on", "goes_on", defArgs s_goes_on, defBody s_goes_on, defScope s_goes_on, [], []⟩
def d_longest : He.DefD := ⟨("longest", none), "longest", "longest", defArgs s_longest, defBody s_longest, defScope s_longest, [], []⟩
def d__law_taken : He.DefD := ⟨("_law_taken", none), "_law_taken", "_law_taken", defArgs s__law_taken, defBody s__law_taken, defScope s__law_taken, [], []⟩
def d__law_order : He.DefD := ⟨("_law_order", none), "_law_order", "_law_order", defArgs s__law_order, defBody s__law_order, defScope s__law_order, [], []⟩
def d__law_letters : He.DefD := ⟨("_law_letters", none), "_law_letters", "_law_letters", defArgs s__law_letters, defBody s__law_letters, defScope s__law_letters, [], []⟩
def d__law_book : He.DefD := ⟨("_law_book", none), "_law_book", "_law_book", defArgs s__law_book, defBody s__law_book, defScope s__law_book, [], []⟩
def d__law_alike : He.DefD := ⟨("_law_alike", none), "_law_alike", "_law_alike", defArgs s__law_alike, defBody s__law_alike, defScope s__law_alike, [], []⟩
def d__law_steps : He.DefD := ⟨("_law_steps", none), "_law_steps", "_law_steps", defArgs s__law_steps, defBody s__law_steps, defScope s__law_steps, [], []⟩
def d__law_walk : He.DefD := ⟨("_law_walk", none), "_law_walk", "_law_walk", defArgs s__law_walk, defBody s__law_walk, defScope s__law_walk, [], []⟩
def d__law_layers : He.DefD := ⟨("_law_layers", none), "_law_layers", "_law_layers", defArgs s__law_layers, defBody s__law_layers, defScope s__law_layers, [], []⟩
def d__law_last_ones : He.DefD := ⟨("_law_last_ones", none), "_law_last_ones", "_law_last_ones", defArgs s__law_last_ones, defBody s__law_last_ones, defScope s__law_last_ones, [], []⟩
def d_law : He.DefD := ⟨("law", none), "law", "law", defArgs s_law, defBody s_law, defScope s_law, [], []⟩
def fn : List He.DefD := [d_is_in, d_is_row, d_is_rule, d_need_book, d_need_word, d_spots_of, d_steps_in, d_need_both, d_steps, d_come_in, d_all_come, d_rests_in, d_walked_rests, d_order_in, d_goes_on, d_longest, d__law_taken, d__law_order, d__law_letters, d__law_book, d__law_alike, d__law_steps, d__law_walk, d__law_layers, d__law_last_ones, d_law]
def fa : List He.Fa := [.glo "is_in", .glo "is_row", .glo "is_rule", .glo "need_book", .glo "need_word", .glo "spots_of", .glo "steps_in", .glo "need_both", .glo "steps", .glo "come_in", .glo "all_come", .glo "rests_in", .glo "walked_rests", .glo "order_in", .glo "goes_on", .glo "longest", .glo "_law_taken", .glo "_law_order", .glo "_law_letters", .glo "_law_book", .glo "_law_alike", .glo "_law_steps", .glo "_law_walk", .glo "_law_layers", .glo "_law_last_ones", .glo "law", .int "MOST_LETTERS" 4, .int "MOST_RULES" 12, .int "MOST_LONG" 3, .int "MOST_WORD" 8, .int "MOST_WALKED" 1500, .free "bool", .free "dict", .free "enumerate", .free "int", .free "isinstance", .free "len", .free "list", .free "max", .free "range", .free "sorted", .free "str", .free "sum", .free "tuple", .free "zip", .glo "ScatterError", .glo "BadBook", .glo "BadWord", .glo "NotEnding", .glo "TooMany", .exc "NotEnding"]
abbrev R : PySem.W.OpenRow := PySem.W.OpenLaw.row PySem.Challenge.rw_scatterbooks_k00_whole_steps_and_walks
def loose : List PySem.Str := (["ScatterError", "BadBook", "BadWord", "NotEnding", "TooMany", "is_in", "is_row", "is_rule", "need_book", "need_word", "spots_of", "steps_in"] : List PySem.Str) ++ (["need_both", "steps", "come_in", "all_come", "rests_in", "walked_rests", "order_in", "goes_on", "longest", "_law_taken", "_law_order", "_law_letters"] : List PySem.Str) ++ (["_law_book", "_law_alike", "_law_steps", "_law_walk", "_law_layers", "_law_last_ones", "MOST_LETTERS", "MOST_RULES", "MOST_LONG", "MOST_WORD", "MOST_WALKED"] : List PySem.Str)
def ex : PySem.W.Frag → Bool := L2.Sc.exB (["BadBook", "BadWord", "NotEnding", "TooMany"] : List PySem.Str) (["ScatterError"] : List PySem.Str) (["NotEnding"] : List PySem.Str)
abbrev hk : PySem.W.Hook := L2.Sc.hookE 4 fa fn ex
def ob (s : PySem.W.SharedT) : He.AlD × Bool := L2.Sc.obsEG 4 fa fn ex (HandSHeadRun.getT s)
theorem ob_eq (s : PySem.W.SharedT) : ob s = hk.obs s.abs := L2.Sc.obsEG_eq (HandSHeadRun.getT_eq s)
theorem run (w : World) : HandSHeadRun.RunEq R (PySem.W.view R.prog [40]) hk ob 4000 loose w := by
  intro os
  kernel_rfl
end ScH
set_option Elab.async false
set_option linter.all false
set_option maxRecDepth 100000
set_option maxHeartbeats 0

namespace L2.Sm
open PySem PySem.Spec PyProof.Rows L2.Sc
noncomputable def f_is_in : Fs := runB 0 (retS (andV (isiV (nameB 0) "int") (andV (notV (isiV (nameB 0) "bool")) (chainV (nameB 1) (nameB 0) ((ordB fun a b => !PySem.W.dataLt b a)) (nameB 2) ((ordB fun a b => !PySem.W.dataLt b a))))))

noncomputable def is_row_g1 : TgF := (nameG 2)
noncomputable def is_row_t1 : M Bool := (notT (toT (callS (consA (nameE 2) (consA (cE (.int 0)) (consA (op2 (nameB 1) (bvE (cE (.int 1))) subO) nilA))) f_is_in)))
noncomputable def is_row_e1 : M D := (nameE 2)
noncomputable def f_is_row : Fs := runB 1 (retS (andV (isiV (nameB 0) "tuple") (op2 (bvE (frE (lcF [2] (seqI (nameE 0)) is_row_g1 is_row_t1 is_row_e1))) (bvE (frE (lstF nilA))) (fun a b => (eqB a b).map .bool))))

noncomputable def f_is_rule : Fs := runB 0 (seqS (ifS (orT (notT (toT (isiV (nameB 0) "tuple"))) (orT (op2T (bvE (callE (consB (nameB 0) nilB) lenC)) (bvE (cE (.int 2))) neB) (orT (notT (toT (callS (consA (op2 (nameB 0) (bvE (cE (.int 0))) ixA) (consA (nameE 1) nilA)) f_is_row))) (notT (toT (callS (consA (op2 (nameB 0) (bvE (cE (.int 1))) ixA) (consA (nameE 1) nilA)) f_is_row))))))
  (retS (cE (.bool false)))
  skipS)
  (retS (andV (chainV (bvE (cE (.int 1))) (bvE (callE (consB (bvE (op2 (nameB 0) (bvE (cE (.int 0))) ixA)) nilB) lenC)) ((ordB fun a b => !PySem.W.dataLt b a)) (bvE (cE (.int 3))) ((ordB fun a b => !PySem.W.dataLt b a))) (andV (op2 (bvE (callE (consB (bvE (op2 (nameB 0) (bvE (cE (.int 1))) ixA)) nilB) lenC)) (bvE (callE (consB (bvE (op2 (nameB 0) (bvE (cE (.int 0))) ixA)) nilB) lenC)) (fun a b => (eqB a b).map .bool)) (op2 (bvE (op2 (nameB 0) (bvE (cE (.int 0))) ixA)) (bvE (op2 (nameB 0) (bvE (cE (.int 1))) ixA)) (fun a b => (neB a b).map .bool))))))

noncomputable def need_book_g1 : TgF := (tupG 2 (consG (nameG 1) (consG (nameG 2) nilG)))
noncomputable def need_book_b1 : MS := (ifS (orT (notT (toT (callS (consA (nameE 2) (consA (op2 (nameB 0) (bvE (cE (.int 0))) ixA) nilA)) f_is_rule))) (andT (op2T (nameB 1) (bvE (cE (.int 0))) (ordB fun a b => PySem.W.dataLt b a)) (op2T (nameB 2) (bvE (op2 (bvE (op2 (nameB 0) (bvE (cE (.int 1))) ixA)) (bvE (op2 (nameB 1) (bvE (cE (.int 1))) subO)) ixA)) (ordB fun a b => !PySem.W.dataLt b a))))
  neverS
  skipS)
noncomputable def f_need_book : Fs := runB 2 (seqS (ifS (orT (notT (toT (isiV (nameB 0) "tuple"))) (orT (op2T (bvE (callE (consB (nameB 0) nilB) lenC)) (bvE (cE (.int 2))) neB) (notT (toT (callS (consA (op2 (nameB 0) (bvE (cE (.int 0))) ixA) (consA (cE (.int 1)) (consA (cE (.int 4)) nilA))) f_is_in)))))
  neverS
  skipS)
  (seqS (ifS (orT (notT (toT (isiV (bvE (op2 (nameB 0) (bvE (cE (.int 1))) ixA)) "tuple"))) (op2T (bvE (callE (consB (bvE (op2 (nameB 0) (bvE (cE (.int 1))) ixA)) nilB) lenC)) (bvE (cE (.int 12))) (ordB fun a b => PySem.W.dataLt b a)))
  neverS
  skipS)
  (forS (enumI (op2 (nameB 0) (bvE (cE (.int 1))) ixA)) need_book_g1
  need_book_b1)))

noncomputable def need_word_g1 : TgF := (tupG 2 (consG (nameG 3) (consG (nameG 4) nilG)))
noncomputable def need_word_b1 : MS := (ifS (notT (toT (callS (consA (nameE 4) (consA (cE (.int 0)) (consA (op2 (bvE (op2 (nameB 0) (bvE (cE (.int 0))) ixA)) (bvE (cE (.int 1))) subO) nilA))) f_is_in)))
  neverS
  skipS)
noncomputable def f_need_word : Fs := runB 2 (seqS (ifS (orT (notT (toT (isiV (nameB 1) "tuple"))) (op2T (bvE (callE (consB (nameB 1) nilB) lenC)) (nameB 2) (ordB fun a b => PySem.W.dataLt b a)))
  neverS
  skipS)
  (forS (enumI (nameE 1)) need_word_g1
  need_word_b1))

noncomputable def spots_of_g1 : TgF := (nameG 7)
noncomputable def spots_of_t1 : M Bool := (op2T (bvE (op2 (nameB 1) (nameB 7) ixA)) (nameB 3) eqB)
noncomputable def spots_of_e1 : M D := (op2 (nameB 5) (bvE (tupE (consA (nameE 7) nilA))) addO)
noncomputable def spots_of_g2 : TgF := (nameG 5)
noncomputable def spots_of_b1 : MS := (seqS (setS 6 (ifM (op2T (nameB 5) (bvE (tupE nilA)) neB) (op2 (bvE (op2 (nameB 5) (bvE (op1 (cE (.int 1)) negO)) ixA)) (bvE (cE (.int 1))) addO) (cE (.int 0))))
  (setS 4 (frE (op2F (nameB 4) (bvE (frE (lcF [7] (range2 (nameE 6) (callE (consB (nameB 1) nilB) lenC)) spots_of_g1 spots_of_t1 spots_of_e1))) addL))))
noncomputable def spots_of_g3 : TgF := (nameG 3)
noncomputable def spots_of_b2 : MS := (seqS (setS 4 (frE (lstF nilA)))
  (seqS (forS (seqI (nameE 2)) spots_of_g2
  spots_of_b1)
  (setS 2 (nameE 4))))
noncomputable def f_spots_of : Fs := runB 6 (seqS (setS 2 (frE (lstF (consA (tupE nilA) nilA))))
  (seqS (forS (seqI (nameE 0)) spots_of_g3
  spots_of_b2)
  (retS (nameE 2))))

noncomputable def steps_in_g1 : TgF := (tupG 2 (consG (nameG 7) (consG (nameG 8) nilG)))
noncomputable def steps_in_b1 : MS := (putA 6 (nameE 8) (nameE 7))
noncomputable def steps_in_g2 : TgF := (nameG 5)
noncomputable def steps_in_b2 : MS := (seqS (setF 6 (callF (consB (nameB 1) nilB) listC))
  (seqS (forS (zipI (nameE 5) (nameE 4)) steps_in_g1
  steps_in_b1)
  (putA 2 (cE (.bool true)) (callE (consB (nameB 6) nilB) tupleC))))
noncomputable def steps_in_g3 : TgF := (tupG 2 (consG (nameG 3) (consG (nameG 4) nilG)))
noncomputable def steps_in_b3 : MS := (forS (seqI (callS (consA (nameE 3) (consA (nameE 1) nilA)) f_spots_of)) steps_in_g2
  steps_in_b2)
noncomputable def f_steps_in : Fs := runB 7 (seqS (setF 2 newD)
  (seqS (forS (seqI (op2 (nameB 0) (bvE (cE (.int 1))) ixA)) steps_in_g3
  steps_in_b3)
  (retS (frE (keysSortF (nameB 2))))))

noncomputable def f_need_both : Fs := runB 0 (seqS (dropS (callS (consA (nameE 0) nilA) f_need_book))
  (dropS (callS (consA (nameE 0) (consA (nameE 1) (consA (cE (.int 8)) nilA))) f_need_word)))

noncomputable def f_steps : Fs := runB 0 (seqS (dropS (callS (consA (nameE 0) (consA (nameE 1) nilA)) f_need_both))
  (retS (callE (consB (bvE (callS (consA (nameE 0) (consA (nameE 1) nilA)) f_steps_in)) nilB) tupleC)))

noncomputable def come_in_c1 : M Bool := (op2T (nameB 3) (bvE (frE (lstF nilA))) neB)
noncomputable def come_in_w1 : MS := (seqS (setS 4 (popE 3))
  (ifS (op2T (nameB 4) (nameB 2) notInA)
  (seqS (putA 2 (callS (consA (nameE 0) (consA (nameE 4) nilA)) f_steps_in) (nameE 4))
  (seqS (ifS (op2T (bvE (callE (consB (nameB 2) nilB) lenK)) (bvE (cE (.int 1500))) (ordB fun a b => PySem.W.dataLt b a))
  neverS
  skipS)
  (setF 3 (op2F (nameB 3) (bvE (op2 (nameB 2) (nameB 4) ixA)) addL))))
  skipS))
noncomputable def f_come_in : Fs := runB 3 (seqS (parS [2, 3] (consF newD (consF (lstF (consA (nameE 1) nilA)) nilP)))
  (seqS (whileS come_in_c1
  come_in_w1)
  (retS (nameE 2))))

noncomputable def f_all_come : Fs := runB 0 (seqS (dropS (callS (consA (nameE 0) (consA (nameE 1) nilA)) f_need_both))
  (retS (frE (keysSortF (bvE (callS (consA (nameE 0) (consA (nameE 1) nilA)) f_come_in))))))

noncomputable def rests_in_g1 : TgF := (nameG 3)
noncomputable def rests_in_t1 : M Bool := (op2T (bvE (op2 (nameB 2) (nameB 3) ixA)) (bvE (frE (lstF nilA))) eqB)
noncomputable def rests_in_e1 : M D := (nameE 3)
noncomputable def f_rests_in : Fs := runB 2 (seqS (setS 2 (callS (consA (nameE 0) (consA (nameE 1) nilA)) f_come_in))
  (retS (frE (callF (consB (bvE (frE (lcF [3] (keysI (nameE 2)) rests_in_g1 rests_in_t1 rests_in_e1))) nilB) sortC))))

noncomputable def f_walked_rests : Fs := runB 0 (seqS (dropS (callS (consA (nameE 0) (consA (nameE 1) nilA)) f_need_both))
  (retS (callS (consA (nameE 0) (consA (nameE 1) nilA)) f_rests_in)))

noncomputable def order_in_g1 : TgF := (nameG 5)
noncomputable def order_in_t1 : M Bool := (op2T (nameB 5) (nameB 2) inA)
noncomputable def order_in_e1 : M D := (nameE 5)
noncomputable def order_in_g2 : TgF := (nameG 4)
noncomputable def order_in_t2 : M Bool := (op2T (bvE (frE (lcF [5] (seqI (op2 (nameB 2) (nameB 4) ixA)) order_in_g1 order_in_t1 order_in_e1))) (bvE (frE (lstF nilA))) eqB)
noncomputable def order_in_e2 : M D := (nameE 4)
noncomputable def order_in_g3 : TgF := (nameG 4)
noncomputable def order_in_t3 : M Bool := (op2T (nameB 4) (nameB 3) notInA)
noncomputable def order_in_e3 : M D := (tupE (consA (nameE 4) (consA (op2 (nameB 2) (nameB 4) ixA) nilA)))
noncomputable def order_in_c1 : M Bool := (op2T (nameB 2) (bvE (frE newD)) neKB)
noncomputable def order_in_w1 : MS := (seqS (setS 3 (frE (lcF [4] (keysI (nameE 2)) order_in_g2 order_in_t2 order_in_e2)))
  (seqS (ifS (op2T (nameB 3) (bvE (frE (lstF nilA))) eqB)
  (retS (cE .none))
  skipS)
  (seqS (setS 1 (frE (op2F (nameB 1) (bvE (frE (callF (consB (nameB 3) nilB) sortC))) addL)))
  (setS 2 (frE (dpairsF (bvE (frE (lcF [4] (keysI (nameE 2)) order_in_g3 order_in_t3 order_in_e3)))))))))
noncomputable def f_order_in : Fs := runB 5 (seqS (asgS (tupE (consA (frE (lstF nilA)) (consA (frE (dcopyF (nameB 0))) nilA))) (tupG 2 (consG (nameG 1) (consG (nameG 2) nilG))))
  (seqS (whileS order_in_c1
  order_in_w1)
  (retS (nameE 1))))

noncomputable def f_goes_on : Fs := runB 0 (seqS (dropS (callS (consA (nameE 0) (consA (nameE 1) nilA)) f_need_both))
  (retS (op2 (bvE (callS (consA (callS (consA (nameE 0) (consA (nameE 1) nilA)) f_come_in) nilA) f_order_in)) (bvE (cE .none)) (fun a b => (isNoneB a b).map .bool))))

noncomputable def longest_g1 : TgF := (nameG 6)
noncomputable def longest_e1 : M D := (op2 (nameB 4) (nameB 6) ixA)
noncomputable def longest_g2 : TgF := (nameG 5)
noncomputable def longest_b1 : MS := (putA 4 (op2 (bvE (callE (consB (bvE (frE (op2F (bvE (frE (lstF (consA (op1 (cE (.int 1)) negO) nilA)))) (bvE (frE (lcF [6] (seqI (op2 (nameB 2) (nameB 5) ixA)) longest_g1 yesT longest_e1))) addL))) nilB) (mmC PySem.W.maxD))) (bvE (cE (.int 1))) addO) (nameE 5))
noncomputable def f_longest : Fs := runB 5 (seqS (dropS (callS (consA (nameE 0) (consA (nameE 1) nilA)) f_need_both))
  (seqS (setS 2 (callS (consA (nameE 0) (consA (nameE 1) nilA)) f_come_in))
  (seqS (setS 3 (callS (consA (nameE 2) nilA) f_order_in))
  (seqS (ifS (op2T (nameB 3) (bvE (cE .none)) isNoneB)
  (raiseS ⟨"NotEnding", []⟩)
  skipS)
  (seqS (setF 4 newD)
  (seqS (forS (seqI (nameE 3)) longest_g2
  longest_b1)
  (retS (op2 (nameB 4) (nameB 1) ixA))))))))

noncomputable def f__law_taken : Fs := runB 2 (seqS (ifS (op2T (bvE (op2 (nameB 0) (bvE (cE (.int 3))) ixA)) (bvE (cE (.int 0))) (ordB fun a b => PySem.W.dataLt b a))
  (seqS (setS 3 (op2 (bvE (callE (consB (bvE (op2 (nameB 0) (bvE (cE (.int 3))) ixA)) nilB) intC)) (nameB 1) modO))
  (seqS (putA 0 (op2 (bvE (op2 (nameB 0) (bvE (cE (.int 3))) ixA)) (nameB 1) fdivO) (cE (.int 3)))
  (retS (nameE 3))))
  skipS)
  (seqS (putA 0 (op2 (bvE (op2 (nameB 0) (bvE (cE (.int 1))) ixA)) (bvE (cE (.int 1))) addO) (cE (.int 1)))
  (seqS (ifS (op2T (bvE (op2 (nameB 0) (bvE (cE (.int 1))) ixA)) (bvE (callE (consB (bvE (op2 (nameB 0) (bvE (cE (.int 0))) ixA)) nilB) lenC)) (ordB fun a b => PySem.W.dataLt b a))
  (seqS (putA 0 (op2 (bvE (callE (consB (bvE (op2 (bvE (op2 (bvE (op2 (nameB 0) (bvE (cE (.int 2))) ixA)) (bvE (cE (.int 48271))) mulA)) (bvE (cE (.int 11))) addO)) nilB) intC)) (bvE (cE (.int 2147483647))) modO) (cE (.int 2)))
  (retS (op2 (bvE (callE (consB (bvE (op2 (bvE (op2 (nameB 0) (bvE (cE (.int 2))) ixA)) (bvE (cE (.int 7))) fdivO)) nilB) intC)) (nameB 1) modO)))
  skipS)
  (seqS (setS 2 (op2 (bvE (op2 (nameB 0) (bvE (cE (.int 0))) ixA)) (bvE (op2 (bvE (op2 (nameB 0) (bvE (cE (.int 1))) ixA)) (bvE (cE (.int 1))) subO)) ixA))
  (seqS (putA 0 (op2 (bvE (callE (consB (bvE (op2 (bvE (op2 (bvE (op2 (bvE (op2 (nameB 0) (bvE (cE (.int 2))) ixA)) (bvE (cE (.int 48271))) mulA)) (nameB 2) addO)) (bvE (cE (.int 11))) addO)) nilB) intC)) (bvE (cE (.int 2147483647))) modO) (cE (.int 2)))
  (seqS (ifS (op2T (nameB 2) (bvE (op2 (bvE (cE (.int 10))) (bvE (cE (.int 18))) powO)) (ordB fun a b => !PySem.W.dataLt a b))
  (putA 0 (op2 (nameB 2) (nameB 1) fdivO) (cE (.int 3)))
  skipS)
  (retS (op2 (bvE (callE (consB (nameB 2) nilB) intC)) (nameB 1) modO))))))))

noncomputable def _law_order_g1 : TgF := (nameG 2)
noncomputable def _law_order_b1 : MS := (seqS (setS 5 (callR 0 (consA (callE (consB (nameB 3) nilB) lenC) nilA) f__law_taken))
  (seqS (appS 4 (op2 (nameB 3) (nameB 5) ixA))
  (setS 3 (frE (op2F (bvE (frE (slF (nameB 3) noO (someO (nameE 5))))) (bvE (frE (slF (nameB 3) (someO (op2 (nameB 5) (bvE (cE (.int 1))) addO)) noO))) addL)))))
noncomputable def f__law_order : Fs := runB 4 (seqS (parS [3, 4] (consE (frE (lstRgF (nameE 1))) (consF (lstF nilA) nilP)))
  (seqS (forS (range1 (nameE 1)) _law_order_g1
  _law_order_b1)
  (retS (nameE 4))))

noncomputable def _law_letters_g1 : TgF := (nameG 3)
noncomputable def _law_letters_e1 : M D := (callR 0 (consA (nameE 1) nilA) f__law_taken)
noncomputable def f__law_letters : Fs := runB 1 (retS (callE (consB (bvE (frE (lcF [3] (range1 (nameE 2)) _law_letters_g1 yesT _law_letters_e1))) nilB) tupleC))

noncomputable def _law_book_i1 : MS := (ifS (op2T (nameB 9) (nameB 10) (ordB fun a b => PySem.W.dataLt b a))
  (parS [9, 10] (consE (nameE 10) (consE (nameE 9) nilP)))
  skipS)
noncomputable def _law_book_i2 : MS := (ifS (op2T (nameB 6) (bvE (cE (.int 0))) eqB)
  (seqS (setS 10 (revE (nameB 9)))
  _law_book_i1)
  skipS)
noncomputable def _law_book_i3 : MS := (ifS (andT (op2T (nameB 6) (bvE (cE (.int 1))) eqB) (op2T (bvE (op2 (nameB 3) (bvE (op2 (nameB 10) (bvE (op1 (cE (.int 1)) negO)) ixA)) ixA)) (bvE (op2 (nameB 3) (bvE (op2 (nameB 9) (bvE (op1 (cE (.int 1)) negO)) ixA)) ixA)) (ordB fun a b => PySem.W.dataLt b a)))
  (parS [9, 10] (consE (op2 (bvE (slE (nameB 9) noO (someO (op1 (cE (.int 1)) negO)) cutO)) (bvE (slE (nameB 10) (someO (op1 (cE (.int 1)) negO)) noO cutO)) addO) (consE (op2 (bvE (slE (nameB 10) noO (someO (op1 (cE (.int 1)) negO)) cutO)) (bvE (slE (nameB 9) (someO (op1 (cE (.int 1)) negO)) noO cutO)) addO) nilP)))
  skipS)
noncomputable def _law_book_i4 : MS := (ifS (andT (op2T (nameB 6) (bvE (cE (.int 2))) eqB) (op2T (bvE (op2 (nameB 3) (bvE (op2 (nameB 10) (bvE (cE (.int 0))) ixA)) ixA)) (bvE (op2 (nameB 3) (bvE (op2 (nameB 9) (bvE (cE (.int 0))) ixA)) ixA)) (ordB fun a b => PySem.W.dataLt b a)))
  (parS [9, 10] (consE (op2 (bvE (slE (nameB 10) noO (someO (cE (.int 1))) cutO)) (bvE (slE (nameB 9) (someO (cE (.int 1))) noO cutO)) addO) (consE (op2 (bvE (slE (nameB 9) noO (someO (cE (.int 1))) cutO)) (bvE (slE (nameB 10) (someO (cE (.int 1))) noO cutO)) addO) nilP)))
  skipS)
noncomputable def _law_book_g1 : TgF := (nameG 11)
noncomputable def _law_book_e1 : M D := (op2 (nameB 3) (nameB 11) ixA)
noncomputable def _law_book_g2 : TgF := (nameG 11)
noncomputable def _law_book_e2 : M D := (op2 (nameB 3) (nameB 11) ixA)
noncomputable def _law_book_i5 : MS := (ifS (andT (op2T (nameB 6) (bvE (cE (.int 3))) eqB) (op2T (bvE (callE (consB (bvE (frE (lcF [11] (seqI (nameE 10)) _law_book_g1 yesT _law_book_e1))) nilB) sumA)) (bvE (callE (consB (bvE (frE (lcF [11] (seqI (nameE 9)) _law_book_g2 yesT _law_book_e2))) nilB) sumA)) (ordB fun a b => PySem.W.dataLt b a)))
  (parS [9, 10] (consE (nameE 10) (consE (nameE 9) nilP)))
  skipS)
noncomputable def _law_book_i6 : MS := (ifS (op2T (nameB 9) (nameB 10) neB)
  (putA 7 (cE (.bool true)) (tupE (consA (nameE 9) (consA (nameE 10) nilA))))
  skipS)
noncomputable def _law_book_g3 : TgF := (nameG 4)
noncomputable def _law_book_b1 : MS := (seqS (setS 8 (op2 (bvE (cE (.int 1))) (bvE (callR 0 (consA (nameE 2) nilA) f__law_taken)) addO))
  (seqS (parS [9, 10] (consE (callR 0 (consA (nameE 5) (consA (nameE 8) nilA)) f__law_letters) (consE (callR 0 (consA (nameE 5) (consA (nameE 8) nilA)) f__law_letters) nilP)))
  (seqS _law_book_i2
  (seqS _law_book_i3
  (seqS _law_book_i4
  (seqS _law_book_i5
  _law_book_i6))))))
noncomputable def f__law_book : Fs := runB 9 (seqS (parS [5, 6, 7] (consE (op2 (bvE (cE (.int 2))) (bvE (callR 0 (consA (op2 (nameB 1) (bvE (cE (.int 1))) subO) nilA) f__law_taken)) addO) (consE (callR 0 (consA (cE (.int 6)) nilA) f__law_taken) (consF newD nilP))))
  (seqS (setS 3 (callR 0 (consA (nameE 5) nilA) f__law_order))
  (seqS (forS (range1 (op2 (bvE (cE (.int 1))) (bvE (callR 0 (consA (cE (.int 4)) nilA) f__law_taken)) addO)) _law_book_g3
  _law_book_b1)
  (retS (tupE (consA (nameE 5) (consA (callE (consB (bvE (frE (keysSortF (nameB 7)))) nilB) tupleC) nilA)))))))

noncomputable def _law_alike_g1 (r : Fs) : TgF := (nameG 2)
noncomputable def _law_alike_t1 (r : Fs) : M Bool := (notT (toT (callS (consA (op2 (nameB 0) (nameB 2) ixA) (consA (op2 (nameB 1) (nameB 2) ixA) nilA)) r)))
noncomputable def _law_alike_e1 (r : Fs) : M D := (nameE 2)
noncomputable def _law_alike_s (r : Fs) : MS := (seqS (ifS (toT (isi2V (nameB 1) "tuple" "list"))
  (seqS (ifS (orT (notT (toT (isi2V (nameB 0) "tuple" "list"))) (op2T (bvE (isiV (nameB 0) "list")) (bvE (isiV (nameB 1) "list")) neB))
  (retS (cE (.bool false)))
  skipS)
  (seqS (ifS (op2T (bvE (callE (consB (nameB 0) nilB) lenC)) (bvE (callE (consB (nameB 1) nilB) lenC)) neB)
  (retS (cE (.bool false)))
  skipS)
  (retS (op2 (bvE (frE (lcF [2] (range1 (callE (consB (nameB 1) nilB) lenC)) (_law_alike_g1 r) (_law_alike_t1 r) (_law_alike_e1 r)))) (bvE (frE (lstF nilA))) (fun a b => (eqB a b).map .bool)))))
  skipS)
  (seqS (ifS (orT (op2T (nameB 1) (bvE (cE .none)) isNoneB) (toT (isiV (nameB 1) "str")))
  (retS (andV (op2 (nameB 0) (nameB 1) (fun a b => (eqB a b).map .bool)) (op2 (bvE (isiV (nameB 0) "str")) (bvE (isiV (nameB 1) "str")) (fun a b => (eqB a b).map .bool))))
  skipS)
  (retS (andV (isiV (nameB 0) "int") (andV (op2 (bvE (isiV (nameB 0) "bool")) (bvE (isiV (nameB 1) "bool")) (fun a b => (eqB a b).map .bool)) (op2 (nameB 0) (nameB 1) (fun a b => (eqB a b).map .bool)))))))
noncomputable def f__law_alike : Nat → Fs
 | 0 => stuckF
 | n + 1 => runB 1 (_law_alike_s (f__law_alike n))

noncomputable def _law_steps_g1 : TgF := (nameG 10)
noncomputable def _law_steps_b1 : MS := (ifS (op2T (bvE (op2 (nameB 1) (nameB 10) ixA)) (bvE (op2 (nameB 3) (nameB 6) ixA)) eqB)
  (appS 7 (tupE (consA (op2 (nameB 8) (bvE (tupE (consA (nameE 10) nilA))) addO) (consA (op2 (bvE (op2 (bvE (slE (nameB 9) noO (someO (nameE 10)) cutO)) (bvE (tupE (consA (op2 (nameB 4) (nameB 6) ixA) nilA))) addO)) (bvE (slE (nameB 9) (someO (op2 (nameB 10) (bvE (cE (.int 1))) addO)) noO cutO)) addO) nilA))))
  skipS)
noncomputable def _law_steps_g2 : TgF := (tupG 2 (consG (nameG 8) (consG (nameG 9) nilG)))
noncomputable def _law_steps_b2 : MS := (forS (range2 (ifM (op2T (nameB 8) (bvE (tupE nilA)) neB) (op2 (bvE (op2 (nameB 8) (bvE (op1 (cE (.int 1)) negO)) ixA)) (bvE (cE (.int 1))) addO) (cE (.int 0))) (callE (consB (nameB 1) nilB) lenC)) _law_steps_g1
  _law_steps_b1)
noncomputable def _law_steps_g3 : TgF := (nameG 6)
noncomputable def _law_steps_b3 : MS := (seqS (setF 7 (lstF nilA))
  (seqS (forS (seqI (nameE 5)) _law_steps_g2
  _law_steps_b2)
  (setS 5 (nameE 7))))
noncomputable def _law_steps_g4 : TgF := (tupG 2 (consG (nameG 8) (consG (nameG 9) nilG)))
noncomputable def _law_steps_b4 : MS := (putA 2 (cE (.bool true)) (nameE 9))
noncomputable def _law_steps_g5 : TgF := (tupG 2 (consG (nameG 3) (consG (nameG 4) nilG)))
noncomputable def _law_steps_b5 : MS := (seqS (setS 5 (frE (lstF (consA (tupE (consA (tupE nilA) (consA (nameE 1) nilA))) nilA))))
  (seqS (forS (range1 (callE (consB (nameB 3) nilB) lenC)) _law_steps_g3
  _law_steps_b3)
  (forS (seqI (nameE 5)) _law_steps_g4
  _law_steps_b4)))
noncomputable def f__law_steps : Fs := runB 9 (seqS (setF 2 newD)
  (seqS (forS (seqI (op2 (nameB 0) (bvE (cE (.int 1))) ixA)) _law_steps_g5
  _law_steps_b5)
  (retS (frE (keysSortF (nameB 2))))))

noncomputable def _law_walk_c1 : M Bool := (op2T (nameB 3) (bvE (frE (lstF nilA))) neB)
noncomputable def _law_walk_w1 : MS := (seqS (setS 4 (op2 (nameB 3) (bvE (cE (.int 0))) ixA))
  (seqS (setS 3 (frE (slF (nameB 3) (someO (cE (.int 1))) noO)))
  (ifS (op2T (nameB 4) (nameB 2) notInA)
  (seqS (putA 2 (callS (consA (nameE 0) (consA (nameE 4) nilA)) f__law_steps) (nameE 4))
  (setS 3 (frE (op2F (nameB 3) (bvE (op2 (nameB 2) (nameB 4) ixA)) addL))))
  skipS)))
noncomputable def f__law_walk : Fs := runB 3 (seqS (parS [2, 3] (consF newD (consE (frE (lstF (consA (nameE 1) nilA))) nilP)))
  (seqS (whileS _law_walk_c1
  _law_walk_w1)
  (retS (nameE 2))))

noncomputable def _law_layers_g1 : TgF := (nameG 5)
noncomputable def _law_layers_t1 : M Bool := (op2T (nameB 5) (nameB 2) inA)
noncomputable def _law_layers_e1 : M D := (nameE 5)
noncomputable def _law_layers_g2 : TgF := (nameG 4)
noncomputable def _law_layers_t2 : M Bool := (op2T (bvE (frE (lcF [5] (seqI (op2 (nameB 0) (nameB 4) ixA)) _law_layers_g1 _law_layers_t1 _law_layers_e1))) (bvE (frE (lstF nilA))) eqB)
noncomputable def _law_layers_e2 : M D := (nameE 4)
noncomputable def _law_layers_g3 : TgF := (nameG 4)
noncomputable def _law_layers_t3 : M Bool := (op2T (nameB 4) (nameB 3) notInA)
noncomputable def _law_layers_e3 : M D := (nameE 4)
noncomputable def _law_layers_c1 : M Bool := (op2T (nameB 2) (bvE (frE (lstF nilA))) neB)
noncomputable def _law_layers_w1 : MS := (seqS (setS 3 (frE (lcF [4] (seqI (nameE 2)) _law_layers_g2 _law_layers_t2 _law_layers_e2)))
  (seqS (ifS (op2T (nameB 3) (bvE (frE (lstF nilA))) eqB)
  (retS (cE .none))
  skipS)
  (asgS (tupE (consA (frE (op2F (nameB 1) (nameB 3) addL)) (consA (frE (lcF [4] (seqI (nameE 2)) _law_layers_g3 _law_layers_t3 _law_layers_e3)) nilA))) (tupG 2 (consG (nameG 1) (consG (nameG 2) nilG))))))
noncomputable def f__law_layers : Fs := runB 5 (seqS (asgS (tupE (consA (frE (lstF nilA)) (consA (frE (keysF (nameB 0))) nilA))) (tupG 2 (consG (nameG 1) (consG (nameG 2) nilG))))
  (seqS (whileS _law_layers_c1
  _law_layers_w1)
  (retS (nameE 1))))

noncomputable def _law_last_ones_g1 : TgF := (nameG 1)
noncomputable def _law_last_ones_t1 : M Bool := (op2T (bvE (op2 (nameB 0) (nameB 1) ixA)) (bvE (frE (lstF nilA))) eqB)
noncomputable def _law_last_ones_e1 : M D := (nameE 1)
noncomputable def f__law_last_ones : Fs := runB 1 (retS (frE (callF (consB (bvE (frE (lcF [1] (keysI (nameE 0)) _law_last_ones_g1 _law_last_ones_t1 _law_last_ones_e1))) nilB) sortC)))

noncomputable def law_i1 : MS := (ifS (notT (toT (callS (consA (callS (consA (nameE 2) (consA (nameE 3) nilA)) f_steps) (consA (callE (consB (bvE (callS (consA (nameE 2) (consA (nameE 3) nilA)) f__law_steps)) nilB) tupleC) nilA)) (f__law_alike 8))))
  (retS (cE (.bool false)))
  skipS)
noncomputable def law_i2 : MS := (ifS (notT (toT (callS (consA (callS (consA (nameE 10) (consA (nameE 4) nilA)) f_all_come) (consA (frE (keysSortF (nameB 5))) nilA)) (f__law_alike 8))))
  (retS (cE (.bool false)))
  skipS)
noncomputable def law_i3 : MS := (ifS (notT (toT (callS (consA (callS (consA (nameE 10) (consA (nameE 4) nilA)) f_walked_rests) (consA (callS (consA (nameE 5) nilA) f__law_last_ones) nilA)) (f__law_alike 8))))
  (retS (cE (.bool false)))
  skipS)
noncomputable def law_i4 : MS := (ifS (notT (toT (callS (consA (callS (consA (nameE 10) (consA (nameE 4) nilA)) f_goes_on) (consA (op2 (nameB 6) (bvE (cE .none)) (fun a b => (isNoneB a b).map .bool)) nilA)) (f__law_alike 8))))
  (retS (cE (.bool false)))
  skipS)
noncomputable def law_g1 : TgF := (nameG 12)
noncomputable def law_e1 : M D := (op2 (nameB 8) (nameB 12) ixA)
noncomputable def law_g2 : TgF := (nameG 9)
noncomputable def law_b1 : MS := (putA 8 (op2 (bvE (callE (consB (bvE (frE (op2F (bvE (frE (lstF (consA (op1 (cE (.int 1)) negO) nilA)))) (bvE (frE (lcF [12] (seqI (op2 (nameB 5) (nameB 9) ixA)) law_g1 yesT law_e1))) addL))) nilB) (mmC PySem.W.maxD))) (bvE (cE (.int 1))) addO) (nameE 9))
noncomputable def f_law : Fs := runB 12 (seqS (setF 1 (lstF (consA (nameE 0) (consA (cE (.int 0)) (consA (cE (.int 10400)) (consA (cE (.int 0)) nilA))))))
  (seqS (parS [10, 11] (consE (callR 1 (consA (cE (.int 3)) (consA (cE (.int 3)) nilA)) f__law_book) (consE (cE .none) nilP)))
  (seqS (setS 2 (callR 1 (consA (cE (.int 4)) (consA (cE (.int 3)) nilA)) f__law_book))
  (seqS (setS 3 (callR 1 (consA (op2 (nameB 2) (bvE (cE (.int 0))) ixA) (consA (callR 1 (consA (cE (.int 9)) nilA) f__law_taken) nilA)) f__law_letters))
  (seqS law_i1
  (seqS (setS 4 (callR 1 (consA (op2 (nameB 10) (bvE (cE (.int 0))) ixA) (consA (callR 1 (consA (cE (.int 5)) nilA) f__law_taken) nilA)) f__law_letters))
  (seqS (setS 5 (callS (consA (nameE 10) (consA (nameE 4) nilA)) f__law_walk))
  (seqS (setS 6 (callS (consA (nameE 5) nilA) f__law_layers))
  (seqS law_i2
  (seqS law_i3
  (seqS law_i4
  (seqS (tryS 7 ["BadBook", "BadWord", "NotEnding", "TooMany"]
  (setS 11 (callS (consA (nameE 10) (consA (nameE 4) nilA)) f_longest))
  (fun e => retS (andV (cE (.bool (decide (e.cls = "NotEnding")))) (op2 (nameB 6) (bvE (cE .none)) (fun a b => (isNoneB a b).map .bool)))))
  (seqS (setF 8 newD)
  (seqS (forS (seqI (ifM (op2T (nameB 6) (bvE (cE .none)) notNoneB) (nameE 6) (frE (lstF nilA)))) law_g2
  law_b1)
  (retS (andV (op2 (nameB 6) (bvE (cE .none)) (fun a b => (notNoneB a b).map .bool)) (callS (consA (nameE 11) (consA (op2 (nameB 8) (nameB 4) ixA) nilA)) (f__law_alike 8))))))))))))))))))

end L2.Sm
set_option Elab.async false
set_option linter.all false
set_option maxRecDepth 100000
set_option maxHeartbeats 0

namespace L2.Wk
open PySem PySem.Spec PyProof.Rows L2.Sc L2.Sm ScH
structure Facts (K : PySem.W.Frag) (mg : Str → Option Value) : Prop where
  d_is_in : DefOf K mg "is_in" s_is_in
  d_is_row : DefOf K mg "is_row" s_is_row
  d_is_rule : DefOf K mg "is_rule" s_is_rule
  d_need_book : DefOf K mg "need_book" s_need_book
  d_need_word : DefOf K mg "need_word" s_need_word
  d_spots_of : DefOf K mg "spots_of" s_spots_of
  d_steps_in : DefOf K mg "steps_in" s_steps_in
  d_need_both : DefOf K mg "need_both" s_need_both
  d_steps : DefOf K mg "steps" s_steps
  d_come_in : DefOf K mg "come_in" s_come_in
  d_all_come : DefOf K mg "all_come" s_all_come
  d_rests_in : DefOf K mg "rests_in" s_rests_in
  d_walked_rests : DefOf K mg "walked_rests" s_walked_rests
  d_order_in : DefOf K mg "order_in" s_order_in
  d_goes_on : DefOf K mg "goes_on" s_goes_on
  d_longest : DefOf K mg "longest" s_longest
  d__law_taken : DefOf K mg "_law_taken" s__law_taken
  d__law_order : DefOf K mg "_law_order" s__law_order
  d__law_letters : DefOf K mg "_law_letters" s__law_letters
  d__law_book : DefOf K mg "_law_book" s__law_book
  d__law_alike : DefOf K mg "_law_alike" s__law_alike
  d__law_steps : DefOf K mg "_law_steps" s__law_steps
  d__law_walk : DefOf K mg "_law_walk" s__law_walk
  d__law_layers : DefOf K mg "_law_layers" s__law_layers
  d__law_last_ones : DefOf K mg "_law_last_ones" s__law_last_ones
  d_law : DefOf K mg "law" s_law
  i_MOST_LETTERS : ∃ t, mg "MOST_LETTERS" = some (.int 4 t)
  i_MOST_RULES : ∃ t, mg "MOST_RULES" = some (.int 12 t)
  i_MOST_LONG : ∃ t, mg "MOST_LONG" = some (.int 3 t)
  i_MOST_WORD : ∃ t, mg "MOST_WORD" = some (.int 8 t)
  i_MOST_WALKED : ∃ t, mg "MOST_WALKED" = some (.int 1500 t)
  g_bool : mg "bool" = none
  g_dict : mg "dict" = none
  g_enumerate : mg "enumerate" = none
  g_int : mg "int" = none
  g_isinstance : mg "isinstance" = none
  g_len : mg "len" = none
  g_list : mg "list" = none
  g_max : mg "max" = none
  g_range : mg "range" = none
  g_sorted : mg "sorted" = none
  g_str : mg "str" = none
  g_sum : mg "sum" = none
  g_tuple : mg "tuple" = none
  g_zip : mg "zip" = none
  x_NotEnding : ∃ C, ExcF K mg "NotEnding" C
  tr_ScatterError : ∃ c, mg "ScatterError" = some (.ref c) ∧ TakesAll K mg (.ref c) ["BadBook", "BadWord", "NotEnding", "TooMany"]
  is_NotEnding : IsAll K mg "NotEnding" ["BadBook", "BadWord", "NotEnding", "TooMany"]
section
variable {P : Program} {w : World} {K : PySem.W.Frag} {mg : Str → Option Value} {base : Heap}
theorem sc_is_in : FnScope ["value", "least", "most"] ["value", "least", "most"] (defScope s_is_in) := ⟨rfl, rfl, rfl, by decide +kernel, rfl, by decide +kernel, by decide +kernel⟩
theorem fs_is_in (B : Facts K mg) : FnS P w K mg base 1 "is_in" 3 f_is_in := by
  refine fn_defD (k := 0) B.d_is_in sc_is_in (fun _ _ _ _ _ _ us hl => match us, hl with | [_, _, _], _ => rfl) (fun f cdv A outer s H E ok => ?_)
  exact (sss_one (ss_ret (se_and (se_isi rfl B.g_isinstance (by rfl) (sb_name 0) rfl B.g_int (by rfl)) (se_and (se_not (se_isi rfl B.g_isinstance (by rfl) (sb_name 0) rfl B.g_bool (by rfl))) (se_one (se_chain (op_leD ok.room.units) (dop_ord _) (op_leD ok.room.units) (dop_ord _) (sb_name 1) (sb_name 0) (sb_name 2)))))))

theorem sc_is_row : FnScope ["value", "many", "one"] ["value", "many"] (defScope s_is_row) := ⟨rfl, rfl, rfl, by decide +kernel, rfl, by decide +kernel, by decide +kernel⟩
theorem fs_is_row (B : Facts K mg) : FnS P w K mg base 2 "is_row" 2 f_is_row := by
  refine fn_defD (k := 1) B.d_is_row sc_is_row (fun _ _ _ _ _ _ us hl => match us, hl with | [_, _], _ => rfl) (fun f cdv A outer s H E ok => ?_)
  exact (sss_one (ss_ret (se_and (se_isi rfl B.g_isinstance (by rfl) (sb_name 0) rfl B.g_tuple (by rfl)) (se_one (se_cmp (op_eqD ok.room.units) dop_eq (sb_se (se_sf (sf_lc (own := [("one", 2)]) ok.calm ok.nd (si_seq (se_name 0)) (blkOk_by (N := ["value", "many", "one"]) (sc := defScope s_is_row) (by decide +kernel)) (fun _ _ _ _ _ => (sg_name ok.nd)) (fun _ _ _ _ _ => (sts_one (st_not (st_se (se_fn ((fs_is_in B).mono (by decide)) ok.room takes0 rfl (sa_cons (se_name 2) (sa_cons se_int (sa_cons (se_op op_sub dop_sub (sb_name 1) (sb_se se_int)) sa_nil)))))))) (fun _ _ _ _ _ => (se_name 2))))) (sb_se (se_sf (sf_lst sa_nil))))))))

theorem sc_is_rule : FnScope ["value", "many"] ["value", "many"] (defScope s_is_rule) := ⟨rfl, rfl, rfl, by decide +kernel, rfl, by decide +kernel, by decide +kernel⟩
theorem fs_is_rule (B : Facts K mg) : FnS P w K mg base 3 "is_rule" 2 f_is_rule := by
  refine fn_defD (k := 2) B.d_is_rule sc_is_rule (fun _ _ _ _ _ _ us hl => match us, hl with | [_, _], _ => rfl) (fun f cdv A outer s H E ok => ?_)
  exact (sss_cons (ss_if (st_w (sw_or (st_not (st_se (se_isi rfl B.g_isinstance (by rfl) (sb_name 0) rfl B.g_tuple (by rfl)))) (sw_or (st_cmp (op_neD ok.room.units) dop_ne (sb_se (se_callB call_len dc_len rfl B.g_len (by rfl) (sbs_cons (sb_name 0) sbs_nil))) (sb_se se_int)) (sw_or (st_not (st_se (se_fn ((fs_is_row B).mono (by decide)) ok.room ok.takes rfl (sa_cons (se_ixr (ix_all ok.room.units) dop_ixA (sb_name 0) (sb_se se_int)) (sa_cons (se_name 1) sa_nil))))) (sw_or1 (st_not (st_se (se_fn ((fs_is_row B).mono (by decide)) ok.room ok.takes rfl (sa_cons (se_ixr (ix_all ok.room.units) dop_ixA (sb_name 0) (sb_se se_int)) (sa_cons (se_name 1) sa_nil))))))))))
  (sss_one (ss_ret se_bl))
  sss_nil)
  (sss_one (ss_ret (se_and (se_chain (op_leD ok.room.units) (dop_ord _) (op_leD ok.room.units) (dop_ord _) (sb_se se_int) (sb_se (se_callB call_len dc_len rfl B.g_len (by rfl) (sbs_cons (sb_se (se_ixr (ix_all ok.room.units) dop_ixA (sb_name 0) (sb_se se_int))) sbs_nil))) (sb_se (se_globI B.i_MOST_LONG))) (se_and (se_cmp (op_eqD ok.room.units) dop_eq (sb_se (se_callB call_len dc_len rfl B.g_len (by rfl) (sbs_cons (sb_se (se_ixr (ix_all ok.room.units) dop_ixA (sb_name 0) (sb_se se_int))) sbs_nil))) (sb_se (se_callB call_len dc_len rfl B.g_len (by rfl) (sbs_cons (sb_se (se_ixr (ix_all ok.room.units) dop_ixA (sb_name 0) (sb_se se_int))) sbs_nil)))) (se_one (se_cmp (op_neD ok.room.units) dop_ne (sb_se (se_ixr (ix_all ok.room.units) dop_ixA (sb_name 0) (sb_se se_int))) (sb_se (se_ixr (ix_all ok.room.units) dop_ixA (sb_name 0) (sb_se se_int))))))))))

theorem sc_need_book : FnScope ["book", "index", "one"] ["book"] (defScope s_need_book) := ⟨rfl, rfl, rfl, by decide +kernel, rfl, by decide +kernel, by decide +kernel⟩
theorem fs_need_book (B : Facts K mg) : FnS P w K mg base 4 "need_book" 1 f_need_book := by
  refine fn_defD (k := 3) B.d_need_book sc_need_book (fun _ _ _ _ _ _ us hl => match us, hl with | [_], _ => rfl) (fun f cdv A outer s H E ok => ?_)
  exact (sss_cons (ss_if (st_w (sw_or (st_not (st_se (se_isi rfl B.g_isinstance (by rfl) (sb_name 0) rfl B.g_tuple (by rfl)))) (sw_or (st_cmp (op_neD ok.room.units) dop_ne (sb_se (se_callB call_len dc_len rfl B.g_len (by rfl) (sbs_cons (sb_name 0) sbs_nil))) (sb_se se_int)) (sw_or1 (st_not (st_se (se_fn ((fs_is_in B).mono (by decide)) ok.room ok.takes rfl (sa_cons (se_ixr (ix_all ok.room.units) dop_ixA (sb_name 0) (sb_se se_int)) (sa_cons se_int (sa_cons (se_globI B.i_MOST_LETTERS) sa_nil))))))))))
  (sss_one ss_never)
  sss_nil)
  (sss_cons (ss_if (st_w (sw_or (st_not (st_se (se_isi rfl B.g_isinstance (by rfl) (sb_se (se_ixr (ix_all ok.room.units) dop_ixA (sb_name 0) (sb_se se_int))) rfl B.g_tuple (by rfl)))) (sw_or1 (st_cmp (op_gtD ok.room.units) (dop_ord _) (sb_se (se_callB call_len dc_len rfl B.g_len (by rfl) (sbs_cons (sb_se (se_ixr (ix_all ok.room.units) dop_ixA (sb_name 0) (sb_se se_int))) sbs_nil))) (sb_se (se_globI B.i_MOST_RULES))))))
  (sss_one ss_never)
  sss_nil)
  (sss_one (ss_for ok.pass ok.calm (si_enum rfl B.g_enumerate (se_ixr (ix_all ok.room.units) dop_ixA (sb_name 0) (sb_se se_int))) (sg_tup ok.calm (sgs_cons (sg_name ok.nd) (sgs_cons (sg_name ok.nd) sgs_nil)))
  (sss_one (ss_if (st_w (sw_or (st_not (st_se (se_fn ((fs_is_rule B).mono (by decide)) ok.room ok.takes rfl (sa_cons (se_name 2) (sa_cons (se_ixr (ix_all ok.room.units) dop_ixA (sb_name 0) (sb_se se_int)) sa_nil))))) (sw_or1 (st_w (sw_and (st_cmp (op_gtD ok.room.units) (dop_ord _) (sb_name 1) (sb_se se_int)) (sw_and1 (st_cmp (op_leD ok.room.units) (dop_ord _) (sb_name 2) (sb_se (se_ixr (ix_all ok.room.units) dop_ixA (sb_se (se_ixr (ix_all ok.room.units) dop_ixA (sb_name 0) (sb_se se_int))) (sb_se (se_op op_sub dop_sub (sb_name 1) (sb_se se_int))))))))))))
  (sss_one ss_never)
  sss_nil))))))

theorem sc_need_word : FnScope ["book", "word", "most", "index", "one"] ["book", "word", "most"] (defScope s_need_word) := ⟨rfl, rfl, rfl, by decide +kernel, rfl, by decide +kernel, by decide +kernel⟩
theorem fs_need_word (B : Facts K mg) : FnS P w K mg base 2 "need_word" 3 f_need_word := by
  refine fn_defD (k := 1) B.d_need_word sc_need_word (fun _ _ _ _ _ _ us hl => match us, hl with | [_, _, _], _ => rfl) (fun f cdv A outer s H E ok => ?_)
  exact (sss_cons (ss_if (st_w (sw_or (st_not (st_se (se_isi rfl B.g_isinstance (by rfl) (sb_name 1) rfl B.g_tuple (by rfl)))) (sw_or1 (st_cmp (op_gtD ok.room.units) (dop_ord _) (sb_se (se_callB call_len dc_len rfl B.g_len (by rfl) (sbs_cons (sb_name 1) sbs_nil))) (sb_name 2)))))
  (sss_one ss_never)
  sss_nil)
  (sss_one (ss_for ok.pass ok.calm (si_enum rfl B.g_enumerate (se_name 1)) (sg_tup ok.calm (sgs_cons (sg_name ok.nd) (sgs_cons (sg_name ok.nd) sgs_nil)))
  (sss_one (ss_if (st_not (st_se (se_fn ((fs_is_in B).mono (by decide)) ok.room ok.takes rfl (sa_cons (se_name 4) (sa_cons se_int (sa_cons (se_op op_sub dop_sub (sb_se (se_ixr (ix_all ok.room.units) dop_ixA (sb_name 0) (sb_se se_int))) (sb_se se_int)) sa_nil))))))
  (sss_one ss_never)
  sss_nil)))))

theorem sc_spots_of : FnScope ["left", "word", "found", "letter", "more", "line", "first", "at"] ["left", "word"] (defScope s_spots_of) := ⟨rfl, rfl, rfl, by decide +kernel, rfl, by decide +kernel, by decide +kernel⟩
theorem fs_spots_of (B : Facts K mg) : FnS P w K mg base 1 "spots_of" 2 f_spots_of := by
  refine fn_defD (k := 0) B.d_spots_of sc_spots_of (fun _ _ _ _ _ _ us hl => match us, hl with | [_, _], _ => rfl) (fun f cdv A outer s H E ok => ?_)
  exact (sss_cons (ss_set (i := 2) ok.nd (se_sf (sf_lst (sa_cons (se_tup sa_nil) sa_nil))))
  (sss_cons (ss_for ok.pass ok.calm (si_seq (se_name 0)) (sg_name ok.nd)
  (sss_cons (ss_set (i := 4) ok.nd (se_sf (sf_lst sa_nil)))
  (sss_cons (ss_for ok.pass ok.calm (si_seq (se_name 2)) (sg_name ok.nd)
  (sss_cons (ss_set (i := 6) ok.nd (se_if (st_cmp (op_neD ok.room.units) dop_ne (sb_name 5) (sb_se (se_tup sa_nil))) (se_op op_addA dop_add (sb_se (se_ixr (ix_all ok.room.units) dop_ixA (sb_name 5) (sb_se (se_un un_neg dneg se_int)))) (sb_se se_int)) se_int))
  (sss_one (ss_set (i := 4) ok.nd (se_sf (sf_op op_cat dopf_add (sb_name 4) (sb_se (se_sf (sf_lc (own := [("at", 7)]) ok.calm ok.nd (si_range2 rfl B.g_range (se_name 6) (se_callB call_len dc_len rfl B.g_len (by rfl) (sbs_cons (sb_name 1) sbs_nil))) (blkOk_by (N := ["left", "word", "found", "letter", "more", "line", "first", "at"]) (sc := defScope s_spots_of) (by decide +kernel)) (fun _ _ _ _ _ => (sg_name ok.nd)) (fun _ _ _ _ _ => (sts_one (st_cmp (op_eqD ok.room.units) dop_eq (sb_se (se_ixr (ix_all ok.room.units) dop_ixA (sb_name 1) (sb_name 7))) (sb_name 3)))) (fun _ _ _ _ _ => (se_op op_addA dop_add (sb_name 5) (sb_se (se_tup (sa_cons (se_name 7) sa_nil))))))))))))))
  (sss_one (ss_set (i := 2) ok.nd (se_name 4))))))
  (sss_one (ss_ret (se_name 2)))))

theorem sc_steps_in : FnScope ["book", "word", "found", "left", "right", "line", "there", "at", "letter"] ["book", "word"] (defScope s_steps_in) := ⟨rfl, rfl, rfl, by decide +kernel, rfl, by decide +kernel, by decide +kernel⟩
theorem fs_steps_in (B : Facts K mg) : FnS P w K mg base 2 "steps_in" 2 f_steps_in := by
  refine fn_defD (k := 1) B.d_steps_in sc_steps_in (fun _ _ _ _ _ _ us hl => match us, hl with | [_, _], _ => rfl) (fun f cdv A outer s H E ok => ?_)
  exact (sss_cons (ss_setF (i := 2) ok.nd sf_dnew)
  (sss_cons (ss_for ok.pass ok.calm (si_seq (se_ixr (ix_all ok.room.units) dop_ixA (sb_name 0) (sb_se se_int))) (sg_tup ok.calm (sgs_cons (sg_name ok.nd) (sgs_cons (sg_name ok.nd) sgs_nil)))
  (sss_one (ss_for ok.pass ok.calm (si_seq (se_fn ((fs_spots_of B).mono (by decide)) ok.room ok.takes rfl (sa_cons (se_name 3) (sa_cons (se_name 1) sa_nil)))) (sg_name ok.nd)
  (sss_cons (ss_setF (i := 6) ok.nd (sf_callTy call_list_of dcf_list rfl B.g_list (by rfl) (sbs_cons (sb_name 1) sbs_nil)))
  (sss_cons (ss_for ok.pass ok.calm (si_zip rfl B.g_zip (se_name 5) (se_name 4)) (sg_tup ok.calm (sgs_cons (sg_name ok.nd) (sgs_cons (sg_name ok.nd) sgs_nil)))
  (sss_one (ss_putA (i := 6) ok.room.units (se_name 8) (se_name 7))))
  (sss_one (ss_putA (i := 2) ok.room.units se_bl (se_callTy call_tuple_of dc_tuple rfl B.g_tuple (by rfl) (sbs_cons (sb_name 6) sbs_nil)))))))))
  (sss_one (ss_ret (se_sf (sf_keysSort ok.calm ok.room.units rfl B.g_sorted (by rfl) (sb_name 2)))))))

theorem sc_need_both : FnScope ["book", "word"] ["book", "word"] (defScope s_need_both) := ⟨rfl, rfl, rfl, by decide +kernel, rfl, by decide +kernel, by decide +kernel⟩
theorem fs_need_both (B : Facts K mg) : FnS P w K mg base 5 "need_both" 2 f_need_both := by
  refine fn_defD (k := 4) B.d_need_both sc_need_both (fun _ _ _ _ _ _ us hl => match us, hl with | [_, _], _ => rfl) (fun f cdv A outer s H E ok => ?_)
  exact (sss_cons (ss_expr (se_fn ((fs_need_book B).mono (by decide)) ok.room ok.takes rfl (sa_cons (se_name 0) sa_nil)))
  (sss_one (ss_expr (se_fn ((fs_need_word B).mono (by decide)) ok.room ok.takes rfl (sa_cons (se_name 0) (sa_cons (se_name 1) (sa_cons (se_globI B.i_MOST_WORD) sa_nil)))))))

theorem sc_steps : FnScope ["book", "word"] ["book", "word"] (defScope s_steps) := ⟨rfl, rfl, rfl, by decide +kernel, rfl, by decide +kernel, by decide +kernel⟩
theorem fs_steps (B : Facts K mg) : FnS P w K mg base 6 "steps" 2 f_steps := by
  refine fn_defD (k := 5) B.d_steps sc_steps (fun _ _ _ _ _ _ us hl => match us, hl with | [_, _], _ => rfl) (fun f cdv A outer s H E ok => ?_)
  exact (sss_cons (ss_expr (se_fn ((fs_need_both B).mono (by decide)) ok.room ok.takes rfl (sa_cons (se_name 0) (sa_cons (se_name 1) sa_nil))))
  (sss_one (ss_ret (se_callTy call_tuple_of dc_tuple rfl B.g_tuple (by rfl) (sbs_cons (sb_se (se_fn ((fs_steps_in B).mono (by decide)) ok.room ok.takes rfl (sa_cons (se_name 0) (sa_cons (se_name 1) sa_nil)))) sbs_nil)))))

theorem sc_come_in : FnScope ["book", "word", "found", "rows", "here"] ["book", "word"] (defScope s_come_in) := ⟨rfl, rfl, rfl, by decide +kernel, rfl, by decide +kernel, by decide +kernel⟩
theorem fs_come_in (B : Facts K mg) : FnS P w K mg base 3 "come_in" 2 f_come_in := by
  refine fn_defD (k := 2) B.d_come_in sc_come_in (fun _ _ _ _ _ _ us hl => match us, hl with | [_, _], _ => rfl) (fun f cdv A outer s H E ok => ?_)
  exact (sss_cons (ss_par2 ok.calm ok.nd (sps_F sf_dnew (sps_F (sf_lst (sa_cons (se_name 1) sa_nil)) sps_nil)))
  (sss_cons (ss_while ok.pass (st_cmp (op_neD ok.room.units) dop_ne (sb_name 3) (sb_se (se_sf (sf_lst sa_nil))))
  (sss_cons (ss_set (i := 4) ok.nd (se_pop (i := 3)))
  (sss_one (ss_if (st_cmp (op_notInS ok.room.units65) dop_notInA (sb_name 4) (sb_name 2))
  (sss_cons (ss_putA (i := 2) ok.room.units (se_fn ((fs_steps_in B).mono (by decide)) ok.room ok.takes rfl (sa_cons (se_name 0) (sa_cons (se_name 4) sa_nil))) (se_name 4))
  (sss_cons (ss_if (st_cmp (op_gtD ok.room.units) (dop_ord _) (sb_se (se_callB cr_lenK dc_lenK rfl B.g_len (by rfl) (sbs_cons (sb_name 2) sbs_nil))) (sb_se (se_globI B.i_MOST_WALKED)))
  (sss_one ss_never)
  sss_nil)
  (sss_one (ss_setF (i := 3) ok.nd (sf_op op_cat dopf_add (sb_name 3) (sb_se (se_ixr (ix_all ok.room.units) dop_ixA (sb_name 2) (sb_name 4))))))))
  sss_nil))))
  (sss_one (ss_ret (se_name 2)))))

theorem sc_all_come : FnScope ["book", "word"] ["book", "word"] (defScope s_all_come) := ⟨rfl, rfl, rfl, by decide +kernel, rfl, by decide +kernel, by decide +kernel⟩
theorem fs_all_come (B : Facts K mg) : FnS P w K mg base 6 "all_come" 2 f_all_come := by
  refine fn_defD (k := 5) B.d_all_come sc_all_come (fun _ _ _ _ _ _ us hl => match us, hl with | [_, _], _ => rfl) (fun f cdv A outer s H E ok => ?_)
  exact (sss_cons (ss_expr (se_fn ((fs_need_both B).mono (by decide)) ok.room ok.takes rfl (sa_cons (se_name 0) (sa_cons (se_name 1) sa_nil))))
  (sss_one (ss_ret (se_sf (sf_keysSort ok.calm ok.room.units rfl B.g_sorted (by rfl) (sb_se (se_fn ((fs_come_in B).mono (by decide)) ok.room ok.takes rfl (sa_cons (se_name 0) (sa_cons (se_name 1) sa_nil)))))))))

theorem sc_rests_in : FnScope ["book", "word", "told", "here"] ["book", "word"] (defScope s_rests_in) := ⟨rfl, rfl, rfl, by decide +kernel, rfl, by decide +kernel, by decide +kernel⟩
theorem fs_rests_in (B : Facts K mg) : FnS P w K mg base 4 "rests_in" 2 f_rests_in := by
  refine fn_defD (k := 3) B.d_rests_in sc_rests_in (fun _ _ _ _ _ _ us hl => match us, hl with | [_, _], _ => rfl) (fun f cdv A outer s H E ok => ?_)
  exact (sss_cons (ss_set (i := 2) ok.nd (se_fn ((fs_come_in B).mono (by decide)) ok.room ok.takes rfl (sa_cons (se_name 0) (sa_cons (se_name 1) sa_nil))))
  (sss_one (ss_ret (se_sf (sf_callB (cr_sortD ok.room.units) dcf_sort rfl B.g_sorted (by rfl) (sbs_cons (sb_se (se_sf (sf_lc (own := [("here", 3)]) ok.calm ok.nd (si_keys (se_name 2)) (blkOk_by (N := ["book", "word", "told", "here"]) (sc := defScope s_rests_in) (by decide +kernel)) (fun _ _ _ _ _ => (sg_name ok.nd)) (fun _ _ _ _ _ => (sts_one (st_cmp (op_eqD ok.room.units) dop_eq (sb_se (se_ixr (ix_all ok.room.units) dop_ixA (sb_name 2) (sb_name 3))) (sb_se (se_sf (sf_lst sa_nil)))))) (fun _ _ _ _ _ => (se_name 3))))) sbs_nil))))))

theorem sc_walked_rests : FnScope ["book", "word"] ["book", "word"] (defScope s_walked_rests) := ⟨rfl, rfl, rfl, by decide +kernel, rfl, by decide +kernel, by decide +kernel⟩
theorem fs_walked_rests (B : Facts K mg) : FnS P w K mg base 6 "walked_rests" 2 f_walked_rests := by
  refine fn_defD (k := 5) B.d_walked_rests sc_walked_rests (fun _ _ _ _ _ _ us hl => match us, hl with | [_, _], _ => rfl) (fun f cdv A outer s H E ok => ?_)
  exact (sss_cons (ss_expr (se_fn ((fs_need_both B).mono (by decide)) ok.room ok.takes rfl (sa_cons (se_name 0) (sa_cons (se_name 1) sa_nil))))
  (sss_one (ss_ret (se_fn ((fs_rests_in B).mono (by decide)) ok.room ok.takes rfl (sa_cons (se_name 0) (sa_cons (se_name 1) sa_nil))))))

theorem sc_order_in : FnScope ["told", "found", "left", "ends", "here", "there"] ["told"] (defScope s_order_in) := ⟨rfl, rfl, rfl, by decide +kernel, rfl, by decide +kernel, by decide +kernel⟩
theorem fs_order_in (B : Facts K mg) : FnS P w K mg base 1 "order_in" 1 f_order_in := by
  refine fn_defD (k := 0) B.d_order_in sc_order_in (fun _ _ _ _ _ _ us hl => match us, hl with | [_], _ => rfl) (fun f cdv A outer s H E ok => ?_)
  exact (sss_cons (ss_asg (se_tup (sa_cons (se_sf (sf_lst sa_nil)) (sa_cons (se_sf (sf_dcopy ok.room.units rfl B.g_dict (sb_name 0))) sa_nil))) (sg_tup ok.calm (sgs_cons (sg_name ok.nd) (sgs_cons (sg_name ok.nd) sgs_nil))))
  (sss_cons (ss_while ok.pass (st_cmp (op_neK ok.room.units) dop_neK (sb_name 2) (sb_se (se_sf sf_dnew)))
  (sss_cons (ss_set (i := 3) ok.nd (se_sf (sf_lc (own := [("here", 4)]) ok.calm ok.nd (si_keys (se_name 2)) (blkOk_by (N := ["told", "found", "left", "ends", "here", "there"]) (sc := defScope s_order_in) (by decide +kernel)) (fun _ _ _ _ _ => (sg_name ok.nd)) (fun _ _ _ _ _ => (sts_one (st_cmp (op_eqD ok.room.units) dop_eq (sb_se (se_sf (sf_lc (own := [("there", 5)]) ok.calm ok.nd (si_seq (se_ixr (ix_all ok.room.units) dop_ixA (sb_name 2) (sb_name 4))) (blkOk_by (by kernel_rfl)) (fun _ _ _ _ _ => (sg_name ok.nd)) (fun _ _ _ _ _ => (sts_one (st_cmp (op_inS ok.room.units65) dop_inA (sb_name 5) (sb_name 2)))) (fun _ _ _ _ _ => (se_name 5))))) (sb_se (se_sf (sf_lst sa_nil)))))) (fun _ _ _ _ _ => (se_name 4)))))
  (sss_cons (ss_if (st_cmp (op_eqD ok.room.units) dop_eq (sb_name 3) (sb_se (se_sf (sf_lst sa_nil))))
  (sss_one (ss_ret se_non))
  sss_nil)
  (sss_cons (ss_set (i := 1) ok.nd (se_sf (sf_op op_cat dopf_add (sb_name 1) (sb_se (se_sf (sf_callB (cr_sortD ok.room.units) dcf_sort rfl B.g_sorted (by rfl) (sbs_cons (sb_name 3) sbs_nil)))))))
  (sss_one (ss_set (i := 2) ok.nd (se_sf (sf_dpairs ok.calm ok.room.units rfl B.g_dict (sb_se (se_sf (sf_lc (own := [("here", 4)]) ok.calm ok.nd (si_keys (se_name 2)) (blkOk_by (N := ["told", "found", "left", "ends", "here", "there"]) (sc := defScope s_order_in) (by decide +kernel)) (fun _ _ _ _ _ => (sg_name ok.nd)) (fun _ _ _ _ _ => (sts_one (st_cmp (op_notInS ok.room.units65) dop_notInA (sb_name 4) (sb_name 3)))) (fun _ _ _ _ _ => (se_tup (sa_cons (se_name 4) (sa_cons (se_ixr (ix_all ok.room.units) dop_ixA (sb_name 2) (sb_name 4)) sa_nil)))))))))))))))
  (sss_one (ss_ret (se_name 1)))))

theorem sc_goes_on : FnScope ["book", "word"] ["book", "word"] (defScope s_goes_on) := ⟨rfl, rfl, rfl, by decide +kernel, rfl, by decide +kernel, by decide +kernel⟩
theorem fs_goes_on (B : Facts K mg) : FnS P w K mg base 6 "goes_on" 2 f_goes_on := by
  refine fn_defD (k := 5) B.d_goes_on sc_goes_on (fun _ _ _ _ _ _ us hl => match us, hl with | [_, _], _ => rfl) (fun f cdv A outer s H E ok => ?_)
  exact (sss_cons (ss_expr (se_fn ((fs_need_both B).mono (by decide)) ok.room ok.takes rfl (sa_cons (se_name 0) (sa_cons (se_name 1) sa_nil))))
  (sss_one (ss_ret (se_cmp op_isN dop_isN (sb_se (se_fn ((fs_order_in B).mono (by decide)) ok.room ok.takes rfl (sa_cons (se_fn ((fs_come_in B).mono (by decide)) ok.room ok.takes rfl (sa_cons (se_name 0) (sa_cons (se_name 1) sa_nil))) sa_nil))) (sb_se se_non)))))

theorem sc_longest : FnScope ["book", "word", "told", "order", "found", "here", "there"] ["book", "word"] (defScope s_longest) := ⟨rfl, rfl, rfl, by decide +kernel, rfl, by decide +kernel, by decide +kernel⟩
theorem fs_longest (B : Facts K mg) : FnS P w K mg base 6 "longest" 2 f_longest := by
  refine fn_defD (k := 5) B.d_longest sc_longest (fun _ _ _ _ _ _ us hl => match us, hl with | [_, _], _ => rfl) (fun f cdv A outer s H E ok => ?_)
  exact (sss_cons (ss_expr (se_fn ((fs_need_both B).mono (by decide)) ok.room ok.takes rfl (sa_cons (se_name 0) (sa_cons (se_name 1) sa_nil))))
  (sss_cons (ss_set (i := 2) ok.nd (se_fn ((fs_come_in B).mono (by decide)) ok.room ok.takes rfl (sa_cons (se_name 0) (sa_cons (se_name 1) sa_nil))))
  (sss_cons (ss_set (i := 3) ok.nd (se_fn ((fs_order_in B).mono (by decide)) ok.room ok.takes rfl (sa_cons (se_name 2) sa_nil)))
  (sss_cons (ss_if (st_cmp op_isN dop_isN (sb_name 3) (sb_se se_non))
  (sss_one (ss_raise0 ok.calm ok.takes B.x_NotEnding))
  sss_nil)
  (sss_cons (ss_setF (i := 4) ok.nd sf_dnew)
  (sss_cons (ss_for ok.pass ok.calm (si_seq (se_name 3)) (sg_name ok.nd)
  (sss_one (ss_putA (i := 4) ok.room.units (se_op op_addA dop_add (sb_se (se_callB (cr_maxD ok.calm ok.room.units) (dc_mm _) rfl B.g_max (by rfl) (sbs_cons (sb_se (se_sf (sf_op op_cat dopf_add (sb_se (se_sf (sf_lst (sa_cons (se_un un_neg dneg se_int) sa_nil)))) (sb_se (se_sf (sf_lc (own := [("there", 6)]) ok.calm ok.nd (si_seq (se_ixr (ix_all ok.room.units) dop_ixA (sb_name 2) (sb_name 5))) (blkOk_by (N := ["book", "word", "told", "order", "found", "here", "there"]) (sc := defScope s_longest) (by decide +kernel)) (fun _ _ _ _ _ => (sg_name ok.nd)) (fun _ _ _ _ _ => sts_nil) (fun _ _ _ _ _ => (se_ixr (ix_all ok.room.units) dop_ixA (sb_name 4) (sb_name 6))))))))) sbs_nil))) (sb_se se_int)) (se_name 5))))
  (sss_one (ss_ret (se_ixr (ix_all ok.room.units) dop_ixA (sb_name 4) (sb_name 1))))))))))

theorem sc__law_taken : FnScope ["_law_row", "_law_many", "_law_cell", "_law_found"] ["_law_row", "_law_many"] (defScope s__law_taken) := ⟨rfl, rfl, rfl, by decide +kernel, rfl, by decide +kernel, by decide +kernel⟩
theorem fs__law_taken (B : Facts K mg) : FnS P w K mg base 1 "_law_taken" 2 f__law_taken := by
  refine fn_defD (k := 0) B.d__law_taken sc__law_taken (fun _ _ _ _ _ _ us hl => match us, hl with | [_, _], _ => rfl) (fun f cdv A outer s H E ok => ?_)
  exact (sss_cons (ss_if (st_cmp (op_gtD ok.room.units) (dop_ord _) (sb_se (se_ixr (ix_all ok.room.units) dop_ixA (sb_name 0) (sb_se se_int))) (sb_se se_int))
  (sss_cons (ss_set (i := 3) ok.nd (se_op op_modN dop_mod (sb_se (se_callTy call_int1 dc_int rfl B.g_int (by rfl) (sbs_cons (sb_se (se_ixr (ix_all ok.room.units) dop_ixA (sb_name 0) (sb_se se_int))) sbs_nil))) (sb_name 1)))
  (sss_cons (ss_putA (i := 0) ok.room.units (se_op op_fdivW dop_fdiv (sb_se (se_ixr (ix_all ok.room.units) dop_ixA (sb_name 0) (sb_se se_int))) (sb_name 1)) se_int)
  (sss_one (ss_ret (se_name 3)))))
  sss_nil)
  (sss_cons (ss_putA (i := 0) ok.room.units (se_op op_addA dop_add (sb_se (se_ixr (ix_all ok.room.units) dop_ixA (sb_name 0) (sb_se se_int))) (sb_se se_int)) se_int)
  (sss_cons (ss_if (st_cmp (op_gtD ok.room.units) (dop_ord _) (sb_se (se_ixr (ix_all ok.room.units) dop_ixA (sb_name 0) (sb_se se_int))) (sb_se (se_callB call_len dc_len rfl B.g_len (by rfl) (sbs_cons (sb_se (se_ixr (ix_all ok.room.units) dop_ixA (sb_name 0) (sb_se se_int))) sbs_nil))))
  (sss_cons (ss_putA (i := 0) ok.room.units (se_op op_modN dop_mod (sb_se (se_callTy call_int1 dc_int rfl B.g_int (by rfl) (sbs_cons (sb_se (se_op op_addA dop_add (sb_se (se_op op_mulA dop_mulA (sb_se (se_ixr (ix_all ok.room.units) dop_ixA (sb_name 0) (sb_se se_int))) (sb_se se_int))) (sb_se se_int))) sbs_nil))) (sb_se se_int)) se_int)
  (sss_one (ss_ret (se_op op_modN dop_mod (sb_se (se_callTy call_int1 dc_int rfl B.g_int (by rfl) (sbs_cons (sb_se (se_op op_fdivW dop_fdiv (sb_se (se_ixr (ix_all ok.room.units) dop_ixA (sb_name 0) (sb_se se_int))) (sb_se se_int))) sbs_nil))) (sb_name 1)))))
  sss_nil)
  (sss_cons (ss_set (i := 2) ok.nd (se_ixr (ix_all ok.room.units) dop_ixA (sb_se (se_ixr (ix_all ok.room.units) dop_ixA (sb_name 0) (sb_se se_int))) (sb_se (se_op op_sub dop_sub (sb_se (se_ixr (ix_all ok.room.units) dop_ixA (sb_name 0) (sb_se se_int))) (sb_se se_int)))))
  (sss_cons (ss_putA (i := 0) ok.room.units (se_op op_modN dop_mod (sb_se (se_callTy call_int1 dc_int rfl B.g_int (by rfl) (sbs_cons (sb_se (se_op op_addA dop_add (sb_se (se_op op_addA dop_add (sb_se (se_op op_mulA dop_mulA (sb_se (se_ixr (ix_all ok.room.units) dop_ixA (sb_name 0) (sb_se se_int))) (sb_se se_int))) (sb_name 2))) (sb_se se_int))) sbs_nil))) (sb_se se_int)) se_int)
  (sss_cons (ss_if (st_cmp (op_geD ok.room.units) (dop_ord _) (sb_name 2) (sb_se (se_op op_pow dop_pow (sb_se se_int) (sb_se se_int))))
  (sss_one (ss_putA (i := 0) ok.room.units (se_op op_fdivW dop_fdiv (sb_name 2) (sb_name 1)) se_int))
  sss_nil)
  (sss_one (ss_ret (se_op op_modN dop_mod (sb_se (se_callTy call_int1 dc_int rfl B.g_int (by rfl) (sbs_cons (sb_name 2) sbs_nil))) (sb_name 1))))))))))

theorem sc__law_order : FnScope ["_law_row", "_law_many", "_law_turn", "_law_left", "_law_found", "_law_at"] ["_law_row", "_law_many"] (defScope s__law_order) := ⟨rfl, rfl, rfl, by decide +kernel, rfl, by decide +kernel, by decide +kernel⟩
theorem fs__law_order (B : Facts K mg) : FnS P w K mg base 2 "_law_order" 2 f__law_order := by
  refine fn_defD (k := 1) B.d__law_order sc__law_order (fun _ _ _ _ _ _ us hl => match us, hl with | [_, _], _ => rfl) (fun f cdv A outer s H E ok => ?_)
  exact (sss_cons (ss_par2 ok.calm ok.nd (sps_E (se_sf (sf_lstRg ok.calm rfl B.g_list rfl B.g_range (se_name 1))) (sps_F (sf_lst sa_nil) sps_nil)))
  (sss_cons (ss_for ok.pass ok.calm (si_range1 rfl B.g_range (se_name 1)) (sg_name ok.nd)
  (sss_cons (ss_set (i := 5) ok.nd (se_fnR (i := 0) ((fs__law_taken B).mono (by decide)) ok.room ok.takes rfl (sa_cons (se_callB call_len dc_len rfl B.g_len (by rfl) (sbs_cons (sb_name 3) sbs_nil)) sa_nil)))
  (sss_cons (ss_app (i := 4) (se_ixr (ix_all ok.room.units) dop_ixA (sb_name 3) (sb_name 5)))
  (sss_one (ss_set (i := 3) ok.nd (se_sf (sf_op op_cat dopf_add (sb_se (se_sf (sf_slice (sb_name 3) so_none (so_some (se_name 5))))) (sb_se (se_sf (sf_slice (sb_name 3) (so_some (se_op op_addA dop_add (sb_name 5) (sb_se se_int))) so_none))))))))))
  (sss_one (ss_ret (se_name 4)))))

theorem sc__law_letters : FnScope ["_law_row", "_law_many", "_law_long", "_law_k"] ["_law_row", "_law_many", "_law_long"] (defScope s__law_letters) := ⟨rfl, rfl, rfl, by decide +kernel, rfl, by decide +kernel, by decide +kernel⟩
theorem fs__law_letters (B : Facts K mg) : FnS P w K mg base 2 "_law_letters" 3 f__law_letters := by
  refine fn_defD (k := 1) B.d__law_letters sc__law_letters (fun _ _ _ _ _ _ us hl => match us, hl with | [_, _, _], _ => rfl) (fun f cdv A outer s H E ok => ?_)
  exact (sss_one (ss_ret (se_callTy call_tuple_of dc_tuple rfl B.g_tuple (by rfl) (sbs_cons (sb_se (se_sf (sf_lc (own := [("_law_k", 3)]) ok.calm ok.nd (si_range1 rfl B.g_range (se_name 2)) (blkOk_by (N := ["_law_row", "_law_many", "_law_long", "_law_k"]) (sc := defScope s__law_letters) (by decide +kernel)) (fun _ _ _ _ _ => (sg_name ok.nd)) (fun _ _ _ _ _ => sts_nil) (fun _ _ _ _ _ => (se_fnR (i := 0) ((fs__law_taken B).mono (by decide)) ok.room takes0 rfl (sa_cons (se_name 1) sa_nil)))))) sbs_nil))))

theorem sc__law_book : FnScope ["_law_row", "_law_most", "_law_long", "_law_order_here", "_law_turn", "_law_many", "_law_way", "_law_rules", "_law_size", "_law_left", "_law_right", "_law_one"] ["_law_row", "_law_most", "_law_long"] (defScope s__law_book) := ⟨rfl, rfl, rfl, by decide +kernel, rfl, by decide +kernel, by decide +kernel⟩
theorem fs__law_book (B : Facts K mg) : FnS P w K mg base 3 "_law_book" 3 f__law_book := by
  refine fn_defD (k := 2) B.d__law_book sc__law_book (fun _ _ _ _ _ _ us hl => match us, hl with | [_, _, _], _ => rfl) (fun f cdv A outer s H E ok => ?_)
  exact (sss_cons (ss_par3 ok.calm ok.nd (sps_E (se_op op_addA dop_add (sb_se se_int) (sb_se (se_fnR (i := 0) ((fs__law_taken B).mono (by decide)) ok.room ok.takes rfl (sa_cons (se_op op_sub dop_sub (sb_name 1) (sb_se se_int)) sa_nil)))) (sps_E (se_fnR (i := 0) ((fs__law_taken B).mono (by decide)) ok.room ok.takes rfl (sa_cons se_int sa_nil)) (sps_F sf_dnew sps_nil))))
  (sss_cons (ss_set (i := 3) ok.nd (se_fnR (i := 0) ((fs__law_order B).mono (by decide)) ok.room ok.takes rfl (sa_cons (se_name 5) sa_nil)))
  (sss_cons (ss_for ok.pass ok.calm (si_range1 rfl B.g_range (se_op op_addA dop_add (sb_se se_int) (sb_se (se_fnR (i := 0) ((fs__law_taken B).mono (by decide)) ok.room ok.takes rfl (sa_cons se_int sa_nil))))) (sg_name ok.nd)
  (sss_cons (ss_set (i := 8) ok.nd (se_op op_addA dop_add (sb_se se_int) (sb_se (se_fnR (i := 0) ((fs__law_taken B).mono (by decide)) ok.room ok.takes rfl (sa_cons (se_name 2) sa_nil)))))
  (sss_cons (ss_par2 ok.calm ok.nd (sps_E (se_fnR (i := 0) ((fs__law_letters B).mono (by decide)) ok.room ok.takes rfl (sa_cons (se_name 5) (sa_cons (se_name 8) sa_nil))) (sps_E (se_fnR (i := 0) ((fs__law_letters B).mono (by decide)) ok.room ok.takes rfl (sa_cons (se_name 5) (sa_cons (se_name 8) sa_nil))) sps_nil)))
  (sss_cons (ss_if (st_cmp (op_eqD ok.room.units) dop_eq (sb_name 6) (sb_se se_int))
  (sss_cons (ss_set (i := 10) ok.nd (se_rev (sb_name 9)))
  (sss_one (ss_if (st_cmp (op_gtD ok.room.units) (dop_ord _) (sb_name 9) (sb_name 10))
  (sss_one (ss_par2 ok.calm ok.nd (sps_E (se_name 10) (sps_E (se_name 9) sps_nil))))
  sss_nil)))
  sss_nil)
  (sss_cons (ss_if (st_w (sw_and (st_cmp (op_eqD ok.room.units) dop_eq (sb_name 6) (sb_se se_int)) (sw_and1 (st_cmp (op_gtD ok.room.units) (dop_ord _) (sb_se (se_ixr (ix_all ok.room.units) dop_ixA (sb_name 3) (sb_se (se_ixr (ix_all ok.room.units) dop_ixA (sb_name 10) (sb_se (se_un un_neg dneg se_int)))))) (sb_se (se_ixr (ix_all ok.room.units) dop_ixA (sb_name 3) (sb_se (se_ixr (ix_all ok.room.units) dop_ixA (sb_name 9) (sb_se (se_un un_neg dneg se_int))))))))))
  (sss_one (ss_par2 ok.calm ok.nd (sps_E (se_op op_addA dop_add (sb_se (se_slice (sb_name 9) so_none (so_some (se_un un_neg dneg se_int)))) (sb_se (se_slice (sb_name 10) (so_some (se_un un_neg dneg se_int)) so_none))) (sps_E (se_op op_addA dop_add (sb_se (se_slice (sb_name 10) so_none (so_some (se_un un_neg dneg se_int)))) (sb_se (se_slice (sb_name 9) (so_some (se_un un_neg dneg se_int)) so_none))) sps_nil))))
  sss_nil)
  (sss_cons (ss_if (st_w (sw_and (st_cmp (op_eqD ok.room.units) dop_eq (sb_name 6) (sb_se se_int)) (sw_and1 (st_cmp (op_gtD ok.room.units) (dop_ord _) (sb_se (se_ixr (ix_all ok.room.units) dop_ixA (sb_name 3) (sb_se (se_ixr (ix_all ok.room.units) dop_ixA (sb_name 10) (sb_se se_int))))) (sb_se (se_ixr (ix_all ok.room.units) dop_ixA (sb_name 3) (sb_se (se_ixr (ix_all ok.room.units) dop_ixA (sb_name 9) (sb_se se_int)))))))))
  (sss_one (ss_par2 ok.calm ok.nd (sps_E (se_op op_addA dop_add (sb_se (se_slice (sb_name 10) so_none (so_some se_int))) (sb_se (se_slice (sb_name 9) (so_some se_int) so_none))) (sps_E (se_op op_addA dop_add (sb_se (se_slice (sb_name 9) so_none (so_some se_int))) (sb_se (se_slice (sb_name 10) (so_some se_int) so_none))) sps_nil))))
  sss_nil)
  (sss_cons (ss_if (st_w (sw_and (st_cmp (op_eqD ok.room.units) dop_eq (sb_name 6) (sb_se se_int)) (sw_and1 (st_cmp (op_gtD ok.room.units) (dop_ord _) (sb_se (se_callB (cr_sumA ok.calm) dc_sumA rfl B.g_sum (by rfl) (sbs_cons (sb_se (se_sf (sf_lc (own := [("_law_one", 11)]) ok.calm ok.nd (si_seq (se_name 10)) (blkOk_by (N := ["_law_row", "_law_most", "_law_long", "_law_order_here", "_law_turn", "_law_many", "_law_way", "_law_rules", "_law_size", "_law_left", "_law_right", "_law_one"]) (sc := defScope s__law_book) (by decide +kernel)) (fun _ _ _ _ _ => (sg_name ok.nd)) (fun _ _ _ _ _ => sts_nil) (fun _ _ _ _ _ => (se_ixr (ix_all ok.room.units) dop_ixA (sb_name 3) (sb_name 11)))))) sbs_nil))) (sb_se (se_callB (cr_sumA ok.calm) dc_sumA rfl B.g_sum (by rfl) (sbs_cons (sb_se (se_sf (sf_lc (own := [("_law_one", 11)]) ok.calm ok.nd (si_seq (se_name 9)) (blkOk_by (N := ["_law_row", "_law_most", "_law_long", "_law_order_here", "_law_turn", "_law_many", "_law_way", "_law_rules", "_law_size", "_law_left", "_law_right", "_law_one"]) (sc := defScope s__law_book) (by decide +kernel)) (fun _ _ _ _ _ => (sg_name ok.nd)) (fun _ _ _ _ _ => sts_nil) (fun _ _ _ _ _ => (se_ixr (ix_all ok.room.units) dop_ixA (sb_name 3) (sb_name 11)))))) sbs_nil)))))))
  (sss_one (ss_par2 ok.calm ok.nd (sps_E (se_name 10) (sps_E (se_name 9) sps_nil))))
  sss_nil)
  (sss_one (ss_if (st_cmp (op_neD ok.room.units) dop_ne (sb_name 9) (sb_name 10))
  (sss_one (ss_putA (i := 7) ok.room.units se_bl (se_tup (sa_cons (se_name 9) (sa_cons (se_name 10) sa_nil)))))
  sss_nil)))))))))
  (sss_one (ss_ret (se_tup (sa_cons (se_name 5) (sa_cons (se_callTy call_tuple_of dc_tuple rfl B.g_tuple (by rfl) (sbs_cons (sb_se (se_sf (sf_keysSort ok.calm ok.room.units rfl B.g_sorted (by rfl) (sb_name 7)))) sbs_nil)) sa_nil))))))))

theorem sc__law_alike : FnScope ["_law_found", "_law_due", "_law_k"] ["_law_found", "_law_due"] (defScope s__law_alike) := ⟨rfl, rfl, rfl, by decide +kernel, rfl, by decide +kernel, by decide +kernel⟩
theorem fs__law_alike_n (B : Facts K mg) : ∀ n : Nat, n ≤ 8 → FnS P w K mg base (1 + n) "_law_alike" 2 (f__law_alike n)
  | 0, _ => fn_none B.d__law_alike sc__law_alike (fun _ _ _ _ _ _ us hl => match us, hl with | [_, _], _ => rfl)
  | n + 1, hn => by
    have ih := fs__law_alike_n B n (by omega)
    refine fn_defD B.d__law_alike sc__law_alike (fun _ _ _ _ _ _ us hl => match us, hl with | [_, _], _ => rfl) (fun f cdv A outer s H E ok => ?_)
    exact (sss_cons (ss_if (st_se (se_isi2 rfl B.g_isinstance (by rfl) (sb_name 1) rfl B.g_tuple (by rfl) rfl B.g_list (by rfl)))
  (sss_cons (ss_if (st_w (sw_or (st_not (st_se (se_isi2 rfl B.g_isinstance (by rfl) (sb_name 0) rfl B.g_tuple (by rfl) rfl B.g_list (by rfl)))) (sw_or1 (st_cmp (op_neD ok.room.units) dop_ne (sb_se (se_isi rfl B.g_isinstance (by rfl) (sb_name 0) rfl B.g_list (by rfl))) (sb_se (se_isi rfl B.g_isinstance (by rfl) (sb_name 1) rfl B.g_list (by rfl)))))))
  (sss_one (ss_ret se_bl))
  sss_nil)
  (sss_cons (ss_if (st_cmp (op_neD ok.room.units) dop_ne (sb_se (se_callB call_len dc_len rfl B.g_len (by rfl) (sbs_cons (sb_name 0) sbs_nil))) (sb_se (se_callB call_len dc_len rfl B.g_len (by rfl) (sbs_cons (sb_name 1) sbs_nil))))
  (sss_one (ss_ret se_bl))
  sss_nil)
  (sss_one (ss_ret (se_cmp (op_eqD ok.room.units) dop_eq (sb_se (se_sf (sf_lc (own := [("_law_k", 2)]) ok.calm ok.nd (si_range1 rfl B.g_range (se_callB call_len dc_len rfl B.g_len (by rfl) (sbs_cons (sb_name 1) sbs_nil))) (blkOk_by (N := ["_law_found", "_law_due", "_law_k"]) (sc := defScope s__law_alike) (by decide +kernel)) (fun _ _ _ _ _ => (sg_name ok.nd)) (fun _ _ _ _ _ => (sts_one (st_not (st_se (se_fn ih ok.room takes0 rfl (sa_cons (se_ixr (ix_all ok.room.units) dop_ixA (sb_name 0) (sb_name 2)) (sa_cons (se_ixr (ix_all ok.room.units) dop_ixA (sb_name 1) (sb_name 2)) sa_nil))))))) (fun _ _ _ _ _ => (se_name 2))))) (sb_se (se_sf (sf_lst sa_nil))))))))
  sss_nil)
  (sss_cons (ss_if (st_w (sw_or (st_cmp op_isN dop_isN (sb_name 1) (sb_se se_non)) (sw_or1 (st_se (se_isi rfl B.g_isinstance (by rfl) (sb_name 1) rfl B.g_str (by rfl))))))
  (sss_one (ss_ret (se_and (se_cmp (op_eqD ok.room.units) dop_eq (sb_name 0) (sb_name 1)) (se_one (se_cmp (op_eqD ok.room.units) dop_eq (sb_se (se_isi rfl B.g_isinstance (by rfl) (sb_name 0) rfl B.g_str (by rfl))) (sb_se (se_isi rfl B.g_isinstance (by rfl) (sb_name 1) rfl B.g_str (by rfl))))))))
  sss_nil)
  (sss_one (ss_ret (se_and (se_isi rfl B.g_isinstance (by rfl) (sb_name 0) rfl B.g_int (by rfl)) (se_and (se_cmp (op_eqD ok.room.units) dop_eq (sb_se (se_isi rfl B.g_isinstance (by rfl) (sb_name 0) rfl B.g_bool (by rfl))) (sb_se (se_isi rfl B.g_isinstance (by rfl) (sb_name 1) rfl B.g_bool (by rfl)))) (se_one (se_cmp (op_eqD ok.room.units) dop_eq (sb_name 0) (sb_name 1)))))))))
theorem fs__law_alike (B : Facts K mg) : FnS P w K mg base 9 "_law_alike" 2 (f__law_alike 8) := fs__law_alike_n B 8 (by decide)

theorem sc__law_steps : FnScope ["_law_book_here", "_law_word", "_law_found", "_law_left", "_law_right", "_law_rows", "_law_k", "_law_more", "_law_line", "_law_here", "_law_at"] ["_law_book_here", "_law_word"] (defScope s__law_steps) := ⟨rfl, rfl, rfl, by decide +kernel, rfl, by decide +kernel, by decide +kernel⟩
theorem fs__law_steps (B : Facts K mg) : FnS P w K mg base 1 "_law_steps" 2 f__law_steps := by
  refine fn_defD (k := 0) B.d__law_steps sc__law_steps (fun _ _ _ _ _ _ us hl => match us, hl with | [_, _], _ => rfl) (fun f cdv A outer s H E ok => ?_)
  exact (sss_cons (ss_setF (i := 2) ok.nd sf_dnew)
  (sss_cons (ss_for ok.pass ok.calm (si_seq (se_ixr (ix_all ok.room.units) dop_ixA (sb_name 0) (sb_se se_int))) (sg_tup ok.calm (sgs_cons (sg_name ok.nd) (sgs_cons (sg_name ok.nd) sgs_nil)))
  (sss_cons (ss_set (i := 5) ok.nd (se_sf (sf_lst (sa_cons (se_tup (sa_cons (se_tup sa_nil) (sa_cons (se_name 1) sa_nil))) sa_nil))))
  (sss_cons (ss_for ok.pass ok.calm (si_range1 rfl B.g_range (se_callB call_len dc_len rfl B.g_len (by rfl) (sbs_cons (sb_name 3) sbs_nil))) (sg_name ok.nd)
  (sss_cons (ss_setF (i := 7) ok.nd (sf_lst sa_nil))
  (sss_cons (ss_for ok.pass ok.calm (si_seq (se_name 5)) (sg_tup ok.calm (sgs_cons (sg_name ok.nd) (sgs_cons (sg_name ok.nd) sgs_nil)))
  (sss_one (ss_for ok.pass ok.calm (si_range2 rfl B.g_range (se_if (st_cmp (op_neD ok.room.units) dop_ne (sb_name 8) (sb_se (se_tup sa_nil))) (se_op op_addA dop_add (sb_se (se_ixr (ix_all ok.room.units) dop_ixA (sb_name 8) (sb_se (se_un un_neg dneg se_int)))) (sb_se se_int)) se_int) (se_callB call_len dc_len rfl B.g_len (by rfl) (sbs_cons (sb_name 1) sbs_nil))) (sg_name ok.nd)
  (sss_one (ss_if (st_cmp (op_eqD ok.room.units) dop_eq (sb_se (se_ixr (ix_all ok.room.units) dop_ixA (sb_name 1) (sb_name 10))) (sb_se (se_ixr (ix_all ok.room.units) dop_ixA (sb_name 3) (sb_name 6))))
  (sss_one (ss_app (i := 7) (se_tup (sa_cons (se_op op_addA dop_add (sb_name 8) (sb_se (se_tup (sa_cons (se_name 10) sa_nil)))) (sa_cons (se_op op_addA dop_add (sb_se (se_op op_addA dop_add (sb_se (se_slice (sb_name 9) so_none (so_some (se_name 10)))) (sb_se (se_tup (sa_cons (se_ixr (ix_all ok.room.units) dop_ixA (sb_name 4) (sb_name 6)) sa_nil))))) (sb_se (se_slice (sb_name 9) (so_some (se_op op_addA dop_add (sb_name 10) (sb_se se_int))) so_none))) sa_nil)))))
  sss_nil)))))
  (sss_one (ss_set (i := 5) ok.nd (se_name 7))))))
  (sss_one (ss_for ok.pass ok.calm (si_seq (se_name 5)) (sg_tup ok.calm (sgs_cons (sg_name ok.nd) (sgs_cons (sg_name ok.nd) sgs_nil)))
  (sss_one (ss_putA (i := 2) ok.room.units se_bl (se_name 9))))))))
  (sss_one (ss_ret (se_sf (sf_keysSort ok.calm ok.room.units rfl B.g_sorted (by rfl) (sb_name 2)))))))

theorem sc__law_walk : FnScope ["_law_book_here", "_law_word", "_law_found", "_law_rows", "_law_here"] ["_law_book_here", "_law_word"] (defScope s__law_walk) := ⟨rfl, rfl, rfl, by decide +kernel, rfl, by decide +kernel, by decide +kernel⟩
theorem fs__law_walk (B : Facts K mg) : FnS P w K mg base 2 "_law_walk" 2 f__law_walk := by
  refine fn_defD (k := 1) B.d__law_walk sc__law_walk (fun _ _ _ _ _ _ us hl => match us, hl with | [_, _], _ => rfl) (fun f cdv A outer s H E ok => ?_)
  exact (sss_cons (ss_par2 ok.calm ok.nd (sps_F sf_dnew (sps_E (se_sf (sf_lst (sa_cons (se_name 1) sa_nil))) sps_nil)))
  (sss_cons (ss_while ok.pass (st_cmp (op_neD ok.room.units) dop_ne (sb_name 3) (sb_se (se_sf (sf_lst sa_nil))))
  (sss_cons (ss_set (i := 4) ok.nd (se_ixr (ix_all ok.room.units) dop_ixA (sb_name 3) (sb_se se_int)))
  (sss_cons (ss_set (i := 3) ok.nd (se_sf (sf_slice (sb_name 3) (so_some se_int) so_none)))
  (sss_one (ss_if (st_cmp (op_notInS ok.room.units65) dop_notInA (sb_name 4) (sb_name 2))
  (sss_cons (ss_putA (i := 2) ok.room.units (se_fn ((fs__law_steps B).mono (by decide)) ok.room ok.takes rfl (sa_cons (se_name 0) (sa_cons (se_name 4) sa_nil))) (se_name 4))
  (sss_one (ss_set (i := 3) ok.nd (se_sf (sf_op op_cat dopf_add (sb_name 3) (sb_se (se_ixr (ix_all ok.room.units) dop_ixA (sb_name 2) (sb_name 4))))))))
  sss_nil)))))
  (sss_one (ss_ret (se_name 2)))))

theorem sc__law_layers : FnScope ["_law_told", "_law_found", "_law_left", "_law_calm", "_law_here", "_law_there"] ["_law_told"] (defScope s__law_layers) := ⟨rfl, rfl, rfl, by decide +kernel, rfl, by decide +kernel, by decide +kernel⟩
theorem fs__law_layers (B : Facts K mg) : FnS P w K mg base 1 "_law_layers" 1 f__law_layers := by
  refine fn_defD (k := 0) B.d__law_layers sc__law_layers (fun _ _ _ _ _ _ us hl => match us, hl with | [_], _ => rfl) (fun f cdv A outer s H E ok => ?_)
  exact (sss_cons (ss_asg (se_tup (sa_cons (se_sf (sf_lst sa_nil)) (sa_cons (se_sf (sf_listKeys ok.calm rfl B.g_list (sb_name 0))) sa_nil))) (sg_tup ok.calm (sgs_cons (sg_name ok.nd) (sgs_cons (sg_name ok.nd) sgs_nil))))
  (sss_cons (ss_while ok.pass (st_cmp (op_neD ok.room.units) dop_ne (sb_name 2) (sb_se (se_sf (sf_lst sa_nil))))
  (sss_cons (ss_set (i := 3) ok.nd (se_sf (sf_lc (own := [("_law_here", 4)]) ok.calm ok.nd (si_seq (se_name 2)) (blkOk_by (N := ["_law_told", "_law_found", "_law_left", "_law_calm", "_law_here", "_law_there"]) (sc := defScope s__law_layers) (by decide +kernel)) (fun _ _ _ _ _ => (sg_name ok.nd)) (fun _ _ _ _ _ => (sts_one (st_cmp (op_eqD ok.room.units) dop_eq (sb_se (se_sf (sf_lc (own := [("_law_there", 5)]) ok.calm ok.nd (si_seq (se_ixr (ix_all ok.room.units) dop_ixA (sb_name 0) (sb_name 4))) (blkOk_by (by kernel_rfl)) (fun _ _ _ _ _ => (sg_name ok.nd)) (fun _ _ _ _ _ => (sts_one (st_cmp (op_inS ok.room.units65) dop_inA (sb_name 5) (sb_name 2)))) (fun _ _ _ _ _ => (se_name 5))))) (sb_se (se_sf (sf_lst sa_nil)))))) (fun _ _ _ _ _ => (se_name 4)))))
  (sss_cons (ss_if (st_cmp (op_eqD ok.room.units) dop_eq (sb_name 3) (sb_se (se_sf (sf_lst sa_nil))))
  (sss_one (ss_ret se_non))
  sss_nil)
  (sss_one (ss_asg (se_tup (sa_cons (se_sf (sf_op op_cat dopf_add (sb_name 1) (sb_name 3))) (sa_cons (se_sf (sf_lc (own := [("_law_here", 4)]) ok.calm ok.nd (si_seq (se_name 2)) (blkOk_by (N := ["_law_told", "_law_found", "_law_left", "_law_calm", "_law_here", "_law_there"]) (sc := defScope s__law_layers) (by decide +kernel)) (fun _ _ _ _ _ => (sg_name ok.nd)) (fun _ _ _ _ _ => (sts_one (st_cmp (op_notInS ok.room.units65) dop_notInA (sb_name 4) (sb_name 3)))) (fun _ _ _ _ _ => (se_name 4)))) sa_nil))) (sg_tup ok.calm (sgs_cons (sg_name ok.nd) (sgs_cons (sg_name ok.nd) sgs_nil))))))))
  (sss_one (ss_ret (se_name 1)))))

theorem sc__law_last_ones : FnScope ["_law_told", "_law_here"] ["_law_told"] (defScope s__law_last_ones) := ⟨rfl, rfl, rfl, by decide +kernel, rfl, by decide +kernel, by decide +kernel⟩
theorem fs__law_last_ones (B : Facts K mg) : FnS P w K mg base 1 "_law_last_ones" 1 f__law_last_ones := by
  refine fn_defD (k := 0) B.d__law_last_ones sc__law_last_ones (fun _ _ _ _ _ _ us hl => match us, hl with | [_], _ => rfl) (fun f cdv A outer s H E ok => ?_)
  exact (sss_one (ss_ret (se_sf (sf_callB (cr_sortD ok.room.units) dcf_sort rfl B.g_sorted (by rfl) (sbs_cons (sb_se (se_sf (sf_lc (own := [("_law_here", 1)]) ok.calm ok.nd (si_keys (se_name 0)) (blkOk_by (N := ["_law_told", "_law_here"]) (sc := defScope s__law_last_ones) (by decide +kernel)) (fun _ _ _ _ _ => (sg_name ok.nd)) (fun _ _ _ _ _ => (sts_one (st_cmp (op_eqD ok.room.units) dop_eq (sb_se (se_ixr (ix_all ok.room.units) dop_ixA (sb_name 0) (sb_name 1))) (sb_se (se_sf (sf_lst sa_nil)))))) (fun _ _ _ _ _ => (se_name 1))))) sbs_nil)))))

theorem sc_law : FnScope ["_law_script", "_law_row", "_law_wide", "_law_long", "_law_word", "_law_told", "_law_order_here", "error", "_law_known", "_law_here", "_law_book_here", "_law_found", "_law_there"] ["_law_script"] (defScope s_law) := ⟨rfl, rfl, rfl, by decide +kernel, rfl, by decide +kernel, by decide +kernel⟩
theorem ok_law (B : Facts K mg) {f : Addr} {fd : FuncData} (F : FunD K "law" "law" (defArgs s_law) (defBody s_law) (defScope s_law) [] [] f fd) : FnOk P w K mg base (L2.CX P w) 10 f fd ["_law_script"] (spOf ⟨K, w, mg⟩ 1 f_law) := by
  refine fn_okD (k := 9) F sc_law (fun cdv A outer s H E ok => ?_)
  exact (sss_cons (ss_setF (i := 1) ok.nd (sf_lst (sa_cons (se_name 0) (sa_cons se_int (sa_cons se_int (sa_cons se_int sa_nil))))))
  (sss_cons (ss_par2 ok.calm ok.nd (sps_E (se_fnR (i := 1) ((fs__law_book B).mono (by decide)) ok.room ok.takes rfl (sa_cons se_int (sa_cons se_int sa_nil))) (sps_E se_non sps_nil)))
  (sss_cons (ss_set (i := 2) ok.nd (se_fnR (i := 1) ((fs__law_book B).mono (by decide)) ok.room ok.takes rfl (sa_cons se_int (sa_cons se_int sa_nil))))
  (sss_cons (ss_set (i := 3) ok.nd (se_fnR (i := 1) ((fs__law_letters B).mono (by decide)) ok.room ok.takes rfl (sa_cons (se_ixr (ix_all ok.room.units) dop_ixA (sb_name 2) (sb_se se_int)) (sa_cons (se_fnR (i := 1) ((fs__law_taken B).mono (by decide)) ok.room ok.takes rfl (sa_cons se_int sa_nil)) sa_nil))))
  (sss_cons (ss_if (st_not (st_se (se_fn ((fs__law_alike B).mono (by decide)) ok.room ok.takes rfl (sa_cons (se_fn ((fs_steps B).mono (by decide)) ok.room ok.takes rfl (sa_cons (se_name 2) (sa_cons (se_name 3) sa_nil))) (sa_cons (se_callTy call_tuple_of dc_tuple rfl B.g_tuple (by rfl) (sbs_cons (sb_se (se_fn ((fs__law_steps B).mono (by decide)) ok.room ok.takes rfl (sa_cons (se_name 2) (sa_cons (se_name 3) sa_nil)))) sbs_nil)) sa_nil)))))
  (sss_one (ss_ret se_bl))
  sss_nil)
  (sss_cons (ss_set (i := 4) ok.nd (se_fnR (i := 1) ((fs__law_letters B).mono (by decide)) ok.room ok.takes rfl (sa_cons (se_ixr (ix_all ok.room.units) dop_ixA (sb_name 10) (sb_se se_int)) (sa_cons (se_fnR (i := 1) ((fs__law_taken B).mono (by decide)) ok.room ok.takes rfl (sa_cons se_int sa_nil)) sa_nil))))
  (sss_cons (ss_set (i := 5) ok.nd (se_fn ((fs__law_walk B).mono (by decide)) ok.room ok.takes rfl (sa_cons (se_name 10) (sa_cons (se_name 4) sa_nil))))
  (sss_cons (ss_set (i := 6) ok.nd (se_fn ((fs__law_layers B).mono (by decide)) ok.room ok.takes rfl (sa_cons (se_name 5) sa_nil)))
  (sss_cons (ss_if (st_not (st_se (se_fn ((fs__law_alike B).mono (by decide)) ok.room ok.takes rfl (sa_cons (se_fn ((fs_all_come B).mono (by decide)) ok.room ok.takes rfl (sa_cons (se_name 10) (sa_cons (se_name 4) sa_nil))) (sa_cons (se_sf (sf_keysSort ok.calm ok.room.units rfl B.g_sorted (by rfl) (sb_name 5))) sa_nil)))))
  (sss_one (ss_ret se_bl))
  sss_nil)
  (sss_cons (ss_if (st_not (st_se (se_fn ((fs__law_alike B).mono (by decide)) ok.room ok.takes rfl (sa_cons (se_fn ((fs_walked_rests B).mono (by decide)) ok.room ok.takes rfl (sa_cons (se_name 10) (sa_cons (se_name 4) sa_nil))) (sa_cons (se_fn ((fs__law_last_ones B).mono (by decide)) ok.room ok.takes rfl (sa_cons (se_name 5) sa_nil)) sa_nil)))))
  (sss_one (ss_ret se_bl))
  sss_nil)
  (sss_cons (ss_if (st_not (st_se (se_fn ((fs__law_alike B).mono (by decide)) ok.room ok.takes rfl (sa_cons (se_fn ((fs_goes_on B).mono (by decide)) ok.room ok.takes rfl (sa_cons (se_name 10) (sa_cons (se_name 4) sa_nil))) (sa_cons (se_cmp op_isN dop_isN (sb_name 6) (sb_se se_non)) sa_nil)))))
  (sss_one (ss_ret se_bl))
  sss_nil)
  (sss_cons (ss_try (i := 7) ok B.tr_ScatterError (fun W pn xe ok => (sss_one (ss_set (i := 11) ok.nd (se_fn ((fs_longest B).mono (by decide)) ok.room ok.takes rfl (sa_cons (se_name 10) (sa_cons (se_name 4) sa_nil))))))
  (fun a oe C d pn e he hm hz hf => sx_ret (sx_and (sx_isi B.is_NotEnding he hm hz hf rfl B.g_isinstance (by rfl)) (se_one (se_cmp op_isN dop_isN (sb_name 6) (sb_se se_non))))))
  (sss_cons (ss_setF (i := 8) ok.nd sf_dnew)
  (sss_cons (ss_for ok.pass ok.calm (si_seq (se_if (st_cmp op_notN dop_notN (sb_name 6) (sb_se se_non)) (se_name 6) (se_sf (sf_lst sa_nil)))) (sg_name ok.nd)
  (sss_one (ss_putA (i := 8) ok.room.units (se_op op_addA dop_add (sb_se (se_callB (cr_maxD ok.calm ok.room.units) (dc_mm _) rfl B.g_max (by rfl) (sbs_cons (sb_se (se_sf (sf_op op_cat dopf_add (sb_se (se_sf (sf_lst (sa_cons (se_un un_neg dneg se_int) sa_nil)))) (sb_se (se_sf (sf_lc (own := [("_law_there", 12)]) ok.calm ok.nd (si_seq (se_ixr (ix_all ok.room.units) dop_ixA (sb_name 5) (sb_name 9))) (blkOk_by (N := ["_law_script", "_law_row", "_law_wide", "_law_long", "_law_word", "_law_told", "_law_order_here", "error", "_law_known", "_law_here", "_law_book_here", "_law_found", "_law_there"]) (sc := defScope s_law) (by decide +kernel)) (fun _ _ _ _ _ => (sg_name ok.nd)) (fun _ _ _ _ _ => sts_nil) (fun _ _ _ _ _ => (se_ixr (ix_all ok.room.units) dop_ixA (sb_name 8) (sb_name 12))))))))) sbs_nil))) (sb_se se_int)) (se_name 9))))
  (sss_one (ss_ret (se_and (se_cmp op_notN dop_notN (sb_name 6) (sb_se se_non)) (se_one (se_fn ((fs__law_alike B).mono (by decide)) ok.room ok.takes rfl (sa_cons (se_name 11) (sa_cons (se_ixr (ix_all ok.room.units) dop_ixA (sb_name 8) (sb_name 4)) sa_nil)))))))))))))))))))))

end
end L2.Wk
set_option Elab.async false
set_option linter.all false
set_option maxRecDepth 100000
set_option maxHeartbeats 2000000
namespace L2.Sc
open PySem PySem.Spec PyProof.Rows

theorem dataLt_int (a b : Int) : PySem.W.dataLt (.int a) (.int b) = decide (a < b) := by
  have h := congrFun (congrFun (PySem.W.dataLe_int (β := Int) id) b) a
  rw [PySem.W.dataLe_eq] at h
  have h : (!PySem.W.dataLt (.int a) (.int b)) = decide (b ≤ a) := h
  by_cases hab : a < b
  · have : ¬ b ≤ a := by omega
    rw [decide_eq_false this] at h
    rw [decide_eq_true hab]
    simpa using h
  · have : b ≤ a := by omega
    rw [decide_eq_true this] at h
    rw [decide_eq_false hab]
    simpa using h
theorem canLay_map {α : Type} {f : α → D} (h : ∀ a, PyData.canLay0 (f a) = true) : ∀ xs : List α, PyData.canLayAll0 (xs.map f) = true
  | [] => rfl
  | x :: xs => by rw [List.map_cons, PyData.canLayAll0, h x, canLay_map h xs]; rfl
theorem depth_map {α : Type} {f : α → D} {n : Nat} (h : ∀ a, (f a).depth ≤ n) : ∀ xs : List α, PyData.depthAll (xs.map f) ≤ n
  | [] => Nat.zero_le _
  | x :: xs => by rw [List.map_cons, PyData.depthAll]; exact Nat.max_le.mpr ⟨h x, depth_map h xs⟩
theorem eqvAll_map {α : Type} [DecidableEq α] {f : α → D} (h : ∀ a b, PyData.eqv (f a) (f b) = decide (a = b)) : ∀ xs ys : List α, PyData.eqvAll (xs.map f) (ys.map f) = decide (xs = ys)
  | [], [] => by simp [PyData.eqvAll]
  | x :: xs, [] => by simp [PyData.eqvAll]
  | [], y :: ys => by simp [PyData.eqvAll]
  | x :: xs, y :: ys => by
    rw [List.map_cons, List.map_cons, PyData.eqvAll, h, eqvAll_map h]
    by_cases h1 : x = y <;> by_cases h2 : xs = ys <;> simp [h1, h2]
theorem alikeAll_map {α : Type} {f : α → D} (h : ∀ a b, PySem.W.alike (f a) (f b) = true) : ∀ xs ys : List α, PySem.W.alikeAll (xs.map f) (ys.map f) = true
  | [], _ => by rw [List.map_nil, PySem.W.alikeAll]
  | x :: xs, [] => by rw [List.map_nil, List.map_cons, PySem.W.alikeAll]
  | x :: xs, y :: ys => by rw [List.map_cons, List.map_cons, PySem.W.alikeAll, h, alikeAll_map h]; rfl
/-- how a kind of value stands as data: laid, of small depth, equality of data is equality, all alike; its key in a dict -/
class Enc (α : Type) where
  enc : α → D
  dep : Nat
  key : α → NestedKey
  lay : ∀ a, PyData.canLay0 (enc a) = true
  depth : ∀ a, (enc a).depth ≤ dep
  eqv : ∀ a b, PyData.eqv (enc a) (enc b) = true ↔ a = b
  alike : ∀ a b, PySem.W.alike (enc a) (enc b) = true
  nn : ∀ a, enc a ≠ .none
  nk : ∀ a, nk (enc a) = some (key a)
  kdep : ∀ a, (key a).depth ≤ dep
  kinj : ∀ a b, key a = key b → a = b
open Enc
theorem eqvAll_iff {α : Type} {f : α → D} (h : ∀ a b, PyData.eqv (f a) (f b) = true ↔ a = b) : ∀ xs ys : List α, PyData.eqvAll (xs.map f) (ys.map f) = true ↔ xs = ys
  | [], [] => by simp [PyData.eqvAll]
  | x :: xs, [] => by simp [PyData.eqvAll]
  | [], y :: ys => by simp [PyData.eqvAll]
  | x :: xs, y :: ys => by
    rw [List.map_cons, List.map_cons, PyData.eqvAll, Bool.and_eq_true, h, eqvAll_iff h, List.cons.injEq]
theorem nks_map {α : Type} {f : α → D} {g : α → NestedKey} (h : ∀ a, Sc.nk (f a) = some (g a)) : ∀ xs : List α, nks (xs.map f) = some (xs.map g)
  | [] => by simp [nks]
  | x :: xs => by rw [List.map_cons, nks, h, nks_map h]; rfl
theorem kdep_map {α : Type} {g : α → NestedKey} {n : Nat} (h : ∀ a, (g a).depth ≤ n) : ∀ xs : List α, NestedKey.depthAll (xs.map g) ≤ n
  | [] => by simp [NestedKey.depthAll]
  | x :: xs => by rw [List.map_cons, NestedKey.depthAll]; exact Nat.max_le.mpr ⟨h x, kdep_map h xs⟩
instance : Enc Int where
  enc := .int
  dep := 0
  key := .num
  lay _ := rfl
  depth _ := Nat.le_refl _
  eqv a b := by simp [PyData.eqv]
  alike _ _ := by simp [PySem.W.alike]
  nn _ h := nomatch h
  nk _ := by rw [Sc.nk]
  kdep _ := by simp [NestedKey.depth]
  kinj a b h := by injection h
instance : Enc Nat where
  enc n := .int (n : Int)
  dep := 0
  key n := .num (n : Int)
  lay _ := rfl
  depth _ := Nat.le_refl _
  eqv a b := by
    simp only [PyData.eqv, beq_iff_eq]
    omega
  alike _ _ := by simp [PySem.W.alike]
  nn _ h := nomatch h
  nk _ := by rw [Sc.nk]
  kdep _ := by simp [NestedKey.depth]
  kinj a b h := by
    injection h with h
    exact Int.ofNat.inj h
instance : Enc Bool where
  enc := .bool
  dep := 0
  key b := .num (if b = true then 1 else 0)
  lay _ := rfl
  depth _ := Nat.le_refl _
  eqv a b := by simp [PyData.eqv]
  alike _ _ := by simp [PySem.W.alike]
  nn _ h := nomatch h
  nk _ := by rw [Sc.nk]
  kdep _ := by simp [NestedKey.depth]
  kinj a b h := by
    injection h with h
    cases a <;> cases b <;> simp_all
instance {α : Type} [Enc α] : Enc (List α) where
  enc xs := .tuple (xs.map enc)
  dep := dep α + 1
  key xs := .tup (xs.map key)
  lay xs := by rw [PyData.canLay0]; exact canLay_map lay xs
  depth xs := by rw [PyData.depth]; exact Nat.succ_le_succ (depth_map depth xs)
  eqv a b := by rw [PyData.eqv]; exact eqvAll_iff eqv a b
  alike a b := by rw [PySem.W.alike]; exact alikeAll_map alike a b
  nn _ h := nomatch h
  nk xs := by rw [Sc.nk, nks_map Enc.nk]; rfl
  kdep xs := by rw [NestedKey.depth]; exact Nat.succ_le_succ (kdep_map kdep xs)
  kinj a b h := by
    injection h with h
    exact List.map_inj_right (fun _ _ => kinj _ _) |>.mp h
instance {α β : Type} [Enc α] [Enc β] : Enc (α × β) where
  enc p := .tuple [enc p.1, enc p.2]
  dep := max (dep α) (dep β) + 1
  key p := .tup [key p.1, key p.2]
  lay p := by simp [PyData.canLay0, PyData.canLayAll0, lay]
  depth p := by
    have h1 := depth p.1
    have h2 := depth p.2
    simp only [PyData.depth, PyData.depthAll]
    omega
  eqv a b := by simp [PyData.eqv, PyData.eqvAll, eqv, Prod.ext_iff]
  alike a b := by simp [PySem.W.alike, PySem.W.alikeAll, alike]
  nn _ h := nomatch h
  nk p := by simp [Sc.nk, nks, Enc.nk]
  kdep p := by
    have h1 := kdep p.1
    have h2 := kdep p.2
    simp only [NestedKey.depth, NestedKey.depthAll]
    omega
  kinj a b h := by
    injection h with h
    injection h with h1 h2
    injection h2 with h2 _
    exact Prod.ext (kinj _ _ h1) (kinj _ _ h2)
theorem enc_int (i : Int) : enc i = .int i := rfl
theorem enc_bool (b : Bool) : enc b = .bool b := rfl
theorem enc_nat (n : Nat) : enc n = .int (n : Int) := rfl
theorem enc_list {α : Type} [Enc α] (xs : List α) : enc xs = .tuple (xs.map enc) := rfl
theorem enc_pair {α β : Type} [Enc α] [Enc β] (a : α) (b : β) : enc (a, b) = .tuple [enc a, enc b] := rfl
section
variable {α : Type} [Enc α]
theorem shaped_enc (h : dep α ≤ 64) (a : α) : SeqAt.shaped (enc a) = true := by
  unfold SeqAt.shaped
  rw [lay, decide_eq_true (Nat.le_trans (depth a) h)]
  rfl
theorem shaped_list (h : dep α ≤ 63) (xs : List α) : SeqAt.shaped (.list (xs.map enc)) = true := by
  unfold SeqAt.shaped
  rw [PyData.canLay0, canLay_map lay, decide_eq_true]
  · rfl
  · rw [PyData.depth]; exact Nat.succ_le_succ (Nat.le_trans (depth_map depth xs) h)
theorem eqB_enc [DecidableEq α] (a b : α) (h : dep α ≤ 64 := by decide) : eqB (enc a) (enc b) = some (decide (a = b)) := by
  unfold eqB
  rw [if_pos ⟨shaped_enc h a, shaped_enc h b⟩]
  congr 1
  by_cases e : a = b
  · rw [decide_eq_true e]; exact (eqv a b).mpr e
  · rw [decide_eq_false e]
    cases q : PyData.eqv (enc a) (enc b) with
    | false => rfl
    | true => exact (e ((eqv a b).mp q)).elim
theorem neB_enc [DecidableEq α] (a b : α) (h : dep α ≤ 64 := by decide) : neB (enc a) (enc b) = some (!decide (a = b)) := by
  unfold neB
  rw [eqB_enc a b h]
  rfl
theorem eqB_list [DecidableEq α] (xs ys : List α) (h : dep α ≤ 63 := by decide) : eqB (.list (xs.map enc)) (.list (ys.map enc)) = some (decide (xs = ys)) := by
  unfold eqB
  rw [if_pos ⟨shaped_list h xs, shaped_list h ys⟩, PyData.eqv]
  congr 1
  have := eqvAll_iff (f := (enc : α → D)) eqv xs ys
  by_cases e : xs = ys
  · rw [decide_eq_true e]; exact this.mpr e
  · rw [decide_eq_false e]
    cases q : PyData.eqvAll (xs.map enc) (ys.map enc) with
    | false => rfl
    | true => exact (e (this.mp q)).elim
theorem eqB_nil (xs : List α) (h : dep α ≤ 63 := by decide) : eqB (.list (xs.map enc)) (.list []) = some xs.isEmpty := by
  unfold eqB
  have e0 : SeqAt.shaped (.list []) = true := by decide
  rw [if_pos ⟨shaped_list h xs, e0⟩, PyData.eqv]
  cases xs <;> simp [PyData.eqvAll]
theorem neB_nil (xs : List α) (h : dep α ≤ 63 := by decide) : neB (.list (xs.map enc)) (.list []) = some (!xs.isEmpty) := by
  unfold neB
  rw [eqB_nil xs h]
  rfl
theorem ordB_enc (p : D → D → Bool) (a b : α) (h : dep α ≤ 60 := by decide) : ordB p (enc a) (enc b) = some (p (enc a) (enc b)) := by
  unfold ordB ordOk depthOk
  have e : notNone (enc a) = true := by
    cases q : enc a <;> first | rfl | exact (nn a q).elim
  rw [alike, lay, lay, e, decide_eq_true (Nat.le_trans (depth a) h)]
  rfl
end
theorem eqB_bool (a b : Bool) : eqB (.bool a) (.bool b) = some (decide (a = b)) := eqB_enc (α := Bool) a b
theorem neB_bool (a b : Bool) : neB (.bool a) (.bool b) = some (!decide (a = b)) := neB_enc (α := Bool) a b
theorem eqB_int (a b : Int) : eqB (.int a) (.int b) = some (decide (a = b)) := eqB_enc a b
theorem neB_int (a b : Int) : neB (.int a) (.int b) = some (!decide (a = b)) := neB_enc a b
theorem ltB_int (a b : Int) : ordB PySem.W.dataLt (.int a) (.int b) = some (decide (a < b)) := by
  rw [show ordB PySem.W.dataLt (.int a) (.int b) = _ from ordB_enc (α := Int) _ a b]
  exact congrArg some (dataLt_int a b)
theorem gtB_int (a b : Int) : ordB (fun a b => PySem.W.dataLt b a) (.int a) (.int b) = some (decide (b < a)) := by
  rw [show ordB (fun a b => PySem.W.dataLt b a) (.int a) (.int b) = _ from ordB_enc (α := Int) _ a b]
  exact congrArg some (dataLt_int b a)
theorem leB_int (a b : Int) : ordB (fun a b => !PySem.W.dataLt b a) (.int a) (.int b) = some (decide (a ≤ b)) := by
  rw [show ordB (fun a b => !PySem.W.dataLt b a) (.int a) (.int b) = _ from ordB_enc (α := Int) _ a b]
  have : (!PySem.W.dataLt (.int b) (.int a)) = decide (a ≤ b) := by rw [dataLt_int]; by_cases h : b < a <;> simp [h, Int.not_le.mpr, Int.not_lt.mp] <;> omega
  exact congrArg some this
theorem geB_int (a b : Int) : ordB (fun a b => !PySem.W.dataLt a b) (.int a) (.int b) = some (decide (b ≤ a)) := by
  rw [show ordB (fun a b => !PySem.W.dataLt a b) (.int a) (.int b) = _ from ordB_enc (α := Int) _ a b]
  have : (!PySem.W.dataLt (.int a) (.int b)) = decide (b ≤ a) := by rw [dataLt_int]; by_cases h : a < b <;> simp [h] <;> omega
  exact congrArg some this
/-- one turn -/
def forT (g : TgF) (b : MS) (d : D) (ρ : List Sl) : Fl := match g d ρ with
  | none => .stuck
  | some ρ1 => b ρ1
theorem forL_cons {g : TgF} {b : MS} {d : D} {ds : List D} {ρ : List Sl} : forL g b (d :: ds) ρ = (forT g b d ρ).turn (forL g b ds) := by
  unfold forT
  rw [forL]
  cases g d ρ <;> rfl
/-- for: I says how the state stands ahead of the rest of the list -/
theorem forL_inv {α : Type} {g : TgF} {b : MS} (f : α → D) (I : List α → List Sl → Prop) (step : ∀ d rest ρ, I (d :: rest) ρ → ∃ ρ', (forT g b (f d) ρ = .nx ρ' ∨ forT g b (f d) ρ = .ct ρ') ∧ I rest ρ') :
    ∀ (ds : List α) (ρ : List Sl), I ds ρ → ∃ ρ', forL g b (ds.map f) ρ = .nx ρ' ∧ I [] ρ'
  | [], ρ, h => ⟨ρ, rfl, h⟩
  | d :: ds, ρ, h => by
    obtain ⟨ρ', e2, h'⟩ := step d ds ρ h
    obtain ⟨ρ2, e3, h2⟩ := forL_inv f I step ds ρ' h'
    refine ⟨ρ2, ?_, h2⟩
    rw [List.map_cons, forL_cons]
    rcases e2 with e2 | e2
    · rw [e2]; exact e3
    · rw [e2]; exact e3
/-- where each turn keeps S -/
theorem forL_keep {α : Type} {g : TgF} {b : MS} (f : α → D) (S : List Sl → Prop) : ∀ (xs : List α) (ρ : List Sl), (∀ x ∈ xs, ∀ ρ, S ρ → ∃ ρ', forT g b (f x) ρ = .nx ρ' ∧ S ρ') → S ρ → ∃ ρ', forL g b (xs.map f) ρ = .nx ρ' ∧ S ρ'
  | [], ρ, _, h => ⟨ρ, rfl, h⟩
  | x :: xs, ρ, hs, h => by
    obtain ⟨ρ1, e1, h1⟩ := hs x (List.mem_cons_self ..) ρ h
    obtain ⟨ρ2, e2, h2⟩ := forL_keep f S xs ρ1 (fun y hy => hs y (List.mem_cons_of_mem _ hy)) h1
    refine ⟨ρ2, ?_, h2⟩
    rw [List.map_cons, forL_cons, e1]
    exact e2
/-- a fold: I tells the state by what has been folded -/
theorem forL_fold {α σ : Type} {g : TgF} {b : MS} (f : α → D) (I : σ → List Sl → Prop) (step : σ → α → σ) : ∀ (xs : List α) (t : σ) (ρ : List Sl), (∀ x ∈ xs, ∀ t ρ, I t ρ → ∃ ρ', forT g b (f x) ρ = .nx ρ' ∧ I (step t x) ρ') → I t ρ → ∃ ρ', forL g b (xs.map f) ρ = .nx ρ' ∧ I (xs.foldl step t) ρ'
  | [], t, ρ, _, h => ⟨ρ, rfl, h⟩
  | x :: xs, t, ρ, hs, h => by
    obtain ⟨ρ1, e1, h1⟩ := hs x (List.mem_cons_self ..) t ρ h
    obtain ⟨ρ2, e2, h2⟩ := forL_fold f I step xs (step t x) ρ1 (fun y hy => hs y (List.mem_cons_of_mem _ hy)) h1
    refine ⟨ρ2, ?_, h2⟩
    rw [List.map_cons, forL_cons, e1]
    exact e2
/-- the same with return and break -/
theorem forL_inv2 {α : Type} {g : TgF} {b : MS} (f : α → D) (I : List α → List Sl → Prop) (Rt : D → List Sl → Prop) (Bk : List Sl → Prop) (step : ∀ d rest ρ, I (d :: rest) ρ → (∃ ρ', (forT g b (f d) ρ = .nx ρ' ∨ forT g b (f d) ρ = .ct ρ') ∧ I rest ρ') ∨ (∃ v ρ', forT g b (f d) ρ = .rt v ρ' ∧ Rt v ρ') ∨ ∃ ρ', forT g b (f d) ρ = .bk ρ' ∧ Bk ρ') :
    ∀ (ds : List α) (ρ : List Sl), I ds ρ → (∃ ρ', forL g b (ds.map f) ρ = .nx ρ' ∧ (I [] ρ' ∨ Bk ρ')) ∨ ∃ v ρ', forL g b (ds.map f) ρ = .rt v ρ' ∧ Rt v ρ'
  | [], ρ, h => .inl ⟨ρ, rfl, .inl h⟩
  | d :: ds, ρ, h => by
    rw [List.map_cons, forL_cons]
    rcases step d ds ρ h with ⟨ρ', e2, h'⟩ | ⟨v, ρ', e2, h'⟩ | ⟨ρ', e2, h'⟩
    · have ih := forL_inv2 f I Rt Bk step ds ρ' h'
      rcases e2 with e2 | e2
      · rw [e2]; exact ih
      · rw [e2]; exact ih
    · rw [e2]; exact .inr ⟨v, ρ', rfl, h'⟩
    · rw [e2]; exact .inl ⟨ρ', rfl, .inr h'⟩
/-- one turn of a comprehension: what it gives, the state behind it -/
def lcT (own : List Nat) (g : TgF) (ft : M Bool) (fe : M D) (d : D) (ρ : List Sl) : Option (Option D × List Sl) := match g d ρ with
  | none => none
  | some ρa => match ft ρa with
    | .ok true ρb => match fe ρb with
      | .ok y ρc => some (some y, wipeR ρc own)
      | _ => none
    | .ok false ρb => some (none, wipeR ρb own)
    | _ => none
theorem lcL_cons {own : List Nat} {g : TgF} {ft : M Bool} {fe : M D} {d : D} {ds acc : List D} {ρ : List Sl} : lcL own g ft fe (d :: ds) acc ρ = match lcT own g ft fe d ρ with
    | none => .stuck
    | some (none, ρ') => lcL own g ft fe ds acc ρ'
    | some (some y, ρ') => if acc.length < sizeLine then lcL own g ft fe ds (acc ++ [y]) ρ' else .stuck := by
  unfold lcT
  rw [lcL]
  cases g d ρ with
  | none => rfl
  | some ρa =>
    dsimp only
    cases ft ρa with
    | ok c ρb =>
      cases c with
      | true => dsimp only; cases fe ρb <;> rfl
      | false => rfl
    | _ => rfl
/-- [e for t in xs if c]: I the state ahead of the rest, behind what is given -/
theorem lcL_inv {α : Type} {own : List Nat} {g : TgF} {ft : M Bool} {fe : M D} (f : α → D) (I : List α → List D → List Sl → Prop)
    (step : ∀ d rest acc ρ, I (d :: rest) acc ρ → acc.length < sizeLine ∧ ∃ o ρ', lcT own g ft fe (f d) ρ = some (o, ρ') ∧ I rest (acc ++ o.toList) ρ') :
    ∀ (ds : List α) (acc : List D) (ρ : List Sl), I ds acc ρ → ∃ out ρ', lcL own g ft fe (ds.map f) acc ρ = .ok out ρ' ∧ I [] out ρ'
  | [], acc, ρ, h => ⟨acc, ρ, rfl, h⟩
  | d :: ds, acc, ρ, h => by
    obtain ⟨hz, o, ρ1, e1, h1⟩ := step d ds acc ρ h
    obtain ⟨out, ρ2, e2, h2⟩ := lcL_inv f I step ds _ ρ1 h1
    refine ⟨out, ρ2, ?_, h2⟩
    rw [List.map_cons, lcL_cons, e1]
    cases o with
    | none => simpa using e2
    | some y => dsimp only; rw [if_pos hz]; exact e2
/-- the same where nothing but the own slots changes: ρ0 the state, wiped -/
theorem lcL_pure {α : Type} {own : List Nat} {g : TgF} {ft : M Bool} {fe : M D} {ρ0 : List Sl} (f : α → D) (keep : α → Bool) (out : α → D) : ∀ (xs : List α) (acc : List D), acc.length + xs.length ≤ sizeLine →
    (∀ x ∈ xs, lcT own g ft fe (f x) ρ0 = some (if keep x = true then some (out x) else none, ρ0)) →
    lcL own g ft fe (xs.map f) acc ρ0 = .ok (acc ++ (xs.filter keep).map out) ρ0
  | [], acc, _, _ => by simp [lcL]
  | x :: xs, acc, hz, h => by
    have h1 := h x (List.mem_cons_self ..)
    rw [List.map_cons, lcL_cons, h1]
    cases hk : keep x with
    | false =>
      rw [List.filter_cons_of_neg (by simp [hk]), if_neg (by simp)]
      exact lcL_pure f keep out xs acc (by simp at hz; omega) (fun y hy => h y (List.mem_cons_of_mem _ hy))
    | true =>
      rw [List.filter_cons_of_pos hk, if_pos rfl]
      dsimp only
      rw [if_pos (by simp at hz; omega), lcL_pure f keep out xs (acc ++ [out x]) (by simp at hz ⊢; omega) (fun y hy => h y (List.mem_cons_of_mem _ hy))]
      simp
/-- .. and nothing is left out -/
theorem lcL_map {α : Type} {own : List Nat} {g : TgF} {ft : M Bool} {fe : M D} {ρ0 : List Sl} (f : α → D) (out : α → D) (xs : List α) (hz : xs.length ≤ sizeLine) (h : ∀ x ∈ xs, lcT own g ft fe (f x) ρ0 = some (some (out x), ρ0)) :
    lcL own g ft fe (xs.map f) [] ρ0 = .ok (xs.map out) ρ0 := by
  have := lcL_pure f (fun _ => true) out xs [] (by simpa using hz) (fun x hx => by rw [h x hx, if_pos rfl])
  rwa [List.filter_eq_self.mpr (fun _ _ => rfl)] at this
end L2.Sc
set_option Elab.async false
set_option linter.all false
set_option maxRecDepth 100000
set_option maxHeartbeats 2000000
namespace L2.Sc
open PySem PySem.Spec PyProof.Rows
section
variable {α β : Type} {a : α} {ρ ρ' : List Sl} {d : D} {e : Ex} {g : α → M β} {gs : α → MS} {m : MS}
theorem Res.bind_ok : (Res.ok a ρ).bind g = g a ρ := rfl
theorem Res.bind_err : (Res.err e ρ : Res α).bind g = .err e ρ := rfl
theorem Res.bind_stuck : (Res.stuck : Res α).bind g = .stuck := rfl
theorem Res.bind_ite {c : Prop} [Decidable c] {r s : Res α} : (if c then r else s).bind g = if c then r.bind g else s.bind g := by split <;> rfl
theorem Res.st_ok : (Res.ok a ρ).st gs = gs a ρ := rfl
theorem Res.st_err : (Res.err e ρ : Res α).st gs = .er e ρ := rfl
theorem Res.st_stuck : (Res.stuck : Res α).st gs = .stuck := rfl
theorem Res.st_ite {c : Prop} [Decidable c] {r s : Res α} : (if c then r else s).st gs = if c then r.st gs else s.st gs := by split <;> rfl
theorem Fl.seq_nx : (Fl.nx ρ).seq m = m ρ := rfl
theorem Fl.seq_rt : (Fl.rt d ρ).seq m = .rt d ρ := rfl
theorem Fl.seq_bk : (Fl.bk ρ).seq m = .bk ρ := rfl
theorem Fl.seq_ct : (Fl.ct ρ).seq m = .ct ρ := rfl
theorem Fl.seq_er : (Fl.er e ρ).seq m = .er e ρ := rfl
theorem Fl.seq_stuck : Fl.stuck.seq m = .stuck := rfl
theorem Fl.seq_ite {c : Prop} [Decidable c] {r s : Fl} : (if c then r else s).seq m = if c then r.seq m else s.seq m := by split <;> rfl
theorem bind_ap {f : M α} : (f.bind g) ρ = (f ρ).bind g := rfl
theorem pure_ap : M.pure a ρ = .ok a ρ := rfl
theorem fail_ap : (M.fail : M α) ρ = .stuck := rfl
theorem ofO_some : M.ofO (some a) ρ = .ok a ρ := rfl
theorem ofO_none : (M.ofO none : M α) ρ = .stuck := rfl
def runF (row : Option (List D)) (r : Fl) : FRes := match r with
  | .nx ρ => match rowOf row ρ with
    | some r => .ok .none r
    | none => .stuck
  | .rt d ρ => match rowOf row ρ with
    | some r => .ok d r
    | none => .stuck
  | .er e ρ => match rowOf row ρ with
    | some r => .err e r
    | none => .stuck
  | _ => .stuck
theorem runB_ap {k : Nat} {b : MS} {row : Option (List D)} {ds : List D} : runB k b row ds = runF row (b (argSl row ds ++ List.replicate k .un)) := rfl
theorem runF_nx : runF none (.nx ρ) = .ok .none none := rfl
theorem runF_rt : runF none (.rt d ρ) = .ok d none := rfl
theorem runF_er : runF none (.er e ρ) = .err e none := rfl
theorem runF_nxR {xs ys : List D} : runF (some xs) (.nx (.io ys :: ρ)) = .ok .none (some ys) := rfl
theorem runF_rtR {xs ys : List D} : runF (some xs) (.rt d (.io ys :: ρ)) = .ok d (some ys) := rfl
theorem runF_erR {xs ys : List D} : runF (some xs) (.er e (.io ys :: ρ)) = .err e (some ys) := rfl
theorem runF_ite {c : Prop} [Decidable c] {r s : Fl} {row : Option (List D)} : runF row (if c then r else s) = if c then runF row r else runF row s := by split <;> rfl
theorem argSl_some {xs ds : List D} : argSl (some xs) ds = .io xs :: ds.map .fr := rfl
end
section
variable {ρ : List Sl} {i : Nat} {f fa fb : M D} {ft fc fd : M Bool} {a b c : MS} {ff : M Sl} {ba bb bc : M Bv}
theorem ite_ap {c : Prop} [Decidable c] {x y : MS} : (if c then x else y) ρ = if c then x ρ else y ρ := by split <;> rfl
theorem iteM_ap {α : Type} {c : Prop} [Decidable c] {x y : M α} : (if c then x else y) ρ = if c then x ρ else y ρ := by split <;> rfl
theorem skip_ap : skipS ρ = .nx ρ := rfl
theorem seq_ap : seqS a b ρ = (a ρ).seq b := rfl
theorem drop_ap : dropS f ρ = (f ρ).st fun _ ρ => .nx ρ := rfl
theorem ret_ap : retS f ρ = (f ρ).st fun d ρ => .rt d ρ := rfl
theorem retN_ap : retN ρ = .rt .none ρ := rfl
theorem if_ap : ifS ft a b ρ = (ft ρ).st fun t => if t = true then a else b := rfl
theorem set_ap : setS i f ρ = (f ρ).st fun d ρ => .nx (ρ.set i (.fr d)) := rfl
theorem setF_ap : setF i ff ρ = (ff ρ).st fun o ρ => .nx (ρ.set i o) := rfl
theorem brk_ap : brkS ρ = .bk ρ := rfl
theorem cont_ap : contS ρ = .ct ρ := rfl
theorem never_ap : neverS ρ = .stuck := rfl
def appK (i : Nat) (d : D) : MS := fun ρ => match ρ[i]? with
    | some t => match t.lget with
      | some ds => if ds.length < sizeLine then .nx (ρ.set i (t.lput (ds ++ [d]))) else .stuck
      | none => .stuck
    | none => .stuck
theorem app_ap : appS i f ρ = match ρ[i]?.bind Sl.lget with
  | none => .stuck
  | some _ => (f ρ).st (appK i) := rfl
theorem appK_ap {d : D} : appK i d ρ = match ρ[i]? with
    | some t => match t.lget with
      | some ds => if ds.length < sizeLine then .nx (ρ.set i (t.lput (ds ++ [d]))) else .stuck
      | none => .stuck
    | none => .stuck := rfl
def putKd (i : Nat) (d : D) (k : D) : MS := fun ρ => match ρ[i]? with
    | some (.od kvs) => match keyOf k with
      | some kk => if kvs.length < sizeLine then .nx (ρ.set i (.od (putK kvs kk k d))) else .stuck
      | none => .stuck
    | _ => .stuck
def putKl (i : Nat) (d : D) (k : D) : MS := fun ρ => match ρ[i]?, k with
    | some t, .int j => match t.lget with
      | some ds => match ixN ds.length j with
        | some n => .nx (ρ.set i (t.lput (ds.set n d)))
        | none => .stuck
      | none => .stuck
    | _, _ => .stuck
def putKk (i : Nat) (fa : M D) (d : D) : MS := fun ρ1 => match ρ1[i]? with
  | some (.od _) => (fa ρ1).st (putKd i d)
  | some (.ol _) => (fa ρ1).st (putKl i d)
  | some (.io _) => (fa ρ1).st (putKl i d)
  | _ => .stuck
theorem put_ap : putA i f fa ρ = (f ρ).st (putKk i fa) := rfl
theorem putKk_ap {d : D} : putKk i fa d ρ = match ρ[i]? with
  | some (.od _) => (fa ρ).st (putKd i d)
  | some (.ol _) => (fa ρ).st (putKl i d)
  | some (.io _) => (fa ρ).st (putKl i d)
  | _ => .stuck := rfl
theorem putKd_ap {d k : D} : putKd i d k ρ = match ρ[i]? with
    | some (.od kvs) => match keyOf k with
      | some kk => if kvs.length < sizeLine then .nx (ρ.set i (.od (putK kvs kk k d))) else .stuck
      | none => .stuck
    | _ => .stuck := rfl
theorem putKl_ap {d k : D} : putKl i d k ρ = match ρ[i]?, k with
    | some t, .int j => match t.lget with
      | some ds => match ixN ds.length j with
        | some n => .nx (ρ.set i (t.lput (ds.set n d)))
        | none => .stuck
      | none => .stuck
    | _, _ => .stuck := rfl
theorem aug_ap {g : Int → Int → Int} : augS i f g ρ = match ρ[i]? with
  | some (.fr (.int a)) => (f ρ).st (fun d ρ => match d with
    | .int b => .nx (ρ.set i (.fr (.int (g a b))))
    | _ => .stuck)
  | _ => .stuck := rfl
theorem for_ap {fi : M (List D)} {g : TgF} : forS fi g a ρ = (fi ρ).st fun ds => forL g a ds := rfl
theorem asg_ap {g : TgF} : asgS f g ρ = (f ρ).st fun d ρ => match g d ρ with
  | some ρ1 => .nx ρ1
  | none => .stuck := rfl
theorem nameB_ap : nameB i ρ = match ρ[i]? with
  | some .un => .stuck
  | some _ => .ok (.sl i) ρ
  | none => .stuck := rfl
theorem nameE_ap : nameE i ρ = match ρ[i]? with
  | some (.fr d) => .ok d ρ
  | some (.ol ds) => .ok (.list ds) (ρ.set i (.fr (.list ds)))
  | some (.od kvs) => .ok (.dict kvs) (ρ.set i (.fr (.dict kvs)))
  | _ => .stuck := rfl
theorem c_ap {d : D} : cE d ρ = .ok d ρ := rfl
theorem bv_ap : bvE f ρ = (f ρ).bind fun d ρ => .ok (.va d) ρ := rfl
theorem fr_ap : frE ff ρ = (ff ρ).bind fun o ρ => match o.frz with
  | some d => .ok d ρ
  | none => .stuck := by
  show (ff ρ).bind _ = _
  cases ff ρ with
  | ok d ρ1 => cases d <;> rfl
  | _ => rfl
theorem frz_ol {ds : List D} : (Sl.ol ds).frz = some (.list ds) := rfl
theorem frz_od {ds : List (D × D)} : (Sl.od ds).frz = some (.dict ds) := rfl
theorem nilA_ap : nilA ρ = .ok [] ρ := rfl
theorem consA_ap {g : M (List D)} : consA f g ρ = (f ρ).bind fun d => g.bind fun ds => M.pure (d :: ds) := rfl
theorem nilB_ap : nilB ρ = .ok [] ρ := rfl
theorem consB_ap {g : M (List Bv)} : consB ba g ρ = (ba ρ).bind fun d => g.bind fun ds => M.pure (d :: ds) := rfl
theorem tup_ap {g : M (List D)} : tupE g ρ = (g ρ).bind fun ds ρ => .ok (.tuple ds) ρ := rfl
theorem lst_ap {g : M (List D)} : lstF g ρ = (g ρ).bind fun ds ρ => .ok (.ol ds) ρ := rfl
theorem opR_ap {x y : Bv} {g : D → D → Option D} : opR x y g ρ = match rdB x ρ, rdB y ρ with
  | some x, some y => match g x y with
    | some d => .ok d ρ
    | none => .stuck
  | _, _ => .stuck := rfl
theorem opF_ap {x y : Bv} {g : D → D → Option (List D)} : opF x y g ρ = match rdB x ρ, rdB y ρ with
  | some x, some y => match g x y with
    | some d => .ok (.ol d) ρ
    | none => .stuck
  | _, _ => .stuck := rfl
theorem opT_ap {x y : Bv} {g : D → D → Option Bool} : opT x y g ρ = match rdB x ρ, rdB y ρ with
  | some x, some y => match g x y with
    | some d => .ok d ρ
    | none => .stuck
  | _, _ => .stuck := rfl
theorem op2_ap {g : D → D → Option D} : op2 ba bb g ρ = (ba ρ).bind fun a => bb.bind fun b => opR a b g := rfl
theorem op2F_ap {g : D → D → Option (List D)} : op2F ba bb g ρ = (ba ρ).bind fun a => bb.bind fun b => opF a b g := rfl
theorem op2T_ap {g : D → D → Option Bool} : op2T ba bb g ρ = (ba ρ).bind fun a => bb.bind fun b => opT a b g := rfl
theorem op1_ap {g : D → Option D} : op1 f g ρ = (f ρ).bind fun a ρ => match g a with
  | some d => .ok d ρ
  | none => .stuck := by
  show (f ρ).bind _ = _
  cases f ρ with
  | ok d ρ1 =>
    show M.ofO (g d) ρ1 = match g d with
      | some d => Res.ok d ρ1
      | none => Res.stuck
    cases g d <;> rfl
  | _ => rfl
theorem toT_ap : toT f ρ = (f ρ).bind fun d ρ => match d with
  | .bool b => .ok b ρ
  | _ => .stuck := by
  show (f ρ).bind _ = _
  cases f ρ with
  | ok d ρ1 => cases d <;> rfl
  | _ => rfl
theorem andT_ap : andT ft fc ρ = (ft ρ).bind fun c => if c = true then fc else M.pure false := rfl
theorem orT_ap : orT ft fc ρ = (ft ρ).bind fun c => if c = true then M.pure true else fc := rfl
theorem notT_ap : notT ft ρ = (ft ρ).bind fun c ρ => .ok (!c) ρ := rfl
theorem andV_ap : andV fa fb ρ = (fa ρ).bind fun d => match d with
  | .bool c => if c = true then fb else M.pure (.bool false)
  | _ => M.fail := by
  show (fa ρ).bind _ = _
  cases fa ρ with
  | ok d ρ1 =>
    cases d with
    | bool c => cases c <;> rfl
    | _ => rfl
  | _ => rfl
theorem orV_ap : orV fa fb ρ = (fa ρ).bind fun d => match d with
  | .bool c => if c = true then M.pure (.bool true) else fb
  | _ => M.fail := by
  show (fa ρ).bind _ = _
  cases fa ρ with
  | ok d ρ1 =>
    cases d with
    | bool c => cases c <;> rfl
    | _ => rfl
  | _ => rfl
theorem notV_ap : notV fa ρ = (fa ρ).bind fun d ρ => match d with
  | .bool b => .ok (.bool (!b)) ρ
  | _ => .stuck := by
  show (fa ρ).bind _ = _
  cases fa ρ with
  | ok d ρ1 => cases d <;> rfl
  | _ => rfl
theorem ifM_ap {α : Type} {x y : M α} : ifM ft x y ρ = (ft ρ).bind fun c => if c = true then x else y := rfl
theorem callE_ap {fs : M (List Bv)} {g : List D → Option D} : callE fs g ρ = (fs ρ).bind fun bs ρ => match rdBs bs ρ with
  | some ds => match g ds with
    | some d => .ok d ρ
    | none => .stuck
  | none => .stuck := rfl
theorem callF_ap {fs : M (List Bv)} {g : List D → Option (List D)} : callF fs g ρ = (fs ρ).bind fun bs ρ => match rdBs bs ρ with
  | some ds => match g ds with
    | some d => .ok (.ol d) ρ
    | none => .stuck
  | none => .stuck := rfl
theorem callS_ap {fs : M (List D)} {g : Fs} : callS fs g ρ = (fs ρ).bind fun ds ρ => match g none ds with
  | .ok d _ => .ok d ρ
  | .err e _ => .err e ρ
  | .stuck => .stuck := rfl
theorem callR_ap {fs : M (List D)} {g : Fs} : callR i fs g ρ = match ρ[i]?.bind Sl.lget with
  | none => .stuck
  | some _ => (fs ρ).bind (fun ds ρ => match ρ[i]? with
    | some t => match t.lget with
      | some xs => match g (some xs) ds with
        | .ok d (some ys) => .ok d (ρ.set i (t.lput ys))
        | .err e (some ys) => .err e (ρ.set i (t.lput ys))
        | _ => .stuck
      | none => .stuck
    | none => .stuck) := rfl
theorem lcF_ap {own : List Nat} {fi : M (List D)} {g : TgF} : lcF own fi g ft f ρ = (fi ρ).bind fun ds ρ1 => match lcL own g ft f ds [] (wipeR ρ1 own) with
  | .ok acc ρ2 => .ok (.ol acc) (backR ρ1 (wipeR ρ2 own) own)
  | _ => .stuck := rfl
theorem yes_ap : yesT ρ = .ok true ρ := rfl
theorem noO_ap : noO ρ = .ok none ρ := rfl
theorem someO_ap : someO f ρ = (f ρ).bind fun d ρ => match d with
  | .int i => .ok (some i) ρ
  | _ => .stuck := by
  show (f ρ).bind _ = _
  cases f ρ with
  | ok d ρ1 => cases d <;> rfl
  | _ => rfl
theorem slE_ap {lo hi : M (Option Int)} {g : D → Option Int → Option Int → Option D} : slE ba lo hi g ρ = (ba ρ).bind fun a => lo.bind fun l => hi.bind fun u => slR a l u g := rfl
theorem slF_ap {lo hi : M (Option Int)} : slF ba lo hi ρ = (ba ρ).bind fun a => lo.bind fun l => hi.bind fun u => slFR a l u := rfl
theorem slR_ap {x : Bv} {l u : Option Int} {g : D → Option Int → Option Int → Option D} : slR x l u g ρ = match rdB x ρ with
  | some x => match g x l u with
    | some d => .ok d ρ
    | none => .stuck
  | none => .stuck := rfl
theorem slFR_ap {x : Bv} {l u : Option Int} : slFR x l u ρ = match rdB x ρ with
  | some (.list ds) => .ok (.ol (cut ds l u)) ρ
  | _ => .stuck := rfl
theorem chainV_ap {g g' : D → D → Option Bool} : chainV ba bb g bc g' ρ = (ba ρ).bind fun a => bb.bind fun b => (opT a b g).bind fun c => if c = true then bc.bind fun d => (opT b d g').bind fun t => M.pure (.bool t) else M.pure (.bool false) := rfl
theorem chainT_ap {g g' : D → D → Option Bool} : chainT ba bb g bc g' ρ = (ba ρ).bind fun a => bb.bind fun b => (opT a b g).bind fun c => if c = true then bc.bind fun d => opT b d g' else M.pure false := rfl
theorem par_ap {is : List Nat} {fs : M (List Sl)} : parS is fs ρ = (fs ρ).st fun os ρ => match setsR is os ρ with
  | some ρ' => .nx ρ'
  | none => .stuck := rfl
theorem nilP_ap : nilP ρ = .ok [] ρ := rfl
theorem consE_ap {g : M (List Sl)} : consE f g ρ = (f ρ).bind fun d => g.bind fun os => M.pure (.fr d :: os) := rfl
theorem consF_ap {g : M (List Sl)} : consF ff g ρ = (ff ρ).bind fun o ρ => if o.mut = true then (match g ρ with
  | .ok os ρ' => .ok (o :: os) ρ'
  | _ => .stuck) else .stuck := rfl
theorem new_ap : newD ρ = .ok (.od []) ρ := rfl
theorem dict1_ap : dict1F fa fb ρ = match fa ρ with
  | .ok k ρ1 => match fb ρ1 with
    | .ok v ρ2 => match keyOf k with
      | some _ => .ok (.od [(k, v)]) ρ2
      | none => .stuck
    | _ => .stuck
  | _ => .stuck := rfl
theorem isi_ap {T : String} : isiV ba T ρ = (ba ρ).bind fun b ρ => match rdB b ρ with
  | some d => match d with
    | .dict _ => .stuck
    | d => match isTy T d with
      | some c => .ok (.bool c) ρ
      | none => .stuck
  | none => .stuck := rfl
theorem isi2_ap {S T : String} : isi2V ba S T ρ = (ba ρ).bind fun b ρ => match rdB b ρ with
  | some d => match d with
    | .dict _ => .stuck
    | d => match isTy S d, isTy T d with
      | some c, some e => .ok (.bool (c || e)) ρ
      | _, _ => .stuck
  | none => .stuck := rfl
theorem seqI_ap : seqI f ρ = (f ρ).bind fun d ρ => match d with
  | .list ds => .ok ds ρ
  | .tuple ds => .ok ds ρ
  | _ => .stuck := by
  show (f ρ).bind _ = _
  cases f ρ with
  | ok d ρ1 => cases d <;> rfl
  | _ => rfl
theorem enumI_ap : enumI f ρ = (f ρ).bind fun d ρ => match d with
  | .list ds => .ok (enumD ds) ρ
  | .tuple ds => .ok (enumD ds) ρ
  | _ => .stuck := by
  show (f ρ).bind _ = _
  cases f ρ with
  | ok d ρ1 => cases d <;> rfl
  | _ => rfl
theorem range1_ap : range1 f ρ = (f ρ).bind fun d ρ => match d with
  | .int j => if small j = true then .ok (rangeD 0 j.toNat) ρ else .stuck
  | _ => .stuck := by
  show (f ρ).bind _ = _
  cases f ρ with
  | ok d ρ1 =>
    cases d with
    | int j => show (if small j = true then M.pure _ else M.fail) ρ1 = if small j = true then _ else _; split <;> rfl
    | _ => rfl
  | _ => rfl
theorem range2_ap : range2 fa fb ρ = (fa ρ).bind fun d => fb.bind fun e ρ => match d, e with
  | .int i, .int j => if (small i && small j) = true then .ok (rangeD i (j - i).toNat) ρ else .stuck
  | _, _ => .stuck := by
  show (fa ρ).bind _ = _
  cases fa ρ with
  | ok d ρ1 =>
    show (fb ρ1).bind _ = (fb ρ1).bind _
    cases fb ρ1 with
    | ok e ρ2 =>
      cases d with
      | int i =>
        cases e with
        | int j => show (if (small i && small j) = true then M.pure _ else M.fail) ρ2 = if (small i && small j) = true then _ else _; split <;> rfl
        | _ => rfl
      | _ => rfl
    | _ => rfl
  | _ => rfl
theorem zipI_ap : zipI fa fb ρ = (fa ρ).bind fun d => fb.bind fun e ρ => match d, e with
  | .tuple ds, .tuple es => .ok (zipD ds es) ρ
  | .list ds, .list es => .ok (zipD ds es) ρ
  | _, _ => .stuck := by
  show (fa ρ).bind _ = _
  cases fa ρ with
  | ok d ρ1 =>
    show (fb ρ1).bind _ = (fb ρ1).bind _
    cases fb ρ1 with
    | ok e ρ2 => cases d <;> cases e <;> rfl
    | _ => rfl
  | _ => rfl
theorem rev_ap : revE ba ρ = (ba ρ).bind fun b ρ => match rdB b ρ with
  | some (.list ds) => .ok (.list ds.reverse) ρ
  | some (.tuple ds) => .ok (.tuple ds.reverse) ρ
  | _ => .stuck := rfl
theorem keysI_ap : keysI f ρ = (f ρ).bind fun d ρ => match d with
  | .dict kvs => if keysOk kvs = true then .ok (kvs.map (·.1)) ρ else .stuck
  | _ => .stuck := by
  show (f ρ).bind _ = _
  cases f ρ with
  | ok d ρ1 =>
    cases d with
    | dict kvs => show (if keysOk kvs = true then M.pure _ else M.fail) ρ1 = if keysOk kvs = true then _ else _; split <;> rfl
    | _ => rfl
  | _ => rfl
def getK1 (b : Bv) (k x : D) : M D := fun ρ => match dictB b ρ, keyOf k with
    | some kvs, some kk => .ok ((lookK kvs kk).getD x) ρ
    | _, _ => .stuck
def getK0 (fa fb : M D) (b : Bv) : M D := fun ρ => match dictB b ρ with
  | none => .stuck
  | some _ => (fa ρ).bind fun k => fb.bind fun x => getK1 b k x
theorem get_ap : getE ba fa fb ρ = (ba ρ).bind (getK0 fa fb) := rfl
theorem getK0_ap {b : Bv} : getK0 fa fb b ρ = match dictB b ρ with
  | none => .stuck
  | some _ => (fa ρ).bind fun k => fb.bind fun x => getK1 b k x := rfl
theorem getK1_ap {b : Bv} {k x : D} : getK1 b k x ρ = match dictB b ρ, keyOf k with
    | some kvs, some kk => .ok ((lookK kvs kk).getD x) ρ
    | _, _ => .stuck := rfl
theorem sumVals_ap : sumVals ba ρ = (ba ρ).bind fun b ρ => match dictB b ρ with
  | some kvs => match intsL (kvs.map (·.2)) with
    | some ns => .ok (.int ns.sum) ρ
    | none => .stuck
  | none => .stuck := rfl
theorem keysSort_ap : keysSortF ba ρ = (ba ρ).bind fun b ρ => match dictB b ρ with
  | some kvs => if sortOk (kvs.map (·.1)) = true then .ok (.ol (sortD (kvs.map (·.1)))) ρ else .stuck
  | none => .stuck := rfl
theorem lstRg_ap : lstRgF f ρ = (f ρ).bind fun d ρ => match d with
  | .int j => if -16777216 ≤ j ∧ j ≤ 16777216 then .ok (.ol (rangeD 0 j.toNat)) ρ else .stuck
  | _ => .stuck := by
  show (f ρ).bind _ = _
  cases f ρ with
  | ok d ρ1 =>
    cases d with
    | int j => show (if -16777216 ≤ j ∧ j ≤ 16777216 then M.pure _ else M.fail) ρ1 = if -16777216 ≤ j ∧ j ≤ 16777216 then _ else _; split <;> rfl
    | _ => rfl
  | _ => rfl
end
end L2.Sc
set_option Elab.async false
set_option linter.all false
set_option maxRecDepth 100000
set_option maxHeartbeats 2000000
namespace L2.Sc
open PySem PySem.Spec PyProof.Rows
open Enc
theorem cast0 : ((0 : Nat) : Int) = 0 := rfl
theorem cast1 : ((1 : Nat) : Int) = 1 := rfl
theorem cast2 : ((2 : Nat) : Int) = 2 := rfl
theorem cast3 : ((3 : Nat) : Int) = 3 := rfl
theorem cast4 : ((4 : Nat) : Int) = 4 := rfl
theorem cast5 : ((5 : Nat) : Int) = 5 := rfl
theorem ixN40 : ixN 4 0 = some 0 := rfl
theorem ixN41 : ixN 4 1 = some 1 := rfl
theorem ixN42 : ixN 4 2 = some 2 := rfl
theorem ixN43 : ixN 4 3 = some 3 := rfl
theorem mod_int {i j : Int} (h : j ≠ 0) : modO (.int i) (.int j) = some (.int (i.fmod j)) := by
  show (if j = 0 then none else some (PyData.int (i.fmod j))) = _
  rw [if_neg h]
theorem divOk_of {j : Int} (h : 0 < j) (h2 : j ≤ 1000000000) : divOk j = true := by
  unfold divOk
  rw [decide_eq_true h]
  have : j.natAbs.log2 < 9000 := by
    have h3 : j.natAbs < 2 ^ 30 := by
      have : (2 : Nat) ^ 30 = 1073741824 := by decide
      omega
    have := (Nat.log2_lt (by omega)).mpr h3
    omega
  rw [decide_eq_true this]
  rfl
theorem fdiv_int {i j : Int} (h : divOk j = true) : fdivO (.int i) (.int j) = some (.int (i / j)) := by
  show (if divOk j = true then some (PyData.int (i / j)) else none) = _
  rw [if_pos h]
theorem mulOk_of {i j : Int} {a b : Nat} (h1 : i.natAbs < 2 ^ a) (h2 : j.natAbs < 2 ^ b) (h : a + b < 1000000) : mulOk i j = true := by
  unfold mulOk
  refine decide_eq_true ?_
  have l : ∀ (n k : Nat), n < 2 ^ k → n.log2 ≤ k := fun n k hn => by
    by_cases h0 : n = 0
    · subst h0; simp
    · have := (Nat.log2_lt h0).mpr hn
      omega
  have := l _ _ h1
  have := l _ _ h2
  omega
theorem mul_int {i j : Int} (h : mulOk i j = true) : mulA (.int i) (.int j) = some (.int (i * j)) := by
  show (if mulOk i j = true then some (PyData.int (i * j)) else none) = _
  rw [if_pos h]
theorem pow_int {i j : Int} (h : 0 ≤ j ∧ j ≤ 1000000 ∧ i.natAbs < 2 ^ 64) : powO (.int i) (.int j) = some (.int (i ^ j.toNat)) := by
  show (if 0 ≤ j ∧ j ≤ 1000000 ∧ i.natAbs < 2 ^ 64 then some (PyData.int (i ^ j.toNat)) else none) = _
  rw [if_pos h]
theorem at_nat {α : Type} {xs : List α} {i : Int} {n : Nat} {x : α} (hi : i = (n : Int)) (h : xs[n]? = some x) : atI xs i = some x := by
  have hn := (List.getElem?_eq_some_iff.mp h).1
  subst hi
  unfold atI ixN
  rw [if_pos (by omega), if_pos (by omega)]
  simpa using h
theorem at_lit {α : Type} {xs : List α} {n : Nat} {x : α} (h : xs[n]? = some x) : atI xs (n : Int) = some x := at_nat rfl h
theorem at_neg {α : Type} {xs : List α} {i : Int} {k : Nat} {x : α} (hi : i = -((k : Int) + 1)) (hk : k < xs.length) (h : xs[xs.length - (k + 1)]? = some x) : atI xs i = some x := by
  subst hi
  unfold atI ixN
  rw [if_neg (by omega), if_pos (by omega)]
  have e : (-((k : Int) + 1) + (xs.length : Int)).toNat = xs.length - (k + 1) := by omega
  rw [Option.bind_some, e]
  exact h
theorem ix_tupI {ds : List D} {i : Int} {d : D} (h : atI ds i = some d) : ixA (.tuple ds) (.int i) = some d := by
  show (match atI ds i with | some d => some d | none => getK _ _) = _
  rw [h]
theorem ix_lstI {ds : List D} {i : Int} {d : D} (h : atI ds i = some d) : ixA (.list ds) (.int i) = some d := by
  show (match atI ds i with | some d => some d | none => getK _ _) = _
  rw [h]
theorem ix_scrI {ds : List D} {i : Int} {d : D} (h : atI ds i = some d) : ixA (.dict [(.none, .list ds)]) (.int i) = some d := by
  show (match atI ds i with | some d => some d | none => getK _ _) = _
  rw [h]
theorem ix_t0 {a : D} {ds : List D} : ixA (.tuple (a :: ds)) (.int 0) = some a := ix_tupI (at_nat (n := 0) rfl rfl)
theorem ix_t1 {a b : D} {ds : List D} : ixA (.tuple (a :: b :: ds)) (.int 1) = some b := ix_tupI (at_nat (n := 1) rfl rfl)
theorem ix_t2 {a b c : D} {ds : List D} : ixA (.tuple (a :: b :: c :: ds)) (.int 2) = some c := ix_tupI (at_nat (n := 2) rfl rfl)
theorem ix_t3 {a b c d : D} {ds : List D} : ixA (.tuple (a :: b :: c :: d :: ds)) (.int 3) = some d := ix_tupI (at_nat (n := 3) rfl rfl)
theorem ix_l0 {a : D} {ds : List D} : ixA (.list (a :: ds)) (.int 0) = some a := ix_lstI (at_nat (n := 0) rfl rfl)
theorem ix_l1 {a b : D} {ds : List D} : ixA (.list (a :: b :: ds)) (.int 1) = some b := ix_lstI (at_nat (n := 1) rfl rfl)
theorem ix_l2 {a b c : D} {ds : List D} : ixA (.list (a :: b :: c :: ds)) (.int 2) = some c := ix_lstI (at_nat (n := 2) rfl rfl)
theorem ix_l3 {a b c d : D} {ds : List D} : ixA (.list (a :: b :: c :: d :: ds)) (.int 3) = some d := ix_lstI (at_nat (n := 3) rfl rfl)
section
variable {α β : Type} [Enc α] [Enc β]
theorem ix_encT {xs : List α} {i : Int} {x : α} (h : atI xs i = some x) : ixA (enc xs) (.int i) = some (enc x) := by
  refine ix_tupI ?_
  unfold atI at h ⊢
  rw [List.length_map]
  obtain ⟨j, e1, e2⟩ := Option.bind_eq_some_iff.mp h
  rw [e1, Option.bind_some, List.getElem?_map, e2]
  rfl
theorem ix_encL {xs : List α} {i : Int} {x : α} (h : atI xs i = some x) : ixA (.list (xs.map enc)) (.int i) = some (enc x) := by
  refine ix_lstI ?_
  unfold atI at h ⊢
  rw [List.length_map]
  obtain ⟨j, e1, e2⟩ := Option.bind_eq_some_iff.mp h
  rw [e1, Option.bind_some, List.getElem?_map, e2]
  rfl
theorem ix_p0 {p : α × β} : ixA (enc p) (.int 0) = some (enc p.1) := ix_t0
theorem ix_p1 {p : α × β} : ixA (enc p) (.int 1) = some (enc p.2) := ix_t1
theorem len_list {ds : List D} : lenC [.list ds] = some (.int ds.length) := rfl
theorem len_tuple {ds : List D} : lenC [.tuple ds] = some (.int ds.length) := rfl
theorem len_scr {ds : List D} : lenC [.dict [(.none, .list ds)]] = some (.int ds.length) := rfl
theorem tupC_list {ds : List D} : tupleC [.list ds] = some (.tuple ds) := rfl
theorem tupC_tuple {ds : List D} : tupleC [.tuple ds] = some (.tuple ds) := rfl
theorem lstC_list {ds : List D} : listC [.list ds] = some ds := rfl
theorem lstC_tuple {ds : List D} : listC [.tuple ds] = some ds := rfl
theorem intC_int {i : Int} : intC [.int i] = some (.int i) := rfl
theorem intC_bool {b : Bool} : intC [.bool b] = some (.int (if b = true then 1 else 0)) := rfl
theorem max2_int {i j : Int} : max2C [.int i, .int j] = some (.int (if j > i then j else i)) := rfl
theorem min2_int {i j : Int} : min2C [.int i, .int j] = some (.int (if j < i then j else i)) := rfl
theorem abs_int {i : Int} : absC [.int i] = some (.int (if i < 0 then -i else i)) := rfl
theorem sum_list {ds : List D} : sumA [.list ds] = (intsL ds).map fun ns => .int ns.sum := rfl
theorem sum_tuple {ds : List D} : sumA [.tuple ds] = (intsL ds).map fun ns => .int ns.sum := rfl
theorem add_int {i j : Int} : addO (.int i) (.int j) = some (.int (i + j)) := rfl
theorem sub_int {i j : Int} : subO (.int i) (.int j) = some (.int (i - j)) := rfl
theorem neg_int {i : Int} : negO (.int i) = some (.int (-i)) := rfl
theorem isN_none : isNoneB .none .none = some true := rfl
theorem isN_int {i : Int} : isNoneB (.int i) .none = some false := rfl
theorem isN_tuple {ds : List D} : isNoneB (.tuple ds) .none = some false := rfl
theorem isN_list {ds : List D} : isNoneB (.list ds) .none = some false := rfl
theorem isN_bool {b : Bool} : isNoneB (.bool b) .none = some false := rfl
theorem isN_str {x : Str} : isNoneB (.str x) .none = some false := rfl
theorem len_enc {xs : List α} : lenC [enc xs] = some (.int xs.length) := by
  rw [enc_list, lenC, List.length_map]
theorem len_lst {xs : List α} : lenC [.list (xs.map enc)] = some (.int xs.length) := by
  rw [lenC, List.length_map]
theorem len_pair {p : α × β} : lenC [enc p] = some (.int 2) := rfl
theorem cut_map {γ δ : Type} (f : γ → δ) (xs : List γ) (lo hi : Option Int) : cut (xs.map f) lo hi = (cut xs lo hi).map f := by
  unfold cut
  rw [List.length_map, List.map_take, List.map_drop]
theorem cutO_enc {xs : List α} {lo hi : Option Int} : cutO (enc xs) lo hi = some (enc (cut xs lo hi)) := by
  rw [enc_list, cutO, cut_map, enc_list]
theorem cut_from {γ : Type} (xs : List γ) (n : Nat) : cut xs (some (n : Int)) none = xs.drop n := by
  unfold cut
  rw [HT.sIx_nat, HT.sIx_none]
  by_cases h : n ≤ xs.length
  · rw [Nat.min_eq_left h, List.take_of_length_le (by simp)]
  · rw [Nat.min_eq_right (by omega)]
    simp
    omega
theorem cut_to {γ : Type} (xs : List γ) (n : Nat) : cut xs none (some (n : Int)) = xs.take n := by
  unfold cut
  rw [HT.sIx_nat, HT.sIx_none]
  simp
theorem cut_fromI {γ : Type} (xs : List γ) (i : Int) (h : 0 ≤ i) : cut xs (some i) none = xs.drop i.toNat := by
  have := cut_from xs i.toNat
  rwa [Int.toNat_of_nonneg h] at this
theorem cut_toI {γ : Type} (xs : List γ) (i : Int) (h : 0 ≤ i) : cut xs none (some i) = xs.take i.toNat := by
  have := cut_to xs i.toNat
  rwa [Int.toNat_of_nonneg h] at this
theorem cut_fromLast {γ : Type} (xs : List γ) (h : xs ≠ []) : cut xs (some (-1)) none = xs.drop (xs.length - 1) := by
  unfold cut
  have hl := List.length_pos_iff.mpr h
  have e : HT.sIx xs.length 0 (some (-1)) = xs.length - 1 := by
    show (if (-1 : Int) < 0 then ((-1 : Int) + (xs.length : Int)).toNat else min (-1 : Int).toNat xs.length) = _
    rw [if_pos (by decide)]
    omega
  rw [e, HT.sIx_none, List.take_of_length_le (by simp)]
theorem cut_toLast {γ : Type} (xs : List γ) (h : xs ≠ []) : cut xs none (some (-1)) = xs.take (xs.length - 1) := by
  unfold cut
  have hl := List.length_pos_iff.mpr h
  have e : HT.sIx xs.length xs.length (some (-1)) = xs.length - 1 := by
    show (if (-1 : Int) < 0 then ((-1 : Int) + (xs.length : Int)).toNat else min (-1 : Int).toNat xs.length) = _
    rw [if_pos (by decide)]
    omega
  rw [e, HT.sIx_none]
  simp
theorem add_enc {xs ys : List α} (h : xs.length + ys.length ≤ sizeLine) : addO (enc xs) (enc ys) = some (enc (xs ++ ys)) := by
  show (if (xs.map enc).length + (ys.map enc).length ≤ sizeLine then some (PyData.tuple (xs.map enc ++ ys.map enc)) else none) = _
  rw [List.length_map, List.length_map, if_pos h, ← List.map_append]
  rfl
theorem addL_enc {xs ys : List α} (h : xs.length + ys.length ≤ sizeLine) : addL (.list (xs.map enc)) (.list (ys.map enc)) = some ((xs ++ ys).map enc) := by
  show (if (xs.map enc).length + (ys.map enc).length ≤ sizeLine then some (xs.map enc ++ ys.map enc) else none) = _
  rw [List.length_map, List.length_map, if_pos h, ← List.map_append]
theorem rev_enc {xs : List α} : (xs.map (enc : α → D)).reverse = xs.reverse.map enc := (List.map_reverse ..).symm
theorem enumD_map (f : α → D) (xs : List α) : enumD (xs.map f) = ((List.range xs.length).zip xs).map fun p => .tuple [.int (p.1 : Int), f p.2] := by
  unfold enumD
  rw [List.length_map, List.zipWith_map_right, List.zip, List.map_zipWith]
theorem zip_range {γ : Type} {xs : List γ} {p : Nat × γ} (h : p ∈ (List.range xs.length).zip xs) : xs[p.1]? = some p.2 := by
  obtain ⟨i, hi, e⟩ := List.mem_iff_getElem.mp h
  have h1 : i < xs.length := by simpa using hi
  rw [List.getElem_zip, List.getElem_range] at e
  subst e
  exact List.getElem?_eq_getElem h1
theorem zipD_map {γ δ : Type} (f : γ → D) (g : δ → D) (xs : List γ) (ys : List δ) : zipD (xs.map f) (ys.map g) = (xs.zip ys).map fun p => .tuple [f p.1, g p.2] := by
  unfold zipD
  rw [List.zipWith_map, List.zip, List.map_zipWith]
theorem range0 (n : Nat) : rangeD 0 n = (List.range n).map fun (i : Nat) => .int (i : Int) := by
  unfold rangeD
  simp
theorem rangeLo (a : Int) (n : Nat) : rangeD a n = (List.range n).map fun (i : Nat) => .int (a + (i : Int)) := rfl
theorem small_of {j : Int} (h1 : -4611686018427387904 < j) (h2 : j < 4611686018427387904) : small j = true := by
  unfold small
  exact decide_eq_true (by omega)
/-- an own dict by its pairs -/
def encK (kvs : List (α × β)) : List (D × D) := kvs.map fun p => (enc p.1, enc p.2)
def getA [DecidableEq α] (kvs : List (α × β)) (a : α) : Option β := (kvs.find? fun p => decide (p.1 = a)).map (·.2)
theorem getA_nil [DecidableEq α] (a : α) : getA ([] : List (α × β)) a = none := rfl
theorem getA_cons [DecidableEq α] (p : α × β) (kvs : List (α × β)) (a : α) : getA (p :: kvs) a = if p.1 = a then some p.2 else getA kvs a := by
  unfold getA
  by_cases h : p.1 = a
  · rw [List.find?_cons_of_pos (by simpa using h), if_pos h]; rfl
  · rw [List.find?_cons_of_neg (by simpa using h), if_neg h]
def putA' [DecidableEq α] (kvs : List (α × β)) (a : α) (b : β) : List (α × β) := if (getA kvs a).isSome = true then kvs.map (fun p => if p.1 = a then (p.1, b) else p) else kvs ++ [(a, b)]
theorem keyOf_enc (xs : List α) (h : dep α ≤ 7 := by decide) : keyOf (enc xs) = some (key xs) := by
  show (match nk (enc xs) with
    | some k => if k.depth ≤ 8 then some k else none
    | none => none) = _
  rw [Enc.nk]
  dsimp only
  rw [if_pos (Nat.le_trans (kdep xs) (Nat.succ_le_succ h))]
theorem keyOf_pair (p : α × β) (h : max (dep α) (dep β) ≤ 7 := by decide) : keyOf (enc p) = some (key p) := by
  show (match nk (enc p) with
    | some k => if k.depth ≤ 8 then some k else none
    | none => none) = _
  rw [Enc.nk]
  dsimp only
  rw [if_pos (Nat.le_trans (kdep p) (Nat.succ_le_succ h))]
theorem keysOk_enc (h : ∀ a : α, isTup (enc a) = true) (kvs : List (α × β)) : keysOk (encK kvs) = true := by
  unfold keysOk encK
  rw [List.all_map]
  exact List.all_eq_true.mpr fun p _ => h p.1
theorem lookK_enc [DecidableEq α] (kvs : List (α × β)) (a : α) : lookK (encK kvs) (key a) = (getA kvs a).map enc := by
  induction kvs with
  | nil => rfl
  | cons p kvs ih =>
    unfold lookK encK at ih ⊢
    rw [List.map_cons, List.find?_cons, getA_cons]
    obtain ⟨x, y⟩ := p
    by_cases e : x = a
    · subst e
      rw [decide_eq_true (by exact Enc.nk x), if_pos rfl]
      rfl
    · have h1 : decide (Sc.nk (enc x) = some (key a)) = false := by
        rw [Enc.nk]
        exact decide_eq_false fun z => e (kinj _ _ (Option.some.inj z))
      rw [h1, if_neg e]
      exact ih
theorem putK_enc [DecidableEq α] (kvs : List (α × β)) (a : α) (b : β) : putK (encK kvs) (key a) (enc a) (enc b) = encK (putA' kvs a b) := by
  unfold putK putA'
  rw [lookK_enc, Option.isSome_map]
  split
  · unfold encK
    rw [List.map_map, List.map_map]
    refine List.map_congr_left fun p _ => ?_
    show (if nk (enc p.1) = some (key a) then _ else _) = _
    rw [Enc.nk]
    by_cases e : p.1 = a
    · rw [if_pos (by rw [e])]
      show _ = (enc (if p.1 = a then (p.1, b) else p).1, enc (if p.1 = a then (p.1, b) else p).2)
      rw [if_pos e]
    · rw [if_neg (fun z => e (kinj _ _ (Option.some.inj z)))]
      show _ = (enc (if p.1 = a then (p.1, b) else p).1, enc (if p.1 = a then (p.1, b) else p).2)
      rw [if_neg e]
  · unfold encK
    rw [List.map_append]
    rfl
theorem encK_keys (kvs : List (α × β)) : (encK kvs).map (·.1) = (kvs.map (·.1)).map enc := by
  unfold encK
  rw [List.map_map, List.map_map]
  rfl
theorem encK_vals (kvs : List (α × β)) : (encK kvs).map (·.2) = (kvs.map (·.2)).map enc := by
  unfold encK
  rw [List.map_map, List.map_map]
  rfl
theorem encK_len (kvs : List (α × β)) : (encK kvs).length = kvs.length := by
  unfold encK
  rw [List.length_map]
theorem putA'_len [DecidableEq α] (kvs : List (α × β)) (a : α) (b : β) : (putA' kvs a b).length ≤ kvs.length + 1 := by
  unfold putA'
  split
  · simp
  · simp
theorem intsL_map (ns : List Int) : intsL (ns.map enc) = some ns := by
  induction ns with
  | nil => rfl
  | cons n ns ih => rw [List.map_cons, enc_int, intsL, ih]; rfl
theorem isTup_list (xs : List α) : isTup (enc xs) = true := rfl
theorem isTup_pair (p : α × β) : isTup (enc p) = true := rfl
theorem dictB_enc (h : ∀ a : α, isTup (enc a) = true) {b : Bv} {ρ : List Sl} {kvs : List (α × β)} (e : rdB b ρ = some (.dict (encK kvs))) (hz : kvs.length ≤ sizeLine) : dictB b ρ = some (encK kvs) := by
  unfold dictB
  rw [e]
  dsimp only
  rw [if_pos ⟨keysOk_enc h kvs, by rw [encK_len]; exact hz⟩]
theorem ix_dict [DecidableEq α] {kvs : List (List α × β)} {a : List α} {b : β} (h : dep α ≤ 7) (e : getA kvs a = some b) : ixA (.dict (encK kvs)) (enc a) = some (enc b) := by
  have e1 : ixO (.dict (encK kvs)) (enc a) = none := by
    rw [enc_list]
    unfold ixO
    split <;> first | rfl | (rename_i h1 h2; cases h2)
  unfold ixA
  rw [e1]
  show (if keysOk (encK kvs) = true then (keyOf (enc a)).bind fun k => lookK (encK kvs) k else none) = _
  rw [if_pos (keysOk_enc isTup_list kvs), keyOf_enc a h, Option.bind_some]
  have := lookK_enc kvs a
  rw [this, e]
  rfl
end
end L2.Sc
set_option Elab.async false
set_option linter.all false
set_option maxRecDepth 100000
set_option maxHeartbeats 2000000
namespace L2.Mx
open PySem L2.Sc L2.Sm
open Enc
local macro_rules
  | `(tactic| simp? [$ls,*]) => `(tactic| simp only [argSl_none, Res.bind_ok, Res.bind_err, Res.bind_stuck, Res.bind_ite, Res.st_ok, Res.st_err, Res.st_stuck, Res.st_ite, Fl.seq_nx, Fl.seq_rt, Fl.seq_bk, Fl.seq_ct, Fl.seq_er, Fl.seq_stuck, Fl.seq_ite, bind_ap, pure_ap, fail_ap, ofO_some, ofO_none, runB_ap, runF_nx, runF_rt, runF_er, runF_nxR, runF_rtR, runF_erR, runF_ite, argSl_some, ite_ap, iteM_ap, skip_ap, seq_ap, drop_ap, ret_ap, retN_ap, if_ap, set_ap, setF_ap, brk_ap, cont_ap, never_ap, app_ap, appK_ap, put_ap, putKk_ap, putKd_ap, putKl_ap, aug_ap, for_ap, asg_ap, nameB_ap, nameE_ap, c_ap, bv_ap, fr_ap, frz_ol, frz_od, nilA_ap, consA_ap, nilB_ap, consB_ap, tup_ap, lst_ap, opR_ap, opF_ap, opT_ap, op2_ap, op2F_ap, op2T_ap, op1_ap, toT_ap, andT_ap, orT_ap, notT_ap, andV_ap, orV_ap, notV_ap, ifM_ap, callE_ap, callF_ap, callS_ap, callR_ap, lcF_ap, yes_ap, noO_ap, someO_ap, slE_ap, slF_ap, slR_ap, slFR_ap, chainV_ap, chainT_ap, par_ap, nilP_ap, consE_ap, consF_ap, new_ap, dict1_ap, isi_ap, isi2_ap, seqI_ap, enumI_ap, range1_ap, range2_ap, zipI_ap, rev_ap, keysI_ap, get_ap, getK0_ap, getK1_ap, sumVals_ap, keysSort_ap, lstRg_ap, len_list, len_tuple, len_scr, tupC_list, tupC_tuple, lstC_list, lstC_tuple, intC_int, intC_bool, max2_int, min2_int, abs_int, sum_list, sum_tuple, add_int, sub_int, neg_int, isN_none, isN_int, isN_tuple, isN_list, isN_bool, isN_str, forT, lcT, nameG, nilG, consG, tupG, rowOf, rdB, Sl.val, Sl.lget, Sl.lput, rdBs, Sl.mut, setsR, wipeR, backR, keepFr, isTy, notNoneB, eqB_int, neB_int, eqB_bool, neB_bool, ltB_int, gtB_int, leB_int, geB_int, List.map_cons, List.map_nil, List.replicate_succ, List.replicate_zero, List.cons_append, List.nil_append, List.append_nil, List.getElem?_cons_zero, List.getElem?_cons_succ, List.set_cons_zero, List.set_cons_succ, Option.map_some, Option.map_none, Option.bind_some, Option.bind_none, List.length_cons, List.length_nil, List.length_map, Bool.not_true, Bool.not_false, Bool.or_true, Bool.true_or, Bool.or_false, Bool.false_or, Bool.and_true, Bool.and_false, Bool.true_and, Bool.false_and, if_true, if_false, reduceCtorEq, Bool.false_eq_true, Bool.not_eq_true, decide_eq_true_eq, ix_t0, ix_t1, ix_t2, ix_t3, ix_l0, ix_l1, ix_l2, ix_l3, cast0, cast1, cast2, cast3, cast4, cast5, ixN40, ixN41, ixN42, ixN43, and_self, and_true, true_and, and_false, false_and, Nat.reduceLT, Nat.reduceLeDiff, eq_self, decide_true, decide_false, Nat.zero_add, Nat.reduceAdd, $ls,*])
theorem is_in_ok (v a b : Int) : f_is_in none [.int v, .int a, .int b] = .ok (.bool (decide (a ≤ v) && decide (v ≤ b))) none := by
  unfold f_is_in
  simp? []
  by_cases h : a ≤ v
  · simp? [h]
  · simp? [h]
/-- letters in range -/
def inR (many : Int) (w : List Int) : Bool := w.all fun x => decide (0 ≤ x) && decide (x ≤ many - 1)
theorem is_row_ok (w : List Int) (many : Int) (hz : w.length ≤ sizeLine) : f_is_row none [enc w, .int many] = .ok (.bool (inR many w)) none := by
  unfold f_is_row
  simp? [enc_list]
  rw [lcL_pure (α := Int) enc (fun x => !(decide (0 ≤ x) && decide (x ≤ many - 1))) enc w [] (by simpa using hz) (fun x _ => by
    simp? [is_row_g1, is_row_t1, is_row_e1, enc_int, is_in_ok]
    by_cases h : (decide (0 ≤ x) && decide (x ≤ many - 1)) = true
    · simp? [h]
    · simp? [h])]
  simp? [eqB_nil (α := Int) _ (by decide)]
  unfold inR
  congr 2
  induction w with
  | nil => rfl
  | cons x w ih =>
    rw [List.filter_cons, List.all_cons]
    have ih := ih (by simp at hz; omega)
    cases h : (decide (0 ≤ x) && decide (x ≤ many - 1)) with
    | true => simpa using ih
    | false => simp
abbrev Word := List Int
abbrev Rule := Word × Word
abbrev Book := Int × List Rule
structure RuleOk (many : Int) (r : Rule) : Prop where
  lft : inR many r.1 = true
  rgt : inR many r.2 = true
  pos : 1 ≤ r.1.length
  few : r.1.length ≤ 3
  len : r.2.length = r.1.length
  ne : r.1 ≠ r.2
theorem is_rule_ok (r : Rule) (many : Int) (h : RuleOk many r) : f_is_rule none [enc r, .int many] = .ok (.bool true) none := by
  obtain ⟨l, r⟩ := r
  obtain ⟨h1, h2, h3, h4, h5, h6⟩ := h
  dsimp only at h1 h2 h3 h4 h5 h6
  have z1 : l.length ≤ sizeLine := Nat.le_trans h4 (by decide)
  have z2 : r.length ≤ sizeLine := by rw [h5]; exact z1
  have a1 : (1 : Int) ≤ (l.length : Int) := by omega
  have a2 : (l.length : Int) ≤ 3 := by omega
  unfold f_is_rule
  simp? [enc_pair, is_row_ok _ _ z1, is_row_ok _ _ z2, h1, h2, len_enc, a1, a2, h5, neB_enc (α := List Int) _ _ (by decide), h6]
def rLt (a b : Rule) : Bool := PySem.W.dataLt (enc a) (enc b)
structure BookOk (b : Book) : Prop where
  pos : 1 ≤ b.1
  most : b.1 ≤ 4
  few : b.2.length ≤ 12
  rules : ∀ r ∈ b.2, RuleOk b.1 r
  sorted : ∀ i, i + 1 < b.2.length → ∀ x y, b.2[i]? = some x → b.2[i + 1]? = some y → rLt x y = true
theorem need_book_ok (b : Book) (h : BookOk b) : f_need_book none [enc b] = .ok .none none := by
  obtain ⟨many, rules⟩ := b
  obtain ⟨h1, h2, h3, h4, h5⟩ := h
  dsimp only at h1 h2 h3 h4 h5
  have a3 : (rules.length : Int) ≤ 12 := by omega
  have a3' : ¬ (12 : Int) < rules.length := by omega
  unfold f_need_book
  simp? [enc_pair, enc_int, is_in_ok, h1, h2, len_enc, a3', enc_list]
  rw [enumD_map]
  obtain ⟨ρ', e, _⟩ := forL_keep (g := need_book_g1) (b := need_book_b1) (fun p : Nat × Rule => PyData.tuple [PyData.int p.1, enc p.2]) (fun ρ => ∃ x y, ρ = [Sl.fr (PyData.tuple [PyData.int many, PyData.tuple (List.map enc rules)]), x, y]) ((List.range rules.length).zip rules) [Sl.fr (PyData.tuple [PyData.int many, PyData.tuple (List.map enc rules)]), Sl.un, Sl.un] (by
      rintro ⟨i, r⟩ hp ρ ⟨x, y, rfl⟩
      have hr := zip_range hp
      dsimp only at hr
      have hm := List.mem_of_getElem? hr
      simp? [need_book_g1, need_book_b1, is_rule_ok r many (h4 r hm)]
      by_cases h0 : (0 : Int) < i
      · have hi : i - 1 + 1 < rules.length := by have := (List.getElem?_eq_some_iff.mp hr).1; omega
        obtain ⟨q, hq⟩ : ∃ q, rules[i - 1]? = some q := ⟨_, List.getElem?_eq_getElem (by omega)⟩
        have lt := h5 (i - 1) hi q r hq (by rw [show i - 1 + 1 = i by omega]; exact hr)
        have ex : ixA (PyData.tuple (rules.map enc)) (.int ((i : Int) - 1)) = some (enc q) := ix_encT (at_nat (n := i - 1) (by omega) hq)
        have e2 : ordB (fun a b => !PySem.W.dataLt b a) (enc r) (enc q) = some false := by
          rw [ordB_enc (α := Rule)]
          show some (!rLt q r) = some false
          rw [lt]; rfl
        simp? [h0, ex, e2]
        exact ⟨_, rfl, _, _, rfl⟩
      · simp? [h0]
        exact ⟨_, rfl, _, _, rfl⟩) ⟨_, _, rfl⟩
  rw [e]
  rfl
theorem enc_book (b : Book) : enc b = .tuple [.int b.1, .tuple (b.2.map enc)] := rfl
theorem need_word_ok (b : Book) (w : Word) (most : Int) (hw : inR b.1 w = true) (hz : (w.length : Int) ≤ most) : f_need_word none [enc b, enc w, .int most] = .ok .none none := by
  have a1 : ¬ most < (w.length : Int) := by omega
  unfold f_need_word
  simp? [enc_list, a1]
  rw [enumD_map]
  obtain ⟨ρ', e, _⟩ := forL_keep (g := need_word_g1) (b := need_word_b1) (fun p : Nat × Int => PyData.tuple [PyData.int p.1, enc p.2]) (fun ρ => ∃ x y, ρ = [Sl.fr (enc b), Sl.fr (.tuple (w.map enc)), .fr (.int most), x, y]) ((List.range w.length).zip w) [Sl.fr (enc b), Sl.fr (.tuple (w.map enc)), .fr (.int most), Sl.un, Sl.un] (by
      rintro ⟨i, r⟩ hp ρ ⟨x, y, rfl⟩
      have hm := List.mem_of_getElem? (zip_range hp)
      have h2 := List.all_eq_true.mp hw r hm
      simp? [need_word_g1, need_word_b1, enc_book, enc_int, is_in_ok, h2]
      exact ⟨_, rfl, _, _, rfl⟩) ⟨_, _, rfl⟩
  rw [e]
  rfl
end L2.Mx
set_option Elab.async false
set_option linter.all false
set_option maxRecDepth 100000
set_option maxHeartbeats 2000000
namespace L2.Mx
open PySem L2.Sc L2.Sm
open Enc
local macro_rules
  | `(tactic| simp? [$ls,*]) => `(tactic| simp only [argSl_none, Res.bind_ok, Res.bind_err, Res.bind_stuck, Res.bind_ite, Res.st_ok, Res.st_err, Res.st_stuck, Res.st_ite, Fl.seq_nx, Fl.seq_rt, Fl.seq_bk, Fl.seq_ct, Fl.seq_er, Fl.seq_stuck, Fl.seq_ite, bind_ap, pure_ap, fail_ap, ofO_some, ofO_none, runB_ap, runF_nx, runF_rt, runF_er, runF_nxR, runF_rtR, runF_erR, runF_ite, argSl_some, ite_ap, iteM_ap, skip_ap, seq_ap, drop_ap, ret_ap, retN_ap, if_ap, set_ap, setF_ap, brk_ap, cont_ap, never_ap, app_ap, appK_ap, put_ap, putKk_ap, putKd_ap, putKl_ap, aug_ap, for_ap, asg_ap, nameB_ap, nameE_ap, c_ap, bv_ap, fr_ap, frz_ol, frz_od, nilA_ap, consA_ap, nilB_ap, consB_ap, tup_ap, lst_ap, opR_ap, opF_ap, opT_ap, op2_ap, op2F_ap, op2T_ap, op1_ap, toT_ap, andT_ap, orT_ap, notT_ap, andV_ap, orV_ap, notV_ap, ifM_ap, callE_ap, callF_ap, callS_ap, callR_ap, lcF_ap, yes_ap, noO_ap, someO_ap, slE_ap, slF_ap, slR_ap, slFR_ap, chainV_ap, chainT_ap, par_ap, nilP_ap, consE_ap, consF_ap, new_ap, dict1_ap, isi_ap, isi2_ap, seqI_ap, enumI_ap, range1_ap, range2_ap, zipI_ap, rev_ap, keysI_ap, get_ap, getK0_ap, getK1_ap, sumVals_ap, keysSort_ap, lstRg_ap, len_list, len_tuple, len_scr, tupC_list, tupC_tuple, lstC_list, lstC_tuple, intC_int, intC_bool, max2_int, min2_int, abs_int, sum_list, sum_tuple, add_int, sub_int, neg_int, isN_none, isN_int, isN_tuple, isN_list, isN_bool, isN_str, forT, lcT, nameG, nilG, consG, tupG, rowOf, rdB, Sl.val, Sl.lget, Sl.lput, rdBs, Sl.mut, setsR, wipeR, backR, keepFr, isTy, notNoneB, eqB_int, neB_int, eqB_bool, neB_bool, ltB_int, gtB_int, leB_int, geB_int, List.map_cons, List.map_nil, List.replicate_succ, List.replicate_zero, List.cons_append, List.nil_append, List.append_nil, List.getElem?_cons_zero, List.getElem?_cons_succ, List.set_cons_zero, List.set_cons_succ, Option.map_some, Option.map_none, Option.bind_some, Option.bind_none, List.length_cons, List.length_nil, List.length_map, Bool.not_true, Bool.not_false, Bool.or_true, Bool.true_or, Bool.or_false, Bool.false_or, Bool.and_true, Bool.and_false, Bool.true_and, Bool.false_and, if_true, if_false, reduceCtorEq, Bool.false_eq_true, Bool.not_eq_true, decide_eq_true_eq, ix_t0, ix_t1, ix_t2, ix_t3, ix_l0, ix_l1, ix_l2, ix_l3, cast0, cast1, cast2, cast3, cast4, cast5, ixN40, ixN41, ixN42, ixN43, and_self, and_true, true_and, and_false, false_and, Nat.reduceLT, Nat.reduceLeDiff, eq_self, decide_true, decide_false, Nat.zero_add, Nat.reduceAdd, $ls,*])
structure Row where
  pos : Int
  seed : Int
  rest : Int
def rowD (ns : List Int) (R : Row) : List PyData := [scr ns, .int R.pos, .int R.seed, .int R.rest]
structure RowOk (R : Row) : Prop where
  pos : 0 ≤ R.pos
  s0 : 0 ≤ R.seed
  s1 : R.seed < 2147483647
theorem seed_ok (x : Int) : 0 ≤ x.fmod 2147483647 ∧ x.fmod 2147483647 < 2147483647 := ⟨Int.fmod_nonneg_of_pos _ (by decide), Int.fmod_lt_of_pos _ (by decide)⟩
theorem taken_ok (ns : List Int) (R : Row) (many : Int) (hR : RowOk R) (h1 : 1 ≤ many) (h2 : many ≤ 1000000) :
    ∃ v R', f__law_taken (some (rowD ns R)) [.int many] = .ok (.int v) (some (rowD ns R')) ∧ RowOk R' ∧ 0 ≤ v ∧ v < many := by
  obtain ⟨pos, seed, rest⟩ := R
  obtain ⟨p0, s0, s1⟩ := hR
  dsimp only at p0 s0 s1
  have hd : divOk many = true := divOk_of (by omega) (by omega)
  have h0 : many ≠ 0 := by omega
  have hd7 : divOk 7 = true := divOk_of (by omega) (by omega)
  have hm : mulOk seed 48271 = true := mulOk_of (a := 31) (b := 17) (by omega) (by decide) (by decide)
  have hS : (2147483647 : Int) ≠ 0 := by decide
  have hp : (0 : Int) ≤ 18 ∧ (18 : Int) ≤ 1000000 ∧ (10 : Int).natAbs < 2 ^ 64 := by decide
  unfold f__law_taken rowD
  by_cases hr : 0 < rest
  · simp? [runB_ap, argSl_some, hr, mod_int h0, fdiv_int hd]
    exact ⟨_, ⟨pos, seed, rest / many⟩, rfl, ⟨p0, s0, s1⟩, Int.fmod_nonneg_of_pos _ (by omega), Int.fmod_lt_of_pos _ (by omega)⟩
  · by_cases hl : (ns.length : Int) < pos + 1
    · simp? [runB_ap, argSl_some, hr, scr, hl, mod_int h0, fdiv_int hd, mul_int hm, mod_int hS, fdiv_int hd7]
      exact ⟨_, ⟨pos + 1, _, rest⟩, rfl, ⟨by show 0 ≤ pos + 1; omega, (seed_ok _).1, (seed_ok _).2⟩, Int.fmod_nonneg_of_pos _ (by omega), Int.fmod_lt_of_pos _ (by omega)⟩
    · obtain ⟨c, hc⟩ : ∃ c, ns[pos.toNat]? = some c := ⟨_, List.getElem?_eq_getElem (by omega)⟩
      have e1 : ixA (.dict [(.none, .list (ns.map PyData.int))]) (.int (pos + 1 - 1)) = some (.int c) := ix_scrI (at_nat (n := pos.toNat) (by omega) (by rw [List.getElem?_map, hc]; rfl))
      by_cases hb : (10 : Int) ^ (18 : Int).toNat ≤ c
      · simp? [runB_ap, argSl_some, hr, scr, hl, e1, mod_int h0, fdiv_int hd, mul_int hm, mod_int hS, pow_int hp, hb]
        exact ⟨_, ⟨pos + 1, _, c / many⟩, rfl, ⟨by show 0 ≤ pos + 1; omega, (seed_ok _).1, (seed_ok _).2⟩, Int.fmod_nonneg_of_pos _ (by omega), Int.fmod_lt_of_pos _ (by omega)⟩
      · simp? [runB_ap, argSl_some, hr, scr, hl, e1, mod_int h0, fdiv_int hd, mul_int hm, mod_int hS, pow_int hp, hb]
        exact ⟨_, ⟨pos + 1, _, rest⟩, rfl, ⟨by show 0 ≤ pos + 1; omega, (seed_ok _).1, (seed_ok _).2⟩, Int.fmod_nonneg_of_pos _ (by omega), Int.fmod_lt_of_pos _ (by omega)⟩
theorem order_ok (ns : List Int) (R : Row) (many : Int) (hR : RowOk R) (h1 : 0 ≤ many) (h2 : many ≤ 1000) :
    ∃ (p : List Int) (R' : Row), f__law_order (some (rowD ns R)) [.int many] = .ok (.list (p.map enc)) (some (rowD ns R')) ∧ RowOk R' ∧ p.Perm ((List.range many.toNat).map fun (i : Nat) => (i : Int)) := by
  have hs : small many = true := small_of (by omega) (by omega)
  have hz : -16777216 ≤ many ∧ many ≤ 16777216 := by omega
  unfold f__law_order
  simp? [runB_ap, argSl_some, hz, hs, range0]
  obtain ⟨n, hn⟩ : ∃ n : Nat, many.toNat = n := ⟨_, rfl⟩
  simp only [hn]
  obtain ⟨ρ', e, left, found, R', a2, a5, hR', hp, hl, rfl⟩ := forL_inv (g := _law_order_g1) (b := _law_order_b1) (fun (i : Nat) => PyData.int (i : Int))
    (fun rest ρ => ∃ (left found : List Int) (R' : Row) (a2 a5 : Sl), RowOk R' ∧ (found ++ left).Perm ((List.range n).map fun (i : Nat) => (i : Int)) ∧ left.length = rest.length ∧
      ρ = [.io (rowD ns R'), .fr (.int many), a2, .fr (.list (left.map enc)), .ol (found.map enc), a5]) (by
      rintro d rest ρ ⟨left, found, R', a2, a5, hR', hp, hl, rfl⟩
      have hl' : left.length = rest.length + 1 := by simpa using hl
      have tot : found.length + left.length = n := by have := hp.length_eq; simpa using this
      have hn1 : n ≤ 1000 := by omega
      obtain ⟨v, R2, e, hR2, v0, v1⟩ := taken_ok ns R' (left.length : Int) hR' (by omega) (by omega)
      obtain ⟨k, rfl⟩ : ∃ k : Nat, v = (k : Int) := ⟨v.toNat, by omega⟩
      have hk : k < left.length := by omega
      have e1 : ixA (.list (left.map enc)) (.int (k : Int)) = some (enc left[k]) := ix_encL (at_lit (List.getElem?_eq_getElem hk))
      have hsz : found.length < sizeLine := Nat.lt_of_le_of_lt (show found.length ≤ 1000 by omega) (by decide)
      have ea : addL (.list ((left.take k).map enc)) (.list ((left.drop (k + 1)).map enc)) = some ((left.take k ++ left.drop (k + 1)).map enc) := addL_enc (Nat.le_trans (by simp; omega) (show 1000 ≤ sizeLine by decide))
      have ec : cut (left.map (enc : Int → PyData)) (some ((k : Int) + 1)) none = (left.drop (k + 1)).map enc := by
        rw [cut_map]
        exact congrArg _ (cut_from left (k + 1))
      have ed : cut (left.map (enc : Int → PyData)) none (some (k : Int)) = (left.take k).map enc := by rw [cut_map, cut_to]
      simp? [_law_order_g1, _law_order_b1, e, e1, hsz, ec, ed, ea]
      rw [show found.map (enc : Int → PyData) ++ [enc left[k]] = (found ++ [left[k]]).map enc by rw [List.map_append]; rfl]
      refine ⟨_, .inl rfl, left.take k ++ left.drop (k + 1), found ++ [left[k]], R2, _, _, hR2, ?_, by simp; omega, rfl⟩
      refine List.Perm.trans ?_ hp
      rw [List.append_assoc]
      refine List.Perm.append_left _ ?_
      have e3 : left = left.take k ++ left[k] :: left.drop (k + 1) := by rw [← List.drop_eq_getElem_cons hk, List.take_append_drop]
      conv => rhs; rw [e3]
      rw [List.singleton_append]
      exact List.perm_middle.symm) (List.range n) [.io (rowD ns R), .fr (.int many), .un, .fr (.list ((List.range n).map fun (i : Nat) => PyData.int (i : Int))), .ol [], .un] ⟨(List.range n).map fun (i : Nat) => (i : Int), [], R, _, _, hR, by simp, by simp, by rw [List.map_map]; rfl⟩
  simp only [e]
  simp? [runF]
  refine ⟨found, R', rfl, hR', ?_⟩
  have : left = [] := List.eq_nil_of_length_eq_zero (by simpa using hl)
  subst this
  simpa using hp
theorem letters_ok (ns : List Int) (R : Row) (many long : Int) (hR : RowOk R) (h1 : 1 ≤ many) (h2 : many ≤ 1000) (h3 : 0 ≤ long) (h4 : long ≤ 1000) :
    ∃ (w : Word) (R' : Row), f__law_letters (some (rowD ns R)) [.int many, .int long] = .ok (enc w) (some (rowD ns R')) ∧ RowOk R' ∧ (w.length : Int) = long ∧ inR many w = true := by
  have hs : small long = true := small_of (by omega) (by omega)
  unfold f__law_letters
  simp? [runB_ap, argSl_some, hs, range0]
  obtain ⟨n, hn⟩ : ∃ n : Nat, long.toNat = n := ⟨_, rfl⟩
  rw [hn]
  obtain ⟨out, ρ', e, w, R', hR', rfl, hw, hl, rfl⟩ := lcL_inv (own := [3]) (g := _law_letters_g1) (ft := yesT) (fe := _law_letters_e1) (fun (i : Nat) => PyData.int (i : Int))
    (fun rest acc ρ => ∃ (w : Word) (R' : Row), RowOk R' ∧ acc = w.map enc ∧ inR many w = true ∧ w.length + rest.length = n ∧ ρ = [.io (rowD ns R'), .fr (.int many), .fr (.int long), .un]) (by
      rintro d rest acc ρ ⟨w, R', hR', rfl, hw, hl, rfl⟩
      obtain ⟨v, R2, e, hR2, v0, v1⟩ := taken_ok ns R' many hR' (by omega) (by omega)
      refine ⟨Nat.lt_of_le_of_lt (show (w.map (enc : Int → PyData)).length ≤ 1000 by simp; omega) (by decide), some (.int v), [.io (rowD ns R2), .fr (.int many), .fr (.int long), .un], ?_, w ++ [v], R2, hR2, ?_, ?_, by simp at hl ⊢; omega, rfl⟩
      · simp? [_law_letters_g1, _law_letters_e1, e]
      · rw [List.map_append]; rfl
      · unfold inR at hw ⊢
        rw [List.all_append, hw]
        simp
        omega) (List.range n) [] [.io (rowD ns R), .fr (.int many), .fr (.int long), .un] ⟨[], R, hR, rfl, rfl, by simp, rfl⟩
  rw [e]
  simp? [runF]
  exact ⟨w, R', rfl, hR', by simp at hl; omega, hw⟩
end L2.Mx
set_option Elab.async false
set_option linter.all false
set_option maxRecDepth 100000
set_option maxHeartbeats 2000000
namespace L2.Sc
open PySem PySem.Spec PyProof.Rows
open Enc
theorem dLt_irr (d : D) : PySem.W.dataLt d d = false := lex_irrefl _
theorem dLt_trans {a b c : D} (h1 : PySem.W.dataLt a b = true) (h2 : PySem.W.dataLt b c = true) : PySem.W.dataLt a c = true := lex_trans _ _ _ h1 h2
theorem dLt_neg {a b c : D} (h : PySem.W.dataLt a c = true) : PySem.W.dataLt a b = true ∨ PySem.W.dataLt b c = true := lex_negTrans _ _ _ h
section
variable {α : Type} [Enc α]
def eLt (a b : α) : Bool := PySem.W.dataLt (enc a) (enc b)
theorem eLt_total {a b : α} (h1 : eLt a b = false) (h2 : eLt b a = false) : a = b := by
  have e := lex_total _ _ h1 h2
  cases q : PyData.eqv (enc a) (enc b) with
  | true => exact (eqv a b).mp q
  | false =>
    have z := (PySem.W.toks_eqv (enc a) (enc b) (alike a b)).2 q [] [.inl 0]
    rw [e, PySem.W.lex_pre] at z
    rw [lex_irrefl] at z
    exact absurd z (by decide)
theorem eLt_irr (a : α) : eLt a a = false := dLt_irr _
theorem eLt_trans {a b c : α} (h1 : eLt a b = true) (h2 : eLt b c = true) : eLt a c = true := dLt_trans h1 h2
theorem eLt_asymm {a b : α} (h : eLt a b = true) : eLt b a = false := by
  cases q : eLt b a with
  | false => rfl
  | true => have := eLt_trans h q; rw [eLt_irr] at this; cases this
def eLe (a b : α) : Bool := !eLt b a
def sortA (xs : List α) : List α := xs.mergeSort eLe
theorem sortD_map (xs : List α) : sortD (xs.map enc) = (sortA xs).map enc := by
  unfold sortD sortA
  exact (List.map_mergeSort (r := eLe) (s := PySem.W.dataLe false (id : D → D)) (f := (enc : α → D)) (l := xs) (fun a _ b _ => rfl)).symm
theorem sortA_perm (xs : List α) : (sortA xs).Perm xs := List.mergeSort_perm _ _
theorem sortA_sorted (xs : List α) : (sortA xs).Pairwise fun a b => eLe a b = true := by
  refine List.pairwise_mergeSort (fun a b c h1 h2 => ?_) (fun a b => ?_) xs
  · unfold eLe at h1 h2 ⊢
    cases q : eLt c a with
    | false => rfl
    | true =>
      rcases dLt_neg (b := enc b) q with h | h
      · rw [show eLt c b = true from h] at h2; cases h2
      · rw [show eLt b a = true from h] at h1; cases h1
  · unfold eLe
    cases q : eLt b a with
    | false => rfl
    | true => rw [eLt_asymm q]; rfl
theorem sortA_strict {xs : List α} (h : xs.Nodup) : (sortA xs).Pairwise fun a b => eLt a b = true := by
  have nd : (sortA xs).Nodup := (sortA_perm xs).nodup_iff.mpr h
  refine (List.Pairwise.and (sortA_sorted xs) nd).imp fun {a b} ⟨h1, h2⟩ => ?_
  cases q : eLt a b with
  | true => rfl
  | false =>
    unfold eLe at h1
    cases q2 : eLt b a with
    | true => rw [q2] at h1; cases h1
    | false => exact (h2 (eLt_total q q2)).elim
theorem sortOk_enc (xs : List α) (hd : dep α ≤ 60) (ht : (∀ x ∈ xs, ∃ y r, (enc x : D) = .tuple (y :: r)) ∨ ∀ x ∈ xs, ∀ r, (enc x : D) ≠ .tuple r) : sortOk (xs.map enc) = true := by
  refine sortOk_iff.mpr ⟨.inr ⟨?_, ?_⟩, canLay_map lay xs, Nat.le_trans (depth_map depth xs) hd⟩
  · intro d hd d' hd'
    obtain ⟨a, _, rfl⟩ := List.mem_map.mp hd
    obtain ⟨b, _, rfl⟩ := List.mem_map.mp hd'
    exact alike a b
  · rcases ht with h | h
    · refine .inl fun d hd => ?_
      obtain ⟨a, ha, rfl⟩ := List.mem_map.mp hd
      exact h a ha
    · refine .inr fun d hd => ?_
      obtain ⟨a, ha, rfl⟩ := List.mem_map.mp hd
      exact ⟨nn a, h a ha⟩
theorem sortOk_one (xs : List α) (hd : dep α ≤ 60) (h1 : xs.length ≤ 1) : sortOk (xs.map enc) = true := sortOk_iff.mpr ⟨.inl (by rwa [List.length_map]), canLay_map lay xs, Nat.le_trans (depth_map depth xs) hd⟩
end
section
variable {α β : Type} [Enc α] [Enc β] [DecidableEq α]
theorem getA_out {m : List (α × β)} {k : α} (h : getA m k = none) : k ∉ m.map (·.1) := by
  induction m with
  | nil => simp
  | cons q m ih =>
    rw [getA_cons] at h
    split at h
    · cases h
    · rename_i hq
      rw [List.map_cons, List.mem_cons, not_or]
      exact ⟨fun z => hq z.symm, ih h⟩
theorem getA_in {m : List (α × β)} {p : α × β} (nd : (m.map (·.1)).Nodup) (h : p ∈ m) : getA m p.1 = some p.2 := by
  induction m with
  | nil => cases h
  | cons q m ih =>
    rw [getA_cons]
    rw [List.map_cons, List.nodup_cons] at nd
    rcases List.mem_cons.mp h with e | h
    · subst e; rw [if_pos rfl]
    · rw [if_neg (fun z => nd.1 (by rw [z]; exact List.mem_map.mpr ⟨p, h, rfl⟩))]
      exact ih nd.2 h
theorem putA'_keys (m : List (α × β)) (k : α) (v : β) : (putA' m k v).map (·.1) = if (getA m k).isSome = true then m.map (·.1) else m.map (·.1) ++ [k] := by
  unfold putA'
  split
  · rw [List.map_map]
    refine List.map_congr_left fun p _ => ?_
    show (if p.1 = k then (p.1, _) else p).1 = p.1
    split <;> rfl
  · simp
theorem putA'_nodup {m : List (α × β)} (h : (m.map (·.1)).Nodup) (k : α) (v : β) : ((putA' m k v).map (·.1)).Nodup := by
  rw [putA'_keys]
  split
  · exact h
  · rename_i e
    have e : getA m k = none := by simpa using e
    exact List.nodup_append.mpr ⟨h, by simp, fun a ha b hb => by
      have : b = k := by simpa using hb
      subst this
      exact fun z => getA_out e (z ▸ ha)⟩
theorem putA'_mem {m : List (α × β)} {k a : α} {v : β} (h : a ∈ (putA' m k v).map (·.1)) : a ∈ m.map (·.1) ∨ a = k := by
  rw [putA'_keys] at h
  split at h
  · exact .inl h
  · rcases List.mem_append.mp h with h | h
    · exact .inl h
    · exact .inr (by simpa using h)
end
end L2.Sc
set_option Elab.async false
set_option linter.all false
set_option maxRecDepth 100000
set_option maxHeartbeats 2000000
namespace L2.Mx
open PySem L2.Sc L2.Sm
open Enc
local macro_rules
  | `(tactic| simp? [$ls,*]) => `(tactic| simp only [argSl_none, Res.bind_ok, Res.bind_err, Res.bind_stuck, Res.bind_ite, Res.st_ok, Res.st_err, Res.st_stuck, Res.st_ite, Fl.seq_nx, Fl.seq_rt, Fl.seq_bk, Fl.seq_ct, Fl.seq_er, Fl.seq_stuck, Fl.seq_ite, bind_ap, pure_ap, fail_ap, ofO_some, ofO_none, runB_ap, runF_nx, runF_rt, runF_er, runF_nxR, runF_rtR, runF_erR, runF_ite, argSl_some, ite_ap, iteM_ap, skip_ap, seq_ap, drop_ap, ret_ap, retN_ap, if_ap, set_ap, setF_ap, brk_ap, cont_ap, never_ap, app_ap, appK_ap, put_ap, putKk_ap, putKd_ap, putKl_ap, aug_ap, for_ap, asg_ap, nameB_ap, nameE_ap, c_ap, bv_ap, fr_ap, frz_ol, frz_od, nilA_ap, consA_ap, nilB_ap, consB_ap, tup_ap, lst_ap, opR_ap, opF_ap, opT_ap, op2_ap, op2F_ap, op2T_ap, op1_ap, toT_ap, andT_ap, orT_ap, notT_ap, andV_ap, orV_ap, notV_ap, ifM_ap, callE_ap, callF_ap, callS_ap, callR_ap, lcF_ap, yes_ap, noO_ap, someO_ap, slE_ap, slF_ap, slR_ap, slFR_ap, chainV_ap, chainT_ap, par_ap, nilP_ap, consE_ap, consF_ap, new_ap, dict1_ap, isi_ap, isi2_ap, seqI_ap, enumI_ap, range1_ap, range2_ap, zipI_ap, rev_ap, keysI_ap, get_ap, getK0_ap, getK1_ap, sumVals_ap, keysSort_ap, lstRg_ap, len_list, len_tuple, len_scr, tupC_list, tupC_tuple, lstC_list, lstC_tuple, intC_int, intC_bool, max2_int, min2_int, abs_int, sum_list, sum_tuple, add_int, sub_int, neg_int, isN_none, isN_int, isN_tuple, isN_list, isN_bool, isN_str, forT, lcT, nameG, nilG, consG, tupG, rowOf, rdB, Sl.val, Sl.lget, Sl.lput, rdBs, Sl.mut, setsR, wipeR, backR, keepFr, isTy, notNoneB, eqB_int, neB_int, eqB_bool, neB_bool, ltB_int, gtB_int, leB_int, geB_int, List.map_cons, List.map_nil, List.replicate_succ, List.replicate_zero, List.cons_append, List.nil_append, List.append_nil, List.getElem?_cons_zero, List.getElem?_cons_succ, List.set_cons_zero, List.set_cons_succ, Option.map_some, Option.map_none, Option.bind_some, Option.bind_none, List.length_cons, List.length_nil, List.length_map, Bool.not_true, Bool.not_false, Bool.or_true, Bool.true_or, Bool.or_false, Bool.false_or, Bool.and_true, Bool.and_false, Bool.true_and, Bool.false_and, if_true, if_false, reduceCtorEq, Bool.false_eq_true, Bool.not_eq_true, decide_eq_true_eq, ix_t0, ix_t1, ix_t2, ix_t3, ix_l0, ix_l1, ix_l2, ix_l3, cast0, cast1, cast2, cast3, cast4, cast5, ixN40, ixN41, ixN42, ixN43, and_self, and_true, true_and, and_false, false_and, Nat.reduceLT, Nat.reduceLeDiff, eq_self, decide_true, decide_false, Nat.zero_add, Nat.reduceAdd, $ls,*])
structure PairOk (many : Int) (s : Nat) (l r : Word) : Prop where
  hl : inR many l = true
  hr : inR many r = true
  ll : l.length = s
  lr : r.length = s
theorem PairOk.swap {many : Int} {s : Nat} {l r : Word} (h : PairOk many s l r) : PairOk many s r l := ⟨h.hr, h.hl, h.lr, h.ll⟩
theorem inR_iff {many : Int} {w : Word} : inR many w = true ↔ ∀ x ∈ w, 0 ≤ x ∧ x ≤ many - 1 := by
  unfold inR
  rw [List.all_eq_true]
  constructor
  · intro h x hx; have := h x hx; simp at this; omega
  · intro h x hx; have := h x hx; simp; omega
theorem inR_part {many : Int} {u v w : Word} (hu : inR many u = true) (hv : inR many v = true) (h : ∀ x ∈ w, x ∈ u ∨ x ∈ v) : inR many w = true := by
  rw [inR_iff] at hu hv ⊢
  intro x hx
  rcases h x hx with h | h
  · exact hu x h
  · exact hv x h
/-- orders of letters -/
structure OrdOk (many : Int) (p : List Int) : Prop where
  len : (p.length : Int) = many
  perm : p.Perm ((List.range many.toNat).map fun (i : Nat) => (i : Int))
theorem OrdOk.at {many : Int} {p : List Int} (h : OrdOk many p) {x : Int} (h0 : 0 ≤ x) (h1 : x ≤ many - 1) : ∃ y, atI p x = some y := by
  have hl := h.len
  obtain ⟨k, rfl⟩ : ∃ k : Nat, x = (k : Int) := ⟨x.toNat, by omega⟩
  exact ⟨_, at_lit (List.getElem?_eq_getElem (show k < p.length by omega))⟩
section
variable {many : Int} {s : Nat} {l r : Word} {p : List Int} {way : Int} {a0 a1 a2 a4 a5 a7 a8 a11 : Sl}
abbrev stB (a0 a1 a2 : Sl) (p : List Int) (a4 a5 : Sl) (way : Int) (a7 a8 : Sl) (l r : Word) (a11 : Sl) : List Sl := [a0, a1, a2, .fr (.list (p.map enc)), a4, a5, .fr (.int way), a7, a8, .fr (enc l), .fr (enc r), a11]
theorem bk_i2 (h : PairOk many s l r) : ∃ l' r', _law_book_i2 (stB a0 a1 a2 p a4 a5 way a7 a8 l r a11) = .nx (stB a0 a1 a2 p a4 a5 way a7 a8 l' r' a11) ∧ PairOk many s l' r' := by
  unfold _law_book_i2 stB
  by_cases hw : way = 0
  · have e1 : ordB (fun a b => PySem.W.dataLt b a) (enc l) (.tuple (l.reverse.map enc)) = some (PySem.W.dataLt (enc l.reverse) (enc l)) := ordB_enc (α := Word) _ l l.reverse
    have h' : PairOk many s l l.reverse := ⟨h.hl, inR_part h.hl h.hl (by simp), h.ll, by simp [h.ll]⟩
    rw [enc_list l] at e1 ⊢
    rw [enc_list r]
    simp? [_law_book_i1, hw, rev_enc, e1]
    cases PySem.W.dataLt (enc l.reverse) (PyData.tuple (l.map enc)) with
    | true => simp? []; exact ⟨_, _, rfl, h'.swap⟩
    | false => simp? []; exact ⟨_, _, rfl, h'⟩
  · simp? [hw]
    exact ⟨_, _, rfl, h⟩
theorem bk_i3 (h : PairOk many s l r) (hs : 1 ≤ s) (hz : s ≤ 1000) (hp : OrdOk many p) : ∃ l' r', _law_book_i3 (stB a0 a1 a2 p a4 a5 way a7 a8 l r a11) = .nx (stB a0 a1 a2 p a4 a5 way a7 a8 l' r' a11) ∧ PairOk many s l' r' := by
  obtain ⟨hl, hr, ll, lr⟩ := h
  have hz2 : 1000 ≤ sizeLine := by decide
  unfold _law_book_i3 stB
  by_cases hw : way = 1
  · have last : ∀ w : Word, w.length = s → inR many w = true → ∃ x y, ixA (enc w) (.int (-1)) = some (.int x) ∧ ixA (.list (p.map enc)) (.int x) = some (.int y) := fun w hw hi => by
      have hx := inR_iff.mp hi (w[w.length - 1]'(by omega)) (List.getElem_mem _)
      obtain ⟨y, hy⟩ := hp.at hx.1 hx.2
      exact ⟨w[w.length - 1]'(by omega), y, ix_encT (at_neg (k := 0) rfl (by omega) (List.getElem?_eq_getElem (by omega))), ix_encL hy⟩
    obtain ⟨x, y, e1, e2⟩ := last r lr hr
    obtain ⟨x', y', e3, e4⟩ := last l ll hl
    have ne : ∀ w : Word, w.length = s → w ≠ [] := fun w hw z => by subst z; simp at hw; omega
    have cl : ∀ w : Word, w.length = s → cutO (enc w) none (some (-1)) = some (enc (w.take (s - 1))) := fun w hw => by rw [cutO_enc, cut_toLast w (ne w hw), hw]
    have cr : ∀ w : Word, w.length = s → cutO (enc w) (some (-1)) none = some (enc (w.drop (s - 1))) := fun w hw => by rw [cutO_enc, cut_fromLast w (ne w hw), hw]
    have ad : ∀ u v : Word, u.length = s → v.length = s → addO (enc (u.take (s - 1))) (enc (v.drop (s - 1))) = some (enc (u.take (s - 1) ++ v.drop (s - 1))) := fun u v hu hv => add_enc (by simp; omega)
    simp? [hw, e1, e2, e3, e4]
    by_cases hc : y' < y
    · simp? [hc, cl l ll, cl r lr, cr l ll, cr r lr, ad l r ll lr, ad r l lr ll]
      refine ⟨_, _, rfl, inR_part hl hr fun x hx => ?_, inR_part hr hl fun x hx => ?_, by simp; omega, by simp; omega⟩
      · rcases List.mem_append.mp hx with hx | hx
        · exact .inl (List.mem_of_mem_take hx)
        · exact .inr (List.mem_of_mem_drop hx)
      · rcases List.mem_append.mp hx with hx | hx
        · exact .inl (List.mem_of_mem_take hx)
        · exact .inr (List.mem_of_mem_drop hx)
    · simp? [hc]
      exact ⟨_, _, rfl, hl, hr, ll, lr⟩
  · simp? [hw]
    exact ⟨_, _, rfl, hl, hr, ll, lr⟩
theorem bk_i4 (h : PairOk many s l r) (hs : 1 ≤ s) (hz : s ≤ 1000) (hp : OrdOk many p) : ∃ l' r', _law_book_i4 (stB a0 a1 a2 p a4 a5 way a7 a8 l r a11) = .nx (stB a0 a1 a2 p a4 a5 way a7 a8 l' r' a11) ∧ PairOk many s l' r' := by
  obtain ⟨hl, hr, ll, lr⟩ := h
  have hz2 : 1000 ≤ sizeLine := by decide
  unfold _law_book_i4 stB
  by_cases hw : way = 2
  · have frst : ∀ w : Word, w.length = s → inR many w = true → ∃ x y, ixA (enc w) (.int 0) = some (.int x) ∧ ixA (.list (p.map enc)) (.int x) = some (.int y) := fun w hw hi => by
      have hx := inR_iff.mp hi (w[0]'(by omega)) (List.getElem_mem _)
      obtain ⟨y, hy⟩ := hp.at hx.1 hx.2
      exact ⟨w[0]'(by omega), y, ix_encT (at_nat (n := 0) rfl (List.getElem?_eq_getElem (by omega))), ix_encL hy⟩
    obtain ⟨x, y, e1, e2⟩ := frst r lr hr
    obtain ⟨x', y', e3, e4⟩ := frst l ll hl
    have cl : ∀ w : Word, cutO (enc w) none (some 1) = some (enc (w.take 1)) := fun w => by rw [cutO_enc]; exact congrArg _ (congrArg _ (cut_to w 1))
    have cr : ∀ w : Word, cutO (enc w) (some 1) none = some (enc (w.drop 1)) := fun w => by rw [cutO_enc]; exact congrArg _ (congrArg _ (cut_from w 1))
    have ad : ∀ u v : Word, u.length = s → v.length = s → addO (enc (u.take 1)) (enc (v.drop 1)) = some (enc (u.take 1 ++ v.drop 1)) := fun u v hu hv => add_enc (by simp; omega)
    simp? [hw, e1, e2, e3, e4]
    by_cases hc : y' < y
    · simp? [hc, cl l, cl r, cr l, cr r, ad l r ll lr, ad r l lr ll]
      refine ⟨_, _, rfl, inR_part hl hr fun x hx => ?_, inR_part hr hl fun x hx => ?_, by simp; omega, by simp; omega⟩
      · rcases List.mem_append.mp hx with hx | hx
        · exact .inr (List.mem_of_mem_take hx)
        · exact .inl (List.mem_of_mem_drop hx)
      · rcases List.mem_append.mp hx with hx | hx
        · exact .inr (List.mem_of_mem_take hx)
        · exact .inl (List.mem_of_mem_drop hx)
    · simp? [hc]
      exact ⟨_, _, rfl, hl, hr, ll, lr⟩
  · simp? [hw]
    exact ⟨_, _, rfl, hl, hr, ll, lr⟩
/-- the weights of a word's letters -/
def wts (p : List Int) (w : Word) : List Int := w.map fun x => (atI p x).getD 0
theorem bk_i5 (h : PairOk many s l r) (hs : 1 ≤ s) (hz : s ≤ 1000) (hp : OrdOk many p) : ∃ l' r' a11', _law_book_i5 (stB a0 a1 a2 p a4 a5 way a7 a8 l r a11) = .nx (stB a0 a1 a2 p a4 a5 way a7 a8 l' r' a11') ∧ PairOk many s l' r' := by
  obtain ⟨hl, hr, ll, lr⟩ := h
  have hz2 : 1000 ≤ sizeLine := by decide
  unfold _law_book_i5 stB
  by_cases hw : way = 3
  · have turn : ∀ (w : Word), w.length = s → inR many w = true → ∀ g : TgF, g = nameG 11 → ∀ f : M D, f = op2 (nameB 3) (nameB 11) ixA → ∀ a9 a10 : Sl,
        lcL [11] g yesT f (w.map enc) [] [a0, a1, a2, .fr (.list (p.map enc)), a4, a5, .fr (.int 3), a7, a8, a9, a10, .un] = .ok ((wts p w).map enc) [a0, a1, a2, .fr (.list (p.map enc)), a4, a5, .fr (.int 3), a7, a8, a9, a10, .un] := fun w hlw hi g hg f hf a9 a10 => by
      subst hg hf
      rw [lcL_map (enc : Int → PyData) (fun x => enc ((atI p x).getD 0)) w (by omega) (fun x hx => by
        have hx := inR_iff.mp hi x hx
        obtain ⟨y, hy⟩ := hp.at hx.1 hx.2
        have e : ixA (.list (p.map enc)) (enc x) = some (enc y) := ix_encL hy
        simp? [e, hy, Option.getD_some])]
      unfold wts
      rw [List.map_map]
      rfl
    rw [enc_list l, enc_list r]
    simp? [hw, turn r lr hr _law_book_g1 rfl _law_book_e1 rfl, turn l ll hl _law_book_g2 rfl _law_book_e2 rfl, intsL_map]
    by_cases hc : (wts p l).sum < (wts p r).sum
    · simp? [hc]
      exact ⟨_, _, _, rfl, hr, hl, lr, ll⟩
    · simp? [hc]
      exact ⟨_, _, _, rfl, hl, hr, ll, lr⟩
  · simp? [hw]
    exact ⟨_, _, _, rfl, hl, hr, ll, lr⟩
end
end L2.Mx
set_option Elab.async false
set_option linter.all false
set_option maxRecDepth 100000
set_option maxHeartbeats 2000000
namespace L2.Mx
open PySem L2.Sc L2.Sm
open Enc
local macro_rules
  | `(tactic| simp? [$ls,*]) => `(tactic| simp only [argSl_none, Res.bind_ok, Res.bind_err, Res.bind_stuck, Res.bind_ite, Res.st_ok, Res.st_err, Res.st_stuck, Res.st_ite, Fl.seq_nx, Fl.seq_rt, Fl.seq_bk, Fl.seq_ct, Fl.seq_er, Fl.seq_stuck, Fl.seq_ite, bind_ap, pure_ap, fail_ap, ofO_some, ofO_none, runB_ap, runF_nx, runF_rt, runF_er, runF_nxR, runF_rtR, runF_erR, runF_ite, argSl_some, ite_ap, iteM_ap, skip_ap, seq_ap, drop_ap, ret_ap, retN_ap, if_ap, set_ap, setF_ap, brk_ap, cont_ap, never_ap, app_ap, appK_ap, put_ap, putKk_ap, putKd_ap, putKl_ap, aug_ap, for_ap, asg_ap, nameB_ap, nameE_ap, c_ap, bv_ap, fr_ap, frz_ol, frz_od, nilA_ap, consA_ap, nilB_ap, consB_ap, tup_ap, lst_ap, opR_ap, opF_ap, opT_ap, op2_ap, op2F_ap, op2T_ap, op1_ap, toT_ap, andT_ap, orT_ap, notT_ap, andV_ap, orV_ap, notV_ap, ifM_ap, callE_ap, callF_ap, callS_ap, callR_ap, lcF_ap, yes_ap, noO_ap, someO_ap, slE_ap, slF_ap, slR_ap, slFR_ap, chainV_ap, chainT_ap, par_ap, nilP_ap, consE_ap, consF_ap, new_ap, dict1_ap, isi_ap, isi2_ap, seqI_ap, enumI_ap, range1_ap, range2_ap, zipI_ap, rev_ap, keysI_ap, get_ap, getK0_ap, getK1_ap, sumVals_ap, keysSort_ap, lstRg_ap, len_list, len_tuple, len_scr, tupC_list, tupC_tuple, lstC_list, lstC_tuple, intC_int, intC_bool, max2_int, min2_int, abs_int, sum_list, sum_tuple, add_int, sub_int, neg_int, isN_none, isN_int, isN_tuple, isN_list, isN_bool, isN_str, forT, lcT, nameG, nilG, consG, tupG, rowOf, rdB, Sl.val, Sl.lget, Sl.lput, rdBs, Sl.mut, setsR, wipeR, backR, keepFr, isTy, notNoneB, eqB_int, neB_int, eqB_bool, neB_bool, ltB_int, gtB_int, leB_int, geB_int, List.map_cons, List.map_nil, List.replicate_succ, List.replicate_zero, List.cons_append, List.nil_append, List.append_nil, List.getElem?_cons_zero, List.getElem?_cons_succ, List.set_cons_zero, List.set_cons_succ, Option.map_some, Option.map_none, Option.bind_some, Option.bind_none, List.length_cons, List.length_nil, List.length_map, Bool.not_true, Bool.not_false, Bool.or_true, Bool.true_or, Bool.or_false, Bool.false_or, Bool.and_true, Bool.and_false, Bool.true_and, Bool.false_and, if_true, if_false, reduceCtorEq, Bool.false_eq_true, Bool.not_eq_true, decide_eq_true_eq, ix_t0, ix_t1, ix_t2, ix_t3, ix_l0, ix_l1, ix_l2, ix_l3, cast0, cast1, cast2, cast3, cast4, cast5, ixN40, ixN41, ixN42, ixN43, and_self, and_true, true_and, and_false, false_and, Nat.reduceLT, Nat.reduceLeDiff, eq_self, decide_true, decide_false, Nat.zero_add, Nat.reduceAdd, $ls,*])
abbrev Kvs := List (Rule × Bool)
structure KvsOk (many long : Int) (kvs : Kvs) : Prop where
  nd : (kvs.map (·.1)).Nodup
  ok : ∀ r ∈ kvs.map (·.1), RuleOk many r ∧ (r.1.length : Int) ≤ long
theorem bk_i6 {many long : Int} {s : Nat} {l r : Word} {p : List Int} {way : Int} {a0 a1 a2 a4 a5 a8 a11 : Sl} {kvs : Kvs} (h : PairOk many s l r) (hs : 1 ≤ s) (hl : (s : Int) ≤ long) (h3 : long ≤ 3) (hk : KvsOk many long kvs) (hz : kvs.length ≤ 1000) :
    ∃ kvs', _law_book_i6 (stB a0 a1 a2 p a4 a5 way (.od (encK kvs)) a8 l r a11) = .nx (stB a0 a1 a2 p a4 a5 way (.od (encK kvs')) a8 l r a11) ∧ KvsOk many long kvs' ∧ kvs'.length ≤ kvs.length + 1 := by
  unfold _law_book_i6 stB
  have hne : neB (enc l) (enc r) = some (!decide (l = r)) := neB_enc (α := Word) l r
  by_cases e : l = r
  · rw [decide_eq_true e] at hne
    simp? [hne]
    exact ⟨_, rfl, hk, by omega⟩
  · rw [decide_eq_false e] at hne
    have kk : keyOf (.tuple [enc l, enc r]) = some (key (l, r)) := keyOf_pair (α := Word) (β := Word) (l, r)
    have pk : Sc.putK (encK kvs) (key (l, r)) (.tuple [enc l, enc r]) (.bool true) = encK (putA' kvs (l, r) true) := putK_enc kvs (l, r) true
    have hlt : (encK kvs).length < sizeLine := by rw [encK_len]; exact Nat.lt_of_le_of_lt hz (by decide)
    simp? [hne, kk, hlt, pk]
    refine ⟨_, rfl, ⟨putA'_nodup hk.nd _ _, fun q hq => ?_⟩, putA'_len _ _ _⟩
    rcases putA'_mem hq with hq | hq
    · exact hk.ok q hq
    · subst hq
      obtain ⟨h1, h2, h3, h4⟩ := h
      exact ⟨⟨h1, h2, by dsimp only; omega, by dsimp only; omega, by dsimp only; omega, e⟩, by dsimp only; omega⟩
theorem bk_b1 {ns : List Int} {R : Row} {many long : Int} {p : List Int} {way : Int} {a1 a4 a8 a9 a10 a11 : Sl} {kvs : Kvs} (t : Int) (hR : RowOk R) (hm : 2 ≤ many) (hm4 : many ≤ 4) (hl1 : 1 ≤ long) (h3 : long ≤ 3) (hp : OrdOk many p) (hk : KvsOk many long kvs) (hz : kvs.length ≤ 1000) :
    ∃ kvs' R' b4 b8 b9 b10 b11, forT _law_book_g3 _law_book_b1 (.int t) [.io (rowD ns R), a1, .fr (.int long), .fr (.list (p.map enc)), a4, .fr (.int many), .fr (.int way), .od (encK kvs), a8, a9, a10, a11] = .nx [.io (rowD ns R'), a1, .fr (.int long), .fr (.list (p.map enc)), b4, .fr (.int many), .fr (.int way), .od (encK kvs'), b8, b9, b10, b11] ∧ RowOk R' ∧ KvsOk many long kvs' ∧ kvs'.length ≤ kvs.length + 1 := by
  obtain ⟨v, R1, e1, hR1, v0, v1⟩ := taken_ok ns R long hR hl1 (by omega)
  obtain ⟨l, R2, e2, hR2, ll, hl⟩ := letters_ok ns R1 many (1 + v) hR1 (by omega) (by omega) (by omega) (by omega)
  obtain ⟨r, R3, e3, hR3, lr, hr⟩ := letters_ok ns R2 many (1 + v) hR2 (by omega) (by omega) (by omega) (by omega)
  have P0 : PairOk many (1 + v).toNat l r := ⟨hl, hr, by omega, by omega⟩
  have hs : 1 ≤ (1 + v).toNat := by omega
  have hz1 : (1 + v).toNat ≤ 1000 := by omega
  simp? [_law_book_g3, _law_book_b1, e1, e2, e3]
  obtain ⟨l1, r1, f1, P1⟩ := bk_i2 (a0 := .io (rowD ns R3)) (a1 := a1) (a2 := .fr (.int long)) (p := p) (a4 := .fr (.int t)) (a5 := .fr (.int many)) (way := way) (a7 := .od (encK kvs)) (a8 := .fr (.int (1 + v))) (a11 := a11) P0
  obtain ⟨l2, r2, f2, P2⟩ := bk_i3 (a0 := .io (rowD ns R3)) (a1 := a1) (a2 := .fr (.int long)) (p := p) (a4 := .fr (.int t)) (a5 := .fr (.int many)) (way := way) (a7 := .od (encK kvs)) (a8 := .fr (.int (1 + v))) (a11 := a11) P1 hs hz1 hp
  obtain ⟨l3, r3, f3, P3⟩ := bk_i4 (a0 := .io (rowD ns R3)) (a1 := a1) (a2 := .fr (.int long)) (p := p) (a4 := .fr (.int t)) (a5 := .fr (.int many)) (way := way) (a7 := .od (encK kvs)) (a8 := .fr (.int (1 + v))) (a11 := a11) P2 hs hz1 hp
  obtain ⟨l4, r4, c11, f4, P4⟩ := bk_i5 (a0 := .io (rowD ns R3)) (a1 := a1) (a2 := .fr (.int long)) (p := p) (a4 := .fr (.int t)) (a5 := .fr (.int many)) (way := way) (a7 := .od (encK kvs)) (a8 := .fr (.int (1 + v))) (a11 := a11) P3 hs hz1 hp
  obtain ⟨kvs', f5, hk', hz'⟩ := bk_i6 (long := long) (a0 := .io (rowD ns R3)) (a1 := a1) (a2 := .fr (.int long)) (p := p) (a4 := .fr (.int t)) (a5 := .fr (.int many)) (way := way) (a8 := .fr (.int (1 + v))) (a11 := c11) P4 hs (by omega) h3 hk hz
  rw [f1]
  simp? []
  rw [f2]
  simp? []
  rw [f3]
  simp? []
  rw [f4]
  simp? []
  rw [f5]
  exact ⟨_, R3, _, _, _, _, _, rfl, hR3, hk', hz'⟩
theorem book_ok (ns : List Int) (R : Row) (most long : Int) (hR : RowOk R) (h1 : 2 ≤ most) (h2 : most ≤ 4) (h3 : 1 ≤ long) (h4 : long ≤ 3) :
    ∃ (b : Book) (R' : Row), f__law_book (some (rowD ns R)) [.int most, .int long] = .ok (enc b) (some (rowD ns R')) ∧ RowOk R' ∧ BookOk b ∧ 2 ≤ b.1 ∧ b.1 ≤ most ∧ b.2.length ≤ 4 ∧ ∀ r ∈ b.2, (r.1.length : Int) ≤ long := by
  obtain ⟨v, R1, e1, hR1, v0, v1⟩ := taken_ok ns R (most - 1) hR (by omega) (by omega)
  obtain ⟨way, R2, e2, hR2, w0, w1⟩ := taken_ok ns R1 6 hR1 (by omega) (by omega)
  obtain ⟨p, R3, e3, hR3, hp⟩ := order_ok ns R2 (2 + v) hR2 (by omega) (by omega)
  obtain ⟨t, R4, e4, hR4, t0, t1⟩ := taken_ok ns R3 4 hR3 (by omega) (by omega)
  have hO : OrdOk (2 + v) p := ⟨by have := hp.length_eq; simp at this; omega, hp⟩
  have hs : small (1 + t) = true := small_of (by omega) (by omega)
  unfold f__law_book
  simp? [runB_ap, argSl_some, e1, e2, e3, e4, hs, range0]
  obtain ⟨n, hn⟩ : ∃ n : Nat, (1 + t).toNat = n := ⟨_, rfl⟩
  have hn4 : n ≤ 4 := by omega
  simp only [hn]
  obtain ⟨ρ', e, kvs, R5, b4, b8, b9, b10, b11, hR5, hk, hz, rfl⟩ := forL_inv (g := _law_book_g3) (b := _law_book_b1) (fun (i : Nat) => PyData.int (i : Int))
    (fun rest ρ => ∃ (kvs : Kvs) (R' : Row) (b4 b8 b9 b10 b11 : Sl), RowOk R' ∧ KvsOk (2 + v) long kvs ∧ kvs.length + rest.length ≤ n ∧
      ρ = [.io (rowD ns R'), .fr (.int most), .fr (.int long), .fr (.list (p.map enc)), b4, .fr (.int (2 + v)), .fr (.int way), .od (encK kvs), b8, b9, b10, b11]) (by
      rintro d rest ρ ⟨kvs, R', b4, b8, b9, b10, b11, hR', hk, hz, rfl⟩
      obtain ⟨kvs', R'', c4, c8, c9, c10, c11, e, hR'', hk', hz'⟩ := bk_b1 (ns := ns) (way := way) (a1 := .fr (.int most)) (a4 := b4) (a8 := b8) (a9 := b9) (a10 := b10) (a11 := b11) (d : Int) hR' (show 2 ≤ 2 + v by omega) (by omega) h3 h4 hO hk (by simp at hz; omega)
      exact ⟨_, .inl e, kvs', R'', _, _, _, _, _, hR'', hk', by simp at hz ⊢; omega, rfl⟩) (List.range n)
    [.io (rowD ns R4), .fr (.int most), .fr (.int long), .fr (.list (p.map enc)), .un, .fr (.int (2 + v)), .fr (.int way), .od [], .un, .un, .un, .un] ⟨[], R4, _, _, _, _, _, hR4, ⟨by simp, fun r hr => by cases hr⟩, by simp, rfl⟩
  have hz4 : kvs.length ≤ 4 := by simp at hz; omega
  have hd : ∀ ρ : List Sl, rdB (.sl 7) ρ = some (.dict (encK kvs)) → dictB (.sl 7) ρ = some (encK kvs) := fun ρ e => dictB_enc (α := Rule) (β := Bool) isTup_pair e (Nat.le_trans hz4 (by decide))
  have hso : sortOk ((kvs.map (·.1)).map enc) = true := sortOk_enc _ (by decide) (.inl fun r _ => ⟨_, _, rfl⟩)
  simp only [e]
  simp? []
  rw [hd _ (by simp? [])]
  simp? [encK_keys, hso, sortD_map]
  have perm := sortA_perm (kvs.map (·.1))
  have strict := sortA_strict hk.nd
  refine ⟨(2 + v, sortA (kvs.map (·.1))), R5, ?_, hR5, ?_, ?_, ?_, ?_, ?_⟩
  · simp? [runF]
    rfl
  · refine ⟨by dsimp only; omega, by dsimp only; omega, ?_, fun r hr => (hk.ok r (perm.mem_iff.mp hr)).1, fun i hi x y hx hy => ?_⟩
    · dsimp only
      rw [perm.length_eq, List.length_map]
      omega
    · dsimp only at hi hx hy
      have := List.pairwise_iff_getElem.mp strict i (i + 1) (by omega) hi (by omega)
      rw [(List.getElem?_eq_some_iff.mp hx).2, (List.getElem?_eq_some_iff.mp hy).2] at this
      exact this
  · dsimp only; omega
  · dsimp only; omega
  · dsimp only; rw [perm.length_eq, List.length_map]; exact hz4
  · exact fun r hr => (hk.ok r (perm.mem_iff.mp hr)).2
end L2.Mx
set_option Elab.async false
set_option linter.all false
set_option maxRecDepth 100000
set_option maxHeartbeats 2000000
namespace L2.Mx
open PySem L2.Sc L2.Sm
open Enc
local macro_rules
  | `(tactic| simp? [$ls,*]) => `(tactic| simp only [argSl_none, Res.bind_ok, Res.bind_err, Res.bind_stuck, Res.bind_ite, Res.st_ok, Res.st_err, Res.st_stuck, Res.st_ite, Fl.seq_nx, Fl.seq_rt, Fl.seq_bk, Fl.seq_ct, Fl.seq_er, Fl.seq_stuck, Fl.seq_ite, bind_ap, pure_ap, fail_ap, ofO_some, ofO_none, runB_ap, runF_nx, runF_rt, runF_er, runF_nxR, runF_rtR, runF_erR, runF_ite, argSl_some, ite_ap, iteM_ap, skip_ap, seq_ap, drop_ap, ret_ap, retN_ap, if_ap, set_ap, setF_ap, brk_ap, cont_ap, never_ap, app_ap, appK_ap, put_ap, putKk_ap, putKd_ap, putKl_ap, aug_ap, for_ap, asg_ap, nameB_ap, nameE_ap, c_ap, bv_ap, fr_ap, frz_ol, frz_od, nilA_ap, consA_ap, nilB_ap, consB_ap, tup_ap, lst_ap, opR_ap, opF_ap, opT_ap, op2_ap, op2F_ap, op2T_ap, op1_ap, toT_ap, andT_ap, orT_ap, notT_ap, andV_ap, orV_ap, notV_ap, ifM_ap, callE_ap, callF_ap, callS_ap, callR_ap, lcF_ap, yes_ap, noO_ap, someO_ap, slE_ap, slF_ap, slR_ap, slFR_ap, chainV_ap, chainT_ap, par_ap, nilP_ap, consE_ap, consF_ap, new_ap, dict1_ap, isi_ap, isi2_ap, seqI_ap, enumI_ap, range1_ap, range2_ap, zipI_ap, rev_ap, keysI_ap, get_ap, getK0_ap, getK1_ap, sumVals_ap, keysSort_ap, lstRg_ap, len_list, len_tuple, len_scr, tupC_list, tupC_tuple, lstC_list, lstC_tuple, intC_int, intC_bool, max2_int, min2_int, abs_int, sum_list, sum_tuple, add_int, sub_int, neg_int, isN_none, isN_int, isN_tuple, isN_list, isN_bool, isN_str, forT, lcT, nameG, nilG, consG, tupG, rowOf, rdB, Sl.val, Sl.lget, Sl.lput, rdBs, Sl.mut, setsR, wipeR, backR, keepFr, isTy, notNoneB, eqB_int, neB_int, eqB_bool, neB_bool, ltB_int, gtB_int, leB_int, geB_int, List.map_cons, List.map_nil, List.replicate_succ, List.replicate_zero, List.cons_append, List.nil_append, List.append_nil, List.getElem?_cons_zero, List.getElem?_cons_succ, List.set_cons_zero, List.set_cons_succ, Option.map_some, Option.map_none, Option.bind_some, Option.bind_none, List.length_cons, List.length_nil, List.length_map, Bool.not_true, Bool.not_false, Bool.or_true, Bool.true_or, Bool.or_false, Bool.false_or, Bool.and_true, Bool.and_false, Bool.true_and, Bool.false_and, if_true, if_false, reduceCtorEq, Bool.false_eq_true, Bool.not_eq_true, decide_eq_true_eq, ix_t0, ix_t1, ix_t2, ix_t3, ix_l0, ix_l1, ix_l2, ix_l3, cast0, cast1, cast2, cast3, cast4, cast5, ixN40, ixN41, ixN42, ixN43, and_self, and_true, true_and, and_false, false_and, Nat.reduceLT, Nat.reduceLeDiff, eq_self, decide_true, decide_false, Nat.zero_add, Nat.reduceAdd, $ls,*])
theorem eqB_self {d : PyData} (h : PyData.canLay0 d = true) (hz : d.depth ≤ 64) : eqB d d = some true := by
  unfold eqB SeqAt.shaped
  rw [h, decide_eq_true hz, if_pos ⟨rfl, rfl⟩, PySem.SeqAt.eqv_refl d h]
theorem depth_at : ∀ {xs : List PyData} {k : Nat} {x : PyData}, xs[k]? = some x → x.depth ≤ PyData.depthAll xs
  | [], _, _, h => by simp at h
  | y :: ys, 0, x, h => by simp at h; subst h; rw [PyData.depthAll]; exact Nat.le_max_left _ _
  | y :: ys, k + 1, x, h => by rw [PyData.depthAll]; exact Nat.le_trans (depth_at (k := k) (by simpa using h)) (Nat.le_max_right _ _)
theorem lay_at {xs : List PyData} {k : Nat} {x : PyData} (h : PyData.canLayAll0 xs = true) (e : xs[k]? = some x) : PyData.canLay0 x = true := canLayAll_mem h x (List.mem_of_getElem? e)
theorem alike_seq {n : Nat} {xs : List PyData} (ih : ∀ d ∈ xs, f__law_alike (n + 1) none [d, d] = .ok (.bool true) none) (hz : xs.length ≤ 10000) (a b : PyData)
    (ha : a = .list xs ∨ a = .tuple xs) (hb : b = a) : ∀ ρ0, ρ0 = [Sl.fr a, .fr b, .un] →
    lcL [2] (_law_alike_g1 (f__law_alike (n + 1))) (_law_alike_t1 (f__law_alike (n + 1))) (_law_alike_e1 (f__law_alike (n + 1))) ((List.range xs.length).map fun (i : Nat) => .int (i : Int)) [] ρ0 = .ok [] ρ0 := by
  rintro ρ0 rfl
  subst hb
  rw [lcL_pure (fun (i : Nat) => .int (i : Int)) (fun _ => false) (fun _ => .none) (List.range xs.length) [] (Nat.le_trans (show _ ≤ 10000 by simpa using hz) (by decide)) (fun i hi => by
    have hi : i < xs.length := List.mem_range.mp hi
    have e := List.getElem?_eq_getElem hi
    have e1 : ixA b (.int (i : Int)) = some xs[i] := by
      rcases ha with rfl | rfl
      · exact ix_lstI (at_lit e)
      · exact ix_tupI (at_lit e)
    simp? [_law_alike_g1, _law_alike_t1, _law_alike_e1, e1, ih _ (List.mem_of_getElem? e)])]
  simp
mutual
/-- no list or tuple of more than ten thousand -/
def shortD : PyData → Bool
  | .list xs => decide (xs.length ≤ 10000) && shortAll xs
  | .tuple xs => decide (xs.length ≤ 10000) && shortAll xs
  | _ => true
def shortAll : List PyData → Bool
  | [] => true
  | x :: xs => shortD x && shortAll xs
end
theorem short_at : ∀ {xs : List PyData} {k : Nat} {x : PyData}, shortAll xs = true → xs[k]? = some x → shortD x = true
  | [], _, _, _, h => by simp at h
  | y :: ys, 0, x, hs, h => by
    rw [shortAll, Bool.and_eq_true] at hs
    simp at h; subst h; exact hs.1
  | y :: ys, k + 1, x, hs, h => by
    rw [shortAll, Bool.and_eq_true] at hs
    exact short_at (k := k) hs.2 (by simpa using h)
theorem alike_refl : ∀ (n : Nat) (d : PyData), PyData.canLay0 d = true → d.depth ≤ n → n ≤ 60 → shortD d = true → f__law_alike (n + 1) none [d, d] = .ok (.bool true) none := by
  intro n
  induction n with
  | zero =>
    intro d hl hd _ _
    have es : eqB d d = some true := eqB_self hl (by omega)
    unfold f__law_alike
    unfold _law_alike_s
    cases d with
    | none => simp? [es]
    | bool c => cases c <;> simp? [es, isN_bool, eqB_bool]
    | int c => simp? [es, eqB_bool]
    | str c => simp? [es, eqB_bool]
    | list xs => rw [PyData.depth] at hd; omega
    | tuple xs => rw [PyData.depth] at hd; omega
    | dict xs => cases hl
  | succ n ih =>
    intro d hl hd hn hs
    have es : eqB d d = some true := eqB_self hl (by omega)
    have seqc : ∀ xs : List PyData, (d = .list xs ∨ d = .tuple xs) → xs.length ≤ 10000 ∧ ∀ z ∈ xs, f__law_alike (n + 1) none [z, z] = .ok (.bool true) none := fun xs hx => by
      have h2 : (PyData.canLayAll0 xs = true ∧ PyData.depthAll xs + 1 ≤ n + 1) ∧ (xs.length ≤ 10000 ∧ shortAll xs = true) := by
        rcases hx with rfl | rfl
        · rw [PyData.canLay0] at hl; rw [PyData.depth] at hd; rw [shortD, Bool.and_eq_true, decide_eq_true_eq] at hs; exact ⟨⟨hl, hd⟩, hs⟩
        · rw [PyData.canLay0] at hl; rw [PyData.depth] at hd; rw [shortD, Bool.and_eq_true, decide_eq_true_eq] at hs; exact ⟨⟨hl, hd⟩, hs⟩
      obtain ⟨⟨h3, h4⟩, h5, h6⟩ := h2
      refine ⟨h5, fun z hz => ?_⟩
      obtain ⟨k, hk, e⟩ := List.mem_iff_getElem.mp hz
      have e : xs[k]? = some z := by rw [← e]; exact List.getElem?_eq_getElem hk
      exact ih z (lay_at h3 e) (by have := depth_at e; omega) (by omega) (short_at h6 e)
    have nil0 : eqB (.list []) (.list []) = some true := by decide
    unfold f__law_alike
    unfold _law_alike_s
    cases d with
    | none => simp? [es]
    | bool c => cases c <;> simp? [es]
    | int c => simp? [es]
    | str c => simp? [es]
    | list xs =>
      obtain ⟨hz, hx⟩ := seqc xs (.inl rfl)
      have hs : small (xs.length : Int) = true := small_of (by omega) (by omega)
      simp? [hs, range0]
      rw [Int.toNat_natCast, alike_seq hx hz (.list xs) (.list xs) (.inl rfl) rfl _ rfl]
      simp? [nil0]
    | tuple xs =>
      obtain ⟨hz, hx⟩ := seqc xs (.inr rfl)
      have hs : small (xs.length : Int) = true := small_of (by omega) (by omega)
      simp? [hs, range0]
      rw [Int.toNat_natCast, alike_seq hx hz (.tuple xs) (.tuple xs) (.inr rfl) rfl _ rfl]
      simp? [nil0]
    | dict xs => cases hl
end L2.Mx
set_option Elab.async false
set_option linter.all false
set_option maxRecDepth 100000
set_option maxHeartbeats 2000000
namespace L2.Mx
open PySem L2.Sc L2.Sm
open Enc
local macro_rules
  | `(tactic| simp? [$ls,*]) => `(tactic| simp only [argSl_none, Res.bind_ok, Res.bind_err, Res.bind_stuck, Res.bind_ite, Res.st_ok, Res.st_err, Res.st_stuck, Res.st_ite, Fl.seq_nx, Fl.seq_rt, Fl.seq_bk, Fl.seq_ct, Fl.seq_er, Fl.seq_stuck, Fl.seq_ite, bind_ap, pure_ap, fail_ap, ofO_some, ofO_none, runB_ap, runF_nx, runF_rt, runF_er, runF_nxR, runF_rtR, runF_erR, runF_ite, argSl_some, ite_ap, iteM_ap, skip_ap, seq_ap, drop_ap, ret_ap, retN_ap, if_ap, set_ap, setF_ap, brk_ap, cont_ap, never_ap, app_ap, appK_ap, put_ap, putKk_ap, putKd_ap, putKl_ap, aug_ap, for_ap, asg_ap, nameB_ap, nameE_ap, c_ap, bv_ap, fr_ap, frz_ol, frz_od, nilA_ap, consA_ap, nilB_ap, consB_ap, tup_ap, lst_ap, opR_ap, opF_ap, opT_ap, op2_ap, op2F_ap, op2T_ap, op1_ap, toT_ap, andT_ap, orT_ap, notT_ap, andV_ap, orV_ap, notV_ap, ifM_ap, callE_ap, callF_ap, callS_ap, callR_ap, lcF_ap, yes_ap, noO_ap, someO_ap, slE_ap, slF_ap, slR_ap, slFR_ap, chainV_ap, chainT_ap, par_ap, nilP_ap, consE_ap, consF_ap, new_ap, dict1_ap, isi_ap, isi2_ap, seqI_ap, enumI_ap, range1_ap, range2_ap, zipI_ap, rev_ap, keysI_ap, get_ap, getK0_ap, getK1_ap, sumVals_ap, keysSort_ap, lstRg_ap, len_list, len_tuple, len_scr, tupC_list, tupC_tuple, lstC_list, lstC_tuple, intC_int, intC_bool, max2_int, min2_int, abs_int, sum_list, sum_tuple, add_int, sub_int, neg_int, isN_none, isN_int, isN_tuple, isN_list, isN_bool, isN_str, forT, lcT, nameG, nilG, consG, tupG, rowOf, rdB, Sl.val, Sl.lget, Sl.lput, rdBs, Sl.mut, setsR, wipeR, backR, keepFr, isTy, notNoneB, eqB_int, neB_int, eqB_bool, neB_bool, ltB_int, gtB_int, leB_int, geB_int, List.map_cons, List.map_nil, List.replicate_succ, List.replicate_zero, List.cons_append, List.nil_append, List.append_nil, List.getElem?_cons_zero, List.getElem?_cons_succ, List.set_cons_zero, List.set_cons_succ, Option.map_some, Option.map_none, Option.bind_some, Option.bind_none, List.length_cons, List.length_nil, List.length_map, Bool.not_true, Bool.not_false, Bool.or_true, Bool.true_or, Bool.or_false, Bool.false_or, Bool.and_true, Bool.and_false, Bool.true_and, Bool.false_and, if_true, if_false, reduceCtorEq, Bool.false_eq_true, Bool.not_eq_true, decide_eq_true_eq, ix_t0, ix_t1, ix_t2, ix_t3, ix_l0, ix_l1, ix_l2, ix_l3, cast0, cast1, cast2, cast3, cast4, cast5, ixN40, ixN41, ixN42, ixN43, and_self, and_true, true_and, and_false, false_and, Nat.reduceLT, Nat.reduceLeDiff, eq_self, decide_true, decide_false, Nat.zero_add, Nat.reduceAdd, $ls,*])
abbrev Line := List Nat × Word
/-- the first place that may be next -/
def lo (p : Line) : Nat := match p.1.getLast? with
  | none => 0
  | some a => a + 1
def put1 (w r : Word) (k : Nat) (p : Line) (a : Nat) : Line := (p.1 ++ [a], p.2.take a ++ [r.getD k 0] ++ p.2.drop (a + 1))
def ext1 (w l r : Word) (k : Nat) (p : Line) : List Line := (((List.range (w.length - lo p)).map fun i => lo p + i).filter fun a => w.getD a 0 = l.getD k 0).map (put1 w r k p)
def rowsK (w l r : Word) : Nat → List Line
  | 0 => [([], w)]
  | k + 1 => (rowsK w l r k).flatMap (ext1 w l r k)
structure LineOk (w : Word) (k : Nat) (p : Line) : Prop where
  len : p.1.length = k
  lt : ∀ a ∈ p.1, a < w.length
  wl : p.2.length = w.length
theorem lo_le {w : Word} {k : Nat} {p : Line} (h : LineOk w k p) : lo p ≤ w.length := by
  unfold lo
  split
  · exact Nat.zero_le _
  · rename_i a e
    exact h.lt a (List.mem_of_getLast? e)
theorem ext1_ok {w l r : Word} {k : Nat} {p q : Line} (h : LineOk w k p) (hq : q ∈ ext1 w l r k p) : LineOk w (k + 1) q := by
  unfold ext1 at hq
  obtain ⟨a, ha, rfl⟩ := List.mem_map.mp hq
  have ha := (List.mem_filter.mp ha).1
  obtain ⟨i, hi, rfl⟩ := List.mem_map.mp ha
  have hi := List.mem_range.mp hi
  have hl := h.wl
  refine ⟨by simp [put1, h.len], fun b hb => ?_, by simp [put1]; omega⟩
  rcases List.mem_append.mp hb with hb | hb
  · exact h.lt b hb
  · have : b = lo p + i := by simpa using hb
    omega
theorem rowsK_ok {w l r : Word} : ∀ {k : Nat} {p : Line}, p ∈ rowsK w l r k → LineOk w k p
  | 0, p, h => by
    have : p = ([], w) := by simpa [rowsK] using h
    subst this
    exact ⟨rfl, fun a ha => (by cases ha), rfl⟩
  | k + 1, p, h => by
    rw [rowsK, List.mem_flatMap] at h
    obtain ⟨q, hq, hp⟩ := h
    exact ext1_ok (rowsK_ok hq) hp
theorem ext1_len {w l r : Word} {k : Nat} {p : Line} : (ext1 w l r k p).length ≤ w.length := by
  unfold ext1
  rw [List.length_map]
  refine Nat.le_trans (List.length_filter_le ..) ?_
  simp
theorem flat_len {α β : Type} (f : α → List β) (n : Nat) (h : ∀ a, (f a).length ≤ n) : ∀ l : List α, (l.flatMap f).length ≤ l.length * n
  | [] => by simp
  | a :: l => by
    have := flat_len f n h l
    have := h a
    rw [List.flatMap_cons, List.length_append, List.length_cons, Nat.succ_mul]
    omega
theorem rowsK_len {w l r : Word} : ∀ k, (rowsK w l r k).length ≤ w.length ^ k
  | 0 => by simp [rowsK]
  | k + 1 => by
    rw [rowsK, Nat.pow_succ]
    exact Nat.le_trans (flat_len _ _ (fun a => ext1_len) _) (Nat.mul_le_mul_right _ (rowsK_len k))
/-- one more place -/
theorem st_b1 {b w l r : Word} {bk : PyData} {a2 a5 a11 : Sl} {k : Nat} {p : Line} {a : Nat} {acc : List Line} (hk : k < l.length) (hr : r.length = l.length) (h : LineOk w k p) (ha : a < w.length) (hz : acc.length < 1000000) (hw : w.length ≤ 1000) (hl3 : l.length ≤ 1000) (h10 : Sl) :
    forT _law_steps_g1 _law_steps_b1 (.int (a : Int)) [.fr bk, .fr (enc w), a2, .fr (enc l), .fr (enc r), a5, .fr (.int (k : Int)), .ol (acc.map enc), .fr (enc p.1), .fr (enc p.2), h10] =
      .nx [.fr bk, .fr (enc w), a2, .fr (enc l), .fr (enc r), a5, .fr (.int (k : Int)), .ol ((if w.getD a 0 = l.getD k 0 then acc ++ [put1 w r k p a] else acc).map enc), .fr (enc p.1), .fr (enc p.2), .fr (.int (a : Int))] := by
  have g : ∀ (u : Word) (i : Nat), i < u.length → ixA (enc u) (.int (i : Int)) = some (.int (u.getD i 0)) := fun u i hi => by
    have := ix_encT (at_lit (List.getElem?_eq_getElem hi))
    rw [List.getD_eq_getElem?_getD, List.getElem?_eq_getElem hi]
    exact this
  have hS : 1000000 ≤ sizeLine := by decide
  have hlt : acc.length < sizeLine := by omega
  have e1 : addO (enc p.1) (.tuple [.int (a : Int)]) = some (enc (p.1 ++ [a])) := add_enc (ys := [a]) (by rw [h.len]; simp; omega)
  have wl := h.wl
  have e2 : cutO (enc p.2) none (some (a : Int)) = some (enc (p.2.take a)) := by rw [cutO_enc, cut_to]
  have e3 : cutO (enc p.2) (some ((a : Int) + 1)) none = some (enc (p.2.drop (a + 1))) := by rw [cutO_enc]; exact congrArg _ (congrArg _ (cut_from p.2 (a + 1)))
  have e4 : addO (enc (p.2.take a)) (.tuple [.int (r.getD k 0)]) = some (enc (p.2.take a ++ [r.getD k 0])) := add_enc (ys := [r.getD k 0]) (by simp; omega)
  have e5 : addO (enc (p.2.take a ++ [r.getD k 0])) (enc (p.2.drop (a + 1))) = some (enc (p.2.take a ++ [r.getD k 0] ++ p.2.drop (a + 1))) := add_enc (by simp; omega)
  by_cases hc : w.getD a 0 = l.getD k 0
  · simp? [_law_steps_g1, _law_steps_b1, g w a ha, g l k hk, g r k (by omega), hc, e1, e2, e3, e4, e5, hlt, List.map_append]
    rfl
  · simp? [_law_steps_g1, _law_steps_b1, g w a ha, g l k hk, hc]
/-- all next places of one line -/
theorem st_b2 {w l r : Word} {bk : PyData} {a2 a5 a10 a8 a9 : Sl} {k : Nat} {p : Line} {acc : List Line} (hk : k < l.length) (hr : r.length = l.length) (h : LineOk w k p) (hz : acc.length + w.length ≤ 1000000) (hw : w.length ≤ 1000) (hl3 : l.length ≤ 1000) :
    ∃ b8 b9 b10, forT _law_steps_g2 _law_steps_b2 (enc p) [.fr bk, .fr (enc w), a2, .fr (enc l), .fr (enc r), a5, .fr (.int (k : Int)), .ol (acc.map enc), a8, a9, a10] =
      .nx [.fr bk, .fr (enc w), a2, .fr (enc l), .fr (enc r), a5, .fr (.int (k : Int)), .ol ((acc ++ ext1 w l r k p).map enc), b8, b9, b10] := by
  obtain ⟨line, here⟩ := p
  have hlo := lo_le h
  have hsm : small (lo (line, here) : Int) = true := small_of (by omega) (by omega)
  have hsm2 : small (w.length : Int) = true := small_of (by omega) (by omega)
  obtain ⟨ρ0, hρ0⟩ : ∃ ρ0 : List Sl, ρ0 = [.fr bk, .fr (enc w), a2, .fr (enc l), .fr (enc r), a5, .fr (.int (k : Int)), .ol (acc.map enc), .fr (enc line), .fr (enc here), a10] := ⟨_, rfl⟩
  have first : _law_steps_b2 ρ0 = forL _law_steps_g1 _law_steps_b1 (rangeD (lo (line, here) : Int) ((w.length : Int) - (lo (line, here) : Int)).toNat) ρ0 := by
    subst hρ0
    have e0 : neB (enc line) (.tuple []) = some (!decide (line = [])) := neB_enc (α := List Nat) line []
    by_cases hn : line = []
    · subst hn
      rw [decide_eq_true rfl] at e0
      have hs0 : small 0 = true := small_of (by omega) (by omega)
      simp? [_law_steps_b2, e0, len_enc, hs0, hsm2]
      rfl
    · rw [decide_eq_false hn] at e0
      have hp : 0 < line.length := List.length_pos_iff.mpr hn
      have e1 : ixA (enc line) (.int (-1)) = some (enc (line[line.length - 1]'(by omega))) := ix_encT (at_neg (k := 0) rfl hp (List.getElem?_eq_getElem (by omega)))
      have e2 : (lo (line, here) : Int) = ((line[line.length - 1]'(by omega) : Nat) : Int) + 1 := by
        unfold lo
        dsimp only
        rw [List.getLast?_eq_getElem?, List.getElem?_eq_getElem (by omega)]
        rfl
      rw [e2] at hsm ⊢
      simp? [_law_steps_b2, e0, e1, enc_nat, len_enc, hsm, hsm2]
  have start : forT _law_steps_g2 _law_steps_b2 (enc (line, here)) [.fr bk, .fr (enc w), a2, .fr (enc l), .fr (enc r), a5, .fr (.int (k : Int)), .ol (acc.map enc), a8, a9, a10] = _law_steps_b2 ρ0 := by
    subst hρ0
    simp? [_law_steps_g2, enc_pair]
  rw [start, first, rangeLo, hρ0]
  obtain ⟨n, hn⟩ : ∃ n : Nat, ((w.length : Int) - (lo (line, here) : Int)).toNat = n := ⟨_, rfl⟩
  have hn2 : n = w.length - lo (line, here) := by omega
  rw [hn]
  have em : ((List.range n).map fun (i : Nat) => PyData.int ((lo (line, here) : Int) + (i : Int))) = (((List.range n).map fun i => lo (line, here) + i).map fun (a : Nat) => PyData.int (a : Int)) := by
    rw [List.map_map]
    exact List.map_congr_left fun i _ => congrArg PyData.int (by simp)
  rw [em]
  obtain ⟨ρ', e, dn, acc', x10, hdn, rfl, rfl⟩ := forL_inv (g := _law_steps_g1) (b := _law_steps_b1) (fun (a : Nat) => PyData.int (a : Int))
    (fun rest ρ => ∃ (dn : List Nat) (acc' : List Line) (x10 : Sl), ((List.range n).map fun i => lo (line, here) + i) = dn ++ rest ∧ acc' = acc ++ (dn.filter fun a => w.getD a 0 = l.getD k 0).map (put1 w r k (line, here)) ∧
      ρ = [.fr bk, .fr (enc w), a2, .fr (enc l), .fr (enc r), a5, .fr (.int (k : Int)), .ol (acc'.map enc), .fr (enc line), .fr (enc here), x10]) (by
      rintro a rest ρ ⟨dn, acc', x10, hdn, rfl, rfl⟩
      have tot : n = dn.length + (rest.length + 1) := by have := congrArg List.length hdn; simpa using this
      have ha : a < w.length := by
        have : a ∈ (List.range n).map fun i => lo (line, here) + i := by rw [hdn]; simp
        obtain ⟨i, hi, rfl⟩ := List.mem_map.mp this
        have := List.mem_range.mp hi
        omega
      have hfl := List.length_filter_le (fun a => decide (w.getD a 0 = l.getD k 0)) dn
      have e := st_b1 (b := []) (bk := bk) (a2 := a2) (a5 := a5) (a11 := .un) (acc := acc ++ (dn.filter fun a => w.getD a 0 = l.getD k 0).map (put1 w r k (line, here))) hk hr h ha (by rw [List.length_append, List.length_map]; omega) hw hl3 x10
      refine ⟨_, .inl e, dn ++ [a], _, _, by rw [hdn]; simp, ?_, rfl⟩
      rw [List.filter_append]
      by_cases hc : w.getD a 0 = l.getD k 0
      · rw [if_pos hc, List.filter_cons_of_pos (by simpa using hc)]
        simp
      · rw [if_neg hc, List.filter_cons_of_neg (by simpa using hc)]
        simp) ((List.range n).map fun i => lo (line, here) + i)
    [.fr bk, .fr (enc w), a2, .fr (enc l), .fr (enc r), a5, .fr (.int (k : Int)), .ol (acc.map enc), .fr (enc line), .fr (enc here), a10] ⟨[], acc, a10, rfl, by simp, rfl⟩
  rw [e]
  rw [List.append_nil] at hdn
  unfold ext1
  rw [← hn2, hdn]
  exact ⟨_, _, _, rfl⟩
end L2.Mx
set_option Elab.async false
set_option linter.all false
set_option maxRecDepth 100000
set_option maxHeartbeats 2000000
namespace L2.Mx
open PySem L2.Sc L2.Sm
open Enc
local macro_rules
  | `(tactic| simp? [$ls,*]) => `(tactic| simp only [argSl_none, Res.bind_ok, Res.bind_err, Res.bind_stuck, Res.bind_ite, Res.st_ok, Res.st_err, Res.st_stuck, Res.st_ite, Fl.seq_nx, Fl.seq_rt, Fl.seq_bk, Fl.seq_ct, Fl.seq_er, Fl.seq_stuck, Fl.seq_ite, bind_ap, pure_ap, fail_ap, ofO_some, ofO_none, runB_ap, runF_nx, runF_rt, runF_er, runF_nxR, runF_rtR, runF_erR, runF_ite, argSl_some, ite_ap, iteM_ap, skip_ap, seq_ap, drop_ap, ret_ap, retN_ap, if_ap, set_ap, setF_ap, brk_ap, cont_ap, never_ap, app_ap, appK_ap, put_ap, putKk_ap, putKd_ap, putKl_ap, aug_ap, for_ap, asg_ap, nameB_ap, nameE_ap, c_ap, bv_ap, fr_ap, frz_ol, frz_od, nilA_ap, consA_ap, nilB_ap, consB_ap, tup_ap, lst_ap, opR_ap, opF_ap, opT_ap, op2_ap, op2F_ap, op2T_ap, op1_ap, toT_ap, andT_ap, orT_ap, notT_ap, andV_ap, orV_ap, notV_ap, ifM_ap, callE_ap, callF_ap, callS_ap, callR_ap, lcF_ap, yes_ap, noO_ap, someO_ap, slE_ap, slF_ap, slR_ap, slFR_ap, chainV_ap, chainT_ap, par_ap, nilP_ap, consE_ap, consF_ap, new_ap, dict1_ap, isi_ap, isi2_ap, seqI_ap, enumI_ap, range1_ap, range2_ap, zipI_ap, rev_ap, keysI_ap, get_ap, getK0_ap, getK1_ap, sumVals_ap, keysSort_ap, lstRg_ap, len_list, len_tuple, len_scr, tupC_list, tupC_tuple, lstC_list, lstC_tuple, intC_int, intC_bool, max2_int, min2_int, abs_int, sum_list, sum_tuple, add_int, sub_int, neg_int, isN_none, isN_int, isN_tuple, isN_list, isN_bool, isN_str, forT, lcT, nameG, nilG, consG, tupG, rowOf, rdB, Sl.val, Sl.lget, Sl.lput, rdBs, Sl.mut, setsR, wipeR, backR, keepFr, isTy, notNoneB, eqB_int, neB_int, eqB_bool, neB_bool, ltB_int, gtB_int, leB_int, geB_int, List.map_cons, List.map_nil, List.replicate_succ, List.replicate_zero, List.cons_append, List.nil_append, List.append_nil, List.getElem?_cons_zero, List.getElem?_cons_succ, List.set_cons_zero, List.set_cons_succ, Option.map_some, Option.map_none, Option.bind_some, Option.bind_none, List.length_cons, List.length_nil, List.length_map, Bool.not_true, Bool.not_false, Bool.or_true, Bool.true_or, Bool.or_false, Bool.false_or, Bool.and_true, Bool.and_false, Bool.true_and, Bool.false_and, if_true, if_false, reduceCtorEq, Bool.false_eq_true, Bool.not_eq_true, decide_eq_true_eq, ix_t0, ix_t1, ix_t2, ix_t3, ix_l0, ix_l1, ix_l2, ix_l3, cast0, cast1, cast2, cast3, cast4, cast5, ixN40, ixN41, ixN42, ixN43, and_self, and_true, true_and, and_false, false_and, Nat.reduceLT, Nat.reduceLeDiff, eq_self, decide_true, decide_false, Nat.zero_add, Nat.reduceAdd, $ls,*])
abbrev Fnd := List (Word × Bool)
section
variable {w l r : Word} {bk : PyData}
theorem st_b3 {a2 a6 a7 a8 a9 a10 : Sl} {k : Nat} (hk : k < l.length) (hr : r.length = l.length) (hw : w.length ≤ 30) (hl3 : l.length ≤ 3) :
    ∃ b6 b7 b8 b9 b10, forT _law_steps_g3 _law_steps_b3 (.int (k : Int)) [.fr bk, .fr (enc w), a2, .fr (enc l), .fr (enc r), .fr (.list ((rowsK w l r k).map enc)), a6, a7, a8, a9, a10] =
      .nx [.fr bk, .fr (enc w), a2, .fr (enc l), .fr (enc r), .fr (.list ((rowsK w l r (k + 1)).map enc)), b6, b7, b8, b9, b10] := by
  simp? [_law_steps_g3, _law_steps_b3]
  have bound : (rowsK w l r k).length ≤ 27000 := by
    refine Nat.le_trans (rowsK_len k) (Nat.le_trans (Nat.pow_le_pow_left hw k) (Nat.le_trans (Nat.pow_le_pow_right (by decide) (show k ≤ 3 by omega)) (by decide)))
  obtain ⟨ρ', e, dn, acc, x8, x9, x10, hdn, rfl, rfl⟩ := forL_inv (g := _law_steps_g2) (b := _law_steps_b2) (enc : Line → PyData)
    (fun rest ρ => ∃ (dn : List Line) (acc : List Line) (x8 x9 x10 : Sl), rowsK w l r k = dn ++ rest ∧ acc = dn.flatMap (ext1 w l r k) ∧
      ρ = [.fr bk, .fr (enc w), a2, .fr (enc l), .fr (enc r), .fr (.list ((rowsK w l r k).map enc)), .fr (.int (k : Int)), .ol (acc.map enc), x8, x9, x10]) (by
      rintro p rest ρ ⟨dn, acc, x8, x9, x10, hdn, rfl, rfl⟩
      have hp : LineOk w k p := rowsK_ok (w := w) (l := l) (r := r) (by rw [hdn]; simp)
      have tot : (rowsK w l r k).length = dn.length + (rest.length + 1) := by rw [hdn]; simp
      have fl := flat_len (ext1 w l r k) w.length (fun a => ext1_len) dn
      have : dn.length * w.length ≤ 27000 * 30 := Nat.mul_le_mul (by omega) hw
      obtain ⟨y8, y9, y10, e⟩ := st_b2 (bk := bk) (a2 := a2) (a5 := .fr (.list ((rowsK w l r k).map enc))) (a8 := x8) (a9 := x9) (a10 := x10) (acc := dn.flatMap (ext1 w l r k)) hk hr hp (by omega) (by omega) (by omega)
      exact ⟨_, .inl e, dn ++ [p], _, _, _, _, by rw [hdn]; simp, by simp, rfl⟩) (rowsK w l r k)
    [.fr bk, .fr (enc w), a2, .fr (enc l), .fr (enc r), .fr (.list ((rowsK w l r k).map enc)), .fr (.int (k : Int)), .ol [], a8, a9, a10] ⟨[], [], _, _, _, rfl, rfl, rfl⟩
  rw [List.append_nil] at hdn
  subst hdn
  simp only [e]
  simp? []
  exact ⟨_, _, _, _, _, rfl⟩
/-- what has been found, a rule more -/
def addRule (w : Word) (m : Fnd) (rl : Rule) : Fnd := (rowsK w rl.1 rl.2 rl.1.length).foldl (fun m p => putA' m p.2 true) m
structure FndOk (w : Word) (m : Fnd) : Prop where
  nd : (m.map (·.1)).Nodup
  len : ∀ u ∈ m.map (·.1), u.length = w.length
theorem FndOk.fold {w l r : Word} {k : Nat} : ∀ (ps : List Line) {m : Fnd}, (∀ p ∈ ps, LineOk w k p) → FndOk w m → FndOk w (ps.foldl (fun m p => putA' m p.2 true) m) ∧ (ps.foldl (fun m p => putA' m p.2 true) m).length ≤ m.length + ps.length
  | [], m, _, h => ⟨h, by simp⟩
  | p :: ps, m, hp, h => by
    have h1 : FndOk w (putA' m p.2 true) := ⟨putA'_nodup h.nd _ _, fun u hu => by
      rcases putA'_mem hu with hu | hu
      · exact h.len u hu
      · subst hu; exact (hp p (List.mem_cons_self ..)).wl⟩
    obtain ⟨h2, h3⟩ := FndOk.fold (l := l) (r := r) (k := k) ps (fun q hq => hp q (List.mem_cons_of_mem _ hq)) h1
    have := putA'_len m p.2 true
    exact ⟨h2, by rw [List.foldl_cons, List.length_cons]; omega⟩
theorem st_b5 {a3 a4 a5 a6 a7 a8 a9 a10 : Sl} {m : Fnd} {rl : Rule} (hpos : 1 ≤ rl.1.length) (hl3 : rl.1.length ≤ 3) (hr : rl.2.length = rl.1.length) (hw : w.length ≤ 30) (hm : FndOk w m) (hz : m.length ≤ 1000000) :
    ∃ b3 b4 b5 b6 b7 b8 b9 b10, forT _law_steps_g5 _law_steps_b5 (enc rl) [.fr bk, .fr (enc w), .od (encK m), a3, a4, a5, a6, a7, a8, a9, a10] =
      .nx [.fr bk, .fr (enc w), .od (encK (addRule w m rl)), b3, b4, b5, b6, b7, b8, b9, b10] ∧ FndOk w (addRule w m rl) ∧ (addRule w m rl).length ≤ m.length + 27000 := by
  obtain ⟨l, r⟩ := rl
  dsimp only at hpos hl3 hr
  have hS : 16000000 ≤ sizeLine := by decide
  have hs : small (l.length : Int) = true := small_of (by omega) (by omega)
  simp? [_law_steps_g5, _law_steps_b5, enc_pair, len_enc, hs, range0]
  rw [Int.toNat_natCast]
  obtain ⟨ρ', e, j, x6, x7, x8, x9, x10, hj, rfl⟩ := forL_inv (g := _law_steps_g3) (b := _law_steps_b3) (fun (i : Nat) => PyData.int (i : Int))
    (fun rest ρ => ∃ (j : Nat) (x6 x7 x8 x9 x10 : Sl), (List.range l.length = List.range j ++ rest ∧ j ≤ l.length) ∧
      ρ = [.fr bk, .fr (enc w), .od (encK m), .fr (enc l), .fr (enc r), .fr (.list ((rowsK w l r j).map enc)), x6, x7, x8, x9, x10]) (by
      rintro i rest ρ ⟨j, x6, x7, x8, x9, x10, ⟨hj, hjl⟩, rfl⟩
      have hlen : l.length = j + (rest.length + 1) := by have := congrArg List.length hj; simpa using this
      have hi : i = j := by
        have := congrArg (fun q => q[j]?) hj
        simp [List.getElem?_append_right] at this
        have h2 : (List.range l.length)[j]? = some j := List.getElem?_range (by omega)
        exact Option.some.inj (this.symm.trans h2)
      subst hi
      obtain ⟨y6, y7, y8, y9, y10, e⟩ := st_b3 (bk := bk) (a2 := .od (encK m)) (a6 := x6) (a7 := x7) (a8 := x8) (a9 := x9) (a10 := x10) (show i < l.length by omega) hr hw hl3
      exact ⟨_, .inl e, i + 1, _, _, _, _, _, ⟨by rw [hj, List.range_succ]; simp, by omega⟩, rfl⟩) (List.range l.length)
    [.fr bk, .fr (enc w), .od (encK m), .fr (enc l), .fr (enc r), .fr (.list [.tuple [.tuple [], enc w]]), a6, a7, a8, a9, a10] ⟨0, _, _, _, _, _, ⟨by simp, by omega⟩, rfl⟩
  have hjl : j = l.length := by have := congrArg List.length hj.1; simp at this; exact this.symm
  subst hjl
  rw [e]
  simp? []
  have bound : (rowsK w l r l.length).length ≤ 27000 := by
    refine Nat.le_trans (rowsK_len _) (Nat.le_trans (Nat.pow_le_pow_left hw _) (Nat.le_trans (Nat.pow_le_pow_right (by decide) hl3) (by decide)))
  have hall : ∀ p ∈ rowsK w l r l.length, LineOk w l.length p := fun p hp => rowsK_ok hp
  obtain ⟨ρ', e2, m', dn, y8, y9, hdn, hm', rfl, rfl⟩ := forL_inv (g := _law_steps_g4) (b := _law_steps_b4) (enc : Line → PyData)
    (fun rest ρ => ∃ (m' : Fnd) (dn : List Line) (y8 y9 : Sl), rowsK w l r l.length = dn ++ rest ∧ FndOk w m' ∧ m' = dn.foldl (fun m p => putA' m p.2 true) m ∧
      ρ = [.fr bk, .fr (enc w), .od (encK m'), .fr (enc l), .fr (enc r), .fr (.list ((rowsK w l r l.length).map enc)), x6, x7, y8, y9, x10]) (by
      rintro ⟨line, here⟩ rest ρ ⟨m', dn, y8, y9, hdn, hm', rfl, rfl⟩
      have tot : (rowsK w l r l.length).length = dn.length + (rest.length + 1) := by rw [hdn]; simp
      obtain ⟨_, hl2⟩ := FndOk.fold (l := l) (r := r) (k := l.length) dn (fun p hp => hall p (by rw [hdn]; simp [hp])) hm
      have hlt : (encK (dn.foldl (fun m p => putA' m p.2 true) m)).length < sizeLine := by rw [encK_len]; omega
      have pk : Sc.putK (encK (dn.foldl (fun m p => putA' m p.2 true) m)) (key here) (enc here) (.bool true) = encK (putA' (dn.foldl (fun m p => putA' m p.2 true) m) here true) := putK_enc _ here true
      have hh : LineOk w l.length (line, here) := hall _ (by rw [hdn]; simp)
      have hnew : FndOk w (putA' (dn.foldl (fun m p => putA' m p.2 true) m) here true) := ⟨putA'_nodup hm'.nd _ _, fun u hu => by
        rcases putA'_mem hu with hu | hu
        · exact hm'.len u hu
        · subst hu; exact hh.wl⟩
      simp? [_law_steps_g4, _law_steps_b4, enc_pair, keyOf_enc here (by decide), hlt, pk]
      exact ⟨_, .inl rfl, _, dn ++ [(line, here)], _, _, by rw [hdn]; simp, hnew, by simp, rfl⟩) (rowsK w l r l.length)
    [.fr bk, .fr (enc w), .od (encK m), .fr (enc l), .fr (enc r), .fr (.list ((rowsK w l r l.length).map enc)), x6, x7, x8, x9, x10] ⟨m, [], _, _, rfl, hm, rfl, rfl⟩
  rw [List.append_nil] at hdn
  subst hdn
  obtain ⟨h1, h2⟩ := FndOk.fold (l := l) (r := r) (k := l.length) (rowsK w l r l.length) hall hm
  rw [e2]
  exact ⟨_, _, _, _, _, _, _, _, rfl, h1, Nat.le_trans h2 (by omega)⟩
end
theorem addRule_none {w : Word} {rl : Rule} (h : w.length = 0) (hp : 1 ≤ rl.1.length) (m : Fnd) : addRule w m rl = m := by
  unfold addRule
  have : rowsK w rl.1 rl.2 rl.1.length = [] := by
    refine List.eq_nil_iff_forall_not_mem.mpr fun p hp2 => ?_
    have ok := rowsK_ok hp2
    cases hq : p.1 with
    | nil => have := ok.len; rw [hq] at this; simp at this; omega
    | cons a q => have := ok.lt a (by rw [hq]; simp); omega
  rw [this]
  rfl
theorem found_none {w : Word} (h : w.length = 0) : ∀ (rs : List Rule) (m : Fnd), (∀ r ∈ rs, 1 ≤ r.1.length) → rs.foldl (addRule w) m = m
  | [], _, _ => rfl
  | r :: rs, m, hp => by rw [List.foldl_cons, addRule_none h (hp r (List.mem_cons_self ..)), found_none h rs m (fun q hq => hp q (List.mem_cons_of_mem _ hq))]
def foundOf (b : Book) (w : Word) : Fnd := b.2.foldl (addRule w) []
def stepsOf (b : Book) (w : Word) : List Word := sortA ((foundOf b w).map (·.1))
theorem steps_ok (b : Book) (w : Word) (hb : BookOk b) (hw : w.length ≤ 30) : f__law_steps none [enc b, enc w] = .ok (.list ((stepsOf b w).map enc)) none := by
  have hb12 := hb.few
  have hS : 16000000 ≤ sizeLine := by decide
  unfold f__law_steps
  simp? [enc_book]
  obtain ⟨ρ', e, m, dn, x3, x4, x5, x6, x7, x8, x9, x10, hdn, hm, hz, rfl, rfl⟩ := forL_inv (g := _law_steps_g5) (b := _law_steps_b5) (enc : Rule → PyData)
    (fun rest ρ => ∃ (m : Fnd) (dn : List Rule) (x3 x4 x5 x6 x7 x8 x9 x10 : Sl), b.2 = dn ++ rest ∧ FndOk w m ∧ m.length ≤ dn.length * 27000 ∧ m = dn.foldl (addRule w) [] ∧
      ρ = [.fr (.tuple [.int b.1, .tuple (b.2.map enc)]), .fr (enc w), .od (encK m), x3, x4, x5, x6, x7, x8, x9, x10]) (by
      rintro rl rest ρ ⟨m, dn, x3, x4, x5, x6, x7, x8, x9, x10, hdn, hm, hz, rfl, rfl⟩
      have tot : b.2.length = dn.length + (rest.length + 1) := by rw [hdn]; simp
      have hr := hb.rules rl (by rw [hdn]; simp)
      obtain ⟨y3, y4, y5, y6, y7, y8, y9, y10, e, h1, h2⟩ := st_b5 (bk := .tuple [.int b.1, .tuple (b.2.map enc)]) (a3 := x3) (a4 := x4) (a5 := x5) (a6 := x6) (a7 := x7) (a8 := x8) (a9 := x9) (a10 := x10) hr.pos hr.few hr.len hw hm (by omega)
      exact ⟨_, .inl e, _, dn ++ [rl], _, _, _, _, _, _, _, _, by rw [hdn]; simp, h1, by simp; omega, by simp, rfl⟩) b.2
    [.fr (.tuple [.int b.1, .tuple (b.2.map enc)]), .fr (enc w), .od [], .un, .un, .un, .un, .un, .un, .un, .un] ⟨[], [], _, _, _, _, _, _, _, _, rfl, ⟨by simp, fun u hu => by cases hu⟩, by simp, rfl, rfl⟩
  rw [List.append_nil] at hdn
  subst hdn
  have hd : ∀ ρ : List Sl, rdB (.sl 2) ρ = some (.dict (encK (b.2.foldl (addRule w) []))) → dictB (.sl 2) ρ = some (encK (b.2.foldl (addRule w) [])) := fun ρ e => dictB_enc (α := Word) (β := Bool) isTup_list e (by omega)
  have hso : sortOk (((b.2.foldl (addRule w) []).map (·.1)).map enc) = true := by
    refine sortOk_enc _ (by decide) (.inl fun u hu => ?_)
    have hl := hm.len u hu
    cases u with
    | cons x u => exact ⟨_, _, rfl⟩
    | nil =>
      -- a word of no letters has no step
      exfalso
      rw [found_none (by simpa using hl.symm) b.2 [] (fun r hr => (hb.rules r hr).pos)] at hu
      cases hu
  rw [e]
  simp? []
  rw [hd _ (by simp? [])]
  simp? [encK_keys, hso, sortD_map]
  rfl
end L2.Mx
set_option Elab.async false
set_option linter.all false
set_option maxRecDepth 100000
set_option maxHeartbeats 2000000
namespace L2.Sc
open PySem PySem.Spec PyProof.Rows
open Enc
section
variable {α β : Type} [Enc α]
theorem getA_cons' {α β : Type} [DecidableEq α] (p : α × β) (kvs : List (α × β)) (a : α) : getA (p :: kvs) a = if p.1 = a then some p.2 else getA kvs a := by
  unfold getA
  by_cases h : p.1 = a
  · rw [List.find?_cons_of_pos (by simpa using h), if_pos h]; rfl
  · rw [List.find?_cons_of_neg (by simpa using h), if_neg h]
/-- a dict by its pairs, the values by g -/
def encV (g : β → D) (kvs : List (α × β)) : List (D × D) := kvs.map fun p => (enc p.1, g p.2)
theorem keysOk_encV (g : β → D) (h : ∀ a : α, isTup (enc a) = true) (kvs : List (α × β)) : keysOk (encV g kvs) = true := by
  unfold keysOk encV
  rw [List.all_map]
  exact List.all_eq_true.mpr fun p _ => h p.1
theorem lookK_encV (g : β → D) [DecidableEq α] (kvs : List (α × β)) (a : α) : lookK (encV g kvs) (key a) = (getA kvs a).map g := by
  induction kvs with
  | nil => rfl
  | cons p kvs ih =>
    unfold lookK encV at ih ⊢
    rw [List.map_cons, List.find?_cons, getA_cons']
    obtain ⟨x, y⟩ := p
    by_cases e : x = a
    · subst e
      rw [decide_eq_true (by exact Enc.nk x), if_pos rfl]
      rfl
    · have h1 : decide (Sc.nk (enc x) = some (key a)) = false := by
        rw [Enc.nk]
        exact decide_eq_false fun z => e (kinj _ _ (Option.some.inj z))
      rw [h1, if_neg e]
      exact ih
theorem putK_encV (g : β → D) [DecidableEq α] (kvs : List (α × β)) (a : α) (b : β) : putK (encV g kvs) (key a) (enc a) (g b) = encV g (putA' kvs a b) := by
  unfold putK putA'
  rw [lookK_encV, Option.isSome_map]
  split
  · unfold encV
    rw [List.map_map, List.map_map]
    refine List.map_congr_left fun p _ => ?_
    show (if nk (enc p.1) = some (key a) then _ else _) = _
    rw [Enc.nk]
    by_cases e : p.1 = a
    · rw [if_pos (by rw [e])]
      show _ = (enc (if p.1 = a then (p.1, b) else p).1, g (if p.1 = a then (p.1, b) else p).2)
      rw [if_pos e]
    · rw [if_neg (fun z => e (kinj _ _ (Option.some.inj z)))]
      show _ = (enc (if p.1 = a then (p.1, b) else p).1, g (if p.1 = a then (p.1, b) else p).2)
      rw [if_neg e]
  · unfold encV
    rw [List.map_append]
    rfl
theorem encV_keys (g : β → D) (kvs : List (α × β)) : (encV g kvs).map (·.1) = (kvs.map (·.1)).map enc := by
  unfold encV
  rw [List.map_map, List.map_map]
  rfl
theorem encV_len (g : β → D) (kvs : List (α × β)) : (encV g kvs).length = kvs.length := by
  unfold encV
  rw [List.length_map]
theorem dictB_encV (g : β → D) (h : ∀ a : α, isTup (enc a) = true) {b : Bv} {ρ : List Sl} {kvs : List (α × β)} (e : rdB b ρ = some (.dict (encV g kvs))) (hz : kvs.length ≤ sizeLine) : dictB b ρ = some (encV g kvs) := by
  unfold dictB
  rw [e]
  dsimp only
  rw [if_pos ⟨keysOk_encV g h kvs, by rw [encV_len]; exact hz⟩]
theorem ix_dictV (g : β → D) [DecidableEq α] {kvs : List (List α × β)} {a : List α} {b : β} (h : dep α ≤ 7) (e : getA kvs a = some b) : ixA (.dict (encV g kvs)) (enc a) = some (g b) := by
  have e1 : ixO (.dict (encV g kvs)) (enc a) = none := by
    rw [enc_list]
    unfold ixO
    split <;> first | rfl | (rename_i h1 h2; cases h2)
  unfold ixA
  rw [e1]
  show (if keysOk (encV g kvs) = true then (keyOf (enc a)).bind fun k => lookK (encV g kvs) k else none) = _
  rw [if_pos (keysOk_encV g isTup_list kvs), keyOf_enc a h, Option.bind_some]
  have := lookK_encV g kvs a
  rw [this, e]
  rfl
end
section
variable {α β : Type} [Enc α] [DecidableEq α]
theorem getA_isSome (kvs : List (α × β)) (a : α) : (getA kvs a).isSome = decide (a ∈ kvs.map (·.1)) := by
  induction kvs with
  | nil => rfl
  | cons p kvs ih =>
    rw [getA_cons']
    by_cases e : p.1 = a
    · rw [if_pos e]
      simp [e]
    · rw [if_neg e, ih]
      simp [Ne.symm e]
theorem getA_isSome_iff {kvs : List (α × β)} {a : α} : (getA kvs a).isSome = true ↔ a ∈ kvs.map (·.1) := by
  rw [getA_isSome]
  exact decide_eq_true_iff
theorem in_dictV (g : β → D) (kvs : List (List α × β)) (a : List α) (h : dep α ≤ 7) : inA (enc a) (.dict (encV g kvs)) = some (decide (a ∈ kvs.map (·.1))) := by
  show (if keysOk (encV g kvs) = true then (keyOf (enc a)).map fun k => (lookK (encV g kvs) k).isSome else none) = _
  have := lookK_encV g kvs a
  rw [if_pos (keysOk_encV g isTup_list kvs), keyOf_enc a h, Option.map_some, this, Option.isSome_map, getA_isSome]
  exact congrArg some (decide_eq_decide.mpr Iff.rfl)
theorem in_listA (xs : List α) (a : α) (h : dep α ≤ 63) : inA (enc a) (.list (xs.map enc)) = some (decide (a ∈ xs)) := by
  have e : inA (enc a) (.list (xs.map enc)) = if SeqAt.shaped (enc a) = true ∧ SeqAt.shaped (.list (xs.map enc)) = true then some ((xs.map enc).any fun z => PyData.eqv z (enc a)) else none := by
    rfl
  rw [e, if_pos ⟨shaped_enc (Nat.le_succ_of_le h) a, shaped_list h xs⟩, List.any_map]
  congr 1
  by_cases m : a ∈ xs
  · rw [decide_eq_true m, List.any_eq_true]
    exact ⟨a, m, (eqv a a).mpr rfl⟩
  · rw [decide_eq_false m, List.any_eq_false]
    intro z hz q
    exact m ((eqv z a).mp q ▸ hz)
theorem getA_app_new {kvs : List (α × β)} {a : α} {b : β} (h : a ∉ kvs.map (·.1)) : putA' kvs a b = kvs ++ [(a, b)] := by
  unfold putA'
  rw [getA_isSome, decide_eq_false h]
  rfl
theorem getA_append (kvs ms : List (α × β)) (a : α) : getA (kvs ++ ms) a = if a ∈ kvs.map (·.1) then getA kvs a else getA ms a := by
  induction kvs with
  | nil => rfl
  | cons p kvs ih =>
    rw [List.cons_append, getA_cons', getA_cons', ih]
    by_cases e : p.1 = a
    · simp [e]
    · rw [if_neg e, if_neg e]
      have : (a ∈ (p :: kvs).map (·.1)) ↔ a ∈ kvs.map (·.1) := by
        rw [List.map_cons, List.mem_cons]
        exact ⟨fun h => h.resolve_left (Ne.symm e), .inr⟩
      by_cases h : a ∈ kvs.map (·.1)
      · rw [if_pos h, if_pos (this.mpr h)]
      · rw [if_neg h, if_neg (fun z => h (this.mp z))]
theorem getA_find {f : α → β} {kvs : List (α × β)} (h : ∀ p ∈ kvs, p.2 = f p.1) {a : α} (m : a ∈ kvs.map (·.1)) : getA kvs a = some (f a) := by
  induction kvs with
  | nil => cases m
  | cons p kvs ih =>
    rw [getA_cons']
    by_cases e : p.1 = a
    · rw [if_pos e, h p List.mem_cons_self, e]
    · rw [if_neg e]
      refine ih (fun q hq => h q (List.mem_cons_of_mem _ hq)) ?_
      rw [List.map_cons, List.mem_cons] at m
      exact m.resolve_left (Ne.symm e)
/-- dict([(k, v), ..]) of keys that differ -/
theorem mkPairs_encV (g : β → D) (h : dep α ≤ 7) : ∀ (ps acc : List (List α × β)), ((acc ++ ps).map (·.1)).Nodup → mkPairs (ps.map fun p => .tuple [enc p.1, g p.2]) (encV g acc) = some (encV g (acc ++ ps))
  | [], acc, _ => by rw [List.append_nil]; rfl
  | p :: ps, acc, nd => by
    obtain ⟨k, v⟩ := p
    have hk : k ∉ acc.map (·.1) := fun m => by
      rw [List.map_append, List.nodup_append] at nd
      exact nd.2.2 k m k (by simp) rfl
    have e1 : pairOf (.tuple [enc k, g v]) = some (key k, enc k, g v) := by
      show (keyOf (enc k)).map _ = _
      rw [keyOf_enc k h]
      rfl
    have e2 := putK_encV g acc k v
    rw [List.map_cons, mkPairs, e1, Option.bind_some]
    show mkPairs _ (putK (encV g acc) (key k) (enc k) (g v)) = _
    rw [e2, getA_app_new hk, mkPairs_encV g h ps (acc ++ [(k, v)]) (by simpa using nd)]
    simp
end
section
variable {ρ : List Sl} {i : Nat} {fb : M Bv}
theorem pop_ap {t : Sl} {ds : List D} {d : D} (h : ρ[i]? = some t) (e : t.lget = some (ds ++ [d])) : popE i ρ = .ok d (ρ.set i (t.lput ds)) := by
  unfold popE
  rw [h]
  dsimp only
  rw [e]
  dsimp only
  rw [List.length_append, List.length_singleton, Nat.add_sub_cancel, List.getElem?_concat_length, List.dropLast_concat]
def onKeys (r : Option (List (D × D))) (ρ : List Sl) : Res Sl := match r with
  | some kvs => .ok (.ol (kvs.map (·.1))) ρ
  | none => .stuck
theorem keysF_ap : keysF fb ρ = (fb ρ).bind fun b ρ => onKeys (dictB b ρ) ρ := rfl
noncomputable def onCopy (r : Option (List (D × D))) (ρ : List Sl) : Res Sl := match r with
  | some kvs => if apartB kvs = true then .ok (.od kvs) ρ else .stuck
  | none => .stuck
theorem dcopyF_ap : dcopyF fb ρ = (fb ρ).bind fun b ρ => onCopy (dictB b ρ) ρ := rfl
def onPairs (r : Option D) (ρ : List Sl) : Res Sl := match r with
  | some (.list ds) => match mkPairs ds [] with
    | some kvs => .ok (.od kvs) ρ
    | none => .stuck
  | _ => .stuck
theorem dpairsF_ap : dpairsF fb ρ = (fb ρ).bind fun b ρ => onPairs (rdB b ρ) ρ := rfl
theorem raise_ap {e : Ex} : raiseS e ρ = .er e ρ := rfl
def onTry (i : Nat) (names : List Str) (h : Ex → MS) : Fl → Fl
  | .er e ρ1 => if e.cls ∈ names ∧ i < ρ1.length then (h e (ρ1.set i .un)).uns i else .stuck
  | r => r
theorem try_ap {names : List Str} {b : MS} {h : Ex → MS} : tryS i names b h ρ = onTry i names h (b ρ) := by
  unfold tryS
  cases b ρ <;> rfl
theorem onTry_nx {names : List Str} {h : Ex → MS} : onTry i names h (.nx ρ) = .nx ρ := rfl
theorem onTry_er {names : List Str} {h : Ex → MS} {e : Ex} : onTry i names h (.er e ρ) = if e.cls ∈ names ∧ i < ρ.length then (h e (ρ.set i .un)).uns i else .stuck := rfl
theorem uns_rt {d : D} : (Fl.rt d ρ).uns i = .rt d ρ := rfl
theorem uns_nx : (Fl.nx ρ).uns i = .nx (ρ.set i .un) := rfl
theorem neK_enc {kvs : List (D × D)} (h : keysOk kvs = true) : neKB (.dict kvs) (.dict []) = some (!kvs.isEmpty) := by
  unfold neKB eqKB
  dsimp only
  rw [if_pos h]
  rfl
theorem lenK_enc {kvs : List (D × D)} (h : keysOk kvs = true) : lenK [.dict kvs] = some (.int kvs.length) := if_pos h
end
/-- I: the state at the test, by a ghost a whose measure goes down -/
theorem while_inv {γ : Type} {c : M Bool} {b : MS} (I : γ → List Sl → Prop) (m : γ → Nat) (Rt : Fl → Prop)
    (step : ∀ a ρ, I a ρ → (∃ ρ1, c ρ = .ok false ρ1 ∧ Rt (.nx ρ1)) ∨ (∃ ρ1 ρ2 a', c ρ = .ok true ρ1 ∧ (b ρ1 = .nx ρ2 ∨ b ρ1 = .ct ρ2) ∧ I a' ρ2 ∧ m a' < m a) ∨ (∃ ρ1 d ρ2, c ρ = .ok true ρ1 ∧ b ρ1 = .rt d ρ2 ∧ Rt (.rt d ρ2)) ∨ ∃ ρ1 ρ2, c ρ = .ok true ρ1 ∧ b ρ1 = .bk ρ2 ∧ Rt (.nx ρ2)) :
    ∀ (n : Nat) (a : γ) (ρ : List Sl), m a < n → I a ρ → Rt (whileS c b ρ)
  | 0, a, ρ, h, _ => absurd h (Nat.not_lt_zero _)
  | n + 1, a, ρ, h, i => by
    rw [whileS_eq]
    rcases step a ρ i with ⟨ρ1, e1, r⟩ | ⟨ρ1, ρ2, a', e1, e2, i2, l⟩ | ⟨ρ1, d, ρ2, e1, e2, r⟩ | ⟨ρ1, ρ2, e1, e2, r⟩
    · rw [e1]; exact r
    · rw [e1]
      have ih := while_inv I m Rt step n a' ρ2 (by omega) i2
      show Rt ((b ρ1).turn (whileS c b))
      rcases e2 with e2 | e2 <;> (rw [e2]; exact ih)
    · rw [e1]
      show Rt ((b ρ1).turn (whileS c b))
      rw [e2]
      exact r
    · rw [e1]
      show Rt ((b ρ1).turn (whileS c b))
      rw [e2]
      exact r
end L2.Sc
set_option Elab.async false
set_option linter.all false
set_option maxRecDepth 100000
set_option maxHeartbeats 2000000
namespace L2.Mx
open PySem L2.Sc L2.Sm
open Enc
local macro_rules
  | `(tactic| simp? [$ls,*]) => `(tactic| simp only [argSl_none, Res.bind_ok, Res.bind_err, Res.bind_stuck, Res.bind_ite, Res.st_ok, Res.st_err, Res.st_stuck, Res.st_ite, Fl.seq_nx, Fl.seq_rt, Fl.seq_bk, Fl.seq_ct, Fl.seq_er, Fl.seq_stuck, Fl.seq_ite, bind_ap, pure_ap, fail_ap, ofO_some, ofO_none, runB_ap, runF_nx, runF_rt, runF_er, runF_nxR, runF_rtR, runF_erR, runF_ite, argSl_some, ite_ap, iteM_ap, skip_ap, seq_ap, drop_ap, ret_ap, retN_ap, if_ap, set_ap, setF_ap, brk_ap, cont_ap, never_ap, app_ap, appK_ap, put_ap, putKk_ap, putKd_ap, putKl_ap, aug_ap, for_ap, asg_ap, nameB_ap, nameE_ap, c_ap, bv_ap, fr_ap, frz_ol, frz_od, nilA_ap, consA_ap, nilB_ap, consB_ap, tup_ap, lst_ap, opR_ap, opF_ap, opT_ap, op2_ap, op2F_ap, op2T_ap, op1_ap, toT_ap, andT_ap, orT_ap, notT_ap, andV_ap, orV_ap, notV_ap, ifM_ap, callE_ap, callF_ap, callS_ap, callR_ap, lcF_ap, yes_ap, noO_ap, someO_ap, slE_ap, slF_ap, slR_ap, slFR_ap, chainV_ap, chainT_ap, par_ap, nilP_ap, consE_ap, consF_ap, new_ap, dict1_ap, isi_ap, isi2_ap, seqI_ap, enumI_ap, range1_ap, range2_ap, zipI_ap, rev_ap, keysI_ap, get_ap, getK0_ap, getK1_ap, sumVals_ap, keysSort_ap, lstRg_ap, len_list, len_tuple, len_scr, tupC_list, tupC_tuple, lstC_list, lstC_tuple, intC_int, intC_bool, max2_int, min2_int, abs_int, sum_list, sum_tuple, add_int, sub_int, neg_int, isN_none, isN_int, isN_tuple, isN_list, isN_bool, isN_str, forT, lcT, nameG, nilG, consG, tupG, rowOf, rdB, Sl.val, Sl.lget, Sl.lput, rdBs, Sl.mut, setsR, wipeR, backR, keepFr, isTy, notNoneB, eqB_int, neB_int, eqB_bool, neB_bool, ltB_int, gtB_int, leB_int, geB_int, List.map_cons, List.map_nil, List.replicate_succ, List.replicate_zero, List.cons_append, List.nil_append, List.append_nil, List.getElem?_cons_zero, List.getElem?_cons_succ, List.set_cons_zero, List.set_cons_succ, Option.map_some, Option.map_none, Option.bind_some, Option.bind_none, List.length_cons, List.length_nil, List.length_map, Bool.not_true, Bool.not_false, Bool.or_true, Bool.true_or, Bool.or_false, Bool.false_or, Bool.and_true, Bool.and_false, Bool.true_and, Bool.false_and, if_true, if_false, reduceCtorEq, Bool.false_eq_true, Bool.not_eq_true, decide_eq_true_eq, ix_t0, ix_t1, ix_t2, ix_t3, ix_l0, ix_l1, ix_l2, ix_l3, cast0, cast1, cast2, cast3, cast4, cast5, ixN40, ixN41, ixN42, ixN43, and_self, and_true, true_and, and_false, false_and, Nat.reduceLT, Nat.reduceLeDiff, eq_self, decide_true, decide_false, Nat.zero_add, Nat.reduceAdd, keysF_ap, onKeys, dcopyF_ap, onCopy, dpairsF_ap, onPairs, raise_ap, try_ap, onTry_nx, onTry_er, uns_rt, uns_nx, $ls,*])
theorem ext1_fst (w l r : Word) (k : Nat) (p : Line) : (ext1 w l r k p).map (·.1) = (((List.range (w.length - lo p)).map fun i => lo p + i).filter fun a => w.getD a 0 = l.getD k 0).map fun a => p.1 ++ [a] := by
  unfold ext1
  rw [List.map_map]
  rfl
/-- all next places of one line -/
theorem sp_b1 {w l r : Word} {a0 a2 a5 a6 a7 : Sl} {k : Nat} {p : Line} {acc : List (List Nat)} (h : LineOk w k p) (hz : acc.length + w.length ≤ 1000000) (hw : w.length ≤ 1000) (hk3 : k ≤ 1000) :
    ∃ b5 b6 b7, forT spots_of_g2 spots_of_b1 (enc p.1) [a0, .fr (enc w), a2, .fr (.int (l.getD k 0)), .fr (.list (acc.map enc)), a5, a6, a7] =
      .nx [a0, .fr (enc w), a2, .fr (.int (l.getD k 0)), .fr (.list ((acc ++ (ext1 w l r k p).map (·.1)).map enc)), b5, b6, b7] := by
  have hlo := lo_le h
  have hS : 1000000 ≤ sizeLine := by decide
  have hsm : small (lo p : Int) = true := small_of (by omega) (by omega)
  have hsm2 : small (w.length : Int) = true := small_of (by omega) (by omega)
  obtain ⟨n, hn⟩ : ∃ n : Nat, ((w.length : Int) - (lo p : Int)).toNat = n := ⟨_, rfl⟩
  have hn2 : n = w.length - lo p := by omega
  have em : ((List.range n).map fun (i : Nat) => PyData.int ((lo p : Int) + (i : Int))) = (((List.range n).map fun i => lo p + i).map fun (a : Nat) => PyData.int (a : Int)) := by
    rw [List.map_map]
    exact List.map_congr_left fun i _ => congrArg PyData.int (by simp)
  have body : ∀ ρ : List Sl, ρ = [a0, .fr (enc w), a2, .fr (.int (l.getD k 0)), .fr (.list (acc.map enc)), .fr (enc p.1), .fr (.int (lo p : Int)), a7] →
      ∃ b7, (setS 4 (frE (op2F (nameB 4) (bvE (frE (lcF [7] (range2 (nameE 6) (callE (consB (nameB 1) nilB) lenC)) spots_of_g1 spots_of_t1 spots_of_e1))) addL))) ρ =
        .nx [a0, .fr (enc w), a2, .fr (.int (l.getD k 0)), .fr (.list ((acc ++ (ext1 w l r k p).map (·.1)).map enc)), .fr (enc p.1), .fr (.int (lo p : Int)), b7] := by
    rintro _ rfl
    simp? [len_enc, hsm, hsm2, rangeLo, hn, em]
    rw [lcL_pure (ρ0 := [a0, .fr (enc w), a2, .fr (.int (l.getD k 0)), .fr (.list (acc.map enc)), .fr (enc p.1), .fr (.int (lo p : Int)), .un]) (fun (a : Nat) => PyData.int (a : Int)) (fun a => decide (w.getD a 0 = l.getD k 0)) (fun a => enc (p.1 ++ [a])) ((List.range n).map fun i => lo p + i) [] (by simp; omega) (fun a ha => by
      have ha2 : a < w.length := by
        obtain ⟨i, hi, rfl⟩ := List.mem_map.mp ha
        have := List.mem_range.mp hi
        omega
      have g : ixA (enc w) (.int (a : Int)) = some (.int (w.getD a 0)) := by
        rw [List.getD_eq_getElem?_getD, List.getElem?_eq_getElem ha2]
        exact ix_encT (at_lit (List.getElem?_eq_getElem ha2))
      have e1 : addO (enc p.1) (.tuple [.int (a : Int)]) = some (enc (p.1 ++ [a])) := add_enc (ys := [a]) (by rw [h.len]; simp; omega)
      by_cases hc : w.getD a 0 = l.getD k 0
      · simp? [spots_of_g1, spots_of_t1, spots_of_e1, g, hc, e1]
      · simp? [spots_of_g1, spots_of_t1, spots_of_e1, g, hc])]
    have hfl := List.length_filter_le (fun a => decide (w.getD a 0 = l.getD k 0)) ((List.range n).map fun i => lo p + i)
    rw [List.length_map, List.length_range] at hfl
    have e : addL (.list (acc.map enc)) (.list ((((List.range n).map fun i => lo p + i).filter fun a => decide (w.getD a 0 = l.getD k 0)).map fun a => (enc (p.1 ++ [a]) : PyData))) = some ((acc ++ (ext1 w l r k p).map (·.1)).map enc) := by
      rw [ext1_fst, ← hn2]
      have := addL_enc (xs := acc) (ys := (((List.range n).map fun i => lo p + i).filter fun a => decide (w.getD a 0 = l.getD k 0)).map fun a => p.1 ++ [a]) (by rw [List.length_map]; omega)
      rw [← this, List.map_map]
      rfl
    simp? [e]
    exact ⟨_, rfl⟩
  have hfirst : forT spots_of_g2 spots_of_b1 (enc p.1) [a0, .fr (enc w), a2, .fr (.int (l.getD k 0)), .fr (.list (acc.map enc)), a5, a6, a7] = (setS 4 (frE (op2F (nameB 4) (bvE (frE (lcF [7] (range2 (nameE 6) (callE (consB (nameB 1) nilB) lenC)) spots_of_g1 spots_of_t1 spots_of_e1))) addL))) [a0, .fr (enc w), a2, .fr (.int (l.getD k 0)), .fr (.list (acc.map enc)), .fr (enc p.1), .fr (.int (lo p : Int)), a7] := by
    have e0 : neB (enc p.1) (.tuple []) = some (!decide (p.1 = [])) := neB_enc (α := List Nat) p.1 []
    obtain ⟨m, hm⟩ : ∃ m : MS, m = (setS 4 (frE (op2F (nameB 4) (bvE (frE (lcF [7] (range2 (nameE 6) (callE (consB (nameB 1) nilB) lenC)) spots_of_g1 spots_of_t1 spots_of_e1))) addL))) := ⟨_, rfl⟩
    by_cases hn : p.1 = []
    · rw [decide_eq_true hn] at e0
      have e2 : lo p = 0 := by unfold lo; rw [hn]; rfl
      unfold spots_of_b1
      rw [← hm]
      simp? [spots_of_g2, e0, e2]
    · rw [decide_eq_false hn] at e0
      have hp : 0 < p.1.length := List.length_pos_iff.mpr hn
      have e1 : ixA (enc p.1) (.int (-1)) = some (enc (p.1[p.1.length - 1]'(by omega))) := ix_encT (at_neg (k := 0) rfl hp (List.getElem?_eq_getElem (by omega)))
      have e2 : (lo p : Int) = ((p.1[p.1.length - 1]'(by omega) : Nat) : Int) + 1 := by
        unfold lo
        rw [List.getLast?_eq_getElem?, List.getElem?_eq_getElem (by omega)]
        rfl
      unfold spots_of_b1
      rw [← hm, e2]
      simp? [spots_of_g2, e0, e1, enc_nat]
  obtain ⟨b7, e⟩ := body _ rfl
  exact ⟨_, _, _, hfirst.trans e⟩
/-- one more letter -/
theorem sp_b2 {w l r : Word} {a0 a4 a5 a6 a7 : Sl} {k : Nat} (a3 : Sl) (hk : k < l.length) (hw : w.length ≤ 30) (hl3 : l.length ≤ 3) :
    ∃ b4 b5 b6 b7, forT spots_of_g3 spots_of_b2 (.int (l.getD k 0)) [a0, .fr (enc w), .fr (.list (((rowsK w l r k).map (·.1)).map enc)), a3, a4, a5, a6, a7] =
      .nx [a0, .fr (enc w), .fr (.list (((rowsK w l r (k + 1)).map (·.1)).map enc)), .fr (.int (l.getD k 0)), b4, b5, b6, b7] := by
  simp? [spots_of_g3, spots_of_b2]
  have hlen : (rowsK w l r (k + 1)).length ≤ 1000000 := by
    refine Nat.le_trans (rowsK_len (k + 1)) ?_
    have h1 : w.length ^ (k + 1) ≤ 30 ^ (k + 1) := Nat.pow_le_pow_left hw _
    have h2 : 30 ^ (k + 1) ≤ 30 ^ 3 := Nat.pow_le_pow_right (by decide) (by omega)
    omega
  have hlen0 : (rowsK w l r k).length ≤ 27000 := by
    refine Nat.le_trans (rowsK_len k) ?_
    have h1 : w.length ^ k ≤ 30 ^ k := Nat.pow_le_pow_left hw _
    have h2 : 30 ^ k ≤ 30 ^ 3 := Nat.pow_le_pow_right (by decide) (by omega)
    omega
  rw [List.map_map]
  obtain ⟨ρ', e, dn, acc, b5, b6, b7, hdn, rfl, rfl⟩ := forL_inv (g := spots_of_g2) (b := spots_of_b1) (fun p : Line => (enc p.1 : PyData))
    (fun (rest : List Line) ρ => ∃ (dn : List Line) (acc : List (List Nat)) (b5 b6 b7 : Sl), rowsK w l r k = dn ++ rest ∧ acc = (dn.flatMap (ext1 w l r k)).map (·.1) ∧
      ρ = [a0, .fr (enc w), .fr (.list ((rowsK w l r k).map (fun p => enc p.1))), .fr (.int (l.getD k 0)), .fr (.list (acc.map enc)), b5, b6, b7]) (by
      rintro p rest ρ ⟨dn, acc, b5, b6, b7, hdn, rfl, rfl⟩
      have hp : p ∈ rowsK w l r k := by rw [hdn]; simp
      have hlo : LineOk w k p := rowsK_ok hp
      have tot : (rowsK w l r k).length = dn.length + rest.length + 1 := by rw [hdn]; simp; omega
      have hfl := flat_len (ext1 w l r k) w.length (fun a => ext1_len) dn
      have hm : dn.length * w.length ≤ 27000 * 30 := Nat.mul_le_mul (by omega) hw
      obtain ⟨c5, c6, c7, e⟩ := sp_b1 (r := r) (l := l) (a0 := a0) (a2 := .fr (.list ((rowsK w l r k).map (fun p => enc p.1)))) (a5 := b5) (a6 := b6) (a7 := b7) (acc := (dn.flatMap (ext1 w l r k)).map (·.1)) hlo (by rw [List.length_map]; omega) (by omega) (by omega)
      exact ⟨_, .inl e, dn ++ [p], _, _, _, _, by rw [hdn]; simp, by simp, rfl⟩) (rowsK w l r k)
    [a0, .fr (enc w), .fr (.list ((rowsK w l r k).map (fun p => enc p.1))), .fr (.int (l.getD k 0)), .fr (.list []), a5, a6, a7] ⟨[], [], _, _, _, rfl, rfl, rfl⟩
  rw [List.append_nil] at hdn
  subst hdn
  have e2 : ((List.map (enc ∘ fun x => x.1) (rowsK w l r k)) : List PyData) = (rowsK w l r k).map (fun p => enc p.1) := rfl
  rw [e2]
  simp only [e]
  simp? []
  exact ⟨_, _, _, _, rfl⟩
theorem map_getD0 (l : Word) : (List.range l.length).map (fun k => l.getD k 0) = l := by
  refine List.ext_getElem (by simp) fun i h1 h2 => ?_
  rw [List.getElem_map, List.getElem_range, List.getD_eq_getElem?_getD, List.getElem?_eq_getElem h2]
  rfl
theorem spots_ok (w l r : Word) (hw : w.length ≤ 30) (hl3 : l.length ≤ 3) : f_spots_of none [enc l, enc w] = .ok (.list (((rowsK w l r l.length).map (·.1)).map enc)) none := by
  have es : (l.map enc : List PyData) = (List.range l.length).map fun k => PyData.int (l.getD k 0) := by
    conv => lhs; rw [← map_getD0 l]
    rw [List.map_map]
    rfl
  have el : (enc l : PyData) = .tuple (l.map enc) := rfl
  obtain ⟨ρ', e, k, b3, b4, b5, b6, b7, hk, hl, rfl⟩ := forL_inv (g := spots_of_g3) (b := spots_of_b2) (fun k : Nat => PyData.int (l.getD k 0))
    (fun (rest : List Nat) ρ => ∃ (k : Nat) (b3 b4 b5 b6 b7 : Sl), (List.range l.length).drop k = rest ∧ k + rest.length = l.length ∧
      ρ = [.fr (.tuple (l.map enc)), .fr (enc w), .fr (.list (((rowsK w l r k).map (·.1)).map enc)), b3, b4, b5, b6, b7]) (by
      rintro x rest ρ ⟨k, b3, b4, b5, b6, b7, hk, hl, rfl⟩
      rw [List.length_cons] at hl
      have hx : x = k := by
        have h1 : ((List.range l.length).drop k)[0]? = some x := by rw [hk]; rfl
        rw [List.getElem?_drop, Nat.add_zero, List.getElem?_range (by omega)] at h1
        exact (Option.some.inj h1).symm
      subst hx
      obtain ⟨c4, c5, c6, c7, e⟩ := sp_b2 (w := w) (l := l) (r := r) (a0 := .fr (.tuple (l.map enc))) (a4 := b4) (a5 := b5) (a6 := b6) (a7 := b7) (k := x) b3 (by omega) hw hl3
      refine ⟨_, .inl e, x + 1, _, _, _, _, _, ?_, by omega, rfl⟩
      have := congrArg (List.drop 1) hk
      rw [List.drop_drop] at this
      exact this) (List.range l.length)
    [.fr (.tuple (l.map enc)), .fr (enc w), .fr (.list [.tuple []]), .un, .un, .un, .un, .un] ⟨0, _, _, _, _, _, rfl, by simp, rfl⟩
  have hkl : k = l.length := by simpa using hl
  subst hkl
  unfold f_spots_of
  rw [el]
  simp? []
  rw [es] at e ⊢
  rw [e]
  simp? []
end L2.Mx
set_option Elab.async false
set_option linter.all false
set_option maxRecDepth 100000
set_option maxHeartbeats 2000000
namespace L2.Mx
open PySem L2.Sc L2.Sm
open Enc
local macro_rules
  | `(tactic| simp? [$ls,*]) => `(tactic| simp only [argSl_none, Res.bind_ok, Res.bind_err, Res.bind_stuck, Res.bind_ite, Res.st_ok, Res.st_err, Res.st_stuck, Res.st_ite, Fl.seq_nx, Fl.seq_rt, Fl.seq_bk, Fl.seq_ct, Fl.seq_er, Fl.seq_stuck, Fl.seq_ite, bind_ap, pure_ap, fail_ap, ofO_some, ofO_none, runB_ap, runF_nx, runF_rt, runF_er, runF_nxR, runF_rtR, runF_erR, runF_ite, argSl_some, ite_ap, iteM_ap, skip_ap, seq_ap, drop_ap, ret_ap, retN_ap, if_ap, set_ap, setF_ap, brk_ap, cont_ap, never_ap, app_ap, appK_ap, put_ap, putKk_ap, putKd_ap, putKl_ap, aug_ap, for_ap, asg_ap, nameB_ap, nameE_ap, c_ap, bv_ap, fr_ap, frz_ol, frz_od, nilA_ap, consA_ap, nilB_ap, consB_ap, tup_ap, lst_ap, opR_ap, opF_ap, opT_ap, op2_ap, op2F_ap, op2T_ap, op1_ap, toT_ap, andT_ap, orT_ap, notT_ap, andV_ap, orV_ap, notV_ap, ifM_ap, callE_ap, callF_ap, callS_ap, callR_ap, lcF_ap, yes_ap, noO_ap, someO_ap, slE_ap, slF_ap, slR_ap, slFR_ap, chainV_ap, chainT_ap, par_ap, nilP_ap, consE_ap, consF_ap, new_ap, dict1_ap, isi_ap, isi2_ap, seqI_ap, enumI_ap, range1_ap, range2_ap, zipI_ap, rev_ap, keysI_ap, get_ap, getK0_ap, getK1_ap, sumVals_ap, keysSort_ap, lstRg_ap, len_list, len_tuple, len_scr, tupC_list, tupC_tuple, lstC_list, lstC_tuple, intC_int, intC_bool, max2_int, min2_int, abs_int, sum_list, sum_tuple, add_int, sub_int, neg_int, isN_none, isN_int, isN_tuple, isN_list, isN_bool, isN_str, forT, lcT, nameG, nilG, consG, tupG, rowOf, rdB, Sl.val, Sl.lget, Sl.lput, rdBs, Sl.mut, setsR, wipeR, backR, keepFr, isTy, notNoneB, eqB_int, neB_int, eqB_bool, neB_bool, ltB_int, gtB_int, leB_int, geB_int, List.map_cons, List.map_nil, List.replicate_succ, List.replicate_zero, List.cons_append, List.nil_append, List.append_nil, List.getElem?_cons_zero, List.getElem?_cons_succ, List.set_cons_zero, List.set_cons_succ, Option.map_some, Option.map_none, Option.bind_some, Option.bind_none, List.length_cons, List.length_nil, List.length_map, Bool.not_true, Bool.not_false, Bool.or_true, Bool.true_or, Bool.or_false, Bool.false_or, Bool.and_true, Bool.and_false, Bool.true_and, Bool.false_and, if_true, if_false, reduceCtorEq, Bool.false_eq_true, Bool.not_eq_true, decide_eq_true_eq, ix_t0, ix_t1, ix_t2, ix_t3, ix_l0, ix_l1, ix_l2, ix_l3, cast0, cast1, cast2, cast3, cast4, cast5, ixN40, ixN41, ixN42, ixN43, and_self, and_true, true_and, and_false, false_and, Nat.reduceLT, Nat.reduceLeDiff, eq_self, decide_true, decide_false, Nat.zero_add, Nat.reduceAdd, keysF_ap, onKeys, dcopyF_ap, onCopy, dpairsF_ap, onPairs, raise_ap, try_ap, onTry_nx, onTry_er, uns_rt, uns_nx, $ls,*])
def setZ (w : Word) (z : List (Nat × Int)) : Word := z.foldl (fun u q => u.set q.1 q.2) w
theorem set_cut (u : Word) (a : Nat) (x : Int) (h : a < u.length) : u.set a x = u.take a ++ [x] ++ u.drop (a + 1) := by
  rw [List.set_eq_take_append_cons_drop, if_pos h]
  simp
theorem zip_snoc : ∀ (u : List Nat) (r : Word) (a : Nat), u.length < r.length → (u ++ [a]).zip r = u.zip r ++ [(a, r.getD u.length 0)]
  | [], [], a, h => by cases h
  | [], x :: r, a, _ => by simp
  | b :: u, [], a, h => by cases h
  | b :: u, x :: r, a, h => by
    have := zip_snoc u r a (by simpa using h)
    simp only [List.cons_append, List.zip_cons_cons, this, List.length_cons, List.getD_cons_succ]
theorem rows_set {w l r : Word} (hr : r.length = l.length) : ∀ {k : Nat} {p : Line}, k ≤ l.length → p ∈ rowsK w l r k → setZ w (p.1.zip r) = p.2
  | 0, p, _, h => by
    have : p = ([], w) := by simpa [rowsK] using h
    subst this
    rfl
  | k + 1, p, hk, h => by
    rw [rowsK, List.mem_flatMap] at h
    obtain ⟨q, hq, hp⟩ := h
    have hq0 := rowsK_ok hq
    have ih := rows_set hr (by omega) hq
    unfold ext1 at hp
    obtain ⟨a, ha, rfl⟩ := List.mem_map.mp hp
    have ha := (List.mem_filter.mp ha).1
    obtain ⟨i, hi, rfl⟩ := List.mem_map.mp ha
    have hi := List.mem_range.mp hi
    have wl := hq0.wl
    unfold put1
    have e : (q.1 ++ [lo q + i]).zip r = q.1.zip r ++ [(lo q + i, r.getD k 0)] := by
      have hk2 : k < r.length := by omega
      have := zip_snoc q.1 r (lo q + i) (by rw [hq0.len]; exact hk2)
      rw [this, hq0.len]
    dsimp only
    rw [e]
    unfold setZ at ih ⊢
    rw [List.foldl_append, ih]
    exact set_cut q.2 _ _ (by omega)
theorem setZ_len (w : Word) (z : List (Nat × Int)) : (setZ w z).length = w.length := by
  unfold setZ
  induction z generalizing w with
  | nil => rfl
  | cons q z ih => rw [List.foldl_cons, ih]; simp
theorem si_b2 {w l r : Word} {a0 a3 a5 a6 a7 a8 : Sl} {m : Fnd} {p : Line} (hr : r.length = l.length) (hp : p ∈ rowsK w l r l.length) (hw : w.length ≤ 30) (hm : m.length < 1000000) :
    ∃ b5 b6 b7 b8, forT steps_in_g2 steps_in_b2 (enc p.1) [a0, .fr (enc w), .od (encK m), a3, .fr (enc r), a5, a6, a7, a8] = .nx [a0, .fr (enc w), .od (encK (putA' m p.2 true)), a3, .fr (enc r), b5, b6, b7, b8] := by
  have el : ∀ {α : Type} [Enc α] (xs : List α), (enc xs : PyData) = .tuple (xs.map enc) := fun xs => rfl
  have h := rowsK_ok hp
  have hS : 1000000 ≤ sizeLine := by decide
  have hlt : (encK m).length < sizeLine := by rw [encK_len]; omega
  rw [el p.1, el r, el w]
  simp? [steps_in_g2, steps_in_b2]
  rw [zipD_map]
  obtain ⟨ρ', e, dn, x7, x8, hdn, rfl⟩ := forL_inv (g := steps_in_g1) (b := steps_in_b1) (fun q : Nat × Int => PyData.tuple [(enc q.1 : PyData), enc q.2])
    (fun (rest : List (Nat × Int)) ρ => ∃ (dn : List (Nat × Int)) (x7 x8 : Sl), p.1.zip r = dn ++ rest ∧
      ρ = [a0, .fr (.tuple (w.map enc)), .od (encK m), a3, .fr (.tuple (r.map enc)), .fr (.tuple (p.1.map enc)), .ol ((setZ w dn).map enc), x7, x8]) (by
      rintro ⟨a, x⟩ rest ρ ⟨dn, x7, x8, hdn, rfl⟩
      have ha : a < w.length := by
        have : (a, x) ∈ p.1.zip r := by rw [hdn]; simp
        exact h.lt a (List.of_mem_zip this).1
      have hn : ixN (setZ w dn).length (a : Int) = some a := by
        rw [setZ_len]
        unfold ixN
        rw [if_pos (by omega), if_pos (by omega)]
        simp
      have hset : ((setZ w dn).map (enc : Int → PyData)).set a (.int x) = (setZ w (dn ++ [(a, x)])).map enc := by
        unfold setZ
        rw [List.foldl_append]
        exact (List.map_set ..).symm
      simp? [steps_in_g1, steps_in_b1, enc_nat, enc_int, hn, hset]
      exact ⟨_, .inl rfl, dn ++ [(a, x)], _, _, by rw [hdn]; simp, rfl⟩) (p.1.zip r)
    [a0, .fr (.tuple (w.map enc)), .od (encK m), a3, .fr (.tuple (r.map enc)), .fr (.tuple (p.1.map enc)), .ol (w.map enc), a7, a8] ⟨[], _, _, rfl, rfl⟩
  rw [List.append_nil] at hdn
  subst hdn
  simp only [e]
  rw [rows_set hr (Nat.le_refl _) hp]
  have pk : Sc.putK (encK m) (key p.2) (enc p.2) (.bool true) = encK (putA' m p.2 true) := putK_enc _ p.2 true
  have ek : keyOf (.tuple (p.2.map enc)) = some (key p.2) := keyOf_enc p.2 (by decide)
  have pk2 : Sc.putK (encK m) (key p.2) (.tuple (p.2.map enc)) (.bool true) = encK (putA' m p.2 true) := pk
  simp? [ek, hlt, pk2]
  exact ⟨_, _, _, _, rfl⟩
theorem si_b3 {w l r : Word} {a0 a3 a4 a5 a6 a7 a8 : Sl} {m : Fnd} (hl3 : l.length ≤ 3) (hr : r.length = l.length) (hw : w.length ≤ 30) (hm : FndOk w m) (hz : m.length ≤ 900000) :
    ∃ b3 b4 b5 b6 b7 b8, forT steps_in_g3 steps_in_b3 (enc (l, r)) [a0, .fr (enc w), .od (encK m), a3, a4, a5, a6, a7, a8] = .nx [a0, .fr (enc w), .od (encK (addRule w m (l, r))), b3, b4, b5, b6, b7, b8] ∧
      FndOk w (addRule w m (l, r)) ∧ (addRule w m (l, r)).length ≤ m.length + 27000 := by
  have bound : (rowsK w l r l.length).length ≤ 27000 := by
    refine Nat.le_trans (rowsK_len _) (Nat.le_trans (Nat.pow_le_pow_left hw _) (Nat.le_trans (Nat.pow_le_pow_right (by decide) hl3) (by decide)))
  have hall : ∀ p ∈ rowsK w l r l.length, LineOk w l.length p := fun p hp => rowsK_ok hp
  obtain ⟨h1, h2⟩ := FndOk.fold (l := l) (r := r) (k := l.length) (rowsK w l r l.length) hall hm
  simp? [steps_in_g3, steps_in_b3, enc_pair, spots_ok w l r hw hl3]
  rw [List.map_map]
  obtain ⟨ρ', e, dn, x5, x6, x7, x8, hdn, rfl⟩ := forL_inv (g := steps_in_g2) (b := steps_in_b2) ((enc : List Nat → PyData) ∘ fun p : Line => p.1)
    (fun (rest : List Line) ρ => ∃ (dn : List Line) (x5 x6 x7 x8 : Sl), rowsK w l r l.length = dn ++ rest ∧
      ρ = [a0, .fr (enc w), .od (encK (dn.foldl (fun m p => putA' m p.2 true) m)), .fr (enc l), .fr (enc r), x5, x6, x7, x8]) (by
      rintro p rest ρ ⟨dn, x5, x6, x7, x8, hdn, rfl⟩
      have tot : (rowsK w l r l.length).length = dn.length + (rest.length + 1) := by rw [hdn]; simp
      obtain ⟨_, hl2⟩ := FndOk.fold (l := l) (r := r) (k := l.length) dn (fun p hp => hall p (by rw [hdn]; simp [hp])) hm
      obtain ⟨y5, y6, y7, y8, e⟩ := si_b2 (a0 := a0) (a3 := .fr (enc l)) (a5 := x5) (a6 := x6) (a7 := x7) (a8 := x8) (m := dn.foldl (fun m p => putA' m p.2 true) m) hr (show p ∈ rowsK w l r l.length by rw [hdn]; simp) hw (Nat.lt_of_le_of_lt hl2 (by omega))
      exact ⟨_, .inl e, dn ++ [p], _, _, _, _, by rw [hdn]; simp, by rw [List.foldl_append]; rfl⟩) (rowsK w l r l.length)
    [a0, .fr (enc w), .od (encK m), .fr (enc l), .fr (enc r), a5, a6, a7, a8] ⟨[], _, _, _, _, rfl, rfl⟩
  rw [List.append_nil] at hdn
  subst hdn
  rw [e]
  exact ⟨_, _, _, _, _, _, rfl, h1, Nat.le_trans h2 (by omega)⟩
theorem steps_in_ok (b : Book) (w : Word) (hb : BookOk b) (hw : w.length ≤ 30) : f_steps_in none [enc b, enc w] = .ok (.list ((stepsOf b w).map enc)) none := by
  have hb12 := hb.few
  have hS : 16000000 ≤ sizeLine := by decide
  unfold f_steps_in
  simp? [enc_book]
  obtain ⟨ρ', e, m, dn, x3, x4, x5, x6, x7, x8, hdn, hm, hz, rfl, rfl⟩ := forL_inv (g := steps_in_g3) (b := steps_in_b3) (enc : Rule → PyData)
    (fun rest ρ => ∃ (m : Fnd) (dn : List Rule) (x3 x4 x5 x6 x7 x8 : Sl), b.2 = dn ++ rest ∧ FndOk w m ∧ m.length ≤ dn.length * 27000 ∧ m = dn.foldl (addRule w) [] ∧
      ρ = [.fr (.tuple [.int b.1, .tuple (b.2.map enc)]), .fr (enc w), .od (encK m), x3, x4, x5, x6, x7, x8]) (by
      rintro ⟨l, r⟩ rest ρ ⟨m, dn, x3, x4, x5, x6, x7, x8, hdn, hm, hz, rfl, rfl⟩
      have tot : b.2.length = dn.length + (rest.length + 1) := by rw [hdn]; simp
      have hr := hb.rules (l, r) (by rw [hdn]; simp)
      obtain ⟨y3, y4, y5, y6, y7, y8, e, h1, h2⟩ := si_b3 (l := l) (r := r) (a0 := .fr (.tuple [.int b.1, .tuple (b.2.map enc)])) (a3 := x3) (a4 := x4) (a5 := x5) (a6 := x6) (a7 := x7) (a8 := x8) hr.few hr.len hw hm (by omega)
      exact ⟨_, .inl e, _, dn ++ [(l, r)], _, _, _, _, _, _, by rw [hdn]; simp, h1, by simp; omega, by simp, rfl⟩) b.2
    [.fr (.tuple [.int b.1, .tuple (b.2.map enc)]), .fr (enc w), .od [], .un, .un, .un, .un, .un, .un] ⟨[], [], _, _, _, _, _, _, rfl, ⟨by simp, fun u hu => by cases hu⟩, by simp, rfl, rfl⟩
  rw [List.append_nil] at hdn
  subst hdn
  have hd : ∀ ρ : List Sl, rdB (.sl 2) ρ = some (.dict (encK (b.2.foldl (addRule w) []))) → dictB (.sl 2) ρ = some (encK (b.2.foldl (addRule w) [])) := fun ρ e => dictB_enc (α := Word) (β := Bool) isTup_list e (by omega)
  have hso : sortOk (((b.2.foldl (addRule w) []).map (·.1)).map enc) = true := by
    refine sortOk_enc _ (by decide) (.inl fun u hu => ?_)
    have hl := hm.len u hu
    cases u with
    | cons x u => exact ⟨_, _, rfl⟩
    | nil =>
      exfalso
      rw [found_none (by simpa using hl.symm) b.2 [] (fun r hr => (hb.rules r hr).pos)] at hu
      cases hu
  rw [e]
  simp? []
  rw [hd _ (by simp? [])]
  simp? [encK_keys, hso, sortD_map]
  rfl
end L2.Mx
set_option Elab.async false
set_option linter.all false
set_option maxRecDepth 100000
set_option maxHeartbeats 2000000
namespace L2.Mx
open PySem L2.Sc L2.Sm
open Enc
theorem getA_some {α β : Type} [Enc α] [Enc β] [DecidableEq α] {m : List (α × β)} {k : α} (h : (getA m k).isSome = true) : k ∈ m.map (·.1) := by
  induction m with
  | nil => cases h
  | cons q m ih =>
    rw [getA_cons] at h
    split at h
    · rename_i e; simp [e]
    · rw [List.map_cons]; exact List.mem_cons_of_mem _ (ih h)
theorem putA'_iff {α β : Type} [Enc α] [Enc β] [DecidableEq α] (m : List (α × β)) (k a : α) (v : β) : a ∈ (putA' m k v).map (·.1) ↔ a ∈ m.map (·.1) ∨ a = k := by
  constructor
  · exact putA'_mem
  · intro h
    rw [putA'_keys]
    split
    · rename_i e
      rcases h with h | h
      · exact h
      · subst h; exact getA_some e
    · exact List.mem_append.mpr (h.imp id fun h => by simp [h])
theorem fold_mem (u : Word) : ∀ (ps : List Line) (m : Fnd), u ∈ (ps.foldl (fun m p => putA' m p.2 true) m).map (·.1) ↔ u ∈ m.map (·.1) ∨ ∃ p ∈ ps, p.2 = u
  | [], m => by simp
  | p :: ps, m => by
    rw [List.foldl_cons, fold_mem u ps, putA'_iff]
    constructor
    · rintro ((h | h) | ⟨q, h1, h2⟩)
      · exact .inl h
      · exact .inr ⟨p, List.mem_cons_self .., h.symm⟩
      · exact .inr ⟨q, List.mem_cons_of_mem _ h1, h2⟩
    · rintro (h | ⟨q, h1, h2⟩)
      · exact .inl (.inl h)
      · rcases List.mem_cons.mp h1 with h | h
        · subst h; exact .inl (.inr h2.symm)
        · exact .inr ⟨q, h, h2⟩
theorem found_mem (w u : Word) : ∀ (rs : List Rule) (m : Fnd), u ∈ (rs.foldl (addRule w) m).map (·.1) ↔ u ∈ m.map (·.1) ∨ ∃ r ∈ rs, ∃ p ∈ rowsK w r.1 r.2 r.1.length, p.2 = u
  | [], m => by simp
  | r :: rs, m => by
    rw [List.foldl_cons, found_mem w u rs]
    unfold addRule
    rw [fold_mem]
    constructor
    · rintro ((h | h) | ⟨q, h1, h2⟩)
      · exact .inl h
      · exact .inr ⟨r, List.mem_cons_self .., h⟩
      · exact .inr ⟨q, List.mem_cons_of_mem _ h1, h2⟩
    · rintro (h | ⟨q, h1, h2⟩)
      · exact .inl (.inl h)
      · rcases List.mem_cons.mp h1 with h | h
        · subst h; exact .inl (.inr h2)
        · exact .inr ⟨q, h, h2⟩
theorem steps_mem (b : Book) (w u : Word) : u ∈ stepsOf b w ↔ ∃ r ∈ b.2, ∃ p ∈ rowsK w r.1 r.2 r.1.length, p.2 = u := by
  unfold stepsOf
  rw [(sortA_perm _).mem_iff]
  unfold foundOf
  rw [found_mem]
  simp
end L2.Mx
set_option Elab.async false
set_option linter.all false
namespace L2.Gr
variable {W : Type} [DecidableEq W]
theorem nodup_len {l m : List W} (h : l.Nodup) (s : ∀ x ∈ l, x ∈ m) : l.length ≤ m.length := by
  induction l generalizing m with
  | nil => exact Nat.zero_le _
  | cons x l ih =>
    rw [List.nodup_cons] at h
    have hx : x ∈ m := s x List.mem_cons_self
    have := ih h.2 (m := m.erase x) (fun y hy => by
      have hne : y ≠ x := fun e => h.1 (e ▸ hy)
      exact (List.mem_erase_of_ne hne).mpr (s y (List.mem_cons_of_mem _ hy)))
    rw [List.length_erase_of_mem hx] at this
    have hp := List.length_pos_of_mem hx
    rw [List.length_cons]
    omega
inductive Reach (s : W → List W) (w0 : W) : W → Prop
  | base : Reach s w0 w0
  | step {a b : W} : Reach s w0 a → b ∈ s a → Reach s w0 b
structure Gone (s : W → List W) (w0 : W) (keys : List W) : Prop where
  nd : keys.Nodup
  all : ∀ k ∈ keys, Reach s w0 k
  base : w0 ∈ keys
  clo : ∀ k ∈ keys, ∀ t ∈ s k, t ∈ keys
theorem Gone.iff {s : W → List W} {w0 : W} {keys : List W} (h : Gone s w0 keys) (x : W) : x ∈ keys ↔ Reach s w0 x := by
  refine ⟨h.all x, fun r => ?_⟩
  induction r with
  | base => exact h.base
  | step _ hb ih => exact h.clo _ ih _ hb
/-- in the midst: what is found, what is still to be looked at -/
structure Going (s : W → List W) (w0 : W) (keys rows : List W) : Prop where
  nd : keys.Nodup
  all : ∀ k ∈ keys, Reach s w0 k
  rall : ∀ k ∈ rows, Reach s w0 k
  base : w0 ∈ keys ∨ w0 ∈ rows
  clo : ∀ k ∈ keys, ∀ t ∈ s k, t ∈ keys ∨ t ∈ rows
theorem Going.start (s : W → List W) (w0 : W) : Going s w0 [] [w0] where
  nd := List.nodup_nil
  all := fun k h => by cases h
  rall := fun k h => by
    have : k = w0 := by simpa using h
    rw [this]; exact .base
  base := .inr (by simp)
  clo := fun k h => by cases h
theorem Going.done {s : W → List W} {w0 : W} {keys : List W} (h : Going s w0 keys []) : Gone s w0 keys where
  nd := h.nd
  all := h.all
  base := h.base.resolve_right (by simp)
  clo := fun k hk t ht => (h.clo k hk t ht).resolve_right (by simp)
/-- a row that is there already -/
theorem Going.skip {s : W → List W} {w0 : W} {keys rows rows' : List W} {x : W} (h : Going s w0 keys rows) (hx : x ∈ keys) (hr : ∀ y, y ∈ rows ↔ y = x ∨ y ∈ rows') : Going s w0 keys rows' where
  nd := h.nd
  all := h.all
  rall := fun k hk => h.rall k ((hr k).mpr (.inr hk))
  base := by
    rcases h.base with h | h
    · exact .inl h
    · rcases (hr _).mp h with e | h
      · rw [e]; exact .inl hx
      · exact .inr h
  clo := fun k hk t ht => by
    rcases h.clo k hk t ht with h | h
    · exact .inl h
    · rcases (hr _).mp h with e | h
      · rw [e]; exact .inl hx
      · exact .inr h
theorem Going.take {s : W → List W} {w0 : W} {keys rows rows' : List W} {x : W} (h : Going s w0 keys rows) (hx : x ∉ keys) (hr : ∀ y, y ∈ rows ↔ y = x ∨ y ∈ rows') : Going s w0 (keys ++ [x]) (rows' ++ s x) where
  nd := by
    rw [List.nodup_append]
    refine ⟨h.nd, by simp, fun a ha b hb => ?_⟩
    have : b = x := by simpa using hb
    rw [this]
    intro e
    exact hx (e ▸ ha)
  all := fun k hk => by
    rcases List.mem_append.mp hk with hk | hk
    · exact h.all k hk
    · have : k = x := by simpa using hk
      rw [this]
      exact h.rall x ((hr x).mpr (.inl rfl))
  rall := fun k hk => by
    rcases List.mem_append.mp hk with hk | hk
    · exact h.rall k ((hr k).mpr (.inr hk))
    · exact .step (h.rall x ((hr x).mpr (.inl rfl))) hk
  base := by
    rcases h.base with h | h
    · exact .inl (by simp [h])
    · rcases (hr _).mp h with e | h
      · exact .inl (by simp [e])
      · exact .inr (by simp [h])
  clo := fun k hk t ht => by
    rcases List.mem_append.mp hk with hk | hk
    · rcases h.clo k hk t ht with h | h
      · exact .inl (by simp [h])
      · rcases (hr _).mp h with e | h
        · exact .inl (by simp [e])
        · exact .inr (by simp [h])
    · have : k = x := by simpa using hk
      subst this
      exact .inr (by simp [ht])
def ends (s : W → List W) (L : List W) : List W := L.filter fun h => ((s h).filter fun t => decide (t ∈ L)).isEmpty
def remn (s : W → List W) (L : List W) : List W := L.filter fun h => !decide (h ∈ ends s L)
def lays (s : W → List W) (g : List W → List W) : Nat → List W → Option (List W)
  | 0, L => if L = [] then some [] else none
  | n + 1, L => if L = [] then some [] else if ends s L = [] then none else (lays s g n (remn s L)).map (g (ends s L) ++ ·)
theorem ends_any {s : W → List W} {L : List W} (inst : ∀ t, Decidable (t ∈ L)) : (L.filter fun h => ((s h).filter fun t => @decide _ (inst t)).isEmpty) = ends s L := by
  unfold ends
  congr 1
  funext h
  congr 2
  funext t
  exact decide_eq_decide.mpr Iff.rfl
theorem remn_any {s : W → List W} {L : List W} (inst : ∀ t, Decidable (t ∈ ends s L)) : (L.filter fun h => !@decide _ (inst h)) = remn s L := by
  unfold remn
  congr 1
  funext h
  congr 1
  exact decide_eq_decide.mpr Iff.rfl
theorem ends_mem {s : W → List W} {L : List W} {h : W} : h ∈ ends s L ↔ h ∈ L ∧ ∀ t ∈ s h, t ∉ L := by
  unfold ends
  rw [List.mem_filter, List.isEmpty_iff, List.filter_eq_nil_iff]
  simp
theorem remn_mem {s : W → List W} {L : List W} {h : W} : h ∈ remn s L ↔ h ∈ L ∧ h ∉ ends s L := by
  unfold remn
  rw [List.mem_filter]
  simp
theorem remn_lt {s : W → List W} {L : List W} (h : ends s L ≠ []) : (remn s L).length < L.length := by
  obtain ⟨x, hx⟩ := List.exists_mem_of_ne_nil _ h
  unfold remn
  refine Nat.lt_of_le_of_ne (List.length_filter_le ..) fun e => ?_
  have := List.filter_eq_self.mp (List.Sublist.eq_of_length (List.filter_sublist ..) e) x (ends_mem.mp hx).1
  simp [hx] at this
theorem same_ends {s : W → List W} {L L' : List W} (h : ∀ x, x ∈ L ↔ x ∈ L') (x : W) : x ∈ ends s L ↔ x ∈ ends s L' := by
  rw [ends_mem, ends_mem, h]
  constructor
  · rintro ⟨a, b⟩; exact ⟨a, fun t ht z => b t ht ((h t).mpr z)⟩
  · rintro ⟨a, b⟩; exact ⟨a, fun t ht z => b t ht ((h t).mp z)⟩
theorem same_rest {s : W → List W} {L L' : List W} (h : ∀ x, x ∈ L ↔ x ∈ L') (x : W) : x ∈ remn s L ↔ x ∈ remn s L' := by
  rw [remn_mem, remn_mem, h, same_ends h]
theorem same_nil {L L' : List W} (h : ∀ x, x ∈ L ↔ x ∈ L') : L = [] ↔ L' = [] := by
  rw [List.eq_nil_iff_forall_not_mem, List.eq_nil_iff_forall_not_mem]
  exact ⟨fun q x z => q x ((h x).mpr z), fun q x z => q x ((h x).mp z)⟩
theorem filter_two (p : W → Bool) : ∀ l : List W, (l.filter p).length + (l.filter fun x => !p x).length = l.length
  | [] => rfl
  | x :: l => by
    have := filter_two p l
    cases h : p x <;> simp [List.filter_cons, h] <;> omega
theorem part_len {s : W → List W} {L : List W} (nd : L.Nodup) : (ends s L).length + (remn s L).length ≤ L.length := by
  have h1 : (ends s L).length ≤ (L.filter fun h => decide (h ∈ ends s L)).length := nodup_len (nd.sublist (List.filter_sublist ..)) fun x hx => List.mem_filter.mpr ⟨(ends_mem.mp hx).1, by simpa using hx⟩
  have h2 := filter_two (fun h => decide (h ∈ ends s L)) L
  unfold remn
  omega
/-- both end, or neither -/
theorem lay_same {s : W → List W} {g g' : List W → List W} : ∀ (n m : Nat) {L L' : List W}, L.length ≤ n → L'.length ≤ m → (∀ x, x ∈ L ↔ x ∈ L') → ((lays s g n L).isSome = (lays s g' m L').isSome)
  | n, m, L, L', hn, hm, h => by
    by_cases e : L = []
    · have e' := (same_nil h).mp e
      subst e e'
      cases n <;> cases m <;> simp [lays]
    · have e' : L' ≠ [] := fun z => e ((same_nil h).mpr z)
      cases n with
      | zero => exact absurd (List.length_eq_zero_iff.mp (Nat.le_zero.mp hn)) e
      | succ n =>
        cases m with
        | zero => exact absurd (List.length_eq_zero_iff.mp (Nat.le_zero.mp hm)) e'
        | succ m =>
          unfold lays
          rw [if_neg e, if_neg e']
          by_cases q : ends s L = []
          · rw [if_pos q, if_pos ((same_nil (same_ends h)).mp q)]
          · have q' : ends s L' ≠ [] := fun z => q ((same_nil (same_ends h)).mpr z)
            rw [if_neg q, if_neg q', Option.isSome_map, Option.isSome_map]
            have l1 := remn_lt q
            have l2 := remn_lt q'
            exact lay_same n m (by omega) (by omega) (same_rest h)
/-- each step leads to something ahead -/
def Ready (s : W → List W) : List W → List W → Prop
  | _, [] => True
  | dn, h :: o => (∀ t ∈ s h, t ∈ dn) ∧ Ready s (h :: dn) o
theorem Ready.more {s : W → List W} : ∀ {o dn dn' : List W}, Ready s dn o → (∀ x ∈ dn, x ∈ dn') → Ready s dn' o
  | [], _, _, _, _ => trivial
  | h :: o, dn, dn', r, i => ⟨fun t ht => i t (r.1 t ht), r.2.more fun x hx => by
    rcases List.mem_cons.mp hx with e | hx
    · exact e ▸ List.mem_cons_self
    · exact List.mem_cons_of_mem _ (i x hx)⟩
theorem Ready.app {s : W → List W} : ∀ {o p dn : List W}, Ready s dn o → Ready s (o ++ dn) p → Ready s dn (o ++ p)
  | [], _, _, _, h => h
  | h :: o, p, dn, r, q => ⟨r.1, r.2.app (q.more fun x hx => by
    simp only [List.cons_append, List.mem_cons, List.mem_append] at hx ⊢
    rcases hx with h | h | h
    · exact .inr (.inl h)
    · exact .inl h
    · exact .inr (.inr h))⟩
theorem ready_all {s : W → List W} : ∀ {o dn : List W}, (∀ h ∈ o, ∀ t ∈ s h, t ∈ dn) → Ready s dn o
  | [], _, _ => trivial
  | h :: o, dn, q => ⟨q h List.mem_cons_self, ready_all fun x hx t ht => List.mem_cons_of_mem _ (q x (List.mem_cons_of_mem _ hx) t ht)⟩
structure LayOk (s : W → List W) (L dn o : List W) : Prop where
  mem : ∀ x, x ∈ o ↔ x ∈ L
  nd : o.Nodup
  rdy : Ready s dn o
theorem lay_ok {s : W → List W} {g : List W → List W} (hg : ∀ l, (g l).Perm l) : ∀ (n : Nat) {L dn o : List W}, L.Nodup → (∀ h ∈ L, ∀ t ∈ s h, t ∈ L ∨ t ∈ dn) → lays s g n L = some o → LayOk s L dn o
  | n, L, dn, o, nd, clo, e => by
    by_cases q : L = []
    · subst q
      have : o = [] := by cases n <;> simpa [lays, eq_comm] using e
      subst this
      exact ⟨fun _ => Iff.rfl, List.nodup_nil, trivial⟩
    · cases n with
      | zero => rw [lays, if_neg q] at e; cases e
      | succ n =>
        rw [lays, if_neg q] at e
        split at e
        · cases e
        · rename_i ne
          obtain ⟨p, e1, rfl⟩ := Option.map_eq_some_iff.mp e
          have rnd : (remn s L).Nodup := nd.sublist (List.filter_sublist ..)
          have end_ : (ends s L).Nodup := nd.sublist (List.filter_sublist ..)
          have hE : ∀ x, x ∈ g (ends s L) ↔ x ∈ ends s L := fun x => (hg _).mem_iff
          have ih := lay_ok hg n (dn := g (ends s L) ++ dn) rnd (fun h hh t ht => by
            have hL := (remn_mem.mp hh).1
            rcases clo h hL t ht with z | z
            · by_cases i : t ∈ ends s L
              · exact .inr (List.mem_append_left _ ((hE t).mpr i))
              · exact .inl (remn_mem.mpr ⟨z, i⟩)
            · exact .inr (List.mem_append_right _ z)) e1
          refine ⟨fun x => ?_, ?_, ?_⟩
          · rw [List.mem_append, hE, ih.mem, remn_mem]
            constructor
            · rintro (h | h)
              · exact (ends_mem.mp h).1
              · exact h.1
            · intro h
              by_cases i : x ∈ ends s L
              · exact .inl i
              · exact .inr ⟨h, i⟩
          · rw [List.nodup_append]
            refine ⟨(hg _).nodup_iff.mpr end_, ih.nd, fun a ha b hb z => ?_⟩
            subst z
            exact (remn_mem.mp ((ih.mem a).mp hb)).2 ((hE a).mp ha)
          · refine Ready.app (ready_all fun h hh t ht => ?_) ih.rdy
            have := ends_mem.mp ((hE h).mp hh)
            exact (clo h this.1 t ht).resolve_left (this.2 t ht)
def hgt (s : W → List W) (f : W → Int) (h : W) : Int := ((s h).map f).foldl max (-1) + 1
/-- two ways to tell the longest runs agree -/
theorem hgt_same {s : W → List W} {f g : W → Int} : ∀ {o dn : List W}, Ready s dn o → (∀ h ∈ o, f h = hgt s f h) → (∀ h ∈ o, g h = hgt s g h) → (∀ h ∈ dn, f h = g h) → ∀ h ∈ o, f h = g h
  | [], _, _, _, _, _, h, hh => by cases hh
  | x :: o, dn, r, hf, hg, hd, h, hh => by
    have hx : f x = g x := by
      rw [hf x List.mem_cons_self, hg x List.mem_cons_self]
      unfold hgt
      rw [List.map_congr_left fun t ht => hd t (r.1 t ht)]
    rcases List.mem_cons.mp hh with e | hh
    · rw [e]; exact hx
    · refine hgt_same r.2 (fun h hh => hf h (List.mem_cons_of_mem _ hh)) (fun h hh => hg h (List.mem_cons_of_mem _ hh)) (fun y hy => ?_) h hh
      rcases List.mem_cons.mp hy with e | hy
      · rw [e]; exact hx
      · exact hd y hy
end L2.Gr
set_option Elab.async false
set_option linter.all false
set_option maxRecDepth 100000
set_option maxHeartbeats 2000000
namespace L2.Mx
open PySem L2.Sc L2.Sm
open Enc
structure WOk (many : Int) (n : Nat) (w : Word) : Prop where
  len : w.length = n
  rng : inR many w = true
def allW (many : Nat) : Nat → List Word
  | 0 => [[]]
  | n + 1 => (List.range many).flatMap fun (i : Nat) => (allW many n).map fun w => (i : Int) :: w
theorem allW_len (many : Nat) : ∀ n, (allW many n).length = many ^ n
  | 0 => rfl
  | n + 1 => by
    rw [allW, List.length_flatMap]
    have : ((List.range many).map fun (i : Nat) => ((allW many n).map fun w => (i : Int) :: w).length) = List.replicate many (many ^ n) := by
      rw [List.eq_replicate_iff]
      refine ⟨by simp, fun x hx => ?_⟩
      obtain ⟨w, _, rfl⟩ := List.mem_map.mp hx
      rw [List.length_map, allW_len many n]
    rw [this, List.sum_replicate_nat, Nat.pow_succ, Nat.mul_comm]
theorem allW_mem {many : Nat} : ∀ {n : Nat} {w : Word}, WOk (many : Int) n w → w ∈ allW many n
  | 0, w, h => by
    have := List.length_eq_zero_iff.mp h.len
    simp [allW, this]
  | n + 1, w, h => by
    cases w with
    | nil => cases h.len
    | cons x w =>
      have hr := inR_iff.mp h.rng
      have h0 := hr x List.mem_cons_self
      rw [allW, List.mem_flatMap]
      refine ⟨x.toNat, List.mem_range.mpr (by omega), List.mem_map.mpr ⟨w, allW_mem ⟨by have := h.len; simpa using this, inR_iff.mpr fun y hy => hr y (List.mem_cons_of_mem _ hy)⟩, ?_⟩⟩
      rw [Int.toNat_of_nonneg h0.1]
theorem put_rng {w l r : Word} {many : Int} (hw : inR many w = true) (hr : inR many r = true) (hrl : r.length = l.length) : ∀ {k : Nat} {p : Line}, k ≤ l.length → p ∈ rowsK w l r k → inR many p.2 = true
  | 0, p, _, h => by
    have : p = ([], w) := by simpa [rowsK] using h
    subst this
    exact hw
  | k + 1, p, hk, h => by
    rw [rowsK, List.mem_flatMap] at h
    obtain ⟨q, hq, hp⟩ := h
    have ih := inR_iff.mp (put_rng hw hr hrl (by omega) hq)
    have hr2 := inR_iff.mp hr
    unfold ext1 at hp
    obtain ⟨a, ha, rfl⟩ := List.mem_map.mp hp
    unfold put1
    refine inR_iff.mpr fun x hx => ?_
    rcases List.mem_append.mp hx with hx | hx
    · rcases List.mem_append.mp hx with hx | hx
      · exact ih x (List.mem_of_mem_take hx)
      · have hk2 : k < r.length := by omega
        have : x = r[k] := by
          rw [List.getD_eq_getElem?_getD, List.getElem?_eq_getElem hk2] at hx
          simpa using hx
        rw [this]
        exact hr2 _ (List.getElem_mem hk2)
    · exact ih x (List.mem_of_mem_drop hx)
theorem steps_wok {b : Book} {n : Nat} {w u : Word} (hb : BookOk b) (hw : WOk b.1 n w) (hu : u ∈ stepsOf b w) : WOk b.1 n u := by
  obtain ⟨r, hr, p, hp, rfl⟩ := (steps_mem b w u).mp hu
  have ro := hb.rules r hr
  exact ⟨(rowsK_ok hp).wl.trans hw.len, put_rng hw.rng ro.rgt ro.len (Nat.le_refl _) hp⟩
theorem steps_nodup (b : Book) (w : Word) : (stepsOf b w).Nodup := by
  unfold stepsOf
  refine (sortA_perm _).nodup_iff.mpr ?_
  have : ∀ (rs : List Rule) (m : Fnd), (m.map (·.1)).Nodup → ((rs.foldl (addRule w) m).map (·.1)).Nodup := by
    intro rs
    induction rs with
    | nil => exact fun m h => h
    | cons r rs ih =>
      intro m h
      rw [List.foldl_cons]
      refine ih _ ?_
      unfold addRule
      have : ∀ (ps : List Line) (m : Fnd), (m.map (·.1)).Nodup → ((ps.foldl (fun m p => putA' m p.2 true) m).map (·.1)).Nodup := by
        intro ps
        induction ps with
        | nil => exact fun m h => h
        | cons p ps ih => exact fun m h => ih _ (putA'_nodup h _ _)
      exact this _ _ h
  exact this b.2 [] List.nodup_nil
/-- few words -/
theorem few_words {b : Book} {n : Nat} {l : List Word} (h3 : 0 ≤ b.1 ∧ b.1 ≤ 3) (hn : n ≤ 4) (nd : l.Nodup) (h : ∀ w ∈ l, WOk b.1 n w) : l.length ≤ 81 := by
  obtain ⟨m, hm⟩ : ∃ m : Nat, b.1 = (m : Int) := ⟨b.1.toNat, by omega⟩
  rw [hm] at h h3
  have h1 := L2.Gr.nodup_len nd fun w hw => allW_mem (h w hw)
  rw [allW_len] at h1
  have h2 : m ^ n ≤ 3 ^ n := Nat.pow_le_pow_left (by omega) n
  have h4 : 3 ^ n ≤ 3 ^ 4 := Nat.pow_le_pow_right (by decide) hn
  omega
def hashW (w : Word) : Int := reduceHash (Builtin.Tuple.tupleHashOf (w.map hashInt))
theorem hashes_num (wd : World) : ∀ w : Word, NestedKey.hashes wd (w.map NestedKey.num) = w.map hashInt
  | [] => by simp [NestedKey.hashes]
  | x :: w => by rw [List.map_cons, NestedKey.hashes, NestedKey.hash, hashes_num wd w, List.map_cons]
theorem hash_word (wd : World) (w : Word) : NestedKey.hash wd (key w) = hashW w := by
  show NestedKey.hash wd (.tup (w.map NestedKey.num)) = _
  rw [NestedKey.hash, hashes_num]
  rfl
def hashOk (n : Nat) : Bool := decide ((allW 3 n).map hashW).Nodup
theorem hash_apart : ∀ n, n ≤ 4 → ((allW 3 n).map hashW).Nodup := by
  have h : hashOk 0 = true ∧ hashOk 1 = true ∧ hashOk 2 = true ∧ hashOk 3 = true ∧ hashOk 4 = true := by decide +kernel
  intro n hn
  refine of_decide_eq_true (p := ((allW 3 n).map hashW).Nodup) ?_
  match n, hn with
  | 0, _ => exact h.1
  | 1, _ => exact h.2.1
  | 2, _ => exact h.2.2.1
  | 3, _ => exact h.2.2.2.1
  | 4, _ => exact h.2.2.2.2
theorem nodup_inj {α β : Type} {f : α → β} : ∀ {l : List α}, (l.map f).Nodup → ∀ x ∈ l, ∀ y ∈ l, f x = f y → x = y
  | [], _, x, hx, _, _, _ => by cases hx
  | a :: l, nd, x, hx, y, hy, e => by
    rw [List.map_cons, List.nodup_cons] at nd
    rcases List.mem_cons.mp hx with h | h <;> rcases List.mem_cons.mp hy with h' | h'
    · rw [h, h']
    · exfalso; subst h; exact nd.1 (List.mem_map.mpr ⟨y, h', e.symm⟩)
    · exfalso; subst h'; exact nd.1 (List.mem_map.mpr ⟨x, h, e⟩)
    · exact nodup_inj nd.2 x h y h' e
theorem map_nodup {α β : Type} {f : α → β} : ∀ {l : List α}, l.Nodup → (∀ x ∈ l, ∀ y ∈ l, f x = f y → x = y) → (l.map f).Nodup
  | [], _, _ => List.nodup_nil
  | a :: l, nd, h => by
    rw [List.nodup_cons] at nd
    rw [List.map_cons, List.nodup_cons]
    refine ⟨fun m => ?_, map_nodup nd.2 fun x hx y hy => h x (List.mem_cons_of_mem _ hx) y (List.mem_cons_of_mem _ hy)⟩
    obtain ⟨y, hy, e⟩ := List.mem_map.mp m
    exact nd.1 (h y (List.mem_cons_of_mem _ hy) a List.mem_cons_self e ▸ hy)
theorem apart_words {β : Type} (g : β → PyData) {n : Nat} (hn : n ≤ 4) {kvs : List (Word × β)} (nd : (kvs.map (·.1)).Nodup) (h : ∀ w ∈ kvs.map (·.1), WOk 3 n w) : apartB (encV g kvs) = true := by
  refine apartB_iff.mpr fun wd => ?_
  have e : ((encV g kvs).map fun p => (nk p.1).map (NestedKey.hash wd)) = (kvs.map (·.1)).map fun w => some (hashW w) := by
    unfold encV
    rw [List.map_map, List.map_map]
    refine List.map_congr_left fun p _ => ?_
    show (nk (enc p.1)).map (NestedKey.hash wd) = _
    rw [Enc.nk, Option.map_some, hash_word]
    rfl
  rw [e]
  refine map_nodup nd fun x hx y hy q => ?_
  exact nodup_inj (hash_apart n hn) x (allW_mem (h x hx)) y (allW_mem (h y hy)) (Option.some.inj q)
end L2.Mx
set_option Elab.async false
set_option linter.all false
set_option maxRecDepth 100000
set_option maxHeartbeats 2000000
namespace L2.Mx
open PySem L2.Sc L2.Sm
open Enc
open L2.Gr
local macro_rules
  | `(tactic| simp? [$ls,*]) => `(tactic| simp only [argSl_none, Res.bind_ok, Res.bind_err, Res.bind_stuck, Res.bind_ite, Res.st_ok, Res.st_err, Res.st_stuck, Res.st_ite, Fl.seq_nx, Fl.seq_rt, Fl.seq_bk, Fl.seq_ct, Fl.seq_er, Fl.seq_stuck, Fl.seq_ite, bind_ap, pure_ap, fail_ap, ofO_some, ofO_none, runB_ap, runF_nx, runF_rt, runF_er, runF_nxR, runF_rtR, runF_erR, runF_ite, argSl_some, ite_ap, iteM_ap, skip_ap, seq_ap, drop_ap, ret_ap, retN_ap, if_ap, set_ap, setF_ap, brk_ap, cont_ap, never_ap, app_ap, appK_ap, put_ap, putKk_ap, putKd_ap, putKl_ap, aug_ap, for_ap, asg_ap, nameB_ap, nameE_ap, c_ap, bv_ap, fr_ap, frz_ol, frz_od, nilA_ap, consA_ap, nilB_ap, consB_ap, tup_ap, lst_ap, opR_ap, opF_ap, opT_ap, op2_ap, op2F_ap, op2T_ap, op1_ap, toT_ap, andT_ap, orT_ap, notT_ap, andV_ap, orV_ap, notV_ap, ifM_ap, callE_ap, callF_ap, callS_ap, callR_ap, lcF_ap, yes_ap, noO_ap, someO_ap, slE_ap, slF_ap, slR_ap, slFR_ap, chainV_ap, chainT_ap, par_ap, nilP_ap, consE_ap, consF_ap, new_ap, dict1_ap, isi_ap, isi2_ap, seqI_ap, enumI_ap, range1_ap, range2_ap, zipI_ap, rev_ap, keysI_ap, get_ap, getK0_ap, getK1_ap, sumVals_ap, keysSort_ap, lstRg_ap, len_list, len_tuple, len_scr, tupC_list, tupC_tuple, lstC_list, lstC_tuple, intC_int, intC_bool, max2_int, min2_int, abs_int, sum_list, sum_tuple, add_int, sub_int, neg_int, isN_none, isN_int, isN_tuple, isN_list, isN_bool, isN_str, forT, lcT, nameG, nilG, consG, tupG, rowOf, rdB, Sl.val, Sl.lget, Sl.lput, rdBs, Sl.mut, setsR, wipeR, backR, keepFr, isTy, notNoneB, eqB_int, neB_int, eqB_bool, neB_bool, ltB_int, gtB_int, leB_int, geB_int, List.map_cons, List.map_nil, List.replicate_succ, List.replicate_zero, List.cons_append, List.nil_append, List.append_nil, List.getElem?_cons_zero, List.getElem?_cons_succ, List.set_cons_zero, List.set_cons_succ, Option.map_some, Option.map_none, Option.bind_some, Option.bind_none, List.length_cons, List.length_nil, List.length_map, Bool.not_true, Bool.not_false, Bool.or_true, Bool.true_or, Bool.or_false, Bool.false_or, Bool.and_true, Bool.and_false, Bool.true_and, Bool.false_and, if_true, if_false, reduceCtorEq, Bool.false_eq_true, Bool.not_eq_true, decide_eq_true_eq, ix_t0, ix_t1, ix_t2, ix_t3, ix_l0, ix_l1, ix_l2, ix_l3, cast0, cast1, cast2, cast3, cast4, cast5, ixN40, ixN41, ixN42, ixN43, and_self, and_true, true_and, and_false, false_and, Nat.reduceLT, Nat.reduceLeDiff, eq_self, decide_true, decide_false, Nat.zero_add, Nat.reduceAdd, keysF_ap, onKeys, dcopyF_ap, onCopy, dpairsF_ap, onPairs, raise_ap, try_ap, onTry_nx, onTry_er, uns_rt, uns_nx, $ls,*])
abbrev gL (l : List Word) : PyData := .list (l.map enc)
def toldOf (b : Book) (keys : List Word) : List (Word × List Word) := keys.map fun w => (w, stepsOf b w)
abbrev toldD (b : Book) (keys : List Word) : List (PyData × PyData) := encV gL (toldOf b keys)
theorem told_keys (b : Book) (keys : List Word) : (toldOf b keys).map (·.1) = keys := by
  unfold toldOf
  rw [List.map_map]
  exact List.map_id' keys
theorem told_at {b : Book} {keys : List Word} {x : Word} (h : x ∈ keys) : getA (toldOf b keys) x = some (stepsOf b x) := by
  refine getA_find (f := stepsOf b) (fun p hp => ?_) (by rw [told_keys]; exact h)
  obtain ⟨w, _, rfl⟩ := List.mem_map.mp hp
  rfl
theorem told_len (b : Book) (keys : List Word) : (toldD b keys).length = keys.length := by
  unfold toldD
  rw [encV_len]
  simp [toldOf]
theorem told_in (b : Book) (keys : List Word) (x : Word) : inA (enc x) (.dict (toldD b keys)) = some (decide (x ∈ keys)) := by
  rw [in_dictV gL (toldOf b keys) x (by decide), told_keys]
theorem told_notIn (b : Book) (keys : List Word) (x : Word) : notInA (enc x) (.dict (toldD b keys)) = some (!decide (x ∈ keys)) := by
  unfold notInA
  rw [told_in]
  rfl
theorem told_ix {b : Book} {keys : List Word} {x : Word} (h : x ∈ keys) : ixA (.dict (toldD b keys)) (enc x) = some (.list ((stepsOf b x).map enc)) := ix_dictV gL (by decide) (told_at h)
theorem told_put {b : Book} {keys : List Word} {x : Word} (h : x ∉ keys) : Sc.putK (toldD b keys) (key x) (enc x) (.list ((stepsOf b x).map enc)) = toldD b (keys ++ [x]) := by
  have := putK_encV gL (toldOf b keys) x (stepsOf b x)
  rw [getA_app_new (by rw [told_keys]; exact h)] at this
  refine this.trans ?_
  unfold toldD toldOf
  rw [List.map_append]
  rfl
theorem told_ok (b : Book) (keys : List Word) : keysOk (toldD b keys) = true := keysOk_encV gL isTup_list _
/-- the world that this law draws -/
structure WorldOk (b : Book) (n : Nat) : Prop where
  bk : BookOk b
  lo : 0 ≤ b.1
  hi : b.1 ≤ 3
  n4 : n ≤ 4
section
variable {b : Book} {n : Nat} {w0 : Word}
theorem reach_wok (hb : WorldOk b n) (h0 : WOk b.1 n w0) {w : Word} (h : Reach (stepsOf b) w0 w) : WOk b.1 n w := by
  induction h with
  | base => exact h0
  | step _ hs ih => exact steps_wok hb.bk ih hs
theorem steps_few (hb : WorldOk b n) {w : Word} (h : WOk b.1 n w) : (stepsOf b w).length ≤ 81 := few_words ⟨hb.lo, hb.hi⟩ hb.n4 (steps_nodup b w) fun u hu => steps_wok hb.bk h hu
theorem walk_few (hb : WorldOk b n) (h0 : WOk b.1 n w0) {keys rows : List Word} (h : Going (stepsOf b) w0 keys rows) : keys.length ≤ 81 := few_words ⟨hb.lo, hb.hi⟩ hb.n4 h.nd fun u hu => reach_wok hb h0 (h.all u hu)
/-- how much is left -/
def left_ (p : List Word × List Word) : Nat := (82 - p.1.length) * 100 + p.2.length
theorem ci_step (hb : WorldOk b n) (h0 : WOk b.1 n w0) {keys rows : List Word} {x : Word} (h : Going (stepsOf b) w0 keys (rows ++ [x])) (hz : rows.length ≤ 1000000) (a1 a4 : Sl) :
    (x ∈ keys → come_in_w1 [.fr (enc b), a1, .od (toldD b keys), .ol ((rows ++ [x]).map enc), a4] = .nx [.fr (enc b), a1, .od (toldD b keys), .ol (rows.map enc), .fr (enc x)]) ∧
    (x ∉ keys → come_in_w1 [.fr (enc b), a1, .od (toldD b keys), .ol ((rows ++ [x]).map enc), a4] = .nx [.fr (enc b), a1, .od (toldD b (keys ++ [x])), .ol ((rows ++ stepsOf b x).map enc), .fr (enc x)]) := by
  have hS : 16000000 ≤ sizeLine := by decide
  have wx : WOk b.1 n x := reach_wok hb h0 (h.rall x (by simp))
  have ep : popE 3 [.fr (enc b), a1, .od (toldD b keys), .ol ((rows ++ [x]).map enc), a4] = .ok (enc x) [.fr (enc b), a1, .od (toldD b keys), .ol (rows.map enc), a4] := by
    rw [List.map_append]
    exact pop_ap (i := 3) (t := .ol (rows.map enc ++ [x].map enc)) (ds := rows.map enc) (d := enc x) rfl rfl
  have hk := walk_few hb h0 h
  have hl : (toldD b keys).length < sizeLine := by rw [told_len]; omega
  refine ⟨fun hx => ?_, fun hx => ?_⟩
  · have hn : notInA (enc x) (.dict (toldD b keys)) = some false := by rw [told_notIn, decide_eq_true hx]; rfl
    unfold come_in_w1
    simp? [ep, hn]
  · have hn : notInA (enc x) (.dict (toldD b keys)) = some true := by rw [told_notIn, decide_eq_false hx]; rfl
    have hsf := steps_few hb wx
    have e1 : addL (.list (rows.map enc)) (.list ((stepsOf b x).map enc)) = some ((rows ++ stepsOf b x).map enc) := addL_enc (by omega)
    have e2 : lenK [.dict (toldD b (keys ++ [x]))] = some (.int ((keys ++ [x]).length : Int)) := by rw [lenK_enc (told_ok _ _), told_len]
    have e3 : decide ((1500 : Int) < ((keys ++ [x]).length : Int)) = false := decide_eq_false (by rw [List.length_append, List.length_singleton]; omega)
    have e4 : ixA (.dict (toldD b (keys ++ [x]))) (enc x) = some (.list ((stepsOf b x).map enc)) := told_ix (by simp)
    unfold come_in_w1
    simp? [ep, hn, steps_in_ok b x hb.bk (by rw [wx.len]; have := hb.n4; omega), keyOf_enc x (by decide), hl, told_put hx, e2, e3, e4, e1]
theorem come_in_ok (hb : WorldOk b n) (h0 : WOk b.1 n w0) : ∃ keys, Gone (stepsOf b) w0 keys ∧ f_come_in none [enc b, enc w0] = .ok (.dict (toldD b keys)) none := by
  have hS : 16000000 ≤ sizeLine := by decide
  have key : ∃ keys a4, Gone (stepsOf b) w0 keys ∧ whileS come_in_c1 come_in_w1 [.fr (enc b), .fr (enc w0), .od [], .ol [enc w0], .un] = .nx [.fr (enc b), .fr (enc w0), .od (toldD b keys), .ol [], a4] := by
    refine while_inv (fun (p : List Word × List Word) ρ => Going (stepsOf b) w0 p.1 p.2 ∧ p.2.length ≤ p.1.length * 81 + 1 ∧ ∃ a4, ρ = [.fr (enc b), .fr (enc w0), .od (toldD b p.1), .ol (p.2.map enc), a4]) left_
      (fun r => ∃ keys a4, Gone (stepsOf b) w0 keys ∧ r = .nx [.fr (enc b), .fr (enc w0), .od (toldD b keys), .ol [], a4]) ?_ 10000 ([], [w0]) _ (by show (82 - 0) * 100 + 1 < 10000; decide) ⟨Going.start _ _, by simp, _, rfl⟩
    rintro ⟨keys, rows⟩ ρ ⟨hw, hz, a4, rfl⟩
    dsimp only at hw hz
    have hk := walk_few hb h0 hw
    rcases List.eq_nil_or_concat rows with rfl | ⟨rows', x, rfl⟩
    · refine .inl ⟨_, ?_, keys, a4, hw.done, rfl⟩
      have e : neB (.list []) (.list []) = some false := neB_nil (α := Word) [] (by decide)
      unfold come_in_c1
      simp? [e]
    · rw [List.concat_eq_append] at hw hz ⊢
      rw [List.length_append, List.length_singleton] at hz
      have e : neB (.list ((rows' ++ [x]).map enc)) (.list []) = some true := by rw [neB_nil (α := Word) _ (by decide)]; cases rows' <;> rfl
      obtain ⟨s1, s2⟩ := ci_step hb h0 hw (by omega) (.fr (enc w0)) a4
      have ec : come_in_c1 [.fr (enc b), .fr (enc w0), .od (toldD b keys), .ol ((rows' ++ [x]).map enc), a4] = .ok true [.fr (enc b), .fr (enc w0), .od (toldD b keys), .ol ((rows' ++ [x]).map enc), a4] := by
        unfold come_in_c1
        simp? [e]
      by_cases hx : x ∈ keys
      · refine .inr (.inl ⟨_, _, (keys, rows'), ec, .inl (s1 hx), ⟨hw.skip hx fun y => by simp [or_comm], by dsimp only; omega, _, rfl⟩, ?_⟩)
        unfold left_
        dsimp only
        rw [List.length_append, List.length_singleton]
        omega
      · have wx : WOk b.1 n x := reach_wok hb h0 (hw.rall x (by simp))
        have hsf := steps_few hb wx
        have hw2 : Going (stepsOf b) w0 (keys ++ [x]) (rows' ++ stepsOf b x) := hw.take hx fun y => by simp [or_comm]
        have hk2 := walk_few hb h0 hw2
        rw [List.length_append, List.length_singleton] at hk2
        refine .inr (.inl ⟨_, _, (keys ++ [x], rows' ++ stepsOf b x), ec, .inl (s2 hx), ⟨hw2, by dsimp only; rw [List.length_append, List.length_append, List.length_singleton]; omega, _, rfl⟩, ?_⟩)
        unfold left_
        dsimp only
        rw [List.length_append, List.length_append, List.length_append, List.length_singleton]
        omega
  obtain ⟨keys, a4, hk, e⟩ := key
  refine ⟨keys, hk, ?_⟩
  unfold f_come_in
  simp? [e]
end
end L2.Mx
set_option Elab.async false
set_option linter.all false
set_option maxRecDepth 100000
set_option maxHeartbeats 2000000
namespace L2.Mx
open PySem L2.Sc L2.Sm
open Enc
open L2.Gr
local macro_rules
  | `(tactic| simp? [$ls,*]) => `(tactic| simp only [argSl_none, Res.bind_ok, Res.bind_err, Res.bind_stuck, Res.bind_ite, Res.st_ok, Res.st_err, Res.st_stuck, Res.st_ite, Fl.seq_nx, Fl.seq_rt, Fl.seq_bk, Fl.seq_ct, Fl.seq_er, Fl.seq_stuck, Fl.seq_ite, bind_ap, pure_ap, fail_ap, ofO_some, ofO_none, runB_ap, runF_nx, runF_rt, runF_er, runF_nxR, runF_rtR, runF_erR, runF_ite, argSl_some, ite_ap, iteM_ap, skip_ap, seq_ap, drop_ap, ret_ap, retN_ap, if_ap, set_ap, setF_ap, brk_ap, cont_ap, never_ap, app_ap, appK_ap, put_ap, putKk_ap, putKd_ap, putKl_ap, aug_ap, for_ap, asg_ap, nameB_ap, nameE_ap, c_ap, bv_ap, fr_ap, frz_ol, frz_od, nilA_ap, consA_ap, nilB_ap, consB_ap, tup_ap, lst_ap, opR_ap, opF_ap, opT_ap, op2_ap, op2F_ap, op2T_ap, op1_ap, toT_ap, andT_ap, orT_ap, notT_ap, andV_ap, orV_ap, notV_ap, ifM_ap, callE_ap, callF_ap, callS_ap, callR_ap, lcF_ap, yes_ap, noO_ap, someO_ap, slE_ap, slF_ap, slR_ap, slFR_ap, chainV_ap, chainT_ap, par_ap, nilP_ap, consE_ap, consF_ap, new_ap, dict1_ap, isi_ap, isi2_ap, seqI_ap, enumI_ap, range1_ap, range2_ap, zipI_ap, rev_ap, keysI_ap, get_ap, getK0_ap, getK1_ap, sumVals_ap, keysSort_ap, lstRg_ap, len_list, len_tuple, len_scr, tupC_list, tupC_tuple, lstC_list, lstC_tuple, intC_int, intC_bool, max2_int, min2_int, abs_int, sum_list, sum_tuple, add_int, sub_int, neg_int, isN_none, isN_int, isN_tuple, isN_list, isN_bool, isN_str, forT, lcT, nameG, nilG, consG, tupG, rowOf, rdB, Sl.val, Sl.lget, Sl.lput, rdBs, Sl.mut, setsR, wipeR, backR, keepFr, isTy, notNoneB, eqB_int, neB_int, eqB_bool, neB_bool, ltB_int, gtB_int, leB_int, geB_int, List.map_cons, List.map_nil, List.replicate_succ, List.replicate_zero, List.cons_append, List.nil_append, List.append_nil, List.getElem?_cons_zero, List.getElem?_cons_succ, List.set_cons_zero, List.set_cons_succ, Option.map_some, Option.map_none, Option.bind_some, Option.bind_none, List.length_cons, List.length_nil, List.length_map, Bool.not_true, Bool.not_false, Bool.or_true, Bool.true_or, Bool.or_false, Bool.false_or, Bool.and_true, Bool.and_false, Bool.true_and, Bool.false_and, if_true, if_false, reduceCtorEq, Bool.false_eq_true, Bool.not_eq_true, decide_eq_true_eq, ix_t0, ix_t1, ix_t2, ix_t3, ix_l0, ix_l1, ix_l2, ix_l3, cast0, cast1, cast2, cast3, cast4, cast5, ixN40, ixN41, ixN42, ixN43, and_self, and_true, true_and, and_false, false_and, Nat.reduceLT, Nat.reduceLeDiff, eq_self, decide_true, decide_false, Nat.zero_add, Nat.reduceAdd, keysF_ap, onKeys, dcopyF_ap, onCopy, dpairsF_ap, onPairs, raise_ap, try_ap, onTry_nx, onTry_er, uns_rt, uns_nx, $ls,*])
section
variable {b : Book} {n : Nat} {w0 : Word}
theorem lw_step (hb : WorldOk b n) (h0 : WOk b.1 n w0) {keys rows : List Word} {x : Word} (h : Going (stepsOf b) w0 keys (x :: rows)) (hz : rows.length ≤ 1000000) (a1 a4 : Sl) :
    (x ∈ keys → _law_walk_w1 [.fr (enc b), a1, .od (toldD b keys), .fr (.list (enc x :: rows.map enc)), a4] = .nx [.fr (enc b), a1, .od (toldD b keys), .fr (.list (rows.map enc)), .fr (enc x)]) ∧
    (x ∉ keys → _law_walk_w1 [.fr (enc b), a1, .od (toldD b keys), .fr (.list (enc x :: rows.map enc)), a4] = .nx [.fr (enc b), a1, .od (toldD b (keys ++ [x])), .fr (.list ((rows ++ stepsOf b x).map enc)), .fr (enc x)]) := by
  have hS : 16000000 ≤ sizeLine := by decide
  have wx : WOk b.1 n x := reach_wok hb h0 (h.rall x (by simp))
  have hk := walk_few hb h0 h
  have hl : (toldD b keys).length < sizeLine := by rw [told_len]; omega
  have ecut : cut ((enc x : PyData) :: rows.map enc) (some 1) none = rows.map enc := cut_from _ 1
  refine ⟨fun hx => ?_, fun hx => ?_⟩
  · have hn : notInA (enc x) (.dict (toldD b keys)) = some false := by rw [told_notIn, decide_eq_true hx]; rfl
    unfold _law_walk_w1
    simp? [ecut, hn]
  · have hn : notInA (enc x) (.dict (toldD b keys)) = some true := by rw [told_notIn, decide_eq_false hx]; rfl
    have hsf := steps_few hb wx
    have e1 : addL (.list (rows.map enc)) (.list ((stepsOf b x).map enc)) = some ((rows ++ stepsOf b x).map enc) := addL_enc (by omega)
    have e4 : ixA (.dict (toldD b (keys ++ [x]))) (enc x) = some (.list ((stepsOf b x).map enc)) := told_ix (by simp)
    unfold _law_walk_w1
    simp? [ecut, hn, steps_ok b x hb.bk (by rw [wx.len]; have := hb.n4; omega), keyOf_enc x (by decide), hl, told_put hx, e4, e1]
theorem law_walk_ok (hb : WorldOk b n) (h0 : WOk b.1 n w0) : ∃ keys, Gone (stepsOf b) w0 keys ∧ f__law_walk none [enc b, enc w0] = .ok (.dict (toldD b keys)) none := by
  have hS : 16000000 ≤ sizeLine := by decide
  have key : ∃ keys a4, Gone (stepsOf b) w0 keys ∧ whileS _law_walk_c1 _law_walk_w1 [.fr (enc b), .fr (enc w0), .od [], .fr (.list [enc w0]), .un] = .nx [.fr (enc b), .fr (enc w0), .od (toldD b keys), .fr (.list []), a4] := by
    refine while_inv (fun (p : List Word × List Word) ρ => Going (stepsOf b) w0 p.1 p.2 ∧ p.2.length ≤ p.1.length * 81 + 1 ∧ ∃ a4, ρ = [.fr (enc b), .fr (enc w0), .od (toldD b p.1), .fr (.list (p.2.map enc)), a4]) left_
      (fun r => ∃ keys a4, Gone (stepsOf b) w0 keys ∧ r = .nx [.fr (enc b), .fr (enc w0), .od (toldD b keys), .fr (.list []), a4]) ?_ 10000 ([], [w0]) _ (by show (82 - 0) * 100 + 1 < 10000; decide) ⟨Going.start _ _, by simp, _, rfl⟩
    rintro ⟨keys, rows⟩ ρ ⟨hw, hz, a4, rfl⟩
    dsimp only at hw hz
    have hk := walk_few hb h0 hw
    cases rows with
    | nil =>
      refine .inl ⟨_, ?_, keys, a4, hw.done, rfl⟩
      have e : neB (.list []) (.list []) = some false := neB_nil (α := Word) [] (by decide)
      unfold _law_walk_c1
      simp? [e]
    | cons x rows =>
      rw [List.length_cons] at hz
      have e : neB (.list (enc x :: rows.map enc)) (.list []) = some true := neB_nil (α := Word) (x :: rows) (by decide)
      obtain ⟨s1, s2⟩ := lw_step hb h0 hw (by omega) (.fr (enc w0)) a4
      have ec : _law_walk_c1 [.fr (enc b), .fr (enc w0), .od (toldD b keys), .fr (.list (enc x :: rows.map enc)), a4] = .ok true [.fr (enc b), .fr (enc w0), .od (toldD b keys), .fr (.list (enc x :: rows.map enc)), a4] := by
        unfold _law_walk_c1
        simp? [e]
      by_cases hx : x ∈ keys
      · refine .inr (.inl ⟨_, _, (keys, rows), ec, .inl (s1 hx), ⟨hw.skip hx fun y => by simp, by dsimp only; omega, _, rfl⟩, ?_⟩)
        unfold left_
        dsimp only
        rw [List.length_cons]
        omega
      · have wx : WOk b.1 n x := reach_wok hb h0 (hw.rall x (by simp))
        have hsf := steps_few hb wx
        have hw2 : Going (stepsOf b) w0 (keys ++ [x]) (rows ++ stepsOf b x) := hw.take hx fun y => by simp
        have hk2 := walk_few hb h0 hw2
        rw [List.length_append, List.length_singleton] at hk2
        refine .inr (.inl ⟨_, _, (keys ++ [x], rows ++ stepsOf b x), ec, .inl (s2 hx), ⟨hw2, by dsimp only; rw [List.length_append, List.length_append, List.length_singleton]; omega, _, rfl⟩, ?_⟩)
        unfold left_
        dsimp only
        simp only [List.length_append, List.length_cons, List.length_nil]
        omega
  obtain ⟨keys, a4, hk, e⟩ := key
  refine ⟨keys, hk, ?_⟩
  unfold f__law_walk
  simp? [e]
end
end L2.Mx
set_option Elab.async false
set_option linter.all false
set_option maxRecDepth 100000
set_option maxHeartbeats 2000000
namespace L2.Mx
open PySem L2.Sc L2.Sm
open Enc
open L2.Gr
local macro_rules
  | `(tactic| simp? [$ls,*]) => `(tactic| simp only [argSl_none, Res.bind_ok, Res.bind_err, Res.bind_stuck, Res.bind_ite, Res.st_ok, Res.st_err, Res.st_stuck, Res.st_ite, Fl.seq_nx, Fl.seq_rt, Fl.seq_bk, Fl.seq_ct, Fl.seq_er, Fl.seq_stuck, Fl.seq_ite, bind_ap, pure_ap, fail_ap, ofO_some, ofO_none, runB_ap, runF_nx, runF_rt, runF_er, runF_nxR, runF_rtR, runF_erR, runF_ite, argSl_some, ite_ap, iteM_ap, skip_ap, seq_ap, drop_ap, ret_ap, retN_ap, if_ap, set_ap, setF_ap, brk_ap, cont_ap, never_ap, app_ap, appK_ap, put_ap, putKk_ap, putKd_ap, putKl_ap, aug_ap, for_ap, asg_ap, nameB_ap, nameE_ap, c_ap, bv_ap, fr_ap, frz_ol, frz_od, nilA_ap, consA_ap, nilB_ap, consB_ap, tup_ap, lst_ap, opR_ap, opF_ap, opT_ap, op2_ap, op2F_ap, op2T_ap, op1_ap, toT_ap, andT_ap, orT_ap, notT_ap, andV_ap, orV_ap, notV_ap, ifM_ap, callE_ap, callF_ap, callS_ap, callR_ap, lcF_ap, yes_ap, noO_ap, someO_ap, slE_ap, slF_ap, slR_ap, slFR_ap, chainV_ap, chainT_ap, par_ap, nilP_ap, consE_ap, consF_ap, new_ap, dict1_ap, isi_ap, isi2_ap, seqI_ap, enumI_ap, range1_ap, range2_ap, zipI_ap, rev_ap, keysI_ap, get_ap, getK0_ap, getK1_ap, sumVals_ap, keysSort_ap, lstRg_ap, len_list, len_tuple, len_scr, tupC_list, tupC_tuple, lstC_list, lstC_tuple, intC_int, intC_bool, max2_int, min2_int, abs_int, sum_list, sum_tuple, add_int, sub_int, neg_int, isN_none, isN_int, isN_tuple, isN_list, isN_bool, isN_str, forT, lcT, nameG, nilG, consG, tupG, rowOf, rdB, Sl.val, Sl.lget, Sl.lput, rdBs, Sl.mut, setsR, wipeR, backR, keepFr, isTy, notNoneB, eqB_int, neB_int, eqB_bool, neB_bool, ltB_int, gtB_int, leB_int, geB_int, List.map_cons, List.map_nil, List.replicate_succ, List.replicate_zero, List.cons_append, List.nil_append, List.append_nil, List.getElem?_cons_zero, List.getElem?_cons_succ, List.set_cons_zero, List.set_cons_succ, Option.map_some, Option.map_none, Option.bind_some, Option.bind_none, List.length_cons, List.length_nil, List.length_map, Bool.not_true, Bool.not_false, Bool.or_true, Bool.true_or, Bool.or_false, Bool.false_or, Bool.and_true, Bool.and_false, Bool.true_and, Bool.false_and, if_true, if_false, reduceCtorEq, Bool.false_eq_true, Bool.not_eq_true, decide_eq_true_eq, ix_t0, ix_t1, ix_t2, ix_t3, ix_l0, ix_l1, ix_l2, ix_l3, cast0, cast1, cast2, cast3, cast4, cast5, ixN40, ixN41, ixN42, ixN43, and_self, and_true, true_and, and_false, false_and, Nat.reduceLT, Nat.reduceLeDiff, eq_self, decide_true, decide_false, Nat.zero_add, Nat.reduceAdd, keysF_ap, onKeys, dcopyF_ap, onCopy, dpairsF_ap, onPairs, raise_ap, try_ap, onTry_nx, onTry_er, uns_rt, uns_nx, $ls,*])
theorem WOk.mono {many m2 : Int} {n : Nat} {w : Word} (h : WOk many n w) (hm : many ≤ m2) : WOk m2 n w := ⟨h.len, inR_iff.mpr fun x hx => by have := inR_iff.mp h.rng x hx; omega⟩
theorem sort_words {n : Nat} {l : List Word} (nd : l.Nodup) (h : ∀ w ∈ l, w.length = n) : sortOk (l.map enc) = true := by
  by_cases hn : n = 0
  · refine sortOk_one l (by decide) ?_
    have : ∀ w ∈ l, w = [] := fun w hw => List.length_eq_zero_iff.mp ((h w hw).trans hn)
    match l, nd, this with
    | [], _, _ => simp
    | [x], _, _ => simp
    | x :: y :: r, nd, this =>
      exfalso
      rw [List.nodup_cons] at nd
      exact nd.1 (by rw [this x (by simp), this y (by simp)]; simp)
  · refine sortOk_enc _ (by decide) (.inl fun w hw => ?_)
    have hl := h w hw
    cases w with
    | nil => exact absurd hl.symm hn
    | cons x w => exact ⟨_, _, rfl⟩
section
variable {b : Book} {n : Nat}
structure LeftOk (b : Book) (n : Nat) (L : List Word) : Prop where
  nd : L.Nodup
  wok : ∀ w ∈ L, WOk b.1 n w
theorem LeftOk.few (hb : WorldOk b n) {L : List Word} (h : LeftOk b n L) : L.length ≤ 81 := few_words ⟨hb.lo, hb.hi⟩ hb.n4 h.nd h.wok
theorem LeftOk.sub {L L' : List Word} (h : LeftOk b n L) (s : L'.Sublist L) : LeftOk b n L' := ⟨h.nd.sublist s, fun w hw => h.wok w (s.subset hw)⟩
/-- which of the steps are left -/
theorem oi_in (hb : WorldOk b n) {L : List Word} (hL : LeftOk b n L) {h : Word} (hh : h ∈ L) (a0 a1 a3 : Sl) : lcF [5] (seqI (op2 (nameB 2) (nameB 4) ixA)) order_in_g1 order_in_t1 order_in_e1 [a0, a1, .fr (.dict (toldD b L)), a3, .fr (enc h), .un] =
    .ok (.ol (((stepsOf b h).filter fun t => decide (t ∈ L)).map enc)) [a0, a1, .fr (.dict (toldD b L)), a3, .fr (enc h), .un] := by
  have hS : 16000000 ≤ sizeLine := by decide
  have e1 : ixA (.dict (toldD b L)) (enc h) = some (.list ((stepsOf b h).map enc)) := told_ix hh
  have hsf := steps_few hb (hL.wok h hh)
  simp? [e1]
  rw [lcL_pure (enc : Word → PyData) (fun t => decide (t ∈ L)) (enc : Word → PyData) (stepsOf b h) [] (by simp; omega) (fun t ht => by
    have e2 := told_in b L t
    by_cases hc : t ∈ L
    · rw [decide_eq_true hc] at e2
      simp? [order_in_g1, order_in_t1, order_in_e1, e2, hc]
    · rw [decide_eq_false hc] at e2
      simp? [order_in_g1, order_in_t1, order_in_e1, e2, hc])]
  simp? []
theorem oi_ends (hb : WorldOk b n) {L : List Word} (hL : LeftOk b n L) (a0 a1 a3 : Sl) : lcF [4] (keysI (nameE 2)) order_in_g2 order_in_t2 order_in_e2 [a0, a1, .fr (.dict (toldD b L)), a3, .un, .un] =
    .ok (.ol ((ends (stepsOf b) L).map enc)) [a0, a1, .fr (.dict (toldD b L)), a3, .un, .un] := by
  have hS : 16000000 ≤ sizeLine := by decide
  have hk : keysOk (toldD b L) = true := told_ok b L
  have hf := hL.few hb
  simp? [hk]
  rw [encV_keys, told_keys]
  rw [lcL_pure (enc : Word → PyData) (fun h => ((stepsOf b h).filter fun t => decide (t ∈ L)).isEmpty) (enc : Word → PyData) L [] (by simp; omega) (fun h hh => by
    have e1 := oi_in hb hL hh a0 a1 a3
    have e2 : eqB (.list (((stepsOf b h).filter fun t => decide (t ∈ L)).map enc)) (.list []) = some ((stepsOf b h).filter fun t => decide (t ∈ L)).isEmpty := eqB_nil (α := Word) _ (by decide)
    obtain ⟨c, hc⟩ : ∃ c, ((stepsOf b h).filter fun t => decide (t ∈ L)).isEmpty = c := ⟨_, rfl⟩
    rw [hc] at e2 ⊢
    unfold lcT order_in_t2
    obtain ⟨m, hm⟩ : ∃ m : M Sl, m = lcF [5] (seqI (op2 (nameB 2) (nameB 4) ixA)) order_in_g1 order_in_t1 order_in_e1 := ⟨_, rfl⟩
    rw [← hm] at e1 ⊢
    cases c with
    | true => simp? [order_in_g2, order_in_e2, e1, e2]
    | false => simp? [order_in_g2, order_in_e2, e1, e2])]
  simp? []
  rw [ends_any]
theorem oi_rest (hb : WorldOk b n) {L es : List Word} (hL : LeftOk b n L) (he : es.length ≤ 81) (a0 a1 : Sl) : lcF [4] (keysI (nameE 2)) order_in_g3 order_in_t3 order_in_e3 [a0, a1, .fr (.dict (toldD b L)), .fr (.list (es.map enc)), .un, .un] =
    .ok (.ol ((L.filter fun h => !decide (h ∈ es)).map fun h => .tuple [enc h, gL (stepsOf b h)])) [a0, a1, .fr (.dict (toldD b L)), .fr (.list (es.map enc)), .un, .un] := by
  have hS : 16000000 ≤ sizeLine := by decide
  have hk : keysOk (toldD b L) = true := told_ok b L
  have hf := hL.few hb
  simp? [hk]
  rw [encV_keys, told_keys]
  rw [lcL_pure (enc : Word → PyData) (fun h => !decide (h ∈ es)) (fun h => PyData.tuple [enc h, gL (stepsOf b h)]) L [] (by simp; omega) (fun h hh => by
    have e1 : ixA (.dict (toldD b L)) (enc h) = some (.list ((stepsOf b h).map enc)) := told_ix hh
    have e2 : notInA (enc h) (.list (es.map enc)) = some (!decide (h ∈ es)) := by
      unfold notInA
      rw [in_listA es h (by decide)]
      exact congrArg (fun c => some (!c)) (decide_eq_decide.mpr Iff.rfl)
    by_cases hc : h ∈ es
    · rw [decide_eq_true hc] at e2
      simp? [order_in_g3, order_in_t3, order_in_e3, e1, e2, hc]
    · rw [decide_eq_false hc] at e2
      simp? [order_in_g3, order_in_t3, order_in_e3, e1, e2, hc])]
  simp? []
theorem oi_step (hb : WorldOk b n) {L found : List Word} (hL : LeftOk b n L) (hf : found.length ≤ 100) (a0 a3 : Sl) :
    (ends (stepsOf b) L = [] → ∃ ρ, order_in_w1 [a0, .fr (.list (found.map enc)), .fr (.dict (toldD b L)), a3, .un, .un] = .rt .none ρ) ∧
    (ends (stepsOf b) L ≠ [] → ∃ b3, order_in_w1 [a0, .fr (.list (found.map enc)), .fr (.dict (toldD b L)), a3, .un, .un] = .nx [a0, .fr (.list ((found ++ sortA (ends (stepsOf b) L)).map enc)), .fr (.dict (toldD b (remn (stepsOf b) L))), b3, .un, .un]) := by
  have hS : 16000000 ≤ sizeLine := by decide
  have hLf := hL.few hb
  obtain ⟨es, hes⟩ : ∃ es, ends (stepsOf b) L = es := ⟨_, rfl⟩
  have hE := oi_ends hb hL a0 (.fr (.list (found.map enc))) a3
  rw [hes] at hE
  have hsub : es.Sublist L := by rw [← hes]; exact List.filter_sublist ..
  have hel : es.length ≤ 81 := Nat.le_trans hsub.length_le hLf
  have hR := oi_rest hb hL hel a0 (.fr (.list ((found ++ sortA es).map enc)))
  have hrs : (L.filter fun h => !decide (h ∈ es)) = remn (stepsOf b) L := by rw [← hes]; exact remn_any _
  rw [hrs] at hR
  have hrn : (remn (stepsOf b) L).Nodup := hL.nd.sublist (List.filter_sublist ..)
  obtain ⟨m1, hm1⟩ : ∃ m : M Sl, m = lcF [4] (keysI (nameE 2)) order_in_g2 order_in_t2 order_in_e2 := ⟨_, rfl⟩
  obtain ⟨m2, hm2⟩ : ∃ m : M Sl, m = lcF [4] (keysI (nameE 2)) order_in_g3 order_in_t3 order_in_e3 := ⟨_, rfl⟩
  rw [← hm1] at hE
  rw [← hm2] at hR
  refine ⟨fun h0 => ?_, fun h0 => ?_⟩
  · rw [hes] at h0
    subst h0
    have e2 : eqB (.list []) (.list []) = some true := eqB_nil (α := Word) [] (by decide)
    unfold order_in_w1
    rw [← hm1, ← hm2]
    simp? [hE, e2]
    exact ⟨_, rfl⟩
  · rw [hes] at h0 ⊢
    have e2 : eqB (.list (es.map enc)) (.list []) = some false := by
      rw [eqB_nil (α := Word) es (by decide)]
      cases es with
      | nil => exact absurd rfl h0
      | cons x r => rfl
    have hso : sortOk (es.map enc) = true := sort_words (n := n) (hL.nd.sublist hsub) fun w hw => (hL.wok w (hsub.subset hw)).len
    have e3 : sortC [.list (es.map enc)] = some ((sortA es).map enc) := by
      show (if sortOk (es.map enc) = true then some (sortD (es.map enc)) else none) = _
      rw [if_pos hso, sortD_map]
    have hsl : (sortA es).length = es.length := (sortA_perm es).length_eq
    have e4 : addL (.list (found.map enc)) (.list ((sortA es).map enc)) = some ((found ++ sortA es).map enc) := addL_enc (by omega)
    have e5 : mkPairs ((remn (stepsOf b) L).map fun h => PyData.tuple [enc h, gL (stepsOf b h)]) [] = some (toldD b (remn (stepsOf b) L)) := by
      have := mkPairs_encV gL (by decide) (toldOf b (remn (stepsOf b) L)) [] (by rw [List.nil_append, told_keys]; exact hrn)
      rw [List.nil_append] at this
      refine Eq.trans ?_ this
      unfold toldOf
      rw [List.map_map]
      rfl
    unfold order_in_w1
    rw [← hm1, ← hm2]
    simp? [hE, e2, e3, e4, hR, e5]
    exact ⟨_, rfl⟩
def ordRt (d0 : PyData) : Option (List Word) → Fl → Prop
  | none, fl => ∃ ρ, fl = .rt .none ρ
  | some o, fl => ∃ a2 a3, fl = .nx [.fr d0, .fr (.list (o.map enc)), a2, a3, .un, .un]
def layD (o : Option (List Word)) : PyData := match o with
  | none => .none
  | some l => .list (l.map enc)
theorem order_in_ok (hb : WorldOk b n) {keys : List Word} (hk : LeftOk b n keys) : f_order_in none [.dict (toldD b keys)] = .ok (layD (lays (stepsOf b) sortA keys.length keys)) none := by
  have hS : 16000000 ≤ sizeLine := by decide
  have hf := hk.few hb
  have hd : ∀ ρ : List Sl, rdB (.sl 0) ρ = some (.dict (toldD b keys)) → dictB (.sl 0) ρ = some (toldD b keys) := fun ρ e => dictB_encV gL isTup_list e (by have := told_len b keys; rw [encV_len] at this; omega)
  have hap : apartB (toldD b keys) = true := apart_words gL hb.n4 (by rw [told_keys]; exact hk.nd) (by rw [told_keys]; exact fun w hw => (hk.wok w hw).mono hb.hi)
  obtain ⟨r, hr⟩ : ∃ r, lays (stepsOf b) sortA keys.length keys = r := ⟨_, rfl⟩
  rw [hr]
  have key : ordRt (.dict (toldD b keys)) r (whileS order_in_c1 order_in_w1 [.fr (.dict (toldD b keys)), .fr (.list []), .fr (.dict (toldD b keys)), .un, .un, .un]) := by
    refine while_inv (fun (p : List Word × List Word × Nat) ρ => LeftOk b n p.2.1 ∧ p.2.1.length ≤ p.2.2 ∧ p.1.length + p.2.1.length ≤ 81 ∧ r = (lays (stepsOf b) sortA p.2.2 p.2.1).map (p.1 ++ ·) ∧ ∃ a3, ρ = [.fr (.dict (toldD b keys)), .fr (.list (p.1.map enc)), .fr (.dict (toldD b p.2.1)), a3, .un, .un]) (fun p => p.2.1.length)
      (ordRt (.dict (toldD b keys)) r) ?_ 100 ([], keys, keys.length) _ (by dsimp only; omega) ⟨hk, Nat.le_refl _, by simpa using hf, by rw [hr]; simp, _, rfl⟩
    rintro ⟨found, L, m⟩ ρ ⟨hL, hm, hz, hrl, a3, rfl⟩
    dsimp only at hL hm hz hrl ⊢
    have hok : keysOk (toldD b L) = true := told_ok b L
    have hne : neKB (.dict (toldD b L)) (.dict []) = some (!(toldD b L).isEmpty) := neK_enc hok
    by_cases h0 : L = []
    · subst h0
      have : r = some found := by
        rw [hrl]
        cases m <;> simp [lays]
      rw [this]
      refine .inl ⟨[.fr (.dict (toldD b keys)), .fr (.list (found.map enc)), .fr (.dict (toldD b [])), a3, .un, .un], ?_, _, _, rfl⟩
      have hne : neKB (.dict (toldD b [])) (.dict []) = some false := hne
      unfold order_in_c1
      simp? [hne]
    · have hne : neKB (.dict (toldD b L)) (.dict []) = some true := by
        rw [hne]
        cases L with
        | nil => exact absurd rfl h0
        | cons x L => rfl
      have hc : order_in_c1 [.fr (.dict (toldD b keys)), .fr (.list (found.map enc)), .fr (.dict (toldD b L)), a3, .un, .un] = .ok true [.fr (.dict (toldD b keys)), .fr (.list (found.map enc)), .fr (.dict (toldD b L)), a3, .un, .un] := by
        unfold order_in_c1
        simp? [hne]
      cases m with
      | zero => exact absurd (List.length_eq_zero_iff.mp (Nat.le_zero.mp hm)) h0
      | succ m =>
        obtain ⟨s1, s2⟩ := oi_step hb hL (found := found) (by omega) (.fr (.dict (toldD b keys))) a3
        rw [lays, if_neg h0] at hrl
        by_cases he : ends (stepsOf b) L = []
        · rw [if_pos he] at hrl
          rw [hrl]
          obtain ⟨ρ2, e⟩ := s1 he
          exact .inr (.inr (.inl ⟨_, _, _, hc, e, _, rfl⟩))
        · rw [if_neg he] at hrl
          obtain ⟨b3, e⟩ := s2 he
          have hlt := remn_lt he
          have hsl : (sortA (ends (stepsOf b) L)).length = (ends (stepsOf b) L).length := (sortA_perm _).length_eq
          have hpart := part_len (s := stepsOf b) hL.nd
          refine .inr (.inl ⟨_, _, (found ++ sortA (ends (stepsOf b) L), remn (stepsOf b) L, m), hc, .inl e, ⟨hL.sub (List.filter_sublist ..), by dsimp only; omega, by dsimp only; rw [List.length_append]; omega, ?_, _, rfl⟩, hlt⟩)
          dsimp only
          rw [hrl, Option.map_map]
          congr 1
          funext l
          exact (List.append_assoc ..).symm
  unfold f_order_in
  simp? []
  rw [hd _ (by simp? [])]
  simp? [hap]
  cases r with
  | none =>
    obtain ⟨ρ, e⟩ := key
    rw [e]
    simp? []
    rfl
  | some o =>
    obtain ⟨a2, a3, e⟩ := key
    rw [e]
    simp? []
    rfl
end
end L2.Mx
set_option Elab.async false
set_option linter.all false
set_option maxRecDepth 100000
set_option maxHeartbeats 2000000
namespace L2.Mx
open PySem L2.Sc L2.Sm
open Enc
open L2.Gr
local macro_rules
  | `(tactic| simp? [$ls,*]) => `(tactic| simp only [argSl_none, Res.bind_ok, Res.bind_err, Res.bind_stuck, Res.bind_ite, Res.st_ok, Res.st_err, Res.st_stuck, Res.st_ite, Fl.seq_nx, Fl.seq_rt, Fl.seq_bk, Fl.seq_ct, Fl.seq_er, Fl.seq_stuck, Fl.seq_ite, bind_ap, pure_ap, fail_ap, ofO_some, ofO_none, runB_ap, runF_nx, runF_rt, runF_er, runF_nxR, runF_rtR, runF_erR, runF_ite, argSl_some, ite_ap, iteM_ap, skip_ap, seq_ap, drop_ap, ret_ap, retN_ap, if_ap, set_ap, setF_ap, brk_ap, cont_ap, never_ap, app_ap, appK_ap, put_ap, putKk_ap, putKd_ap, putKl_ap, aug_ap, for_ap, asg_ap, nameB_ap, nameE_ap, c_ap, bv_ap, fr_ap, frz_ol, frz_od, nilA_ap, consA_ap, nilB_ap, consB_ap, tup_ap, lst_ap, opR_ap, opF_ap, opT_ap, op2_ap, op2F_ap, op2T_ap, op1_ap, toT_ap, andT_ap, orT_ap, notT_ap, andV_ap, orV_ap, notV_ap, ifM_ap, callE_ap, callF_ap, callS_ap, callR_ap, lcF_ap, yes_ap, noO_ap, someO_ap, slE_ap, slF_ap, slR_ap, slFR_ap, chainV_ap, chainT_ap, par_ap, nilP_ap, consE_ap, consF_ap, new_ap, dict1_ap, isi_ap, isi2_ap, seqI_ap, enumI_ap, range1_ap, range2_ap, zipI_ap, rev_ap, keysI_ap, get_ap, getK0_ap, getK1_ap, sumVals_ap, keysSort_ap, lstRg_ap, len_list, len_tuple, len_scr, tupC_list, tupC_tuple, lstC_list, lstC_tuple, intC_int, intC_bool, max2_int, min2_int, abs_int, sum_list, sum_tuple, add_int, sub_int, neg_int, isN_none, isN_int, isN_tuple, isN_list, isN_bool, isN_str, forT, lcT, nameG, nilG, consG, tupG, rowOf, rdB, Sl.val, Sl.lget, Sl.lput, rdBs, Sl.mut, setsR, wipeR, backR, keepFr, isTy, notNoneB, eqB_int, neB_int, eqB_bool, neB_bool, ltB_int, gtB_int, leB_int, geB_int, List.map_cons, List.map_nil, List.replicate_succ, List.replicate_zero, List.cons_append, List.nil_append, List.append_nil, List.getElem?_cons_zero, List.getElem?_cons_succ, List.set_cons_zero, List.set_cons_succ, Option.map_some, Option.map_none, Option.bind_some, Option.bind_none, List.length_cons, List.length_nil, List.length_map, Bool.not_true, Bool.not_false, Bool.or_true, Bool.true_or, Bool.or_false, Bool.false_or, Bool.and_true, Bool.and_false, Bool.true_and, Bool.false_and, if_true, if_false, reduceCtorEq, Bool.false_eq_true, Bool.not_eq_true, decide_eq_true_eq, ix_t0, ix_t1, ix_t2, ix_t3, ix_l0, ix_l1, ix_l2, ix_l3, cast0, cast1, cast2, cast3, cast4, cast5, ixN40, ixN41, ixN42, ixN43, and_self, and_true, true_and, and_false, false_and, Nat.reduceLT, Nat.reduceLeDiff, eq_self, decide_true, decide_false, Nat.zero_add, Nat.reduceAdd, keysF_ap, onKeys, dcopyF_ap, onCopy, dpairsF_ap, onPairs, raise_ap, try_ap, onTry_nx, onTry_er, uns_rt, uns_nx, $ls,*])
theorem list_in (xs : List Word) (x : Word) : inA (enc x) (.list (xs.map enc)) = some (decide (x ∈ xs)) := (in_listA xs x (by decide)).trans (congrArg some (decide_eq_decide.mpr Iff.rfl))
theorem list_notIn (xs : List Word) (x : Word) : notInA (enc x) (.list (xs.map enc)) = some (!decide (x ∈ xs)) := by
  unfold notInA
  rw [list_in]
  rfl
section
variable {b : Book} {n : Nat}
theorem ll_in (hb : WorldOk b n) {keys L : List Word} (hL : LeftOk b n L) {h : Word} (hh : h ∈ L) (hk : h ∈ keys) (a1 a3 : Sl) : lcF [5] (seqI (op2 (nameB 0) (nameB 4) ixA)) _law_layers_g1 _law_layers_t1 _law_layers_e1 [.fr (.dict (toldD b keys)), a1, .fr (.list (L.map enc)), a3, .fr (enc h), .un] =
    .ok (.ol (((stepsOf b h).filter fun t => decide (t ∈ L)).map enc)) [.fr (.dict (toldD b keys)), a1, .fr (.list (L.map enc)), a3, .fr (enc h), .un] := by
  have hS : 16000000 ≤ sizeLine := by decide
  have e1 : ixA (.dict (toldD b keys)) (enc h) = some (.list ((stepsOf b h).map enc)) := told_ix hk
  have hsf := steps_few hb (hL.wok h hh)
  simp? [e1]
  rw [lcL_pure (enc : Word → PyData) (fun t => decide (t ∈ L)) (enc : Word → PyData) (stepsOf b h) [] (by simp; omega) (fun t ht => by
    have e2 := list_in L t
    by_cases hc : t ∈ L
    · rw [decide_eq_true hc] at e2
      simp? [_law_layers_g1, _law_layers_t1, _law_layers_e1, e2, hc]
    · rw [decide_eq_false hc] at e2
      simp? [_law_layers_g1, _law_layers_t1, _law_layers_e1, e2, hc])]
  simp? []
theorem ll_ends (hb : WorldOk b n) {keys L : List Word} (hL : LeftOk b n L) (hk : ∀ h ∈ L, h ∈ keys) (a1 a3 : Sl) : lcF [4] (seqI (nameE 2)) _law_layers_g2 _law_layers_t2 _law_layers_e2 [.fr (.dict (toldD b keys)), a1, .fr (.list (L.map enc)), a3, .un, .un] =
    .ok (.ol ((ends (stepsOf b) L).map enc)) [.fr (.dict (toldD b keys)), a1, .fr (.list (L.map enc)), a3, .un, .un] := by
  have hS : 16000000 ≤ sizeLine := by decide
  have hf := hL.few hb
  simp? []
  rw [lcL_pure (enc : Word → PyData) (fun h => ((stepsOf b h).filter fun t => decide (t ∈ L)).isEmpty) (enc : Word → PyData) L [] (by simp; omega) (fun h hh => by
    have e1 := ll_in hb hL hh (hk h hh) a1 a3
    have e2 : eqB (.list (((stepsOf b h).filter fun t => decide (t ∈ L)).map enc)) (.list []) = some ((stepsOf b h).filter fun t => decide (t ∈ L)).isEmpty := eqB_nil (α := Word) _ (by decide)
    obtain ⟨c, hc⟩ : ∃ c, ((stepsOf b h).filter fun t => decide (t ∈ L)).isEmpty = c := ⟨_, rfl⟩
    rw [hc] at e2 ⊢
    unfold lcT _law_layers_t2
    obtain ⟨m, hm⟩ : ∃ m : M Sl, m = lcF [5] (seqI (op2 (nameB 0) (nameB 4) ixA)) _law_layers_g1 _law_layers_t1 _law_layers_e1 := ⟨_, rfl⟩
    rw [← hm] at e1 ⊢
    cases c with
    | true => simp? [_law_layers_g2, _law_layers_e2, e1, e2]
    | false => simp? [_law_layers_g2, _law_layers_e2, e1, e2])]
  simp? []
  rw [ends_any]
theorem ll_rest (hb : WorldOk b n) {L es : List Word} (hL : LeftOk b n L) (a0 a1 : Sl) : lcF [4] (seqI (nameE 2)) _law_layers_g3 _law_layers_t3 _law_layers_e3 [a0, a1, .fr (.list (L.map enc)), .fr (.list (es.map enc)), .un, .un] =
    .ok (.ol ((L.filter fun h => !decide (h ∈ es)).map enc)) [a0, a1, .fr (.list (L.map enc)), .fr (.list (es.map enc)), .un, .un] := by
  have hS : 16000000 ≤ sizeLine := by decide
  have hf := hL.few hb
  simp? []
  rw [lcL_pure (enc : Word → PyData) (fun h => !decide (h ∈ es)) (enc : Word → PyData) L [] (by simp; omega) (fun h hh => by
    have e2 := list_notIn es h
    by_cases hc : h ∈ es
    · rw [decide_eq_true hc] at e2
      simp? [_law_layers_g3, _law_layers_t3, _law_layers_e3, e2, hc]
    · rw [decide_eq_false hc] at e2
      simp? [_law_layers_g3, _law_layers_t3, _law_layers_e3, e2, hc])]
  simp? []
theorem ll_step (hb : WorldOk b n) {keys L found : List Word} (hL : LeftOk b n L) (hk : ∀ h ∈ L, h ∈ keys) (hf : found.length ≤ 100) (a3 : Sl) :
    (ends (stepsOf b) L = [] → ∃ ρ, _law_layers_w1 [.fr (.dict (toldD b keys)), .fr (.list (found.map enc)), .fr (.list (L.map enc)), a3, .un, .un] = .rt .none ρ) ∧
    (ends (stepsOf b) L ≠ [] → ∃ b3, _law_layers_w1 [.fr (.dict (toldD b keys)), .fr (.list (found.map enc)), .fr (.list (L.map enc)), a3, .un, .un] = .nx [.fr (.dict (toldD b keys)), .fr (.list ((found ++ ends (stepsOf b) L).map enc)), .fr (.list ((remn (stepsOf b) L).map enc)), b3, .un, .un]) := by
  have hS : 16000000 ≤ sizeLine := by decide
  have hLf := hL.few hb
  obtain ⟨es, hes⟩ : ∃ es, ends (stepsOf b) L = es := ⟨_, rfl⟩
  have hE := ll_ends hb hL hk (.fr (.list (found.map enc))) a3
  rw [hes] at hE
  have hsub : es.Sublist L := by rw [← hes]; exact List.filter_sublist ..
  have hel : es.length ≤ 81 := Nat.le_trans hsub.length_le hLf
  have hR := ll_rest hb (es := es) hL (.fr (.dict (toldD b keys))) (.fr (.list (found.map enc)))
  have hrs : (L.filter fun h => !decide (h ∈ es)) = remn (stepsOf b) L := by rw [← hes]; exact remn_any _
  rw [hrs] at hR
  obtain ⟨m1, hm1⟩ : ∃ m : M Sl, m = lcF [4] (seqI (nameE 2)) _law_layers_g2 _law_layers_t2 _law_layers_e2 := ⟨_, rfl⟩
  obtain ⟨m2, hm2⟩ : ∃ m : M Sl, m = lcF [4] (seqI (nameE 2)) _law_layers_g3 _law_layers_t3 _law_layers_e3 := ⟨_, rfl⟩
  rw [← hm1] at hE
  rw [← hm2] at hR
  refine ⟨fun h0 => ?_, fun h0 => ?_⟩
  · rw [hes] at h0
    subst h0
    have e2 : eqB (.list []) (.list []) = some true := eqB_nil (α := Word) [] (by decide)
    unfold _law_layers_w1
    rw [← hm1, ← hm2]
    simp? [hE, e2]
    exact ⟨_, rfl⟩
  · rw [hes] at h0 ⊢
    have e2 : eqB (.list (es.map enc)) (.list []) = some false := by
      rw [eqB_nil (α := Word) es (by decide)]
      cases es with
      | nil => exact absurd rfl h0
      | cons x r => rfl
    have e4 : addL (.list (found.map enc)) (.list (es.map enc)) = some ((found ++ es).map enc) := addL_enc (by omega)
    unfold _law_layers_w1
    rw [← hm1, ← hm2]
    simp? [hE, e2, e4, hR]
    exact ⟨_, rfl⟩
theorem layers_ok (hb : WorldOk b n) {keys : List Word} (hk : LeftOk b n keys) : f__law_layers none [.dict (toldD b keys)] = .ok (layD (lays (stepsOf b) id keys.length keys)) none := by
  have hS : 16000000 ≤ sizeLine := by decide
  have hf := hk.few hb
  have hd : ∀ ρ : List Sl, rdB (.sl 0) ρ = some (.dict (toldD b keys)) → dictB (.sl 0) ρ = some (toldD b keys) := fun ρ e => dictB_encV gL isTup_list e (by have := told_len b keys; rw [encV_len] at this; omega)
  obtain ⟨r, hr⟩ : ∃ r, lays (stepsOf b) id keys.length keys = r := ⟨_, rfl⟩
  rw [hr]
  have key : ordRt (.dict (toldD b keys)) r (whileS _law_layers_c1 _law_layers_w1 [.fr (.dict (toldD b keys)), .fr (.list []), .fr (.list (keys.map enc)), .un, .un, .un]) := by
    refine while_inv (fun (p : List Word × List Word × Nat) ρ => (LeftOk b n p.2.1 ∧ ∀ h ∈ p.2.1, h ∈ keys) ∧ p.2.1.length ≤ p.2.2 ∧ p.1.length + p.2.1.length ≤ 81 ∧ r = (lays (stepsOf b) id p.2.2 p.2.1).map (p.1 ++ ·) ∧ ∃ a3, ρ = [.fr (.dict (toldD b keys)), .fr (.list (p.1.map enc)), .fr (.list (p.2.1.map enc)), a3, .un, .un]) (fun p => p.2.1.length)
      (ordRt (.dict (toldD b keys)) r) ?_ 100 ([], keys, keys.length) _ (by dsimp only; omega) ⟨⟨hk, fun _ h => h⟩, Nat.le_refl _, by simpa using hf, by rw [hr]; simp, _, rfl⟩
    rintro ⟨found, L, m⟩ ρ ⟨⟨hL, hin⟩, hm, hz, hrl, a3, rfl⟩
    dsimp only at hL hin hm hz hrl ⊢
    by_cases h0 : L = []
    · subst h0
      have : r = some found := by
        rw [hrl]
        cases m <;> simp [lays]
      rw [this]
      refine .inl ⟨[.fr (.dict (toldD b keys)), .fr (.list (found.map enc)), .fr (.list []), a3, .un, .un], ?_, _, _, rfl⟩
      have hne : neB (.list []) (.list []) = some false := neB_nil (α := Word) [] (by decide)
      unfold _law_layers_c1
      simp? [hne]
    · have hne : neB (.list (L.map enc)) (.list []) = some true := by
        rw [neB_nil (α := Word) L (by decide)]
        cases L with
        | nil => exact absurd rfl h0
        | cons x L => rfl
      have hc : _law_layers_c1 [.fr (.dict (toldD b keys)), .fr (.list (found.map enc)), .fr (.list (L.map enc)), a3, .un, .un] = .ok true [.fr (.dict (toldD b keys)), .fr (.list (found.map enc)), .fr (.list (L.map enc)), a3, .un, .un] := by
        unfold _law_layers_c1
        simp? [hne]
      cases m with
      | zero => exact absurd (List.length_eq_zero_iff.mp (Nat.le_zero.mp hm)) h0
      | succ m =>
        obtain ⟨s1, s2⟩ := ll_step hb hL hin (found := found) (by omega) a3
        rw [lays, if_neg h0] at hrl
        by_cases he : ends (stepsOf b) L = []
        · rw [if_pos he] at hrl
          rw [hrl]
          obtain ⟨ρ2, e⟩ := s1 he
          exact .inr (.inr (.inl ⟨_, _, _, hc, e, _, rfl⟩))
        · rw [if_neg he] at hrl
          obtain ⟨b3, e⟩ := s2 he
          have hlt := remn_lt he
          have hpart := part_len (s := stepsOf b) hL.nd
          refine .inr (.inl ⟨_, _, (found ++ ends (stepsOf b) L, remn (stepsOf b) L, m), hc, .inl e, ⟨⟨hL.sub (List.filter_sublist ..), fun h hh => hin h (remn_mem.mp hh).1⟩, by dsimp only; omega, by dsimp only; rw [List.length_append]; omega, ?_, _, rfl⟩, hlt⟩)
          dsimp only
          rw [hrl, Option.map_map]
          congr 1
          funext l
          exact (List.append_assoc ..).symm
  unfold f__law_layers
  simp? []
  rw [hd _ (by simp? [])]
  simp? []
  rw [encV_keys, told_keys]
  cases r with
  | none =>
    obtain ⟨ρ, e⟩ := key
    rw [e]
    simp? []
    rfl
  | some o =>
    obtain ⟨a2, a3, e⟩ := key
    rw [e]
    simp? []
    rfl
end
end L2.Mx
set_option Elab.async false
set_option linter.all false
set_option maxRecDepth 100000
set_option maxHeartbeats 2000000
namespace L2.Mx
open PySem L2.Sc L2.Sm
open Enc
local macro_rules
  | `(tactic| simp? [$ls,*]) => `(tactic| simp only [argSl_none, Res.bind_ok, Res.bind_err, Res.bind_stuck, Res.bind_ite, Res.st_ok, Res.st_err, Res.st_stuck, Res.st_ite, Fl.seq_nx, Fl.seq_rt, Fl.seq_bk, Fl.seq_ct, Fl.seq_er, Fl.seq_stuck, Fl.seq_ite, bind_ap, pure_ap, fail_ap, ofO_some, ofO_none, runB_ap, runF_nx, runF_rt, runF_er, runF_nxR, runF_rtR, runF_erR, runF_ite, argSl_some, ite_ap, iteM_ap, skip_ap, seq_ap, drop_ap, ret_ap, retN_ap, if_ap, set_ap, setF_ap, brk_ap, cont_ap, never_ap, app_ap, appK_ap, put_ap, putKk_ap, putKd_ap, putKl_ap, aug_ap, for_ap, asg_ap, nameB_ap, nameE_ap, c_ap, bv_ap, fr_ap, frz_ol, frz_od, nilA_ap, consA_ap, nilB_ap, consB_ap, tup_ap, lst_ap, opR_ap, opF_ap, opT_ap, op2_ap, op2F_ap, op2T_ap, op1_ap, toT_ap, andT_ap, orT_ap, notT_ap, andV_ap, orV_ap, notV_ap, ifM_ap, callE_ap, callF_ap, callS_ap, callR_ap, lcF_ap, yes_ap, noO_ap, someO_ap, slE_ap, slF_ap, slR_ap, slFR_ap, chainV_ap, chainT_ap, par_ap, nilP_ap, consE_ap, consF_ap, new_ap, dict1_ap, isi_ap, isi2_ap, seqI_ap, enumI_ap, range1_ap, range2_ap, zipI_ap, rev_ap, keysI_ap, get_ap, getK0_ap, getK1_ap, sumVals_ap, keysSort_ap, lstRg_ap, len_list, len_tuple, len_scr, tupC_list, tupC_tuple, lstC_list, lstC_tuple, intC_int, intC_bool, max2_int, min2_int, abs_int, sum_list, sum_tuple, add_int, sub_int, neg_int, isN_none, isN_int, isN_tuple, isN_list, isN_bool, isN_str, forT, lcT, nameG, nilG, consG, tupG, rowOf, rdB, Sl.val, Sl.lget, Sl.lput, rdBs, Sl.mut, setsR, wipeR, backR, keepFr, isTy, notNoneB, eqB_int, neB_int, eqB_bool, neB_bool, ltB_int, gtB_int, leB_int, geB_int, List.map_cons, List.map_nil, List.replicate_succ, List.replicate_zero, List.cons_append, List.nil_append, List.append_nil, List.getElem?_cons_zero, List.getElem?_cons_succ, List.set_cons_zero, List.set_cons_succ, Option.map_some, Option.map_none, Option.bind_some, Option.bind_none, List.length_cons, List.length_nil, List.length_map, Bool.not_true, Bool.not_false, Bool.or_true, Bool.true_or, Bool.or_false, Bool.false_or, Bool.and_true, Bool.and_false, Bool.true_and, Bool.false_and, if_true, if_false, reduceCtorEq, Bool.false_eq_true, Bool.not_eq_true, decide_eq_true_eq, ix_t0, ix_t1, ix_t2, ix_t3, ix_l0, ix_l1, ix_l2, ix_l3, cast0, cast1, cast2, cast3, cast4, cast5, ixN40, ixN41, ixN42, ixN43, and_self, and_true, true_and, and_false, false_and, Nat.reduceLT, Nat.reduceLeDiff, eq_self, decide_true, decide_false, Nat.zero_add, Nat.reduceAdd, $ls,*])
theorem short_ints : ∀ w : List Int, shortAll (w.map (enc : Int → PyData)) = true
  | [] => rfl
  | x :: w => by rw [List.map_cons, shortAll, short_ints w]; rfl
theorem alike8 {d : PyData} (h1 : PyData.canLay0 d = true) (h2 : d.depth ≤ 7) (h3 : shortD d = true) : f__law_alike 8 none [d, d] = .ok (.bool true) none := alike_refl 7 d h1 h2 (by decide) h3
theorem alike_bool (b : Bool) : f__law_alike 8 none [.bool b, .bool b] = .ok (.bool true) none := alike8 rfl (Nat.zero_le _) rfl
theorem alike_int (i : Int) : f__law_alike 8 none [.int i, .int i] = .ok (.bool true) none := alike8 rfl (Nat.zero_le _) rfl
theorem alike_word (w : Word) (h : w.length ≤ 10000) : f__law_alike 8 none [enc w, enc w] = .ok (.bool true) none := by
  refine alike8 (lay w) (Nat.le_trans (Enc.depth w) (by decide)) ?_
  rw [enc_list, shortD, short_ints, decide_eq_true (by simpa using h)]
  rfl
theorem minD_enc {α : Type} [Enc α] : ∀ (xs : List α) (x : α), ∃ y ∈ x :: xs, PySem.W.minD (enc x) (xs.map enc) = enc y
  | [], x => ⟨x, by simp, rfl⟩
  | z :: xs, x => by
    have e : PySem.W.minD (enc x) ((z :: xs).map enc) = PySem.W.minD (if PySem.W.dataLt (enc z) (enc x) = true then enc z else enc x) (xs.map enc) := rfl
    rw [e]
    split
    · obtain ⟨y, h1, h2⟩ := minD_enc xs z
      exact ⟨y, by rcases List.mem_cons.mp h1 with h | h <;> simp [h], h2⟩
    · obtain ⟨y, h1, h2⟩ := minD_enc xs x
      exact ⟨y, by rcases List.mem_cons.mp h1 with h | h <;> simp [h], h2⟩
theorem maxD_enc {α : Type} [Enc α] : ∀ (xs : List α) (x : α), ∃ y ∈ x :: xs, PySem.W.maxD (enc x) (xs.map enc) = enc y
  | [], x => ⟨x, by simp, rfl⟩
  | z :: xs, x => by
    have e : PySem.W.maxD (enc x) ((z :: xs).map enc) = PySem.W.maxD (if PySem.W.dataLt (enc x) (enc z) = true then enc z else enc x) (xs.map enc) := rfl
    rw [e]
    split
    · obtain ⟨y, h1, h2⟩ := maxD_enc xs z
      exact ⟨y, by rcases List.mem_cons.mp h1 with h | h <;> simp [h], h2⟩
    · obtain ⟨y, h1, h2⟩ := maxD_enc xs x
      exact ⟨y, by rcases List.mem_cons.mp h1 with h | h <;> simp [h], h2⟩
theorem mmOk_enc {α : Type} [Enc α] (xs : List α) (h : dep α ≤ 60) : mmOk (xs.map (enc : α → PyData)) = true := by
  refine mmOk_iff.mpr ⟨⟨?_, ?_⟩, canLay_map lay xs, Nat.le_trans (depth_map Enc.depth xs) h⟩
  · intro x hx y hy
    obtain ⟨a, _, rfl⟩ := List.mem_map.mp hx
    obtain ⟨b, _, rfl⟩ := List.mem_map.mp hy
    exact alike a b
  · intro x hx
    obtain ⟨a, _, rfl⟩ := List.mem_map.mp hx
    exact nn a
theorem mm_list {α : Type} [Enc α] (pick : PyData → List PyData → PyData) (x : α) (xs : List α) (h : dep α ≤ 60) : mmC pick [.list ((x :: xs).map enc)] = some (pick (enc x) (xs.map enc)) := by
  show (if mmOk (enc x :: xs.map enc) = true then some (pick (enc x) (xs.map enc)) else none) = _
  exact if_pos (mmOk_enc (x :: xs) h)
theorem mm_tuple {α : Type} [Enc α] (pick : PyData → List PyData → PyData) (x : α) (xs : List α) (h : dep α ≤ 60) : mmC pick [enc (x :: xs)] = some (pick (enc x) (xs.map enc)) := by
  show (if mmOk (enc x :: xs.map enc) = true then some (pick (enc x) (xs.map enc)) else none) = _
  exact if_pos (mmOk_enc (x :: xs) h)
end L2.Mx
set_option Elab.async false
set_option linter.all false
set_option maxRecDepth 100000
set_option maxHeartbeats 2000000
namespace L2.Mx
open PySem L2.Sc L2.Sm
open Enc
open L2.Gr
local macro_rules
  | `(tactic| simp? [$ls,*]) => `(tactic| simp only [argSl_none, Res.bind_ok, Res.bind_err, Res.bind_stuck, Res.bind_ite, Res.st_ok, Res.st_err, Res.st_stuck, Res.st_ite, Fl.seq_nx, Fl.seq_rt, Fl.seq_bk, Fl.seq_ct, Fl.seq_er, Fl.seq_stuck, Fl.seq_ite, bind_ap, pure_ap, fail_ap, ofO_some, ofO_none, runB_ap, runF_nx, runF_rt, runF_er, runF_nxR, runF_rtR, runF_erR, runF_ite, argSl_some, ite_ap, iteM_ap, skip_ap, seq_ap, drop_ap, ret_ap, retN_ap, if_ap, set_ap, setF_ap, brk_ap, cont_ap, never_ap, app_ap, appK_ap, put_ap, putKk_ap, putKd_ap, putKl_ap, aug_ap, for_ap, asg_ap, nameB_ap, nameE_ap, c_ap, bv_ap, fr_ap, frz_ol, frz_od, nilA_ap, consA_ap, nilB_ap, consB_ap, tup_ap, lst_ap, opR_ap, opF_ap, opT_ap, op2_ap, op2F_ap, op2T_ap, op1_ap, toT_ap, andT_ap, orT_ap, notT_ap, andV_ap, orV_ap, notV_ap, ifM_ap, callE_ap, callF_ap, callS_ap, callR_ap, lcF_ap, yes_ap, noO_ap, someO_ap, slE_ap, slF_ap, slR_ap, slFR_ap, chainV_ap, chainT_ap, par_ap, nilP_ap, consE_ap, consF_ap, new_ap, dict1_ap, isi_ap, isi2_ap, seqI_ap, enumI_ap, range1_ap, range2_ap, zipI_ap, rev_ap, keysI_ap, get_ap, getK0_ap, getK1_ap, sumVals_ap, keysSort_ap, lstRg_ap, len_list, len_tuple, len_scr, tupC_list, tupC_tuple, lstC_list, lstC_tuple, intC_int, intC_bool, max2_int, min2_int, abs_int, sum_list, sum_tuple, add_int, sub_int, neg_int, isN_none, isN_int, isN_tuple, isN_list, isN_bool, isN_str, forT, lcT, nameG, nilG, consG, tupG, rowOf, rdB, Sl.val, Sl.lget, Sl.lput, rdBs, Sl.mut, setsR, wipeR, backR, keepFr, isTy, notNoneB, eqB_int, neB_int, eqB_bool, neB_bool, ltB_int, gtB_int, leB_int, geB_int, List.map_cons, List.map_nil, List.replicate_succ, List.replicate_zero, List.cons_append, List.nil_append, List.append_nil, List.getElem?_cons_zero, List.getElem?_cons_succ, List.set_cons_zero, List.set_cons_succ, Option.map_some, Option.map_none, Option.bind_some, Option.bind_none, List.length_cons, List.length_nil, List.length_map, Bool.not_true, Bool.not_false, Bool.or_true, Bool.true_or, Bool.or_false, Bool.false_or, Bool.and_true, Bool.and_false, Bool.true_and, Bool.false_and, if_true, if_false, reduceCtorEq, Bool.false_eq_true, Bool.not_eq_true, decide_eq_true_eq, ix_t0, ix_t1, ix_t2, ix_t3, ix_l0, ix_l1, ix_l2, ix_l3, cast0, cast1, cast2, cast3, cast4, cast5, ixN40, ixN41, ixN42, ixN43, and_self, and_true, true_and, and_false, false_and, Nat.reduceLT, Nat.reduceLeDiff, eq_self, decide_true, decide_false, Nat.zero_add, Nat.reduceAdd, keysF_ap, onKeys, dcopyF_ap, onCopy, dpairsF_ap, onPairs, raise_ap, try_ap, onTry_nx, onTry_er, uns_rt, uns_nx, $ls,*])
abbrev Val := List (Word × Int)
def atV (m : Val) (w : Word) : Int := (getA m w).getD 0
def valStep (s : Word → List Word) (m : Val) (h : Word) : Val := m ++ [(h, hgt s (atV m) h)]
structure ValOk (s : Word → List Word) (m : Val) : Prop where
  nd : (m.map (·.1)).Nodup
  clo : ∀ h ∈ m.map (·.1), ∀ t ∈ s h, t ∈ m.map (·.1)
  eq : ∀ h ∈ m.map (·.1), atV m h = hgt s (atV m) h
theorem atV_old {m : Val} {h t : Word} {v : Int} (ht : t ∈ m.map (·.1)) : atV (m ++ [(h, v)]) t = atV m t := by
  unfold atV
  rw [getA_append, if_pos ht]
theorem atV_new {m : Val} {h : Word} {v : Int} (hh : h ∉ m.map (·.1)) : atV (m ++ [(h, v)]) h = v := by
  unfold atV
  rw [getA_append, if_neg hh, getA_cons', if_pos rfl]
  rfl
theorem hgt_congr {s : Word → List Word} {f g : Word → Int} {h : Word} (e : ∀ t ∈ s h, f t = g t) : hgt s f h = hgt s g h := by
  unfold hgt
  rw [List.map_congr_left e]
theorem ValOk.step {s : Word → List Word} {m : Val} {h : Word} (ok : ValOk s m) (hh : h ∉ m.map (·.1)) (hs : ∀ t ∈ s h, t ∈ m.map (·.1)) : ValOk s (valStep s m h) := by
  have hm : (valStep s m h).map (·.1) = m.map (·.1) ++ [h] := by unfold valStep; rw [List.map_append]; rfl
  refine ⟨?_, ?_, ?_⟩
  · rw [hm, List.nodup_append]
    refine ⟨ok.nd, by simp, fun a ha b hb => ?_⟩
    have : b = h := by simpa using hb
    rw [this]
    exact fun e => hh (e ▸ ha)
  · rw [hm]
    intro x hx t ht
    rcases List.mem_append.mp hx with hx | hx
    · exact List.mem_append_left _ (ok.clo x hx t ht)
    · have : x = h := by simpa using hx
      rw [this] at ht
      exact List.mem_append_left _ (hs t ht)
  · rw [hm]
    intro x hx
    unfold valStep
    rcases List.mem_append.mp hx with hx | hx
    · rw [atV_old hx, ok.eq x hx]
      exact hgt_congr fun t ht => (atV_old (ok.clo x hx t ht)).symm
    · have : x = h := by simpa using hx
      subst this
      rw [atV_new hh]
      exact hgt_congr fun t ht => (atV_old (hs t ht)).symm
theorem val_fold {s : Word → List Word} : ∀ {o : List Word} {m : Val} {dn : List Word}, ValOk s m → (∀ x, x ∈ dn ↔ x ∈ m.map (·.1)) → Ready s dn o → (∀ x ∈ o, x ∉ m.map (·.1)) → o.Nodup → ValOk s (o.foldl (valStep s) m) ∧ (o.foldl (valStep s) m).map (·.1) = m.map (·.1) ++ o
  | [], m, dn, ok, _, _, _, _ => ⟨ok, by simp⟩
  | h :: o, m, dn, ok, hd, r, hn, nd => by
    have hm : (valStep s m h).map (·.1) = m.map (·.1) ++ [h] := by unfold valStep; rw [List.map_append]; rfl
    have hh := hn h List.mem_cons_self
    have ok2 := ok.step hh fun t ht => (hd t).mp (r.1 t ht)
    rw [List.nodup_cons] at nd
    obtain ⟨h1, h2⟩ := val_fold (o := o) (m := valStep s m h) (dn := h :: dn) ok2 (fun x => by rw [hm, List.mem_append, List.mem_cons, hd]; simp [or_comm]) r.2 (fun x hx => by
      rw [hm, List.mem_append]
      rintro (z | z)
      · exact hn x (List.mem_cons_of_mem _ hx) z
      · have : x = h := by simpa using z
        exact nd.1 (this ▸ hx)) nd.2
    exact ⟨h1, by rw [List.foldl_cons, h2, hm, List.append_assoc]; rfl⟩
/-- what both loops make of an order -/
def valOf (b : Book) (o : List Word) : Val := o.foldl (valStep (stepsOf b)) []
theorem val_ok {b : Book} {keys o : List Word} (h : LayOk (stepsOf b) keys [] o) : ValOk (stepsOf b) (valOf b o) ∧ (valOf b o).map (·.1) = o := by
  have := val_fold (s := stepsOf b) (o := o) (m := []) (dn := []) ⟨List.nodup_nil, fun h hh => (by cases hh), fun h hh => (by cases hh)⟩ (fun x => Iff.rfl) h.rdy (fun x _ z => by cases z) h.nd
  refine ⟨this.1, ?_⟩
  have h2 := this.2
  rw [List.map_nil, List.nil_append] at h2
  exact h2
/-- the value of a word is the same by any two orders -/
theorem val_same {b : Book} {keys keys' o o' : List Word} (h : LayOk (stepsOf b) keys [] o) (h' : LayOk (stepsOf b) keys' [] o') (e : ∀ x, x ∈ keys ↔ x ∈ keys') {w : Word} (hw : w ∈ keys) : getA (valOf b o) w = getA (valOf b o') w := by
  obtain ⟨a1, a2⟩ := val_ok h
  obtain ⟨c1, c2⟩ := val_ok h'
  have hio : ∀ x, x ∈ o ↔ x ∈ o' := fun x => by rw [h.mem, e, h'.mem]
  have key := hgt_same (f := atV (valOf b o)) (g := atV (valOf b o')) h.rdy (fun x hx => a1.eq x (by rw [a2]; exact hx)) (fun x hx => c1.eq x (by rw [c2]; exact (hio x).mp hx)) (fun x hx => by cases hx) w ((h.mem w).mpr hw)
  have s1 : (getA (valOf b o) w).isSome = true := getA_isSome_iff.mpr (by rw [a2]; exact (h.mem w).mpr hw)
  have s2 : (getA (valOf b o') w).isSome = true := getA_isSome_iff.mpr (by rw [c2]; exact (hio w).mp ((h.mem w).mpr hw))
  obtain ⟨x, hx⟩ := Option.isSome_iff_exists.mp s1
  obtain ⟨y, hy⟩ := Option.isSome_iff_exists.mp s2
  unfold atV at key
  rw [hx, hy] at key ⊢
  exact congrArg some key
section
variable {b : Book} {n : Nat}
theorem max_list (ns : List Int) : mmC PySem.W.maxD [.list ((enc (-1 : Int) : PyData) :: ns.map enc)] = some (.int (ns.foldl max (-1))) := by
  exact (mm_list PySem.W.maxD (-1 : Int) ns (by decide)).trans (congrArg some (PySem.W.maxD_ints (-1) ns))
theorem atV_some {m : Val} {t : Word} (h : t ∈ m.map (·.1)) : getA m t = some (atV m t) := by
  have s : (getA m t).isSome = true := getA_isSome_iff.mpr h
  obtain ⟨x, hx⟩ := Option.isSome_iff_exists.mp s
  unfold atV
  rw [hx]
  rfl
theorem lg_b1 (hb : WorldOk b n) {keys : List Word} {m : Val} {h : Word} (hw : WOk b.1 n h) (hk : h ∈ keys) (hh : h ∉ m.map (·.1)) (hs : ∀ t ∈ stepsOf b h, t ∈ m.map (·.1)) (hz : m.length ≤ 100) (a0 a1 a3 a5 : Sl) :
    forT longest_g2 longest_b1 (enc h) [a0, a1, .fr (.dict (toldD b keys)), a3, .od (encK m), a5, .un] = .nx [a0, a1, .fr (.dict (toldD b keys)), a3, .od (encK (valStep (stepsOf b) m h)), .fr (enc h), .un] := by
  have hS : 16000000 ≤ sizeLine := by decide
  have hsf := steps_few hb hw
  have e1 : ixA (.dict (toldD b keys)) (enc h) = some (.list ((stepsOf b h).map enc)) := told_ix hk
  have e2 : addL (.list [.int (-1)]) (.list ((stepsOf b h).map fun t => PyData.int (atV m t))) = some (((-1 : Int) :: (stepsOf b h).map (atV m)).map enc) := by
    have := addL_enc (xs := [(-1 : Int)]) (ys := (stepsOf b h).map (atV m)) (by rw [List.length_map, List.length_singleton]; omega)
    rw [List.map_map] at this
    exact this
  have e3 := max_list ((stepsOf b h).map (atV m))
  have hl : (encK m).length < sizeLine := by rw [encK_len]; omega
  have hv : (((stepsOf b h).map (atV m)).foldl max (-1)) + 1 = hgt (stepsOf b) (atV m) h := rfl
  have e5 : Sc.putK (encK m) (key h) (enc h) (.int (hgt (stepsOf b) (atV m) h)) = encK (valStep (stepsOf b) m h) := by
    have := putK_enc m h (hgt (stepsOf b) (atV m) h)
    rw [getA_app_new hh] at this
    exact this
  simp? [longest_g2, longest_b1, e1]
  rw [lcL_map (enc : Word → PyData) (fun t => PyData.int (atV m t)) (stepsOf b h) (by omega) (fun t ht => by
    have e4 : ixA (.dict (encK m)) (enc t) = some (.int (atV m t)) := ix_dict (by decide) (atV_some (hs t ht))
    simp? [longest_g1, longest_e1, e4])]
  simp? [e2, e3, hv, keyOf_enc h (by decide), hl, e5]
theorem lw_b1 (hb : WorldOk b n) {keys : List Word} {m : Val} {h : Word} (hw : WOk b.1 n h) (hk : h ∈ keys) (hh : h ∉ m.map (·.1)) (hs : ∀ t ∈ stepsOf b h, t ∈ m.map (·.1)) (hz : m.length ≤ 100) (a0 a1 a2 a3 a4 a6 a7 a9 a10 a11 : Sl) :
    forT law_g2 law_b1 (enc h) [a0, a1, a2, a3, a4, .fr (.dict (toldD b keys)), a6, a7, .od (encK m), a9, a10, a11, .un] = .nx [a0, a1, a2, a3, a4, .fr (.dict (toldD b keys)), a6, a7, .od (encK (valStep (stepsOf b) m h)), .fr (enc h), a10, a11, .un] := by
  have hS : 16000000 ≤ sizeLine := by decide
  have hsf := steps_few hb hw
  have e1 : ixA (.dict (toldD b keys)) (enc h) = some (.list ((stepsOf b h).map enc)) := told_ix hk
  have e2 : addL (.list [.int (-1)]) (.list ((stepsOf b h).map fun t => PyData.int (atV m t))) = some (((-1 : Int) :: (stepsOf b h).map (atV m)).map enc) := by
    have := addL_enc (xs := [(-1 : Int)]) (ys := (stepsOf b h).map (atV m)) (by rw [List.length_map, List.length_singleton]; omega)
    rw [List.map_map] at this
    exact this
  have e3 := max_list ((stepsOf b h).map (atV m))
  have hl : (encK m).length < sizeLine := by rw [encK_len]; omega
  have hv : (((stepsOf b h).map (atV m)).foldl max (-1)) + 1 = hgt (stepsOf b) (atV m) h := rfl
  have e5 : Sc.putK (encK m) (key h) (enc h) (.int (hgt (stepsOf b) (atV m) h)) = encK (valStep (stepsOf b) m h) := by
    have := putK_enc m h (hgt (stepsOf b) (atV m) h)
    rw [getA_app_new hh] at this
    exact this
  simp? [law_g2, law_b1, e1]
  rw [lcL_map (enc : Word → PyData) (fun t => PyData.int (atV m t)) (stepsOf b h) (by omega) (fun t ht => by
    have e4 : ixA (.dict (encK m)) (enc t) = some (.int (atV m t)) := ix_dict (by decide) (atV_some (hs t ht))
    simp? [law_g1, law_e1, e4])]
  simp? [e2, e3, hv, keyOf_enc h (by decide), hl, e5]
/-- a loop over an order, whose turns are valStep -/
theorem order_loop {g : TgF} {bd : MS} (st : Val → Sl → List Sl) (hb : WorldOk b n) {keys o : List Word} (hk : LeftOk b n keys) (ho : LayOk (stepsOf b) keys [] o)
    (turn : ∀ {m : Val} {h : Word} (a : Sl), WOk b.1 n h → h ∈ keys → h ∉ m.map (·.1) → (∀ t ∈ stepsOf b h, t ∈ m.map (·.1)) → m.length ≤ 100 → forT g bd (enc h) (st m a) = .nx (st (valStep (stepsOf b) m h) (.fr (enc h)))) (a : Sl) :
    ∃ a', forL g bd (o.map enc) (st [] a) = .nx (st (valOf b o) a') := by
  have hlen : o.length ≤ 81 := few_words ⟨hb.lo, hb.hi⟩ hb.n4 ho.nd fun w hw => hk.wok w ((ho.mem w).mp hw)
  have gen : ∀ (p : List Word) (m : Val) (dn : List Word) (a : Sl), m.length + p.length ≤ 81 → ValOk (stepsOf b) m → (∀ x, x ∈ dn ↔ x ∈ m.map (·.1)) → Ready (stepsOf b) dn p → (∀ x ∈ p, x ∉ m.map (·.1)) → p.Nodup → (∀ x ∈ p, x ∈ keys) → ∃ a', forL g bd (p.map enc) (st m a) = .nx (st (p.foldl (valStep (stepsOf b)) m) a') := by
    intro p
    induction p with
    | nil => exact fun m dn a _ _ _ _ _ _ _ => ⟨a, rfl⟩
    | cons h p ih =>
      intro m dn a hz ok hd r hn nd hin
      rw [List.length_cons] at hz
      have hm : (valStep (stepsOf b) m h).map (·.1) = m.map (·.1) ++ [h] := by unfold valStep; rw [List.map_append]; rfl
      have hml : (valStep (stepsOf b) m h).length = m.length + 1 := by unfold valStep; simp
      have hh := hn h List.mem_cons_self
      have hs : ∀ t ∈ stepsOf b h, t ∈ m.map (·.1) := fun t ht => (hd t).mp (r.1 t ht)
      rw [List.nodup_cons] at nd
      have e := turn a (hk.wok h (hin h List.mem_cons_self)) (hin h List.mem_cons_self) hh hs (by omega)
      obtain ⟨a', e2⟩ := ih (valStep (stepsOf b) m h) (h :: dn) (.fr (enc h)) (by omega) (ok.step hh hs) (fun x => by rw [hm, List.mem_append, List.mem_cons, hd]; simp [or_comm]) r.2 (fun x hx => by
        rw [hm, List.mem_append]
        rintro (z | z)
        · exact hn x (List.mem_cons_of_mem _ hx) z
        · have : x = h := by simpa using z
          exact nd.1 (this ▸ hx)) nd.2 fun x hx => hin x (List.mem_cons_of_mem _ hx)
      refine ⟨a', ?_⟩
      rw [List.map_cons, forL_cons, e]
      exact e2
  exact gen o [] [] a (by simpa using hlen) ⟨List.nodup_nil, fun h hh => (by cases hh), fun h hh => (by cases hh)⟩ (fun x => Iff.rfl) ho.rdy (fun x _ z => by cases z) ho.nd fun x hx => (ho.mem x).mp hx
end
end L2.Mx
set_option Elab.async false
set_option linter.all false
set_option maxRecDepth 100000
set_option maxHeartbeats 2000000
namespace L2.Mx
open PySem L2.Sc L2.Sm
open Enc
open L2.Gr
local macro_rules
  | `(tactic| simp? [$ls,*]) => `(tactic| simp only [argSl_none, Res.bind_ok, Res.bind_err, Res.bind_stuck, Res.bind_ite, Res.st_ok, Res.st_err, Res.st_stuck, Res.st_ite, Fl.seq_nx, Fl.seq_rt, Fl.seq_bk, Fl.seq_ct, Fl.seq_er, Fl.seq_stuck, Fl.seq_ite, bind_ap, pure_ap, fail_ap, ofO_some, ofO_none, runB_ap, runF_nx, runF_rt, runF_er, runF_nxR, runF_rtR, runF_erR, runF_ite, argSl_some, ite_ap, iteM_ap, skip_ap, seq_ap, drop_ap, ret_ap, retN_ap, if_ap, set_ap, setF_ap, brk_ap, cont_ap, never_ap, app_ap, appK_ap, put_ap, putKk_ap, putKd_ap, putKl_ap, aug_ap, for_ap, asg_ap, nameB_ap, nameE_ap, c_ap, bv_ap, fr_ap, frz_ol, frz_od, nilA_ap, consA_ap, nilB_ap, consB_ap, tup_ap, lst_ap, opR_ap, opF_ap, opT_ap, op2_ap, op2F_ap, op2T_ap, op1_ap, toT_ap, andT_ap, orT_ap, notT_ap, andV_ap, orV_ap, notV_ap, ifM_ap, callE_ap, callF_ap, callS_ap, callR_ap, lcF_ap, yes_ap, noO_ap, someO_ap, slE_ap, slF_ap, slR_ap, slFR_ap, chainV_ap, chainT_ap, par_ap, nilP_ap, consE_ap, consF_ap, new_ap, dict1_ap, isi_ap, isi2_ap, seqI_ap, enumI_ap, range1_ap, range2_ap, zipI_ap, rev_ap, keysI_ap, get_ap, getK0_ap, getK1_ap, sumVals_ap, keysSort_ap, lstRg_ap, len_list, len_tuple, len_scr, tupC_list, tupC_tuple, lstC_list, lstC_tuple, intC_int, intC_bool, max2_int, min2_int, abs_int, sum_list, sum_tuple, add_int, sub_int, neg_int, isN_none, isN_int, isN_tuple, isN_list, isN_bool, isN_str, forT, lcT, nameG, nilG, consG, tupG, rowOf, rdB, Sl.val, Sl.lget, Sl.lput, rdBs, Sl.mut, setsR, wipeR, backR, keepFr, isTy, notNoneB, eqB_int, neB_int, eqB_bool, neB_bool, ltB_int, gtB_int, leB_int, geB_int, List.map_cons, List.map_nil, List.replicate_succ, List.replicate_zero, List.cons_append, List.nil_append, List.append_nil, List.getElem?_cons_zero, List.getElem?_cons_succ, List.set_cons_zero, List.set_cons_succ, Option.map_some, Option.map_none, Option.bind_some, Option.bind_none, List.length_cons, List.length_nil, List.length_map, Bool.not_true, Bool.not_false, Bool.or_true, Bool.true_or, Bool.or_false, Bool.false_or, Bool.and_true, Bool.and_false, Bool.true_and, Bool.false_and, if_true, if_false, reduceCtorEq, Bool.false_eq_true, Bool.not_eq_true, decide_eq_true_eq, ix_t0, ix_t1, ix_t2, ix_t3, ix_l0, ix_l1, ix_l2, ix_l3, cast0, cast1, cast2, cast3, cast4, cast5, ixN40, ixN41, ixN42, ixN43, and_self, and_true, true_and, and_false, false_and, Nat.reduceLT, Nat.reduceLeDiff, eq_self, decide_true, decide_false, Nat.zero_add, Nat.reduceAdd, keysF_ap, onKeys, dcopyF_ap, onCopy, dpairsF_ap, onPairs, raise_ap, try_ap, onTry_nx, onTry_er, uns_rt, uns_nx, $ls,*])
theorem found_len {w : Word} (hw : w.length ≤ 8) : ∀ (rs : List Rule) (m : Fnd), (∀ r ∈ rs, r.1.length ≤ 3) → FndOk w m → (rs.foldl (addRule w) m).length ≤ m.length + rs.length * 512
  | [], m, _, _ => by simp
  | r :: rs, m, hr, hm => by
    have hall : ∀ p ∈ rowsK w r.1 r.2 r.1.length, LineOk w r.1.length p := fun p hp => rowsK_ok hp
    obtain ⟨h1, h2⟩ := FndOk.fold (l := r.1) (r := r.2) (k := r.1.length) (rowsK w r.1 r.2 r.1.length) hall hm
    have bound : (rowsK w r.1 r.2 r.1.length).length ≤ 512 := by
      have h3 := hr r List.mem_cons_self
      exact Nat.le_trans (rowsK_len _) (Nat.le_trans (Nat.pow_le_pow_left hw _) (Nat.le_trans (Nat.pow_le_pow_right (by decide) h3) (by decide)))
    have ih := found_len hw rs (addRule w m r) (fun x hx => hr x (List.mem_cons_of_mem _ hx)) h1
    have h4 : (addRule w m r).length ≤ m.length + 512 := Nat.le_trans h2 (by omega)
    rw [List.foldl_cons, List.length_cons, Nat.succ_mul]
    omega
theorem steps_len {b : Book} {w : Word} (hb : BookOk b) (hw : w.length ≤ 8) : (stepsOf b w).length ≤ 6144 := by
  have h12 := hb.few
  have := found_len hw b.2 [] (fun r hr => (hb.rules r hr).few) ⟨List.nodup_nil, fun u hu => by cases hu⟩
  have e : (stepsOf b w).length = (foundOf b w).length := by
    unfold stepsOf
    rw [(sortA_perm _).length_eq, List.length_map]
  rw [e]
  unfold foundOf
  rw [List.length_nil] at this
  omega
theorem short_words : ∀ l : List Word, (∀ w ∈ l, w.length ≤ 10000) → shortAll (l.map (enc : Word → PyData)) = true
  | [], _ => rfl
  | w :: l, h => by
    have h1 := h w List.mem_cons_self
    rw [List.map_cons, shortAll, short_words l fun u hu => h u (List.mem_cons_of_mem _ hu), enc_list, shortD, short_ints, decide_eq_true (by simpa using h1)]
    rfl
theorem alike_tup (l : List Word) (hl : l.length ≤ 10000) (h : ∀ w ∈ l, w.length ≤ 10000) : f__law_alike 8 none [enc l, enc l] = .ok (.bool true) none := by
  refine alike8 (lay l) (Nat.le_trans (Enc.depth l) (by decide)) ?_
  rw [enc_list, shortD, short_words l h, decide_eq_true (by simpa using hl)]
  rfl
theorem alike_lst (l : List Word) (hl : l.length ≤ 10000) (h : ∀ w ∈ l, w.length ≤ 10000) : f__law_alike 8 none [.list (l.map enc), .list (l.map enc)] = .ok (.bool true) none := by
  refine alike8 (by rw [PyData.canLay0]; exact canLay_map lay l) (by rw [PyData.depth]; exact Nat.le_trans (Nat.succ_le_succ (depth_map Enc.depth l)) (by decide)) ?_
  rw [shortD, short_words l h, decide_eq_true (by simpa using hl)]
  rfl
theorem strict_eq : ∀ {l m : List Word}, l.Pairwise (fun a b => eLt a b = true) → m.Pairwise (fun a b => eLt a b = true) → (∀ x, x ∈ l ↔ x ∈ m) → l = m
  | [], [], _, _, _ => rfl
  | [], y :: m, _, _, h => by have := (h y).mpr List.mem_cons_self; cases this
  | x :: l, [], _, _, h => by have := (h x).mp List.mem_cons_self; cases this
  | x :: l, y :: m, hl, hm, h => by
    rw [List.pairwise_cons] at hl hm
    have exy : x = y := by
      rcases List.mem_cons.mp ((h x).mp List.mem_cons_self) with e | e
      · exact e
      · rcases List.mem_cons.mp ((h y).mpr List.mem_cons_self) with e2 | e2
        · exact e2.symm
        · have h1 := hm.1 x e
          have h2 := hl.1 y e2
          rw [eLt_asymm h1] at h2
          cases h2
    subst exy
    have nx : ∀ {q : List Word}, (∀ z ∈ q, eLt x z = true) → x ∉ q := fun hq m => by
      have := hq x m
      rw [eLt_irr] at this
      cases this
    congr 1
    refine strict_eq hl.2 hm.2 fun z => ⟨fun hz => ?_, fun hz => ?_⟩
    · rcases List.mem_cons.mp ((h z).mp (List.mem_cons_of_mem _ hz)) with e | e
      · subst e; exact absurd hz (nx hl.1)
      · exact e
    · rcases List.mem_cons.mp ((h z).mpr (List.mem_cons_of_mem _ hz)) with e | e
      · subst e; exact absurd hz (nx hm.1)
      · exact e
theorem sortA_same {l m : List Word} (hl : l.Nodup) (hm : m.Nodup) (h : ∀ x, x ∈ l ↔ x ∈ m) : sortA l = sortA m :=
  strict_eq (sortA_strict hl) (sortA_strict hm) fun x => by rw [(sortA_perm l).mem_iff, (sortA_perm m).mem_iff, h]
section
variable {b : Book} {n : Nat} {w : Word}
theorem need_both_ok (hb : BookOk b) (hw : inR b.1 w = true) (hz : w.length ≤ 8) : f_need_both none [enc b, enc w] = .ok .none none := by
  have e1 := need_book_ok b hb
  have e2 := need_word_ok b w 8 hw (by omega)
  unfold f_need_both
  simp? [e1, e2]
theorem steps_p_ok (hb : BookOk b) (hw : inR b.1 w = true) (hz : w.length ≤ 8) : f_steps none [enc b, enc w] = .ok (enc (stepsOf b w)) none := by
  have e1 := need_both_ok hb hw hz
  have e2 := steps_in_ok b w hb (by omega)
  unfold f_steps
  simp? [e1, e2]
  rfl
theorem gone_left (hb : WorldOk b n) (h0 : WOk b.1 n w) {keys : List Word} (h : Gone (stepsOf b) w keys) : LeftOk b n keys := ⟨h.nd, fun u hu => reach_wok hb h0 (h.all u hu)⟩
theorem told_dictB (hb : WorldOk b n) {keys : List Word} (hk : LeftOk b n keys) {x : Bv} {ρ : List Sl} (e : rdB x ρ = some (.dict (toldD b keys))) : dictB x ρ = some (toldD b keys) :=
  dictB_encV gL isTup_list e (by
    have hS : 16000000 ≤ sizeLine := by decide
    have h1 := told_len b keys
    rw [encV_len] at h1
    have := hk.few hb
    omega)
theorem sort_ok (hk : LeftOk b n l) : sortOk (l.map enc) = true := sort_words hk.nd fun w hw => (hk.wok w hw).len
/-- the sorted list of the keys -/
theorem keys_sort (hb : WorldOk b n) {keys : List Word} (hk : LeftOk b n keys) {m : M Bv} {x : Bv} {ρ ρ' : List Sl} (e : m ρ = .ok x ρ') (e2 : rdB x ρ' = some (.dict (toldD b keys))) : keysSortF m ρ = .ok (.ol ((sortA keys).map enc)) ρ' := by
  unfold keysSortF
  rw [bind_ap, e, Res.bind_ok, told_dictB hb hk e2]
  dsimp only
  rw [encV_keys, told_keys, if_pos (sort_ok hk), sortD_map]
theorem wok_both (hb : WorldOk b n) (h0 : WOk b.1 n w) : f_need_both none [enc b, enc w] = .ok .none none := need_both_ok hb.bk h0.rng (by rw [h0.len]; have := hb.n4; omega)
theorem all_come_ok (hb : WorldOk b n) (h0 : WOk b.1 n w) : ∃ keys, Gone (stepsOf b) w keys ∧ f_all_come none [enc b, enc w] = .ok (.list ((sortA keys).map enc)) none := by
  obtain ⟨keys, hk, e⟩ := come_in_ok hb h0
  refine ⟨keys, hk, ?_⟩
  have e1 := wok_both hb h0
  obtain ⟨m, hm⟩ : ∃ m : M Bv, m = bvE (callS (consA (nameE 0) (consA (nameE 1) nilA)) f_come_in) := ⟨_, rfl⟩
  have em : m [.fr (enc b), .fr (enc w)] = .ok (.va (.dict (toldD b keys))) [.fr (enc b), .fr (enc w)] := by
    rw [hm]
    simp? [e]
  have e2 := keys_sort hb (gone_left hb h0 hk) em rfl
  obtain ⟨m2, hm2⟩ : ∃ m2 : M Sl, m2 = keysSortF m := ⟨_, rfl⟩
  rw [← hm2] at e2
  unfold f_all_come
  rw [← hm, ← hm2]
  simp? [e1, e2]
/-- the rests among the keys -/
def restsOf (b : Book) (keys : List Word) : List Word := keys.filter fun h => (stepsOf b h).isEmpty
theorem rests_lc (hb : WorldOk b n) {keys : List Word} (hk : LeftOk b n keys) (a0 a1 : Sl) : lcF [3] (keysI (nameE 2)) rests_in_g1 rests_in_t1 rests_in_e1 [a0, a1, .fr (.dict (toldD b keys)), .un] = .ok (.ol ((restsOf b keys).map enc)) [a0, a1, .fr (.dict (toldD b keys)), .un] := by
  have hS : 16000000 ≤ sizeLine := by decide
  have hok : keysOk (toldD b keys) = true := told_ok b keys
  have hf := hk.few hb
  simp? [hok]
  rw [encV_keys, told_keys]
  rw [lcL_pure (enc : Word → PyData) (fun h => (stepsOf b h).isEmpty) (enc : Word → PyData) keys [] (by simp; omega) (fun h hh => by
    have e1 : ixA (.dict (toldD b keys)) (enc h) = some (.list ((stepsOf b h).map enc)) := told_ix hh
    have e2 : eqB (.list ((stepsOf b h).map enc)) (.list []) = some (stepsOf b h).isEmpty := eqB_nil (α := Word) _ (by decide)
    obtain ⟨c, hc⟩ : ∃ c, (stepsOf b h).isEmpty = c := ⟨_, rfl⟩
    rw [hc] at e2 ⊢
    cases c with
    | true => simp? [rests_in_g1, rests_in_t1, rests_in_e1, e1, e2]
    | false => simp? [rests_in_g1, rests_in_t1, rests_in_e1, e1, e2])]
  simp? []
  rfl
theorem last_lc (hb : WorldOk b n) {keys : List Word} (hk : LeftOk b n keys) : lcF [1] (keysI (nameE 0)) _law_last_ones_g1 _law_last_ones_t1 _law_last_ones_e1 [.fr (.dict (toldD b keys)), .un] = .ok (.ol ((restsOf b keys).map enc)) [.fr (.dict (toldD b keys)), .un] := by
  have hS : 16000000 ≤ sizeLine := by decide
  have hok : keysOk (toldD b keys) = true := told_ok b keys
  have hf := hk.few hb
  simp? [hok]
  rw [encV_keys, told_keys]
  rw [lcL_pure (enc : Word → PyData) (fun h => (stepsOf b h).isEmpty) (enc : Word → PyData) keys [] (by simp; omega) (fun h hh => by
    have e1 : ixA (.dict (toldD b keys)) (enc h) = some (.list ((stepsOf b h).map enc)) := told_ix hh
    have e2 : eqB (.list ((stepsOf b h).map enc)) (.list []) = some (stepsOf b h).isEmpty := eqB_nil (α := Word) _ (by decide)
    obtain ⟨c, hc⟩ : ∃ c, (stepsOf b h).isEmpty = c := ⟨_, rfl⟩
    rw [hc] at e2 ⊢
    cases c with
    | true => simp? [_law_last_ones_g1, _law_last_ones_t1, _law_last_ones_e1, e1, e2]
    | false => simp? [_law_last_ones_g1, _law_last_ones_t1, _law_last_ones_e1, e1, e2])]
  simp? []
  rfl
theorem rests_left {keys : List Word} (hk : LeftOk b n keys) : LeftOk b n (restsOf b keys) := hk.sub (List.filter_sublist ..)
theorem sortC_ok {l : List Word} (h : sortOk (l.map enc) = true) : sortC [.list (l.map enc)] = some ((sortA l).map enc) := by
  show (if sortOk (l.map enc) = true then some (sortD (l.map enc)) else none) = _
  rw [if_pos h, sortD_map]
theorem last_ones_ok (hb : WorldOk b n) {keys : List Word} (hk : LeftOk b n keys) : f__law_last_ones none [.dict (toldD b keys)] = .ok (.list ((sortA (restsOf b keys)).map enc)) none := by
  have e1 := last_lc hb hk
  have e2 := sortC_ok (sort_ok (rests_left hk))
  unfold f__law_last_ones
  obtain ⟨m, hm⟩ : ∃ m : M Sl, m = lcF [1] (keysI (nameE 0)) _law_last_ones_g1 _law_last_ones_t1 _law_last_ones_e1 := ⟨_, rfl⟩
  rw [← hm] at e1 ⊢
  simp? [e1, e2]
theorem walked_rests_ok (hb : WorldOk b n) (h0 : WOk b.1 n w) : ∃ keys, Gone (stepsOf b) w keys ∧ f_walked_rests none [enc b, enc w] = .ok (.list ((sortA (restsOf b keys)).map enc)) none := by
  obtain ⟨keys, hk, e⟩ := come_in_ok hb h0
  have hL := gone_left hb h0 hk
  refine ⟨keys, hk, ?_⟩
  have e1 := wok_both hb h0
  have e2 := rests_lc hb hL (.fr (enc b)) (.fr (enc w))
  have e3 := sortC_ok (sort_ok (rests_left hL))
  have e4 : f_rests_in none [enc b, enc w] = .ok (.list ((sortA (restsOf b keys)).map enc)) none := by
    unfold f_rests_in
    obtain ⟨m, hm⟩ : ∃ m : M Sl, m = lcF [3] (keysI (nameE 2)) rests_in_g1 rests_in_t1 rests_in_e1 := ⟨_, rfl⟩
    rw [← hm] at e2 ⊢
    simp? [e, e2, e3]
  unfold f_walked_rests
  simp? [e1, e4]
theorem goes_on_ok (hb : WorldOk b n) (h0 : WOk b.1 n w) : ∃ keys, Gone (stepsOf b) w keys ∧ f_goes_on none [enc b, enc w] = .ok (.bool (lays (stepsOf b) sortA keys.length keys).isNone) none := by
  obtain ⟨keys, hk, e⟩ := come_in_ok hb h0
  have hL := gone_left hb h0 hk
  refine ⟨keys, hk, ?_⟩
  have e1 := wok_both hb h0
  have e2 := order_in_ok hb hL
  unfold f_goes_on
  cases hr : lays (stepsOf b) sortA keys.length keys with
  | none =>
    rw [hr] at e2
    simp? [e1, e, e2, layD]
    rfl
  | some o =>
    rw [hr] at e2
    simp? [e1, e, e2, layD]
    rfl
theorem longest_ok (hb : WorldOk b n) (h0 : WOk b.1 n w) : ∃ keys, Gone (stepsOf b) w keys ∧ f_longest none [enc b, enc w] = (match lays (stepsOf b) sortA keys.length keys with
    | none => .err ⟨"NotEnding", []⟩ none
    | some o => .ok (.int (atV (valOf b o) w)) none) := by
  obtain ⟨keys, hk, e⟩ := come_in_ok hb h0
  have hL := gone_left hb h0 hk
  refine ⟨keys, hk, ?_⟩
  have e1 := wok_both hb h0
  have e2 := order_in_ok hb hL
  unfold f_longest
  cases hr : lays (stepsOf b) sortA keys.length keys with
  | none =>
    rw [hr] at e2
    simp? [e1, e, e2, layD]
  | some o =>
    rw [hr] at e2
    have ho : LayOk (stepsOf b) keys [] o := lay_ok sortA_perm keys.length hL.nd (fun h hh t ht => .inl (hk.clo h hh t ht)) hr
    obtain ⟨a', e3⟩ := order_loop (g := longest_g2) (bd := longest_b1) (fun m a => [.fr (enc b), .fr (enc w), .fr (.dict (toldD b keys)), .fr (.list (o.map enc)), .od (encK m), a, .un]) hb hL ho (fun a hw hin hh hs hz => lg_b1 hb hw hin hh hs hz _ _ _ a) .un
    have hw0 : w ∈ (valOf b o).map (·.1) := by rw [(val_ok ho).2]; exact (ho.mem w).mpr hk.base
    have e4 : ixA (.dict (encK (valOf b o))) (enc w) = some (.int (atV (valOf b o) w)) := ix_dict (by decide) (atV_some hw0)
    have e0 : (encK ([] : Val)) = [] := rfl
    rw [e0] at e3
    simp? [e1, e, e2, layD, e3, e4]
end
end L2.Mx
set_option Elab.async false
set_option linter.all false
set_option maxRecDepth 100000
set_option maxHeartbeats 2000000
namespace L2.Mx
open PySem L2.Sc L2.Sm
open Enc
open L2.Gr
local macro_rules
  | `(tactic| simp? [$ls,*]) => `(tactic| simp only [argSl_none, Res.bind_ok, Res.bind_err, Res.bind_stuck, Res.bind_ite, Res.st_ok, Res.st_err, Res.st_stuck, Res.st_ite, Fl.seq_nx, Fl.seq_rt, Fl.seq_bk, Fl.seq_ct, Fl.seq_er, Fl.seq_stuck, Fl.seq_ite, bind_ap, pure_ap, fail_ap, ofO_some, ofO_none, runB_ap, runF_nx, runF_rt, runF_er, runF_nxR, runF_rtR, runF_erR, runF_ite, argSl_some, ite_ap, iteM_ap, skip_ap, seq_ap, drop_ap, ret_ap, retN_ap, if_ap, set_ap, setF_ap, brk_ap, cont_ap, never_ap, app_ap, appK_ap, put_ap, putKk_ap, putKd_ap, putKl_ap, aug_ap, for_ap, asg_ap, nameB_ap, nameE_ap, c_ap, bv_ap, fr_ap, frz_ol, frz_od, nilA_ap, consA_ap, nilB_ap, consB_ap, tup_ap, lst_ap, opR_ap, opF_ap, opT_ap, op2_ap, op2F_ap, op2T_ap, op1_ap, toT_ap, andT_ap, orT_ap, notT_ap, andV_ap, orV_ap, notV_ap, ifM_ap, callE_ap, callF_ap, callS_ap, callR_ap, lcF_ap, yes_ap, noO_ap, someO_ap, slE_ap, slF_ap, slR_ap, slFR_ap, chainV_ap, chainT_ap, par_ap, nilP_ap, consE_ap, consF_ap, new_ap, dict1_ap, isi_ap, isi2_ap, seqI_ap, enumI_ap, range1_ap, range2_ap, zipI_ap, rev_ap, keysI_ap, get_ap, getK0_ap, getK1_ap, sumVals_ap, keysSort_ap, lstRg_ap, len_list, len_tuple, len_scr, tupC_list, tupC_tuple, lstC_list, lstC_tuple, intC_int, intC_bool, max2_int, min2_int, abs_int, sum_list, sum_tuple, add_int, sub_int, neg_int, isN_none, isN_int, isN_tuple, isN_list, isN_bool, isN_str, forT, lcT, nameG, nilG, consG, tupG, rowOf, rdB, Sl.val, Sl.lget, Sl.lput, rdBs, Sl.mut, setsR, wipeR, backR, keepFr, isTy, notNoneB, eqB_int, neB_int, eqB_bool, neB_bool, ltB_int, gtB_int, leB_int, geB_int, List.map_cons, List.map_nil, List.replicate_succ, List.replicate_zero, List.cons_append, List.nil_append, List.append_nil, List.getElem?_cons_zero, List.getElem?_cons_succ, List.set_cons_zero, List.set_cons_succ, Option.map_some, Option.map_none, Option.bind_some, Option.bind_none, List.length_cons, List.length_nil, List.length_map, Bool.not_true, Bool.not_false, Bool.or_true, Bool.true_or, Bool.or_false, Bool.false_or, Bool.and_true, Bool.and_false, Bool.true_and, Bool.false_and, if_true, if_false, reduceCtorEq, Bool.false_eq_true, Bool.not_eq_true, decide_eq_true_eq, ix_t0, ix_t1, ix_t2, ix_t3, ix_l0, ix_l1, ix_l2, ix_l3, cast0, cast1, cast2, cast3, cast4, cast5, ixN40, ixN41, ixN42, ixN43, and_self, and_true, true_and, and_false, false_and, Nat.reduceLT, Nat.reduceLeDiff, eq_self, decide_true, decide_false, Nat.zero_add, Nat.reduceAdd, keysF_ap, onKeys, dcopyF_ap, onCopy, dpairsF_ap, onPairs, raise_ap, try_ap, onTry_nx, onTry_er, uns_rt, uns_nx, $ls,*])
section
variable {b : Book} {n : Nat} {w : Word}
theorem gone_same {k1 k2 : List Word} (h1 : Gone (stepsOf b) w k1) (h2 : Gone (stepsOf b) w k2) (x : Word) : x ∈ k1 ↔ x ∈ k2 := by rw [h1.iff, h2.iff]
theorem rests_same {k1 k2 : List Word} (h1 : Gone (stepsOf b) w k1) (h2 : Gone (stepsOf b) w k2) : sortA (restsOf b k1) = sortA (restsOf b k2) := by
  refine sortA_same (h1.nd.sublist (List.filter_sublist ..)) (h2.nd.sublist (List.filter_sublist ..)) fun x => ?_
  unfold restsOf
  rw [List.mem_filter, List.mem_filter, gone_same h1 h2]
theorem alike_keys (hb : WorldOk b n) {l : List Word} (hl : LeftOk b n l) : f__law_alike 8 none [.list ((sortA l).map enc), .list ((sortA l).map enc)] = .ok (.bool true) none := by
  have hlen : (sortA l).length = l.length := (sortA_perm l).length_eq
  have hf := hl.few hb
  exact alike_lst _ (by omega) fun u hu => by have := (hl.wok u ((sortA_perm l).mem_iff.mp hu)).len; have := hb.n4; omega
end
theorem law_true (ns : List Int) (h : ns.length ≤ 63) : ∃ r, f_law none [scr ns] = .ok (.bool true) r := by
  obtain ⟨b, R1, e1, hR1, hb, p1, p2, p3, p4⟩ := book_ok ns ⟨0, 10400, 0⟩ 3 3 ⟨by decide, by decide, by decide⟩ (by decide) (by decide) (by decide) (by decide)
  obtain ⟨o, R2, e2, hR2, ho, q1, q2, q3, q4⟩ := book_ok ns R1 4 3 hR1 (by decide) (by decide) (by decide) (by decide)
  obtain ⟨v, R3, e3, hR3, v0, v1⟩ := taken_ok ns R2 9 hR2 (by decide) (by decide)
  obtain ⟨u, R4, e4, hR4, ul, ur⟩ := letters_ok ns R3 o.1 v hR3 (by omega) (by omega) (by omega) (by omega)
  obtain ⟨v2, R5, e5, hR5, z0, z1⟩ := taken_ok ns R4 5 hR4 (by decide) (by decide)
  obtain ⟨w, R6, e6, hR6, wl, wr⟩ := letters_ok ns R5 b.1 v2 hR5 (by omega) (by omega) (by omega) (by omega)
  have row0 : [scr ns, PyData.int 0, .int 10400, .int 0] = rowD ns ⟨0, 10400, 0⟩ := rfl
  have eb0 : ixA (enc b) (.int 0) = some (.int b.1) := ix_p0
  have eo0 : ixA (enc o) (.int 0) = some (.int o.1) := ix_p0
  obtain ⟨n, hn⟩ : ∃ n, w.length = n := ⟨_, rfl⟩
  have hW : WorldOk b n := ⟨hb, by omega, by omega, by omega⟩
  have h0 : WOk b.1 n w := ⟨hn, wr⟩
  -- the steps of a long word
  have s1 := steps_p_ok (w := u) ho ur (by omega)
  have s2 := steps_ok o u ho (by omega)
  have s3 : f__law_alike 8 none [enc (stepsOf o u), .tuple ((stepsOf o u).map enc)] = .ok (.bool true) none := alike_tup (stepsOf o u) (Nat.le_trans (steps_len ho (by omega)) (by decide)) fun x hx => by
    obtain ⟨r, hr, p, hp, rfl⟩ := (steps_mem o u x).mp hx
    have := (rowsK_ok hp).wl
    omega
  have i1 : ∀ a0 a1 a4 a5 a6 a7 a8 a9 a10 a11 a12, law_i1 [a0, a1, .fr (enc o), .fr (enc u), a4, a5, a6, a7, a8, a9, a10, a11, a12] = .nx [a0, a1, .fr (enc o), .fr (enc u), a4, a5, a6, a7, a8, a9, a10, a11, a12] := by
    intros
    unfold law_i1
    simp? [s1, s2, s3]
  -- the walk
  obtain ⟨keys, hk, ewalk⟩ := law_walk_ok hW h0
  have hL := gone_left hW h0 hk
  have elay := layers_ok hW hL
  obtain ⟨k1, hk1, eall⟩ := all_come_ok hW h0
  have hs1 : sortA k1 = sortA keys := sortA_same hk1.nd hk.nd (gone_same hk1 hk)
  rw [hs1] at eall
  obtain ⟨k2, hk2, erest⟩ := walked_rests_ok hW h0
  rw [rests_same hk2 hk] at erest
  have elast := last_ones_ok hW hL
  obtain ⟨k3, hk3, egoes⟩ := goes_on_ok hW h0
  have h3 : (lays (stepsOf b) sortA k3.length k3).isSome = (lays (stepsOf b) id keys.length keys).isSome := lay_same k3.length keys.length (Nat.le_refl _) (Nat.le_refl _) (gone_same hk3 hk)
  obtain ⟨k4, hk4, elong⟩ := longest_ok hW h0
  have h4 : (lays (stepsOf b) sortA k4.length k4).isSome = (lays (stepsOf b) id keys.length keys).isSome := lay_same k4.length keys.length (Nat.le_refl _) (Nat.le_refl _) (gone_same hk4 hk)
  have i2 : ∀ a0 a1 a2 a3 a6 a7 a8 a9 a11 a12, law_i2 [a0, a1, a2, a3, .fr (enc w), .fr (.dict (toldD b keys)), a6, a7, a8, a9, .fr (enc b), a11, a12] = .nx [a0, a1, a2, a3, .fr (enc w), .fr (.dict (toldD b keys)), a6, a7, a8, a9, .fr (enc b), a11, a12] := by
    intro a0 a1 a2 a3 a6 a7 a8 a9 a11 a12
    have ek : keysSortF (nameB 5) [a0, a1, a2, a3, .fr (enc w), .fr (.dict (toldD b keys)), a6, a7, a8, a9, .fr (enc b), a11, a12] = .ok (.ol ((sortA keys).map enc)) [a0, a1, a2, a3, .fr (enc w), .fr (.dict (toldD b keys)), a6, a7, a8, a9, .fr (enc b), a11, a12] := keys_sort hW hL (x := .sl 5) (by simp? []) rfl
    have ea := alike_keys hW hL
    obtain ⟨m, hm⟩ : ∃ m : M Sl, m = keysSortF (nameB 5) := ⟨_, rfl⟩
    rw [← hm] at ek
    unfold law_i2
    rw [← hm]
    simp? [eall, ek, ea]
  have i3 : ∀ a0 a1 a2 a3 a6 a7 a8 a9 a11 a12, law_i3 [a0, a1, a2, a3, .fr (enc w), .fr (.dict (toldD b keys)), a6, a7, a8, a9, .fr (enc b), a11, a12] = .nx [a0, a1, a2, a3, .fr (enc w), .fr (.dict (toldD b keys)), a6, a7, a8, a9, .fr (enc b), a11, a12] := by
    intros
    have ea := alike_keys hW (rests_left hL)
    unfold law_i3
    simp? [erest, elast, ea]
  cases hlay : lays (stepsOf b) id keys.length keys with
  | none =>
    rw [hlay] at elay h3 h4
    have g3 : lays (stepsOf b) sortA k3.length k3 = none := by
      cases q : lays (stepsOf b) sortA k3.length k3 with
      | none => rfl
      | some x => rw [q] at h3; cases h3
    have g4 : lays (stepsOf b) sortA k4.length k4 = none := by
      cases q : lays (stepsOf b) sortA k4.length k4 with
      | none => rfl
      | some x => rw [q] at h4; cases h4
    rw [g3] at egoes
    rw [g4] at elong
    have i4 : ∀ a0 a1 a2 a3 a7 a8 a9 a11 a12, law_i4 [a0, a1, a2, a3, .fr (enc w), .fr (.dict (toldD b keys)), .fr .none, a7, a8, a9, .fr (enc b), a11, a12] = .nx [a0, a1, a2, a3, .fr (enc w), .fr (.dict (toldD b keys)), .fr .none, a7, a8, a9, .fr (enc b), a11, a12] := by
      intros
      have ea := alike_bool true
      unfold law_i4
      simp? [egoes, Option.isNone_none, ea]
    unfold f_law
    simp? []
    rw [row0]
    simp? [e1, e2, e3, e4, e5, e6, eb0, eo0, i1, ewalk, elay, layD, i2, i3, i4, elong, List.mem_cons, List.length_cons, List.length_nil]
    simp
  | some l =>
    rw [hlay] at elay h3 h4
    obtain ⟨l3, g3⟩ : ∃ l3, lays (stepsOf b) sortA k3.length k3 = some l3 := Option.isSome_iff_exists.mp h3
    obtain ⟨l4, g4⟩ : ∃ l4, lays (stepsOf b) sortA k4.length k4 = some l4 := Option.isSome_iff_exists.mp h4
    rw [g3] at egoes
    rw [g4] at elong
    have i4 : ∀ a0 a1 a2 a3 a7 a8 a9 a11 a12, law_i4 [a0, a1, a2, a3, .fr (enc w), .fr (.dict (toldD b keys)), .fr (.list (l.map enc)), a7, a8, a9, .fr (enc b), a11, a12] = .nx [a0, a1, a2, a3, .fr (enc w), .fr (.dict (toldD b keys)), .fr (.list (l.map enc)), a7, a8, a9, .fr (enc b), a11, a12] := by
      intros
      have ea := alike_bool false
      unfold law_i4
      simp? [egoes, Option.isNone_some, ea]
    have hL4 := gone_left hW h0 hk4
    have ho : LayOk (stepsOf b) keys [] l := lay_ok (fun _ => List.Perm.refl _) keys.length hL.nd (fun h hh t ht => .inl (hk.clo h hh t ht)) hlay
    have ho4 : LayOk (stepsOf b) k4 [] l4 := lay_ok sortA_perm k4.length hL4.nd (fun h hh t ht => .inl (hk4.clo h hh t ht)) g4
    have hv := val_same ho4 ho (gone_same hk4 hk) hk4.base
    have hv2 : atV (valOf b l4) w = atV (valOf b l) w := by unfold atV; rw [hv]
    dsimp only at elong
    rw [hv2] at elong
    obtain ⟨a', eloop⟩ := order_loop (g := law_g2) (bd := law_b1) (fun m a => [.fr (scr ns), .ol (rowD ns R6), .fr (enc o), .fr (enc u), .fr (enc w), .fr (.dict (toldD b keys)), .fr (.list (l.map enc)), .un, .od (encK m), a, .fr (enc b), .fr (.int (atV (valOf b l) w)), .un]) hW hL ho (fun a hw hin hh hs hz => lw_b1 hW hw hin hh hs hz _ _ _ _ _ _ _ a _ _) .un
    have e0 : (encK ([] : Val)) = [] := rfl
    rw [e0] at eloop
    have hw0 : w ∈ (valOf b l).map (·.1) := by rw [(val_ok ho).2]; exact (ho.mem w).mpr hk.base
    have e7 : ixA (.dict (encK (valOf b l))) (enc w) = some (.int (atV (valOf b l) w)) := ix_dict (by decide) (atV_some hw0)
    have ea := alike_int (atV (valOf b l) w)
    unfold f_law
    simp? []
    rw [row0]
    simp? [e1, e2, e3, e4, e5, e6, eb0, eo0, i1, ewalk, elay, layD, i2, i3, i4, elong, eloop, e7, ea]
    exact ⟨_, rfl⟩
end L2.Mx
set_option Elab.async false
set_option linter.all false
set_option maxRecDepth 100000
set_option maxHeartbeats 0

namespace L2.En
open PySem PySem.Spec PyProof.Rows L2 L2.Sc L2.Sm L2.Wk ScH
theorem facts {K : PySem.W.Frag} {h : Heap} {mg : Str → Option Value} (X : K.In h) (G : h.Ns mainGlobals mg) (c : He.SaysD ScH.fa ScH.fn K) (cx : ScH.ex K = true) : Facts K mg where
  d_is_in := by
    obtain ⟨fd, F⟩ := c.def_ 0 (d := d_is_in) rfl
    exact ⟨_, fd, F, He.glo_ok X G (c.fact 0 (f := .glo "is_in") rfl)⟩
  d_is_row := by
    obtain ⟨fd, F⟩ := c.def_ 1 (d := d_is_row) rfl
    exact ⟨_, fd, F, He.glo_ok X G (c.fact 1 (f := .glo "is_row") rfl)⟩
  d_is_rule := by
    obtain ⟨fd, F⟩ := c.def_ 2 (d := d_is_rule) rfl
    exact ⟨_, fd, F, He.glo_ok X G (c.fact 2 (f := .glo "is_rule") rfl)⟩
  d_need_book := by
    obtain ⟨fd, F⟩ := c.def_ 3 (d := d_need_book) rfl
    exact ⟨_, fd, F, He.glo_ok X G (c.fact 3 (f := .glo "need_book") rfl)⟩
  d_need_word := by
    obtain ⟨fd, F⟩ := c.def_ 4 (d := d_need_word) rfl
    exact ⟨_, fd, F, He.glo_ok X G (c.fact 4 (f := .glo "need_word") rfl)⟩
  d_spots_of := by
    obtain ⟨fd, F⟩ := c.def_ 5 (d := d_spots_of) rfl
    exact ⟨_, fd, F, He.glo_ok X G (c.fact 5 (f := .glo "spots_of") rfl)⟩
  d_steps_in := by
    obtain ⟨fd, F⟩ := c.def_ 6 (d := d_steps_in) rfl
    exact ⟨_, fd, F, He.glo_ok X G (c.fact 6 (f := .glo "steps_in") rfl)⟩
  d_need_both := by
    obtain ⟨fd, F⟩ := c.def_ 7 (d := d_need_both) rfl
    exact ⟨_, fd, F, He.glo_ok X G (c.fact 7 (f := .glo "need_both") rfl)⟩
  d_steps := by
    obtain ⟨fd, F⟩ := c.def_ 8 (d := d_steps) rfl
    exact ⟨_, fd, F, He.glo_ok X G (c.fact 8 (f := .glo "steps") rfl)⟩
  d_come_in := by
    obtain ⟨fd, F⟩ := c.def_ 9 (d := d_come_in) rfl
    exact ⟨_, fd, F, He.glo_ok X G (c.fact 9 (f := .glo "come_in") rfl)⟩
  d_all_come := by
    obtain ⟨fd, F⟩ := c.def_ 10 (d := d_all_come) rfl
    exact ⟨_, fd, F, He.glo_ok X G (c.fact 10 (f := .glo "all_come") rfl)⟩
  d_rests_in := by
    obtain ⟨fd, F⟩ := c.def_ 11 (d := d_rests_in) rfl
    exact ⟨_, fd, F, He.glo_ok X G (c.fact 11 (f := .glo "rests_in") rfl)⟩
  d_walked_rests := by
    obtain ⟨fd, F⟩ := c.def_ 12 (d := d_walked_rests) rfl
    exact ⟨_, fd, F, He.glo_ok X G (c.fact 12 (f := .glo "walked_rests") rfl)⟩
  d_order_in := by
    obtain ⟨fd, F⟩ := c.def_ 13 (d := d_order_in) rfl
    exact ⟨_, fd, F, He.glo_ok X G (c.fact 13 (f := .glo "order_in") rfl)⟩
  d_goes_on := by
    obtain ⟨fd, F⟩ := c.def_ 14 (d := d_goes_on) rfl
    exact ⟨_, fd, F, He.glo_ok X G (c.fact 14 (f := .glo "goes_on") rfl)⟩
  d_longest := by
    obtain ⟨fd, F⟩ := c.def_ 15 (d := d_longest) rfl
    exact ⟨_, fd, F, He.glo_ok X G (c.fact 15 (f := .glo "longest") rfl)⟩
  d__law_taken := by
    obtain ⟨fd, F⟩ := c.def_ 16 (d := d__law_taken) rfl
    exact ⟨_, fd, F, He.glo_ok X G (c.fact 16 (f := .glo "_law_taken") rfl)⟩
  d__law_order := by
    obtain ⟨fd, F⟩ := c.def_ 17 (d := d__law_order) rfl
    exact ⟨_, fd, F, He.glo_ok X G (c.fact 17 (f := .glo "_law_order") rfl)⟩
  d__law_letters := by
    obtain ⟨fd, F⟩ := c.def_ 18 (d := d__law_letters) rfl
    exact ⟨_, fd, F, He.glo_ok X G (c.fact 18 (f := .glo "_law_letters") rfl)⟩
  d__law_book := by
    obtain ⟨fd, F⟩ := c.def_ 19 (d := d__law_book) rfl
    exact ⟨_, fd, F, He.glo_ok X G (c.fact 19 (f := .glo "_law_book") rfl)⟩
  d__law_alike := by
    obtain ⟨fd, F⟩ := c.def_ 20 (d := d__law_alike) rfl
    exact ⟨_, fd, F, He.glo_ok X G (c.fact 20 (f := .glo "_law_alike") rfl)⟩
  d__law_steps := by
    obtain ⟨fd, F⟩ := c.def_ 21 (d := d__law_steps) rfl
    exact ⟨_, fd, F, He.glo_ok X G (c.fact 21 (f := .glo "_law_steps") rfl)⟩
  d__law_walk := by
    obtain ⟨fd, F⟩ := c.def_ 22 (d := d__law_walk) rfl
    exact ⟨_, fd, F, He.glo_ok X G (c.fact 22 (f := .glo "_law_walk") rfl)⟩
  d__law_layers := by
    obtain ⟨fd, F⟩ := c.def_ 23 (d := d__law_layers) rfl
    exact ⟨_, fd, F, He.glo_ok X G (c.fact 23 (f := .glo "_law_layers") rfl)⟩
  d__law_last_ones := by
    obtain ⟨fd, F⟩ := c.def_ 24 (d := d__law_last_ones) rfl
    exact ⟨_, fd, F, He.glo_ok X G (c.fact 24 (f := .glo "_law_last_ones") rfl)⟩
  d_law := by
    obtain ⟨fd, F⟩ := c.def_ 25 (d := d_law) rfl
    exact ⟨_, fd, F, He.glo_ok X G (c.fact 25 (f := .glo "law") rfl)⟩
  i_MOST_LETTERS := He.int_ok X G (c.fact 26 (f := .int "MOST_LETTERS" 4) rfl)
  i_MOST_RULES := He.int_ok X G (c.fact 27 (f := .int "MOST_RULES" 12) rfl)
  i_MOST_LONG := He.int_ok X G (c.fact 28 (f := .int "MOST_LONG" 3) rfl)
  i_MOST_WORD := He.int_ok X G (c.fact 29 (f := .int "MOST_WORD" 8) rfl)
  i_MOST_WALKED := He.int_ok X G (c.fact 30 (f := .int "MOST_WALKED" 1500) rfl)
  g_bool := He.free_ok X G (c.fact 31 (f := .free "bool") rfl)
  g_dict := He.free_ok X G (c.fact 32 (f := .free "dict") rfl)
  g_enumerate := He.free_ok X G (c.fact 33 (f := .free "enumerate") rfl)
  g_int := He.free_ok X G (c.fact 34 (f := .free "int") rfl)
  g_isinstance := He.free_ok X G (c.fact 35 (f := .free "isinstance") rfl)
  g_len := He.free_ok X G (c.fact 36 (f := .free "len") rfl)
  g_list := He.free_ok X G (c.fact 37 (f := .free "list") rfl)
  g_max := He.free_ok X G (c.fact 38 (f := .free "max") rfl)
  g_range := He.free_ok X G (c.fact 39 (f := .free "range") rfl)
  g_sorted := He.free_ok X G (c.fact 40 (f := .free "sorted") rfl)
  g_str := He.free_ok X G (c.fact 41 (f := .free "str") rfl)
  g_sum := He.free_ok X G (c.fact 42 (f := .free "sum") rfl)
  g_tuple := He.free_ok X G (c.fact 43 (f := .free "tuple") rfl)
  g_zip := He.free_ok X G (c.fact 44 (f := .free "zip") rfl)
  x_NotEnding := exF_ok (He.glo_ok X G (c.fact 48 (f := .glo "NotEnding") rfl)) (c.fact 50 (f := .exc "NotEnding") rfl)
  tr_ScatterError := exB_takes (fun x hx => by
    simp only [List.mem_cons, List.not_mem_nil, or_false] at hx
    rcases hx with rfl | rfl | rfl | rfl
    · exact (He.glo_ok X G (c.fact 46 (f := .glo "BadBook") rfl))
    · exact (He.glo_ok X G (c.fact 47 (f := .glo "BadWord") rfl))
    · exact (He.glo_ok X G (c.fact 48 (f := .glo "NotEnding") rfl))
    · exact (He.glo_ok X G (c.fact 49 (f := .glo "TooMany") rfl))) cx (by decide) (He.glo_ok X G (c.fact 45 (f := .glo "ScatterError") rfl))
  is_NotEnding := exB_is (fun x hx => by
    simp only [List.mem_cons, List.not_mem_nil, or_false] at hx
    rcases hx with rfl | rfl | rfl | rfl
    · exact (He.glo_ok X G (c.fact 46 (f := .glo "BadBook") rfl))
    · exact (He.glo_ok X G (c.fact 47 (f := .glo "BadWord") rfl))
    · exact (He.glo_ok X G (c.fact 48 (f := .glo "NotEnding") rfl))
    · exact (He.glo_ok X G (c.fact 49 (f := .glo "TooMany") rfl))) cx (by decide) (He.glo_ok X G (c.fact 48 (f := .glo "NotEnding") rfl))
end L2.En
open PySem PySem.W PySem.Calls PyProof.Rows L2
theorem PySem.Challenge.cw_scatterbooks_k00_whole_steps_and_walks_holds : PySem.Challenge.rw_scatterbooks_k00_whole_steps_and_walks.Holds := by
  w_on; o_law
  refine HandSHeadRun.head_any (r := OpenLaw.row PySem.Challenge.rw_scatterbooks_k00_whole_steps_and_walks) (q := view (OpenLaw.row PySem.Challenge.rw_scatterbooks_k00_whole_steps_and_walks).prog [40]) (H := ScH.hk) (ob := ScH.ob) (M := 4000) (loose := ScH.loose) (d := HandSHeadRun.topDef (OpenLaw.row PySem.Challenge.rw_scatterbooks_k00_whole_steps_and_walks).prog 40) (kwd := []) ScH.ob_eq
    (by kernel_rfl) (fun s => by kernel_rfl) ScH.run (by kernel_rfl) (by kernel_rfl) (by kernel_rfl) (by rfl) (by first | assumption | decide +kernel) (by decide +kernel) ⟨rfl, rfl, rfl, rfl, rfl, by decide +kernel⟩ ?hw ?hc
  case hw => w_witness2
  case hc =>
    refine L2.walk_ofE (l := PySem.Challenge.rw_scatterbooks_k00_whole_steps_and_walks) (n := 63) (k := 10) (x := "_law_script") (CX := L2.CX0) rfl (by decide) (by kernel_rfl) ⟨rfl, by decide, by decide⟩ ?F (fun _ _ _ _ z => z)
    intro w mg fa h Y G hmg0
    obtain ⟨K, KX, c, cx⟩ := Y
    have hmg : mg ("law" : PySem.Str) = some (.ref fa) := by
      have e : (HandSHeadRun.topDef (OpenLaw.row PySem.Challenge.rw_scatterbooks_k00_whole_steps_and_walks).prog 40).name = ("law" : PySem.Str) := by kernel_rfl
      rw [← e]
      exact hmg0
    have B := L2.En.facts KX G c cx
    obtain ⟨fd, F⟩ := c.def_ 25 (d := ScH.d_law) rfl
    have b := L2.FunD.bindsA (ps := ["_law_script"]) F fun _ _ _ _ _ _ us hl => match us, hl with | [_], _ => rfl
    refine ⟨K, fd, fun vs H Q _ => L2.Sc.spOf ⟨K, w, mg⟩ 1 L2.Sm.f_law vs H Q fun _ _ _ => False, KX, fun s v => b s [v] rfl, fun H a ns hl _ hS => L2.Sc.law_sp L2.Mx.law_true hl hS, fun base _ _ => ?_⟩
    have e := hmg.symm.trans (He.glo_ok KX G (c.fact 25 (f := .glo "law") rfl))
    cases e
    exact L2.Sc.FnOk.no (L2.Wk.ok_law (P := (PySem.Challenge.rw_scatterbooks_k00_whole_steps_and_walks).prog) (w := w) (base := base) B F)
