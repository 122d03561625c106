import PyProof.Rows.All
import Wide.All
import OpenK.AllK
import Wide.FinOn
import HandS.ForMost
import HandS.SortInts
import HandS.Deep
import HandS.TupLe
import HandS.TupAny
import HandS.IsInst
import HandS.Conv
import HandS.Flow
import HandS.Walk
import HandS.Style
import HandS.Defaults
import HandS.HeadEnd
import HandS.Head0
import HandS.Head1
import HandS.Head2
import HandS.HeadHook1
import HandS.HeadHook2
import HandS.TupMul
import HandS.Zip
import KE.GoesEnum
import HandS.SetFor
import PySem.Challenge.RW_soundsjoined_k55_whole_echoes_turned
set_option Elab.async false
set_option linter.all false
section
set_option maxRecDepth 100000
set_option maxHeartbeats 4000000
/-! Pure values over the hand layer: every rule says what a piece of Python makes of data. -/
namespace PV
open PySem PySem.Spec PyProof.Rows L2

abbrev D := PyData
abbrev St := L2.St
/-- what a slot is known to hold: a value that stays, or a list that this frame alone may change -/
inductive SV where
  | v (d : D)
  | own (ds : List D)
abbrev Ev := List (Option SV)
def gt : Ev → Nat → Option SV
  | [], _ => none
  | a :: _, 0 => a
  | _ :: r, n + 1 => gt r n
def st : Ev → Nat → Option SV → Ev
  | [], _, _ => []
  | _ :: r, 0, s => s :: r
  | a :: r, n + 1, s => a :: st r n s
def fgs : Ev → List Nat → Ev
  | env, [] => env
  | env, i :: is => st (fgs env is) i none
theorem st_length : ∀ (env : Ev) (i : Nat) (s : Option SV), (st env i s).length = env.length
  | [], _, _ => rfl
  | _ :: _, 0, _ => rfl
  | _ :: r, n + 1, s => by simp [st, st_length r n s]
theorem gt_lt : ∀ {env : Ev} {i : Nat} {s : SV}, gt env i = some s → i < env.length
  | [], _, _, h => by simp [gt] at h
  | _ :: _, 0, _, _ => by simp
  | _ :: r, n + 1, s, h => by
    have := gt_lt (env := r) (i := n) (s := s) (by simpa [gt] using h)
    simp; omega
theorem gt_st_ne : ∀ {env : Ev} {i j : Nat} {s : Option SV}, i ≠ j → gt (st env i s) j = gt env j
  | [], _, _, _, _ => rfl
  | _ :: _, 0, 0, _, h => absurd rfl h
  | _ :: _, 0, _ + 1, _, _ => rfl
  | _ :: _, _ + 1, 0, _, _ => rfl
  | _ :: r, n + 1, m + 1, s, h => by
    have := gt_st_ne (env := r) (i := n) (j := m) (s := s) (by omega)
    simpa [st, gt] using this
theorem gt_st_same : ∀ {env : Ev} {i : Nat} {s : Option SV}, i < env.length → gt (st env i s) i = s
  | [], _, _, h => by simp at h
  | _ :: _, 0, _, _ => rfl
  | _ :: r, n + 1, s, h => by
    have := gt_st_same (env := r) (i := n) (s := s) (by simpa using h)
    simpa [st, gt] using this
theorem fgs_length : ∀ (is : List Nat) (env : Ev), (fgs env is).length = env.length
  | [], _ => rfl
  | i :: is, env => by simp [fgs, st_length, fgs_length is env]
theorem gt_fgs : ∀ {is : List Nat} {env : Ev} {i : Nat} {s : SV}, gt (fgs env is) i = some s → gt env i = some s ∧ i ∉ is
  | [], _, _, _, h => ⟨h, by simp⟩
  | j :: is, env, i, s, h => by
    have h : gt (st (fgs env is) j none) i = some s := h
    by_cases e : j = i
    · subst e
      have l := gt_lt h
      rw [st_length] at l
      rw [gt_st_same l] at h; cases h
    · rw [gt_st_ne e] at h
      obtain ⟨h1, h2⟩ := gt_fgs h
      exact ⟨h1, by simp only [List.mem_cons, not_or]; exact ⟨fun z => e z.symm, h2⟩⟩

/-! ### heaps -/
theorem same_upd {H : Hp} {p : Addr} {o : HO} (h : H p = none) : Same H (upd H p o) := fun b x e => by
  rw [upd_ne (ne_of_none e h)]
  exact e
theorem Same.tup {K : PySem.W.Frag} {H H' : Hp} {a : Addr} {xs : List V} (e : Same H H') (h : SqT K H a xs) : SqT K H' a xs := by
  rcases h with (h | ⟨o, h⟩) | h
  · exact .inl (.inl (e _ _ h))
  · exact .inl (.inr ⟨o, e _ _ h⟩)
  · exact .inr h
/-- the script, as data -/
def scrD (ns : List Int) : D := .dict (ns.map fun n => (.int n, .none))
mutual
/-- data as it stands in a part of the heap that stays -/
inductive Dv (K : PySem.W.Frag) (F : Hp) : V → D → Prop
  | non : Dv K F .non .none
  | bl (b : Bool) : Dv K F (.bl b) (.bool b)
  | int (i : Int) : Dv K F (.int i) (.int i)
  | str (x : Str) : Dv K F (.str x) (.str x)
  | lst {a : Addr} {xs : List V} {ds : List D} : F a = some (.lst xs) → DvA K F xs ds → Dv K F (.ref a) (.list ds)
  | tup {a : Addr} {xs : List V} {ds : List D} : F a = some (.tup xs) → DvA K F xs ds → Dv K F (.ref a) (.tuple ds)
  | scr {a : Addr} {ns : List Int} {kvs : List (D × D)} : kvs = ns.map (fun n => (.int n, .none)) → SqL K F a (ns.map V.int) → Dv K F (.ref a) (.dict kvs)
inductive DvA (K : PySem.W.Frag) (F : Hp) : List V → List D → Prop
  | nil : DvA K F [] []
  | cons {v : V} {vs : List V} {d : D} {ds : List D} : Dv K F v d → DvA K F vs ds → DvA K F (v :: vs) (d :: ds)
end
mutual
theorem Dv.mono {K : PySem.W.Frag} {F F' : Hp} (m : Same F F') : ∀ (d : D) (v : V), Dv K F v d → Dv K F' v d
  | .none, _, h => by cases h; exact .non
  | .bool b, _, h => by cases h; exact .bl b
  | .int i, _, h => by cases h; exact .int i
  | .str x, _, h => by cases h; exact .str x
  | .list ds, _, h => by
    cases h with
    | lst hs ha => exact .lst (m _ _ hs) (DvA.mono m ds _ ha)
  | .tuple ds, _, h => by
    cases h with
    | tup hs ha => exact .tup (m _ _ hs) (DvA.mono m ds _ ha)
  | .dict _, _, h => by
    cases h with
    | scr e hs => exact .scr e (Same.seq m hs)
theorem DvA.mono {K : PySem.W.Frag} {F F' : Hp} (m : Same F F') : ∀ (ds : List D) (vs : List V), DvA K F vs ds → DvA K F' vs ds
  | [], _, h => by cases h; exact .nil
  | d :: ds, _, h => by
    cases h with
    | cons h1 h2 => exact .cons (Dv.mono m d _ h1) (DvA.mono m ds _ h2)
end
mutual
/-- for the layer's == -/
theorem Dv.dp {K : PySem.W.Frag} {F : Hp} : ∀ (d : D) (v : V), d.canLay0 = true → Dv K F v d → Dp K F v d
  | .none, _, _, h => by cases h; exact .non
  | .bool b, _, _, h => by cases h; exact .bl b
  | .int i, _, _, h => by cases h; exact .int i
  | .str x, _, _, h => by cases h; exact .str x
  | .list ds, _, c, h => by
    cases h with
    | lst hs ha => exact .lst (SqL.of hs) (DvA.dp ds _ (by simpa [PyData.canLay0] using c) ha)
  | .tuple ds, _, c, h => by
    cases h with
    | tup hs ha => exact .tup (SqT.of hs) (DvA.dp ds _ (by simpa [PyData.canLay0] using c) ha)
  | .dict _, _, c, _ => by simp [PyData.canLay0] at c
theorem DvA.dp {K : PySem.W.Frag} {F : Hp} : ∀ (ds : List D) (vs : List V), PyData.canLayAll0 ds = true → DvA K F vs ds → DpAll K F vs ds
  | [], _, _, h => by cases h; exact .nil
  | d :: ds, _, c, h => by
    cases h with
    | cons h1 h2 =>
      have c' : d.canLay0 = true ∧ PyData.canLayAll0 ds = true := by simpa [PyData.canLayAll0] using c
      exact .cons (Dv.dp d _ c'.1 h1) (DvA.dp ds _ c'.2 h2)
end
section
variable {K : PySem.W.Frag} {F : Hp}
theorem DvA.length : ∀ {vs : List V} {ds : List D}, DvA K F vs ds → vs.length = ds.length
  | _, _, .nil => rfl
  | _, _, .cons _ t => by simp [DvA.length t]
theorem DvA.get : ∀ {vs : List V} {ds : List D} {i : Nat} {d : D}, DvA K F vs ds → ds[i]? = some d → ∃ v, vs[i]? = some v ∧ Dv K F v d
  | _, _, _, _, .nil, h => by simp at h
  | _, _, 0, d, .cons h1 _, h => by simp at h; subst h; exact ⟨_, rfl, h1⟩
  | _, _, i + 1, d, .cons _ t, h => by
    obtain ⟨v, e, q⟩ := DvA.get (i := i) (d := d) t (by simpa using h)
    exact ⟨v, by simpa using e, q⟩
theorem DvA.append : ∀ {vs us : List V} {ds es : List D}, DvA K F vs ds → DvA K F us es → DvA K F (vs ++ us) (ds ++ es)
  | _, _, _, _, .nil, t => t
  | _, _, _, _, .cons h r, t => .cons h (DvA.append r t)
theorem DvA.take : ∀ {vs : List V} {ds : List D} (n : Nat), DvA K F vs ds → DvA K F (vs.take n) (ds.take n)
  | _, _, 0, _ => by simp; exact .nil
  | _, _, _ + 1, .nil => .nil
  | _, _, n + 1, .cons h r => .cons h (DvA.take n r)
theorem DvA.drop : ∀ {vs : List V} {ds : List D} (n : Nat), DvA K F vs ds → DvA K F (vs.drop n) (ds.drop n)
  | _, _, 0, h => h
  | _, _, _ + 1, .nil => .nil
  | _, _, n + 1, .cons _ r => DvA.drop n r
theorem DvA.set : ∀ {vs : List V} {ds : List D} {v : V} {d : D} (i : Nat), DvA K F vs ds → Dv K F v d → DvA K F (vs.set i v) (ds.set i d)
  | _, _, _, _, _, .nil, _ => .nil
  | _, _, _, _, 0, .cons _ r, h => .cons h r
  | _, _, _, _, i + 1, .cons h0 r, h => .cons h0 (DvA.set i r h)
theorem DvA.reverse : ∀ {vs : List V} {ds : List D}, DvA K F vs ds → DvA K F vs.reverse ds.reverse
  | _, _, .nil => .nil
  | _, _, .cons h r => by
    rw [List.reverse_cons, List.reverse_cons]
    exact DvA.append (DvA.reverse r) (.cons h .nil)
theorem DvA.rep {vs : List V} {ds : List D} (h : DvA K F vs ds) : ∀ k : Nat, DvA K F (List.replicate k vs).flatten (List.replicate k ds).flatten
  | 0 => .nil
  | k + 1 => by
    rw [List.replicate_succ, List.replicate_succ, List.flatten_cons, List.flatten_cons]
    exact DvA.append h (DvA.rep h k)
theorem DvA.ints : ∀ ns : List Int, DvA K F (ns.map V.int) (ns.map PyData.int)
  | [] => .nil
  | n :: r => .cons (.int n) (DvA.ints r)
theorem DvA.ints_inv : ∀ {vs : List V} {ns : List Int}, DvA K F vs (ns.map PyData.int) → vs = ns.map V.int
  | _, [], h => by cases h; rfl
  | _, n :: r, h => by
    cases h with
    | cons h1 h2 =>
      cases h1
      rw [DvA.ints_inv h2]; rfl
theorem DvA.bls_inv : ∀ {vs : List V} {ns : List Bool}, DvA K F vs (ns.map PyData.bool) → vs = ns.map V.bl
  | _, [], h => by cases h; rfl
  | _, n :: r, h => by
    cases h with
    | cons h1 h2 =>
      cases h1
      rw [DvA.bls_inv h2]; rfl
end

/-- the frozen part and the heap have grown by new objects alone -/
structure Grow (F H F' H' : Hp) : Prop where
  hh : Same H H'
  fr : ∀ a, H a ≠ none → F' a = F a
  sub : Same F' H'
section
variable {F H F1 H1 F2 H2 : Hp}
theorem Grow.ff (g : Grow F H F1 H1) (s : Same F H) : Same F F1 := fun a o e => (g.fr a (by rw [s a o e]; simp)).trans e
theorem Grow.refl (s : Same F H) : Grow F H F H := ⟨Same.refl H, fun _ _ => rfl, s⟩
theorem Grow.trans (g : Grow F H F1 H1) (k : Grow F1 H1 F2 H2) : Grow F H F2 H2 where
  hh := g.hh.trans k.hh
  fr := fun a h => by
    obtain ⟨o, e⟩ := Option.ne_none_iff_exists'.mp h
    rw [k.fr a (by rw [g.hh a o e]; simp), g.fr a h]
  sub := k.sub
/-- a new object that stays -/
theorem Grow.new {p : Addr} {o : HO} (s : Same F H) (hp : H p = none) : Grow F H (upd F p o) (upd H p o) where
  hh := same_upd hp
  fr := fun a h => upd_ne (fun e => h (by rw [e]; exact hp))
  sub := fun a x e => by
    by_cases z : a = p
    · subst z; rw [upd_same] at e ⊢; exact e
    · rw [upd_ne z] at e ⊢; exact s a x e
/-- a new object that may still change -/
theorem Grow.made {p : Addr} {o : HO} (s : Same F H) (hp : H p = none) : Grow F H F (upd H p o) where
  hh := same_upd hp
  fr := fun _ _ => rfl
  sub := fun a x e => by
    have q := s a x e
    rw [upd_ne (ne_of_none q hp)]; exact q
theorem fnone (s : Same F H) {p : Addr} (hp : H p = none) : F p = none := by
  cases q : F p with
  | none => rfl
  | some o => rw [s p o q] at hp; cases hp
end

def SRel (K : PySem.W.Frag) (H0 F H : Hp) (x : V) : SV → Prop
  | .v d => Dv K F x d
  | .own ds => ∃ a vs, x = .ref a ∧ H a = some (.lst vs) ∧ F a = none ∧ H0 a = none ∧ DvA K F vs ds
/-- the slots as the known values tell. H0, F0: the heap and its frozen part at the def's entry -/
structure Rel (K : PySem.W.Frag) (H0 F0 : Hp) (env : Ev) (σ : St) (F H : Hp) : Prop where
  base : Same H0 H
  sub : Same F H
  frz : ∀ a, H0 a ≠ none → F a = F0 a
  len : env.length = σ.length
  slot : ∀ i s, gt env i = some s → ∃ x, σ[i]? = some (some x) ∧ SRel K H0 F H x s
  apart : ∀ i j x ds es, gt env i = some (.own ds) → gt env j = some (.own es) → σ[i]? = some (some x) → σ[j]? = some (some x) → i = j
section
variable {K : PySem.W.Frag} {H0 F0 F H F' H' : Hp} {env : Ev} {σ : St}
theorem SRel.grow {x : V} {s : SV} (h : SRel K H0 F H x s) (g : Grow F H F' H') (sb : Same F H) : SRel K H0 F' H' x s := by
  cases s with
  | v d => exact Dv.mono (g.ff sb) d x h
  | own ds =>
    obtain ⟨a, vs, e, h1, h2, h3, h4⟩ := h
    exact ⟨a, vs, e, g.hh _ _ h1, (g.fr a (by rw [h1]; simp)).trans h2, h3, DvA.mono (g.ff sb) _ _ h4⟩
theorem Rel.grow (r : Rel K H0 F0 env σ F H) (g : Grow F H F' H') : Rel K H0 F0 env σ F' H' where
  base := r.base.trans g.hh
  sub := g.sub
  frz := fun a h => by
    obtain ⟨o, e⟩ := Option.ne_none_iff_exists'.mp h
    rw [g.fr a (by rw [r.base a o e]; simp), r.frz a h]
  len := r.len
  slot := fun i s e => by
    obtain ⟨x, e1, q⟩ := r.slot i s e
    exact ⟨x, e1, q.grow g r.sub⟩
  apart := r.apart
/-- a slot is stored -/
theorem Rel.set (r : Rel K H0 F0 env σ F H) {i : Nat} {x : V} {d : D} (h : Dv K F x d) : Rel K H0 F0 (st env i (some (.v d))) (σ.set i (some x)) F H where
  base := r.base
  sub := r.sub
  frz := r.frz
  len := by rw [st_length, List.length_set]; exact r.len
  slot := fun j s e => by
    have lj := gt_lt e
    rw [st_length, r.len] at lj
    by_cases q : i = j
    · subst q
      rw [gt_st_same (by rw [r.len]; exact lj)] at e
      cases e
      exact ⟨x, List.getElem?_set_self lj, h⟩
    · rw [gt_st_ne q] at e
      obtain ⟨y, e1, q1⟩ := r.slot j s e
      exact ⟨y, by rw [List.getElem?_set_ne q]; exact e1, q1⟩
  apart := fun j k y ds es e1 e2 s1 s2 => by
    have h1 : i ≠ j := fun z => by
      subst z
      have l := gt_lt e1
      rw [st_length] at l
      rw [gt_st_same l] at e1; cases e1
    have h2 : i ≠ k := fun z => by
      subst z
      have l := gt_lt e2
      rw [st_length] at l
      rw [gt_st_same l] at e2; cases e2
    rw [gt_st_ne h1] at e1
    rw [gt_st_ne h2] at e2
    rw [List.getElem?_set_ne h1] at s1
    rw [List.getElem?_set_ne h2] at s2
    exact r.apart j k y ds es e1 e2 s1 s2
/-- a list of our own is stored: its address is in no slot of ours -/
theorem Rel.setOwn (r : Rel K H0 F0 env σ F H) {i : Nat} {a : Addr} {vs : List V} {ds : List D} (h1 : H a = some (.lst vs)) (h2 : F a = none) (h3 : H0 a = none) (h4 : DvA K F vs ds)
    (hn : ∀ j es, gt env j = some (.own es) → σ[j]? ≠ some (some (.ref a))) : Rel K H0 F0 (st env i (some (.own ds))) (σ.set i (some (.ref a))) F H where
  base := r.base
  sub := r.sub
  frz := r.frz
  len := by rw [st_length, List.length_set]; exact r.len
  slot := fun j s e => by
    have lj := gt_lt e
    rw [st_length, r.len] at lj
    by_cases q : i = j
    · subst q
      rw [gt_st_same (by rw [r.len]; exact lj)] at e
      cases e
      exact ⟨.ref a, List.getElem?_set_self lj, ⟨a, vs, rfl, h1, h2, h3, h4⟩⟩
    · rw [gt_st_ne q] at e
      obtain ⟨y, e1, q1⟩ := r.slot j s e
      exact ⟨y, by rw [List.getElem?_set_ne q]; exact e1, q1⟩
  apart := fun j k y es fs e1 e2 s1 s2 => by
    have lj : j < σ.length := by have := gt_lt e1; rw [st_length, r.len] at this; exact this
    have lk : k < σ.length := by have := gt_lt e2; rw [st_length, r.len] at this; exact this
    by_cases q1 : i = j
    · subst q1
      by_cases q2 : i = k
      · exact q2
      · rw [List.getElem?_set_self lj] at s1
        rw [gt_st_ne q2] at e2
        rw [List.getElem?_set_ne q2] at s2
        cases s1
        exact absurd s2 (hn k fs e2)
    · rw [gt_st_ne q1] at e1
      rw [List.getElem?_set_ne q1] at s1
      by_cases q2 : i = k
      · subst q2
        rw [List.getElem?_set_self lk] at s2
        cases s2
        exact absurd s1 (hn j es e1)
      · rw [gt_st_ne q2] at e2
        rw [List.getElem?_set_ne q2] at s2
        exact r.apart j k y es fs e1 e2 s1 s2
/-- slots forgotten -/
theorem Rel.weak {env' : Ev} (r : Rel K H0 F0 env σ F H) (hl : env'.length = env.length) (h : ∀ i s, gt env' i = some s → gt env i = some s) : Rel K H0 F0 env' σ F H :=
  ⟨r.base, r.sub, r.frz, hl.trans r.len, fun i s e => r.slot i s (h i s e), fun i j x ds es e1 e2 => r.apart i j x ds es (h _ _ e1) (h _ _ e2)⟩
theorem Rel.fgs (r : Rel K H0 F0 env σ F H) (is : List Nat) : Rel K H0 F0 (fgs env is) σ F H := r.weak (fgs_length is env) fun _ _ e => (gt_fgs e).1
theorem wipe_get {σ : St} {i : Nat} : ∀ {vs : List Nat}, i ∉ vs → (wipe σ vs)[i]? = σ[i]?
  | [], _ => rfl
  | v :: vs, h => by
    unfold wipe
    simp only [List.mem_cons, not_or] at h
    rw [List.getElem?_set_ne (Ne.symm h.1)]
    exact wipe_get h.2
theorem Rel.wipe (r : Rel K H0 F0 env σ F H) (is : List Nat) : Rel K H0 F0 (PV.fgs env is) (L2.wipe σ is) F H where
  base := r.base
  sub := r.sub
  frz := r.frz
  len := by rw [fgs_length, wipe_length]; exact r.len
  slot := fun i s e => by
    obtain ⟨h1, h2⟩ := gt_fgs e
    obtain ⟨x, e1, q⟩ := r.slot i s h1
    exact ⟨x, (wipe_get h2).trans e1, q⟩
  apart := fun i j x ds es e1 e2 s1 s2 => by
    obtain ⟨h1, k1⟩ := gt_fgs e1
    obtain ⟨h2, k2⟩ := gt_fgs e2
    exact r.apart i j x ds es h1 h2 ((wipe_get k1).symm.trans s1) ((wipe_get k2).symm.trans s2)
end

/-! ### readings by what is made of the known values -/
/-- an operand: a value that stays, or a list of our own as it stands -/
def Bw (K : PySem.W.Frag) (F H : Hp) (x : V) (d : D) : Prop := Dv K F x d ∨ ∃ a vs ds, x = .ref a ∧ d = .list ds ∧ H a = some (.lst vs) ∧ DvA K F vs ds
theorem Bw.grow {K : PySem.W.Frag} {F H F' H' : Hp} {x : V} {d : D} (h : Bw K F H x d) (g : Grow F H F' H') (s : Same F H) : Bw K F' H' x d := by
  rcases h with h | ⟨a, vs, ds, e1, e2, h1, h2⟩
  · exact .inl (Dv.mono (g.ff s) d x h)
  · exact .inr ⟨a, vs, ds, e1, e2, g.hh _ _ h1, DvA.mono (g.ff s) _ _ h2⟩
/-- in the heap itself -/
theorem Bw.here {K : PySem.W.Frag} {F H : Hp} {x : V} {d : D} (h : Bw K F H x d) (s : Same F H) : Dv K H x d := by
  rcases h with h | ⟨a, vs, ds, rfl, rfl, h1, h2⟩
  · exact Dv.mono s d x h
  · exact .lst h1 (DvA.mono s _ _ h2)
def rdE (K : PySem.W.Frag) (den : Ev → Option D) : TE := fun σ H Q => ∃ H0 F0 env F d, Rel K H0 F0 env σ F H ∧ den env = some d ∧ ∀ x F' H', Grow F H F' H' → Dv K F' x d → Q x H'
def rdB (K : PySem.W.Frag) (den : Ev → Option D) : TE := fun σ H Q => ∃ H0 F0 env F d, Rel K H0 F0 env σ F H ∧ den env = some d ∧ ∀ x F' H', Grow F H F' H' → Bw K F' H' x d → Q x H'
/-- a new list -/
def rdN (K : PySem.W.Frag) (den : Ev → Option (List D)) : TE := fun σ H Q => ∃ H0 F0 env F ds, Rel K H0 F0 env σ F H ∧ den env = some ds ∧
  ∀ a vs F' H', Grow F H F' H' → H a = none → H' a = some (.lst vs) → F' a = none → DvA K F' vs ds → Q (.ref a) H'
def rdT (K : PySem.W.Frag) (den : Ev → Option Bool) : TT := fun σ H Q => ∃ H0 F0 env F b, Rel K H0 F0 env σ F H ∧ den env = some b ∧ ∀ F' H', Grow F H F' H' → Q b H'
def rdA (K : PySem.W.Frag) (den : Ev → Option (List D)) : TA := fun σ H Q => ∃ H0 F0 env F ds, Rel K H0 F0 env σ F H ∧ den env = some ds ∧ ∀ xs F' H', Grow F H F' H' → DvA K F' xs ds → Q xs H'
abbrev PVE (X : Cx) (e : Expr) (den : Ev → Option D) : Prop := PE X e (rdE X.K den)
abbrev PVB (X : Cx) (e : Expr) (den : Ev → Option D) : Prop := PE X e (rdB X.K den)
abbrev PVN (X : Cx) (e : Expr) (den : Ev → Option (List D)) : Prop := PE X e (rdN X.K den)
abbrev PVT (X : Cx) (e : Expr) (den : Ev → Option Bool) : Prop := PT X e (rdT X.K den)
abbrev PVW (X : Cx) (e : Expr) (den : Ev → Option Bool) : Prop := PW X e (rdT X.K den)
abbrev PVA (X : Cx) (es : List Expr) (den : Ev → Option (List D)) : Prop := PA X es (rdA X.K den)
theorem PE.imp {X : Cx} {e : Expr} {t t' : TE} (h : PE X e t) (k : ∀ σ H Q, t' σ H Q → t σ H Q) : PE X e t' := ⟨fun pins s σ H Q I q => h.run pins s σ H Q I (k _ _ _ q)⟩
theorem PT.imp {X : Cx} {e : Expr} {t t' : TT} (h : PT X e t) (k : ∀ σ H Q, t' σ H Q → t σ H Q) : PT X e t' := ⟨fun pins s σ H Q I q => h.run pins s σ H Q I (k _ _ _ q)⟩
theorem PW.imp {X : Cx} {e : Expr} {t t' : TT} (h : PW X e t) (k : ∀ σ H Q, t' σ H Q → t σ H Q) : PW X e t' := ⟨fun wh pins s σ H Q I q => h.run wh pins s σ H Q I (k _ _ _ q)⟩
theorem PA.imp {X : Cx} {e : List Expr} {t t' : TA} (h : PA X e t) (k : ∀ σ H Q, t' σ H Q → t σ H Q) : PA X e t' := ⟨fun pos pins s σ H Q I q => h.run pos pins s σ H Q I (k _ _ _ q)⟩
theorem PS.imp {X : Cx} {e : Stmt} {t t' : TS} (h : PS X e t) (k : ∀ D σ H, t' D σ H → t D σ H) : PS X e t' := ⟨fun pins s σ H D I q => h.run pins s σ H D I (k _ _ _ q)⟩
theorem PSs.imp {X : Cx} {e : List Stmt} {t t' : TS} (h : PSs X e t) (k : ∀ D σ H, t' D σ H → t D σ H) : PSs X e t' := ⟨fun pins s σ H D I q => h.run pins s σ H D I (k _ _ _ q)⟩
section
variable {X : Cx} {e a b c : Expr} {pos : Pos} {da db dc : Ev → Option D}
theorem PE.toB (h : PVE X e da) : PVB X e da := PE.imp h fun σ H Q ⟨H0, F0, env, F, d, r, ed, k⟩ => ⟨H0, F0, env, F, d, r, ed, fun x F' H' g hd => k x F' H' g (.inl hd)⟩
/-- a new list, from here on left as it is -/
def eLst (dn : Ev → Option (List D)) : Ev → Option D := fun env => (dn env).map PyData.list
theorem PE.ofN {dn : Ev → Option (List D)} (h : PVN X e dn) : PVE X e (eLst dn) := PE.imp h fun σ H Q ⟨H0, F0, env, F, d, r, ed, k⟩ => by
  obtain ⟨ds, e1, e2⟩ := Option.map_eq_some_iff.mp ed
  subst e2
  refine ⟨H0, F0, env, F, ds, r, e1, fun a vs F' H' g hn h1 h2 h3 => k (.ref a) (upd F' a (.lst vs)) H' ⟨g.hh, fun b hb => ?_, fun b o eb => ?_⟩ ?_⟩
  · have : b ≠ a := fun z => hb (by rw [z]; exact hn)
    rw [upd_ne this]; exact g.fr b hb
  · by_cases z : b = a
    · subst z; rw [upd_same] at eb; cases eb; exact h1
    · rw [upd_ne z] at eb; exact g.sub b o eb
  · exact .lst upd_same (DvA.mono (same_upd h2) _ _ h3)
theorem PE.nB {dn : Ev → Option (List D)} (h : PVN X e dn) : PVB X e (eLst dn) := PE.toB (PE.ofN h)

/-! ### names, constants -/
def eVar (i : Nat) : Ev → Option D := fun env => match gt env i with | some (.v d) => some d | _ => none
def bVar (i : Nat) : Ev → Option D := fun env => match gt env i with | some (.v d) => some d | some (.own ds) => some (.list ds) | none => none
def eC (d : D) : Ev → Option D := fun _ => some d
theorem ve (i : Nat) {x : Str} (hN : X.N[i]? = some x := by rfl) (hv : Vis X.env.scope x := by first | exact Or.inl rfl | exact Or.inr (Or.inl rfl) | exact Or.inr (Or.inr rfl)) (hd : (x == ("__debug__" : Str)) = false := by decide)
    (hcd : (x == ("__classdict__" : Str)) = false := by decide) : PVE X (.Name x pos) (eVar i) := PE.imp (pe_var (i := i) hN hv hd hcd) fun σ H Q ⟨H0, F0, env, F, d, r, ed, k⟩ => by
  unfold eVar at ed
  split at ed
  · rename_i d' hg
    cases ed
    obtain ⟨x, e1, q⟩ := r.slot i _ hg
    exact ⟨x, e1, k x F H (Grow.refl r.sub) q⟩
  · cases ed
theorem vb (i : Nat) {x : Str} (hN : X.N[i]? = some x := by rfl) (hv : Vis X.env.scope x := by first | exact Or.inl rfl | exact Or.inr (Or.inl rfl) | exact Or.inr (Or.inr rfl)) (hd : (x == ("__debug__" : Str)) = false := by decide)
    (hcd : (x == ("__classdict__" : Str)) = false := by decide) : PVB X (.Name x pos) (bVar i) := PE.imp (pe_var (i := i) hN hv hd hcd) fun σ H Q ⟨H0, F0, env, F, d, r, ed, k⟩ => by
  unfold bVar at ed
  split at ed
  · rename_i d' hg
    cases ed
    obtain ⟨x, e1, q⟩ := r.slot i _ hg
    exact ⟨x, e1, k x F H (Grow.refl r.sub) (.inl q)⟩
  · rename_i ds hg
    cases ed
    obtain ⟨x, e1, q⟩ := r.slot i _ hg
    obtain ⟨a, vs, ex, h1, h2, h3, h4⟩ := q
    exact ⟨x, e1, k x F H (Grow.refl r.sub) (.inr ⟨a, vs, ds, ex, rfl, h1, h4⟩)⟩
  · cases ed
theorem vc_int {i : Int} {j} : PVE X (.Constant (.int i) j pos) (eC (.int i)) := PE.imp pe_int fun σ H Q ⟨H0, F0, env, F, d, r, ed, k⟩ => by cases ed; exact k _ F H (Grow.refl r.sub) (.int i)
theorem vc_bl {i : Bool} {j} : PVE X (.Constant (.bool i) j pos) (eC (.bool i)) := PE.imp pe_bl fun σ H Q ⟨H0, F0, env, F, d, r, ed, k⟩ => by cases ed; exact k _ F H (Grow.refl r.sub) (.bl i)
theorem vc_non {j} : PVE X (.Constant .none j pos) (eC .none) := PE.imp pe_non fun σ H Q ⟨H0, F0, env, F, d, r, ed, k⟩ => by cases ed; exact k _ F H (Grow.refl r.sub) .non
theorem vc_str {z : Str} {j} : PVE X (.Constant (.str z) j pos) (eC (.str z)) := PE.imp pe_str fun σ H Q ⟨H0, F0, env, F, d, r, ed, k⟩ => by cases ed; exact k _ F H (Grow.refl r.sub) (.str z)

/-! ### two operands -/
def e2 (g : D → D → Option D) (da db : Ev → Option D) : Ev → Option D := fun env => (da env).bind fun x => (db env).bind fun y => g x y
def e1 (g : D → Option D) (da : Ev → Option D) : Ev → Option D := fun env => (da env).bind g
def n2 (g : D → D → Option (List D)) (da db : Ev → Option D) : Ev → Option (List D) := fun env => (da env).bind fun x => (db env).bind fun y => g x y
/-- the reading of an operation on two values that makes g of them -/
def rOf (K : PySem.W.Frag) (g : D → D → Option D) : R2 := fun x y H Q => ∃ F d e z, Same F H ∧ Bw K F H x d ∧ Bw K F H y e ∧ g d e = some z ∧ ∀ w F' H', Grow F H F' H' → Dv K F' w z → Q w H'
/-- .. a new list -/
def rnOf (K : PySem.W.Frag) (g : D → D → Option (List D)) : R2 := fun x y H Q => ∃ F d e zs, Same F H ∧ Bw K F H x d ∧ Bw K F H y e ∧ g d e = some zs ∧
  ∀ a vs F' H', Grow F H F' H' → H a = none → H' a = some (.lst vs) → F' a = none → DvA K F' vs zs → Q (.ref a) H'
theorem bin_rd {K : PySem.W.Frag} {g : D → D → Option D} {σ : St} {H : Hp} {Q : VK} (q : rdE K (e2 g da db) σ H Q) : tOp (rOf K g) (rdB K da) (rdB K db) σ H Q := by
  obtain ⟨H0, F0, env, F, z, rl, ed, k⟩ := q
  obtain ⟨d, h1, ed⟩ := Option.bind_eq_some_iff.mp ed
  obtain ⟨e, h2, ed⟩ := Option.bind_eq_some_iff.mp ed
  exact ⟨H0, F0, env, F, d, rl, h1, fun x F1 H1 g1 b1 => ⟨H0, F0, env, F1, e, rl.grow g1, h2, fun y F2 H2 g2 b2 =>
    ⟨F2, d, e, z, g2.sub, b1.grow g2 g1.sub, b2, ed, fun w F' H' g' hw => k w F' H' (g1.trans (g2.trans g')) hw⟩⟩⟩
theorem bin_rn {K : PySem.W.Frag} {g : D → D → Option (List D)} {σ : St} {H : Hp} {Q : VK} (q : rdN K (n2 g da db) σ H Q) : tOp (rnOf K g) (rdB K da) (rdB K db) σ H Q := by
  obtain ⟨H0, F0, env, F, z, rl, ed, k⟩ := q
  obtain ⟨d, h1, ed⟩ := Option.bind_eq_some_iff.mp ed
  obtain ⟨e, h2, ed⟩ := Option.bind_eq_some_iff.mp ed
  refine ⟨H0, F0, env, F, d, rl, h1, fun x F1 H1 g1 b1 => ⟨H0, F0, env, F1, e, rl.grow g1, h2, fun y F2 H2 g2 b2 =>
    ⟨F2, d, e, z, g2.sub, b1.grow g2 g1.sub, b2, ed, fun a vs F' H' g' hn ha hf hv => k a vs F' H' (g1.trans (g2.trans g')) ?_ ha hf hv⟩⟩⟩
  cases hh : H a with
  | none => rfl
  | some o => rw [(g1.trans g2).hh a o hh] at hn; cases hn
theorem vop {op : Operator} {g : D → D → Option D} (ho : OpR X (binaryOp op) (rOf X.K g)) (ha : PVB X a da) (hb : PVB X b db) : PVE X (.BinOp a op b pos) (e2 g da db) :=
  PE.imp (pe_op ho ha hb) fun _ _ _ q => bin_rd q
theorem vopN {op : Operator} {g : D → D → Option (List D)} (ho : OpR X (binaryOp op) (rnOf X.K g)) (ha : PVB X a da) (hb : PVB X b db) : PVN X (.BinOp a op b pos) (n2 g da db) :=
  PE.imp (pe_op ho ha hb) fun _ _ _ q => bin_rn q
theorem vcmp {op : CmpOp} {g : D → D → Option D} (ho : OpR X (compareOp op) (rOf X.K g)) (ha : PVB X a da) (hb : PVB X b db) (hm : behindInMarks op b = false := by first | exact nobehind _ (by decide) (by decide) | rfl) : PVE X (.Compare a [op] [b] pos) (e2 g da db) :=
  PE.imp (pe_cmpR ho ha hb hm) fun _ _ _ q => bin_rd q
def t1 (g : D → Option Bool) (da : Ev → Option D) : Ev → Option Bool := fun env => (da env).bind g
def isB : D → Option Bool
  | .bool b => some b
  | _ => none
theorem isB_some {d : D} {b : Bool} (h : isB d = some b) : d = .bool b := by
  cases d <;> simp only [isB] at h <;> cases h
  rfl
theorem vcmpT {op : CmpOp} {g : D → D → Option D} (ho : OpR X (compareOp op) (rOf X.K g)) (ha : PVB X a da) (hb : PVB X b db) (hm : behindInMarks op b = false := by first | exact nobehind _ (by decide) (by decide) | rfl) : PVT X (.Compare a [op] [b] pos) (t1 isB (e2 g da db)) :=
  PT.imp (pt_cmpR ho ha hb hm) fun σ H Q ⟨H0, F0, env, F, z, rl, ed, k⟩ => by
    obtain ⟨w, h1, h2⟩ := Option.bind_eq_some_iff.mp ed
    obtain rfl := isB_some h2
    refine bin_rd ⟨H0, F0, env, F, _, rl, h1, fun x F' H' g hd => ?_⟩
    cases hd
    exact ⟨_, rfl, k F' H' g⟩
/-- a op b op c -/
def eCh (g g' : D → D → Option D) (da db dc : Ev → Option D) : Ev → Option D := fun env => (da env).bind fun x => (db env).bind fun y => (g x y).bind fun z => (isB z).bind fun k =>
  if k = true then (dc env).bind fun w => g' y w else some (.bool false)
theorem chain_rd {K : PySem.W.Frag} {g g' : D → D → Option D} {σ : St} {H : Hp} {Q : VK} (q : rdE K (eCh g g' da db dc) σ H Q) : tChain (rOf K g) (rOf K g') (rdB K da) (rdB K db) (rdB K dc) σ H Q := by
  obtain ⟨H0, F0, env, F, z, rl, ed, k⟩ := q
  obtain ⟨d, h1, ed⟩ := Option.bind_eq_some_iff.mp ed
  obtain ⟨e, h2, ed⟩ := Option.bind_eq_some_iff.mp ed
  obtain ⟨f, h3, ed⟩ := Option.bind_eq_some_iff.mp ed
  obtain ⟨t, h4, ed4⟩ := Option.bind_eq_some_iff.mp ed
  obtain rfl := isB_some h4
  refine ⟨H0, F0, env, F, d, rl, h1, fun x F1 H1 g1 b1 => ⟨H0, F0, env, F1, e, rl.grow g1, h2, fun y F2 H2 g2 b2 =>
    ⟨F2, d, e, _, g2.sub, b1.grow g2 g1.sub, b2, h3, fun w F3 H3 g3 hw => ?_⟩⟩⟩
  cases hw
  refine ⟨t, rfl, ?_⟩
  cases t with
  | false =>
    simp only [Bool.false_eq_true, if_false] at ed4 ⊢
    cases ed4
    exact k _ F3 H3 (g1.trans (g2.trans g3)) (.bl false)
  | true =>
    simp only [if_true] at ed4 ⊢
    obtain ⟨c, h5, ed5⟩ := Option.bind_eq_some_iff.mp ed4
    exact ⟨H0, F0, env, F3, c, rl.grow (g1.trans (g2.trans g3)), h5, fun w F4 H4 g4 b4 => ⟨F4, e, c, z, g4.sub, b2.grow (g3.trans g4) g2.sub, b4, ed5, fun w' F' H' g' hw => k w' F' H' (g1.trans (g2.trans (g3.trans (g4.trans g')))) hw⟩⟩
theorem vch {op op' : CmpOp} {g g' : D → D → Option D} (ho : OpR X (compareOp op) (rOf X.K g)) (ho' : OpR X (compareOp op') (rOf X.K g')) (ha : PVB X a da) (hb : PVB X b db) (hc : PVB X c dc)
    (hm : lastMarks [op, op'] [b, c] = false := by with_unfolding_all rfl) : PVE X (.Compare a [op, op'] [b, c] pos) (eCh g g' da db dc) :=
  PE.imp (pe_chain ho ho' ha hb hc hm) fun _ _ _ q => chain_rd q
theorem vchT {op op' : CmpOp} {g g' : D → D → Option D} (ho : OpR X (compareOp op) (rOf X.K g)) (ho' : OpR X (compareOp op') (rOf X.K g')) (ha : PVB X a da) (hb : PVB X b db) (hc : PVB X c dc)
    (hm : lastMarks [op, op'] [b, c] = false := by with_unfolding_all rfl) : PVT X (.Compare a [op, op'] [b, c] pos) (t1 isB (eCh g g' da db dc)) :=
  PT.imp (pt_chain ho ho' ha hb hc hm) fun σ H Q ⟨H0, F0, env, F, z, rl, ed, k⟩ => by
    obtain ⟨w, h1, h2⟩ := Option.bind_eq_some_iff.mp ed
    obtain rfl := isB_some h2
    refine chain_rd ⟨H0, F0, env, F, _, rl, h1, fun x F' H' g hd => ?_⟩
    cases hd
    exact ⟨_, rfl, k F' H' g⟩
/-- one operand -/
def ruOf (K : PySem.W.Frag) (g : D → Option D) : V → Hp → VK → Prop := fun x H Q => ∃ F d z, Same F H ∧ Bw K F H x d ∧ g d = some z ∧ ∀ w F' H', Grow F H F' H' → Dv K F' w z → Q w H'
theorem vun {op : UnaryOp} {g : D → Option D} (ho : UnR X (unaryOp op) (ruOf X.K g)) (ha : PVB X a da) : PVE X (.UnaryOp op a pos) (e1 g da) :=
  PE.imp (pe_un ho ha) fun σ H Q ⟨H0, F0, env, F, z, rl, ed, k⟩ => by
    obtain ⟨d, h1, ed⟩ := Option.bind_eq_some_iff.mp ed
    exact ⟨H0, F0, env, F, d, rl, h1, fun x F1 H1 g1 b1 => ⟨F1, d, z, g1.sub, b1, ed, fun w F' H' g' hw => k w F' H' (g1.trans g') hw⟩⟩
/-- a subscript -/
theorem vix {g : D → D → Option D} (hr : IxR X (rOf X.K g)) (ha : PVB X a da) (hb : PVB X b db) (hs : PlainIx b := by exact fun _ _ => rfl) : PVE X (.Subscript a b pos) (e2 g da db) :=
  PE.imp (pe_ix hr ha hb hs) fun _ _ _ q => bin_rd q

/-! ### arguments, displays -/
inductive BwA (K : PySem.W.Frag) (F H : Hp) : List V → List D → Prop
  | nil : BwA K F H [] []
  | cons {v : V} {vs : List V} {d : D} {ds : List D} : Bw K F H v d → BwA K F H vs ds → BwA K F H (v :: vs) (d :: ds)
theorem BwA.grow {K : PySem.W.Frag} {F H F' H' : Hp} (g : Grow F H F' H') (s : Same F H) : ∀ {xs : List V} {ds : List D}, BwA K F H xs ds → BwA K F' H' xs ds
  | _, _, .nil => .nil
  | _, _, .cons h t => .cons (h.grow g s) (BwA.grow g s t)
def rdAB (K : PySem.W.Frag) (den : Ev → Option (List D)) : TA := fun σ H Q => ∃ H0 F0 env F ds, Rel K H0 F0 env σ F H ∧ den env = some ds ∧ ∀ xs F' H', Grow F H F' H' → BwA K F' H' xs ds → Q xs H'
abbrev PVAB (X : Cx) (es : List Expr) (den : Ev → Option (List D)) : Prop := PA X es (rdAB X.K den)
def aNil : Ev → Option (List D) := fun _ => some []
def aCons (da : Ev → Option D) (dr : Ev → Option (List D)) : Ev → Option (List D) := fun env => (da env).bind fun x => (dr env).bind fun xs => some (x :: xs)
variable {es : List Expr} {dr : Ev → Option (List D)}
theorem va_nil : PVA X [] aNil := PA.imp pa_nil fun σ H Q ⟨H0, F0, env, F, z, rl, ed, k⟩ => by cases ed; exact k [] F H (Grow.refl rl.sub) .nil
theorem vab_nil : PVAB X [] aNil := PA.imp pa_nil fun σ H Q ⟨H0, F0, env, F, z, rl, ed, k⟩ => by cases ed; exact k [] F H (Grow.refl rl.sub) .nil
theorem va_cons (ha : PVE X e da) (hr : PVA X es dr) (hs : starEach (e :: es) X.env = (false, eval e X.env) :: starEach es X.env := by rfl) : PVA X (e :: es) (aCons da dr) :=
  PA.imp (pa_cons ha hr hs) fun σ H Q ⟨H0, F0, env, F, z, rl, ed, k⟩ => by
    obtain ⟨d, h1, ed⟩ := Option.bind_eq_some_iff.mp ed
    obtain ⟨ds, h2, ed⟩ := Option.bind_eq_some_iff.mp ed
    cases ed
    exact ⟨H0, F0, env, F, d, rl, h1, fun x F1 H1 g1 b1 => ⟨H0, F0, env, F1, ds, rl.grow g1, h2, fun xs F2 H2 g2 b2 => k _ F2 H2 (g1.trans g2) (.cons (Dv.mono (g2.ff g1.sub) _ _ b1) b2)⟩⟩
theorem vab_cons (ha : PVB X e da) (hr : PVAB X es dr) (hs : starEach (e :: es) X.env = (false, eval e X.env) :: starEach es X.env := by rfl) : PVAB X (e :: es) (aCons da dr) :=
  PA.imp (pa_cons ha hr hs) fun σ H Q ⟨H0, F0, env, F, z, rl, ed, k⟩ => by
    obtain ⟨d, h1, ed⟩ := Option.bind_eq_some_iff.mp ed
    obtain ⟨ds, h2, ed⟩ := Option.bind_eq_some_iff.mp ed
    cases ed
    exact ⟨H0, F0, env, F, d, rl, h1, fun x F1 H1 g1 b1 => ⟨H0, F0, env, F1, ds, rl.grow g1, h2, fun xs F2 H2 g2 b2 => k _ F2 H2 (g1.trans g2) (.cons (b1.grow g2 g1.sub) b2)⟩⟩
def line : Nat := 16777216
theorem le_line {n : Nat} (h : n ≤ line) : n ≤ sizeLine := by rw [sizeLine_eq]; exact h
def tupD (ds : List D) : Option D := if ds.length ≤ line then some (.tuple ds) else none
def eTup (dr : Ev → Option (List D)) : Ev → Option D := fun env => (dr env).bind tupD
theorem vtup {x1} (h : PVA X es dr) : PVE X (.Tuple es x1 pos) (eTup dr) := PE.imp (pe_tup h) fun σ H Q ⟨H0, F0, env, F, z, rl, ed, k⟩ => by
  obtain ⟨ds, h1, ed⟩ := Option.bind_eq_some_iff.mp ed
  unfold tupD at ed
  split at ed <;> cases ed
  rename_i hz
  refine ⟨H0, F0, env, F, ds, rl, h1, fun xs F1 H1 g1 b1 => ⟨by rw [DvA.length b1]; exact le_line hz, fun p hp => k _ _ _ (g1.trans (Grow.new g1.sub hp)) (.tup upd_same (DvA.mono (same_upd (fnone g1.sub hp)) _ _ b1))⟩⟩
def nLst (dr : Ev → Option (List D)) : Ev → Option (List D) := fun env => (dr env).bind fun ds => if ds.length ≤ line then some ds else none
theorem vlst (h : PVA X es dr) : PVN X (.List es pos) (nLst dr) := PE.imp (pe_lst h) fun σ H Q ⟨H0, F0, env, F, z, rl, ed, k⟩ => by
  obtain ⟨ds, h1, ed⟩ := Option.bind_eq_some_iff.mp ed
  split at ed <;> cases ed
  rename_i hz
  refine ⟨H0, F0, env, F, z, rl, h1, fun xs F1 H1 g1 b1 => ⟨by rw [DvA.length b1]; exact le_line hz, fun p hp => ?_⟩⟩
  refine k p xs F1 _ (g1.trans (Grow.made g1.sub hp)) ?_ upd_same (fnone g1.sub hp) b1
  cases hh : H p with
  | none => rfl
  | some o => rw [g1.hh p o hh] at hp; cases hp

/-! ### calls of what is built in -/
def rcOf (K : PySem.W.Frag) (g : List D → Option D) : List V → Hp → VK → Prop := fun xs H Q => ∃ F ds z, Same F H ∧ BwA K F H xs ds ∧ g ds = some z ∧ ∀ w F' H', Grow F H F' H' → Dv K F' w z → Q w H'
def rcnOf (K : PySem.W.Frag) (g : List D → Option (List D)) : List V → Hp → VK → Prop := fun xs H Q => ∃ F ds zs, Same F H ∧ BwA K F H xs ds ∧ g ds = some zs ∧
  ∀ a vs F' H', Grow F H F' H' → H a = none → H' a = some (.lst vs) → F' a = none → DvA K F' vs zs → Q (.ref a) H'
def eA (g : List D → Option D) (dr : Ev → Option (List D)) : Ev → Option D := fun env => (dr env).bind g
def nA (g : List D → Option (List D)) (dr : Ev → Option (List D)) : Ev → Option (List D) := fun env => (dr env).bind g
theorem call_rd {K : PySem.W.Frag} {g : List D → Option D} {σ : St} {H : Hp} {Q : VK} (q : rdE K (eA g dr) σ H Q) : tCB (rcOf K g) (rdAB K dr) σ H Q := by
  obtain ⟨H0, F0, env, F, z, rl, ed, k⟩ := q
  obtain ⟨ds, h1, ed⟩ := Option.bind_eq_some_iff.mp ed
  exact ⟨H0, F0, env, F, ds, rl, h1, fun xs F1 H1 g1 b1 => ⟨F1, ds, z, g1.sub, b1, ed, fun w F' H' g' hw => k w F' H' (g1.trans g') hw⟩⟩
theorem call_rn {K : PySem.W.Frag} {g : List D → Option (List D)} {σ : St} {H : Hp} {Q : VK} (q : rdN K (nA g dr) σ H Q) : tCB (rcnOf K g) (rdAB K dr) σ H Q := by
  obtain ⟨H0, F0, env, F, z, rl, ed, k⟩ := q
  obtain ⟨ds, h1, ed⟩ := Option.bind_eq_some_iff.mp ed
  refine ⟨H0, F0, env, F, ds, rl, h1, fun xs F1 H1 g1 b1 => ⟨F1, ds, z, g1.sub, b1, ed, fun a vs F' H' g' hn ha hf hv => k a vs F' H' (g1.trans g') ?_ ha hf hv⟩⟩
  cases hh : H a with
  | none => rfl
  | some o => rw [g1.hh a o hh] at hn; cases hn
variable {x : Str} {p : Pos} {id T : String}
theorem vcall {g : List D → Option D} (hc : CallR X (.builtin id) (rcOf X.K g)) (hm : X.mg x = none) (hv : bootBuiltins x = some (.builtin id)) (ha : PVAB X (e :: es) dr) (hg : Gl X x := by rfl) (hn : x ≠ "__name__" := by decide) (hdb : (x == ("__debug__" : Str)) = false := by decide)
    (he : starEach (e :: es) X.env = (false, eval e X.env) :: starEach es X.env := by rfl) (hpl : (backTo pos (starEach es X.env)).any (·.1) = false := by rfl) : PVE X (.Call (.Name x p) (e :: es) [] pos) (eA g dr) :=
  PE.imp (pe_callB hc hg hm hv ha hn hdb he hpl) fun _ _ _ q => call_rd q
theorem vcallN {g : List D → Option (List D)} (hc : CallR X (.builtin id) (rcnOf X.K g)) (hm : X.mg x = none) (hv : bootBuiltins x = some (.builtin id)) (ha : PVAB X (e :: es) dr) (hg : Gl X x := by rfl) (hn : x ≠ "__name__" := by decide) (hdb : (x == ("__debug__" : Str)) = false := by decide)
    (he : starEach (e :: es) X.env = (false, eval e X.env) :: starEach es X.env := by rfl) (hpl : (backTo pos (starEach es X.env)).any (·.1) = false := by rfl) : PVN X (.Call (.Name x p) (e :: es) [] pos) (nA g dr) :=
  PE.imp (pe_callB hc hg hm hv ha hn hdb he hpl) fun _ _ _ q => call_rn q
theorem vty {g : List D → Option D} (hc : CallR X (.type T) (rcOf X.K g)) (hm : X.mg x = none) (hv : bootBuiltins x = some (.type T)) (ha : PVAB X (e :: es) dr) (hg : Gl X x := by rfl) (hn : x ≠ "__name__" := by decide) (hdb : (x == ("__debug__" : Str)) = false := by decide)
    (he : starEach (e :: es) X.env = (false, eval e X.env) :: starEach es X.env := by rfl) (hpl : (backTo pos (starEach es X.env)).any (·.1) = false := by rfl) : PVE X (.Call (.Name x p) (e :: es) [] pos) (eA g dr) :=
  PE.imp (pe_callTy hc hg hm hv ha hn hdb he hpl) fun _ _ _ q => call_rd q
theorem vtyN {g : List D → Option (List D)} (hc : CallR X (.type T) (rcnOf X.K g)) (hm : X.mg x = none) (hv : bootBuiltins x = some (.type T)) (ha : PVAB X (e :: es) dr) (hg : Gl X x := by rfl) (hn : x ≠ "__name__" := by decide) (hdb : (x == ("__debug__" : Str)) = false := by decide)
    (he : starEach (e :: es) X.env = (false, eval e X.env) :: starEach es X.env := by rfl) (hpl : (backTo pos (starEach es X.env)).any (·.1) = false := by rfl) : PVN X (.Call (.Name x p) (e :: es) [] pos) (nA g dr) :=
  PE.imp (pe_callTy hc hg hm hv ha hn hdb he hpl) fun _ _ _ q => call_rn q

/-! ### slices -/
def rslOf (K : PySem.W.Frag) (g : D → Option Int → Option Int → Option D) : V → Option Int → Option Int → Hp → VK → Prop := fun x lo hi H Q => ∃ F d z, Same F H ∧ Bw K F H x d ∧ g d lo hi = some z ∧ ∀ w F' H', Grow F H F' H' → Dv K F' w z → Q w H'
def rslnOf (K : PySem.W.Frag) (g : D → Option Int → Option Int → Option (List D)) : V → Option Int → Option Int → Hp → VK → Prop := fun x lo hi H Q => ∃ F d zs, Same F H ∧ Bw K F H x d ∧ g d lo hi = some zs ∧
  ∀ a vs F' H', Grow F H F' H' → H a = none → H' a = some (.lst vs) → F' a = none → DvA K F' vs zs → Q (.ref a) H'
abbrev Part := Ev → Option (Option Int)
def pN : Part := fun _ => some none
def isI : D → Option Int
  | .int i => some i
  | _ => none
theorem isI_some {d : D} {i : Int} (h : isI d = some i) : d = .int i := by
  cases d <;> simp only [isI] at h <;> cases h
  rfl
def pI (da : Ev → Option D) : Part := fun env => (da env).bind fun d => (isI d).map some
def rdP (K : PySem.W.Frag) (den : Part) : TO := fun σ H Q => ∃ H0 F0 env F o, Rel K H0 F0 env σ F H ∧ den env = some o ∧ ∀ F' H', Grow F H F' H' → Q o H'
theorem PO.imp {eo : Option Expr} {t t' : TO} (h : PO X eo t) (k : ∀ σ H Q, t' σ H Q → t σ H Q) : PO X eo t' := ⟨fun pins s σ H Q I q => h.run pins s σ H Q I (k _ _ _ q)⟩
theorem vp_none : PO X none (rdP X.K pN) := PO.imp po_none fun σ H Q ⟨H0, F0, env, F, z, rl, ed, k⟩ => by cases ed; exact k F H (Grow.refl rl.sub)
theorem vp_some (h : PVE X e da) : PO X (some e) (rdP X.K (pI da)) := PO.imp (po_some h) fun σ H Q ⟨H0, F0, env, F, z, rl, ed, k⟩ => by
  obtain ⟨d, h1, ed⟩ := Option.bind_eq_some_iff.mp ed
  obtain ⟨i, h2, ed⟩ := Option.map_eq_some_iff.mp ed
  subst ed
  obtain rfl := isI_some h2
  refine ⟨H0, F0, env, F, _, rl, h1, fun x F1 H1 g1 b1 => ?_⟩
  cases b1
  exact ⟨i, rfl, k F1 H1 g1⟩
def eSl (g : D → Option Int → Option Int → Option D) (da : Ev → Option D) (pl ph : Part) : Ev → Option D := fun env => (da env).bind fun d => (pl env).bind fun l => (ph env).bind fun h => g d l h
def nSl (g : D → Option Int → Option Int → Option (List D)) (da : Ev → Option D) (pl ph : Part) : Ev → Option (List D) := fun env => (da env).bind fun d => (pl env).bind fun l => (ph env).bind fun h => g d l h
variable {lo hi : Option Expr} {pl ph : Part} {p2 : Pos}
theorem vslice {g : D → Option Int → Option Int → Option D} (hr : SlR X (rslOf X.K g)) (ha : PVB X a da) (hl : PO X lo (rdP X.K pl)) (hu : PO X hi (rdP X.K ph)) : PVE X (.Subscript a (.Slice lo hi none p2) pos) (eSl g da pl ph) :=
  PE.imp (pe_slice hr ha hl hu) fun σ H Q ⟨H0, F0, env, F, z, rl, ed, k⟩ => by
    obtain ⟨d, h1, ed⟩ := Option.bind_eq_some_iff.mp ed
    obtain ⟨l, h2, ed⟩ := Option.bind_eq_some_iff.mp ed
    obtain ⟨h, h3, ed⟩ := Option.bind_eq_some_iff.mp ed
    exact ⟨H0, F0, env, F, d, rl, h1, fun x F1 H1 g1 b1 => ⟨H0, F0, env, F1, l, rl.grow g1, h2, fun F2 H2 g2 => ⟨H0, F0, env, F2, h, rl.grow (g1.trans g2), h3, fun F3 H3 g3 =>
      ⟨F3, d, z, g3.sub, b1.grow (g2.trans g3) g1.sub, ed, fun w F' H' g' hw => k w F' H' (g1.trans (g2.trans (g3.trans g'))) hw⟩⟩⟩⟩
theorem vsliceN {g : D → Option Int → Option Int → Option (List D)} (hr : SlR X (rslnOf X.K g)) (ha : PVB X a da) (hl : PO X lo (rdP X.K pl)) (hu : PO X hi (rdP X.K ph)) : PVN X (.Subscript a (.Slice lo hi none p2) pos) (nSl g da pl ph) :=
  PE.imp (pe_slice hr ha hl hu) fun σ H Q ⟨H0, F0, env, F, z, rl, ed, k⟩ => by
    obtain ⟨d, h1, ed⟩ := Option.bind_eq_some_iff.mp ed
    obtain ⟨l, h2, ed⟩ := Option.bind_eq_some_iff.mp ed
    obtain ⟨h, h3, ed⟩ := Option.bind_eq_some_iff.mp ed
    refine ⟨H0, F0, env, F, d, rl, h1, fun x F1 H1 g1 b1 => ⟨H0, F0, env, F1, l, rl.grow g1, h2, fun F2 H2 g2 => ⟨H0, F0, env, F2, h, rl.grow (g1.trans g2), h3, fun F3 H3 g3 =>
      ⟨F3, d, z, g3.sub, b1.grow (g2.trans g3) g1.sub, ed, fun a vs F' H' g' hn ha hf hv => k a vs F' H' (g1.trans (g2.trans (g3.trans g'))) ?_ ha hf hv⟩⟩⟩⟩
    cases hh : H a with
    | none => rfl
    | some o => rw [(g1.trans (g2.trans g3)).hh a o hh] at hn; cases hn

/-! ### tests -/
def truD : D → Option Bool
  | .none => some false
  | .bool b => some b
  | .int i => some (i != 0)
  | .list xs => some (!xs.isEmpty)
  | .tuple xs => some (!xs.isEmpty)
  | _ => none
theorem tru_of {K : PySem.W.Frag} {F H : Hp} {y : V} {d : D} {k : Bool} (s : Same F H) (h : Bw K F H y d) (t : truD d = some k) : TruV K y H k := by
  have em : ∀ {vs : List V} {ds : List D}, DvA K F vs ds → (!ds.isEmpty) = !vs.isEmpty := fun q => by cases q <;> rfl
  rcases h with h | ⟨a, vs, ds, rfl, rfl, h1, h2⟩
  · cases h <;> simp only [truD, Option.some.injEq] at t
    case non => exact t.symm
    case bl => exact t.symm
    case int => exact t.symm
    case str => cases t
    case lst h1 h2 => subst t; exact .inl ⟨_, SqL.of (s _ _ h1), em h2⟩
    case tup h1 h2 => subst t; exact .inr (.inl ⟨_, SqT.of (s _ _ h1), em h2⟩)
    case scr => cases t
  · simp only [truD, Option.some.injEq] at t
    subst t
    exact .inl ⟨_, SqL.of h1, em h2⟩
/-- an expression's truth (not a comparison, and, or, not, if) -/
theorem vtru (ha : PVB X a da) (he : ∀ whole, isTrue a X.env whole = (do let v ← whole; standAt a.pos; holding [v] (truthy v)) := by intro _; rfl) : PVT X a (t1 truD da) :=
  PT.imp (pt_truth ha he) fun σ H Q ⟨H0, F0, env, F, z, rl, ed, k⟩ => by
    obtain ⟨d, h1, ed⟩ := Option.bind_eq_some_iff.mp ed
    exact ⟨H0, F0, env, F, d, rl, h1, fun x F1 H1 g1 b1 => ⟨z, tru_of g1.sub b1 ed, k F1 H1 g1⟩⟩
def tAn (ta tb : Ev → Option Bool) : Ev → Option Bool := fun env => (ta env).bind fun c => if c = true then tb env else some false
def tOr' (ta tb : Ev → Option Bool) : Ev → Option Bool := fun env => (ta env).bind fun c => if c = true then some true else tb env
def tNo (ta : Ev → Option Bool) : Ev → Option Bool := fun env => (ta env).map fun c => !c
variable {ta tb : Ev → Option Bool} {rest : List Expr}
theorem vw_and1 (ha : PVT X a ta) : PVW X (.BoolOp .And [a] pos) ta := pw_and1 ha
theorem vw_or1 (ha : PVT X a ta) : PVW X (.BoolOp .Or [a] pos) ta := pw_or1 ha
theorem vw_and (ha : PVT X a ta) (hb : PVW X (.BoolOp .And (b :: rest) pos) tb) : PVW X (.BoolOp .And (a :: b :: rest) pos) (tAn ta tb) :=
  PW.imp (pw_and ha hb) fun σ H Q ⟨H0, F0, env, F, z, rl, ed, k⟩ => by
    obtain ⟨c, h1, ed⟩ := Option.bind_eq_some_iff.mp ed
    refine ⟨H0, F0, env, F, c, rl, h1, fun F1 H1 g1 => ?_⟩
    cases c with
    | true => simp only [if_true] at ed ⊢; exact ⟨H0, F0, env, F1, z, rl.grow g1, ed, fun F2 H2 g2 => k F2 H2 (g1.trans g2)⟩
    | false => simp only [Bool.false_eq_true, if_false] at ed ⊢; cases ed; exact k F1 H1 g1
theorem vw_or (ha : PVT X a ta) (hb : PVW X (.BoolOp .Or (b :: rest) pos) tb) : PVW X (.BoolOp .Or (a :: b :: rest) pos) (tOr' ta tb) :=
  PW.imp (pw_or ha hb) fun σ H Q ⟨H0, F0, env, F, z, rl, ed, k⟩ => by
    obtain ⟨c, h1, ed⟩ := Option.bind_eq_some_iff.mp ed
    refine ⟨H0, F0, env, F, c, rl, h1, fun F1 H1 g1 => ?_⟩
    cases c with
    | true => simp only [if_true] at ed ⊢; cases ed; exact k F1 H1 g1
    | false => simp only [Bool.false_eq_true, if_false] at ed ⊢; exact ⟨H0, F0, env, F1, z, rl.grow g1, ed, fun F2 H2 g2 => k F2 H2 (g1.trans g2)⟩
theorem vt_not (ha : PVT X a ta) : PVT X (.UnaryOp .Not a pos) (tNo ta) :=
  PT.imp (pt_not ha) fun σ H Q ⟨H0, F0, env, F, z, rl, ed, k⟩ => by
    obtain ⟨c, h1, ed⟩ := Option.map_eq_some_iff.mp ed
    subst ed
    exact ⟨H0, F0, env, F, c, rl, h1, fun F1 H1 g1 => k F1 H1 g1⟩
/-- as values -/
def eAn (da db : Ev → Option D) : Ev → Option D := fun env => (da env).bind fun x => (truD x).bind fun c => if c = true then db env else some x
def eOr (da db : Ev → Option D) : Ev → Option D := fun env => (da env).bind fun x => (truD x).bind fun c => if c = true then some x else db env
theorem ve_one {op} (h : PVE X a da) : PVE X (.BoolOp op [a] pos) da := pe_one h
theorem ve_and (ha : PVE X a da) (hb : PVE X (.BoolOp .And (b :: rest) pos) db) : PVE X (.BoolOp .And (a :: b :: rest) pos) (eAn da db) :=
  PE.imp (pe_andT ha hb) fun σ H Q ⟨H0, F0, env, F, z, rl, ed, k⟩ => by
    obtain ⟨d, h1, ed⟩ := Option.bind_eq_some_iff.mp ed
    obtain ⟨c, h2, ed⟩ := Option.bind_eq_some_iff.mp ed
    refine ⟨H0, F0, env, F, d, rl, h1, fun x F1 H1 g1 b1 => ⟨c, tru_of g1.sub (.inl b1) h2, ?_⟩⟩
    cases c with
    | true => simp only [if_true] at ed ⊢; exact ⟨H0, F0, env, F1, z, rl.grow g1, ed, fun w F2 H2 g2 hw => k w F2 H2 (g1.trans g2) hw⟩
    | false => simp only [Bool.false_eq_true, if_false] at ed ⊢; cases ed; exact k x F1 H1 g1 b1
theorem ve_or (ha : PVE X a da) (hb : PVE X (.BoolOp .Or (b :: rest) pos) db) : PVE X (.BoolOp .Or (a :: b :: rest) pos) (eOr da db) :=
  PE.imp (pe_orT ha hb) fun σ H Q ⟨H0, F0, env, F, z, rl, ed, k⟩ => by
    obtain ⟨d, h1, ed⟩ := Option.bind_eq_some_iff.mp ed
    obtain ⟨c, h2, ed⟩ := Option.bind_eq_some_iff.mp ed
    refine ⟨H0, F0, env, F, d, rl, h1, fun x F1 H1 g1 b1 => ⟨c, tru_of g1.sub (.inl b1) h2, ?_⟩⟩
    cases c with
    | true => simp only [if_true] at ed ⊢; cases ed; exact k x F1 H1 g1 b1
    | false => simp only [Bool.false_eq_true, if_false] at ed ⊢; exact ⟨H0, F0, env, F1, z, rl.grow g1, ed, fun w F2 H2 g2 hw => k w F2 H2 (g1.trans g2) hw⟩
def notD (d : D) : Option D := (truD d).map fun k => .bool (!k)
theorem ve_not (ha : PVB X a da) : PVE X (.UnaryOp .Not a pos) (e1 notD da) :=
  PE.imp (pe_notT ha) fun σ H Q ⟨H0, F0, env, F, z, rl, ed, k⟩ => by
    obtain ⟨d, h1, ed⟩ := Option.bind_eq_some_iff.mp ed
    obtain ⟨c, h2, ed⟩ := Option.map_eq_some_iff.mp ed
    subst ed
    exact ⟨H0, F0, env, F, d, rl, h1, fun x F1 H1 g1 b1 => ⟨c, tru_of g1.sub b1 h2, k _ F1 H1 g1 (.bl _)⟩⟩
def eIf (tc : Ev → Option Bool) (da db : Ev → Option D) : Ev → Option D := fun env => (tc env).bind fun c => if c = true then da env else db env
theorem ve_if (hc : PVT X c ta) (ha : PVE X a da) (hb : PVE X b db) : PVE X (.IfExp c a b pos) (eIf ta da db) :=
  PE.imp (pe_ifExp hc ha hb) fun σ H Q ⟨H0, F0, env, F, z, rl, ed, k⟩ => by
    obtain ⟨c, h1, ed⟩ := Option.bind_eq_some_iff.mp ed
    refine ⟨H0, F0, env, F, c, rl, h1, fun F1 H1 g1 => ?_⟩
    cases c with
    | true => simp only [if_true] at ed ⊢; exact ⟨H0, F0, env, F1, z, rl.grow g1, ed, fun w F2 H2 g2 hw => k w F2 H2 (g1.trans g2) hw⟩
    | false => simp only [Bool.false_eq_true, if_false] at ed ⊢; exact ⟨H0, F0, env, F1, z, rl.grow g1, ed, fun w F2 H2 g2 hw => k w F2 H2 (g1.trans g2) hw⟩
end
end PV
end

section
set_option maxRecDepth 100000
set_option maxHeartbeats 4000000
namespace PV
open PySem PySem.Spec PyProof.Rows L2
section
variable {K : PySem.W.Frag} {F H : Hp} {x : V}
theorem Bw.int {i : Int} (h : Bw K F H x (.int i)) : x = .int i := by
  rcases h with h | ⟨_, _, _, _, e, _⟩
  · cases h; rfl
  · cases e
theorem Bw.bl {i : Bool} (h : Bw K F H x (.bool i)) : x = .bl i := by
  rcases h with h | ⟨_, _, _, _, e, _⟩
  · cases h; rfl
  · cases e
theorem Bw.non (h : Bw K F H x .none) : x = .non := by
  rcases h with h | ⟨_, _, _, _, e, _⟩
  · cases h; rfl
  · cases e
theorem Bw.str {z : Str} (h : Bw K F H x (.str z)) : x = .str z := by
  rcases h with h | ⟨_, _, _, _, e, _⟩
  · cases h; rfl
  · cases e
theorem Bw.lst {ds : List D} (h : Bw K F H x (.list ds)) (s : Same F H) : ∃ a vs, x = .ref a ∧ H a = some (.lst vs) ∧ DvA K F vs ds := by
  rcases h with h | ⟨a, vs, es, rfl, e, h1, h2⟩
  · cases h with | lst h1 h2 => exact ⟨_, _, rfl, s _ _ h1, h2⟩
  · cases e; exact ⟨a, vs, rfl, h1, h2⟩
theorem Bw.tup {ds : List D} (h : Bw K F H x (.tuple ds)) (s : Same F H) : ∃ a vs, x = .ref a ∧ H a = some (.tup vs) ∧ F a = some (.tup vs) ∧ DvA K F vs ds := by
  rcases h with h | ⟨a, vs, es, rfl, e, h1, h2⟩
  · cases h with | tup h1 h2 => exact ⟨_, _, rfl, s _ _ h1, h1, h2⟩
  · cases e
theorem Bw.scr {kvs : List (D × D)} (h : Bw K F H x (.dict kvs)) (s : Same F H) : ∃ (a : Addr) (ns : List Int), x = .ref a ∧ kvs = ns.map (fun n => (.int n, .none)) ∧ SqL K H a (ns.map V.int) := by
  rcases h with h | ⟨a, vs, es, rfl, e, h1, h2⟩
  · cases h with | scr e h1 => exact ⟨_, _, rfl, e, Same.seq s h1⟩
  · cases e
theorem Bw.dv {d : D} (h : Bw K F H x d) (s : Same F H) : Dv K H x d := h.here s
theorem BwA.one {xs : List V} {d : D} (h : BwA K F H xs [d]) : ∃ v, xs = [v] ∧ Bw K F H v d := by
  cases h with | cons h t => cases t; exact ⟨_, rfl, h⟩
theorem BwA.two {xs : List V} {d e : D} (h : BwA K F H xs [d, e]) : ∃ v u, xs = [v, u] ∧ Bw K F H v d ∧ Bw K F H u e := by
  cases h with | cons h t => cases t with | cons h2 t => cases t; exact ⟨_, _, rfl, h, h2⟩
/-- a new tuple, a new list that stays -/
theorem Dv.newTup {p : Addr} {vs : List V} {ds : List D} (hp : F p = none) (h : DvA K F vs ds) : Dv K (upd F p (.tup vs)) (.ref p) (.tuple ds) := .tup upd_same (DvA.mono (same_upd hp) _ _ h)
theorem Dv.newLst {p : Addr} {vs : List V} {ds : List D} (hp : F p = none) (h : DvA K F vs ds) : Dv K (upd F p (.lst vs)) (.ref p) (.list ds) := .lst upd_same (DvA.mono (same_upd hp) _ _ h)
theorem DvA.nil_iff {vs : List V} {ds : List D} (h : DvA K F vs ds) : vs = [] ↔ ds = [] := by cases h <;> simp
end

/-! ### numbers -/
def addD : D → D → Option D
  | .int i, .int j => some (.int (i + j))
  | .tuple xs, .tuple ys => if xs.length + ys.length ≤ line then some (.tuple (xs ++ ys)) else none
  | .list xs, .list ys => if xs.length + ys.length ≤ line then some (.list (xs ++ ys)) else none
  | _, _ => none
def subD : D → D → Option D
  | .int i, .int j => some (.int (i - j))
  | _, _ => none
def mulOk (i j : Int) : Bool := decide (i.natAbs < 18446744073709551616) || decide (j.natAbs < 18446744073709551616)
def fdivD : D → D → Option D
  | .int i, .int j => if 0 < j ∧ j.toNat < 1073741824 then some (.int (i / j)) else if j ≠ 0 ∧ j.natAbs < 1073741824 then some (.int (i.fdiv j)) else none
  | _, _ => none
def modD : D → D → Option D
  | .int i, .int j => if 0 < j then some (.int (i % j)) else if j ≠ 0 then some (.int (i.fmod j)) else none
  | _, _ => none
def powD : D → D → Option D
  | .int i, .int j => if 0 ≤ j ∧ j.toNat ≤ 1000000 ∧ i.natAbs < 18446744073709551616 then some (.int (i ^ j.toNat)) else none
  | _, _ => none
def shlD : D → D → Option D
  | .int i, .int j => if 0 ≤ j ∧ j.toNat ≤ 1000000 ∧ i.natAbs < 18446744073709551616 then some (.int (i * 2 ^ j.toNat)) else none
  | _, _ => none
def shrD : D → D → Option D
  | .int i, .int j => if 0 ≤ j then some (.int (i / 2 ^ j.toNat)) else none
  | _, _ => none
def bandD : D → D → Option D
  | .int i, .int j => some (.int (Builtin.bitAnd i j))
  | _, _ => none
def borD : D → D → Option D
  | .int i, .int j => some (.int (Builtin.bitOr i j))
  | _, _ => none
def negD : D → Option D
  | .int i => some (.int (-i))
  | _ => none
section
variable {X : Cx}
theorem op_ints {f : Value → Value → Sem Value} {r : R2} {g : D → D → Option D} {C : Int → Int → Prop} {h : Int → Int → V} (ho : OpR X f (rI C h))
    (hg : ∀ d e z, g d e = some z → ∃ i j, d = .int i ∧ e = .int j ∧ C i j ∧ Dv X.K (fun _ => none) (h i j) z) : OpR X f (rOf X.K g) := by
  intro pins s σ H x y v u Q I rx ry ⟨F, d, e, z, sb, b1, b2, hq, k⟩
  obtain ⟨i, j, rfl, rfl, hc, hz⟩ := hg d e z hq
  exact ho pins s σ H x y v u Q I rx ry ⟨i, j, b1.int, b2.int, hc, k _ F H (Grow.refl sb) (Dv.mono (fun _ _ q => by cases q) _ _ hz)⟩
theorem op_ints0 {f : Value → Value → Sem Value} {r : R2} {g : D → D → Option D} {h : Int → Int → V} (ho : OpR X f (rI0 h))
    (hg : ∀ d e z, g d e = some z → ∃ i j, d = .int i ∧ e = .int j ∧ Dv X.K (fun _ => none) (h i j) z) : OpR X f (rOf X.K g) := by
  intro pins s σ H x y v u Q I rx ry ⟨F, d, e, z, sb, b1, b2, hq, k⟩
  obtain ⟨i, j, rfl, rfl, hz⟩ := hg d e z hq
  exact ho pins s σ H x y v u Q I rx ry ⟨i, j, b1.int, b2.int, k _ F H (Grow.refl sb) (Dv.mono (fun _ _ q => by cases q) _ _ hz)⟩
theorem o_sub : OpR X (binaryOp .Sub) (rOf X.K subD) := op_ints0 (r := fun _ _ _ _ => True) op_sub fun d e z h => by
  unfold subD at h; split at h <;> cases h
  exact ⟨_, _, rfl, rfl, .int _⟩
theorem o_and : OpR X (binaryOp .BitAnd) (rOf X.K bandD) := op_ints0 (r := fun _ _ _ _ => True) op_and fun d e z h => by
  unfold bandD at h; split at h <;> cases h
  exact ⟨_, _, rfl, rfl, .int _⟩
theorem o_or : OpR X (binaryOp .BitOr) (rOf X.K borD) := op_ints0 (r := fun _ _ _ _ => True) op_or fun d e z h => by
  unfold borD at h; split at h <;> cases h
  exact ⟨_, _, rfl, rfl, .int _⟩
theorem o_pow : OpR X (binaryOp .Pow) (rOf X.K powD) := op_ints (r := fun _ _ _ _ => True) op_pow fun d e z h => by
  unfold powD at h; split at h
  · split at h <;> cases h
    rename_i hc
    exact ⟨_, _, rfl, rfl, ⟨hc.1, by omega, hc.2.2⟩, .int _⟩
  · cases h
theorem o_shl : OpR X (binaryOp .LShift) (rOf X.K shlD) := op_ints (r := fun _ _ _ _ => True) op_shl fun d e z h => by
  unfold shlD at h; split at h
  · split at h <;> cases h
    rename_i hc
    exact ⟨_, _, rfl, rfl, ⟨hc.1, by omega, hc.2.2⟩, .int _⟩
  · cases h
theorem o_shr : OpR X (binaryOp .RShift) (rOf X.K shrD) := op_ints (r := fun _ _ _ _ => True) op_shr fun d e z h => by
  unfold shrD at h; split at h
  · split at h <;> cases h
    rename_i hc
    exact ⟨_, _, rfl, rfl, hc, .int _⟩
  · cases h
theorem o_fdiv : OpR X (binaryOp .FloorDiv) (rOf X.K fdivD) := by
  intro pins s σ H x y v u Q I rx ry ⟨F, d, e, z, sb, b1, b2, hq, k⟩
  unfold fdivD at hq; split at hq
  · split at hq
    · rename_i hc
      cases hq
      exact op_fdiv pins s σ H x y v u Q I rx ry ⟨_, _, b1.int, b2.int, ⟨hc.1, by omega⟩, k _ F H (Grow.refl sb) (.int _)⟩
    · split at hq <;> cases hq
      rename_i hc
      exact op_fdivN pins s σ H x y v u Q I rx ry ⟨_, _, b1.int, b2.int, hc, k _ F H (Grow.refl sb) (.int _)⟩
  · cases hq
theorem o_mod : OpR X (binaryOp .Mod) (rOf X.K modD) := by
  intro pins s σ H x y v u Q I rx ry ⟨F, d, e, z, sb, b1, b2, hq, k⟩
  unfold modD at hq; split at hq
  · split at hq
    · rename_i hc
      cases hq
      exact op_mod pins s σ H x y v u Q I rx ry ⟨_, _, b1.int, b2.int, hc, k _ F H (Grow.refl sb) (.int _)⟩
    · split at hq <;> cases hq
      rename_i hc
      exact op_modN pins s σ H x y v u Q I rx ry ⟨_, _, b1.int, b2.int, hc, k _ F H (Grow.refl sb) (.int _)⟩
  · cases hq
theorem o_add : OpR X (binaryOp .Add) (rOf X.K addD) := by
  intro pins s σ H x y v u Q I rx ry ⟨F, d, e, z, sb, b1, b2, hq, k⟩
  unfold addD at hq; split at hq
  · cases hq
    exact op_add pins s σ H x y v u Q I rx ry ⟨_, _, b1.int, b2.int, k _ F H (Grow.refl sb) (.int _)⟩
  · split at hq <;> cases hq
    rename_i hz
    obtain ⟨a, vs, rfl, ha, fa, va⟩ := b1.tup sb
    obtain ⟨b, us, rfl, hb, fb, vb⟩ := b2.tup sb
    refine op_catA pins s σ H _ _ v u Q I rx ry ⟨a, b, vs, us, rfl, rfl, SqT.of ha, SqT.of hb, ?_, fun e0 => ?_, fun _ e0 => ?_, fun _ _ p hp => ?_⟩
    · rw [DvA.length va, DvA.length vb]; exact le_line hz
    · rw [(DvA.nil_iff va).mp e0] at k
      exact k _ F H (Grow.refl sb) (.tup fb vb)
    · rw [(DvA.nil_iff vb).mp e0, List.append_nil] at k
      exact k _ F H (Grow.refl sb) (.tup fa va)
    · exact k _ _ _ (Grow.new sb hp) (Dv.newTup (fnone sb hp) (DvA.append va vb))
  · split at hq <;> cases hq
    rename_i hz
    obtain ⟨a, vs, rfl, ha, va⟩ := b1.lst sb
    obtain ⟨b, us, rfl, hb, vb⟩ := b2.lst sb
    refine op_cat pins s σ H _ _ v u Q I rx ry ⟨a, b, vs, us, rfl, rfl, ha, hb, ?_, fun p hp => ?_⟩
    · rw [DvA.length va, DvA.length vb]; exact le_line hz
    · exact k _ _ _ (Grow.new sb hp) (Dv.newLst (fnone sb hp) (DvA.append va vb))
  · cases hq
def catLD : D → D → Option (List D)
  | .list xs, .list ys => if xs.length + ys.length ≤ line then some (xs ++ ys) else none
  | _, _ => none
theorem on_cat : OpR X (binaryOp .Add) (rnOf X.K catLD) := by
  intro pins s σ H x y v u Q I rx ry ⟨F, d, e, z, sb, b1, b2, hq, k⟩
  unfold catLD at hq; split at hq
  · split at hq <;> cases hq
    rename_i hz
    obtain ⟨a, vs, rfl, ha, va⟩ := b1.lst sb
    obtain ⟨b, us, rfl, hb, vb⟩ := b2.lst sb
    refine op_cat pins s σ H _ _ v u Q I rx ry ⟨a, b, vs, us, rfl, rfl, ha, hb, ?_, fun p hp => ?_⟩
    · rw [DvA.length va, DvA.length vb]; exact le_line hz
    · exact k _ _ _ _ (Grow.made sb hp) hp upd_same (fnone sb hp) (DvA.append va vb)
  · cases hq
theorem o_neg : UnR X (unaryOp .USub) (ruOf X.K negD) := by
  intro pins s σ H x v Q I rx ⟨F, d, z, sb, b1, hq, k⟩
  unfold negD at hq; split at hq <;> cases hq
  exact un_neg pins s σ H x v Q I rx ⟨_, b1.int, k _ F H (Grow.refl sb) (.int _)⟩

/-! ### comparisons -/
def okD (d : D) : Bool := SeqAt.shaped d
def eqD (d e : D) : Option D := if okD d && okD e then some (.bool (PyData.eqv d e)) else none
def neD (d e : D) : Option D := if okD d && okD e then some (.bool (!PyData.eqv d e)) else none
theorem o_eq {k : Nat} (hr : Room k X.A) : OpR X (compareOp .Eq) (rOf X.K eqD) := by
  intro pins s σ H x y v u Q I rx ry ⟨F, d, e, z, sb, b1, b2, hq, k⟩
  unfold eqD at hq; split at hq <;> cases hq
  rename_i hc
  have hc := Bool.and_eq_true_iff.mp hc
  exact op_eqD hr.units pins s σ H x y v u Q I rx ry ⟨d, e, Dv.dp d x (SeqAt.canLay_of_shaped hc.1) (b1.here sb), Dv.dp e y (SeqAt.canLay_of_shaped hc.2) (b2.here sb), hc.1, hc.2, k _ F H (Grow.refl sb) (.bl _)⟩
theorem o_ne {k : Nat} (hr : Room k X.A) : OpR X (compareOp .NotEq) (rOf X.K neD) := by
  intro pins s σ H x y v u Q I rx ry ⟨F, d, e, z, sb, b1, b2, hq, k⟩
  unfold neD at hq; split at hq <;> cases hq
  rename_i hc
  have hc := Bool.and_eq_true_iff.mp hc
  exact op_neD hr.units pins s σ H x y v u Q I rx ry ⟨d, e, Dv.dp d x (SeqAt.canLay_of_shaped hc.1) (b1.here sb), Dv.dp e y (SeqAt.canLay_of_shaped hc.2) (b2.here sb), hc.1, hc.2, k _ F H (Grow.refl sb) (.bl _)⟩
def ltD : D → D → Option D
  | .int i, .int j => some (.bool (decide (i < j)))
  | _, _ => none
def leD : D → D → Option D
  | .int i, .int j => some (.bool (decide (i ≤ j)))
  | _, _ => none
def gtD : D → D → Option D
  | .int i, .int j => some (.bool (decide (j < i)))
  | _, _ => none
def geD : D → D → Option D
  | .int i, .int j => some (.bool (decide (j ≤ i)))
  | _, _ => none
theorem o_lt : OpR X (compareOp .Lt) (rOf X.K ltD) := op_ints0 (r := fun _ _ _ _ => True) op_lt fun d e z h => by
  unfold ltD at h; split at h <;> cases h
  exact ⟨_, _, rfl, rfl, .bl _⟩
theorem o_le : OpR X (compareOp .LtE) (rOf X.K leD) := op_ints0 (r := fun _ _ _ _ => True) op_le fun d e z h => by
  unfold leD at h; split at h <;> cases h
  exact ⟨_, _, rfl, rfl, .bl _⟩
theorem o_gt : OpR X (compareOp .Gt) (rOf X.K gtD) := op_ints0 (r := fun _ _ _ _ => True) op_gt fun d e z h => by
  unfold gtD at h; split at h <;> cases h
  exact ⟨_, _, rfl, rfl, .bl _⟩
theorem o_ge : OpR X (compareOp .GtE) (rOf X.K geD) := op_ints0 (r := fun _ _ _ _ => True) op_ge fun d e z h => by
  unfold geD at h; split at h <;> cases h
  exact ⟨_, _, rfl, rfl, .bl _⟩
/-- in a list, in a tuple -/
def memD (d : D) (ds : List D) : Bool := ds.any fun z => PyData.eqv z d
def inD : D → D → Option D
  | d, .list ds => if okD d && okD (.list ds) then some (.bool (memD d ds)) else none
  | d, .tuple ds => if okD d && okD (.list ds) then some (.bool (memD d ds)) else none
  | _, _ => none
def ninD : D → D → Option D
  | d, .list ds => if okD d && okD (.list ds) then some (.bool (!memD d ds)) else none
  | d, .tuple ds => if okD d && okD (.list ds) then some (.bool (!memD d ds)) else none
  | _, _ => none
theorem ok_lt (ds : List D) : SeqAt.shaped (.tuple ds) = SeqAt.shaped (.list ds) := by
  have h1 : PyData.canLay0 (.tuple ds) = PyData.canLay0 (.list ds) := by simp only [PyData.canLay0]
  have h2 : (PyData.tuple ds).depth = (PyData.list ds).depth := by simp only [PyData.depth]
  unfold SeqAt.shaped
  rw [h1, h2]
theorem o_in {k : Nat} (hr : Room k X.A) : OpR X (compareOp .In) (rOf X.K inD) := by
  intro pins s σ H x y v u Q I rx ry ⟨F, d, e, z, sb, b1, b2, hq, k⟩
  have hu : X.A.units + 65 < cLine := by have := hr.un; omega
  unfold inD at hq; split at hq
  · split at hq <;> cases hq
    rename_i hc
    have hc := Bool.and_eq_true_iff.mp hc
    exact op_inD hu pins s σ H x y v u Q I rx ry ⟨_, _, Dv.dp _ x (SeqAt.canLay_of_shaped hc.1) (b1.here sb), Dv.dp _ y (SeqAt.canLay_of_shaped hc.2) (b2.here sb), hc.1, hc.2, k _ F H (Grow.refl sb) (.bl _)⟩
  · split at hq <;> cases hq
    rename_i ds hc
    have hc := Bool.and_eq_true_iff.mp hc
    have hc2 : SeqAt.shaped (.tuple ds) = true := (ok_lt ds).trans hc.2
    obtain ⟨as, r1⟩ := Dp.reads I _ x v (Dv.dp _ x (SeqAt.canLay_of_shaped hc.1) (b1.here sb)) rx
    obtain ⟨bs, r2⟩ := Dp.reads I _ y u (Dv.dp _ y (SeqAt.canLay_of_shaped hc2) (b2.here sb)) ry
    exact SeqAt.in_tuple_reads r2 r1 (SeqAt.canLay_of_shaped hc2) (SeqAt.canLay_of_shaped hc.1) (room_in_shaped hc.1 hu) ⟨.bl _, H, I, rfl, k _ F H (Grow.refl sb) (.bl _)⟩
  · cases hq
theorem o_notin {k : Nat} (hr : Room k X.A) : OpR X (compareOp .NotIn) (rOf X.K ninD) := by
  intro pins s σ H x y v u Q I rx ry ⟨F, d, e, z, sb, b1, b2, hq, k⟩
  have hu : X.A.units + 65 < cLine := by have := hr.un; omega
  unfold ninD at hq; split at hq
  · split at hq <;> cases hq
    rename_i hc
    have hc := Bool.and_eq_true_iff.mp hc
    exact op_notInD hu pins s σ H x y v u Q I rx ry ⟨_, _, Dv.dp _ x (SeqAt.canLay_of_shaped hc.1) (b1.here sb), Dv.dp _ y (SeqAt.canLay_of_shaped hc.2) (b2.here sb), hc.1, hc.2, k _ F H (Grow.refl sb) (.bl _)⟩
  · split at hq <;> cases hq
    rename_i ds hc
    have hc := Bool.and_eq_true_iff.mp hc
    have hc2 : SeqAt.shaped (.tuple ds) = true := (ok_lt ds).trans hc.2
    obtain ⟨as, r1⟩ := Dp.reads I _ x v (Dv.dp _ x (SeqAt.canLay_of_shaped hc.1) (b1.here sb)) rx
    obtain ⟨bs, r2⟩ := Dp.reads I _ y u (Dv.dp _ y (SeqAt.canLay_of_shaped hc2) (b2.here sb)) ry
    exact SeqAt.notIn_tuple_reads r2 r1 (SeqAt.canLay_of_shaped hc2) (SeqAt.canLay_of_shaped hc.1) (room_in_shaped hc.1 hu) ⟨.bl _, H, I, rfl, k _ F H (Grow.refl sb) (.bl _)⟩
  · cases hq
/-- is None, is True, is False -/
def isNonD : D → Bool
  | .none => true
  | _ => false
def isD : D → D → Option D
  | d, .none => some (.bool (isNonD d))
  | .bool a, .bool b => some (.bool (decide (a = b)))
  | _, _ => none
def isntD : D → D → Option D
  | d, .none => some (.bool (!isNonD d))
  | .bool a, .bool b => some (.bool (!decide (a = b)))
  | _, _ => none
theorem non_iff {K : PySem.W.Frag} {F H : Hp} {x : V} {d : D} (b : Bw K F H x d) : decide (x = .non) = isNonD d := by
  rcases b with h | ⟨a, vs, es, rfl, rfl, _⟩
  · cases h <;> rfl
  · rfl
theorem o_is : OpR X (compareOp .Is) (rOf X.K isD) := by
  intro pins s σ H x y v u Q I rx ry ⟨F, d, e, z, sb, b1, b2, hq, k⟩
  unfold isD at hq; split at hq
  · cases hq
    exact op_isN pins s σ H x y v u Q I rx ry ⟨b2.non, by rw [non_iff b1]; exact k _ F H (Grow.refl sb) (.bl _)⟩
  · cases hq
    exact op_is_bl pins s σ H x y v u Q I rx ry ⟨_, _, b1.bl, b2.bl, k _ F H (Grow.refl sb) (.bl _)⟩
  · cases hq
theorem o_isnt : OpR X (compareOp .IsNot) (rOf X.K isntD) := by
  intro pins s σ H x y v u Q I rx ry ⟨F, d, e, z, sb, b1, b2, hq, k⟩
  unfold isntD at hq; split at hq
  · cases hq
    exact op_notN pins s σ H x y v u Q I rx ry ⟨b2.non, by rw [non_iff b1]; exact k _ F H (Grow.refl sb) (.bl _)⟩
  · cases hq
    exact op_isnot_bl pins s σ H x y v u Q I rx ry ⟨_, _, b1.bl, b2.bl, k _ F H (Grow.refl sb) (.bl _)⟩
  · cases hq

/-! ### items, slices -/
def ixD : D → D → Option D
  | .list ds, .int i => atI ds i
  | .tuple ds, .int i => atI ds i
  | .dict kvs, .int i => (atI kvs i).map (·.1)
  | _, _ => none
theorem at_dv {K : PySem.W.Frag} {F : Hp} {vs : List V} {ds : List D} {i : Int} {d : D} (h : DvA K F vs ds) (e : atI ds i = some d) : ∃ v, atI vs i = some v ∧ Dv K F v d := by
  unfold atI at e ⊢
  rw [DvA.length h]
  obtain ⟨j, h1, h2⟩ := Option.bind_eq_some_iff.mp e
  rw [h1]
  exact DvA.get h h2
theorem at_scr {ns : List Int} {i : Int} {z : D} (h : (atI (ns.map fun n => ((.int n, .none) : D × D)) i).map (·.1) = some z) : ∃ n, z = .int n ∧ atI (ns.map V.int) i = some (.int n) := by
  obtain ⟨p, h1, h2⟩ := Option.map_eq_some_iff.mp h
  subst h2
  obtain ⟨j, h3, h4⟩ := Option.bind_eq_some_iff.mp (show (ixN _ _).bind _ = _ from h1)
  rw [List.length_map] at h3
  rw [List.getElem?_map] at h4
  obtain ⟨n, h5, h6⟩ := Option.map_eq_some_iff.mp h4
  subst h6
  refine ⟨n, rfl, ?_⟩
  unfold atI
  rw [List.length_map, h3]
  show (ns.map V.int)[j]? = _
  rw [List.getElem?_map, h5]; rfl
theorem i_ix : IxR X (rOf X.K ixD) := by
  intro value slice pins s σ H x y v u Q I rx ry ⟨F, d, e, z, sb, b1, b2, hq, k⟩ hs
  unfold ixD at hq; split at hq
  · obtain ⟨a, vs, rfl, ha, va⟩ := b1.lst sb
    obtain ⟨w, e1, hw⟩ := at_dv va hq
    exact ix_list value slice pins s σ H _ y v u Q I rx ry ⟨a, vs, _, w, rfl, b2.int, SqL.of ha, e1, k _ F H (Grow.refl sb) hw⟩ hs
  · obtain ⟨a, vs, rfl, ha, fa, va⟩ := b1.tup sb
    obtain ⟨w, e1, hw⟩ := at_dv va hq
    exact ix_tup value slice pins s σ H _ y v u Q I rx ry ⟨a, vs, _, w, rfl, b2.int, SqT.of ha, e1, k _ F H (Grow.refl sb) hw⟩ hs
  · obtain ⟨a, ns, rfl, rfl, ha⟩ := b1.scr sb
    obtain ⟨n, rfl, e1⟩ := at_scr hq
    exact ix_list value slice pins s σ H _ y v u Q I rx ry ⟨a, ns.map V.int, _, _, rfl, b2.int, ha, e1, k _ F H (Grow.refl sb) (.int n)⟩ hs
  · cases hq
def cutL {α : Type} (xs : List α) (lo hi : Option Int) : List α := (xs.drop (HT.sIx xs.length 0 lo)).take (HT.sIx xs.length xs.length hi - HT.sIx xs.length 0 lo)
theorem cut_dv {K : PySem.W.Frag} {F : Hp} {vs : List V} {ds : List D} (h : DvA K F vs ds) (lo hi : Option Int) : DvA K F (cutV vs lo hi) (cutL ds lo hi) := by
  unfold cutV cutL
  rw [DvA.length h]
  exact DvA.take _ (DvA.drop _ h)
def slD : D → Option Int → Option Int → Option D
  | .list ds, lo, hi => some (.list (cutL ds lo hi))
  | .tuple ds, lo, hi => some (.tuple (cutL ds lo hi))
  | _, _, _ => none
theorem s_sl : SlR X (rslOf X.K slD) := by
  intro pins s σ H x v vl vu lo hi sl Q I rx hs pl pu ⟨F, d, z, sb, b1, hq, k⟩
  unfold slD at hq; split at hq
  · cases hq
    obtain ⟨a, vs, rfl, ha, va⟩ := b1.lst sb
    exact sl_list pins s σ H _ v vl vu lo hi sl Q I rx hs pl pu ⟨a, vs, rfl, SqL.of ha, fun p hp => k _ _ _ (Grow.new sb hp) (Dv.newLst (fnone sb hp) (cut_dv va lo hi))⟩
  · cases hq
    obtain ⟨a, vs, rfl, ha, fa, va⟩ := b1.tup sb
    refine sl_tupA pins s σ H _ v vl vu lo hi sl Q I rx hs pl pu ⟨a, vs, rfl, SqT.of ha, fun e => ?_, fun _ p hp => k _ _ _ (Grow.new sb hp) (Dv.newTup (fnone sb hp) (cut_dv va lo hi))⟩
    have q : DvA X.K F (cutV vs lo hi) (cutL _ lo hi) := cut_dv va lo hi
    have e2 : cutV vs lo hi = vs := by
      unfold cutV
      rw [e.1, e.2]
      simp
    rw [e2] at q
    exact k _ F H (Grow.refl sb) (.tup fa q)
  · cases hq
def slLD : D → Option Int → Option Int → Option (List D)
  | .list ds, lo, hi => some (cutL ds lo hi)
  | _, _, _ => none
theorem sn_sl : SlR X (rslnOf X.K slLD) := by
  intro pins s σ H x v vl vu lo hi sl Q I rx hs pl pu ⟨F, d, z, sb, b1, hq, k⟩
  unfold slLD at hq; split at hq
  · cases hq
    obtain ⟨a, vs, rfl, ha, va⟩ := b1.lst sb
    exact sl_list pins s σ H _ v vl vu lo hi sl Q I rx hs pl pu ⟨a, vs, rfl, SqL.of ha, fun p hp => k _ _ _ _ (Grow.made sb hp) hp upd_same (fnone sb hp) (cut_dv va lo hi)⟩
  · cases hq

/-! ### what is built in -/
def lenD : List D → Option D
  | [.list ds] => some (.int ds.length)
  | [.tuple ds] => some (.int ds.length)
  | [.str z] => if z.length ≤ line then some (.int z.length) else none
  | [.dict kvs] => some (.int kvs.length)
  | _ => none
theorem c_len : CallR X (.builtin "len") (rcOf X.K lenD) := by
  intro pins s σ H xs us Q I r ⟨F, ds, z, sb, b, hq, k⟩
  unfold lenD at hq; split at hq
  · cases hq
    obtain ⟨v, rfl, c⟩ := b.one
    obtain ⟨a, vs, rfl, ha, va⟩ := c.lst sb
    exact call_len_seq pins s σ H _ us Q I r ⟨a, vs, rfl, .inl (SqL.of ha), by rw [DvA.length va]; exact k _ F H (Grow.refl sb) (.int _)⟩
  · cases hq
    obtain ⟨v, rfl, c⟩ := b.one
    obtain ⟨a, vs, rfl, ha, fa, va⟩ := c.tup sb
    exact call_len_seq pins s σ H _ us Q I r ⟨a, vs, rfl, .inr (SqT.of ha), by rw [DvA.length va]; exact k _ F H (Grow.refl sb) (.int _)⟩
  · split at hq <;> cases hq
    rename_i hz
    obtain ⟨v, rfl, c⟩ := b.one
    exact call_len_str pins s σ H _ us Q I r ⟨_, by rw [c.str], le_line hz, k _ F H (Grow.refl sb) (.int _)⟩
  · cases hq
    obtain ⟨v, rfl, c⟩ := b.one
    obtain ⟨a, ns, rfl, rfl, ha⟩ := c.scr sb
    exact call_len_seq pins s σ H _ us Q I r ⟨a, ns.map V.int, rfl, .inl ha, by rw [List.length_map] at k ⊢; exact k _ F H (Grow.refl sb) (.int _)⟩
  · cases hq
def intD : List D → Option D
  | [.int i] => some (.int i)
  | [.bool k] => some (.int (if k then 1 else 0))
  | _ => none
theorem c_int : CallR X (.type "int") (rcOf X.K intD) := by
  intro pins s σ H xs us Q I r ⟨F, ds, z, sb, b, hq, k⟩
  unfold intD at hq; split at hq
  · cases hq
    obtain ⟨v, rfl, c⟩ := b.one
    exact call_int1 pins s σ H _ us Q I r (.inl ⟨_, by rw [c.int], k _ F H (Grow.refl sb) (.int _)⟩)
  · cases hq
    obtain ⟨v, rfl, c⟩ := b.one
    exact call_int1 pins s σ H _ us Q I r (.inr ⟨_, by rw [c.bl], k _ F H (Grow.refl sb) (.int _)⟩)
  · cases hq
def absD : List D → Option D
  | [.int i] => some (.int (if i < 0 then -i else i))
  | _ => none
theorem c_abs : CallR X (.builtin "abs") (rcOf X.K absD) := by
  intro pins s σ H xs us Q I r ⟨F, ds, z, sb, b, hq, k⟩
  unfold absD at hq; split at hq <;> cases hq
  obtain ⟨v, rfl, c⟩ := b.one
  exact call_abs pins s σ H _ us Q I r ⟨_, by rw [c.int], k _ F H (Grow.refl sb) (.int _)⟩
/-- the ints, the truth values of a list -/
def ints? : List D → Option (List Int)
  | [] => some []
  | .int i :: r => (ints? r).map (i :: ·)
  | _ :: _ => none
theorem ints_some : ∀ {ds : List D} {ns : List Int}, ints? ds = some ns → ds = ns.map PyData.int
  | [], _, h => by cases h; rfl
  | d :: r, ns, h => by
    cases d <;> simp only [ints?] at h <;> try cases h
    obtain ⟨ms, h1, h2⟩ := Option.map_eq_some_iff.mp h
    subst h2
    rw [ints_some h1]; rfl
theorem ints_map : ∀ ns : List Int, ints? (ns.map PyData.int) = some ns
  | [] => rfl
  | n :: r => by
    show (ints? (r.map PyData.int)).map (n :: ·) = _
    rw [ints_map r]; rfl
def bls? : List D → Option (List Bool)
  | [] => some []
  | .bool i :: r => (bls? r).map (i :: ·)
  | _ :: _ => none
theorem bls_some : ∀ {ds : List D} {ns : List Bool}, bls? ds = some ns → ds = ns.map PyData.bool
  | [], _, h => by cases h; rfl
  | d :: r, ns, h => by
    cases d <;> simp only [bls?] at h <;> try cases h
    obtain ⟨ms, h1, h2⟩ := Option.map_eq_some_iff.mp h
    subst h2
    rw [bls_some h1]; rfl
theorem bls_map : ∀ ns : List Bool, bls? (ns.map PyData.bool) = some ns
  | [] => rfl
  | n :: r => by
    show (bls? (r.map PyData.bool)).map (n :: ·) = _
    rw [bls_map r]; rfl
def sumD : List D → Option D
  | [.list ds] => (ints? ds).map fun ns => .int ns.sum
  | [.tuple ds] => (ints? ds).map fun ns => .int ns.sum
  | _ => none
theorem sum_tup {prog : Program} {w : World} {A : Around} {E : Value → Shared → Prop} {s : Shared} {l : Addr} {its : List Value} {ns : List Int} {Q : Value → Shared → Prop}
    (hh : A.handled = none) (hl : s.heap.IsTuple l its.toArray) (hi : IntsAre its ns)
    (h : ∀ h' tk t', (∀ b o, s.heap.get? b = some o → h'.get? b = some o) → Q (.int ns.sum t') { s with heap := h', toks := tk }) : wpAny (model prog w) A (call (.builtin "sum") [.ref l]) Q E s := by
  obtain ⟨xs, e⟩ := hi.allInts.items
  have hn : numsOf (intItems xs).toList = ns := by rw [← e]; exact hi.numsOf
  rw [nums_intItems] at hn
  rw [e] at hl
  refine PySem.W.ktm_sumG hh hl fun h' tk t' hk => ?_
  have := h h' tk t' hk
  rw [preSum_eq, List.take_of_length_le (by simp), hn]; exact this
theorem c_sum (hc : X.calm = true) : CallR X (.builtin "sum") (rcOf X.K sumD) := by
  intro pins s σ H xs us Q I r ⟨F, ds, z, sb, b, hq, k⟩
  unfold sumD at hq; split at hq
  · obtain ⟨ns, h1, h2⟩ := Option.map_eq_some_iff.mp hq
    subst h2
    obtain rfl := ints_some h1
    obtain ⟨v, rfl, c⟩ := b.one
    obtain ⟨a, vs, rfl, ha, va⟩ := c.lst sb
    obtain rfl := DvA.ints_inv va
    exact cr_sum hc pins s σ H _ us Q I r ⟨a, ns, rfl, SqL.of ha, k _ F H (Grow.refl sb) (.int _)⟩
  · obtain ⟨ns, h1, h2⟩ := Option.map_eq_some_iff.mp hq
    subst h2
    obtain rfl := ints_some h1
    obtain ⟨v, rfl, c⟩ := b.one
    obtain ⟨a, vs, rfl, ha, fa, va⟩ := c.tup sb
    obtain rfl := DvA.ints_inv va
    obtain ⟨its, rv, hl, _⟩ := I.tuple (SqT.of ha)
    rw [Vals.ref1 r]
    exact sum_tup (I.ok.hd hc) hl rv.ints fun h' tk t' hk => ⟨.int _, H, I.kept hk, ⟨_, rfl⟩, k _ F H (Grow.refl sb) (.int _)⟩
  · cases hq
def allD : List D → Option D
  | [.list ds] => (bls? ds).map fun bs => .bool (bs.all id)
  | _ => none
def anyD : List D → Option D
  | [.list ds] => (bls? ds).map fun bs => .bool (bs.any id)
  | _ => none
theorem c_all (hc : X.calm = true) : CallR X (.builtin "all") (rcOf X.K allD) := by
  intro pins s σ H xs us Q I r ⟨F, ds, z, sb, b, hq, k⟩
  unfold allD at hq; split at hq
  · obtain ⟨ns, h1, h2⟩ := Option.map_eq_some_iff.mp hq
    subst h2
    obtain rfl := bls_some h1
    obtain ⟨v, rfl, c⟩ := b.one
    obtain ⟨a, vs, rfl, ha, va⟩ := c.lst sb
    obtain rfl := DvA.bls_inv va
    exact cr_all hc pins s σ H _ us Q I r ⟨a, ns, rfl, SqL.of ha, k _ F H (Grow.refl sb) (.bl _)⟩
  · cases hq
theorem c_any (hc : X.calm = true) : CallR X (.builtin "any") (rcOf X.K anyD) := by
  intro pins s σ H xs us Q I r ⟨F, ds, z, sb, b, hq, k⟩
  unfold anyD at hq; split at hq
  · obtain ⟨ns, h1, h2⟩ := Option.map_eq_some_iff.mp hq
    subst h2
    obtain rfl := bls_some h1
    obtain ⟨v, rfl, c⟩ := b.one
    obtain ⟨a, vs, rfl, ha, va⟩ := c.lst sb
    obtain rfl := DvA.bls_inv va
    exact cr_any hc pins s σ H _ us Q I r ⟨a, ns, rfl, SqL.of ha, k _ F H (Grow.refl sb) (.bl _)⟩
  · cases hq
/-- tuple(x), list(x) -/
def tupOfD : List D → Option D
  | [.list ds] => some (.tuple ds)
  | [.tuple ds] => some (.tuple ds)
  | _ => none
theorem c_tup : CallR X (.type "tuple") (rcOf X.K tupOfD) := by
  intro pins s σ H xs us Q I r ⟨F, ds, z, sb, b, hq, k⟩
  unfold tupOfD at hq; split at hq
  · cases hq
    obtain ⟨v, rfl, c⟩ := b.one
    obtain ⟨a, vs, rfl, ha, va⟩ := c.lst sb
    exact call_tuple_of pins s σ H _ us Q I r ⟨a, vs, rfl, .inl ⟨SqL.of ha, fun p hp => k _ _ _ (Grow.new sb hp) (Dv.newTup (fnone sb hp) va)⟩⟩
  · cases hq
    obtain ⟨v, rfl, c⟩ := b.one
    obtain ⟨a, vs, rfl, ha, fa, va⟩ := c.tup sb
    exact call_tuple_of pins s σ H _ us Q I r ⟨a, vs, rfl, .inr ⟨SqT.of ha, k _ F H (Grow.refl sb) (.tup fa va)⟩⟩
  · cases hq
def lstOfD : List D → Option (List D)
  | [.list ds] => some ds
  | [.tuple ds] => some ds
  | _ => none
theorem cn_lst : CallR X (.type "list") (rcnOf X.K lstOfD) := by
  intro pins s σ H xs us Q I r ⟨F, ds, z, sb, b, hq, k⟩
  unfold lstOfD at hq; split at hq
  · cases hq
    obtain ⟨v, rfl, c⟩ := b.one
    obtain ⟨a, vs, rfl, ha, va⟩ := c.lst sb
    exact call_list_of pins s σ H _ us Q I r ⟨a, vs, rfl, .inl (SqL.of ha), fun p hp => k _ _ _ _ (Grow.made sb hp) hp upd_same (fnone sb hp) va⟩
  · cases hq
    obtain ⟨v, rfl, c⟩ := b.one
    obtain ⟨a, vs, rfl, ha, fa, va⟩ := c.tup sb
    exact call_list_of pins s σ H _ us Q I r ⟨a, vs, rfl, .inr (SqT.of ha), fun p hp => k _ _ _ _ (Grow.made sb hp) hp upd_same (fnone sb hp) va⟩
  · cases hq
/-- sorted, of ints -/
def ins (n : Int) : List Int → List Int
  | [] => [n]
  | m :: r => if n ≤ m then n :: m :: r else m :: ins n r
def sortI : List Int → List Int
  | [] => []
  | n :: r => ins n (sortI r)
theorem ins_perm (n : Int) : ∀ l : List Int, (ins n l).Perm (n :: l)
  | [] => .refl _
  | m :: r => by
    unfold ins
    split
    · exact .refl _
    · exact ((ins_perm n r).cons m).trans (.swap n m r)
theorem sortI_perm : ∀ l : List Int, (sortI l).Perm l
  | [] => .refl _
  | n :: r => (ins_perm n _).trans ((sortI_perm r).cons n)
theorem ins_sorted {n : Int} : ∀ {l : List Int}, l.Pairwise (· ≤ ·) → (ins n l).Pairwise (· ≤ ·)
  | [], _ => by simp [ins]
  | m :: r, h => by
    have h1 := (List.pairwise_cons.mp h)
    unfold ins
    split
    · rename_i hle
      refine List.pairwise_cons.mpr ⟨fun b hb => ?_, h⟩
      rcases List.mem_cons.mp hb with rfl | hb
      · exact hle
      · exact Int.le_trans hle (h1.1 b hb)
    · rename_i hle
      refine List.pairwise_cons.mpr ⟨fun b hb => ?_, ins_sorted h1.2⟩
      rcases List.mem_cons.mp ((ins_perm n r).mem_iff.mp hb) with rfl | hb
      · omega
      · exact h1.1 b hb
theorem sortI_sorted : ∀ l : List Int, (sortI l).Pairwise (· ≤ ·)
  | [] => .nil
  | _ :: r => ins_sorted (sortI_sorted r)
theorem sortI_of {a b : List Int} (hp : a.Perm b) (ha : a.Pairwise (· ≤ ·)) : a = sortI b :=
  PySem.W.ksm_same (hp.trans (sortI_perm b).symm) ha (sortI_sorted b)
def sortD : List D → Option (List D)
  | [.list ds] => (ints? ds).map fun ns => (sortI ns).map PyData.int
  | _ => none
theorem cn_sort : CallR X (.builtin "sorted") (rcnOf X.K sortD) := by
  intro pins s σ H xs us Q I r ⟨F, ds, z, sb, b, hq, k⟩
  unfold sortD at hq; split at hq
  · obtain ⟨ns, h1, h2⟩ := Option.map_eq_some_iff.mp hq
    subst h2
    obtain rfl := ints_some h1
    obtain ⟨v, rfl, c⟩ := b.one
    obtain ⟨a, vs, rfl, ha, va⟩ := c.lst sb
    obtain rfl := DvA.ints_inv va
    refine cr_sortedI pins s σ H _ us Q I r ⟨a, ns, rfl, SqL.of ha, fun ns' p h1 h2 hp => ?_⟩
    rw [sortI_of h1 h2]
    exact k _ _ _ _ (Grow.made sb hp) hp upd_same (fnone sb hp) (DvA.ints _)
  · cases hq
end
/-- isinstance(e, T) -/
def tyD : D → String
  | .none => "NoneType"
  | .bool _ => "bool"
  | .int _ => "int"
  | .str _ => "str"
  | .list _ => "list"
  | .tuple _ => "tuple"
  | .dict _ => "list"
def isiD (T : String) (d : D) : Option D := (kitB (tyD d) T).map .bool
theorem ty_of {K : PySem.W.Frag} {F H : Hp} {x : V} {d : D} {T : String} {z : D} (s : Same F H) (b : Bw K F H x d) (h : isiD T d = some z) (hd : ∀ kvs, d ≠ .dict kvs) : TyX K H x (.type (tyD d)) := by
  cases d with
  | none => rw [b.non]; exact .base .non
  | bool _ => rw [b.bl]; exact .base (.bl _)
  | int _ => rw [b.int]; exact .base (.int _)
  | str _ => rw [b.str]; exact .base (.str _)
  | list ds => obtain ⟨a, vs, rfl, ha, _⟩ := b.lst s; exact .base (.lst ha)
  | tuple ds => obtain ⟨a, vs, rfl, ha, _, _⟩ := b.tup s; exact .base (.tup ha)
  | dict kvs => exact absurd rfl (hd kvs)
def isiD' (T : String) : D → Option D
  | .dict _ => none
  | d => isiD T d
theorem vis {X : Cx} {e : Expr} {da : Ev → Option D} {T : String} {x : Str} {p p2 pos : Pos} (ha : PVB X e da) (hm : X.mg "isinstance" = none) (hm2 : X.mg x = none) (hv : bootBuiltins x = some (.type T)) (hg : Gl X "isinstance" := by rfl) (hg2 : Gl X x := by rfl)
    (hn : x ≠ "__name__" := by decide) (hdb : (x == ("__debug__" : Str)) = false := by decide)
    (he : starEach [e, .Name x p2] X.env = (false, eval e X.env) :: starEach [.Name x p2] X.env := by rfl) (hpl : (backTo pos (starEach [.Name x p2] X.env)).any (·.1) = false := by rfl) :
    PVE X (.Call (.Name "isinstance" p) [e, .Name x p2] [] pos) (e1 (isiD' T) da) :=
  PE.imp (pe_callB call_isi hg hm (by decide +kernel) (pa_cons ha (pa_cons (pe_bltn (v := .ty T) hg2 hm2 hv rfl hn hdb) pa_nil) he) (by decide) (by decide) he hpl) fun σ H Q ⟨H0, F0, env, F, z, rl, ed, k⟩ => by
    obtain ⟨d, h1, ed⟩ := Option.bind_eq_some_iff.mp ed
    refine ⟨H0, F0, env, F, d, rl, h1, fun y F1 H1 g1 b1 => ?_⟩
    have nd : ∀ kvs, d ≠ .dict kvs := fun kvs e => by subst e; cases ed
    have ed' : isiD T d = some z := by cases d <;> first | exact ed | exact absurd rfl (nd _)
    obtain ⟨b, h2, h3⟩ := Option.map_eq_some_iff.mp ed'
    subst h3
    exact ⟨y, .ty T, .type (tyD d), .type T, b, rfl, .ty T, ty_of g1.sub b1 ed' nd, kit_ty h2, k _ F1 H1 g1 (.bl b)⟩
end PV
end

section
set_option maxRecDepth 100000
set_option maxHeartbeats 4000000
namespace PV
open PySem PySem.Spec PyProof.Rows L2

theorem ite_some {α : Type} {c : Prop} [Decidable c] {a b : α} (h : (if c then some a else none) = some b) : c ∧ a = b := by
  split at h
  · cases h; exact ⟨by assumption, rfl⟩
  · cases h
/-! ### what is walked -/
structure WalkD (K : PySem.W.Frag) (Fs : Hp) (J : It) (ds : List D) : Prop where
  go : ∀ i F H, Same Fs F → Same F H → i < ds.length → J.go i H
  stop : ∀ F H, Same Fs F → Same F H → J.stop ds.length H
  yld : ∀ i F H x H', Same Fs F → Same F H → i < ds.length → J.yld i H x H' → ∃ F' d, Grow F H F' H' ∧ ds[i]? = some d ∧ Dv K F' x d
theorem WalkD.of {K : PySem.W.Frag} {Fs : Hp} {J : It} {ds : List D} {n : Nat} {G : Hp → Prop} {Y : Nat → Hp → V → Hp → Prop} (w : Walk J n G Y) (hn : n = ds.length) (hG : ∀ F H, Same Fs F → Same F H → G H)
    (hY : ∀ i F H x H', Same Fs F → Same F H → i < n → Y i H x H' → ∃ F' d, Grow F H F' H' ∧ ds[i]? = some d ∧ Dv K F' x d) : WalkD K Fs J ds :=
  ⟨fun i F H a b hi => w.goes i H (by omega) (hG F H a b), fun F H a b => by rw [← hn]; exact w.stops H (hG F H a b), fun i F H x H' a b hi y => hY i F H x H' a b (by omega) (w.yields i H x H' (by omega) (hG F H a b) y)⟩
def rdI (K : PySem.W.Frag) (den : Ev → Option (List D)) : TI := fun σ H R => ∃ H0 F0 env F ds, Rel K H0 F0 env σ F H ∧ den env = some ds ∧ ∀ J F' H', Grow F H F' H' → WalkD K F' J ds → R J H'
abbrev PVI (X : Cx) (tg it : Expr) (den : Ev → Option (List D)) : Prop := PI X tg it (rdI X.K den)
section
variable {X : Cx} {e a b c tg : Expr} {pos : Pos} {da db dc : Ev → Option D}
theorem PI.imp {t t' : TI} (h : PI X tg e t) (k : ∀ σ H Q, t' σ H Q → t σ H Q) : PI X tg e t' := ⟨fun pins s σ H R I q => h.run pins s σ H R I (k _ _ _ q)⟩
theorem PI.or {t t' : TI} (h : PI X tg e t) (h' : PI X tg e t') : PI X tg e (fun σ H R => t σ H R ∨ t' σ H R) := ⟨fun pins s σ H R I q => q.elim (fun q => h.run pins s σ H R I q) fun q => h'.run pins s σ H R I q⟩
/-- a list, a tuple -/
def seqD : D → Option (List D)
  | .list ds => some ds
  | .tuple ds => some ds
  | _ => none
def iSeq (da : Ev → Option D) : Ev → Option (List D) := fun env => (da env).bind seqD
theorem vi_seq (ha : PVE X e da) : PVI X tg e (iSeq da) := PI.imp (PI.or (pi_list ha) (pi_tup ha)) fun σ H R ⟨H0, F0, env, F, ds, rl, ed, k⟩ => by
  obtain ⟨d, h1, ed⟩ := Option.bind_eq_some_iff.mp ed
  unfold seqD at ed; split at ed <;> cases ed
  · refine .inl ⟨H0, F0, env, F, _, rl, h1, fun x F1 H1 g1 hd => ?_⟩
    cases hd with
    | @lst a vs _ q1 q2 =>
      refine ⟨a, rfl, ⟨vs, SqL.of (g1.sub _ _ q1)⟩, k _ F1 H1 g1 (WalkD.of walk_list (DvA.length q2) (fun F H s1 s2 => SqL.of (s2 _ _ (s1 _ _ q1))) fun i F H x H' s1 s2 hi y => ?_)⟩
      obtain ⟨rfl, y⟩ := y
      obtain ⟨v, e1, e2⟩ := DvA.get q2 (List.getElem?_eq_getElem (by rw [← DvA.length q2]; exact hi))
      rw [e1] at y; cases y
      exact ⟨F, _, Grow.refl s2, List.getElem?_eq_getElem (by rw [← DvA.length q2]; exact hi), Dv.mono s1 _ _ e2⟩
  · refine .inr ⟨H0, F0, env, F, _, rl, h1, fun x F1 H1 g1 hd => ?_⟩
    cases hd with
    | @tup a vs _ q1 q2 =>
      refine ⟨a, rfl, ⟨vs, SqT.of (g1.sub _ _ q1)⟩, k _ F1 H1 g1 (WalkD.of walk_tup (DvA.length q2) (fun F H s1 s2 => SqT.of (s2 _ _ (s1 _ _ q1))) fun i F H x H' s1 s2 hi y => ?_)⟩
      obtain ⟨rfl, y⟩ := y
      obtain ⟨v, e1, e2⟩ := DvA.get q2 (List.getElem?_eq_getElem (by rw [← DvA.length q2]; exact hi))
      rw [e1] at y; cases y
      exact ⟨F, _, Grow.refl s2, List.getElem?_eq_getElem (by rw [← DvA.length q2]; exact hi), Dv.mono s1 _ _ e2⟩
def rngD (lo : Int) (n : Nat) : List D := (List.range n).map fun (k : Nat) => PyData.int (lo + (k : Int))
theorem rngD_length (lo : Int) (n : Nat) : (rngD lo n).length = n := by unfold rngD; rw [List.length_map, List.length_range]
theorem rngD_get (lo : Int) {n i : Nat} (h : i < n) : (rngD lo n)[i]? = some (.int (lo + i)) := by
  unfold rngD; rw [List.getElem?_map, List.getElem?_range h]; rfl
theorem walk_rng {K : PySem.W.Frag} {Fs : Hp} {lo : Int} {n : Nat} : WalkD K Fs (Itr lo n) (rngD lo n) :=
  WalkD.of walk_range (rngD_length lo n).symm (fun _ _ _ _ => trivial) fun i F H x H' s1 s2 hi y => by
    obtain ⟨rfl, rfl⟩ := y
    exact ⟨F, _, Grow.refl s2, rngD_get lo hi, .int _⟩
def rngOk (i : Int) : Bool := decide (i.natAbs < 4611686018427387904)
def rg1 : List D → Option (List D)
  | [.int j] => if rngOk j then some (rngD 0 j.toNat) else none
  | _ => none
def rg2 : List D → Option (List D)
  | [.int i, .int j] => if rngOk i && rngOk j then some (rngD i (j - i).toNat) else none
  | _ => none
theorem rngOk_iff {i : Int} (h : rngOk i = true) : -(2 ^ 62) ≤ i ∧ i < 2 ^ 62 := by
  have := of_decide_eq_true h
  omega
variable {dr : Ev → Option (List D)} {p : Pos}
theorem vi_rg1 (ha : PVAB X [a] dr) (hm : X.mg "range" = none) (hg : Gl X "range" := by rfl) (hs : starEach [a] X.env = [(false, eval a X.env)] := by rfl) : PVI X tg (.Call (.Name "range" p) [a] [] pos) (nA rg1 dr) :=
  PI.imp (pi_range1 hg hm ha hs) fun σ H R ⟨H0, F0, env, F, ds, rl, ed, k⟩ => by
    obtain ⟨d, h1, ed⟩ := Option.bind_eq_some_iff.mp ed
    unfold rg1 at ed; split at ed
    · split at ed <;> cases ed
      rename_i hj
      refine ⟨H0, F0, env, F, _, rl, h1, fun xs F1 H1 g1 hd => ?_⟩
      obtain ⟨v, rfl, hv⟩ := hd.one
      obtain rfl := hv.int
      exact ⟨_, rfl, (rngOk_iff hj).1, (rngOk_iff hj).2, k _ F1 H1 g1 walk_rng⟩
    · cases ed
theorem vi_rg2 (ha : PVAB X [a, b] dr) (hm : X.mg "range" = none) (hg : Gl X "range" := by rfl) (hs : starEach [a, b] X.env = [(false, eval a X.env), (false, eval b X.env)] := by rfl) (hs2 : starEach [b] X.env = [(false, eval b X.env)] := by rfl) : PVI X tg (.Call (.Name "range" p) [a, b] [] pos) (nA rg2 dr) :=
  PI.imp (pi_range2 hg hm ha hs hs2) fun σ H R ⟨H0, F0, env, F, ds, rl, ed, k⟩ => by
    obtain ⟨d, h1, ed⟩ := Option.bind_eq_some_iff.mp ed
    unfold rg2 at ed; split at ed
    · split at ed <;> cases ed
      rename_i hj
      have hj := Bool.and_eq_true_iff.mp hj
      refine ⟨H0, F0, env, F, _, rl, h1, fun xs F1 H1 g1 hd => ?_⟩
      obtain ⟨v, u, rfl, hv, hu⟩ := hd.two
      obtain rfl := hv.int
      obtain rfl := hu.int
      exact ⟨_, _, rfl, ⟨(rngOk_iff hj.1).1, (rngOk_iff hj.1).2, (rngOk_iff hj.2).1, (rngOk_iff hj.2).2⟩, k _ F1 H1 g1 walk_rng⟩
    · cases ed
/-- pairs made turn by turn -/
theorem pair_yld {K : PySem.W.Frag} {F H H' : Hp} {x v u : V} {d e : D} {T : Addr} (s : Same F H) (hx : x = .ref T) (hT : H T = none) (hH : H' = upd H T (.tup [v, u])) (hv : Dv K F v d) (hu : Dv K F u e) :
    ∃ F', Grow F H F' H' ∧ Dv K F' x (.tuple [d, e]) := by
  subst hx; subst hH
  exact ⟨_, Grow.new s hT, Dv.newTup (fnone s hT) (.cons hv (.cons hu .nil))⟩
def enumD (ds : List D) : List D := (ds.zipIdx).map fun p => .tuple [.int (p.2 : Nat), p.1]
theorem enumD_length (ds : List D) : (enumD ds).length = ds.length := by simp [enumD]
theorem enumD_get {ds : List D} {i : Nat} {d : D} (h : ds[i]? = some d) : (enumD ds)[i]? = some (.tuple [.int (i : Nat), d]) := by
  simp [enumD, List.getElem?_zipIdx, h]
def enL : List D → Option (List D)
  | [.list ds] => some (enumD ds)
  | _ => none
theorem vi_enumL {elts : List Expr} {kk : Nat} {tpos : Pos} (ha : PVA X [a] dr) (hm : X.mg "enumerate" = none) (hg : Gl X "enumerate" := by rfl) (hs : starEach [a] X.env = [(false, eval a X.env)] := by rfl) :
    PVI X (.Tuple elts kk tpos) (.Call (.Name "enumerate" p) [a] [] pos) (nA enL dr) :=
  PI.imp (pi_enum hg hm ha hs) fun σ H R ⟨H0, F0, env, F, ds, rl, ed, k⟩ => by
    obtain ⟨d, h1, ed⟩ := Option.bind_eq_some_iff.mp ed
    unfold enL at ed; split at ed <;> cases ed
    refine ⟨H0, F0, env, F, _, rl, h1, fun xs F1 H1 g1 hd => ?_⟩
    cases hd with
    | cons hd ht =>
      cases ht
      cases hd with
      | @lst a vs _ q1 q2 =>
        refine ⟨a, vs, rfl, SqL.of (g1.sub _ _ q1), k _ F1 H1 g1 (WalkD.of walk_enum ((DvA.length q2).trans (enumD_length _).symm) (fun F H s1 s2 => SqL.of (s2 _ _ (s1 _ _ q1))) fun i F H x H' s1 s2 hi y => ?_)⟩
        obtain ⟨T, v, u, e1, e2, e3, e4, e5⟩ := y
        cases e4
        have e5 : vs[i]? = some u := e5
        have hl := List.getElem?_eq_getElem (show i < _ by rw [← DvA.length q2]; exact hi)
        obtain ⟨u', e6, e7⟩ := DvA.get q2 hl
        rw [e6] at e5; cases e5
        obtain ⟨F', g, hv⟩ := pair_yld s2 e1 e2 e3 (.int _) (Dv.mono s1 _ _ e7)
        exact ⟨F', _, g, enumD_get hl, hv⟩

/-! ### targets -/
abbrev Tgt := D → Ev → Option Ev
/-- no list of our own has come -/
def OwnSub (env env' : Ev) (σ σ' : St) : Prop := ∀ j es, gt env' j = some (.own es) → gt env j = some (.own es) ∧ σ'[j]? = σ[j]?
theorem OwnSub.set {env : Ev} {σ : St} {i : Nat} {x : Option V} {d : D} : OwnSub env (st env i (some (.v d))) σ (σ.set i x) := fun j es h => by
  have n : i ≠ j := fun z => by
    subst z
    have l := gt_lt h
    rw [st_length] at l
    rw [gt_st_same l] at h; cases h
  rw [gt_st_ne n] at h
  exact ⟨h, List.getElem?_set_ne n⟩
def rdG (K : PySem.W.Frag) (is : List Nat) (tgt : Tgt) : TG := fun v σ H Q => ∃ H0 F0 env F d env', Rel K H0 F0 env σ F H ∧ Dv K F v d ∧ tgt d env = some env' ∧
  ∀ σ', Rel K H0 F0 env' σ' F H → (∀ vs, (∀ i ∈ is, i ∈ vs) → wipe σ' vs = wipe σ vs) → OwnSub env env' σ σ' → Q σ' H
abbrev PVG (X : Cx) (tg : Expr) (is : List Nat) (tgt : Tgt) : Prop := PG X tg (rdG X.K is tgt)
def rdGs (K : PySem.W.Frag) (is : List Nat) (tgt : List D → Ev → Option Ev) : TGs := fun v σ H Q => ∃ H0 F0 env F d env', Rel K H0 F0 env σ F H ∧ DvA K F v d ∧ tgt d env = some env' ∧
  ∀ σ', Rel K H0 F0 env' σ' F H → (∀ vs, (∀ i ∈ is, i ∈ vs) → wipe σ' vs = wipe σ vs) → OwnSub env env' σ σ' → Q σ' H
abbrev PVGs (X : Cx) (tg : List Expr) (is : List Nat) (tgt : List D → Ev → Option Ev) : Prop := PGs X tg (rdGs X.K is tgt)
theorem PG.imp {t t' : TG} (h : PG X tg t) (k : ∀ v σ H Q, t' v σ H Q → t v σ H Q) : PG X tg t' := ⟨fun pins s σ H v u Q I r q => h.run pins s σ H v u Q I r (k _ _ _ _ q)⟩
theorem PGs.imp {ts : List Expr} {t t' : TGs} (h : PGs X ts t) (k : ∀ v σ H Q, t' v σ H Q → t v σ H Q) : PGs X ts t' := ⟨fun pins s σ H v u Q I r q => h.run pins s σ H v u Q I r (k _ _ _ _ q)⟩
theorem wipe_at (σ : St) (j : Nat) : ∀ vs : List Nat, (wipe σ vs)[j]? = if j ∈ vs then (σ[j]?).map fun _ => none else σ[j]?
  | [] => by simp [wipe]
  | v :: vs => by
    unfold wipe
    by_cases e : v = j
    · subst e
      rw [List.getElem?_set]
      simp only [if_true, List.mem_cons, true_or]
      rw [wipe_length]
      by_cases h : v < σ.length
      · simp [h]
      · simp [h]
    · rw [List.getElem?_set_ne e, wipe_at σ j vs]
      simp only [List.mem_cons, show ¬ j = v from fun z => e z.symm, false_or]
theorem wipe_set {σ : St} {i : Nat} {x : Option V} {vs : List Nat} (h : i ∈ vs) : wipe (σ.set i x) vs = wipe σ vs := by
  apply List.ext_getElem?
  intro j
  rw [wipe_at, wipe_at]
  by_cases e : i = j
  · subst e
    rw [if_pos h, if_pos h, List.getElem?_set]
    by_cases hl : i < σ.length
    · simp [hl]
    · simp [hl]
  · rw [List.getElem?_set_ne e]
def gN (i : Nat) : Tgt := fun d env => some (st env i (some (.v d)))
theorem vg (i : Nat) {x : Str} (hN : X.N.Nodup) (hi : X.N[i]? = some x := by rfl) (hx : Loc X.env.scope x := by first | exact Or.inl rfl | exact Or.inr rfl) (hf : X.fn x = true ∨ X.env.scope.names.lookup x = some .local := by first | exact .inl rfl | exact .inr rfl) :
    PVG X (.Name x pos) [i] (gN i) := PG.imp (pg_name hN hi hx hf) fun v σ H Q ⟨H0, F0, env, F, d, env', rl, hd, ed, k⟩ => by
  cases ed
  exact k _ (rl.set hd) (fun vs h => wipe_set (h i (by simp))) OwnSub.set
def gsNil : List D → Ev → Option Ev
  | [], env => some env
  | _ :: _, _ => none
def gsCons (t : Tgt) (u : List D → Ev → Option Ev) : List D → Ev → Option Ev
  | d :: ds, env => (t d env).bind fun e1 => u ds e1
  | [], _ => none
theorem vgs_nil : PVGs X [] [] gsNil := PGs.imp pgs_nil fun v σ H Q ⟨H0, F0, env, F, d, env', rl, hd, ed, k⟩ => by
  cases hd with
  | nil => cases ed; exact ⟨rfl, k σ rl (fun _ _ => rfl) fun _ _ h => ⟨h, rfl⟩⟩
  | cons _ _ => cases ed
theorem vgs_cons {es : List Expr} {is js : List Nat} {t : Tgt} {u : List D → Ev → Option Ev} (h1 : PVG X e is t) (h2 : PVGs X es js u)
    (hs : (assignEach (e :: es) X.env).map (·.2) = assign e X.env :: (assignEach es X.env).map (·.2) := by rfl) : PVGs X (e :: es) (is ++ js) (gsCons t u) :=
  PGs.imp (pgs_cons h1 h2 hs) fun v σ H Q ⟨H0, F0, env, F, d, env', rl, hd, ed, k⟩ => by
    cases hd with
    | nil => cases ed
    | cons hd ht =>
      obtain ⟨e1, q1, ed⟩ := Option.bind_eq_some_iff.mp (show Option.bind _ _ = _ from ed)
      refine ⟨_, _, rfl, H0, F0, env, F, _, e1, rl, hd, q1, fun σ1 r1 w1 o1 => ⟨H0, F0, e1, F, _, env', r1, ht, ed, fun σ2 r2 w2 o2 => k σ2 r2 (fun vs h => ?_) fun j es h => ⟨(o1 j es (o2 j es h).1).1, (o2 j es h).2.trans (o1 j es (o2 j es h).1).2⟩⟩⟩
      rw [w2 vs fun i hi => h i (List.mem_append_right _ hi), w1 vs fun i hi => h i (List.mem_append_left _ hi)]
def gT (u : List D → Ev → Option Ev) : Tgt := fun d env => match d with
  | .tuple ds => u ds env
  | _ => none
def gLen (n : Nat) (t : Tgt) : Tgt := fun d env => match d with
  | .tuple ds => if ds.length = n then t d env else none
  | _ => none
theorem vgt {es : List Expr} {k : Nat} {is : List Nat} {u : List D → Ev → Option Ev} {n : Nat} (hc : X.calm = true) (h : PVGs X es is u)
    (hn : (assignEach es X.env).length = n := by rfl) (hst : (assignEach es X.env).findIdx? (·.1) = none := by rfl) : PVG X (.Tuple es k pos) is (gLen n (gT u)) :=
  PG.imp (pg_tup hc h hn hst) fun v σ H Q ⟨H0, F0, env, F, d, env', rl, hd, ed, k⟩ => by
    unfold gLen at ed; split at ed
    · split at ed
      · rename_i hl
        cases hd with
        | @tup a vs _ q1 q2 => exact ⟨a, vs, rfl, SqT.of (rl.sub _ _ q1), (DvA.length q2).trans hl, H0, F0, env, F, _, env', rl, q2, ed, k⟩
      · cases ed
    · cases ed

/-! ### statements -/
inductive Out where
  | nx (e : Ev)
  | rt (d : D)
  | bk (e : Ev)
  | ct (e : Ev)
def OutOk (K : PySem.W.Frag) (H0 F0 F : Hp) (Dn : Ends) : Out → Prop
  | .nx e => ∀ σ' F' H', Rel K H0 F0 e σ' F' H' → Same F F' → Dn.nx σ' H'
  | .bk e => ∀ σ' F' H', Rel K H0 F0 e σ' F' H' → Same F F' → Dn.bk σ' H'
  | .ct e => ∀ σ' F' H', Rel K H0 F0 e σ' F' H' → Same F F' → Dn.ct σ' H'
  | .rt d => ∀ x F' H', Same H0 H' → (∀ a, H0 a ≠ none → F' a = F0 a) → Same F' H' → Dv K F' x d → Dn.rt x H'
theorem OutOk.mono {K : PySem.W.Frag} {H0 F0 F F1 : Hp} {Dn : Ends} {o : Out} (h : OutOk K H0 F0 F Dn o) (s : Same F F1) : OutOk K H0 F0 F1 Dn o := by
  cases o with
  | nx e => exact fun σ' F' H' r q => h σ' F' H' r (s.trans q)
  | bk e => exact fun σ' F' H' r q => h σ' F' H' r (s.trans q)
  | ct e => exact fun σ' F' H' r q => h σ' F' H' r (s.trans q)
  | rt d => exact h
def rdS (K : PySem.W.Frag) (den : Ev → Option Out) : TS := fun Dn σ H => ∃ H0 F0 env F o, Rel K H0 F0 env σ F H ∧ den env = some o ∧ OutOk K H0 F0 F Dn o
abbrev PVS (X : Cx) (s : Stmt) (den : Ev → Option Out) : Prop := PS X s (rdS X.K den)
abbrev PVSs (X : Cx) (s : List Stmt) (den : Ev → Option Out) : Prop := PSs X s (rdS X.K den)
variable {s : Stmt} {ss : List Stmt} {d1 d2 : Ev → Option Out}
def sNil : Ev → Option Out := fun env => some (.nx env)
def sSeq (d1 d2 : Ev → Option Out) : Ev → Option Out := fun env => (d1 env).bind fun o => match o with
  | .nx e => d2 e
  | o => some o
theorem vs_nil : PVSs X [] sNil := PSs.imp pss_nil fun D σ H ⟨H0, F0, env, F, o, rl, ed, k⟩ => by cases ed; exact k σ F H rl (Same.refl F)
theorem vs_cons (h1 : PVS X s d1) (h2 : PVSs X ss d2) : PVSs X (s :: ss) (sSeq d1 d2) := PSs.imp (pss_cons h1 h2) fun D σ H ⟨H0, F0, env, F, o, rl, ed, k⟩ => by
  obtain ⟨o1, e1, ed⟩ := Option.bind_eq_some_iff.mp ed
  refine ⟨H0, F0, env, F, o1, rl, e1, ?_⟩
  cases o1 with
  | nx e => exact fun σ' F' H' r q => ⟨H0, F0, e, F', o, r, ed, k.mono q⟩
  | bk e => cases ed; exact k
  | ct e => cases ed; exact k
  | rt d => cases ed; exact k
theorem vs_one (h1 : PVS X s d1) : PVSs X [s] d1 := pss_one h1
/-- slots forgotten, behind and ahead -/
def Out.fg (is : List Nat) : Out → Out
  | .nx e => .nx (fgs e is)
  | .bk e => .bk (fgs e is)
  | .ct e => .ct (fgs e is)
  | .rt d => .rt d
/-- code that is not come to -/
def sNo : Ev → Option Out := fun _ => none
theorem vs_no : PVS X s sNo := PS.imp ps_never fun D σ H ⟨H0, F0, env, F, o, rl, ed, k⟩ => by cases ed
theorem vss_no : PVSs X ss sNo := PSs.imp pss_never fun D σ H ⟨H0, F0, env, F, o, rl, ed, k⟩ => by cases ed
/-- a list of our own is from here on left as it is -/
def frz (env : Ev) (i : Nat) : Ev := match gt env i with
  | some (.own ds) => st env i (some (.v (.list ds)))
  | _ => env
theorem Rel.frzS {K : PySem.W.Frag} {H0 F0 F H : Hp} {env : Ev} {σ : St} (r : Rel K H0 F0 env σ F H) (i : Nat) : ∃ F', Same F F' ∧ Rel K H0 F0 (PV.frz env i) σ F' H := by
  unfold PV.frz
  split
  · rename_i ds hg
    obtain ⟨x, e1, a, vs, rfl, h1, h2, h3, h4⟩ := r.slot i _ hg
    refine ⟨upd F a (.lst vs), same_upd h2, r.base, fun b o e => ?_, fun b hb => ?_, by rw [st_length]; exact r.len, fun j s e => ?_, fun j k x es fs e1' e2' s1 s2 => ?_⟩
    · by_cases z : b = a
      · subst z; rw [upd_same] at e; cases e; exact h1
      · rw [upd_ne z] at e; exact r.sub b o e
    · rw [upd_ne (fun z => hb (by rw [z]; exact h3))]; exact r.frz b hb
    · by_cases z : i = j
      · subst z
        rw [gt_st_same (gt_lt hg)] at e; cases e
        exact ⟨.ref a, e1, .lst upd_same (DvA.mono (same_upd h2) _ _ h4)⟩
      · rw [gt_st_ne z] at e
        obtain ⟨y, e2, q⟩ := r.slot j s e
        refine ⟨y, e2, ?_⟩
        cases s with
        | v d => exact Dv.mono (same_upd h2) _ _ q
        | own es =>
          obtain ⟨b, us, rfl, k1, k2, k3, k4⟩ := q
          have nb : b ≠ a := fun w => z (r.apart i j (.ref a) ds es hg e e1 (by rw [← w]; exact e2))
          exact ⟨b, us, rfl, k1, by rw [upd_ne nb]; exact k2, k3, DvA.mono (same_upd h2) _ _ k4⟩
    · have n1 : i ≠ j := fun z => by subst z; rw [gt_st_same (gt_lt hg)] at e1'; cases e1'
      have n2 : i ≠ k := fun z => by subst z; rw [gt_st_same (gt_lt hg)] at e2'; cases e2'
      rw [gt_st_ne n1] at e1'
      rw [gt_st_ne n2] at e2'
      exact r.apart j k x es fs e1' e2' s1 s2
  · exact ⟨F, Same.refl F, r⟩
def sPre (f : Ev → Ev) (d1 : Ev → Option Out) : Ev → Option Out := fun env => d1 (f env)
theorem vs_frz (i : Nat) (h : PVS X s d1) : PVS X s (sPre (fun env => frz env i) d1) := PS.imp h fun D σ H ⟨H0, F0, env, F, o, rl, ed, k⟩ => by
  obtain ⟨F', q, r⟩ := rl.frzS i
  exact ⟨H0, F0, _, F', o, r, ed, k.mono q⟩
theorem vs_fg (is : List Nat) (h : PVS X s d1) : PVS X s (sPre (fun env => fgs env is) d1) := PS.imp h fun D σ H ⟨H0, F0, env, F, o, rl, ed, k⟩ =>
  ⟨H0, F0, _, F, o, rl.fgs is, ed, k⟩
def sPass : Ev → Option Out := sNil
theorem vs_pass : PVS X (.Pass pos) sNil := PS.imp ps_pass fun D σ H ⟨H0, F0, env, F, o, rl, ed, k⟩ => by cases ed; exact k σ F H rl (Same.refl F)
def sBrk : Ev → Option Out := fun env => some (.bk env)
def sCnt : Ev → Option Out := fun env => some (.ct env)
theorem vs_brk : PVS X (.Break pos) sBrk := PS.imp ps_break fun D σ H ⟨H0, F0, env, F, o, rl, ed, k⟩ => by cases ed; exact k σ F H rl (Same.refl F)
theorem vs_cnt : PVS X (.Continue pos) sCnt := PS.imp ps_continue fun D σ H ⟨H0, F0, env, F, o, rl, ed, k⟩ => by cases ed; exact k σ F H rl (Same.refl F)
def sRet (da : Ev → Option D) : Ev → Option Out := fun env => (da env).map .rt
theorem vs_ret (ha : PVE X e da) : PVS X (.Return (some e) pos) (sRet da) := PS.imp (ps_ret ha) fun D σ H ⟨H0, F0, env, F, o, rl, ed, k⟩ => by
  obtain ⟨d, h1, h2⟩ := Option.map_eq_some_iff.mp ed
  subst h2
  refine ⟨H0, F0, env, F, d, rl, h1, fun x F' H' g hd => ?_⟩
  have r := rl.grow g
  exact k x F' H' r.base r.frz r.sub hd
def sIf (tc : Ev → Option Bool) (d1 d2 : Ev → Option Out) : Ev → Option Out := fun env => (tc env).bind fun c => if c = true then d1 env else d2 env
theorem vs_if {tc : Ev → Option Bool} {sa sb : List Stmt} (hc : PVT X c tc) (h1 : PVSs X sa d1) (h2 : PVSs X sb d2) : PVS X (.If c sa sb pos) (sIf tc d1 d2) := PS.imp (ps_if hc h1 h2) fun D σ H ⟨H0, F0, env, F, o, rl, ed, k⟩ => by
  obtain ⟨b, e1, ed⟩ := Option.bind_eq_some_iff.mp ed
  refine ⟨H0, F0, env, F, b, rl, e1, fun F1 H1 g1 => ?_⟩
  cases b with
  | true => simp only [if_true] at ed ⊢; exact ⟨H0, F0, env, F1, o, rl.grow g1, ed, k.mono (g1.ff rl.sub)⟩
  | false => simp only [Bool.false_eq_true, if_false] at ed ⊢; exact ⟨H0, F0, env, F1, o, rl.grow g1, ed, k.mono (g1.ff rl.sub)⟩

/-! ### what a slot is given: a value, or a new list of our own -/
def NRel (K : PySem.W.Frag) (H F' H' : Hp) (x : V) : SV → Prop
  | .v d => Dv K F' x d
  | .own ds => ∃ a vs, x = .ref a ∧ H a = none ∧ H' a = some (.lst vs) ∧ F' a = none ∧ DvA K F' vs ds
def rdX (K : PySem.W.Frag) (den : Ev → Option SV) : TE := fun σ H Q => ∃ H0 F0 env F s, Rel K H0 F0 env σ F H ∧ den env = some s ∧ ∀ x F' H', Grow F H F' H' → NRel K H F' H' x s → Q x H'
abbrev PVX (X : Cx) (e : Expr) (den : Ev → Option SV) : Prop := PE X e (rdX X.K den)
def xV (da : Ev → Option D) : Ev → Option SV := fun env => (da env).map .v
def xO (dn : Ev → Option (List D)) : Ev → Option SV := fun env => (dn env).map .own
theorem PE.xv (h : PVE X e da) : PVX X e (xV da) := PE.imp h fun σ H Q ⟨H0, F0, env, F, o, rl, ed, k⟩ => by
  obtain ⟨d, h1, h2⟩ := Option.map_eq_some_iff.mp ed
  subst h2
  exact ⟨H0, F0, env, F, d, rl, h1, fun x F' H' g hd => k x F' H' g hd⟩
theorem PE.xo (h : PVN X e dr) : PVX X e (xO dr) := PE.imp h fun σ H Q ⟨H0, F0, env, F, o, rl, ed, k⟩ => by
  obtain ⟨d, h1, h2⟩ := Option.map_eq_some_iff.mp ed
  subst h2
  exact ⟨H0, F0, env, F, d, rl, h1, fun a vs F' H' g hn ha hf hd => k _ F' H' g ⟨a, vs, rfl, hn, ha, hf, hd⟩⟩
theorem NRel.grow {K : PySem.W.Frag} {H F H1 F1 H2 : Hp} {x : V} {s : SV} (h : NRel K H F H1 x s) (g : Grow F H1 F1 H2) (sb : Same F H1) : NRel K H F1 H2 x s := by
  cases s with
  | v d => exact Dv.mono (g.ff sb) _ _ h
  | own ds =>
    obtain ⟨a, vs, rfl, h1, h2, h3, h4⟩ := h
    exact ⟨a, vs, rfl, h1, g.hh _ _ h2, (g.fr a (by rw [h2]; simp)).trans h3, DvA.mono (g.ff sb) _ _ h4⟩
/-- H: a heap in which every slot's own list stands already -/
theorem Rel.setX {K : PySem.W.Frag} {H0 F0 F H F' H' : Hp} {env : Ev} {σ : St} (r : Rel K H0 F0 env σ F' H') (b0 : Same H0 H) (old : ∀ j es b, gt env j = some (.own es) → σ[j]? = some (some (.ref b)) → H b ≠ none) {i : Nat} {x : V} {s : SV} (h : NRel K H F' H' x s) : Rel K H0 F0 (st env i (some s)) (σ.set i (some x)) F' H' := by
  cases s with
  | v d => exact r.set h
  | own ds =>
    obtain ⟨a, vs, rfl, h1, h2, h3, h4⟩ := h
    refine r.setOwn h2 h3 ?_ h4 fun j es hg hs => old j es a hg hs h1
    cases q : H0 a with
    | none => rfl
    | some o => rw [b0 a o q] at h1; cases h1
theorem Rel.old {K : PySem.W.Frag} {H0 F0 F H : Hp} {env : Ev} {σ : St} (r : Rel K H0 F0 env σ F H) : ∀ j es b, gt env j = some (.own es) → σ[j]? = some (some (.ref b)) → H b ≠ none := fun j es b hg hs => by
  obtain ⟨x, e1, a, vs, e2, h1, _⟩ := r.slot j _ hg
  rw [hs] at e1; cases e1; cases e2
  rw [h1]; simp
def sSet (i : Nat) (dx : Ev → Option SV) : Ev → Option Out := fun env => (dx env).map fun s => .nx (st env i (some s))
variable {dx dy dz : Ev → Option SV}
theorem vs_set (i : Nat) {x : Str} {pos' : Pos} (hN : X.N.Nodup) (he : PVX X e dx) (hi : X.N[i]? = some x := by rfl) (hx : Loc X.env.scope x := by first | exact Or.inl rfl | exact Or.inr rfl) (hs : swapsWith e (some (.Name x pos')) pos.line X.env = pure false := by rfl)
    (hf : X.fn x = true ∨ X.env.scope.names.lookup x = some .local := by first | exact .inl rfl | exact .inr rfl) : PVS X (.Assign [.Name x pos'] e pos) (sSet i dx) := PS.imp (ps_set hN hi hx he hs hf) fun D σ H ⟨H0, F0, env, F, o, rl, ed, k⟩ => by
  obtain ⟨sv, h1, h2⟩ := Option.map_eq_some_iff.mp ed
  subst h2
  exact ⟨H0, F0, env, F, sv, rl, h1, fun y F' H' g hd => k _ F' H' ((rl.grow g).setX (F := F) rl.base rl.old hd) (g.ff rl.sub)⟩
/-- a, b = x, y -/
def sPar (i j : Nat) (dx dy : Ev → Option SV) : Ev → Option Out := fun env => (dx env).bind fun s => (dy env).map fun t => .nx (st (st env i (some s)) j (some t))
def rdX2 (K : PySem.W.Frag) (dx dy : Ev → Option SV) : TA := fun σ H Q => ∃ H0 F0 env F s t, Rel K H0 F0 env σ F H ∧ dx env = some s ∧ dy env = some t ∧
  ∀ x y F1 H1 F2 H2, Grow F H F1 H1 → Grow F1 H1 F2 H2 → NRel K H F1 H1 x s → NRel K H1 F2 H2 y t → Q [x, y] H2
theorem va_x2 (ha : PVX X a dx) (hb : PVX X b dy) (hs : starEach [a, b] X.env = (false, eval a X.env) :: starEach [b] X.env := by rfl) (hs2 : starEach [b] X.env = (false, eval b X.env) :: starEach [] X.env := by rfl) : PA X [a, b] (rdX2 X.K dx dy) :=
  PA.imp (pa_cons ha (pa_cons hb pa_nil hs2) hs) fun σ H Q ⟨H0, F0, env, F, s, t, rl, e1, e2, k⟩ =>
    ⟨H0, F0, env, F, s, rl, e1, fun x F1 H1 g1 n1 => ⟨H0, F0, env, F1, t, rl.grow g1, e2, fun y F2 H2 g2 n2 => k x y F1 H1 F2 H2 g1 g2 n1 n2⟩⟩
theorem vs_par (i j : Nat) {x y : Str} {px py pt : Pos} {kt k2 pt2} (hc : X.calm = true) (hN : X.N.Nodup) (ha : PVX X a dx) (hb : PVX X b dy) (hij : i ≠ j := by decide) (hi : X.N[i]? = some x := by rfl) (hj : X.N[j]? = some y := by rfl)
    (hx : X.env.scope.names.lookup x = some .local := by rfl) (hy : X.env.scope.names.lookup y = some .local := by rfl) (hsa : starEach [a, b] X.env = (false, eval a X.env) :: starEach [b] X.env := by rfl) (hsb : starEach [b] X.env = (false, eval b X.env) :: starEach [] X.env := by rfl)
    (hw : swappedStores [.Tuple [.Name x px, .Name y py] kt pt] (.Tuple [a, b] k2 pt2) X.env = pure (some [x, y]) := by rfl)
    (hs : swapsWithSole [.Tuple [.Name x px, .Name y py] kt pt] (.Tuple [a, b] k2 pt2) pos.line X.env = pure false := by rfl) :
    PVS X (.Assign [.Tuple [.Name x px, .Name y py] kt pt] (.Tuple [a, b] k2 pt2) pos) (sPar i j dx dy) := PS.imp (ps_par hc hN hi hj hij hx hy (va_x2 ha hb hsa hsb) hw hs) fun D σ H ⟨H0, F0, env, F, o, rl, ed, k⟩ => by
  obtain ⟨s1, h1, ed⟩ := Option.bind_eq_some_iff.mp ed
  obtain ⟨s2, h2, h3⟩ := Option.map_eq_some_iff.mp ed
  subst h3
  refine ⟨H0, F0, env, F, s1, s2, rl, h1, h2, fun x y F1 H1 F2 H2 g1 g2 n1 n2 => ⟨x, y, rfl, k _ F2 H2 ?_ ((g1.trans g2).ff rl.sub)⟩⟩
  have r1 := (rl.grow g1).setX (F := F) rl.base rl.old n1 (i := i)
  have r2 : Rel X.K H0 F0 (st env i (some s1)) (σ.set i (some x)) F2 H2 := r1.grow g2
  exact r2.setX (F := F1) r1.base r1.old n2
/-- target = value -/
def sAsg (tgt : Tgt) (da : Ev → Option D) : Ev → Option Out := fun env => (da env).bind fun d => (tgt d env).map .nx
theorem vs_asg {is : List Nat} {tgt : Tgt} (he : PVE X e da) (hg : PVG X tg is tgt) (hs : swapsWithSole [tg] e pos.line X.env = pure false := by rfl) (hw : swappedStores [tg] e X.env = pure none := by rfl)
    (h1 : (assignEach [tg] X.env).map (·.2) = [assign tg X.env] := by rfl) : PVS X (.Assign [tg] e pos) (sAsg tgt da) := PS.imp (ps_asg he hg hs hw h1) fun D σ H ⟨H0, F0, env, F, o, rl, ed, k⟩ => by
  obtain ⟨d, h1, ed⟩ := Option.bind_eq_some_iff.mp ed
  obtain ⟨e', h2, h3⟩ := Option.map_eq_some_iff.mp ed
  subst h3
  exact ⟨H0, F0, env, F, d, rl, h1, fun x F1 H1 g1 hd => ⟨H0, F0, env, F1, d, e', rl.grow g1, hd, h2, fun σ' r' _ _ => k σ' F1 H1 r' (g1.ff rl.sub)⟩⟩
/-- name op= value -/
def sAug (i : Nat) (g : D → D → Option D) (da : Ev → Option D) : Ev → Option Out := fun env => (eVar i env).bind fun x => (da env).bind fun y => (g x y).map fun z => .nx (st env i (some (.v z)))
theorem vs_aug (i : Nat) {x : Str} {op : Operator} {g : D → D → Option D} {pos' : Pos} (hN : X.N.Nodup) (he : PVE X e da) (ho : OpR X (inplaceOp op) (rOf X.K g)) (hi : X.N[i]? = some x := by rfl) (hx : Loc X.env.scope x := by first | exact Or.inl rfl | exact Or.inr rfl)
    (hf : X.fn x = true ∨ X.env.scope.names.lookup x = some .local := by first | exact .inl rfl | exact .inr rfl) : PVS X (.AugAssign (.Name x pos') op e pos) (sAug i g da) := PS.imp (ps_aug hN hi hx he ho hf) fun D σ H ⟨H0, F0, env, F, o, rl, ed, k⟩ => by
  obtain ⟨u, h1, ed⟩ := Option.bind_eq_some_iff.mp ed
  obtain ⟨w, h2, ed⟩ := Option.bind_eq_some_iff.mp ed
  obtain ⟨z, h3, h4⟩ := Option.map_eq_some_iff.mp ed
  subst h4
  unfold eVar at h1; split at h1 <;> cases h1
  rename_i hg
  obtain ⟨y, e1, q⟩ := rl.slot i _ hg
  refine ⟨y, e1, H0, F0, env, F, w, rl, h2, fun v F1 H1 g1 hd => ⟨F1, u, w, z, g1.sub, .inl (Dv.mono (g1.ff rl.sub) _ _ q), .inl hd, h3, fun v' F2 H2 g2 hv => ?_⟩⟩
  exact k _ F2 H2 (((rl.grow g1).grow g2).set hv) ((g1.trans g2).ff rl.sub)
theorem o_iadd : OpR X (inplaceOp .Add) (rOf X.K (fun d e => match d, e with | .int i, .int j => some (.int (i + j)) | _, _ => none)) := op_ints0 (r := fun _ _ _ _ => True) iop_add fun d e z h => by
  split at h <;> cases h
  exact ⟨_, _, rfl, rfl, .int _⟩
theorem o_isub : OpR X (inplaceOp .Sub) (rOf X.K subD) := op_ints0 (r := fun _ _ _ _ => True) iop_sub fun d e z h => by
  unfold subD at h; split at h <;> cases h
  exact ⟨_, _, rfl, rfl, .int _⟩
/-- a list of our own is changed -/
theorem Rel.write {K : PySem.W.Frag} {H0 F0 F H : Hp} {env : Ev} {σ : St} (r : Rel K H0 F0 env σ F H) {i : Nat} {ds es : List D} {a : Addr} {us : List V} (hg : gt env i = some (.own ds)) (hs : σ[i]? = some (some (.ref a))) (hv : DvA K F us es) : Rel K H0 F0 (st env i (some (.own es))) σ F (upd H a (.lst us)) := by
  obtain ⟨x, e1, b, vs, e2, h1, h2, h3, h4⟩ := r.slot i _ hg
  rw [hs] at e1; cases e1; cases e2
  refine ⟨fun b o e => ?_, fun b o e => ?_, r.frz, by rw [st_length]; exact r.len, fun j s e => ?_, fun j k y es' fs e1 e2 s1 s2 => ?_⟩
  · rw [upd_ne (ne_of_none e h3)]; exact r.base b o e
  · rw [upd_ne (ne_of_none e h2)]; exact r.sub b o e
  · by_cases z : i = j
    · subst z
      rw [gt_st_same (gt_lt hg)] at e; cases e
      exact ⟨.ref a, hs, a, us, rfl, upd_same, h2, h3, hv⟩
    · rw [gt_st_ne z] at e
      obtain ⟨y, e2, q⟩ := r.slot j s e
      refine ⟨y, e2, ?_⟩
      cases s with
      | v d => exact q
      | own es' =>
        obtain ⟨b, us', rfl, k1, k2, k3, k4⟩ := q
        have nb : b ≠ a := fun w => z (r.apart i j (.ref a) ds es' hg e hs (by rw [← w]; exact e2))
        exact ⟨b, us', rfl, by rw [upd_ne nb]; exact k1, k2, k3, k4⟩
  · have o1 : ∃ q, gt env j = some (.own q) := by
      by_cases z : i = j
      · subst z; exact ⟨_, hg⟩
      · rw [gt_st_ne z] at e1; exact ⟨_, e1⟩
    have o2 : ∃ q, gt env k = some (.own q) := by
      by_cases z : i = k
      · subst z; exact ⟨_, hg⟩
      · rw [gt_st_ne z] at e2; exact ⟨_, e2⟩
    obtain ⟨q1, o1⟩ := o1
    obtain ⟨q2, o2⟩ := o2
    exact r.apart j k y q1 q2 o1 o2 s1 s2
def isO : Option SV → Option (List D)
  | some (.own ds) => some ds
  | _ => none
theorem isO_some {o : Option SV} {ds : List D} (h : isO o = some ds) : o = some (.own ds) := by
  unfold isO at h; split at h <;> cases h; rfl
def sApp (i : Nat) (da : Ev → Option D) : Ev → Option Out := fun env => (isO (gt env i)).bind fun ds => (da env).bind fun d => if ds.length < line then some (.nx (st env i (some (.own (ds ++ [d]))))) else none
theorem vs_app (i : Nat) {x : Str} {px apos cpos : Pos} (ha : PVE X e da) (hN : X.N[i]? = some x := by rfl) (hv : Vis X.env.scope x := by first | exact Or.inl rfl | exact Or.inr (Or.inl rfl) | exact Or.inr (Or.inr rfl)) (hd : (x == ("__debug__" : Str)) = false := by decide) (hcd : (x == ("__classdict__" : Str)) = false := by decide)
    (hbase : attributeBase (.Name x px) "append" X.env (eval (.Name x px) X.env) = eval (.Name x px) X.env := by rfl)
    (hfew : ((backTo cpos (starEach [e] X.env)).all (fun x => !x.1) && (backToKw cpos (keywordEach [] X.env)).all (fun x => x.1.isSome)
      && decide (([e] : List Expr).length + ([] : List Keyword).length + (if ([] : List Keyword).isEmpty then 0 else 1) < 30)) = true := by rfl)
    (hline : (apos.endLine == cpos.line) = true := by rfl) (hs : starEach [e] X.env = (false, eval e X.env) :: starEach [] X.env := by rfl) (hplain : (backTo cpos (starEach [] X.env)).any (·.1) = false := by rfl)
    (hsw : swapsWith (.Call (.Attribute (.Name x px) "append" apos) [e] [] cpos) none pos.line X.env = pure false := by rfl) :
    PVS X (.Expr (.Call (.Attribute (.Name x px) "append" apos) [e] [] cpos) pos) (sApp i da) :=
  PS.imp (ps_expr (pe_bm PySem.F.plainAttrs_list PySem.F.slot_list_append PySem.F.type_list_append mt_append (pe_var (i := i) hN hv hd hcd) (pa_cons ha pa_nil hs) hbase hfew hline hs hplain) hsw) fun D σ H ⟨H0, F0, env, F, o, rl, ed, k⟩ => by
    obtain ⟨ds, h1, ed⟩ := Option.bind_eq_some_iff.mp ed
    obtain ⟨d, h2, ed⟩ := Option.bind_eq_some_iff.mp ed
    obtain ⟨hz, rfl⟩ := ite_some ed
    have hg := isO_some h1
    obtain ⟨y, e1, a, vs, rfl, q1, q2, q3, q4⟩ := rl.slot i _ hg
    refine ⟨.ref a, e1, .inl ⟨rfl, vs, SqL.of q1⟩, H0, F0, env, F, d, rl, h2, fun v F1 H1 g1 hd => ⟨a, vs, v, rfl, rfl, g1.hh _ _ q1, ?_, ?_⟩⟩
    · rw [DvA.length q4, sizeLine_eq]; exact hz
    · exact k σ F1 _ ((rl.grow g1).write hg e1 (DvA.append (DvA.mono (g1.ff rl.sub) _ _ q4) (.cons hd .nil))) (g1.ff rl.sub)
def lstD : D → Option (List D)
  | .list ds => some ds
  | _ => none
theorem lstD_some {d : D} {ds : List D} (h : lstD d = some ds) : d = .list ds := by unfold lstD at h; split at h <;> cases h; rfl
def sExt (i : Nat) (da : Ev → Option D) : Ev → Option Out := fun env => (isO (gt env i)).bind fun ds => (da env).bind fun d => (lstD d).bind fun es => if ds.length + es.length ≤ line then some (.nx (st env i (some (.own (ds ++ es))))) else none
theorem vs_ext (i : Nat) {x : Str} {px apos cpos : Pos} (ha : PVB X e da) (hN : X.N[i]? = some x := by rfl) (hv : Vis X.env.scope x := by first | exact Or.inl rfl | exact Or.inr (Or.inl rfl) | exact Or.inr (Or.inr rfl)) (hd : (x == ("__debug__" : Str)) = false := by decide) (hcd : (x == ("__classdict__" : Str)) = false := by decide)
    (hbase : attributeBase (.Name x px) "extend" X.env (eval (.Name x px) X.env) = eval (.Name x px) X.env := by rfl)
    (hfew : ((backTo cpos (starEach [e] X.env)).all (fun x => !x.1) && (backToKw cpos (keywordEach [] X.env)).all (fun x => x.1.isSome)
      && decide (([e] : List Expr).length + ([] : List Keyword).length + (if ([] : List Keyword).isEmpty then 0 else 1) < 30)) = true := by rfl)
    (hline : (apos.endLine == cpos.line) = true := by rfl) (hs : starEach [e] X.env = (false, eval e X.env) :: starEach [] X.env := by rfl) (hplain : (backTo cpos (starEach [] X.env)).any (·.1) = false := by rfl)
    (hsw : swapsWith (.Call (.Attribute (.Name x px) "extend" apos) [e] [] cpos) none pos.line X.env = pure false := by rfl) :
    PVS X (.Expr (.Call (.Attribute (.Name x px) "extend" apos) [e] [] cpos) pos) (sExt i da) :=
  PS.imp (ps_expr (pe_bm PySem.F.plainAttrs_list PySem.F.slot_list_extend PySem.F.type_list_extend mt_extend (pe_var (i := i) hN hv hd hcd) (pa_cons ha pa_nil hs) hbase hfew hline hs hplain) hsw) fun D σ H ⟨H0, F0, env, F, o, rl, ed, k⟩ => by
    obtain ⟨ds, h1, ed⟩ := Option.bind_eq_some_iff.mp ed
    obtain ⟨d, h2, ed⟩ := Option.bind_eq_some_iff.mp ed
    obtain ⟨es, h3, ed⟩ := Option.bind_eq_some_iff.mp ed
    obtain ⟨hz, rfl⟩ := ite_some ed
    obtain rfl := lstD_some h3
    have hg := isO_some h1
    obtain ⟨y, e1, a, vs, rfl, q1, q2, q3, q4⟩ := rl.slot i _ hg
    refine ⟨.ref a, e1, .inl ⟨rfl, vs, SqL.of q1⟩, H0, F0, env, F, _, rl, h2, fun v F1 H1 g1 hd => ?_⟩
    obtain ⟨b, us, rfl, hb, ub⟩ := hd.lst g1.sub
    refine ⟨a, b, vs, us, rfl, rfl, g1.hh _ _ q1, hb, ?_, ?_⟩
    · rw [DvA.length q4, DvA.length ub, sizeLine_eq]; exact hz
    · exact k σ F1 _ ((rl.grow g1).write hg e1 (DvA.append (DvA.mono (g1.ff rl.sub) _ _ q4) ub)) (g1.ff rl.sub)
/-- xs[i] = e, xs a list of our own -/
def rdSetIx (K : PySem.W.Frag) (i : Nat) (di : Ev → Option D) : TG := fun v σ H Q => ∃ H0 F0 env F d env', Rel K H0 F0 env σ F H ∧ Dv K F v d ∧ ((isO (gt env i)).bind fun ds => (di env).bind fun ix => (isI ix).bind fun n => (ixN ds.length n).map fun j => st env i (some (.own (ds.set j d)))) = some env' ∧
  ∀ F' H', Rel K H0 F0 env' σ F' H' → Same F F' → Q σ H'
theorem vg_ix (i : Nat) {x : Str} {px : Pos} (hi : PVE X b db) (hN : X.N[i]? = some x := by rfl) (hv : Vis X.env.scope x := by first | exact Or.inl rfl | exact Or.inr (Or.inl rfl) | exact Or.inr (Or.inr rfl)) (hd : (x == ("__debug__" : Str)) = false := by decide) (hcd : (x == ("__classdict__" : Str)) = false := by decide)
    (ha : ∀ v, assign (.Subscript (.Name x px) b pos) X.env v = (do
      let ov ← holding [v] (eval (.Name x px) X.env)
      let iv ← holding [v, ov] (eval b X.env)
      standAt pos
      holding [v, ov, iv] (setItem ov iv v)
      release [v, ov, iv] []) := by intro _; rfl) : PG X (.Subscript (.Name x px) b pos) (rdSetIx X.K i db) :=
  PG.imp (pg_sub (pe_var (i := i) hN hv hd hcd) hi set_list ha) fun v σ H Q ⟨H0, F0, env, F, d, env', rl, hd, ed, k⟩ => by
    obtain ⟨ds, h1, ed⟩ := Option.bind_eq_some_iff.mp ed
    obtain ⟨ix, h2, ed⟩ := Option.bind_eq_some_iff.mp ed
    obtain ⟨n, h3, ed⟩ := Option.bind_eq_some_iff.mp ed
    obtain ⟨j, h4, h5⟩ := Option.map_eq_some_iff.mp ed
    subst h5
    obtain rfl := isI_some h3
    have hg := isO_some h1
    obtain ⟨y, e1, a, vs, rfl, q1, q2, q3, q4⟩ := rl.slot i _ hg
    refine ⟨.ref a, e1, H0, F0, env, F, _, rl, h2, fun w F1 H1 g1 hw => ?_⟩
    cases hw
    refine ⟨a, vs, n, j, rfl, rfl, g1.hh _ _ q1, by rw [DvA.length q4]; exact h4, ?_⟩
    exact k F1 _ ((rl.grow g1).write hg e1 (DvA.set j (DvA.mono (g1.ff rl.sub) _ _ q4) (Dv.mono (g1.ff rl.sub) _ _ hd))) (g1.ff rl.sub)
def setIx (i : Nat) (di : Ev → Option D) : Tgt := fun d env => (isO (gt env i)).bind fun ds => (di env).bind fun ix => (isI ix).bind fun n => (ixN ds.length n).map fun j => st env i (some (.own (ds.set j d)))
theorem vs_setIx {i : Nat} (he : PVE X e da) (hg : PG X tg (rdSetIx X.K i db)) (hs : swapsWithSole [tg] e pos.line X.env = pure false := by rfl) (hw : swappedStores [tg] e X.env = pure none := by rfl)
    (h1 : (assignEach [tg] X.env).map (·.2) = [assign tg X.env] := by rfl) : PVS X (.Assign [tg] e pos) (sAsg (setIx i db) da) := PS.imp (ps_asg he hg hs hw h1) fun D σ H ⟨H0, F0, env, F, o, rl, ed, k⟩ => by
  obtain ⟨d, h1, ed⟩ := Option.bind_eq_some_iff.mp ed
  obtain ⟨e', h2, h3⟩ := Option.map_eq_some_iff.mp ed
  subst h3
  exact ⟨H0, F0, env, F, d, rl, h1, fun x F1 H1 g1 hd => ⟨H0, F0, env, F1, d, e', rl.grow g1, hd, h2, fun F2 H2 r' q => k σ F2 H2 r' ((g1.ff rl.sub).trans q)⟩⟩

/-! ### loops -/
def forL (tgt : Tgt) (body : Ev → Option Out) (is : List Nat) : List D → Ev → Option Out
  | [], env => some (.nx env)
  | d :: ds, env => (tgt d env).bind fun e1 => (body e1).bind fun o => match o with
    | .nx e => forL tgt body is ds (fgs e is)
    | .ct e => forL tgt body is ds (fgs e is)
    | .bk e => some (.nx (fgs e is))
    | .rt d => some (.rt d)
def sFor (is : List Nat) (src : Ev → Option (List D)) (tgt : Tgt) (body : Ev → Option Out) : Ev → Option Out := fun env => (src env).bind fun ds => forL tgt body is ds (fgs env is)
theorem vs_for (is : List Nat) {ks : List Nat} {iter : Expr} {tgt : Tgt} {body : List Stmt} (hp : PassesOwn (model X.prog X.w) X.A X.env X.xe) (hc : X.calm = true) (hi : PVI X tg iter dr) (hg : PVG X tg ks tgt) (hb : PVSs X body d1)
    (hs : ∀ x, foldedSetIterable iter X.env x = pure x := by intro _; rfl) : PVS X (.For tg iter body [] pos) (sFor is dr tgt d1) := PS.imp (ps_for hp hc hi hg hb hs) fun D σ H ⟨H0, F0, env, F, o, rl, ed, k⟩ => by
  obtain ⟨ds, h1, ed⟩ := Option.bind_eq_some_iff.mp ed
  refine ⟨H0, F0, env, F, ds, rl, h1, fun J F1 H1 g1 wk => ?_⟩
  have k1 := k.mono (g1.ff rl.sub)
  refine ⟨fun i m σ H => m = ds.length - i ∧ i ≤ ds.length ∧ ∃ env F, Rel X.K H0 F0 env σ F H ∧ Same F1 F ∧ forL tgt d1 is (ds.drop i) env = some o, ⟨ds.length, by omega, Nat.zero_le _, fgs env is, F1, (rl.grow g1).fgs is, Same.refl _, ed⟩, ?_⟩
  rintro i m σ H ⟨rfl, hi, env, F, r, sF, eo⟩
  by_cases hlt : i < ds.length
  · refine .inr ⟨wk.go i F H sF r.sub hlt, fun σ H => ∃ env F, Rel X.K H0 F0 env σ F H ∧ Same F1 F ∧ forL tgt d1 is (ds.drop (i + 1)) env = some o, fun σ' H' q => ⟨_, by omega, rfl, hlt, q⟩, fun x H' y => ?_⟩
    obtain ⟨F', d, g, e1, hd⟩ := wk.yld i F H x H' sF r.sub hlt y
    have ed2 : ds.drop i = d :: ds.drop (i + 1) := by
      rw [List.drop_eq_getElem_cons hlt]
      rw [List.getElem?_eq_getElem hlt] at e1
      cases e1; rfl
    rw [ed2] at eo
    obtain ⟨e', h2, eo⟩ := Option.bind_eq_some_iff.mp (show Option.bind _ _ = _ from eo)
    obtain ⟨o1, h3, eo⟩ := Option.bind_eq_some_iff.mp eo
    refine ⟨H0, F0, env, F', d, e', r.grow g, hd, h2, fun σ2 r2 _ _ => ⟨H0, F0, e', F', o1, r2, h3, ?_⟩⟩
    have sF' : Same F1 F' := sF.trans (g.ff r.sub)
    cases o1 with
    | nx e2 => exact fun σ3 F3 H3 r3 q3 => ⟨fgs e2 is, F3, r3.fgs is, sF'.trans q3, eo⟩
    | ct e2 => exact fun σ3 F3 H3 r3 q3 => ⟨fgs e2 is, F3, r3.fgs is, sF'.trans q3, eo⟩
    | bk e2 => cases eo; exact fun σ3 F3 H3 r3 q3 => k1 σ3 F3 H3 (r3.fgs is) (sF'.trans q3)
    | rt d2 => cases eo; exact k1
  · have e : i = ds.length := by omega
    subst e
    rw [List.drop_length] at eo
    cases eo
    exact .inl ⟨wk.stop F H sF r.sub, k1 σ F H r sF⟩
def whL (tc : Ev → Option Bool) (body : Ev → Option Out) (is : List Nat) : Nat → Ev → Option Out
  | 0, _ => none
  | n + 1, env => (tc env).bind fun c => if c = true then (body env).bind fun o => match o with
    | .nx e => whL tc body is n (fgs e is)
    | .ct e => whL tc body is n (fgs e is)
    | .bk e => some (.nx (fgs e is))
    | .rt d => some (.rt d)
    else some (.nx env)
def sWhile (n : Nat) (is : List Nat) (tc : Ev → Option Bool) (body : Ev → Option Out) : Ev → Option Out := fun env => whL tc body is n (fgs env is)
theorem vs_while (n : Nat) (is : List Nat) {tc : Ev → Option Bool} {body : List Stmt} (hp : PassesOwn (model X.prog X.w) X.A X.env X.xe) (hc : PVT X c tc) (hb : PVSs X body d1) : PVS X (.While c body [] pos) (sWhile n is tc d1) := PS.imp (ps_while hp hc hb) fun D σ H ⟨H0, F0, env, F, o, rl, ed, k⟩ => by
  refine ⟨fun m σ H => ∃ env F', Rel X.K H0 F0 env σ F' H ∧ Same F F' ∧ whL tc d1 is m env = some o, ⟨n, fgs env is, F, rl.fgs is, Same.refl _, ed⟩, ?_⟩
  rintro m σ H ⟨env, F', r, sF, eo⟩
  cases m with
  | zero => cases eo
  | succ m =>
    obtain ⟨b, h1, eo⟩ := Option.bind_eq_some_iff.mp (show Option.bind _ _ = _ from eo)
    refine ⟨H0, F0, env, F', b, r, h1, fun F1 H1 g1 => ?_⟩
    have sF1 := sF.trans (g1.ff r.sub)
    cases b with
    | false =>
      simp only [Bool.false_eq_true, if_false] at eo ⊢
      cases eo
      exact k σ F1 H1 (r.grow g1) sF1
    | true =>
      simp only [if_true] at eo ⊢
      obtain ⟨o1, h2, eo⟩ := Option.bind_eq_some_iff.mp eo
      refine ⟨fun σ H => ∃ env F', Rel X.K H0 F0 env σ F' H ∧ Same F F' ∧ whL tc d1 is m env = some o, fun σ' H' q => ⟨m, Nat.lt_succ_self m, q⟩, H0, F0, env, F1, o1, r.grow g1, h2, ?_⟩
      cases o1 with
      | nx e2 => exact fun σ3 F3 H3 r3 q3 => ⟨fgs e2 is, F3, r3.fgs is, sF1.trans q3, eo⟩
      | ct e2 => exact fun σ3 F3 H3 r3 q3 => ⟨fgs e2 is, F3, r3.fgs is, sF1.trans q3, eo⟩
      | bk e2 => cases eo; exact fun σ3 F3 H3 r3 q3 => k σ3 F3 H3 (r3.fgs is) (sF1.trans q3)
      | rt d2 => cases eo; exact k
end
end PV
end

section
set_option maxRecDepth 100000
set_option maxHeartbeats 4000000
namespace PV
open PySem PySem.Spec PyProof.Rows L2

/-! ### list comprehensions -/
/-- the list at D while it is made -/
structure LcI (K : PySem.W.Frag) (F1 H1 : Hp) (D : Addr) (F H : Hp) (acc : List PyData) : Prop where
  hD : ∃ vs, H D = some (.lst vs) ∧ DvA K F vs acc
  fD : F D = none
  gr : Grow F1 H1 F H
section
variable {K : PySem.W.Frag} {F1 H1 F H F' H' : Hp} {D : Addr} {acc : List PyData}
theorem LcI.grow (i : LcI K F1 H1 D F H acc) (g : Grow F H F' H') : LcI K F1 H1 D F' H' acc := by
  obtain ⟨vs, h1, h2⟩ := i.hD
  exact ⟨⟨vs, g.hh _ _ h1, DvA.mono (g.ff i.gr.sub) _ _ h2⟩, (g.fr D (by rw [h1]; simp)).trans i.fD, i.gr.trans g⟩
theorem LcI.push (i : LcI K F1 H1 D F H acc) (hn : H1 D = none) {y : V} {d : PyData} (hd : Dv K F y d) : ∃ vs, H D = some (.lst vs) ∧ vs.length = acc.length ∧ LcI K F1 H1 D F (upd H D (.lst (vs ++ [y]))) (acc ++ [d]) := by
  obtain ⟨vs, h1, h2⟩ := i.hD
  refine ⟨vs, h1, DvA.length h2, ⟨_, upd_same, DvA.append h2 (.cons hd .nil)⟩, i.fD, fun b o e => ?_, i.gr.fr, fun b o e => ?_⟩
  · rw [upd_ne (ne_of_none e hn)]; exact i.gr.hh b o e
  · rw [upd_ne (ne_of_none e i.fD)]; exact i.gr.sub b o e
theorem LcI.start (s : Same F1 H1) (hn : H1 D = none) : LcI K F1 H1 D F1 (upd H1 D (.lst [])) [] := ⟨⟨[], upd_same, .nil⟩, fnone s hn, Grow.made s hn⟩
end
def lcL (tgt : Tgt) (cond : Ev → Option Bool) (elt : Ev → Option PyData) : List PyData → Ev → Option (List PyData)
  | [], _ => some []
  | d :: ds, env => (tgt d env).bind fun e1 => (cond e1).bind fun c => if c = true then (elt e1).bind fun y => (lcL tgt cond elt ds env).map (y :: ·) else lcL tgt cond elt ds env
def nLc (vs : List Nat) (src : Ev → Option (List PyData)) (tgt : Tgt) (cond : Ev → Option Bool) (elt : Ev → Option PyData) : Ev → Option (List PyData) := fun env =>
  (src env).bind fun ds => (lcL tgt cond elt ds (fgs env vs)).bind fun r => if r.length ≤ line then some r else none
def lc2L (tgt : Tgt) (cond : Ev → Option Bool) (src1 : Ev → Option (List PyData)) (vs1 : List Nat) (tgt1 : Tgt) (cond1 : Ev → Option Bool) (elt : Ev → Option PyData) : List PyData → Ev → Option (List PyData)
  | [], _ => some []
  | d :: ds, env => (tgt d env).bind fun e1 => (cond e1).bind fun c => if c = true then (src1 e1).bind fun es => (lcL tgt1 cond1 elt es (fgs e1 vs1)).bind fun a => (lc2L tgt cond src1 vs1 tgt1 cond1 elt ds env).map (a ++ ·)
    else lc2L tgt cond src1 vs1 tgt1 cond1 elt ds env
def nLc2 (vs : List Nat) (src : Ev → Option (List PyData)) (tgt : Tgt) (cond : Ev → Option Bool) (src1 : Ev → Option (List PyData)) (vs1 : List Nat) (tgt1 : Tgt) (cond1 : Ev → Option Bool) (elt : Ev → Option PyData) : Ev → Option (List PyData) := fun env =>
  (src env).bind fun ds => (lc2L tgt cond src1 vs1 tgt1 cond1 elt ds (fgs env vs)).bind fun r => if r.length ≤ line then some r else none
def tTrue : Ev → Option Bool := fun _ => some true
abbrev PVTs (X : Cx) (ifs : List Expr) (den : Ev → Option Bool) : Prop := PTs X ifs (rdT X.K den)
section
variable {X : Cx} {elt tg iter tg1 iter1 : Expr} {ifs ifs1 : List Expr} {scope : Scope} {own : List (Str × Nat)} {pos : Pos}
theorem PTs.imp {t t' : TT} (h : PTs X ifs t) (k : ∀ σ H Q, t' σ H Q → t σ H Q) : PTs X ifs t' := ⟨fun pins s σ H Q I q => h.run pins s σ H Q I (k _ _ _ q)⟩
theorem vts_nil : PVTs X [] tTrue := PTs.imp pts_nil fun σ H Q ⟨H0, F0, env, F, b, rl, ed, k⟩ => by cases ed; exact k F H (Grow.refl rl.sub)
theorem vts_one {c : Expr} {tc : Ev → Option Bool} (h : PVT X c tc) : PVTs X [c] tc := pts_one h
variable {src src1 : Ev → Option (List PyData)} {tgt tgt1 : Tgt} {cond cond1 : Ev → Option Bool} {de : Ev → Option PyData} {is is1 vs1 : List Nat}
theorem wipe_twice (σ : St) (vs : List Nat) : wipe (wipe σ vs) vs = wipe σ vs := by
  apply List.ext_getElem?
  intro j
  rw [wipe_at, wipe_at]
  by_cases h : j ∈ vs
  · simp only [h, if_true, Option.map_map]; rfl
  · simp [h]
theorem lc_rd {K : PySem.W.Frag} {vs : List Nat} (hs : ∀ i ∈ is, i ∈ vs) {σ : St} {H : Hp} {Q : VK} (q : rdN K (nLc vs src tgt cond de) σ H Q) : tLc (rdI K src) (rdG K is tgt) (rdT K cond) (rdE K de) vs σ H Q := by
  obtain ⟨H0, F0, env, F, zs, rl, ed, k⟩ := q
  obtain ⟨ds, h1, ed⟩ := Option.bind_eq_some_iff.mp ed
  obtain ⟨r, h2, ed⟩ := Option.bind_eq_some_iff.mp ed
  obtain ⟨hz, rfl⟩ := ite_some ed
  refine ⟨H0, F0, env, F, ds, rl, h1, fun J F1 H1 g1 wk D hn => ?_⟩
  refine ⟨fun i m H => m = ds.length - i ∧ i ≤ ds.length ∧ ∃ F acc rest, LcI K F1 H1 D F H acc ∧ lcL tgt cond de (ds.drop i) (fgs env vs) = some rest ∧ acc ++ rest = r, ⟨ds.length, by omega, Nat.zero_le _, F1, [], r, LcI.start g1.sub hn, h2, rfl⟩, ?_⟩
  rintro i m Hi ⟨rfl, hi, Fi, acc, rest, li, er, ea⟩
  have sF : Same F1 Fi := li.gr.ff g1.sub
  by_cases hlt : i < ds.length
  · refine .inr ⟨wk.go i Fi Hi sF li.gr.sub hlt, fun Hn => ∃ F acc rest, LcI K F1 H1 D F Hn acc ∧ lcL tgt cond de (ds.drop (i + 1)) (fgs env vs) = some rest ∧ acc ++ rest = r, fun H' q => ⟨_, by omega, rfl, hlt, q⟩, fun x H' y => ?_⟩
    obtain ⟨F', d, g, e1, hd⟩ := wk.yld i Fi Hi x H' sF li.gr.sub hlt y
    have ed2 : ds.drop i = d :: ds.drop (i + 1) := by
      rw [List.drop_eq_getElem_cons hlt]
      rw [List.getElem?_eq_getElem hlt] at e1
      cases e1; rfl
    rw [ed2] at er
    obtain ⟨e', h3, er⟩ := Option.bind_eq_some_iff.mp (show Option.bind _ _ = _ from er)
    obtain ⟨c, h4, er⟩ := Option.bind_eq_some_iff.mp er
    have l1 := li.grow g
    have r0 : Rel K H0 F0 (fgs env vs) (wipe σ vs) F' H' := ((rl.grow g1).grow l1.gr).wipe vs
    refine ⟨H0, F0, _, F', d, e', r0, hd, h3, fun σ2 r2 w2 o2 => ⟨by rw [w2 vs hs]; exact wipe_twice σ vs, H0, F0, e', F', c, r2, h4, fun F2 H2 g2 => ?_⟩⟩
    have l2 := l1.grow g2
    cases c with
    | false =>
      simp only [Bool.false_eq_true, if_false] at er ⊢
      exact ⟨F2, acc, rest, l2, er, ea⟩
    | true =>
      simp only [if_true] at er ⊢
      obtain ⟨y, h5, er⟩ := Option.bind_eq_some_iff.mp er
      obtain ⟨rest', h6, h7⟩ := Option.map_eq_some_iff.mp er
      subst h7
      refine ⟨H0, F0, e', F2, y, r2.grow g2, h5, fun v F3 H3 g3 hv => ?_⟩
      obtain ⟨us, e3, e4, l3⟩ := (l2.grow g3).push hn hv
      refine ⟨us, e3, ?_, F3, acc ++ [y], rest', l3, h6, by rw [← ea, List.append_assoc]; rfl⟩
      have hlen := congrArg List.length ea
      rw [List.length_append, List.length_cons] at hlen
      rw [e4, sizeLine_eq]
      have : r.length ≤ 16777216 := hz
      omega
  · have e : i = ds.length := by omega
    subst e
    rw [List.drop_length] at er
    cases er
    rw [List.append_nil] at ea
    subst ea
    obtain ⟨us, e3, e4⟩ := li.hD
    refine .inl ⟨wk.stop Fi Hi sF li.gr.sub, k D us Fi Hi (g1.trans li.gr) ?_ e3 li.fD e4⟩
    cases hh : H D with
    | none => rfl
    | some o => rw [g1.hh D o hh] at hn; cases hn
theorem vlc (own : List (Str × Nat)) (vs : List Nat) (hc : X.calm = true) (hN : X.N.Nodup) (hi : PVI X tg iter src) (ok : BlkOk X.N X.env.scope scope own)
    (hg : ∀ (s : Shared) (H : Hp) (C : Addr) (cl : List (Str × Addr)) (fp : List Addr), PG (X.blk s H scope (compEnvC scope cl C X.env) fp) tg (rdG X.K is tgt)) (ht : ∀ (s : Shared) (H : Hp) (C : Addr) (cl : List (Str × Addr)) (fp : List Addr), PTs (X.blk s H scope (compEnvC scope cl C X.env) fp) ifs (rdT X.K cond))
    (he : ∀ (s : Shared) (H : Hp) (C : Addr) (cl : List (Str × Addr)) (fp : List Addr), PE (X.blk s H scope (compEnvC scope cl C X.env) fp) elt (rdE X.K de)) (hvs : own.map (·.2) = vs := by rfl) (h1 : ∀ i ∈ is, i ∈ vs := by decide) (hs : ∀ x, foldedSetIterable iter X.env x = pure x := by intro _; rfl) :
    PVN X (.ListComp elt [⟨tg, iter, ifs, 0⟩] scope pos) (nLc vs src tgt cond de) :=
  PE.imp (pe_lc hc hN hi ok hg ht he hs) fun _ _ _ q => by rw [hvs]; exact lc_rd h1 q
/-- name = [..] on one line, the name a local -/
theorem rd_name {K : PySem.W.Frag} {i : Nat} {dn : Ev → Option (List PyData)} {own : Bool} {D : Ends} {σ : St} {H : Hp} (q : rdS K (sSet i (fun env => (dn env).map fun ds => if own then SV.own ds else .v (.list ds))) D σ H) : rdN K dn σ H (fun x H1 => D.nx (σ.set i (some x)) H1) := by
  obtain ⟨H0, F0, env, F, o, rl, ed, k⟩ := q
  obtain ⟨sv, h1, h2⟩ := Option.map_eq_some_iff.mp ed
  subst h2
  obtain ⟨ds, h3, h4⟩ := Option.map_eq_some_iff.mp h1
  refine ⟨H0, F0, env, F, ds, rl, h3, fun a vs F1 H1 g1 hn ha hf hv => ?_⟩
  cases own with
  | true =>
    simp only [if_true] at h4
    subst h4
    exact k _ F1 H1 ((rl.grow g1).setX (F := F) rl.base rl.old ⟨a, vs, rfl, hn, ha, hf, hv⟩) (g1.ff rl.sub)
  | false =>
    simp only [Bool.false_eq_true, if_false] at h4
    subst h4
    have g2 : Grow F H (upd F1 a (.lst vs)) H1 := ⟨g1.hh, fun b hb => by rw [upd_ne (fun z => hb (by rw [z]; exact hn))]; exact g1.fr b hb, fun b o eb => by
      by_cases z : b = a
      · subst z; rw [upd_same] at eb; cases eb; exact ha
      · rw [upd_ne z] at eb; exact g1.sub b o eb⟩
    exact k _ _ H1 ((rl.grow g2).set (.lst upd_same (DvA.mono (same_upd hf) _ _ hv))) (g2.ff rl.sub)
def xN (own : Bool) (dn : Ev → Option (List PyData)) : Ev → Option SV := fun env => (dn env).map fun ds => if own then SV.own ds else .v (.list ds)
theorem vs_setLc (own : List (Str × Nat)) (vs : List Nat) (i : Nat) (ownB : Bool) {y : Str} {py spos : Pos} (hc : X.calm = true) (hN : X.N.Nodup) (hi : PVI X tg iter src) (ok : BlkOk X.N X.env.scope scope own)
    (hg : ∀ (s : Shared) (H : Hp) (C : Addr) (cl : List (Str × Addr)) (fp : List Addr), PG (X.blk s H scope (compEnvC scope cl C X.env) fp) tg (rdG X.K is tgt)) (ht : ∀ (s : Shared) (H : Hp) (C : Addr) (cl : List (Str × Addr)) (fp : List Addr), PTs (X.blk s H scope (compEnvC scope cl C X.env) fp) ifs (rdT X.K cond))
    (he : ∀ (s : Shared) (H : Hp) (C : Addr) (cl : List (Str × Addr)) (fp : List Addr), PE (X.blk s H scope (compEnvC scope cl C X.env) fp) elt (rdE X.K de)) (hvs : own.map (·.2) = vs := by rfl) (h1 : ∀ i ∈ is, i ∈ vs := by decide) (hs : ∀ x, foldedSetIterable iter X.env x = pure x := by intro _; rfl)
    (hy : X.N[i]? = some y := by rfl) (hyl : X.env.scope.names.lookup y = some .local := by rfl) (hsw : swapsWith (.ListComp elt [⟨tg, iter, ifs, 0⟩] scope pos) (some (.Name y py)) spos.line X.env = pure true := by exact sw_true rfl rfl rfl (by decide +kernel)) :
    PVS X (.Assign [.Name y py] (.ListComp elt [⟨tg, iter, ifs, 0⟩] scope pos) spos) (sSet i (xN ownB (nLc vs src tgt cond de))) :=
  PS.imp (ps_setLc hc hN hy hyl hsw hi ok hg ht he hs) fun D σ H q => by rw [hvs]; exact lc_rd h1 (rd_name q)
theorem rel_upd {K : PySem.W.Frag} {H0 F0 F H : Hp} {env : Ev} {σ : St} {D : Addr} {o : HO} (r : Rel K H0 F0 env σ F H) (hf : F D = none) (h0 : H0 D = none) (ho : ∀ j es, gt env j = some (.own es) → σ[j]? ≠ some (some (.ref D))) : Rel K H0 F0 env σ F (upd H D o) where
  base := fun b u e => by rw [upd_ne (ne_of_none e h0)]; exact r.base b u e
  sub := fun b u e => by rw [upd_ne (ne_of_none e hf)]; exact r.sub b u e
  frz := r.frz
  len := r.len
  slot := fun i s e => by
    obtain ⟨x, e1, q⟩ := r.slot i s e
    refine ⟨x, e1, ?_⟩
    cases s with
    | v d => exact q
    | own es =>
      obtain ⟨a, vs, rfl, k1, k2, k3, k4⟩ := q
      have na : a ≠ D := fun z => ho i es e (by rw [← z]; exact e1)
      exact ⟨a, vs, rfl, by rw [upd_ne na]; exact k1, k2, k3, k4⟩
  apart := r.apart
theorem lc2_rd {K : PySem.W.Frag} {vs : List Nat} (hs : ∀ i ∈ is, i ∈ vs) (hs1 : ∀ i ∈ is1, i ∈ vs1) {σ : St} {H : Hp} {Q : VK} (q : rdN K (nLc2 vs src tgt cond src1 vs1 tgt1 cond1 de) σ H Q) :
    tLc2 (rdI K src) (rdG K is tgt) (rdT K cond) (rdI K src1) (rdG K is1 tgt1) (rdT K cond1) (rdE K de) vs vs1 σ H Q := by
  obtain ⟨H0, F0, env, F, zs, rl, ed, k⟩ := q
  obtain ⟨ds, h1, ed⟩ := Option.bind_eq_some_iff.mp ed
  obtain ⟨r, h2, ed⟩ := Option.bind_eq_some_iff.mp ed
  obtain ⟨hz, rfl⟩ := ite_some ed
  have hzl : r.length ≤ 16777216 := hz
  refine ⟨H0, F0, env, F, ds, rl, h1, fun J F1 H1 g1 wk D hn => ?_⟩
  have nD : ¬ H D ≠ none := fun h => by
    obtain ⟨u, eu⟩ := Option.ne_none_iff_exists'.mp h
    rw [g1.hh D u eu] at hn; cases hn
  have h0D : H0 D = none := by
    cases q : H0 D with
    | none => rfl
    | some o => exact absurd (by rw [rl.base D o q]; simp) nD
  refine ⟨fun i m H => m = ds.length - i ∧ i ≤ ds.length ∧ ∃ F acc rest, LcI K F1 H1 D F H acc ∧ lc2L tgt cond src1 vs1 tgt1 cond1 de (ds.drop i) (fgs env vs) = some rest ∧ acc ++ rest = r, ⟨ds.length, by omega, Nat.zero_le _, F1, [], r, LcI.start g1.sub hn, h2, rfl⟩, ?_⟩
  rintro i m Hi ⟨rfl, hi, Fi, acc, rest, li, er, ea⟩
  have sF : Same F1 Fi := li.gr.ff g1.sub
  by_cases hlt : i < ds.length
  · refine .inr ⟨wk.go i Fi Hi sF li.gr.sub hlt, fun Hn => ∃ F acc rest, LcI K F1 H1 D F Hn acc ∧ lc2L tgt cond src1 vs1 tgt1 cond1 de (ds.drop (i + 1)) (fgs env vs) = some rest ∧ acc ++ rest = r, fun H' q => ⟨_, by omega, rfl, hlt, q⟩, fun x H' y => ?_⟩
    obtain ⟨F', d, g, e1, hd⟩ := wk.yld i Fi Hi x H' sF li.gr.sub hlt y
    have ed2 : ds.drop i = d :: ds.drop (i + 1) := by
      rw [List.drop_eq_getElem_cons hlt]
      rw [List.getElem?_eq_getElem hlt] at e1
      cases e1; rfl
    rw [ed2] at er
    obtain ⟨e', h3, er⟩ := Option.bind_eq_some_iff.mp (show Option.bind _ _ = _ from er)
    obtain ⟨c, h4, er⟩ := Option.bind_eq_some_iff.mp er
    have l1 := li.grow g
    have r0 : Rel K H0 F0 (fgs env vs) (wipe σ vs) F' H' := ((rl.grow g1).grow l1.gr).wipe vs
    refine ⟨H0, F0, _, F', d, e', r0, hd, h3, fun σ2 r2 w2 o2 => ⟨by rw [w2 vs hs]; exact wipe_twice σ vs, H0, F0, e', F', c, r2, h4, fun F2 H2 g2 => ?_⟩⟩
    have l2 := l1.grow g2
    cases c with
    | false =>
      simp only [Bool.false_eq_true, if_false] at er ⊢
      exact ⟨F2, acc, rest, l2, er, ea⟩
    | true =>
      simp only [if_true] at er ⊢
      obtain ⟨es, h5, er⟩ := Option.bind_eq_some_iff.mp er
      obtain ⟨a1, h6, er⟩ := Option.bind_eq_some_iff.mp er
      obtain ⟨rest', h7, h8⟩ := Option.map_eq_some_iff.mp er
      subst h8
      refine ⟨H0, F0, e', F2, es, r2.grow g2, h5, fun J1 F3 H3 g3 wk1 => ?_⟩
      have l3 := l2.grow g3
      have rE : Rel K H0 F0 e' σ2 F3 H3 := (r2.grow g2).grow g3
      refine ⟨fun j m H => m = es.length - j ∧ j ≤ es.length ∧ ∃ F ac re, LcI K F1 H1 D F H (acc ++ ac) ∧ Rel K H0 F0 (fgs e' vs1) (wipe σ2 vs1) F H ∧ Same F3 F ∧ lcL tgt1 cond1 de (es.drop j) (fgs e' vs1) = some re ∧ ac ++ re = a1,
        ⟨es.length, by omega, Nat.zero_le _, F3, [], a1, by rw [List.append_nil]; exact l3, rE.wipe vs1, Same.refl _, h6, rfl⟩, ?_⟩
      rintro j m Hj ⟨rfl, hj, Fj, ac, re, lj, rj, sj, ej, eaj⟩
      by_cases hlj : j < es.length
      · refine .inr ⟨wk1.go j Fj Hj sj lj.gr.sub hlj, fun Hn => ∃ F ac re, LcI K F1 H1 D F Hn (acc ++ ac) ∧ Rel K H0 F0 (fgs e' vs1) (wipe σ2 vs1) F Hn ∧ Same F3 F ∧ lcL tgt1 cond1 de (es.drop (j + 1)) (fgs e' vs1) = some re ∧ ac ++ re = a1,
          fun H' q => ⟨_, by omega, rfl, hlj, q⟩, fun x H' y => ?_⟩
        obtain ⟨F5, d5, g5, e5, hd5⟩ := wk1.yld j Fj Hj x H' sj lj.gr.sub hlj y
        have ed5 : es.drop j = d5 :: es.drop (j + 1) := by
          rw [List.drop_eq_getElem_cons hlj]
          rw [List.getElem?_eq_getElem hlj] at e5
          cases e5; rfl
        rw [ed5] at ej
        obtain ⟨e6, k3, ej⟩ := Option.bind_eq_some_iff.mp (show Option.bind _ _ = _ from ej)
        obtain ⟨c6, k4, ej⟩ := Option.bind_eq_some_iff.mp ej
        have m1 := lj.grow g5
        have r5 := rj.grow g5
        refine ⟨H0, F0, _, F5, d5, e6, r5, hd5, k3, fun σ6 r6 w6 o6 => ⟨by rw [w6 vs1 hs1]; exact wipe_twice σ2 vs1, H0, F0, e6, F5, c6, r6, k4, fun F7 H7 g7 => ?_⟩⟩
        have m2 := m1.grow g7
        have s7 : Same F3 F7 := sj.trans ((g5.trans g7).ff lj.gr.sub)
        cases c6 with
        | false =>
          simp only [Bool.false_eq_true, if_false] at ej ⊢
          exact ⟨F7, ac, re, m2, r5.grow g7, s7, ej, eaj⟩
        | true =>
          simp only [if_true] at ej ⊢
          obtain ⟨y8, k5, ej⟩ := Option.bind_eq_some_iff.mp ej
          obtain ⟨re', k6, k7⟩ := Option.map_eq_some_iff.mp ej
          subst k7
          refine ⟨H0, F0, e6, F7, y8, r6.grow g7, k5, fun v F8 H8 g8 hv => ?_⟩
          have m3 := m2.grow g8
          obtain ⟨us, q3, q4, l8⟩ := m3.push hn hv
          refine ⟨us, q3, ?_, F8, ac ++ [y8], re', by rw [← List.append_assoc]; exact l8, ?_, s7.trans (g8.ff m2.gr.sub), k6, by rw [← eaj, List.append_assoc]; rfl⟩
          · have hlen := congrArg List.length ea
            have hlen2 := congrArg List.length eaj
            rw [List.length_append, List.length_append] at hlen
            rw [List.length_append, List.length_cons] at hlen2
            rw [q4, List.length_append, sizeLine_eq]
            omega
          · have r8 := (r5.grow g7).grow g8
            -- the list at D is in no slot
            refine rel_upd r8 m3.fD h0D fun t ts et e9 => ?_
            obtain ⟨et1, nt1⟩ := gt_fgs et
            rw [wipe_get nt1] at e9
            obtain ⟨et2, e10⟩ := o2 t ts et1
            obtain ⟨et3, nt3⟩ := gt_fgs et2
            rw [e10, wipe_get nt3] at e9
            exact nD (rl.old t ts D et3 e9)
      · have e : j = es.length := by omega
        subst e
        rw [List.drop_length] at ej
        cases ej
        rw [List.append_nil] at eaj
        subst eaj
        exact .inl ⟨wk1.stop Fj Hj sj lj.gr.sub, Fj, acc ++ ac, rest', lj, h7, by rw [← ea, List.append_assoc]⟩
  · have e : i = ds.length := by omega
    subst e
    rw [List.drop_length] at er
    cases er
    rw [List.append_nil] at ea
    subst ea
    obtain ⟨us, e3, e4⟩ := li.hD
    refine .inl ⟨wk.stop Fi Hi sF li.gr.sub, k D us Fi Hi (g1.trans li.gr) ?_ e3 li.fD e4⟩
    cases hh : H D with
    | none => rfl
    | some o => rw [g1.hh D o hh] at hn; cases hn
theorem vlc2 (own : List (Str × Nat)) (vs : List Nat) (vs1 : List Nat) (hc : X.calm = true) (hN : X.N.Nodup) (hi : PVI X tg iter src) (ok : BlkOk X.N X.env.scope scope own)
    (hg : ∀ (s : Shared) (H : Hp) (C : Addr) (cl : List (Str × Addr)) (fp : List Addr), PG (X.blk s H scope (compEnvC scope cl C X.env) fp) tg (rdG X.K is tgt)) (ht : ∀ (s : Shared) (H : Hp) (C : Addr) (cl : List (Str × Addr)) (fp : List Addr), PTs (X.blk s H scope (compEnvC scope cl C X.env) fp) ifs (rdT X.K cond))
    (hi1 : ∀ (s : Shared) (H : Hp) (C : Addr) (cl : List (Str × Addr)) (fp : List Addr), PI (X.blk s H scope (compEnvC scope cl C X.env) fp) tg1 iter1 (rdI X.K src1))
    (hg1 : ∀ (s : Shared) (H : Hp) (C : Addr) (cl : List (Str × Addr)) (fp : List Addr), PG (X.blk s H scope (compEnvC scope cl C X.env) fp) tg1 (rdG X.K is1 tgt1)) (ht1 : ∀ (s : Shared) (H : Hp) (C : Addr) (cl : List (Str × Addr)) (fp : List Addr), PTs (X.blk s H scope (compEnvC scope cl C X.env) fp) ifs1 (rdT X.K cond1))
    (he : ∀ (s : Shared) (H : Hp) (C : Addr) (cl : List (Str × Addr)) (fp : List Addr), PE (X.blk s H scope (compEnvC scope cl C X.env) fp) elt (rdE X.K de)) (hvs : own.map (·.2) = vs := by rfl) (h1 : ∀ i ∈ is, i ∈ vs := by decide) (h2 : ∀ i ∈ is1, i ∈ vs1 := by decide) (hv : ∀ i ∈ vs1, i ∈ vs := by decide)
    (hs : ∀ x, foldedSetIterable iter X.env x = pure x := by intro _; rfl) (hs1 : ∀ env x, foldedSetIterable iter1 env x = pure x := by intro _ _; rfl) :
    PVN X (.ListComp elt [⟨tg, iter, ifs, 0⟩, ⟨tg1, iter1, ifs1, 0⟩] scope pos) (nLc2 vs src tgt cond src1 vs1 tgt1 cond1 de) :=
  PE.imp (pe_lc2 hc hN hi ok (by rw [hvs]; exact hv) hg ht hi1 hg1 ht1 he hs hs1) fun _ _ _ q => by rw [hvs]; exact lc2_rd h1 h2 q
theorem vs_setLc2 (own : List (Str × Nat)) (vs : List Nat) (i : Nat) (ownB : Bool) (vs1 : List Nat) {y : Str} {py spos : Pos} (hc : X.calm = true) (hN : X.N.Nodup) (hi : PVI X tg iter src) (ok : BlkOk X.N X.env.scope scope own)
    (hg : ∀ (s : Shared) (H : Hp) (C : Addr) (cl : List (Str × Addr)) (fp : List Addr), PG (X.blk s H scope (compEnvC scope cl C X.env) fp) tg (rdG X.K is tgt)) (ht : ∀ (s : Shared) (H : Hp) (C : Addr) (cl : List (Str × Addr)) (fp : List Addr), PTs (X.blk s H scope (compEnvC scope cl C X.env) fp) ifs (rdT X.K cond))
    (hi1 : ∀ (s : Shared) (H : Hp) (C : Addr) (cl : List (Str × Addr)) (fp : List Addr), PI (X.blk s H scope (compEnvC scope cl C X.env) fp) tg1 iter1 (rdI X.K src1))
    (hg1 : ∀ (s : Shared) (H : Hp) (C : Addr) (cl : List (Str × Addr)) (fp : List Addr), PG (X.blk s H scope (compEnvC scope cl C X.env) fp) tg1 (rdG X.K is1 tgt1)) (ht1 : ∀ (s : Shared) (H : Hp) (C : Addr) (cl : List (Str × Addr)) (fp : List Addr), PTs (X.blk s H scope (compEnvC scope cl C X.env) fp) ifs1 (rdT X.K cond1))
    (he : ∀ (s : Shared) (H : Hp) (C : Addr) (cl : List (Str × Addr)) (fp : List Addr), PE (X.blk s H scope (compEnvC scope cl C X.env) fp) elt (rdE X.K de)) (hvs : own.map (·.2) = vs := by rfl) (h1 : ∀ i ∈ is, i ∈ vs := by decide) (h2 : ∀ i ∈ is1, i ∈ vs1 := by decide) (hv : ∀ i ∈ vs1, i ∈ vs := by decide)
    (hs : ∀ x, foldedSetIterable iter X.env x = pure x := by intro _; rfl) (hs1 : ∀ env x, foldedSetIterable iter1 env x = pure x := by intro _ _; rfl)
    (hy : X.N[i]? = some y := by rfl) (hyl : X.env.scope.names.lookup y = some .local := by rfl) (hsw : swapsWith (.ListComp elt [⟨tg, iter, ifs, 0⟩, ⟨tg1, iter1, ifs1, 0⟩] scope pos) (some (.Name y py)) spos.line X.env = pure true := by exact sw_true rfl rfl rfl (by decide +kernel)) :
    PVS X (.Assign [.Name y py] (.ListComp elt [⟨tg, iter, ifs, 0⟩, ⟨tg1, iter1, ifs1, 0⟩] scope pos) spos) (sSet i (xN ownB (nLc2 vs src tgt cond src1 vs1 tgt1 cond1 de))) :=
  PS.imp (ps_setLc2 hc hN hy hyl hsw hi ok (by rw [hvs]; exact hv) hg ht hi1 hg1 ht1 he hs hs1) fun D σ H q => by rw [hvs]; exact lc2_rd h1 h2 (rd_name q)
end
end PV
end

section
set_option maxRecDepth 100000
set_option maxHeartbeats 4000000
namespace PV
open PySem PySem.Spec PyProof.Rows L2

/-- a def's promise: it makes Fg of its arguments, all that stood stands -/
def spD (K : PySem.W.Frag) (n : Nat) (Fg : List D → Option D) : Sp := fun vs H Q _ => vs.length = n ∧ ∃ F ds d, Same F H ∧ DvA K F vs ds ∧ Fg ds = some d ∧ ∀ x F' H', Grow F H F' H' → Dv K F' x d → Q x H'
def startE (n : Nat) (ds : List D) : Ev := ds.map (fun d => some (.v d)) ++ List.replicate (n - ds.length) none
/-- n: the names, m: the parameters -/
def runD (n m : Nat) (den : Ev → Option Out) (ds : List D) : Option D := if ds.length = m then (den (startE n ds)).bind fun o => match o with
    | .rt d => some d
    | .nx _ => some .none
    | _ => none
  else none
theorem runD_len {n m : Nat} {den : Ev → Option Out} {ds : List D} {d : D} (h : runD n m den ds = some d) : ds.length = m := by
  unfold runD at h
  split at h
  · assumption
  · cases h
theorem gt_append_lt : ∀ {a b : Ev} {i : Nat}, i < a.length → gt (a ++ b) i = gt a i
  | [], _, _, h => by simp at h
  | _ :: _, _, 0, _ => rfl
  | _ :: r, b, i + 1, h => gt_append_lt (a := r) (b := b) (i := i) (by simpa using h)
theorem gt_append_ge : ∀ {a b : Ev} {i : Nat}, a.length ≤ i → gt (a ++ b) i = gt b (i - a.length)
  | [], _, _, _ => by simp
  | _ :: _, _, 0, h => by simp at h
  | _ :: r, b, i + 1, h => by
    have := gt_append_ge (a := r) (b := b) (i := i) (by simpa using h)
    simpa [gt] using this
theorem gt_replicate : ∀ {n i : Nat}, gt (List.replicate n none) i = none
  | 0, _ => rfl
  | _ + 1, 0 => rfl
  | n + 1, i + 1 => gt_replicate (n := n) (i := i)
theorem gt_map : ∀ {ds : List D} {i : Nat}, gt (ds.map fun d => some (.v d)) i = (ds[i]?).map SV.v
  | [], _ => rfl
  | _ :: _, 0 => rfl
  | _ :: r, i + 1 => by simpa [gt] using gt_map (ds := r) (i := i)
theorem rel_start {K : PySem.W.Frag} {F H : Hp} {N : List Str} {vs : List V} {ds : List D} (sb : Same F H) (h : DvA K F vs ds) : Rel K H F (startE N.length ds) (L2.start N vs) F H where
  base := Same.refl H
  sub := sb
  frz := fun _ _ => rfl
  len := by
    unfold startE L2.start
    rw [List.length_append, List.length_append, List.length_map, List.length_map, List.length_replicate, List.length_replicate, DvA.length h]
  slot := fun i s e => by
    unfold startE at e
    unfold L2.start
    by_cases hi : i < ds.length
    · rw [gt_append_lt (by simpa using hi), gt_map] at e
      obtain ⟨d, h1, h2⟩ := Option.map_eq_some_iff.mp e
      subst h2
      obtain ⟨v, h3, h4⟩ := DvA.get h h1
      refine ⟨v, ?_, h4⟩
      rw [List.getElem?_append_left (by rw [List.length_map, DvA.length h]; exact hi), List.getElem?_map, h3]; rfl
    · rw [gt_append_ge (by simp; omega), gt_replicate] at e; cases e
  apart := fun i j x es fs e => by
    unfold startE at e
    by_cases hi : i < ds.length
    · rw [gt_append_lt (by simpa using hi), gt_map] at e
      obtain ⟨d, h1, h2⟩ := Option.map_eq_some_iff.mp e
      cases h2
    · rw [gt_append_ge (by simp; omega), gt_replicate] at e; cases e

/-- a def of the top as it stands behind it -/
structure FnS (K : PySem.W.Frag) (mg : Str → Option Value) (x : Str) (s : Stmt) : Prop where
  ex : ∃ f fd, mg x = some (.ref f) ∧ FunD K x x (defArgs s) (defBody s) (defScope s) [] [] f fd
/-- .. and what it makes of its arguments -/
structure FnG (P : Program) (w : World) (K : PySem.W.Frag) (mg : Str → Option Value) (base : Heap) (k : Nat) (x : Str) (ps : List Str) (Fg : List D → Option D) : Prop where
  ex : ∃ f fd, mg x = some (.ref f) ∧ PySem.W.keepIn K (.ref f) = true ∧ Binds K fd ps [] ∧ FnOk P w K mg base CX0 k f fd ps (spD K ps.length Fg)
  len : ∀ ds d, Fg ds = some d → ds.length = ps.length
section
variable {P : Program} {w : World} {K : PySem.W.Frag} {mg : Str → Option Value} {base : Heap}
theorem fng_at {x : Str} {s : Stmt} {N ps : List Str} {k : Nat} {den : Ev → Option Out} {f : Addr} {fd : FuncData} (F : FunD K x x (defArgs s) (defBody s) (defScope s) [] [] f fd) (S : FnScope N ps (defScope s))
    (body : ∀ (cdv : Value) (A : Around) (outer : List Env) (s0 : Shared) (H : Hp) (E : XK), Room k (A.deeper (envOfC x (defScope s) s0.heap.objs.size f cdv)) →
      PVSs (cxOf CX0 P w K mg base N x (defScope s) f cdv A outer s0 H E).nox (defBody s) den) : FnOk P w K mg base CX0 (k + 1) f fd ps (spD K ps.length (runD N.length ps.length den)) := by
  refine F.ok S (fun vs H Q E h => h.1) fun cdv A outer s0 H vs Q E hr h => ⟨rdS K den, (body cdv A outer s0 H E hr).nox, ?_⟩
  obtain ⟨hl, F0, ds, d, sb, hv, ed, k⟩ := h
  unfold runD at ed
  split at ed
  · obtain ⟨o, h1, ed⟩ := Option.bind_eq_some_iff.mp ed
    refine ⟨H, F0, startE N.length ds, F0, o, rel_start sb hv, h1, ?_⟩
    cases o with
    | rt d' =>
      have e : d' = d := Option.some.inj ed
      subst e
      exact fun x F' H' a b c hd => k x F' H' ⟨a, b, c⟩ hd
    | nx e =>
      have e : PyData.none = d := Option.some.inj ed
      subst e
      exact fun σ' F' H' r q => k _ F' H' ⟨r.base, r.frz, r.sub⟩ .non
    | bk e => cases ed
    | ct e => cases ed
  · cases ed
theorem fng {x : Str} {s : Stmt} {N ps : List Str} {k m : Nat} {den : Ev → Option Out} (F0 : FnS K mg x s) (S : FnScope N ps (defScope s))
    (hb : ∀ f fd, FunD K x x (defArgs s) (defBody s) (defScope s) [] [] f fd → Binds K fd ps []) (hm : m = ps.length)
    (body : ∀ (f : Addr) (cdv : Value) (A : Around) (outer : List Env) (s0 : Shared) (H : Hp) (E : XK), Room k (A.deeper (envOfC x (defScope s) s0.heap.objs.size f cdv)) →
      PVSs (cxOf CX0 P w K mg base N x (defScope s) f cdv A outer s0 H E).nox (defBody s) den) : FnG P w K mg base (k + 1) x ps (runD N.length m den) := by
  subst hm
  obtain ⟨f, fd, hmg, F⟩ := F0.ex
  exact ⟨⟨f, fd, hmg, F.kp, hb f fd F, fng_at F S (body f)⟩, fun ds d h => runD_len h⟩
/-- a def that was not come to (for recursions) -/
theorem fng_none {x : Str} {s : Stmt} {ps : List Str} (F0 : FnS K mg x s) (hb : ∀ f fd, FunD K x x (defArgs s) (defBody s) (defScope s) [] [] f fd → Binds K fd ps []) (k : Nat) : FnG P w K mg base k x ps (fun _ => none) := by
  obtain ⟨f, fd, hmg, F⟩ := F0.ex
  refine ⟨⟨f, fd, hmg, F.kp, hb f fd F, ⟨fun vs H Q E h => h.1, fun A outer s H args us vs Q E hr e0 hbt r hsp => ?_⟩⟩, fun ds d h => by cases h⟩
  obtain ⟨_, _, _, _, _, _, h, _⟩ := hsp
  cases h
theorem FnG.mono {x : Str} {ps : List Str} {Fg : List D → Option D} {j k : Nat} (G : FnG P w K mg base j x ps Fg) (h : j ≤ k) : FnG P w K mg base k x ps Fg := by
  obtain ⟨f, fd, a, b, c, d⟩ := G.ex
  exact ⟨⟨f, fd, a, b, c, d.mono h⟩, G.len⟩
end
section
variable {X : Cx} {k j : Nat} {x : Str} {ps : List Str} {Fg : List D → Option D} {e : Expr} {es : List Expr} {dr : Ev → Option (List D)} {p pos : Pos}
theorem vcl (G : FnG X.prog X.w X.K X.mg X.base k x ps Fg) (hr : Room j X.A) (ha : PVA X (e :: es) dr) (hkj : k ≤ j := by decide) (hg : Gl X x := by rfl) (hdb : (x == ("__debug__" : Str)) = false := by decide)
    (he : starEach (e :: es) X.env = (false, eval e X.env) :: starEach es X.env := by rfl) (hpl : (backTo pos (starEach es X.env)).any (·.1) = false := by rfl) : PVE X (.Call (.Name x p) (e :: es) [] pos) (eA Fg dr) := by
  obtain ⟨f, fd, hmg, hk, hb, F⟩ := G.ex
  refine PE.imp (pe_call (E := E0) F (hr.mono hkj) hg hmg hk hb .nil pass0 ha hdb he hpl) fun σ H Q ⟨H0, F0, env, F, z, rl, ed, k⟩ => ?_
  obtain ⟨ds, h1, ed⟩ := Option.bind_eq_some_iff.mp ed
  refine ⟨H0, F0, env, F, ds, rl, h1, fun xs F1 H1 g1 hd => ?_⟩
  show spD _ _ _ (xs ++ []) _ _ _
  rw [List.append_nil]
  exact ⟨(DvA.length hd).trans (G.len ds z ed), F1, ds, z, g1.sub, hd, ed, fun y F' H' g' hv => k y F' H' (g1.trans g') hv⟩
theorem vcl0 (G : FnG X.prog X.w X.K X.mg X.base k x ps Fg) (hr : Room j X.A) (hkj : k ≤ j := by decide) (hg : Gl X x := by rfl) (hdb : (x == ("__debug__" : Str)) = false := by decide) : PVE X (.Call (.Name x p) [] [] pos) (eA Fg aNil) := by
  obtain ⟨f, fd, hmg, hk, hb, F⟩ := G.ex
  refine PE.imp (pe_call0 (E := E0) F (hr.mono hkj) hg hmg hk hb .nil pass0 hdb) fun σ H Q ⟨H0, F0, env, F, z, rl, ed, k⟩ => ?_
  obtain ⟨ds, h1, ed⟩ := Option.bind_eq_some_iff.mp ed
  cases h1
  exact ⟨(G.len [] z ed), F, [], z, rl.sub, .nil, ed, fun y F' H' g' hv => k y F' H' g' hv⟩
end
/-- the built-in names that the program leaves as they are -/
structure Std (mg : Str → Option Value) : Prop where
  «len» : mg "len" = none
  «range» : mg "range" = none
  «tuple» : mg "tuple" = none
  «list» : mg "list" = none
  «sum» : mg "sum" = none
  «int» : mg "int" = none
  «isinstance» : mg "isinstance" = none
  «all» : mg "all" = none
  «any» : mg "any" = none
  «abs» : mg "abs" = none
  «min» : mg "min" = none
  «max» : mg "max" = none
  «sorted» : mg "sorted" = none
  «set» : mg "set" = none
  «enumerate» : mg "enumerate" = none
  «zip» : mg "zip" = none
  «dict» : mg "dict" = none
  «reversed» : mg "reversed" = none
  «str» : mg "str" = none
  «bool» : mg "bool" = none
theorem bb_len : bootBuiltins "len" = some (.builtin "len") := by decide +kernel
theorem bb_range : bootBuiltins "range" = some (.type "range") := by decide +kernel
theorem bb_tuple : bootBuiltins "tuple" = some (.type "tuple") := by decide +kernel
theorem bb_list : bootBuiltins "list" = some (.type "list") := by decide +kernel
theorem bb_sum : bootBuiltins "sum" = some (.builtin "sum") := by decide +kernel
theorem bb_int : bootBuiltins "int" = some (.type "int") := by decide +kernel
theorem bb_isinstance : bootBuiltins "isinstance" = some (.builtin "isinstance") := by decide +kernel
theorem bb_all : bootBuiltins "all" = some (.builtin "all") := by decide +kernel
theorem bb_any : bootBuiltins "any" = some (.builtin "any") := by decide +kernel
theorem bb_abs : bootBuiltins "abs" = some (.builtin "abs") := by decide +kernel
theorem bb_min : bootBuiltins "min" = some (.builtin "min") := by decide +kernel
theorem bb_max : bootBuiltins "max" = some (.builtin "max") := by decide +kernel
theorem bb_sorted : bootBuiltins "sorted" = some (.builtin "sorted") := by decide +kernel
theorem bb_set : bootBuiltins "set" = some (.type "set") := by decide +kernel
theorem bb_enumerate : bootBuiltins "enumerate" = some (.type "enumerate") := by decide +kernel
theorem bb_zip : bootBuiltins "zip" = some (.type "zip") := by decide +kernel
theorem bb_dict : bootBuiltins "dict" = some (.type "dict") := by decide +kernel
theorem bb_reversed : bootBuiltins "reversed" = some (.type "reversed") := by decide +kernel
theorem bb_str : bootBuiltins "str" = some (.type "str") := by decide +kernel
theorem bb_bool : bootBuiltins "bool" = some (.type "bool") := by decide +kernel
/-- the law's end -/
theorem law_end {l : PySem.W.OpenLaw} {w : World} {K : PySem.W.Frag} {mg : Str → Option Value} {h : Heap} {fa : Addr} {n k : Nat} {N : List Str} {den : Ev → Option Out} {s : Stmt} (KX : K.In h) (hmg : mg ("law" : Str) = some (.ref fa))
    (F0 : FnS K mg ("law" : Str) s) (S : FnScope N ["script"] (defScope s))
    (body : ∀ base : Heap, K.In base → base.Ns mainGlobals mg → ∀ (f : Addr) (cdv : Value) (A : Around) (outer : List Env) (s0 : Shared) (H : Hp) (E : XK), Room k (A.deeper (envOfC ("law" : Str) (defScope s) s0.heap.objs.size f cdv)) →
      PVSs (cxOf CX0 l.prog w K mg base N ("law" : Str) (defScope s) f cdv A outer s0 H E).nox (defBody s) den)
    (hb : ∀ f fd, FunD K ("law" : Str) ("law" : Str) (defArgs s) (defBody s) (defScope s) [] [] f fd → ∀ (s0 : Shared) (u : Value), BindsTo s0 fd ⟨[u], []⟩ [("script", u)])
    (hl : ∀ ns : List Int, ns.length ≤ n → runD N.length 1 den [scrD ns] = some (.bool true)) :
    ∃ (K : PySem.W.Frag) (fd : FuncData) (sp : Sp), K.In h ∧ (∀ (s : Shared) (u : Value), BindsTo s fd ⟨[u], []⟩ [("script", u)]) ∧
        (∀ (H : Hp) (a : Addr) (ns : List Int), ns.length ≤ n → Only H → SqL K H a (ns.map V.int) → sp [.ref a] H (fun v _ => v = .bl true) fun _ _ _ => False) ∧
        ∀ base : Heap, K.In base → base.Ns mainGlobals mg → FnOk l.prog w K mg base CX0 (k + 1) fa fd ["script"] sp := by
  obtain ⟨f, fd, h1, F⟩ := F0.ex
  rw [hmg] at h1; cases h1
  refine ⟨K, fd, spD K 1 (runD N.length 1 den), KX, hb _ _ F, fun H a ns hn hO hS => ⟨rfl, H, [scrD ns], .bool true, Same.refl H, .cons (.scr rfl hS) .nil, hl ns hn, fun x F' H' g hd => ?_⟩, fun base k1 k2 => fng_at F S (body base k1 k2 _)⟩
  cases hd; rfl
end PV
end

section
set_option maxRecDepth 100000
set_option maxHeartbeats 4000000
namespace PV
open PySem PySem.Spec PyProof.Rows L2
theorem tuple_mul_same (l : Addr) (items : Array Value) (n : Nat) (dd : Option Addr) (sl : Array (Option Value)) (x : Int) (u : Tok) (c0 : (decide (x < -(2 ^ 63)) || decide (x ≥ 2 ^ 63)) = false) (c1 : (items.isEmpty || x == 1) = true) :
    Meets (Builtin.«tuple.__mul__» ⟨[.ref l, .int x u], []⟩) (fun _ R s => s.heap.get? l = some { cls := .type "tuple", dict := dd, data := .seq items n, slots := sl } ∧ R (.ok (.ret (Value.ref l))) s) :=
  .of_wp fun prog w A R s h => by
    obtain ⟨hp, g, d, tk, os⟩ := s
    obtain ⟨hl, h⟩ := h
    have f1 := AutoSeq1.idx_int
    wp_walk using wpAny_loadPart' hl
    repeat (first
      | (refine wpAny_ite_false (decide_eq_false (by rw [c0]; exact Bool.false_ne_true)) ?_; wp_walk using wpAny_loadPart' hl)
      | (refine wpAny_ite_true (decide_eq_true c1) ?_; wp_walk using wpAny_loadPart' hl))
    exact ⟨_, rfl, h⟩
theorem tuple_mul_none (l : Addr) (items : Array Value) (n : Nat) (dd : Option Addr) (sl : Array (Option Value)) (x : Int) (u : Tok) (c0 : (decide (x < -(2 ^ 63)) || decide (x ≥ 2 ^ 63)) = false) (c1 : (items.isEmpty || x == 1) = false) (c2 : (decide (x ≤ 0) || items.isEmpty) = true) :
    Meets (Builtin.«tuple.__mul__» ⟨[.ref l, .int x u], []⟩) (fun _ R s => s.heap.get? l = some { cls := .type "tuple", dict := dd, data := .seq items n, slots := sl } ∧
      R (.ok (.ret (Value.ref s.heap.objs.size))) { s with heap := s.heap.push { cls := Value.type "tuple", data := Data.seq #[] }, toks := s.toks }) :=
  .of_wp fun prog w A R s h => by
    obtain ⟨hp, g, d, tk, os⟩ := s
    obtain ⟨hl, h⟩ := h
    have f1 := AutoSeq1.idx_int
    wp_walk using wpAny_loadPart' hl
    repeat (first
      | (refine wpAny_ite_false (decide_eq_false (by rw [c0]; exact Bool.false_ne_true)) ?_; wp_walk using wpAny_loadPart' hl)
      | (refine wpAny_ite_false (decide_eq_false (by rw [c1]; exact Bool.false_ne_true)) ?_; wp_walk using wpAny_loadPart' hl)
      | (refine wpAny_ite_true (decide_eq_true c2) ?_; wp_walk using wpAny_loadPart' hl))
    exact ⟨_, rfl, h⟩
end PV
end

section
set_option maxRecDepth 100000
set_option maxHeartbeats 4000000
namespace PV
open PySem PySem.Spec PyProof.Rows L2
/-! ### products -/
def mulD : D → D → Option D
  | .int i, .int j => if mulOk i j then some (.int (i * j)) else none
  | .tuple ds, .int k => if -4611686018427387904 ≤ k ∧ k ≤ 1000 ∧ ds.length ≤ 1000 then some (.tuple (List.replicate k.toNat ds).flatten) else none
  | .list ds, .int k => if -4611686018427387904 ≤ k ∧ k ≤ 1000 ∧ ds.length ≤ 1000 then some (.list (List.replicate k.toNat ds).flatten) else none
  | _, _ => none
def repLD : D → D → Option (List D)
  | .list ds, .int k => if -4611686018427387904 ≤ k ∧ k ≤ 1000 ∧ ds.length ≤ 1000 then some (List.replicate k.toNat ds).flatten else none
  | _, _ => none
theorem rep_line {k : Int} {n : Nat} (h2 : k ≤ 1000) (h3 : n ≤ 1000) : n * k.toNat ≤ sizeLine := by
  rw [sizeLine_eq]
  have : n * k.toNat ≤ 1000 * 1000 := Nat.mul_le_mul h3 (by omega)
  omega
section
variable {X : Cx}
theorem tup_rep {pins : List (Addr × Obj)} {s : Shared} {σ : L2.St} {H F : Hp} {a : Addr} {vs : List V} {ds : List D} {k : Int} {t : Tok} {Q : VK} (I : Inv X pins σ H s) (sb : Same F H) (fa : F a = some (.tup vs)) (va : DvA X.K F vs ds)
    (h1 : -4611686018427387904 ≤ k) (h2 : k ≤ 1000) (h3 : ds.length ≤ 1000) (q : ∀ w F' H', Grow F H F' H' → Dv X.K F' w (.tuple (List.replicate k.toNat ds).flatten) → Q w H') :
    wpAny (model X.prog X.w) X.A (binaryOp .Mult (.ref a) (.int k t)) (EP X pins σ Q) X.xe s := by
  have hl := DvA.length va
  by_cases c1 : vs = [] ∨ k = 1
  · -- the tuple itself
    obtain ⟨its, r, ⟨⟨cls, dd, data, sl⟩, ho, hc, n, hd⟩, hs⟩ := I.tuple (SqT.of (sb _ _ fa))
    simp only at hc hd
    subst hc hd
    have e : (List.replicate k.toNat ds).flatten = ds := by
      rcases c1 with c1 | c1
      · have : ds = [] := (DvA.nil_iff va).mp c1
        subst this
        simp
      · subst c1; simp
    rw [e] at q
    have c0 : (decide (k < -(2 ^ 63)) || decide (k ≥ 2 ^ 63)) = false := by
      rw [decide_eq_false (by omega), decide_eq_false (by omega)] <;> rfl
    have c2 : (its.toArray.isEmpty || k == 1) = true := by
      rcases c1 with c1 | c1
      · subst c1; cases r; rfl
      · subst c1; simp
    refine wpAny_binaryOp_repeat_ref (T := "tuple") (U := "int") (by decide) ⟨_, ho, rfl⟩ (fun s' => typeIs_int s' k t) noFill_tuple_mul PySem.F.fills_int_mul PySem.F.slot_int_rmul repeat_tuple PySem.F.slot_int_index.lookup
      (call_meets PySem.F.slot_int_rmul (typeIs_int s k t) PySem.F.entry_int_rmul (PySem.F.args_int_rmul_2 _ _) (int_rmul_tuple k t a its.toArray n dd sl)
        ⟨ho, rfl, ⟨_, ho, rfl⟩, call_meets PySem.F.slot_tuple_mul ⟨_, ho, rfl⟩ PySem.F.entry_tuple_mul (PySem.F.args_tuple_mul_2 _ _) (tuple_mul_same a its.toArray n dd sl k t c0 c2) ⟨ho, ?_⟩⟩)
    exact ⟨.ref a, H, I, rfl, q _ F H (Grow.refl sb) (.tup fa va)⟩
  · simp only [not_or] at c1
    by_cases c3 : k ≤ 0
    · obtain ⟨its, r, ⟨⟨cls, dd, data, sl⟩, ho, hc, n, hd⟩, hs⟩ := I.tuple (SqT.of (sb _ _ fa))
      simp only at hc hd
      subst hc hd
      have e : (List.replicate k.toNat ds).flatten = [] := by rw [show k.toNat = 0 by omega]; rfl
      rw [e] at q
      have c0 : (decide (k < -(2 ^ 63)) || decide (k ≥ 2 ^ 63)) = false := by
        rw [decide_eq_false (by omega), decide_eq_false (by omega)] <;> rfl
      have hi : its.toArray.isEmpty = false := by
        cases its with
        | nil => cases r; exact absurd rfl c1.1
        | cons x y => rfl
      have c2 : (its.toArray.isEmpty || k == 1) = false := by
        rw [hi, Bool.false_or]; exact beq_eq_false_iff_ne.mpr c1.2
      have c4 : (decide (k ≤ 0) || its.toArray.isEmpty) = true := by rw [decide_eq_true c3]; rfl
      refine wpAny_binaryOp_repeat_ref (T := "tuple") (U := "int") (by decide) ⟨_, ho, rfl⟩ (fun s' => typeIs_int s' k t) noFill_tuple_mul PySem.F.fills_int_mul PySem.F.slot_int_rmul repeat_tuple PySem.F.slot_int_index.lookup
        (call_meets PySem.F.slot_int_rmul (typeIs_int s k t) PySem.F.entry_int_rmul (PySem.F.args_int_rmul_2 _ _) (int_rmul_tuple k t a its.toArray n dd sl)
          ⟨ho, rfl, ⟨_, ho, rfl⟩, call_meets PySem.F.slot_tuple_mul ⟨_, ho, rfl⟩ PySem.F.entry_tuple_mul (PySem.F.args_tuple_mul_2 _ _) (tuple_mul_none a its.toArray n dd sl k t c0 c2 c4) ⟨ho, ?_⟩⟩)
      have hf := I.fresh
      refine ⟨.ref s.heap.objs.size, _, I.laid (t' := s.toks) (o := .tup []) (fun b ob q => Heap.get?_push_of_some _ q) (Nat.le_refl _) ?_, rfl, q _ _ _ (Grow.new sb hf) (Dv.newTup (fnone sb hf) .nil)⟩
      exact ⟨Nat.zero_le _, [], .nil, IsTup.new _ _⟩
    · refine op_repT pins s σ H (.ref a) (.int k) _ _ Q I rfl ⟨t, rfl⟩ ⟨a, k, vs, rfl, rfl, SqT.of (sb _ _ fa), c1.1, by omega, h2, by omega, fun p hp => ?_⟩
      exact q _ _ _ (Grow.new sb hp) (Dv.newTup (fnone sb hp) (DvA.rep va k.toNat))
theorem o_mul : OpR X (binaryOp .Mult) (rOf X.K mulD) := by
  intro pins s σ H x y v u Q I rx ry ⟨F, d, e, z, sb, b1, b2, hq, k⟩
  unfold mulD at hq; split at hq
  · obtain ⟨hc, rfl⟩ := ite_some hq
    unfold mulOk at hc
    refine op_mul pins s σ H x y v u Q I rx ry ⟨_, _, b1.int, b2.int, ?_, k _ F H (Grow.refl sb) (.int _)⟩
    rcases Bool.or_eq_true_iff.mp hc with h | h
    · have := of_decide_eq_true h; exact .inl (by omega)
    · have := of_decide_eq_true h; exact .inr (by omega)
  · obtain ⟨⟨h1, h2, h3⟩, rfl⟩ := ite_some hq
    obtain ⟨a, vs, rfl, ha, fa, va⟩ := b1.tup sb
    cases rx
    obtain rfl := b2.int
    obtain ⟨t, rfl⟩ := ry
    exact tup_rep I sb fa va h1 h2 h3 k
  · obtain ⟨⟨h1, h2, h3⟩, rfl⟩ := ite_some hq
    obtain ⟨a, vs, rfl, ha, va⟩ := b1.lst sb
    refine op_rep pins s σ H _ y v u Q I rx ry ⟨a, _, vs, rfl, b2.int, ha, by omega, by omega, ?_, fun p hp => k _ _ _ (Grow.new sb hp) (Dv.newLst (fnone sb hp) (DvA.rep va _))⟩
    rw [DvA.length va]; exact rep_line h2 h3
  · cases hq
theorem on_rep : OpR X (binaryOp .Mult) (rnOf X.K repLD) := by
  intro pins s σ H x y v u Q I rx ry ⟨F, d, e, z, sb, b1, b2, hq, k⟩
  unfold repLD at hq; split at hq
  · obtain ⟨⟨h1, h2, h3⟩, rfl⟩ := ite_some hq
    obtain ⟨a, vs, rfl, ha, va⟩ := b1.lst sb
    refine op_rep pins s σ H _ y v u Q I rx ry ⟨a, _, vs, rfl, b2.int, ha, by omega, by omega, ?_, fun p hp => k _ _ _ _ (Grow.made sb hp) hp upd_same (fnone sb hp) (DvA.rep va _)⟩
    rw [DvA.length va]; exact rep_line h2 h3
  · cases hq
end
def iaddD : D → D → Option D
  | .int i, .int j => some (.int (i + j))
  | _, _ => none
theorem o_iadd' {X : Cx} : OpR X (inplaceOp .Add) (rOf X.K iaddD) := op_ints0 (r := fun _ _ _ _ => True) iop_add fun d e z h => by
  unfold iaddD at h; split at h <;> cases h
  exact ⟨_, _, rfl, rfl, .int _⟩

/-! ### enumerate of a tuple -/
theorem meets_enumerate_newT (l : Addr) (items : Array Value) (n : Nat) (dct : Option Addr) (sl : Array (Option Value)) :
    Meets (Builtin.«enumerate.__new__» ⟨[.type "enumerate", .ref l], []⟩) (fun _ R s => s.heap.get? l = some { cls := .type "tuple", dict := dct, data := .seq items n, slots := sl } ∧
      R (.ok (.ret (.ref (s.heap.push { cls := .type "tuple_iterator", data := .fields #[.ref l, .int 0 0] }).objs.size)))
        { s with heap := (s.heap.push { cls := .type "tuple_iterator", data := .fields #[.ref l, .int 0 0] }).push { cls := .type "enumerate", data := .fields #[.none, .bool false, .ref s.heap.objs.size, rawInt 0, .none, .none] } }) :=
  .of_wp fun prog w A R s h => by
    obtain ⟨hp, g, d, tk, os⟩ := s; obtain ⟨hl, h⟩ := h
    have hsub := sub_enumerate
    have hL : Heap.IsTuple (Shared.heap ⟨hp, g, d, tk, os⟩) l items := ⟨_, hl, rfl, n, rfl⟩
    wp_walk using AutoSeq1.wpAny_loadPart' hl
    refine wpAny_stack_any fun st => wpAny_pure ?_
    split
    · rename_i c _ _ _ _ _
      cases (c == Value.type "enumerate")
      · wp_walk using AutoSeq1.wpAny_loadPart' hl, wpAny_pyIter_tuple hL
        exact ⟨_, rfl, h⟩
      · wp_walk using AutoSeq1.wpAny_loadPart' hl, wpAny_pyIter_tuple hL
        exact ⟨_, rfl, h⟩
    · wp_walk using AutoSeq1.wpAny_loadPart' hl, wpAny_pyIter_tuple hL
      exact ⟨_, rfl, h⟩
theorem call_enumerate_tuple {prog : Program} {w : World} {A : Around} {E : Value → Shared → Prop} {s : Shared} {l : Addr} {items : Array Value} {Q : Value → Shared → Prop} (hL : s.heap.IsTuple l items)
    (h : ∀ h', IsEnum h' (s.heap.objs.size + 1) s.heap.objs.size 0 .none → h'.IsTupleIter s.heap.objs.size l 0 → h'.objs.size = s.heap.objs.size + 2 →
      (∀ b o, s.heap.get? b = some o → h'.get? b = some o) → Q (.ref (s.heap.objs.size + 1)) { s with heap := h' }) :
    wpAny (model prog w) A (call (.type "enumerate") [.ref l]) Q E s := by
  obtain ⟨⟨c, dct, dt, sl⟩, hl, hc, n, hd⟩ := hL
  replace hc : c = .type "tuple" := hc
  replace hd : dt = .seq items n := hd
  subst hc hd
  refine callType_new F.called_enumerate (by decide) (F.typeCall_enumerate_1 _) (F.newCall_enumerate_1 _) (fun obj => F.args_object_init_2 obj _) F.entry_enumerate_new
    (meets_enumerate_newT l items n dct sl) ⟨hl, ?_⟩
  have hz : (s.heap.push { cls := .type "tuple_iterator", data := .fields #[.ref l, .int 0 0] }).objs.size = s.heap.objs.size + 1 := Heap.size_push ..
  show _ ∧ _
  rw [hz]
  have he : IsEnum ((s.heap.push { cls := .type "tuple_iterator", data := .fields #[.ref l, .int 0 0] }).push
      { cls := .type "enumerate", data := .fields #[.none, .bool false, .ref s.heap.objs.size, rawInt 0, .none, .none] }) (s.heap.objs.size + 1) s.heap.objs.size 0 .none := by
    have := Heap.get?_push_size (s.heap.push { cls := .type "tuple_iterator", data := .fields #[.ref l, .int 0 0] })
      (o := { cls := .type "enumerate", data := .fields #[.none, .bool false, .ref s.heap.objs.size, rawInt 0, .none, .none] }) rfl
    rw [hz] at this; exact this
  refine ⟨⟨_, he, rfl⟩, h _ he ⟨_, Heap.get?_push_of_some _ (Heap.get?_push_size _ rfl), rfl, rfl⟩ (by rw [Heap.size_push, hz]) fun b o x => Heap.get?_push_of_some _ (Heap.get?_push_of_some _ x)⟩
theorem wpAny_pyNext_enum_endT {prog : Program} {w : World} {A : Around} {E : Value → Shared → Prop} {s : Shared} {e it l : Addr} {i : Nat} {items : Array Value} {old : Value} {Q : Option Value → Shared → Prop} (hh : A.handled = none)
    (he : IsEnum s.heap e it i old) (hit : s.heap.IsTupleIter it l i) (hl : s.heap.IsTuple l items) (hx : items[i]? = none)
    (hQ : ∀ h', Heap.ExtBut it s.heap h' → Q none { s with heap := h' }) : wpAny (model prog w) A (pyNext (.ref e)) Q E s := by
  have hT : s.TypeIs (.ref e) "enumerate" := ⟨_, he, rfl⟩
  unfold pyNext
  refine wpAny_bind (wpAny_attempt (wpAny_callSpecial?_slot (name := Str.ofString "__next__") hT PySem.F.slot_enumerate_next
    (wpAny_call_entry PySem.F.slot_enumerate_next hT PySem.F.entry_enumerate_next ?_ (PySem.F.args_enumerate_next_1 _))))
  show wpAny _ _ (field (.ref e) 2 >>= _) _ _ _
  refine wpAny_bind (wpAny_field he rfl (x := .ref it) rfl ?_)
  refine wpAny_bind (wpAny_nextOf_tuple_end hh hit hl hx fun h' x he' hx' => ?_)
  obtain ⟨o, ho, hc⟩ := hx'
  refine wpAny_bind (wpAny_isInstance (T := "StopIteration") (b := true) ⟨o, ho, hc⟩ isSubtype_stop ?_)
  exact wpAny_pure (hQ _ he')
/-- the tuple at a, each item in a new pair -/
def IteT (K : PySem.W.Frag) (a : Addr) : It :=
  ⟨fun i H => ∃ (xs : List V) (x : V), SqT K H a xs ∧ xs[i]? = some x, fun i H v H' => ∃ T x, v = .ref T ∧ H T = none ∧ H' = upd H T (.tup [.int (i : Nat), x]) ∧ ∀ xs, SqT K H a xs → xs[i]? = some x, fun i H => ∃ xs : List V, SqT K H a xs ∧ xs.length ≤ i⟩
theorem turn_enumT {P : Program} {w : World} {K : PySem.W.Frag} {elts : List Expr} {kk : Nat} {tpos : Pos} (a e it : Addr) :
    Turn P w K (.Tuple elts kk tpos) (IteT K a) [e, it] e (fun i h => (∃ old, IsEnum h e it ((i : Nat) : Int) old) ∧ h.IsTupleIter it a i ∧ e ≠ it ∧ a ≠ it ∧ a ≠ e) where
  mem := by simp
  obj := fun i h st b hb => by
    obtain ⟨⟨old, he⟩, ⟨o, ho, hc, hd⟩, _⟩ := st
    have e' : b = e ∨ b = it := by simpa using hb
    rcases e' with z | z
    · rw [z]; exact ⟨_, he, fun v q => nomatch q⟩
    · rw [z]; exact ⟨o, ho, fun v q => by rw [hd] at q; cases q⟩
  keep := fun i h h' st k => let ⟨⟨old, he⟩, hi, hne⟩ := st; ⟨⟨old, k e (by simp) _ he⟩, hi.at fun o q => k it (by simp) o q, hne⟩
  item := by
    intro X hP hw hK hc i pins s σ H E I hf st hg
    subst hP hw hK
    obtain ⟨⟨old, he⟩, hit, hne, hai, hae⟩ := st
    obtain ⟨xs, x, hq, hx⟩ := hg
    obtain ⟨its, rv, p, hz⟩ := I.tuple hq
    obtain ⟨u, hu, ru⟩ := rv.get hx
    have hel : e < s.heap.objs.size := Heap.lt_size he
    have hil : it < s.heap.objs.size := by obtain ⟨_, q, _⟩ := hit; exact Heap.lt_size q
    have hi : i < its.toArray.size := by simpa using (List.getElem?_eq_some_iff.mp hu).1
    refine wpAny_pyNext_enum_itemD (Draws.tuple (prog := X.prog) (w := X.w) (A := X.A.in1) (show X.A.in1.handled = none from I.ok.hd hc) it a hai its.toArray) he ⟨hit, p⟩ hi hne (by simp only [List.mem_cons, List.not_mem_nil, or_false, not_or]; exact ⟨hne, fun z => hae z.symm⟩) fun x' h' tk hx' ho hit' hT hsz hk => ?_
    have ex : x' = u := by
      rw [show its.toArray[i]? = its[i]? by simp] at hx'
      rw [hu] at hx'; exact (Option.some.inj hx').symm
    subst ex
    refine ⟨_, rfl, wpAny_letOwnedTupleGo_enum (s := { s with heap := h', toks := tk + 1 }) ho fun h'' he' sb => ?_⟩
    have hT2 : h''.get? s.heap.objs.size = some { cls := .type "tuple", data := .seq #[.int i tk, x'] } := (sb.2 _ (Nat.ne_of_gt hel)).trans hT
    have new : ObjOk X.prog X.w (upd H s.heap.objs.size (.tup [.int (i : Nat), x])) h'' s.heap.objs.size (.tup [.int (i : Nat), x]) :=
      ⟨by show 2 ≤ sizeLine; decide, [.int i tk, x'], .cons ⟨_, rfl⟩ (.cons ru .nil), ⟨_, hT2, rfl, _, rfl⟩⟩
    have I1 : Inv X pins σ (upd H s.heap.objs.size (.tup [.int (i : Nat), x])) { s with heap := h'', toks := tk + 1 } :=
      I.turnedNew (ch := [e, it]) (fun b ob hb q => (sb.2 b (fun z => hb (by simp [z]))).trans (hk b ob (fun z => hb (by simp [z])) (fun z => hb (by simp [z])) q)) hf (Nat.le_refl _) new
    refine ⟨.ref s.heap.objs.size, _, I1, rfl, ⟨_, x, rfl, I.hok.fresh (Nat.le_refl _), rfl, fun ys hy => by rw [I.tuple_inj hy hq]; exact hx⟩, ⟨⟨x', ?_⟩, hit'.1.at fun o q => (sb.2 it (Ne.symm hne)).trans q, hne, hai, hae⟩, fun b hb => ?_⟩
    · have e1 : ((i + 1 : Nat) : Int) = (i : Int) + 1 := by omega
      rw [e1]; exact he'
    · have hb' : b < s.heap.objs.size := by
        have e' : b = e ∨ b = it := by simpa using hb
        rcases e' with z | z
        · rw [z]; exact hel
        · rw [z]; exact hil
      rw [upd_ne (Nat.ne_of_lt hb')]
      exact (hf b hb).1
  done := by
    intro X hP hw hK hc i pins s σ H E I hf st hg
    subst hP hw hK
    obtain ⟨⟨old, he⟩, hit, hne, hai, hae⟩ := st
    obtain ⟨xs, hq, hx⟩ := hg
    obtain ⟨its, rv, p, hz⟩ := I.tuple hq
    obtain ⟨f0, f1, f2, f3, f4, f5⟩ := hf it (by simp)
    have hl := rv.length
    exact wpAny_pyNext_enum_endT (I.ok.hd hc) he hit p (by simp; omega) fun h' eb => ⟨rfl, I.turned (t' := s.toks) (fun b o hb q => eb b o hb q) f0 f1 f3 f4 f5⟩
  self := fun A i s Q E st h => let ⟨⟨_, he⟩, _⟩ := st; wpAny_pyIter_enum he h
def iEnumT (K : PySem.W.Frag) (ta : TA) : TI := fun σ H R => ta σ H fun vs H1 => ∃ a xs, vs = [.ref a] ∧ SqT K H1 a xs ∧ R (IteT K a) H1
theorem pi_enumT {X : Cx} {e : Expr} {ta : TA} {p pos tpos : Pos} {elts : List Expr} {kk : Nat} (hg : Gl X "enumerate") (hm : X.mg "enumerate" = none) (ha : PA X [e] ta) (hs : starEach [e] X.env = [(false, eval e X.env)] := by rfl) :
    PI X (.Tuple elts kk tpos) (.Call (.Name "enumerate" p) [e] [] pos) (iEnumT X.K ta) := by
  refine ⟨fun pins s σ H R I h => ?_⟩
  refine Call_ (ld_blt I hg hm PyProof.Rows.boot_enumerate (PyProof.Rows.callWith_type1 (thn (ha.run pos pins s σ H _ I h) fun us s1 ⟨vs, H1, I1, r1, q1⟩ => ?_) hs rfl))
  obtain ⟨a, xs, ex, hq, q⟩ := q1
  subst ex
  cases r1 with
  | cons r rr =>
    cases rr
    cases r
    obtain ⟨its, rv, p', hz⟩ := I1.tuple hq
    have hal : a < s1.heap.objs.size := by obtain ⟨o, ho, _⟩ := id p'; exact Heap.lt_size ho
    refine call_enumerate_tuple (show s1.heap.IsTuple a its.toArray from p') fun h' he hit hsz hk => wpAny_pyIter_enum he ?_
    have I2 : Inv X pins σ H1 { s1 with heap := h' } := I1.kept (t' := s1.toks) hk
    refine ⟨s1.heap.objs.size + 1, [s1.heap.objs.size + 1, s1.heap.objs.size], _, _, H1, rfl, I2, turn_enumT a (s1.heap.objs.size + 1) s1.heap.objs.size, ⟨⟨.none, he⟩, hit, Nat.succ_ne_self _, Nat.ne_of_lt hal, Nat.ne_of_lt (Nat.lt_succ_of_lt hal)⟩, fun b hb => ?_, q⟩
    have e' : b = s1.heap.objs.size + 1 ∨ b = s1.heap.objs.size := by simpa using hb
    have hle : s1.heap.objs.size ≤ b := by
      rcases e' with z | z
      · rw [z]; exact Nat.le_add_right _ _
      · rw [z]; exact Nat.le_refl _
    exact I1.fpOk hle (I1.hok.fresh hle)
theorem walk_enumT {K : PySem.W.Frag} {a : Addr} {xs : List V} : Walk (IteT K a) xs.length (fun H => SqT K H a xs) (YPair (fun i => some (.int (i : Nat))) (fun i => xs[i]?)) := by
  refine ⟨fun i _ hi q => ⟨xs, xs[i], q, by simp [hi]⟩, fun _ q => ⟨xs, q, Nat.le_refl _⟩, fun i H v H' _ q y => ?_⟩
  obtain ⟨T, x, h1, h2, h3, h4⟩ := y
  exact ⟨T, .int (i : Nat), x, h1, h2, h3, rfl, h4 xs q⟩
def enD : List D → Option (List D)
  | [.list ds] => some (enumD ds)
  | [.tuple ds] => some (enumD ds)
  | _ => none
section
variable {X : Cx} {a b : Expr} {p pos tpos : Pos} {elts : List Expr} {kk : Nat} {dr : Ev → Option (List D)}
theorem vi_enum (ha : PVA X [a] dr) (hm : X.mg "enumerate" = none) (hg : Gl X "enumerate" := by rfl) (hs : starEach [a] X.env = [(false, eval a X.env)] := by rfl) :
    PVI X (.Tuple elts kk tpos) (.Call (.Name "enumerate" p) [a] [] pos) (nA enD dr) :=
  PI.imp (PI.or (pi_enum hg hm ha hs) (pi_enumT hg hm ha hs)) fun σ H R ⟨H0, F0, env, F, ds, rl, ed, k⟩ => by
    obtain ⟨d, h1, ed⟩ := Option.bind_eq_some_iff.mp ed
    unfold enD at ed; split at ed <;> cases ed
    · refine .inl ⟨H0, F0, env, F, _, rl, h1, fun xs F1 H1 g1 hd => ?_⟩
      cases hd with
      | cons hd ht =>
        cases ht
        cases hd with
        | @lst a vs _ q1 q2 =>
          refine ⟨a, vs, rfl, SqL.of (g1.sub _ _ q1), k _ F1 H1 g1 (WalkD.of walk_enum ((DvA.length q2).trans (enumD_length _).symm) (fun F H s1 s2 => SqL.of (s2 _ _ (s1 _ _ q1))) fun i F H x H' s1 s2 hi y => ?_)⟩
          obtain ⟨T, v, u, e1, e2, e3, e4, e5⟩ := y
          cases e4
          have e5 : vs[i]? = some u := e5
          have hl := List.getElem?_eq_getElem (show i < _ by rw [← DvA.length q2]; exact hi)
          obtain ⟨u', e6, e7⟩ := DvA.get q2 hl
          rw [e6] at e5; cases e5
          obtain ⟨F', g, hv⟩ := pair_yld s2 e1 e2 e3 (.int _) (Dv.mono s1 _ _ e7)
          exact ⟨F', _, g, enumD_get hl, hv⟩
    · refine .inr ⟨H0, F0, env, F, _, rl, h1, fun xs F1 H1 g1 hd => ?_⟩
      cases hd with
      | cons hd ht =>
        cases ht
        cases hd with
        | @tup a vs _ q1 q2 =>
          refine ⟨a, vs, rfl, SqT.of (g1.sub _ _ q1), k _ F1 H1 g1 (WalkD.of walk_enumT ((DvA.length q2).trans (enumD_length _).symm) (fun F H s1 s2 => SqT.of (s2 _ _ (s1 _ _ q1))) fun i F H x H' s1 s2 hi y => ?_)⟩
          obtain ⟨T, v, u, e1, e2, e3, e4, e5⟩ := y
          cases e4
          have e5 : vs[i]? = some u := e5
          have hl := List.getElem?_eq_getElem (show i < _ by rw [← DvA.length q2]; exact hi)
          obtain ⟨u', e6, e7⟩ := DvA.get q2 hl
          rw [e6] at e5; cases e5
          obtain ⟨F', g, hv⟩ := pair_yld s2 e1 e2 e3 (.int _) (Dv.mono s1 _ _ e7)
          exact ⟨F', _, g, enumD_get hl, hv⟩
end
end PV
end

section
set_option maxRecDepth 100000
set_option maxHeartbeats 4000000
namespace PV
open PySem L2
/-! ### what the combinators make, one step each -/
section
variable {env : Ev} {i j : Nat} {d : D} {da db dc : Ev → Option D} {ta tb : Ev → Option Bool} {s1 s2 : Ev → Option Out} {g g' : D → D → Option D} {g1 : D → Option D} {dr : Ev → Option (List D)}
@[simp] theorem gt_z {a : Option SV} {r : Ev} : gt (a :: r) 0 = a := id rfl
@[simp] theorem gt_s {a : Option SV} {r : Ev} {n : Nat} : gt (a :: r) (n + 1) = gt r n := id rfl
@[simp] theorem st_z {a s : Option SV} {r : Ev} : st (a :: r) 0 s = s :: r := id rfl
@[simp] theorem st_s {a s : Option SV} {r : Ev} {n : Nat} : st (a :: r) (n + 1) s = a :: st r n s := id rfl
@[simp] theorem fgs_n : fgs env [] = env := id rfl
@[simp] theorem fgs_c {is : List Nat} : fgs env (i :: is) = st (fgs env is) i none := id rfl
theorem eVar_ap : eVar i env = match gt env i with | some (.v d) => some d | _ => none := rfl
@[simp] theorem eVar_of (h : gt env i = some (.v d)) : eVar i env = some d := by rw [eVar_ap, h]
@[simp] theorem eVar_z {r : Ev} : eVar 0 (some (.v d) :: r) = some d := id rfl
@[simp] theorem eVar_s {a : Option SV} {r : Ev} {n : Nat} : eVar (n + 1) (a :: r) = eVar n r := id rfl
@[simp] theorem bVar_zv {r : Ev} : bVar 0 (some (.v d) :: r) = some d := id rfl
@[simp] theorem bVar_zo {r : Ev} {ds : List D} : bVar 0 (some (.own ds) :: r) = some (.list ds) := id rfl
@[simp] theorem bVar_s {a : Option SV} {r : Ev} {n : Nat} : bVar (n + 1) (a :: r) = bVar n r := id rfl
theorem bVar_v (h : gt env i = some (.v d)) : bVar i env = some d := by unfold bVar; rw [h]
theorem bVar_o {ds : List D} (h : gt env i = some (.own ds)) : bVar i env = some (.list ds) := by unfold bVar; rw [h]
@[simp] theorem eC_ap : eC d env = some d := id rfl
@[simp] theorem e2_ap : e2 g da db env = (da env).bind fun x => (db env).bind fun y => g x y := id rfl
@[simp] theorem e1_ap : e1 g1 da env = (da env).bind g1 := id rfl
@[simp] theorem aNil_ap : aNil env = some [] := id rfl
@[simp] theorem aCons_ap : aCons da dr env = (da env).bind fun x => (dr env).bind fun xs => some (x :: xs) := id rfl
@[simp] theorem eTup_ap : eTup dr env = (dr env).bind tupD := id rfl
@[simp] theorem eA_ap {f : List D → Option D} : eA f dr env = (dr env).bind f := id rfl
@[simp] theorem nA_ap {f : List D → Option (List D)} : nA f dr env = (dr env).bind f := id rfl
@[simp] theorem eLst_ap {dn : Ev → Option (List D)} : eLst dn env = (dn env).map PyData.list := id rfl
@[simp] theorem nLst_ap : nLst dr env = (dr env).bind fun ds => if ds.length ≤ line then some ds else none := id rfl
@[simp] theorem n2_ap {f : D → D → Option (List D)} : n2 f da db env = (da env).bind fun x => (db env).bind fun y => f x y := id rfl
@[simp] theorem eSl_ap {f : D → Option Int → Option Int → Option D} {pl ph : Part} : eSl f da pl ph env = (da env).bind fun d => (pl env).bind fun l => (ph env).bind fun h => f d l h := id rfl
@[simp] theorem nSl_ap {f : D → Option Int → Option Int → Option (List D)} {pl ph : Part} : nSl f da pl ph env = (da env).bind fun d => (pl env).bind fun l => (ph env).bind fun h => f d l h := id rfl
@[simp] theorem pN_ap : pN env = some none := id rfl
@[simp] theorem pI_ap : pI da env = (da env).bind fun d => (isI d).map some := id rfl
@[simp] theorem isI_int {n : Int} : isI (.int n) = some n := id rfl
@[simp] theorem isB_bl {b : Bool} : isB (.bool b) = some b := id rfl
@[simp] theorem t1_ap {f : D → Option Bool} : t1 f da env = (da env).bind f := id rfl
@[simp] theorem tAn_ap : tAn ta tb env = (ta env).bind fun c => if c = true then tb env else some false := id rfl
@[simp] theorem tOr_ap : tOr' ta tb env = (ta env).bind fun c => if c = true then some true else tb env := id rfl
@[simp] theorem tNo_ap : tNo ta env = (ta env).map fun c => !c := id rfl
@[simp] theorem eAn_ap : eAn da db env = (da env).bind fun x => (truD x).bind fun c => if c = true then db env else some x := id rfl
@[simp] theorem eOr_ap : eOr da db env = (da env).bind fun x => (truD x).bind fun c => if c = true then some x else db env := id rfl
@[simp] theorem eIf_ap : eIf ta da db env = (ta env).bind fun c => if c = true then da env else db env := id rfl
@[simp] theorem eCh_ap : eCh g g' da db dc env = (da env).bind fun x => (db env).bind fun y => (g x y).bind fun z => (isB z).bind fun k => if k = true then (dc env).bind fun w => g' y w else some (.bool false) := id rfl
@[simp] theorem tTrue_ap : tTrue env = some true := id rfl
@[simp] theorem sNil_ap : sNil env = some (.nx env) := id rfl
theorem sSeq_nx {e : Ev} (h : s1 env = some (.nx e)) : sSeq s1 s2 env = s2 e := by unfold sSeq; rw [h]; rfl
theorem sSeq_rt (h : s1 env = some (.rt d)) : sSeq s1 s2 env = some (.rt d) := by unfold sSeq; rw [h]; rfl
theorem sSeq_bk {e : Ev} (h : s1 env = some (.bk e)) : sSeq s1 s2 env = some (.bk e) := by unfold sSeq; rw [h]; rfl
theorem sSeq_ct {e : Ev} (h : s1 env = some (.ct e)) : sSeq s1 s2 env = some (.ct e) := by unfold sSeq; rw [h]; rfl
@[simp] theorem sRet_ap : sRet da env = (da env).map .rt := id rfl
@[simp] theorem sIf_ap : sIf ta s1 s2 env = (ta env).bind fun c => if c = true then s1 env else s2 env := id rfl
theorem sIf_t (h : ta env = some true) : sIf ta s1 s2 env = s1 env := by rw [sIf_ap, h]; rfl
theorem sIf_f (h : ta env = some false) : sIf ta s1 s2 env = s2 env := by rw [sIf_ap, h]; rfl
@[simp] theorem sPre_ap {f : Ev → Ev} : sPre f s1 env = s1 (f env) := id rfl
@[simp] theorem xV_ap : xV da env = (da env).map .v := id rfl
@[simp] theorem xO_ap {dn : Ev → Option (List D)} : xO dn env = (dn env).map .own := id rfl
@[simp] theorem xN_t {dn : Ev → Option (List D)} : xN true dn env = (dn env).map .own := id rfl
@[simp] theorem xN_f {dn : Ev → Option (List D)} : xN false dn env = (dn env).map fun ds => .v (.list ds) := id rfl
@[simp] theorem sSet_ap {dx : Ev → Option SV} : sSet i dx env = (dx env).map fun s => .nx (st env i (some s)) := id rfl
@[simp] theorem sPar_ap {dx dy : Ev → Option SV} : sPar i j dx dy env = (dx env).bind fun s => (dy env).map fun t => .nx (st (st env i (some s)) j (some t)) := id rfl
@[simp] theorem sAsg_ap {tgt : Tgt} : sAsg tgt da env = (da env).bind fun d => (tgt d env).map .nx := id rfl
@[simp] theorem sAug_ap : sAug i g da env = (eVar i env).bind fun x => (da env).bind fun y => (g x y).map fun z => .nx (st env i (some (.v z))) := id rfl
@[simp] theorem sApp_ap : sApp i da env = (isO (gt env i)).bind fun ds => (da env).bind fun d => if ds.length < line then some (.nx (st env i (some (.own (ds ++ [d]))))) else none := id rfl
@[simp] theorem sExt_ap : sExt i da env = (isO (gt env i)).bind fun ds => (da env).bind fun d => (lstD d).bind fun es => if ds.length + es.length ≤ line then some (.nx (st env i (some (.own (ds ++ es))))) else none := id rfl
@[simp] theorem isO_o {ds : List D} : isO (some (.own ds)) = some ds := id rfl
@[simp] theorem lstD_l {ds : List D} : lstD (.list ds) = some ds := id rfl
@[simp] theorem gN_ap : gN i d env = some (st env i (some (.v d))) := id rfl
@[simp] theorem gsNil_ap : gsNil [] env = some env := id rfl
@[simp] theorem gsCons_ap {t : Tgt} {u : List D → Ev → Option Ev} {ds : List D} : gsCons t u (d :: ds) env = (t d env).bind fun e1 => u ds e1 := id rfl
@[simp] theorem gT_ap {u : List D → Ev → Option Ev} {ds : List D} : gT u (.tuple ds) env = u ds env := id rfl
@[simp] theorem gLen_ap {t : Tgt} {n : Nat} {ds : List D} : gLen n t (.tuple ds) env = if ds.length = n then t (.tuple ds) env else none := id rfl
@[simp] theorem setIx_ap {di : Ev → Option D} : setIx i di d env = (isO (gt env i)).bind fun ds => (di env).bind fun ix => (isI ix).bind fun n => (ixN ds.length n).map fun j => st env i (some (.own (ds.set j d))) := id rfl
@[simp] theorem frz_ap {ds : List D} (h : gt env i = some (.own ds)) : frz env i = st env i (some (.v (.list ds))) := by unfold frz; rw [h]
@[simp] theorem frz_z {r : Ev} {ds : List D} : frz (some (.own ds) :: r) 0 = some (.v (.list ds)) :: r := id rfl
@[simp] theorem frz_s {a : Option SV} {r : Ev} {n : Nat} : frz (a :: r) (n + 1) = a :: frz r n := by
  unfold frz; rw [gt_s]; cases gt r n with
  | none => rfl
  | some s => cases s <;> rfl
/-! values -/
variable {a b : Int} {p q : Bool} {xs ys : List D}
@[simp] theorem addD_i : addD (.int a) (.int b) = some (.int (a + b)) := id rfl
@[simp] theorem addD_t : addD (.tuple xs) (.tuple ys) = if xs.length + ys.length ≤ line then some (.tuple (xs ++ ys)) else none := id rfl
@[simp] theorem addD_l : addD (.list xs) (.list ys) = if xs.length + ys.length ≤ line then some (.list (xs ++ ys)) else none := id rfl
@[simp] theorem catLD_l : catLD (.list xs) (.list ys) = if xs.length + ys.length ≤ line then some (xs ++ ys) else none := id rfl
@[simp] theorem iaddD_i : iaddD (.int a) (.int b) = some (.int (a + b)) := id rfl
@[simp] theorem subD_i : subD (.int a) (.int b) = some (.int (a - b)) := id rfl
@[simp] theorem negD_i : negD (.int a) = some (.int (-a)) := id rfl
theorem mulD_i (h : mulOk a b = true) : mulD (.int a) (.int b) = some (.int (a * b)) := by show (if _ then _ else _) = _; rw [if_pos h]
theorem mulOk_l (h1 : -18446744073709551616 < a) (h2 : a < 18446744073709551616) : mulOk a b = true := by unfold mulOk; rw [decide_eq_true (p := a.natAbs < 18446744073709551616) (by omega)]; rfl
theorem mulOk_r (h1 : -18446744073709551616 < b) (h2 : b < 18446744073709551616) : mulOk a b = true := by unfold mulOk; rw [decide_eq_true (p := b.natAbs < 18446744073709551616) (by omega), Bool.or_true]
theorem mulD_l (h1 : -18446744073709551616 < a) (h2 : a < 18446744073709551616) : mulD (.int a) (.int b) = some (.int (a * b)) := mulD_i (mulOk_l h1 h2)
theorem mulD_r (h1 : -18446744073709551616 < b) (h2 : b < 18446744073709551616) : mulD (.int a) (.int b) = some (.int (a * b)) := mulD_i (mulOk_r h1 h2)
theorem mulD_t {k : Int} (h1 : -4611686018427387904 ≤ k) (h2 : k ≤ 1000) (h3 : xs.length ≤ 1000) : mulD (.tuple xs) (.int k) = some (.tuple (List.replicate k.toNat xs).flatten) := by
  show (if _ then _ else _) = _
  rw [if_pos ⟨h1, h2, h3⟩]
theorem mulD_li {k : Int} (h1 : -4611686018427387904 ≤ k) (h2 : k ≤ 1000) (h3 : xs.length ≤ 1000) : mulD (.list xs) (.int k) = some (.list (List.replicate k.toNat xs).flatten) := by
  show (if _ then _ else _) = _
  rw [if_pos ⟨h1, h2, h3⟩]
theorem repLD_li {k : Int} (h1 : -4611686018427387904 ≤ k) (h2 : k ≤ 1000) (h3 : xs.length ≤ 1000) : repLD (.list xs) (.int k) = some (List.replicate k.toNat xs).flatten := by
  show (if _ then _ else _) = _
  rw [if_pos ⟨h1, h2, h3⟩]
theorem fdivD_i (h1 : 0 < b) (h2 : b < 1073741824) : fdivD (.int a) (.int b) = some (.int (a / b)) := by show (if _ then _ else _) = _; rw [if_pos ⟨h1, by omega⟩]
theorem modD_i (h1 : 0 < b) : modD (.int a) (.int b) = some (.int (a % b)) := by show (if _ then _ else _) = _; rw [if_pos h1]
theorem powD_i (h : 0 ≤ b ∧ b ≤ 1000000 ∧ a.natAbs < 18446744073709551616) : powD (.int a) (.int b) = some (.int (a ^ b.toNat)) := by show (if _ then _ else _) = _; rw [if_pos ⟨h.1, by omega, h.2.2⟩]
theorem shlD_i (h : 0 ≤ b ∧ b ≤ 1000000 ∧ a.natAbs < 18446744073709551616) : shlD (.int a) (.int b) = some (.int (a * 2 ^ b.toNat)) := by show (if _ then _ else _) = _; rw [if_pos ⟨h.1, by omega, h.2.2⟩]
theorem shrD_i (h : 0 ≤ b) : shrD (.int a) (.int b) = some (.int (a / 2 ^ b.toNat)) := by show (if _ then _ else _) = _; rw [if_pos h]
@[simp] theorem ltD_i : ltD (.int a) (.int b) = some (.bool (decide (a < b))) := id rfl
@[simp] theorem leD_i : leD (.int a) (.int b) = some (.bool (decide (a ≤ b))) := id rfl
@[simp] theorem gtD_i : gtD (.int a) (.int b) = some (.bool (decide (b < a))) := id rfl
@[simp] theorem geD_i : geD (.int a) (.int b) = some (.bool (decide (b ≤ a))) := id rfl
@[simp] theorem truD_b : truD (.bool p) = some p := id rfl
@[simp] theorem truD_i : truD (.int a) = some (a != 0) := id rfl
@[simp] theorem truD_n : truD .none = some false := id rfl
@[simp] theorem truD_l : truD (.list xs) = some (!xs.isEmpty) := id rfl
@[simp] theorem truD_t : truD (.tuple xs) = some (!xs.isEmpty) := id rfl
@[simp] theorem notD_b : notD (.bool p) = some (.bool (!p)) := id rfl
@[simp] theorem isD_n : isD d .none = some (.bool (isNonD d)) := id rfl
@[simp] theorem isntD_n : isntD d .none = some (.bool (!isNonD d)) := id rfl
@[simp] theorem isD_b : isD (.bool p) (.bool q) = some (.bool (decide (p = q))) := id rfl
@[simp] theorem isntD_b : isntD (.bool p) (.bool q) = some (.bool (!decide (p = q))) := id rfl
@[simp] theorem isNonD_i : isNonD (.int a) = false := id rfl
@[simp] theorem isNonD_b : isNonD (.bool p) = false := id rfl
@[simp] theorem isNonD_n : isNonD .none = true := id rfl
@[simp] theorem isNonD_t : isNonD (.tuple xs) = false := id rfl
@[simp] theorem isNonD_l : isNonD (.list xs) = false := id rfl
@[simp] theorem intD_i : intD [.int a] = some (.int a) := id rfl
@[simp] theorem intD_b : intD [.bool p] = some (.int (if p then 1 else 0)) := id rfl
@[simp] theorem absD_i : absD [.int a] = some (.int (if a < 0 then -a else a)) := id rfl
@[simp] theorem lenD_l : lenD [.list xs] = some (.int xs.length) := id rfl
@[simp] theorem lenD_t : lenD [.tuple xs] = some (.int xs.length) := id rfl
@[simp] theorem lenD_s {ns : List Int} : lenD [scrD ns] = some (.int ns.length) := by show some (PyData.int ((ns.map _).length : Nat)) = _; rw [List.length_map]
@[simp] theorem tupOfD_l : tupOfD [.list xs] = some (.tuple xs) := id rfl
@[simp] theorem tupOfD_t : tupOfD [.tuple xs] = some (.tuple xs) := id rfl
@[simp] theorem lstOfD_l : lstOfD [.list xs] = some xs := id rfl
@[simp] theorem lstOfD_t : lstOfD [.tuple xs] = some xs := id rfl
@[simp] theorem sumD_l {ns : List Int} : sumD [.list (ns.map .int)] = some (.int ns.sum) := by show (ints? _).map _ = _; rw [ints_map]; rfl
@[simp] theorem sumD_t {ns : List Int} : sumD [.tuple (ns.map .int)] = some (.int ns.sum) := by show (ints? _).map _ = _; rw [ints_map]; rfl
@[simp] theorem allD_l {bs : List Bool} : allD [.list (bs.map .bool)] = some (.bool (bs.all id)) := by show (bls? _).map _ = _; rw [bls_map]; rfl
@[simp] theorem anyD_l {bs : List Bool} : anyD [.list (bs.map .bool)] = some (.bool (bs.any id)) := by show (bls? _).map _ = _; rw [bls_map]; rfl
@[simp] theorem sortD_l {ns : List Int} : sortD [.list (ns.map .int)] = some ((sortI ns).map .int) := by show (ints? _).map _ = _; rw [ints_map]; rfl
@[simp] theorem ixD_l : ixD (.list xs) (.int a) = atI xs a := id rfl
@[simp] theorem ixD_t : ixD (.tuple xs) (.int a) = atI xs a := id rfl
theorem ixD_s {ns : List Int} {k : Nat} {n : Int} (h : ns[k]? = some n) : ixD (scrD ns) (.int (k : Int)) = some (.int n) := by
  show (atI (ns.map _) (k : Int)).map _ = _
  rw [atI_nat (v := (PyData.int n, PyData.none)) (by rw [List.getElem?_map, h]; rfl)]; rfl
@[simp] theorem slD_l {l h : Option Int} : slD (.list xs) l h = some (.list (cutL xs l h)) := id rfl
@[simp] theorem slD_t {l h : Option Int} : slD (.tuple xs) l h = some (.tuple (cutL xs l h)) := id rfl
@[simp] theorem slLD_l {l h : Option Int} : slLD (.list xs) l h = some (cutL xs l h) := id rfl
@[simp] theorem iSeq_ap : iSeq da env = (da env).bind seqD := id rfl
@[simp] theorem seqD_l : seqD (.list xs) = some xs := id rfl
@[simp] theorem seqD_t : seqD (.tuple xs) = some xs := id rfl
@[simp] theorem enD_l : enD [.list xs] = some (enumD xs) := id rfl
@[simp] theorem enD_t : enD [.tuple xs] = some (enumD xs) := id rfl
theorem rg1_i (h1 : 0 ≤ a) (h2 : a ≤ 1000000000) : rg1 [.int a] = some (rngD 0 a.toNat) := by show (if _ then _ else _) = _; rw [if_pos (show rngOk a = true from decide_eq_true (by omega))]
theorem rg1_n {n : Nat} (h2 : n ≤ 1000000000) : rg1 [.int (n : Int)] = some (rngD 0 n) := by rw [rg1_i (by omega) (by omega)]; simp
theorem rg2_i (h1 : -1000000000 ≤ a) (h2 : a ≤ 1000000000) (h3 : -1000000000 ≤ b) (h4 : b ≤ 1000000000) : rg2 [.int a, .int b] = some (rngD a (b - a).toNat) := by
  show (if _ then _ else _) = _
  have e1 : rngOk a = true := decide_eq_true (by omega)
  have e2 : rngOk b = true := decide_eq_true (by omega)
  rw [e1, e2]; rfl
/-! items -/
theorem at_get {α : Type} {xs : List α} {k : Int} (h0 : 0 ≤ k) {v : α} (h : xs[k.toNat]? = some v) : atI xs k = some v := by
  have e : k = ((k.toNat : Nat) : Int) := by omega
  rw [e]; exact atI_nat h
theorem at_map {α : Type} {f : α → D} {xs : List α} {k : Int} (h0 : 0 ≤ k) {v : α} (h : xs[k.toNat]? = some v) : atI (xs.map f) k = some (f v) := at_get h0 (by rw [List.getElem?_map, h]; rfl)
theorem at_nat_map {α : Type} {f : α → D} {xs : List α} {k : Nat} {v : α} (h : xs[k]? = some v) : atI (xs.map f) (k : Int) = some (f v) := atI_nat (by rw [List.getElem?_map, h]; rfl)
theorem at_int {ns : List Int} {k : Int} (h0 : 0 ≤ k) (h1 : k < ns.length) : atI (ns.map PyData.int) k = some (.int (ns.getD k.toNat 0)) := by
  refine at_map h0 ?_
  rw [List.getD_eq_getElem?_getD, List.getElem?_eq_getElem (by omega)]; rfl
theorem at_intN {ns : List Int} {k : Nat} (h1 : k < ns.length) : atI (ns.map PyData.int) (k : Int) = some (.int (ns.getD k 0)) := by
  refine at_nat_map ?_
  rw [List.getD_eq_getElem?_getD, List.getElem?_eq_getElem (by omega)]; rfl

/-! ### comprehensions, loops -/
theorem lcL_map {α : Type} {tgt : Tgt} {cond : Ev → Option Bool} {elt : Ev → Option D} {f : α → D} {h : α → D} : ∀ {xs : List α}, (∀ x ∈ xs, ∃ e1, tgt (f x) env = some e1 ∧ cond e1 = some true ∧ elt e1 = some (h x)) → lcL tgt cond elt (xs.map f) env = some (xs.map h)
  | [], _ => rfl
  | x :: r, H => by
    obtain ⟨e1, h1, h2, h3⟩ := H x (by simp)
    have ih := lcL_map (tgt := tgt) (cond := cond) (elt := elt) (f := f) (h := h) (xs := r) fun y hy => H y (by simp [hy])
    show (tgt (f x) env).bind _ = _
    rw [h1]
    show (cond e1).bind _ = _
    rw [h2]
    show (elt e1).bind _ = _
    rw [h3]
    show (lcL tgt cond elt (r.map f) env).map _ = _
    rw [ih]; rfl
theorem lcL_filter {α : Type} {tgt : Tgt} {cond : Ev → Option Bool} {elt : Ev → Option D} {f : α → D} {h : α → D} {p : α → Bool} : ∀ {xs : List α}, (∀ x ∈ xs, ∃ e1, tgt (f x) env = some e1 ∧ cond e1 = some (p x) ∧ (p x = true → elt e1 = some (h x))) → lcL tgt cond elt (xs.map f) env = some ((xs.filter p).map h)
  | [], _ => rfl
  | x :: r, H => by
    obtain ⟨e1, h1, h2, h3⟩ := H x (by simp)
    have ih := lcL_filter (tgt := tgt) (cond := cond) (elt := elt) (f := f) (h := h) (p := p) (xs := r) fun y hy => H y (by simp [hy])
    show (tgt (f x) env).bind _ = _
    rw [h1]
    show (cond e1).bind _ = _
    rw [h2]
    show (if p x = true then _ else _) = _
    by_cases hp : p x = true
    · rw [if_pos hp, h3 hp]
      show (lcL tgt cond elt (r.map f) env).map _ = _
      rw [ih, List.filter_cons_of_pos hp]; rfl
    · rw [if_neg hp, ih, List.filter_cons_of_neg hp]
/-- [elt for x in source]: the source's data are f of xs -/
theorem nLc_map {α : Type} {vs : List Nat} {src : Ev → Option (List D)} {tgt : Tgt} {cond : Ev → Option Bool} {elt : Ev → Option D} {f : α → D} {h : α → D} {xs : List α} (hs : src env = some (xs.map f)) (hl : xs.length ≤ line)
    (H : ∀ x ∈ xs, ∃ e1, tgt (f x) (fgs env vs) = some e1 ∧ cond e1 = some true ∧ elt e1 = some (h x)) : nLc vs src tgt cond elt env = some (xs.map h) := by
  unfold nLc
  rw [hs]
  show (lcL tgt cond elt (xs.map f) (fgs env vs)).bind _ = _
  rw [lcL_map H]
  show (if _ then _ else _) = _
  rw [if_pos (by rw [List.length_map]; exact hl)]
theorem nLc_filter {α : Type} {vs : List Nat} {src : Ev → Option (List D)} {tgt : Tgt} {cond : Ev → Option Bool} {elt : Ev → Option D} {f : α → D} {h : α → D} {p : α → Bool} {xs : List α} (hs : src env = some (xs.map f)) (hl : xs.length ≤ line)
    (H : ∀ x ∈ xs, ∃ e1, tgt (f x) (fgs env vs) = some e1 ∧ cond e1 = some (p x) ∧ (p x = true → elt e1 = some (h x))) : nLc vs src tgt cond elt env = some ((xs.filter p).map h) := by
  unfold nLc
  rw [hs]
  show (lcL tgt cond elt (xs.map f) (fgs env vs)).bind _ = _
  rw [lcL_filter H]
  show (if _ then _ else _) = _
  rw [if_pos (by rw [List.length_map]; exact Nat.le_trans (List.length_filter_le _ _) hl)]
/-- .. over a range, the element told by the turn -/
theorem nLc_rng {vs : List Nat} {src : Ev → Option (List D)} {tgt : Tgt} {cond : Ev → Option Bool} {elt : Ev → Option D} {lo : Int} {n : Nat} {h : Nat → D} (hs : src env = some (rngD lo n)) (hl : n ≤ line)
    (H : ∀ k, k < n → ∃ e1, tgt (.int (lo + k)) (fgs env vs) = some e1 ∧ cond e1 = some true ∧ elt e1 = some (h k)) : nLc vs src tgt cond elt env = some ((List.range n).map h) :=
  nLc_map hs (by rw [List.length_range]; exact hl) fun k hk => H k (List.mem_range.mp hk)
/-- one turn -/
def turn (tgt : Tgt) (body : Ev → Option Out) (is : List Nat) (d : D) (env : Ev) : Option Out := (tgt d env).bind fun e1 => (body e1).map fun o => match o with
  | .nx e => .nx (fgs e is)
  | .ct e => .nx (fgs e is)
  | .bk e => .bk (fgs e is)
  | .rt d => .rt d
theorem forL_cons {tgt : Tgt} {body : Ev → Option Out} {is : List Nat} {ds : List D} : forL tgt body is (d :: ds) env = (turn tgt body is d env).bind fun o => match o with
  | .nx e => forL tgt body is ds e
  | .ct e => forL tgt body is ds e
  | .bk e => some (.nx e)
  | .rt d => some (.rt d) := by
  show (tgt d env).bind _ = _
  unfold turn
  cases tgt d env with
  | none => rfl
  | some e1 =>
    show (body e1).bind _ = ((body e1).map _).bind _
    cases body e1 with
    | none => rfl
    | some o => cases o <;> rfl
/-- a loop whose turns all go on: E, the slots behind each turn -/
theorem forL_run {tgt : Tgt} {body : Ev → Option Out} {is : List Nat} {ds : List D} (E : Nat → Ev) (H : ∀ i d, ds[i]? = some d → turn tgt body is d (E i) = some (.nx (E (i + 1)))) : forL tgt body is ds (E 0) = some (.nx (E ds.length)) := by
  induction ds generalizing E with
  | nil => rfl
  | cons d r ih =>
    rw [forL_cons, H 0 d rfl]
    exact ih (fun i => E (i + 1)) fun i d' h => H (i + 1) d' h
theorem forL_rng {tgt : Tgt} {body : Ev → Option Out} {is : List Nat} {lo : Int} {n : Nat} (E : Nat → Ev) (H : ∀ i, i < n → turn tgt body is (.int (lo + i)) (E i) = some (.nx (E (i + 1)))) : forL tgt body is (rngD lo n) (E 0) = some (.nx (E n)) := by
  have := forL_run (tgt := tgt) (body := body) (is := is) (ds := rngD lo n) E fun i d h => by
    have hi : i < n := by have := (List.getElem?_eq_some_iff.mp h).1; rw [rngD_length] at this; exact this
    rw [rngD_get lo hi] at h; cases h
    exact H i hi
  rw [rngD_length] at this; exact this
/-- .. that leaves at the turn k -/
theorem forL_ret {tgt : Tgt} {body : Ev → Option Out} {is : List Nat} {ds : List D} (k : Nat) (E : Nat → Ev) (hk : k < ds.length) (H : ∀ i d, i < k → ds[i]? = some d → turn tgt body is d (E i) = some (.nx (E (i + 1)))) {z : D} (hr : ∀ d, ds[k]? = some d → turn tgt body is d (E k) = some (.rt z)) : forL tgt body is ds (E 0) = some (.rt z) := by
  induction ds generalizing E k with
  | nil => simp at hk
  | cons d r ih =>
    rw [forL_cons]
    cases k with
    | zero => rw [hr d rfl]; rfl
    | succ k =>
      rw [H 0 d (by omega) rfl]
      exact ih k (fun i => E (i + 1)) (by simpa using hk) (fun i d' hi h => H (i + 1) d' (by omega) h) fun d' h => hr d' h
theorem forL_inv {tgt : Tgt} {body : Ev → Option Out} {is : List Nat} {ds : List D} (P : Nat → Ev → Prop) (h0 : P 0 env) (H : ∀ i d e, ds[i]? = some d → P i e → ∃ e', turn tgt body is d e = some (.nx e') ∧ P (i + 1) e') : ∃ e', forL tgt body is ds env = some (.nx e') ∧ P ds.length e' := by
  induction ds generalizing P env with
  | nil => exact ⟨env, rfl, h0⟩
  | cons d r ih =>
    obtain ⟨e1, h1, h2⟩ := H 0 d env rfl h0
    rw [forL_cons, h1]
    obtain ⟨e', h3, h4⟩ := ih (env := e1) (fun i => P (i + 1)) h2 fun i d' e h => H (i + 1) d' e h
    exact ⟨e', h3, h4⟩
theorem forL_invR {tgt : Tgt} {body : Ev → Option Out} {is : List Nat} {lo : Int} {n : Nat} (P : Nat → Ev → Prop) (h0 : P 0 env) (H : ∀ i e, i < n → P i e → ∃ e', turn tgt body is (.int (lo + i)) e = some (.nx e') ∧ P (i + 1) e') : ∃ e', forL tgt body is (rngD lo n) env = some (.nx e') ∧ P n e' := by
  have := forL_inv (tgt := tgt) (body := body) (is := is) (ds := rngD lo n) P h0 fun i d e h hp => by
    have hi : i < n := by have := (List.getElem?_eq_some_iff.mp h).1; rw [rngD_length] at this; exact this
    rw [rngD_get lo hi] at h; cases h
    exact H i e hi hp
  rw [rngD_length] at this; exact this
/-- .. that may leave with a value -/
theorem forL_invE {tgt : Tgt} {body : Ev → Option Out} {is : List Nat} {ds : List D} (P : Nat → Ev → Prop) (Q : D → Prop) (h0 : P 0 env) (H : ∀ i d e, ds[i]? = some d → P i e → (∃ e', turn tgt body is d e = some (.nx e') ∧ P (i + 1) e') ∨ ∃ z, turn tgt body is d e = some (.rt z) ∧ Q z) : (∃ e', forL tgt body is ds env = some (.nx e') ∧ P ds.length e') ∨ ∃ z, forL tgt body is ds env = some (.rt z) ∧ Q z := by
  induction ds generalizing P env with
  | nil => exact Or.inl ⟨env, rfl, h0⟩
  | cons d r ih =>
    rw [forL_cons]
    rcases H 0 d env rfl h0 with ⟨e1, h1, h2⟩ | ⟨z, h1, h2⟩
    · rw [h1]
      exact ih (env := e1) (fun i => P (i + 1)) h2 fun i d' e h => H (i + 1) d' e h
    · rw [h1]
      exact Or.inr ⟨z, rfl, h2⟩
theorem turn_nx {tgt : Tgt} {body : Ev → Option Out} {is : List Nat} {e1 e2 : Ev} (h1 : tgt d env = some e1) (h2 : body e1 = some (.nx e2)) : turn tgt body is d env = some (.nx (fgs e2 is)) := by
  unfold turn; rw [h1]; show Option.map _ (body e1) = _; rw [h2]; rfl
theorem turn_ct {tgt : Tgt} {body : Ev → Option Out} {is : List Nat} {e1 e2 : Ev} (h1 : tgt d env = some e1) (h2 : body e1 = some (.ct e2)) : turn tgt body is d env = some (.nx (fgs e2 is)) := by
  unfold turn; rw [h1]; show Option.map _ (body e1) = _; rw [h2]; rfl
theorem turn_rt {tgt : Tgt} {body : Ev → Option Out} {is : List Nat} {e1 : Ev} {z : D} (h1 : tgt d env = some e1) (h2 : body e1 = some (.rt z)) : turn tgt body is d env = some (.rt z) := by
  unfold turn; rw [h1]; show Option.map _ (body e1) = _; rw [h2]; rfl
theorem turn_bk {tgt : Tgt} {body : Ev → Option Out} {is : List Nat} {e1 e2 : Ev} (h1 : tgt d env = some e1) (h2 : body e1 = some (.bk e2)) : turn tgt body is d env = some (.bk (fgs e2 is)) := by
  unfold turn; rw [h1]; show Option.map _ (body e1) = _; rw [h2]; rfl
theorem whL_inv {tc : Ev → Option Bool} {body : Ev → Option Out} {is : List Nat} (P : Nat → Ev → Prop) : ∀ (n : Nat) (env : Ev) (m : Nat), n < m → P n env → (∀ k e, P k e → (tc e = some false) ∨ ∃ k', k' < k ∧ tc e = some true ∧ ∃ e', (body e).map (Out.fg is) = some (.nx e') ∧ P k' e') → ∃ k e, whL tc body is m env = some (.nx e) ∧ P k e ∧ tc e = some false := by
  intro n
  induction n using Nat.strongRecOn with
  | ind n ih =>
    intro env m hm hp H
    cases m with
    | zero => omega
    | succ m =>
      rcases H n env hp with hf | ⟨k', hk, ht, e', hb, hp'⟩
      · refine ⟨n, env, ?_, hp, hf⟩
        show (tc env).bind _ = _
        rw [hf]; rfl
      · obtain ⟨o, h3, h4⟩ := Option.map_eq_some_iff.mp hb
        have hE : ∃ e, o = .nx e ∧ fgs e is = e' ∨ o = .ct e ∧ fgs e is = e' := by
          cases o <;> simp only [Out.fg] at h4
          · rename_i e; exact ⟨e, Or.inl ⟨rfl, by injection h4⟩⟩
          all_goals first | cases h4 | (rename_i e; exact ⟨e, Or.inr ⟨rfl, by injection h4⟩⟩)
        obtain ⟨k2, e2, h5, h6⟩ := ih k' hk e' m (by omega) hp' H
        refine ⟨k2, e2, ?_, h6⟩
        show (tc env).bind _ = _
        rw [ht]
        show (body env).bind _ = _
        rw [h3]
        obtain ⟨e, ⟨rfl, he⟩ | ⟨rfl, he⟩⟩ := hE
        · show whL tc body is m (fgs e is) = _
          rw [he]; exact h5
        · show whL tc body is m (fgs e is) = _
          rw [he]; exact h5
/-- a while: E, the slots ahead of each test -/
theorem whL_run {tc : Ev → Option Bool} {body : Ev → Option Out} {is : List Nat} (n : Nat) (E : Nat → Ev) (m : Nat) (hm : n < m) (H : ∀ i, i < n → tc (E i) = some true ∧ (body (E i)).map (Out.fg is) = some (.nx (E (i + 1)))) (he : tc (E n) = some false) : whL tc body is m (E 0) = some (.nx (E n)) := by
  induction n generalizing E m with
  | zero =>
    cases m with
    | zero => omega
    | succ m =>
      show (tc (E 0)).bind _ = _
      rw [he]; rfl
  | succ n ih =>
    cases m with
    | zero => omega
    | succ m =>
      obtain ⟨h1, h2⟩ := H 0 (by omega)
      show (tc (E 0)).bind _ = _
      rw [h1]
      show (body (E 0)).bind _ = _
      obtain ⟨o, h3, h4⟩ := Option.map_eq_some_iff.mp h2
      rw [h3]
      have hE : ∃ e, o = .nx e ∧ fgs e is = E 1 := by
        cases o <;> simp only [Out.fg] at h4
        · rename_i e
          exact ⟨e, rfl, by injection h4⟩
        all_goals cases h4
      obtain ⟨e, rfl, he1⟩ := hE
      show whL tc body is m (fgs e is) = _
      rw [he1]
      exact ih (fun i => E (i + 1)) m (by omega) (fun i hi => H (i + 1) (by omega)) he
@[simp] theorem sFor_ap {is : List Nat} {src : Ev → Option (List D)} {tgt : Tgt} : sFor is src tgt s1 env = (src env).bind fun ds => forL tgt s1 is ds (fgs env is) := id rfl
theorem sFor_of {is : List Nat} {src : Ev → Option (List D)} {tgt : Tgt} {ds : List D} (h : src env = some ds) : sFor is src tgt s1 env = forL tgt s1 is ds (fgs env is) := by
  show (src env).bind _ = _
  rw [h]; rfl
theorem runD_rt {n m : Nat} {den : Ev → Option Out} {ds : List D} {z : D} (hl : ds.length = m) (h : den (startE n ds) = some (.rt z)) : runD n m den ds = some z := by
  unfold runD; rw [if_pos hl, h]; rfl
theorem runD_nx {n m : Nat} {den : Ev → Option Out} {ds : List D} {e : Ev} (hl : ds.length = m) (h : den (startE n ds) = some (.nx e)) : runD n m den ds = some .none := by
  unfold runD; rw [if_pos hl, h]; rfl
/-! what may be compared -/
theorem ok_mono {d : D} (h1 : d.canLay0 = true) (h2 : d.depth ≤ 64) : okD d = true := by
  unfold okD SeqAt.shaped
  rw [h1, decide_eq_true h2]; rfl
theorem depthAll_le {ds : List D} {n : Nat} (h : ∀ d ∈ ds, d.depth ≤ n) : PyData.depthAll ds ≤ n := by
  induction ds with
  | nil => simp [PyData.depthAll]
  | cons d r ih =>
    simp only [PyData.depthAll]
    have h1 := h d (by simp)
    have h2 := ih fun x hx => h x (by simp [hx])
    omega
theorem canAll {ds : List D} (h : ∀ d ∈ ds, d.canLay0 = true) : PyData.canLayAll0 ds = true := by
  induction ds with
  | nil => rfl
  | cons d r ih => simp only [PyData.canLayAll0]; rw [h d (by simp), ih fun x hx => h x (by simp [hx])]; rfl
/-- data of depth at most n, without dicts -/
def gd : Nat → D → Bool
  | _, .none => true
  | _, .bool _ => true
  | _, .int _ => true
  | _, .str x => PyData.strOk x
  | 0, _ => false
  | n + 1, .tuple xs => xs.all (gd n)
  | n + 1, .list xs => xs.all (gd n)
  | _, .dict _ => false
theorem gd_ok : ∀ (n : Nat) (d : D), gd n d = true → d.canLay0 = true ∧ d.depth ≤ n + 1
  | _, .none, _ => ⟨rfl, by simp [PyData.depth]⟩
  | _, .bool _, _ => ⟨rfl, by simp [PyData.depth]⟩
  | _, .int _, _ => ⟨rfl, by simp [PyData.depth]⟩
  | _, .str x, h => ⟨by simpa [gd, PyData.canLay0] using h, by simp [PyData.depth]⟩
  | 0, .tuple xs, h => by simp [gd] at h
  | 0, .list xs, h => by simp [gd] at h
  | n + 1, .tuple xs, h => by
    have h : ∀ x ∈ xs, gd n x = true := by simpa [gd] using h
    refine ⟨?_, ?_⟩
    · show PyData.canLayAll0 xs = true
      exact canAll fun x hx => (gd_ok n x (h x hx)).1
    · simp only [PyData.depth]
      have := depthAll_le fun x hx => (gd_ok n x (h x hx)).2
      omega
  | n + 1, .list xs, h => by
    have h : ∀ x ∈ xs, gd n x = true := by simpa [gd] using h
    refine ⟨?_, ?_⟩
    · show PyData.canLayAll0 xs = true
      exact canAll fun x hx => (gd_ok n x (h x hx)).1
    · simp only [PyData.depth]
      have := depthAll_le fun x hx => (gd_ok n x (h x hx)).2
      omega
  | 0, .dict _, h => by simp [gd] at h
  | _ + 1, .dict _, h => by simp [gd] at h
theorem gd_okD {n : Nat} {d : D} (h : gd n d = true) (hn : n ≤ 60 := by decide) : okD d = true := ok_mono (gd_ok n d h).1 (Nat.le_trans (gd_ok n d h).2 (by omega))
mutual
theorem eqv_refl : ∀ (d : D), d.canLay0 = true → PyData.eqv d d = true
  | .none, _ => rfl
  | .bool b, _ => by simp [PyData.eqv]
  | .int i, _ => by simp [PyData.eqv]
  | .str x, _ => by simp [PyData.eqv]
  | .list xs, h => by simp only [PyData.eqv]; exact eqvAll_refl xs (by simpa [PyData.canLay0] using h)
  | .tuple xs, h => by simp only [PyData.eqv]; exact eqvAll_refl xs (by simpa [PyData.canLay0] using h)
  | .dict _, h => by simp [PyData.canLay0] at h
theorem eqvAll_refl : ∀ (ds : List D), PyData.canLayAll0 ds = true → PyData.eqvAll ds ds = true
  | [], _ => rfl
  | d :: r, h => by
    have h' : d.canLay0 = true ∧ PyData.canLayAll0 r = true := by simpa [PyData.canLayAll0] using h
    simp only [PyData.eqvAll, eqv_refl d h'.1, eqvAll_refl r h'.2, Bool.and_self]
end
@[simp] theorem eqD_i : eqD (.int a) (.int b) = some (.bool (a == b)) := by
  show (if _ then _ else _) = _
  rw [if_pos (by rfl)]; simp only [PyData.eqv]
@[simp] theorem neD_i : neD (.int a) (.int b) = some (.bool (!(a == b))) := by
  show (if _ then _ else _) = _
  rw [if_pos (by rfl)]; simp only [PyData.eqv]
theorem eqD_of {n m : Nat} {d e : D} (h1 : gd n d = true) (h2 : gd m e = true) (hn : n ≤ 60 := by decide) (hm : m ≤ 60 := by decide) : eqD d e = some (.bool (PyData.eqv d e)) := by
  unfold eqD; rw [gd_okD h1 hn, gd_okD h2 hm]; rfl
theorem neD_of {n m : Nat} {d e : D} (h1 : gd n d = true) (h2 : gd m e = true) (hn : n ≤ 60 := by decide) (hm : m ≤ 60 := by decide) : neD d e = some (.bool (!PyData.eqv d e)) := by
  unfold neD; rw [gd_okD h1 hn, gd_okD h2 hm]; rfl
theorem eqD_self {n : Nat} {d : D} (h1 : gd n d = true) (hn : n ≤ 60 := by decide) : eqD d d = some (.bool true) := by
  rw [eqD_of h1 h1 hn hn, eqv_refl d (gd_ok n d h1).1]
end
@[simp] theorem eqvAll_ints : ∀ (xs ys : List Int), PyData.eqvAll (xs.map PyData.int) (ys.map PyData.int) = decide (xs = ys)
  | [], [] => rfl
  | [], _ :: _ => rfl
  | _ :: _, [] => rfl
  | x :: xs, y :: ys => by
    show (PyData.eqv (.int x) (.int y) && PyData.eqvAll (xs.map PyData.int) (ys.map PyData.int)) = _
    rw [eqvAll_ints xs ys]
    show ((x == y) && _) = _
    by_cases h : x = y
    · subst h; simp
    · simp [h]
@[simp] theorem gd_i {n : Nat} {a : Int} : gd n (.int a) = true := by cases n <;> rfl
@[simp] theorem gd_b {n : Nat} {a : Bool} : gd n (.bool a) = true := by cases n <;> rfl
@[simp] theorem gd_n {n : Nat} : gd n .none = true := by cases n <;> rfl
@[simp] theorem gd_t {n : Nat} {xs : List D} : gd (n + 1) (.tuple xs) = xs.all (gd n) := id rfl
@[simp] theorem gd_l {n : Nat} {xs : List D} : gd (n + 1) (.list xs) = xs.all (gd n) := id rfl
theorem gd_ints {n : Nat} {ns : List Int} : (ns.map PyData.int).all (gd n) = true := by
  rw [List.all_map]; exact List.all_eq_true.mpr fun x _ => by simp
theorem gd_tI {n : Nat} {ns : List Int} : gd (n + 1) (.tuple (ns.map .int)) = true := gd_ints
theorem gd_lI {n : Nat} {ns : List Int} : gd (n + 1) (.list (ns.map .int)) = true := gd_ints
end PV
end

section
set_option maxRecDepth 100000
set_option maxHeartbeats 4000000
namespace PVL
open PySem L2 PV
def den__law_mixed : Ev → Option Out :=
  sSeq (sSet 2 (xV (eC (.int 0)))) <|
  sSeq (sIf (t1 isB (e2 gtD (eA lenD (aCons (eVar 0) aNil)) (eC (.int 0)))) (sSet 2 (xV (e2 ixD (eVar 0) (e2 modD (eVar 1) (eA lenD (aCons (eVar 0) aNil)))))) sNil) <|
  sSeq (sSet 3 (xV (e2 modD (eA intD (aCons (e2 addD (e2 addD (e2 mulD (eVar 2) (eC (.int 48271))) (e2 mulD (eVar 1) (eC (.int 69621)))) (eC (.int 8191))) aNil)) (eC (.int 2147483647))))) <|
  sSeq (sSet 4 (xV (e2 modD (eA intD (aCons (e2 addD (e2 addD (e2 mulD (eVar 3) (eVar 3)) (e2 fdivD (eVar 3) (eC (.int 7)))) (e2 mulD (eVar 1) (eC (.int 16807)))) aNil)) (eC (.int 2147483629))))) <|
  sSeq (sSet 5 (xV (e2 modD (eA intD (aCons (e2 addD (e2 addD (e2 mulD (eVar 4) (eVar 4)) (e2 fdivD (eVar 4) (eC (.int 11)))) (eC (.int 40692))) aNil)) (eC (.int 2147483563))))) <|
  sRet (e2 modD (e2 fdivD (eVar 5) (eC (.int 5))) (eC (.int 1000003)))
def F__law_mixed : List D → Option D := runD 6 2 den__law_mixed
def den__law_row : Ev → Option Out :=
  sSeq (sSet 2 (xV (eC (.int 0)))) <|
  sSeq (sIf (tAn (t1 isB (e2 gtD (eA lenD (aCons (eVar 0) aNil)) (eC (.int 0)))) (t1 isB (e2 geD (e2 ixD (eVar 0) (eC (.int 0))) (e2 powD (eC (.int 10)) (eC (.int 18)))))) (sSet 2 (xV (e2 ixD (eVar 0) (eC (.int 0))))) sNil) <|
  sSeq (sSet 3 (xO (nLst aNil))) <|
  sSeq (sFor [4] (nA rg1 (aCons (eVar 1) aNil)) (gN 4) (
  sIf (t1 isB (e2 gtD (eVar 2) (eC (.int 0)))) (sSeq (sApp 3 (e2 modD (eA intD (aCons (eVar 2) aNil)) (eC (.int 1000)))) <|
  sSet 2 (xV (e2 fdivD (eVar 2) (eC (.int 1000))))) (sApp 3 (eA F__law_mixed (aCons (eVar 0) (aCons (eVar 4) aNil)))))) <|
  sPre (fun env => frz env 3) (sRet (eVar 3))
def F__law_row : List D → Option D := runD 5 2 den__law_row
def den__law_is_int : Ev → Option Out :=
  sRet (eAn (e1 (isiD' "int") (eVar 0)) (e1 notD (e1 (isiD' "bool") (eVar 0))))
def F__law_is_int : List D → Option D := runD 1 1 den__law_is_int
def den__law_like (self : List D → Option D) : Ev → Option Out :=
  sSeq (sIf (t1 isB (e2 isD (eVar 1) (eC .none))) (sRet (e2 isD (eVar 0) (eC .none))) sNil) <|
  sSeq (sIf (t1 truD (e1 (isiD' "bool") (eVar 1))) (sRet (eAn (e1 (isiD' "bool") (eVar 0)) (e2 eqD (eVar 0) (eVar 1)))) sNil) <|
  sSeq (sIf (t1 truD (e1 (isiD' "tuple") (eVar 1))) (sSeq (sIf (tOr' (tNo (t1 truD (e1 (isiD' "tuple") (eVar 0)))) (t1 isB (e2 neD (eA lenD (aCons (eVar 0) aNil)) (eA lenD (aCons (eVar 1) aNil))))) (sRet (eC (.bool false))) sNil) <|
  sRet (eA allD (aCons (eLst (nLc [2] (nA rg1 (aCons (eA lenD (aCons (eVar 1) aNil)) aNil)) (gN 2) tTrue (eA self (aCons (e2 ixD (eVar 0) (eVar 2)) (aCons (e2 ixD (eVar 1) (eVar 2)) aNil))))) aNil))) sNil) <|
  sSeq (sIf (t1 truD (e1 (isiD' "str") (eVar 1))) (sRet (eAn (e1 (isiD' "str") (eVar 0)) (e2 eqD (eVar 0) (eVar 1)))) sNil) <|
  sRet (eAn (eA F__law_is_int (aCons (eVar 0) aNil)) (e2 eqD (eVar 0) (eVar 1)))
def F__law_like : Nat → List D → Option D
  | 0 => fun _ => none
  | n + 1 => runD 3 2 (den__law_like (F__law_like n))

theorem mixed_tail (ns : List Int) (k : Int) (c : Int) : ∃ r, (sSeq (sSet 3 (xV (e2 modD (eA intD (aCons (e2 addD (e2 addD (e2 mulD (eVar 2) (eC (.int 48271))) (e2 mulD (eVar 1) (eC (.int 69621)))) (eC (.int 8191))) aNil)) (eC (.int 2147483647))))) <|
  sSeq (sSet 4 (xV (e2 modD (eA intD (aCons (e2 addD (e2 addD (e2 mulD (eVar 3) (eVar 3)) (e2 fdivD (eVar 3) (eC (.int 7)))) (e2 mulD (eVar 1) (eC (.int 16807)))) aNil)) (eC (.int 2147483629))))) <|
  sSeq (sSet 5 (xV (e2 modD (eA intD (aCons (e2 addD (e2 addD (e2 mulD (eVar 4) (eVar 4)) (e2 fdivD (eVar 4) (eC (.int 11)))) (eC (.int 40692))) aNil)) (eC (.int 2147483563))))) <|
  sRet (e2 modD (e2 fdivD (eVar 5) (eC (.int 5))) (eC (.int 1000003)))) [some (.v (scrD ns)), some (.v (.int k)), some (.v (.int c)), none, none, none] = some (.rt (.int r)) ∧ 0 ≤ r ∧ r < 1000003 := by
  obtain ⟨f, hf⟩ : ∃ f, f = (c * 48271 + k * 69621 + 8191) % 2147483647 := ⟨_, rfl⟩
  obtain ⟨g, hg⟩ : ∃ g, g = (f * f + f / 7 + k * 16807) % 2147483629 := ⟨_, rfl⟩
  obtain ⟨h, hh⟩ : ∃ h, h = (g * g + g / 11 + 40692) % 2147483563 := ⟨_, rfl⟩
  have hf0 : 0 ≤ f := by omega
  have hf1 : f < 2147483647 := by omega
  have hg0 : 0 ≤ g := by rw [hg]; exact Int.emod_nonneg _ (by decide)
  have hg1 : g < 2147483629 := by rw [hg]; exact Int.emod_lt_of_pos _ (by decide)
  refine ⟨h / 5 % 1000003, ?_, by omega, by omega⟩
  refine (sSeq_nx (e := [some (.v (scrD ns)), some (.v (.int k)), some (.v (.int c)), some (.v (.int f)), none, none]) (by simp (disch := omega) [mulD_r, modD_i]; exact hf.symm)).trans ?_
  refine (sSeq_nx (e := [some (.v (scrD ns)), some (.v (.int k)), some (.v (.int c)), some (.v (.int f)), some (.v (.int g)), none]) (by simp (disch := omega) [mulD_l, mulD_r, modD_i, fdivD_i]; exact hg.symm)).trans ?_
  refine (sSeq_nx (e := [some (.v (scrD ns)), some (.v (.int k)), some (.v (.int c)), some (.v (.int f)), some (.v (.int g)), some (.v (.int h))]) (by simp (disch := omega) [mulD_l, mulD_r, modD_i, fdivD_i]; exact hh.symm)).trans ?_
  simp (disch := omega) [modD_i, fdivD_i]
theorem lenD_scr (ns : List Int) : lenD [scrD ns] = some (.int ns.length) := by
  simp [scrD, lenD]
theorem ixD_scr (ns : List Int) {k : Int} (h0 : 0 ≤ k) (h1 : k < ns.length) : ixD (scrD ns) (.int k) = some (.int (ns.getD k.toNat 0)) := by
  show Option.map _ (atI (ns.map fun n => (PyData.int n, PyData.none)) k) = _
  rw [at_get h0 (v := (.int (ns.getD k.toNat 0), .none)) ?_]
  · rfl
  · rw [List.getElem?_map, List.getD_eq_getElem?_getD, List.getElem?_eq_getElem (by omega)]; rfl
theorem mixed_ok (ns : List Int) (k : Int) : ∃ r, F__law_mixed [scrD ns, .int k] = some (.int r) ∧ 0 ≤ r ∧ r < 1000003 := by
  by_cases hn : (ns.length : Int) > 0
  · obtain ⟨r, h, hr⟩ := mixed_tail ns k (ns.getD (k % ns.length).toNat 0)
    refine ⟨r, runD_rt rfl ?_, hr⟩
    unfold den__law_mixed
    refine (sSeq_nx (e := [some (.v (scrD ns)), some (.v (.int k)), some (.v (.int 0)), none, none, none]) rfl).trans ?_
    refine (sSeq_nx ?_).trans h
    have h0 := Int.emod_nonneg k (show (ns.length : Int) ≠ 0 by omega)
    have h1 := Int.emod_lt_of_pos k hn
    simp (disch := omega) [lenD_scr, modD_i, ixD_scr, hn]
    intro hc; subst hc; simp at hn
  · obtain ⟨r, h, hr⟩ := mixed_tail ns k 0
    refine ⟨r, runD_rt rfl ?_, hr⟩
    unfold den__law_mixed
    refine (sSeq_nx (e := [some (.v (scrD ns)), some (.v (.int k)), some (.v (.int 0)), none, none, none]) rfl).trans ?_
    refine (sSeq_nx ?_).trans h
    have hz : ns = [] := by cases ns with
      | nil => rfl
      | cons a r => simp at hn
    subst hz
    rfl
theorem row_head (ns : List Int) (m : Nat) : ∃ v : Int, 0 ≤ v ∧ sIf (tAn (t1 isB (e2 gtD (eA lenD (aCons (eVar 0) aNil)) (eC (.int 0)))) (t1 isB (e2 geD (e2 ixD (eVar 0) (eC (.int 0))) (e2 powD (eC (.int 10)) (eC (.int 18)))))) (sSet 2 (xV (e2 ixD (eVar 0) (eC (.int 0))))) sNil [some (.v (scrD ns)), some (.v (.int m)), some (.v (.int 0)), none, none] = some (.nx [some (.v (scrD ns)), some (.v (.int m)), some (.v (.int v)), none, none]) := by
    have hp : powD (.int 10) (.int 18) = some (.int 1000000000000000000) := by
      rw [powD_i ⟨by decide, by decide, by decide⟩]; simp
    cases ns with
    | nil => exact ⟨0, by decide, by simp [lenD_scr, hp]⟩
    | cons a r =>
      have hi : ixD (scrD (a :: r)) (.int 0) = some (.int a) := ixD_scr (a :: r) (by decide) (by simp)
      by_cases h : a ≥ 1000000000000000000
      · refine ⟨a, by omega, ?_⟩
        simp [lenD_scr, hp, hi, h]
      · refine ⟨0, by decide, ?_⟩
        simp [lenD_scr, hp, hi, h]
theorem row_loop (ns : List Int) (m : Nat) (hm : m ≤ 1000) (v : Int) (hv : 0 ≤ v) : ∀ n : Nat, n ≤ m → ∃ (row : List Int) (w : Int), 0 ≤ w ∧ row.length = n ∧ (∀ x ∈ row, 0 ≤ x ∧ x < 1000003) ∧ forL (gN 4) (
  sIf (t1 isB (e2 gtD (eVar 2) (eC (.int 0)))) (sSeq (sApp 3 (e2 modD (eA intD (aCons (eVar 2) aNil)) (eC (.int 1000)))) <|
  sSet 2 (xV (e2 fdivD (eVar 2) (eC (.int 1000))))) (sApp 3 (eA F__law_mixed (aCons (eVar 0) (aCons (eVar 4) aNil))))) [4] (rngD 0 n) [some (.v (scrD ns)), some (.v (.int m)), some (.v (.int v)), some (.own []), none] = some (.nx [some (.v (scrD ns)), some (.v (.int m)), some (.v (.int w)), some (.own (row.map .int)), none]) := by
  intro n hn
  have := forL_invR (env := [some (.v (scrD ns)), some (.v (.int m)), some (.v (.int v)), some (.own []), none]) (tgt := gN 4) (is := [4]) (lo := 0) (n := n) (body := sIf (t1 isB (e2 gtD (eVar 2) (eC (.int 0)))) (sSeq (sApp 3 (e2 modD (eA intD (aCons (eVar 2) aNil)) (eC (.int 1000)))) <|
  sSet 2 (xV (e2 fdivD (eVar 2) (eC (.int 1000))))) (sApp 3 (eA F__law_mixed (aCons (eVar 0) (aCons (eVar 4) aNil))))) (fun i e => ∃ (row : List Int) (w : Int), 0 ≤ w ∧ row.length = i ∧ (∀ x ∈ row, 0 ≤ x ∧ x < 1000003) ∧ e = [some (.v (scrD ns)), some (.v (.int m)), some (.v (.int w)), some (.own (row.map .int)), none]) ⟨[], v, hv, rfl, by simp, rfl⟩ ?_
  · obtain ⟨e', h1, row, w, hw, hl, hb, he⟩ := this
    exact ⟨row, w, hw, hl, hb, he ▸ h1⟩
  intro i e hi ⟨row, w, hw, hl, hb, he⟩
  subst he
  have hline : row.length < line := Nat.lt_of_le_of_lt (show row.length ≤ 1000 by omega) (by decide)
  by_cases h : w > 0
  · refine ⟨_, turn_nx rfl (e2 := [some (.v (scrD ns)), some (.v (.int m)), some (.v (.int (w / 1000))), some (.own ((row ++ [w % 1000]).map .int)), some (.v (.int (0 + i)))]) ?_, row ++ [w % 1000], w / 1000, by omega, by simp [hl], ?_, by simp⟩
    · simp (disch := omega) [h]
      refine (sSeq_nx (e := [some (.v (scrD ns)), some (.v (.int m)), some (.v (.int w)), some (.own ((row ++ [w % 1000]).map .int)), some (.v (.int (0 + i)))]) ?_).trans ?_
      · simp (disch := omega) [modD_i, hline]
      · simp (disch := omega) [fdivD_i]
    · intro x hx
      rcases List.mem_append.mp hx with hx | hx
      · exact hb x hx
      · simp at hx; omega
  · obtain ⟨r, hr, hr2⟩ := mixed_ok ns (0 + i)
    refine ⟨_, turn_nx rfl (e2 := [some (.v (scrD ns)), some (.v (.int m)), some (.v (.int w)), some (.own ((row ++ [r]).map .int)), some (.v (.int (0 + i)))]) ?_, row ++ [r], w, by omega, by simp [hl], ?_, by simp⟩
    · simp (disch := omega) [h, hline]
      have hr' : F__law_mixed [scrD ns, PyData.int ↑i] = some (PyData.int r) := by simpa using hr
      rw [hr']; rfl
    · intro x hx
      rcases List.mem_append.mp hx with hx | hx
      · exact hb x hx
      · simp at hx; subst hx; exact hr2
theorem row_ok (ns : List Int) (m : Nat) (hm : m ≤ 1000) : ∃ row : List Int, row.length = m ∧ (∀ x ∈ row, 0 ≤ x ∧ x < 1000003) ∧ F__law_row [scrD ns, .int m] = some (.list (row.map .int)) := by
  obtain ⟨v, hv, hE⟩ := row_head ns m
  suffices H : ∀ n : Nat, n ≤ m → ∃ (row : List Int) (w : Int), 0 ≤ w ∧ row.length = n ∧ (∀ x ∈ row, 0 ≤ x ∧ x < 1000003) ∧ forL (gN 4) (
  sIf (t1 isB (e2 gtD (eVar 2) (eC (.int 0)))) (sSeq (sApp 3 (e2 modD (eA intD (aCons (eVar 2) aNil)) (eC (.int 1000)))) <|
  sSet 2 (xV (e2 fdivD (eVar 2) (eC (.int 1000))))) (sApp 3 (eA F__law_mixed (aCons (eVar 0) (aCons (eVar 4) aNil))))) [4] (rngD 0 n) [some (.v (scrD ns)), some (.v (.int m)), some (.v (.int v)), some (.own []), none] = some (.nx [some (.v (scrD ns)), some (.v (.int m)), some (.v (.int w)), some (.own (row.map .int)), none]) by
    obtain ⟨row, w, hw, hl, hb, hF⟩ := H m (Nat.le_refl m)
    refine ⟨row, hl, hb, runD_rt rfl ?_⟩
    unfold den__law_row
    refine (sSeq_nx (e := [some (.v (scrD ns)), some (.v (.int m)), some (.v (.int 0)), none, none]) rfl).trans ?_
    refine (sSeq_nx hE).trans ?_
    refine (sSeq_nx (e := [some (.v (scrD ns)), some (.v (.int m)), some (.v (.int v)), some (.own []), none]) (by simp)).trans ?_
    refine (sSeq_nx (e := [some (.v (scrD ns)), some (.v (.int m)), some (.v (.int w)), some (.own (row.map .int)), none]) ?_).trans ?_
    · refine (sFor_of (ds := rngD 0 m) ?_).trans hF
      simp only [nA_ap, aCons_ap, aNil_ap, eVar_s, eVar_z, Option.bind_some]
      exact rg1_n (by omega)
    · rfl
  exact row_loop ns m hm v hv

/-- is an int: what isinstance says -/
@[simp] theorem isi_int_i {a : Int} : isiD' "int" (.int a) = some (.bool true) := id rfl
@[simp] theorem isi_bool_i {a : Int} : isiD' "bool" (.int a) = some (.bool false) := id rfl
@[simp] theorem isi_tup_i {a : Int} : isiD' "tuple" (.int a) = some (.bool false) := id rfl
@[simp] theorem isi_str_i {a : Int} : isiD' "str" (.int a) = some (.bool false) := id rfl
@[simp] theorem isi_bool_b {a : Bool} : isiD' "bool" (.bool a) = some (.bool true) := id rfl
@[simp] theorem isi_bool_t {xs : List D} : isiD' "bool" (.tuple xs) = some (.bool false) := id rfl
@[simp] theorem isi_tup_t {xs : List D} : isiD' "tuple" (.tuple xs) = some (.bool true) := id rfl
@[simp] theorem isi_bool_s {x : Str} : isiD' "bool" (.str x) = some (.bool false) := id rfl
@[simp] theorem isi_tup_s {x : Str} : isiD' "tuple" (.str x) = some (.bool false) := id rfl
@[simp] theorem isi_str_s {x : Str} : isiD' "str" (.str x) = some (.bool true) := id rfl
theorem is_int_i (a : Int) : F__law_is_int [.int a] = some (.bool true) := by
  refine runD_rt rfl (show den__law_is_int [some (.v (.int a))] = _ from ?_)
  simp [den__law_is_int]
/-- data that _law_like walks: no lists, no dicts, tuples not too long -/
def tl : Nat → D → Bool
  | _, .none => true
  | _, .bool _ => true
  | _, .int _ => true
  | _, .str x => PyData.strOk x
  | 0, _ => false
  | n + 1, .tuple xs => decide (xs.length ≤ 100000) && xs.all (tl n)
  | _, .list _ => false
  | _, .dict _ => false
@[simp] theorem tl_i {n : Nat} {a : Int} : tl n (.int a) = true := by cases n <;> rfl
@[simp] theorem tl_b {n : Nat} {a : Bool} : tl n (.bool a) = true := by cases n <;> rfl
@[simp] theorem tl_n {n : Nat} : tl n .none = true := by cases n <;> rfl
theorem tl_t {n : Nat} {xs : List D} (h : xs.length ≤ 100000) (h2 : ∀ x ∈ xs, tl n x = true) : tl (n + 1) (.tuple xs) = true := by
  show (decide _ && xs.all (tl n)) = true
  rw [decide_eq_true h, List.all_eq_true.mpr h2]; rfl
theorem tl_ints {n : Nat} {ns : List Int} (h : ns.length ≤ 100000) : tl (n + 1) (.tuple (ns.map .int)) = true := tl_t (by rw [List.length_map]; exact h) fun x hx => by
  obtain ⟨a, _, rfl⟩ := List.mem_map.mp hx; simp
theorem rng_eq (n : Nat) : rngD 0 n = (List.range n).map fun i : Nat => PyData.int (i : Int) := by
  apply List.ext_getElem?
  intro i
  by_cases h : i < n
  · rw [rngD_get 0 h, List.getElem?_map, List.getElem?_range h]; simp
  · rw [List.getElem?_eq_none (by rw [rngD_length]; omega), List.getElem?_eq_none (by simp; omega)]
theorem like_refl : ∀ (n f : Nat) (d : D), n < f → tl n d = true → F__law_like f [d, d] = some (.bool true)
  | _, 0, _, h, _ => by omega
  | n, f + 1, d, h, ht => by
    refine runD_rt rfl (show den__law_like (F__law_like f) [some (.v d), some (.v d), none] = _ from ?_)
    unfold den__law_like
    cases d with
    | none => exact sSeq_rt (by simp)
    | bool b =>
      refine (sSeq_nx (by simp; rfl)).trans ?_
      refine (sSeq_rt (d := .bool true) ?_)
      simp [eqD_self (gd_b (n := 0))]
    | int i =>
      refine (sSeq_nx (by simp; rfl)).trans ?_
      refine (sSeq_nx (by simp; rfl)).trans ?_
      refine (sSeq_nx (by simp; rfl)).trans ?_
      refine (sSeq_nx (by simp; rfl)).trans ?_
      simp [is_int_i]
    | str x =>
      have hx : PyData.strOk x = true := by cases n <;> simpa [tl] using ht
      refine (sSeq_nx (by simp [isNonD]; rfl)).trans ?_
      refine (sSeq_nx (by simp; rfl)).trans ?_
      refine (sSeq_nx (by simp; rfl)).trans ?_
      refine (sSeq_rt (d := .bool true) ?_)
      simp [eqD_self (n := 0) (d := .str x) hx]
    | tuple xs =>
      cases n with
      | zero => simp [tl] at ht
      | succ n =>
        have ht : xs.length ≤ 100000 ∧ ∀ x ∈ xs, tl n x = true := by simpa [tl] using ht
        refine (sSeq_nx (by simp; rfl)).trans ?_
        refine (sSeq_nx (by simp; rfl)).trans ?_
        refine (sSeq_rt (d := .bool true) ?_)
        refine (sIf_t (by simp)).trans ?_
        have hline : xs.length ≤ line := Nat.le_trans ht.1 (by decide)
        have hlc : nLc [2] (nA rg1 (aCons (eA lenD (aCons (eVar 1) aNil)) aNil)) (gN 2) tTrue (eA (F__law_like f) (aCons (e2 ixD (eVar 0) (eVar 2)) (aCons (e2 ixD (eVar 1) (eVar 2)) aNil))) [some (.v (.tuple xs)), some (.v (.tuple xs)), none] = some ((List.range xs.length).map fun _ => PyData.bool true) := by
          refine nLc_rng (lo := 0) ?_ hline ?_
          · simp only [nA_ap, aCons_ap, aNil_ap, eA_ap, eVar_s, eVar_z, Option.bind_some, lenD_t]
            exact rg1_n (by omega)
          · intro k hk
            refine ⟨_, rfl, rfl, ?_⟩
            have hx : ixD (.tuple xs) (.int (0 + (k : Int))) = some xs[k] := by
              rw [Int.zero_add, ixD_t]; exact atI_nat (List.getElem?_eq_getElem hk)
            simp only [eA_ap, aCons_ap, aNil_ap, e2_ap, eVar_s, eVar_z, st_s, st_z, fgs_c, fgs_n, Option.bind_some, hx]
            exact like_refl n f _ (by omega) (ht.2 _ (List.getElem_mem hk))
        refine (sSeq_nx (by simp; rfl)).trans ?_
        rw [sRet_ap, eA_ap, aCons_ap, eLst_ap, hlc]
        have he : (List.range xs.length).map (fun _ => PyData.bool true) = ((List.range xs.length).map fun _ => true).map PyData.bool := by rw [List.map_map]; rfl
        rw [he]
        simp only [Option.map_some, Option.bind_some, aNil_ap, allD_l]
        congr 3
        simp
    | list xs => cases n <;> simp [tl] at ht
    | dict kvs => cases n <;> simp [tl] at ht
end PVL
end

section
set_option maxRecDepth 100000
set_option maxHeartbeats 4000000
namespace PV
open PySem PySem.Spec PyProof.Rows L2
/-- the members of a list, each once -/
def dd : List Int → List Int
  | [] => []
  | x :: r => if x ∈ r then dd r else x :: dd r
theorem dd_mem {x : Int} : ∀ {l : List Int}, x ∈ dd l ↔ x ∈ l
  | [] => Iff.rfl
  | y :: r => by
    have ih := dd_mem (x := x) (l := r)
    show x ∈ (if y ∈ r then dd r else y :: dd r) ↔ _
    by_cases h : y ∈ r
    · rw [if_pos h, ih, List.mem_cons]
      exact ⟨Or.inr, fun o => o.elim (fun e => e ▸ h) id⟩
    · rw [if_neg h, List.mem_cons, List.mem_cons, ih]
theorem dd_nodup : ∀ l : List Int, (dd l).Nodup
  | [] => List.nodup_nil
  | y :: r => by
    show (if y ∈ r then dd r else y :: dd r).Nodup
    by_cases h : y ∈ r
    · rw [if_pos h]; exact dd_nodup r
    · rw [if_neg h, List.nodup_cons]; exact ⟨fun c => h (dd_mem.mp c), dd_nodup r⟩
theorem nodup_le : ∀ {l m : List Int}, l.Nodup → (∀ x ∈ l, x ∈ m) → l.length ≤ m.length
  | [], _, _, _ => Nat.zero_le _
  | x :: r, m, h, s => by
    rw [List.nodup_cons] at h
    have hx : x ∈ m := s x (by simp)
    have := nodup_le (l := r) (m := m.erase x) h.2 fun y hy => (List.mem_erase_of_ne (fun e : y = x => h.1 (by rw [← e]; exact hy))).mpr (s y (by simp [hy]))
    rw [List.length_erase_of_mem hx] at this
    have : 0 < m.length := List.length_pos_of_mem hx
    show r.length + 1 ≤ m.length
    omega
theorem nodup_len {l m : List Int} (h : l.Nodup) (h2 : m.Nodup) (e : ∀ x, x ∈ l ↔ x ∈ m) : l.length = m.length :=
  Nat.le_antisymm (nodup_le h fun x hx => (e x).mp hx) (nodup_le h2 fun x hx => (e x).mpr hx)
theorem fm_spec (f : Nat → Int) : ∀ i, (PyProof.Rows.firstMet f i).Nodup ∧ ∀ x, x ∈ PyProof.Rows.firstMet f i ↔ ∃ j, j < i ∧ f j = x
  | 0 => ⟨List.nodup_nil, fun x => ⟨fun h => (nomatch h), fun ⟨j, h, _⟩ => by omega⟩⟩
  | i + 1 => by
    obtain ⟨h1, h2⟩ := fm_spec f i
    rw [PyProof.Rows.firstMet_succ]
    show (if (PyProof.Rows.firstMet f i).any (· == f i) = true then PyProof.Rows.firstMet f i else PyProof.Rows.firstMet f i ++ [f i]).Nodup ∧ ∀ x, x ∈ (if (PyProof.Rows.firstMet f i).any (· == f i) = true then PyProof.Rows.firstMet f i else PyProof.Rows.firstMet f i ++ [f i]) ↔ _
    have ha : ((PyProof.Rows.firstMet f i).any (· == f i)) = true ↔ f i ∈ PyProof.Rows.firstMet f i := by
      rw [List.any_eq_true]
      exact ⟨fun ⟨y, hy, e⟩ => eq_of_beq e ▸ hy, fun h => ⟨_, h, beq_self_eq_true _⟩⟩
    by_cases h : f i ∈ PyProof.Rows.firstMet f i
    · rw [if_pos (ha.mpr h)]
      refine ⟨h1, fun x => (h2 x).trans ⟨fun ⟨j, hj, e⟩ => ⟨j, by omega, e⟩, fun ⟨j, hj, e⟩ => ?_⟩⟩
      by_cases hji : j = i
      · subst hji; subst e; exact (h2 _).mp h
      · exact ⟨j, by omega, e⟩
    · rw [if_neg fun c => h (ha.mp c)]
      refine ⟨?_, fun x => ?_⟩
      · rw [List.nodup_append]
        refine ⟨h1, by simp, fun a ha b hb => ?_⟩
        simp at hb; subst hb
        exact fun e => h (e ▸ ha)
      · rw [List.mem_append, h2 x]
        constructor
        · rintro (⟨j, hj, e⟩ | e)
          · exact ⟨j, by omega, e⟩
          · simp at e; exact ⟨i, by omega, e.symm⟩
        · rintro ⟨j, hj, e⟩
          by_cases hji : j = i
          · subst hji; exact Or.inr (by simp [e])
          · exact Or.inl ⟨j, by omega, e⟩
theorem fm_len (ns : List Int) : (PyProof.Rows.firstMet (fun i => ns.getD i 0) ns.length).length = (dd ns).length := by
  obtain ⟨h1, h2⟩ := fm_spec (fun i => ns.getD i 0) ns.length
  refine nodup_len h1 (dd_nodup ns) fun x => (h2 x).trans (Iff.trans ?_ dd_mem.symm)
  rw [List.mem_iff_getElem?]
  constructor
  · rintro ⟨j, hj, e⟩
    refine ⟨j, ?_⟩
    rw [List.getElem?_eq_getElem hj, ← e, List.getD_eq_getElem?_getD, List.getElem?_eq_getElem hj]; rfl
  · rintro ⟨j, e⟩
    have hj := (List.getElem?_eq_some_iff.mp e).1
    exact ⟨j, hj, by rw [List.getD_eq_getElem?_getD, e]; rfl⟩
def tLenSetG (K : PySem.W.Frag) (ta : TE) : TE := fun σ H Q => ta σ H fun x H1 => ∃ (l : Addr) (ns : List Int), x = .ref l ∧ (SqL K H1 l (ns.map V.int) ∨ SqT K H1 l (ns.map V.int)) ∧ ns.length ≤ 4000 ∧ Q (.int ((dd ns).length : Nat)) H1
theorem pe_lenSetG {X : Cx} {a : Expr} {ta : TE} {p p2 q pos : Pos} (hg : Gl X "len") (hm : X.mg "len" = none) (hg2 : Gl X "set") (hm2 : X.mg "set" = none) (ha : PE X a ta) (hc : X.calm = true := by rfl)
    (na : starEach [a] X.env = (false, eval a X.env) :: starEach [] X.env := by rfl) : PE X (.Call (.Name "len" p) [.Call (.Name "set" p2) [a] [] q] [] pos) (tLenSetG X.K ta) := by
  refine ⟨fun pins s σ H Q I h => ?_⟩
  refine Call_ (ld_blt I hg hm boot_len ?_)
  refine PyProof.Rows.callWith_builtin1 (PyProof.Rows.args_cons ?_ rfl) rfl rfl
  refine Call_ (ld_blt I hg2 hm2 boot_set ?_)
  refine PyProof.Rows.callWith_type1 (PyProof.Rows.args_cons (thn (ha.run pins s σ H _ I h) fun v s1 ⟨x, H1, I1, r1, q1⟩ => PyProof.Rows.args_nil ?_) na) na rfl
  obtain ⟨l, ns, rfl, hq, hl, q1⟩ := q1
  cases r1
  rcases hq with hq | hq
  · obtain ⟨its, r, pl, hz⟩ := I1.list hq
    have hlen : its.toArray.size = ns.length := by rw [List.size_toArray, ← r.length, List.length_map]
    refine call_set_list (I1.ok.hd hc) pl.isList (by simpa using RZ.intsAre_vals r) (by rw [hlen]; unfold scanBound; omega) fun h' tk hS hk => ?_
    refine PyProof.Rows.args_nil ?_
    rw [hlen] at hS
    obtain ⟨o, es, ep, t, ho, hex, hd, _, _, _, hf, hn⟩ := hS
    rw [fm_len] at hn
    have hle := nodup_le (dd_nodup ns) (m := ns) fun x hx => dd_mem.mp hx
    have I2 : Inv X pins σ H1 { s1 with heap := h', toks := tk } := I1.kept fun b o e => hk b o (Heap.lt_size e) e
    exact call_len_set ho hex hd hf (by rw [hn] <;> omega) ⟨.int (dd ns).length, H1, I2.tok _, ⟨_, by rw [hn]⟩, q1⟩
  · obtain ⟨its, rv, pt, hz⟩ := I1.tuple hq
    have hi : IntsAre its.toArray.toList ns := ints_of_vals rv
    refine call_set_tupI ns (I1.ok.hd hc) (show s1.heap.IsTuple l its.toArray from pt) hi (by unfold scanBound; omega) fun h' tk c R1 hcn k => ?_
    refine PyProof.Rows.args_nil ?_
    obtain ⟨o, es, ep, t, ho, hex, hd, g, nd, hm3, hb, hf, hn, hr, hl2⟩ := R1
    have hle := nodup_le (dd_nodup ns) (m := ns) fun x hx => dd_mem.mp hx
    have hn2 : es.size = (dd ns).length := by
      have := nodup_len nd (dd_nodup ns) fun x => (hm3 x).symm.trans (by rw [decide_eq_true_eq]; exact dd_mem.symm)
      rw [List.length_map, Array.length_toList] at this
      exact this
    have I2 : Inv X pins σ H1 { s1 with heap := h', toks := tk } := I1.kept k
    exact call_len_set ho hex hd hf (by rw [hn2] <;> omega) ⟨.int (dd ns).length, H1, I2.tok _, ⟨_, by rw [hn2]⟩, q1⟩
def lensetD : D → Option D
  | .list ds => (ints? ds).bind fun ns => if ns.length ≤ 4000 then some (.int ((dd ns).length : Nat)) else none
  | .tuple ds => (ints? ds).bind fun ns => if ns.length ≤ 4000 then some (.int ((dd ns).length : Nat)) else none
  | _ => none
theorem vlenset {X : Cx} {a : Expr} {da : Ev → Option D} {p p2 q pos : Pos} (ha : PVB X a da) (hm : X.mg "len" = none) (hm2 : X.mg "set" = none) (hg : Gl X "len" := by rfl) (hg2 : Gl X "set" := by rfl) (hc : X.calm = true := by rfl)
    (na : starEach [a] X.env = (false, eval a X.env) :: starEach [] X.env := by rfl) : PVE X (.Call (.Name "len" p) [.Call (.Name "set" p2) [a] [] q] [] pos) (e1 lensetD da) :=
  PE.imp (pe_lenSetG hg hm hg2 hm2 ha hc na) fun σ H Q ⟨H0, F0, env, F, z, rl, ed, k⟩ => by
    obtain ⟨d, h1, ed⟩ := Option.bind_eq_some_iff.mp ed
    refine ⟨H0, F0, env, F, d, rl, h1, fun y F1 H1 g1 b1 => ?_⟩
    unfold lensetD at ed; split at ed
    · obtain ⟨ns, h2, ed⟩ := Option.bind_eq_some_iff.mp ed
      obtain ⟨h3, rfl⟩ := ite_some ed
      obtain rfl := ints_some h2
      obtain ⟨a, vs, rfl, ha, va⟩ := b1.lst g1.sub
      obtain rfl := DvA.ints_inv va
      exact ⟨a, ns, rfl, .inl (SqL.of ha), h3, k _ F1 H1 g1 (.int _)⟩
    · obtain ⟨ns, h2, ed⟩ := Option.bind_eq_some_iff.mp ed
      obtain ⟨h3, rfl⟩ := ite_some ed
      obtain rfl := ints_some h2
      obtain ⟨a, vs, rfl, ha, fa, va⟩ := b1.tup g1.sub
      obtain rfl := DvA.ints_inv va
      exact ⟨a, ns, rfl, .inr (SqT.of ha), h3, k _ F1 H1 g1 (.int _)⟩
    · cases ed
@[simp] theorem lensetD_l {ns : List Int} (h : ns.length ≤ 4000) : lensetD (.list (ns.map .int)) = some (.int ((dd ns).length : Nat)) := by
  show (ints? _).bind _ = _
  rw [ints_map]; exact if_pos h
@[simp] theorem lensetD_t {ns : List Int} (h : ns.length ≤ 4000) : lensetD (.tuple (ns.map .int)) = some (.int ((dd ns).length : Nat)) := by
  show (ints? _).bind _ = _
  rw [ints_map]; exact if_pos h
end PV
end

section
set_option maxRecDepth 100000
set_option maxHeartbeats 4000000
namespace PV
open PySem PySem.Spec PyProof.Rows L2
/-! ### tuple[lo:hi:step], the step told as it stands -/
def pickL {α : Type} (xs : List α) (lo hi : Option Int) (st : Int) : List α :=
  (List.range (Builtin.Slice.slicePlaces (Builtin.Slice.sliceAdjust lo hi st (xs.length : Int)).1 (Builtin.Slice.sliceAdjust lo hi st (xs.length : Int)).2 st)).filterMap fun (k : Nat) => xs[((Builtin.Slice.sliceAdjust lo hi st (xs.length : Int)).1 + (k : Int) * st).toNat]?
section
variable {prog : Program} {w : World} {A : Around} {E : Value → Shared → Prop} {s : Shared}
theorem applied_step {sl : Addr} {vl vu vs : Value} {lo hi : Option Int} {st : Int} {n : Nat} {Q : Int × Int × Nat → Shared → Prop} (hs : s.heap.IsSliceOf sl vl vu vs) (pl : IsPart vl lo) (pu : IsPart vu hi) (ps : IsPart vs (some st)) (h0 : st ≠ 0)
    (h : Q ((Builtin.Slice.sliceAdjust lo hi st (n : Int)).1, st, Builtin.Slice.slicePlaces (Builtin.Slice.sliceAdjust lo hi st (n : Int)).1 (Builtin.Slice.sliceAdjust lo hi st (n : Int)).2 st) s) : wpAny (model prog w) A (Builtin.Slice.sliceApplied (.ref sl) (pure (n : Int))) Q E s := by
  obtain ⟨os, hos, hcs, hds⟩ := id hs
  unfold Builtin.Slice.sliceApplied Builtin.Slice.sliceFields
  refine wpAny_bind (wpAny_bind (wpAny_field hos hds (x := vl) rfl (wpAny_bind (wpAny_field hos hds (x := vu) rfl (wpAny_bind (wpAny_field hos hds (x := vs) rfl (wpAny_pure ?_)))))))
  refine wpAny_bind (HT.slicePart_ ps ?_)
  have hz : ¬ (((some st : Option Int).getD 1 == 0) = true) := by
    intro q; exact h0 (eq_of_beq q)
  rw [if_neg hz]
  refine wpAny_bind (HT.slicePart_ pl (wpAny_bind (HT.slicePart_ pu (wpAny_bind (wpAny_pure ?_)))))
  exact wpAny_pure h
theorem getItem_tuple_step {t sl : Addr} {items : Array Value} {vl vu vs : Value} {lo hi : Option Int} {st : Int} {Q : Value → Shared → Prop} (ht : PyProof.Rows.IsTup s.heap t items) (hs : s.heap.IsSliceOf sl vl vu vs) (pl : IsPart vl lo) (pu : IsPart vu hi) (ps : IsPart vs (some st)) (h0 : st ≠ 0) (h1 : st ≠ 1)
    (h : Q (.ref s.heap.objs.size) { s with heap := s.heap.push { cls := .type "tuple", data := .seq (pickL items.toList lo hi st).toArray } })
    (hsz : (pickL items.toList lo hi st).length ≤ sizeLine) : wpAny (model prog w) A (getItem (.ref t) (.ref sl)) Q E s := by
  have htake : sizeOk (.seq (pickL items.toList lo hi st).toArray) := by
    show (pickL items.toList lo hi st).toArray.size ≤ sizeLine
    rw [List.size_toArray]; exact hsz
  obtain ⟨os, hos, hcs, hds⟩ := id hs
  have hTs : s.TypeIs (.ref sl) "slice" := ⟨os, hos, hcs⟩
  unfold getItem
  try with_reducible refine wpAny_holding ?_
  first | refine wpAny_bind (wpAny_pure ?_) | skip
  refine wpAny_bind (wpAny_sequenceKey ht.typeIs (by decide) ?_)
  refine wpAny_bind (wpAny_callSpecial?_slot (name := Str.ofString "__getitem__") ht.typeIs PyProof.Rows.slot_tuple_getitem
    (wpAny_call_entry PyProof.Rows.slot_tuple_getitem ht.typeIs entry_tuple_getitem ?_ (args_tuple_getitem _ _)))
  show wpAny _ _ (Builtin.Tuple.tupleItemsOf (.ref t) >>= _) _ _ s
  refine wpAny_bind (tupleItemsOf_ ht ?_)
  refine wpAny_bind (wpAny_typeOf hTs ?_)
  rw [if_pos (by decide)]
  refine wpAny_bind (applied_step hs pl pu ps h0 ?_)
  generalize hl : Builtin.Slice.sliceAdjust lo hi st (items.size : Int) = p
  have hno : ¬ ((p.1 == 0 && st == 1 && Builtin.Slice.slicePlaces p.1 p.2 st == items.size) = true) := by
    intro q
    rw [Bool.and_eq_true, Bool.and_eq_true] at q
    exact h1 (eq_of_beq q.1.2)
  show wpAny _ _ (if (p.1 == 0 && st == 1 && Builtin.Slice.slicePlaces p.1 p.2 st == items.size) = true then _ else _) _ _ s
  rw [if_neg hno]
  have e : ((List.range (Builtin.Slice.slicePlaces p.1 p.2 st)).filterMap fun (k : Nat) => items[(p.1 + (k : Int) * st).toNat]?).toArray = (pickL items.toList lo hi st).toArray := by
    unfold pickL
    rw [Array.length_toList, hl]
    simp
  rw [e]
  first
    | exact wpAny_bind (m := Builtin.Tuple.tupleExact _) (wpAny_newObj_type (wpAny_pure ⟨_, rfl, wpAny_pure h⟩) htake)
    | exact wpAny_bind (m := Builtin.Tuple.tupleExact _) (wpAny_newObj_type (wpAny_bind (wpAny_pure (wpAny_pure ⟨_, rfl, wpAny_pure h⟩))) htake)
    | exact wpAny_bind (wpAny_bind (m := Builtin.Tuple.tupleExact _) (wpAny_newObj_type (wpAny_pure (wpAny_pure ⟨_, rfl, wpAny_pure h⟩)) htake))
    | exact wpAny_bind (wpAny_bind (m := Builtin.Tuple.tupleExact _) (wpAny_newObj_type (wpAny_pure ⟨_, rfl, wpAny_pure h⟩) htake))
end
theorem vals_at : ∀ {xs : List V} {us : List Value}, Vals xs us → ∀ j : Nat, (xs[j]? = none ∧ us[j]? = none) ∨ ∃ x u, xs[j]? = some x ∧ us[j]? = some u ∧ RelV x u
  | _, _, .nil, j => .inl ⟨rfl, rfl⟩
  | _, _, .cons r t, 0 => .inr ⟨_, _, rfl, rfl, r⟩
  | _, _, .cons r t, j + 1 => vals_at t j
theorem vals_pick {xs : List V} {us : List Value} (h : Vals xs us) (f : Nat → Nat) : ∀ js : List Nat, Vals (js.filterMap fun k => xs[f k]?) (js.filterMap fun k => us[f k]?)
  | [] => .nil
  | j :: r => by
    rcases vals_at h (f j) with ⟨h1, h2⟩ | ⟨x, u, h1, h2, h3⟩
    · simp only [List.filterMap_cons, h1, h2]; exact vals_pick h f r
    · simp only [List.filterMap_cons, h1, h2]; exact .cons h3 (vals_pick h f r)
theorem vals_pickL {xs : List V} {us : List Value} (h : Vals xs us) (lo hi : Option Int) (st : Int) : Vals (pickL xs lo hi st) (pickL us lo hi st) := by
  unfold pickL
  rw [h.length]
  exact vals_pick h _ _
theorem dva_pick {K : PySem.W.Frag} {F : Hp} {vs : List V} {ds : List D} (h : DvA K F vs ds) (f : Nat → Nat) : ∀ js : List Nat, DvA K F (js.filterMap fun k => vs[f k]?) (js.filterMap fun k => ds[f k]?)
  | [] => .nil
  | j :: r => by
    cases e : ds[f j]? with
    | none =>
      have e2 : vs[f j]? = none := by
        rw [List.getElem?_eq_none_iff] at e ⊢
        rw [DvA.length h]; exact e
      simp only [List.filterMap_cons, e, e2]; exact dva_pick h f r
    | some d =>
      obtain ⟨v, e2, e3⟩ := DvA.get h e
      simp only [List.filterMap_cons, e, e2]; exact .cons e3 (dva_pick h f r)
theorem dva_pickL {K : PySem.W.Frag} {F : Hp} {vs : List V} {ds : List D} (h : DvA K F vs ds) (lo hi : Option Int) (st : Int) : DvA K F (pickL vs lo hi st) (pickL ds lo hi st) := by
  unfold pickL
  rw [DvA.length h]
  exact dva_pick h _ _
def stepD (st : Int) : D → Option Int → Option Int → Option D
  | .tuple ds, lo, hi => if (pickL ds lo hi st).length ≤ line then some (.tuple (pickL ds lo hi st)) else none
  | _, _, _ => none
def tStep (K : PySem.W.Frag) (k : Int) (te : TE) (tl th : TO) : TE := fun σ H Q => te σ H fun x H1 => tl σ H1 fun l H2 => th σ H2 fun u H3 => ∃ a xs, x = .ref a ∧ SqT K H3 a xs ∧ (pickL xs l u k).length ≤ sizeLine ∧ ∀ p, H3 p = none → Q (.ref p) (upd H3 p (.tup (pickL xs l u k)))
theorem pe_step {X : Cx} {e se : Expr} {lo hi : Option Expr} {te ts : TE} {tl th : TO} {k : Int} {p2 pos : Pos} (h0 : k ≠ 0) (h1 : k ≠ 1) (he : PE X e te) (hl : PO X lo tl) (hu : PO X hi th) (hst : PE X se ts) (hk : ∀ σ H Q, Q (V.int k) H → ts σ H Q)
    (tl2 : ∀ (a sl : Addr) , subscripted (.Slice lo hi (some se) p2) false (.ref a) (.ref sl) = operate [.ref a, .ref sl] (getItem (.ref a) (.ref sl)) := by intros; with_unfolding_all rfl) :
    PE X (.Subscript e (.Slice lo hi (some se) p2) pos) (tStep X.K k te tl th) := by
  refine ⟨fun pins s σ H Q I h => ?_⟩
  refine Subscript_ (thn (he.run pins s σ H _ I h) fun v s1 ⟨x, H1, I1, r1, q1⟩ => ?_)
  refine wpAny_Slice (thn (hl.run pins s1 σ H1 _ I1 q1) fun vl s2 ⟨l, H2, I2, pl, q2⟩ => thn (hu.run pins s2 σ H2 _ I2 q2) fun vu s3 ⟨u, H3, I3, pu, q3⟩ => ?_)
  refine thn ((po_some hst).run pins s3 σ H3 (fun o H4 => o = some k ∧ H4 = H3) I3 (hk σ H3 _ ⟨k, rfl, rfl, rfl⟩)) fun vs s4 ⟨o, H4, I4, ps, eo, e4⟩ => ?_
  subst eo e4
  obtain ⟨a, xs, rfl, hx, hz, q⟩ := q3
  have I5 : Inv X pins σ H4 { s4 with heap := s4.heap.push { cls := .type "slice", data := .fields #[vl, vu, vs] } } := I4.kept (t' := s4.toks) fun b ob q => Heap.get?_push_of_some _ q
  cases r1
  obtain ⟨its, r, ht, hz2⟩ := I5.tuple hx
  show wpAny (model X.prog X.w) X.A (subscriptTail e (.Slice lo hi (some se) p2) (.ref a) (.ref s4.heap.objs.size)) (EP X pins σ Q) X.xe { s4 with heap := s4.heap.push { cls := .type "slice", data := .fields #[vl, vu, vs] } }
  refine tail_any (ops := [.ref a, .ref s4.heap.objs.size]) ht.typeIs PyProof.Rows.slot_tuple_getitem.lookup ?_ (tl2 _ _)
  have rp := vals_pickL r l u k
  refine getItem_tuple_step ht (Heap.IsSliceOf.new _ vl vu vs) pl pu ps h0 h1 ?_ (by rw [← show _ = _ from rp.length]; exact hz)
  refine ⟨.ref _, _, I5.laid (t' := s4.toks) (o := .tup (pickL xs l u k)) (fun b ob q => Heap.get?_push_of_some _ q) (Nat.le_refl _) ?_, rfl, q _ (I5.hok.fresh (Nat.le_refl _))⟩
  exact ⟨hz, _, rp, IsTup.new _ _⟩
theorem vstep {X : Cx} {a se : Expr} {lo hi : Option Expr} {da : Ev → Option D} {pl ph : Part} {ts : TE} {p2 pos : Pos} (k : Int) (ha : PVB X a da) (hl : PO X lo (rdP X.K pl)) (hu : PO X hi (rdP X.K ph)) (hst : PE X se ts) (hk : ∀ σ H Q, Q (V.int k) H → ts σ H Q) (h0 : k ≠ 0 := by decide) (h1 : k ≠ 1 := by decide)
    (tl2 : ∀ (a sl : Addr) , subscripted (.Slice lo hi (some se) p2) false (.ref a) (.ref sl) = operate [.ref a, .ref sl] (getItem (.ref a) (.ref sl)) := by intros; with_unfolding_all rfl) : PVE X (.Subscript a (.Slice lo hi (some se) p2) pos) (eSl (stepD k) da pl ph) :=
  PE.imp (pe_step h0 h1 ha hl hu hst hk tl2) fun σ H Q ⟨H0, F0, env, F, z, rl, ed, kk⟩ => by
    obtain ⟨d, h1, ed⟩ := Option.bind_eq_some_iff.mp ed
    obtain ⟨l, h2, ed⟩ := Option.bind_eq_some_iff.mp ed
    obtain ⟨h, h3, ed⟩ := Option.bind_eq_some_iff.mp ed
    refine ⟨H0, F0, env, F, d, rl, h1, fun x F1 H1 g1 b1 => ⟨H0, F0, env, F1, l, rl.grow g1, h2, fun F2 H2 g2 => ⟨H0, F0, env, F2, h, rl.grow (g1.trans g2), h3, fun F3 H3 g3 => ?_⟩⟩⟩
    unfold stepD at ed; split at ed
    · obtain ⟨hz, rfl⟩ := ite_some ed
      have b3 := b1.grow (g2.trans g3) g1.sub
      obtain ⟨a, vs, rfl, ha, fa, va⟩ := b3.tup g3.sub
      have vp := dva_pickL va l h k
      exact ⟨a, vs, rfl, SqT.of ha, by rw [DvA.length vp]; exact hz, fun p hp => kk _ _ _ (g1.trans (g2.trans (g3.trans (Grow.new g3.sub hp)))) (Dv.newTup (fnone g3.sub hp) vp)⟩
    · cases ed
theorem vstepP {X : Cx} {a : Expr} {lo hi : Option Expr} {da : Ev → Option D} {pl ph : Part} {k : Int} {p1 p2 pos : Pos} (ha : PVB X a da) (hl : PO X lo (rdP X.K pl)) (hu : PO X hi (rdP X.K ph)) (h0 : k ≠ 0 := by decide) (h1 : k ≠ 1 := by decide)
    (tl2 : ∀ (a sl : Addr) , subscripted (.Slice lo hi (some (.Constant (.int k) 0 p1)) p2) false (.ref a) (.ref sl) = operate [.ref a, .ref sl] (getItem (.ref a) (.ref sl)) := by intros; with_unfolding_all rfl) : PVE X (.Subscript a (.Slice lo hi (some (.Constant (.int k) 0 p1)) p2) pos) (eSl (stepD k) da pl ph) :=
  vstep k ha hl hu pe_int (fun σ H Q q => q) h0 h1 tl2

theorem vstepM {X : Cx} {a : Expr} {lo hi : Option Expr} {da : Ev → Option D} {pl ph : Part} {k : Int} {p1 p2 p3 pos : Pos} (ha : PVB X a da) (hl : PO X lo (rdP X.K pl)) (hu : PO X hi (rdP X.K ph)) (h0 : -k ≠ 0 := by decide) (h1 : -k ≠ 1 := by decide)
    (tl2 : ∀ (a sl : Addr) , subscripted (.Slice lo hi (some (.UnaryOp .USub (.Constant (.int k) 0 p1) p3)) p2) false (.ref a) (.ref sl) = operate [.ref a, .ref sl] (getItem (.ref a) (.ref sl)) := by intros; with_unfolding_all rfl) : PVE X (.Subscript a (.Slice lo hi (some (.UnaryOp .USub (.Constant (.int k) 0 p1) p3)) p2) pos) (eSl (stepD (-k)) da pl ph) :=
  vstep (-k) ha hl hu (pe_un un_neg pe_int) (fun σ H Q q => ⟨k, rfl, q⟩) h0 h1 tl2
/-! ### zip -/
theorem walk_zipT {K : PySem.W.Frag} {a b : Addr} {xs ys : List V} {n : Nat} (hn : n = min xs.length ys.length) : Walk (RZ.ItzT K a b) n (fun H => SqT K H a xs ∧ SqT K H b ys) (YPair (fun i => xs[i]?) (fun i => ys[i]?)) := by
  refine ⟨fun i _ hi q => ⟨xs, ys, xs[i]'(by omega), ys[i]'(by omega), q.1, q.2, by simp, by simp⟩, fun _ q => ⟨xs, ys, q.1, q.2, by omega⟩, fun i H v H' _ q y => ?_⟩
  obtain ⟨T, x, z, h1, h2, h3, h4, h5⟩ := y
  exact ⟨T, x, z, h1, h2, h3, h4 xs q.1, h5 ys q.2⟩
def zipL (xs ys : List D) : List D := (xs.zip ys).map fun p => .tuple [p.1, p.2]
theorem zipL_length (xs ys : List D) : (zipL xs ys).length = min xs.length ys.length := by simp [zipL]
theorem zipL_get {xs ys : List D} {i : Nat} {x y : D} (h1 : xs[i]? = some x) (h2 : ys[i]? = some y) : (zipL xs ys)[i]? = some (.tuple [x, y]) := by
  have h : (xs.zip ys)[i]? = some (x, y) := List.getElem?_zip_eq_some.mpr ⟨h1, h2⟩
  unfold zipL
  rw [List.getElem?_map, h]; rfl
def zipD : List D → Option (List D)
  | [.list xs, .list ys] => some (zipL xs ys)
  | [.tuple xs, .tuple ys] => some (zipL xs ys)
  | _ => none
section
variable {X : Cx} {a b : Expr} {p pos tpos : Pos} {elts : List Expr} {kk : Nat} {dr : Ev → Option (List D)}
theorem vi_zip (ha : PVA X [a, b] dr) (hm : X.mg "zip" = none) (hg : Gl X "zip" := by rfl) (hs : starEach [a, b] X.env = (false, eval a X.env) :: starEach [b] X.env := by rfl) (hpl : (backTo pos (starEach [b] X.env)).any (·.1) = false := by rfl) :
    PVI X (.Tuple elts kk tpos) (.Call (.Name "zip" p) [a, b] [] pos) (nA zipD dr) :=
  PI.imp (RZ.pi_zipA hg hm ha hs hpl) fun σ H R ⟨H0, F0, env, F, ds, rl, ed, k⟩ => by
    obtain ⟨d, h1, ed⟩ := Option.bind_eq_some_iff.mp ed
    unfold zipD at ed; split at ed <;> cases ed
    · refine ⟨H0, F0, env, F, _, rl, h1, fun xs F1 H1 g1 hd => ?_⟩
      cases hd with
      | cons hd ht =>
        cases ht with
        | cons hd2 ht =>
          cases ht
          cases hd with
          | @lst a vs _ q1 q2 =>
            cases hd2 with
            | @lst b us _ q3 q4 =>
              refine ⟨a, b, vs, us, rfl, .inl ⟨SqL.of (g1.sub _ _ q1), SqL.of (g1.sub _ _ q3), k _ F1 H1 g1 (WalkD.of (walk_zip rfl) (by rw [zipL_length, DvA.length q2, DvA.length q4]) (fun F H s1 s2 => ⟨SqL.of (s2 _ _ (s1 _ _ q1)), SqL.of (s2 _ _ (s1 _ _ q3))⟩) fun i F H x H' s1 s2 hi y => ?_)⟩⟩
              obtain ⟨T, v, u, e1, e2, e3, e4, e5⟩ := y
              have e4 : vs[i]? = some v := e4
              have e5 : us[i]? = some u := e5
              have hl := List.getElem?_eq_getElem (show i < _ by rw [← DvA.length q2]; omega)
              have hl2 := List.getElem?_eq_getElem (show i < _ by rw [← DvA.length q4]; omega)
              obtain ⟨v', e6, e7⟩ := DvA.get q2 hl
              obtain ⟨u', e8, e9⟩ := DvA.get q4 hl2
              rw [e6] at e4; cases e4
              rw [e8] at e5; cases e5
              obtain ⟨F', g, hv⟩ := pair_yld s2 e1 e2 e3 (Dv.mono s1 _ _ e7) (Dv.mono s1 _ _ e9)
              exact ⟨F', _, g, zipL_get hl hl2, hv⟩
    · refine ⟨H0, F0, env, F, _, rl, h1, fun xs F1 H1 g1 hd => ?_⟩
      cases hd with
      | cons hd ht =>
        cases ht with
        | cons hd2 ht =>
          cases ht
          cases hd with
          | @tup a vs _ q1 q2 =>
            cases hd2 with
            | @tup b us _ q3 q4 =>
              refine ⟨a, b, vs, us, rfl, .inr ⟨SqT.of (g1.sub _ _ q1), SqT.of (g1.sub _ _ q3), k _ F1 H1 g1 (WalkD.of (walk_zipT rfl) (by rw [zipL_length, DvA.length q2, DvA.length q4]) (fun F H s1 s2 => ⟨SqT.of (s2 _ _ (s1 _ _ q1)), SqT.of (s2 _ _ (s1 _ _ q3))⟩) fun i F H x H' s1 s2 hi y => ?_)⟩⟩
              obtain ⟨T, v, u, e1, e2, e3, e4, e5⟩ := y
              have e4 : vs[i]? = some v := e4
              have e5 : us[i]? = some u := e5
              have hl := List.getElem?_eq_getElem (show i < _ by rw [← DvA.length q2]; omega)
              have hl2 := List.getElem?_eq_getElem (show i < _ by rw [← DvA.length q4]; omega)
              obtain ⟨v', e6, e7⟩ := DvA.get q2 hl
              obtain ⟨u', e8, e9⟩ := DvA.get q4 hl2
              rw [e6] at e4; cases e4
              rw [e8] at e5; cases e5
              obtain ⟨F', g, hv⟩ := pair_yld s2 e1 e2 e3 (Dv.mono s1 _ _ e7) (Dv.mono s1 _ _ e9)
              exact ⟨F', _, g, zipL_get hl hl2, hv⟩
end
/-! ### x, y, z = a, b, c -/
def sPar3 (i j l : Nat) (dx dy dz : Ev → Option SV) : Ev → Option Out := fun env => (dx env).bind fun s => (dy env).bind fun t => (dz env).map fun u => .nx (st (st (st env i (some s)) j (some t)) l (some u))
section
variable {X : Cx} {a b c : Expr} {dx dy dz : Ev → Option SV} {pos : Pos}
def rdX3 (K : PySem.W.Frag) (dx dy dz : Ev → Option SV) : TA := fun σ H Q => ∃ H0 F0 env F s t u, Rel K H0 F0 env σ F H ∧ dx env = some s ∧ dy env = some t ∧ dz env = some u ∧
  ∀ x y z F1 H1 F2 H2 F3 H3, Grow F H F1 H1 → Grow F1 H1 F2 H2 → Grow F2 H2 F3 H3 → NRel K H F1 H1 x s → NRel K H1 F2 H2 y t → NRel K H2 F3 H3 z u → Q [x, y, z] H3
theorem va_x3 (ha : PVX X a dx) (hb : PVX X b dy) (hcc : PVX X c dz) (hs : starEach [a, b, c] X.env = (false, eval a X.env) :: starEach [b, c] X.env := by rfl) (hs2 : starEach [b, c] X.env = (false, eval b X.env) :: starEach [c] X.env := by rfl) (hs3 : starEach [c] X.env = (false, eval c X.env) :: starEach [] X.env := by rfl) : PA X [a, b, c] (rdX3 X.K dx dy dz) :=
  PA.imp (pa_cons ha (pa_cons hb (pa_cons hcc pa_nil hs3) hs2) hs) fun σ H Q ⟨H0, F0, env, F, s, t, u, rl, e1, e2, e3, k⟩ =>
    ⟨H0, F0, env, F, s, rl, e1, fun x F1 H1 g1 n1 => ⟨H0, F0, env, F1, t, rl.grow g1, e2, fun y F2 H2 g2 n2 => ⟨H0, F0, env, F2, u, rl.grow (g1.trans g2), e3, fun z F3 H3 g3 n3 => k x y z F1 H1 F2 H2 F3 H3 g1 g2 g3 n1 n2 n3⟩⟩⟩
theorem vs_par3 (i j l : Nat) {x y z : Str} {px py pz pt : Pos} {kt k2 pt2} (hc : X.calm = true) (hN : X.N.Nodup) (ha : PVX X a dx) (hb : PVX X b dy) (hcc : PVX X c dz) (hij : i ≠ j := by decide) (hil : i ≠ l := by decide) (hjl : j ≠ l := by decide) (hi : X.N[i]? = some x := by rfl) (hj : X.N[j]? = some y := by rfl) (hl : X.N[l]? = some z := by rfl)
    (hx : X.env.scope.names.lookup x = some .local := by rfl) (hy : X.env.scope.names.lookup y = some .local := by rfl) (hz : X.env.scope.names.lookup z = some .local := by rfl)
    (hsa : starEach [a, b, c] X.env = (false, eval a X.env) :: starEach [b, c] X.env := by rfl) (hsb : starEach [b, c] X.env = (false, eval b X.env) :: starEach [c] X.env := by rfl) (hsc : starEach [c] X.env = (false, eval c X.env) :: starEach [] X.env := by rfl)
    (hw : swappedStores [.Tuple [.Name x px, .Name y py, .Name z pz] kt pt] (.Tuple [a, b, c] k2 pt2) X.env = pure (some [x, y, z]) := by rfl)
    (hs : swapsWithSole [.Tuple [.Name x px, .Name y py, .Name z pz] kt pt] (.Tuple [a, b, c] k2 pt2) pos.line X.env = pure false := by rfl) :
    PVS X (.Assign [.Tuple [.Name x px, .Name y py, .Name z pz] kt pt] (.Tuple [a, b, c] k2 pt2) pos) (sPar3 i j l dx dy dz) := PS.imp (ps_par3 hc hN hi hj hl hij hil hjl hx hy hz (va_x3 ha hb hcc hsa hsb hsc) hw hs) fun D σ H ⟨H0, F0, env, F, o, rl, ed, k⟩ => by
  obtain ⟨s1, h1, ed⟩ := Option.bind_eq_some_iff.mp ed
  obtain ⟨s2, h2, ed⟩ := Option.bind_eq_some_iff.mp ed
  obtain ⟨s3, h3, h4⟩ := Option.map_eq_some_iff.mp ed
  subst h4
  refine ⟨H0, F0, env, F, s1, s2, s3, rl, h1, h2, h3, fun x y z F1 H1 F2 H2 F3 H3 g1 g2 g3 n1 n2 n3 => ⟨x, y, z, rfl, k _ F3 H3 ?_ (((g1.trans g2).trans g3).ff rl.sub)⟩⟩
  have r1 := (rl.grow g1).setX (F := F) rl.base rl.old n1 (i := i)
  have r2 : Rel X.K H0 F0 (st env i (some s1)) (σ.set i (some x)) F2 H2 := r1.grow g2
  have r3 : Rel X.K H0 F0 (st (st env i (some s1)) j (some s2)) ((σ.set i (some x)).set j (some y)) F3 H3 := (r2.setX (F := F1) r1.base r1.old n2).grow g3
  have r2' := r2.setX (F := F1) r1.base r1.old n2 (i := j)
  exact r3.setX (F := F2) r2'.base r2'.old n3
end
/-! ### range(a, b, c) -/
def rngC (lo c : Int) (n : Nat) : List D := (List.range n).map fun (k : Nat) => PyData.int (lo + (k : Int) * c)
theorem rngC_length (lo c : Int) (n : Nat) : (rngC lo c n).length = n := by unfold rngC; rw [List.length_map, List.length_range]
theorem rngC_get (lo c : Int) {n i : Nat} (h : i < n) : (rngC lo c n)[i]? = some (.int (lo + i * c)) := by
  unfold rngC; rw [List.getElem?_map, List.getElem?_range h]; rfl
theorem walk_rngC {K : PySem.W.Frag} {Fs : Hp} {lo c : Int} {n : Nat} : WalkD K Fs (Itc lo c n) (rngC lo c n) where
  go := fun i F H _ _ hi => by rw [rngC_length] at hi; exact hi
  stop := fun F H _ _ => by rw [rngC_length]; exact Nat.le_refl _
  yld := fun i F H x H' s1 s2 hi y => by
    rw [rngC_length] at hi
    obtain ⟨rfl, rfl⟩ := y
    exact ⟨F, _, Grow.refl s2, rngC_get lo c hi, .int _⟩
def rg3 : List D → Option (List D)
  | [.int i, .int j, .int c] => if c ≠ 0 ∧ c.natAbs < 1073741824 ∧ Builtin.Range.small i j c = true ∧ 0 ≤ Builtin.Range.rangeSize i j c then some (rngC i c (Builtin.Range.rangeSize i j c).toNat) else none
  | _ => none
theorem vi_rg3 {X : Cx} {a b c tg : Expr} {p pos : Pos} {dr : Ev → Option (List D)} (ha : PVAB X [a, b, c] dr) (hm : X.mg "range" = none) (hg : Gl X "range" := by rfl) (hs : starEach [a, b, c] X.env = (false, eval a X.env) :: starEach [b, c] X.env := by rfl) (hpl : (backTo pos (starEach [b, c] X.env)).any (·.1) = false := by rfl) : PVI X tg (.Call (.Name "range" p) [a, b, c] [] pos) (nA rg3 dr) :=
  PI.imp (pi_range3 hg hm ha hs hpl) fun σ H R ⟨H0, F0, env, F, ds, rl, ed, k⟩ => by
    obtain ⟨d, h1, ed⟩ := Option.bind_eq_some_iff.mp ed
    unfold rg3 at ed; split at ed
    · obtain ⟨⟨h2, h3, h4, h5⟩, rfl⟩ := ite_some ed
      refine ⟨H0, F0, env, F, _, rl, h1, fun xs F1 H1 g1 hd => ?_⟩
      cases hd with
      | cons hv ht =>
        obtain ⟨u, w, rfl, hu, hw⟩ := ht.two
        obtain rfl := hv.int
        obtain rfl := hu.int
        obtain rfl := hw.int
        exact ⟨_, _, _, _, rfl, ⟨h2, h3, h4, (Int.toNat_of_nonneg h5).symm⟩, k _ F1 H1 g1 walk_rngC⟩
    · cases ed
theorem rg3_if {i j c : Int} : rg3 [.int i, .int j, .int c] = if c ≠ 0 ∧ c.natAbs < 1073741824 ∧ Builtin.Range.small i j c = true ∧ 0 ≤ Builtin.Range.rangeSize i j c then some (rngC i c (Builtin.Range.rangeSize i j c).toNat) else none := rfl
theorem rg3_two {n : Nat} (h : n < 128) : rg3 [.int 0, .int (n : Int), .int 2] = some (rngC 0 2 ((n + 1) / 2)) := by
  have h1 : ∀ n, n < 128 → ((2 : Int) ≠ 0 ∧ (2 : Int).natAbs < 1073741824 ∧ Builtin.Range.small 0 (n : Nat) 2 = true ∧ 0 ≤ Builtin.Range.rangeSize 0 (n : Nat) 2) ∧ (Builtin.Range.rangeSize 0 (n : Nat) 2).toNat = (n + 1) / 2 := by decide +kernel
  obtain ⟨h2, h3⟩ := h1 n h
  rw [rg3_if, if_pos h2, h3]
end PV
end

section
set_option maxRecDepth 100000
set_option maxHeartbeats 4000000
namespace PV
open PySem PySem.Spec PyProof.Rows L2
/-! ### a dict at the module's top, ints to ints -/
def entOk (e : DictEntry) (kv : Int × Int) : Bool := (match e.key, e.val with
  | .int k _, .int v _ => decide (k = kv.1) && (decide (v = kv.2) && decide (e.hash = hashInt kv.1))
  | _, _ => false)
def entsOk : List DictEntry → List (Int × Int) → Bool
  | [], [] => true
  | e :: es, kv :: kvs => entOk e kv && entsOk es kvs
  | _, _ => false
theorem entOk_spec {e : DictEntry} {kv : Int × Int} (h : entOk e kv = true) : ∃ t t', e.key = .int kv.1 t ∧ e.val = .int kv.2 t' ∧ e.hash = hashInt kv.1 := by
  unfold entOk at h
  split at h
  · rename_i k t v t' h1 h2
    simp only [Bool.and_eq_true, decide_eq_true_eq] at h
    exact ⟨t, t', by rw [h1, h.1], by rw [h2, h.2.1], h.2.2⟩
  · cases h
theorem ents_keys {prog : Program} {w : World} : ∀ {es : List DictEntry} {kvs : List (Int × Int)}, entsOk es kvs = true → ∀ e ∈ es, ∃ k, (intKind prog w).is k e.key = true ∧ e.hash = (intKind prog w).hash k
  | [], _, _ => fun e he => nomatch he
  | e :: es, [], h => by cases h
  | e :: es, kv :: kvs, h => by
    have h' : entOk e kv = true ∧ entsOk es kvs = true := by simpa [entsOk] using h
    intro e' he
    rcases List.mem_cons.mp he with rfl | he
    · obtain ⟨t, t', h1, _, h3⟩ := entOk_spec h'.1
      exact ⟨kv.1, by rw [h1]; exact intKind_is _ _ _ _, h3⟩
    · exact ents_keys h'.2 e' he
theorem ents_find : ∀ {es : List DictEntry} {kvs : List (Int × Int)} {k v : Int}, entsOk es kvs = true → kvs.lookup k = some v → ∃ t, (es.find? fun d => Value.isInt k d.key).map (·.val) = some (.int v t)
  | [], [], _, _, _, h => by cases h
  | [], _ :: _, _, _, h, _ => by cases h
  | _ :: _, [], _, _, h, _ => by cases h
  | e :: es, kv :: kvs, k, v, h, hl => by
    have h' : entOk e kv = true ∧ entsOk es kvs = true := by simpa [entsOk] using h
    obtain ⟨t, t', h1, h2, h3⟩ := entOk_spec h'.1
    obtain ⟨a, b⟩ := kv
    by_cases hk : k = a
    · subst hk
      have hb : b = v := by simpa using hl
      subst hb
      refine ⟨t', ?_⟩
      rw [List.find?_cons_of_pos (by rw [h1]; exact beq_self_eq_true k)]
      simp only [Option.map_some, h2]
    · have hl2 : kvs.lookup k = some v := by
        rw [List.lookup_cons] at hl
        rwa [beq_eq_false_iff_ne.mpr hk] at hl
      obtain ⟨u, hu⟩ := ents_find h'.2 hl2
      refine ⟨u, ?_⟩
      rw [List.find?_cons_of_neg (by rw [h1]; intro q; exact hk (eq_of_beq q).symm)]
      exact hu
def KInt (K : PySem.W.Frag) (a : Addr) (kvs : List (Int × Int)) : Prop := ∃ es n, K.lookup a = some ⟨.type "dict", none, .dict es n, #[]⟩ ∧ entsOk es.toList kvs = true
theorem ix_kint {X : Cx} {kvs : List (Int × Int)} : IxR X (fun x y H Q => ∃ p k v, x = .ref p ∧ y = .int k ∧ KInt X.K p kvs ∧ kvs.lookup k = some v ∧ Q (.int v) H) := by
  intro value slice pins s σ H x y v u Q I rx ry h hs
  obtain ⟨p, k, r, rfl, rfl, ⟨es, n, hl, hk⟩, e, q⟩ := h
  obtain rfl : v = Value.ref p := rx
  obtain ⟨t, rfl⟩ := ry
  have hm : s.heap.MapOf (intKind X.prog X.w) p (fun k => findBy (intKind X.prog X.w).is es k) := ⟨_, es, n, I.kIn _ _ hl, ⟨rfl, rfl, rfl⟩, rfl, fun e he => ents_keys hk e (Array.mem_toList_iff.mpr he), fun _ => rfl⟩
  obtain ⟨t', hf⟩ := ents_find hk e
  have hf2 : findBy (intKind X.prog X.w).is es k = some (.int r t') := by
    obtain ⟨l⟩ := es
    unfold findBy
    rw [List.find?_toArray]
    exact hf
  exact tail_any hm.typeIs slot_dict_getitem.lookup (wpAny_getItem_of (intKind_is X.prog X.w k t) hm hf2 ⟨.int r, H, I.tok _, ⟨_, rfl⟩, q⟩) hs
/-- the constants of the module -/
def ConstOk (K : PySem.W.Frag) (mg : Str → Option Value) (x : Str) (kvs : List (Int × Int)) : Prop := ∃ p, mg x = some (.ref p) ∧ KInt K p kvs
def kD (kvs : List (Int × Int)) : D → Option D
  | .int k => (kvs.lookup k).map PyData.int
  | _ => none
theorem vk {X : Cx} {x : Str} {e : Expr} {de : Ev → Option D} {p pos : Pos} {kvs : List (Int × Int)} (C : ConstOk X.K X.mg x kvs) (he : PVB X e de) (hg : Gl X x := by rfl) (hs : PlainIx e := by exact fun _ _ => rfl) (hd : (x == ("__debug__" : Str)) = false := by decide) (hn : x ≠ "__name__" := by decide) : PVE X (.Subscript (.Name x p) e pos) (e1 (kD kvs) de) := by
  obtain ⟨a, hm, hK⟩ := C
  exact PE.imp (pe_ix (ix_kint (kvs := kvs)) (pe_glob (v := V.ref a) hg hm rfl (hd := hd)) he hs) fun σ H Q ⟨H0, F0, env, F, z, rl, ed, k⟩ => by
    obtain ⟨d, h1, ed⟩ := Option.bind_eq_some_iff.mp ed
    refine ⟨H0, F0, env, F, d, rl, h1, fun y F1 H1 g1 b1 => ?_⟩
    unfold kD at ed; split at ed
    · obtain ⟨v, h2, rfl⟩ := Option.map_eq_some_iff.mp ed
      obtain rfl := b1.int
      exact ⟨a, _, v, rfl, rfl, hK, h2, k _ F1 H1 g1 (.int _)⟩
    · cases ed
theorem kD_i {kvs : List (Int × Int)} {k v : Int} (h : kvs.lookup k = some v) : kD kvs (.int k) = some (.int v) := by
  show (kvs.lookup k).map _ = _
  rw [h]; rfl
/-! ### the hook with the constants -/
def cOk (K : PySem.W.Frag) (c : Str × List (Int × Int)) : Bool := (match PySem.W.nsIn K mainGlobals c.1 with
  | some (some (.ref a)) => (match K.lookup a with
    | some o => decide (o.cls = .type "dict") && (o.dict.isNone && (o.slots.isEmpty && (match o.data with
      | .dict es _ => entsOk es.toList c.2
      | _ => false)))
    | none => false)
  | _ => false)
def csOk (cs : List (Str × List (Int × Int))) (K : PySem.W.Frag) : Bool := cs.all (cOk K)
theorem cOk_spec {K : PySem.W.Frag} {h : Heap} {mg : Str → Option Value} (X : K.In h) (G : h.Ns mainGlobals mg) {x : Str} {kvs : List (Int × Int)} (c : cOk K (x, kvs) = true) : ConstOk K mg x kvs := by
  unfold cOk at c
  split at c
  · rename_i a hn
    split at c
    · rename_i o ho
      simp only [Bool.and_eq_true, decide_eq_true_eq] at c
      obtain ⟨c1, c2, c3, c4⟩ := c
      obtain ⟨oc, od, dt, osl⟩ := o
      simp only at c1 c2 c3 c4
      cases dt with
      | dict es n =>
        have e2 : od = none := by cases od with
          | none => rfl
          | some _ => cases c2
        have e3 : osl = #[] := by
          have : osl.isEmpty = true := c3
          rwa [Array.isEmpty_iff] at this
        subst c1 e2 e3
        exact ⟨a, PySem.W.mg_of X G hn, es, n, ho, c4⟩
      | _ => cases c4
    · cases c
  · cases c
def hookC (n : Nat) (fa : List He.Fa) (fn : List He.DefD) (cs : List (Str × List (Int × Int))) : PySem.W.Hook where
  α := He.AlD × Bool
  obs := fun s => (He.obsDG n fa fn s.heap.get?, csOk cs (He.frG s.heap.get? (He.asD s.heap.get? n)))
  val := fun _ => (He.valD fn, true)
  says := fun _ h => ∃ K : PySem.W.Frag, K.In h ∧ He.SaysD fa fn K ∧ csOk cs K = true
  of := fun _ _ e => ⟨_, He.frG_in, congrArg Prod.fst e, congrArg Prod.snd e⟩
  keeps := fun _ _ _ ⟨K, hK, c⟩ k => ⟨K, PySem.W.Frag.In.keeps hK k, c⟩
def obsC (n : Nat) (fa : List He.Fa) (fn : List He.DefD) (cs : List (Str × List (Int × Int))) (g : Addr → Option Obj) : He.AlD × Bool := (He.obsDG n fa fn g, csOk cs (He.frG g (He.asD g n)))
theorem obsC_eq {n : Nat} {fa : List He.Fa} {fn : List He.DefD} {cs : List (Str × List (Int × Int))} {g : Addr → Option Obj} {s : Shared} (h : ∀ a, g a = s.heap.get? a) : obsC n fa fn cs g = (hookC n fa fn cs).obs s := by
  have e : g = s.heap.get? := funext h
  rw [e] <;> rfl
end PV
end

section
set_option maxRecDepth 100000
set_option maxHeartbeats 4000000
namespace K55
open PySem PySem.Spec PyProof.Rows L2 PV PVL
def topS (i : Nat) : Stmt := PySem.Challenge.pw_soundsjoined_k55_whole_echoes_turned.main.body.getD i (.Pass ⟨0, 0, 0, 0⟩)
abbrev s_echo_of : Stmt := topS 2
abbrev N_echo_of : List Str := ["signs", "n", "far", "place"]
theorem sc_echo_of : FnScope N_echo_of ["signs"] (defScope s_echo_of) := ⟨rfl, rfl, rfl, by decide +kernel, rfl, by decide +kernel, by decide +kernel⟩
abbrev s_round_echo : Stmt := topS 3
abbrev N_round_echo : List Str := ["signs", "n", "far", "place"]
theorem sc_round_echo : FnScope N_round_echo ["signs"] (defScope s_round_echo) := ⟨rfl, rfl, rfl, by decide +kernel, rfl, by decide +kernel, by decide +kernel⟩
abbrev s_is_quiet : Stmt := topS 4
abbrev N_is_quiet : List Str := ["signs", "part"]
theorem sc_is_quiet : FnScope N_is_quiet ["signs"] (defScope s_is_quiet) := ⟨rfl, rfl, rfl, by decide +kernel, rfl, by decide +kernel, by decide +kernel⟩
abbrev s_quiet_signs : Stmt := topS 5
abbrev N_quiet_signs : List Str := ["n", "rows", "_", "row", "sign"]
theorem sc_quiet_signs : FnScope N_quiet_signs ["n"] (defScope s_quiet_signs) := ⟨rfl, rfl, rfl, by decide +kernel, rfl, by decide +kernel, by decide +kernel⟩
abbrev s_shift_signs : Stmt := topS 6
abbrev N_shift_signs : List Str := ["n", "row", "digit"]
theorem sc_shift_signs : FnScope N_shift_signs ["n"] (defScope s_shift_signs) := ⟨rfl, rfl, rfl, by decide +kernel, rfl, by decide +kernel, by decide +kernel⟩
abbrev s__law_mixed : Stmt := topS 8
abbrev N__law_mixed : List Str := ["script", "k", "cell", "first", "second", "third"]
theorem sc__law_mixed : FnScope N__law_mixed ["script", "k"] (defScope s__law_mixed) := ⟨rfl, rfl, rfl, by decide +kernel, rfl, by decide +kernel, by decide +kernel⟩
abbrev s__law_row : Stmt := topS 9
abbrev N__law_row : List Str := ["script", "many", "big", "row", "k"]
theorem sc__law_row : FnScope N__law_row ["script", "many"] (defScope s__law_row) := ⟨rfl, rfl, rfl, by decide +kernel, rfl, by decide +kernel, by decide +kernel⟩
abbrev s__law_is_int : Stmt := topS 10
abbrev N__law_is_int : List Str := ["value"]
theorem sc__law_is_int : FnScope N__law_is_int ["value"] (defScope s__law_is_int) := ⟨rfl, rfl, rfl, by decide +kernel, rfl, by decide +kernel, by decide +kernel⟩
abbrev s__law_like : Stmt := topS 11
abbrev N__law_like : List Str := ["value", "due", "k"]
theorem sc__law_like : FnScope N__law_like ["value", "due"] (defScope s__law_like) := ⟨rfl, rfl, rfl, by decide +kernel, rfl, by decide +kernel, by decide +kernel⟩
abbrev s__law_turns : Stmt := topS 12
abbrev N__law_turns : List Str := ["signs", "k"]
theorem sc__law_turns : FnScope N__law_turns ["signs"] (defScope s__law_turns) := ⟨rfl, rfl, rfl, by decide +kernel, rfl, by decide +kernel, by decide +kernel⟩
abbrev s__law_echo_right : Stmt := topS 13
abbrev N__law_echo_right : List Str := ["signs", "by", "told", "n", "over", "mixed", "whole", "turned", "quiet", "k", "one", "sign"]
theorem sc__law_echo_right : FnScope N__law_echo_right ["signs", "by"] (defScope s__law_echo_right) := ⟨rfl, rfl, rfl, by decide +kernel, rfl, by decide +kernel, by decide +kernel⟩
abbrev s_law : Stmt := topS 14
abbrev N_law : List Str := ["script", "row", "n", "signs", "k", "m", "told", "shift", "size", "turns", "by", "j"]
theorem sc_law : FnScope N_law ["script"] (defScope s_law) := ⟨rfl, rfl, rfl, by decide +kernel, rfl, by decide +kernel, by decide +kernel⟩
/-- the defs as they stand -/
structure Defs (K : PySem.W.Frag) (mg : Str → Option Value) : Prop where
  f_echo_of : FnS K mg "echo_of" s_echo_of
  f_round_echo : FnS K mg "round_echo" s_round_echo
  f_is_quiet : FnS K mg "is_quiet" s_is_quiet
  f_quiet_signs : FnS K mg "quiet_signs" s_quiet_signs
  f_shift_signs : FnS K mg "shift_signs" s_shift_signs
  f__law_mixed : FnS K mg "_law_mixed" s__law_mixed
  f__law_row : FnS K mg "_law_row" s__law_row
  f__law_is_int : FnS K mg "_law_is_int" s__law_is_int
  f__law_like : FnS K mg "_law_like" s__law_like
  f__law_turns : FnS K mg "_law_turns" s__law_turns
  f__law_echo_right : FnS K mg "_law_echo_right" s__law_echo_right
  f_law : FnS K mg "law" s_law
def k_SHIFTS : List (Int × Int) := [(2, 1), (3, 2), (4, 3), (5, 3)]
structure Consts (K : PySem.W.Frag) (mg : Str → Option Value) : Prop where
  c_SHIFTS : ConstOk K mg "SHIFTS" k_SHIFTS
def den_echo_of : Ev → Option Out :=
  sSeq (sSet 1 (xV (eA lenD (aCons (eVar 0) aNil)))) <|
  sRet (eA tupOfD (aCons (eLst (nLc [2] (nA rg1 (aCons (eVar 1) aNil)) (gN 2) tTrue (eA sumD (aCons (eLst (nLc [3] (nA rg1 (aCons (e2 subD (eVar 1) (eVar 2)) aNil)) (gN 3) tTrue (e2 mulD (e2 ixD (eVar 0) (eVar 3)) (e2 ixD (eVar 0) (e2 addD (eVar 3) (eVar 2)))))) aNil)))) aNil))
def F_echo_of : List D → Option D := runD 4 1 den_echo_of
theorem ok_echo_of {P : Program} {w : World} {K : PySem.W.Frag} {mg : Str → Option Value} {base : Heap} (Df : Defs K mg) (T : Std mg) (Ks : Consts K mg) : FnG P w K mg base 1 "echo_of" ["signs"] F_echo_of :=
  fng (k := 0) Df.f_echo_of sc_echo_of (fun f fd F => F.bindsN fun _ _ _ _ _ _ us hl => match us, hl with | [_], _ => rfl) rfl fun f cdv A outer s0 H E hr => by
    have nd := sc_echo_of.nd
    refine vs_cons ?_ ?_
    refine vs_set 1 nd ?_
    refine PE.xv ?_
    refine vcall (c_len) T.len bb_len ?_
    refine vab_cons ?_ ?_
    refine PE.toB (ve 0)
    refine vab_nil
    refine vs_one ?_
    refine vs_ret ?_
    refine vty c_tup T.tuple bb_tuple ?_
    refine vab_cons ?_ ?_
    refine PE.nB ?_
    refine vlc (is := [2]) [("far", 2)] [2] rfl nd ?_ ?_ ?_ ?_ ?_
    refine vi_rg1 ?_ T.range
    refine vab_cons ?_ ?_
    refine PE.toB (ve 1)
    refine vab_nil
    refine blkOk_by (by kernel_rfl)
    intro _ _ _ _ _
    refine vg 2 nd
    intro _ _ _ _ _
    refine vts_nil
    intro _ _ _ _ _
    refine vcall (c_sum rfl) T.sum bb_sum ?_
    refine vab_cons ?_ ?_
    refine PE.nB ?_
    refine vlc (is := [3]) [("place", 3)] [3] rfl nd ?_ ?_ ?_ ?_ ?_
    refine vi_rg1 ?_ T.range
    refine vab_cons ?_ ?_
    refine PE.toB ?_
    refine vop o_sub ?_ ?_
    refine PE.toB (ve 1)
    refine PE.toB (ve 2)
    refine vab_nil
    refine blkOk_by (by kernel_rfl)
    intro _ _ _ _ _
    refine vg 3 nd
    intro _ _ _ _ _
    refine vts_nil
    intro _ _ _ _ _
    refine vop o_mul ?_ ?_
    refine PE.toB ?_
    refine vix i_ix ?_ ?_
    refine PE.toB (ve 0)
    refine PE.toB (ve 3)
    refine PE.toB ?_
    refine vix i_ix ?_ ?_
    refine PE.toB (ve 0)
    refine PE.toB ?_
    refine vop o_add ?_ ?_
    refine PE.toB (ve 3)
    refine PE.toB (ve 2)
    refine vab_nil
    refine vab_nil
def den_round_echo : Ev → Option Out :=
  sSeq (sSet 1 (xV (eA lenD (aCons (eVar 0) aNil)))) <|
  sRet (eA tupOfD (aCons (eLst (nLc [2] (nA rg1 (aCons (eVar 1) aNil)) (gN 2) tTrue (eA sumD (aCons (eLst (nLc [3] (nA rg1 (aCons (eVar 1) aNil)) (gN 3) tTrue (e2 mulD (e2 ixD (eVar 0) (eVar 3)) (e2 ixD (eVar 0) (e2 modD (e2 addD (eVar 3) (eVar 2)) (eVar 1)))))) aNil)))) aNil))
def F_round_echo : List D → Option D := runD 4 1 den_round_echo
theorem ok_round_echo {P : Program} {w : World} {K : PySem.W.Frag} {mg : Str → Option Value} {base : Heap} (Df : Defs K mg) (T : Std mg) (Ks : Consts K mg) : FnG P w K mg base 1 "round_echo" ["signs"] F_round_echo :=
  fng (k := 0) Df.f_round_echo sc_round_echo (fun f fd F => F.bindsN fun _ _ _ _ _ _ us hl => match us, hl with | [_], _ => rfl) rfl fun f cdv A outer s0 H E hr => by
    have nd := sc_round_echo.nd
    refine vs_cons ?_ ?_
    refine vs_set 1 nd ?_
    refine PE.xv ?_
    refine vcall (c_len) T.len bb_len ?_
    refine vab_cons ?_ ?_
    refine PE.toB (ve 0)
    refine vab_nil
    refine vs_one ?_
    refine vs_ret ?_
    refine vty c_tup T.tuple bb_tuple ?_
    refine vab_cons ?_ ?_
    refine PE.nB ?_
    refine vlc (is := [2]) [("far", 2)] [2] rfl nd ?_ ?_ ?_ ?_ ?_
    refine vi_rg1 ?_ T.range
    refine vab_cons ?_ ?_
    refine PE.toB (ve 1)
    refine vab_nil
    refine blkOk_by (by kernel_rfl)
    intro _ _ _ _ _
    refine vg 2 nd
    intro _ _ _ _ _
    refine vts_nil
    intro _ _ _ _ _
    refine vcall (c_sum rfl) T.sum bb_sum ?_
    refine vab_cons ?_ ?_
    refine PE.nB ?_
    refine vlc (is := [3]) [("place", 3)] [3] rfl nd ?_ ?_ ?_ ?_ ?_
    refine vi_rg1 ?_ T.range
    refine vab_cons ?_ ?_
    refine PE.toB (ve 1)
    refine vab_nil
    refine blkOk_by (by kernel_rfl)
    intro _ _ _ _ _
    refine vg 3 nd
    intro _ _ _ _ _
    refine vts_nil
    intro _ _ _ _ _
    refine vop o_mul ?_ ?_
    refine PE.toB ?_
    refine vix i_ix ?_ ?_
    refine PE.toB (ve 0)
    refine PE.toB (ve 3)
    refine PE.toB ?_
    refine vix i_ix ?_ ?_
    refine PE.toB (ve 0)
    refine PE.toB ?_
    refine vop o_mod ?_ ?_
    refine PE.toB ?_
    refine vop o_add ?_ ?_
    refine PE.toB (ve 3)
    refine PE.toB (ve 2)
    refine PE.toB (ve 1)
    refine vab_nil
    refine vab_nil
def den_is_quiet : Ev → Option Out :=
  sRet (eA allD (aCons (eLst (nLc [1] (iSeq (eSl slD (eA F_echo_of (aCons (eVar 0) aNil)) (pI (eC (.int 1))) pN)) (gN 1) tTrue (e2 ltD (eA absD (aCons (eVar 1) aNil)) (eC (.int 2))))) aNil))
def F_is_quiet : List D → Option D := runD 2 1 den_is_quiet
theorem ok_is_quiet {P : Program} {w : World} {K : PySem.W.Frag} {mg : Str → Option Value} {base : Heap} (Df : Defs K mg) (T : Std mg) (Ks : Consts K mg) : FnG P w K mg base 2 "is_quiet" ["signs"] F_is_quiet :=
  fng (k := 1) Df.f_is_quiet sc_is_quiet (fun f fd F => F.bindsN fun _ _ _ _ _ _ us hl => match us, hl with | [_], _ => rfl) rfl fun f cdv A outer s0 H E hr => by
    have nd := sc_is_quiet.nd
    refine vs_one ?_
    refine vs_ret ?_
    refine vcall (c_all rfl) T.all bb_all ?_
    refine vab_cons ?_ ?_
    refine PE.nB ?_
    refine vlc (is := [1]) [("part", 1)] [1] rfl nd ?_ ?_ ?_ ?_ ?_
    refine vi_seq ?_
    refine vslice s_sl ?_ ?_ ?_
    refine PE.toB ?_
    refine vcl (ok_echo_of Df T Ks) hr ?_
    refine va_cons ?_ ?_
    refine ve 0
    refine va_nil
    refine vp_some ?_
    refine vc_int
    refine vp_none
    refine blkOk_by (by kernel_rfl)
    intro _ _ _ _ _
    refine vg 1 nd
    intro _ _ _ _ _
    refine vts_nil
    intro _ _ _ _ _
    refine vcmp (o_lt) ?_ ?_
    refine PE.toB ?_
    refine vcall (c_abs) T.abs bb_abs ?_
    refine vab_cons ?_ ?_
    refine PE.toB (ve 1)
    refine vab_nil
    refine PE.toB ?_
    refine vc_int
    refine vab_nil
def den_quiet_signs : Ev → Option Out :=
  sSeq (sSet 1 (xV (eLst (nLst (aCons (eTup (aCons (eC (.int 1)) aNil)) aNil))))) <|
  sSeq (sFor [2, 3] (nA rg1 (aCons (e2 subD (eVar 0) (eC (.int 1))) aNil)) (gN 2) (
  sSet 1 (xN false (nLc2 [3, 4] (iSeq (eVar 1)) (gN 3) tTrue (iSeq (eTup (aCons (e1 negD (eC (.int 1))) (aCons (eC (.int 1)) aNil)))) [4] (gN 4) tTrue (e2 addD (eVar 3) (eTup (aCons (eVar 4) aNil))))))) <|
  sSeq (sFor [3] (iSeq (eVar 1)) (gN 3) (
  sIf (t1 truD (eA F_is_quiet (aCons (eVar 3) aNil))) (sRet (eVar 3)) sNil)) <|
  sRet (eC .none)
def F_quiet_signs : List D → Option D := runD 5 1 den_quiet_signs
theorem ok_quiet_signs {P : Program} {w : World} {K : PySem.W.Frag} {mg : Str → Option Value} {base : Heap} (Df : Defs K mg) (T : Std mg) (Ks : Consts K mg) : FnG P w K mg base 3 "quiet_signs" ["n"] F_quiet_signs :=
  fng (k := 2) Df.f_quiet_signs sc_quiet_signs (fun f fd F => F.bindsN fun _ _ _ _ _ _ us hl => match us, hl with | [_], _ => rfl) rfl fun f cdv A outer s0 H E hr => by
    have nd := sc_quiet_signs.nd
    refine vs_cons ?_ ?_
    refine vs_set 1 nd ?_
    refine PE.xv ?_
    refine PE.ofN ?_
    refine vlst ?_
    refine va_cons ?_ ?_
    refine vtup ?_
    refine va_cons ?_ ?_
    refine vc_int
    refine va_nil
    refine va_nil
    refine vs_cons ?_ ?_
    refine vs_for (ks := [2]) [2, 3] PassesOwn.never rfl ?_ ?_ ?_
    refine vi_rg1 ?_ T.range
    refine vab_cons ?_ ?_
    refine PE.toB ?_
    refine vop o_sub ?_ ?_
    refine PE.toB (ve 0)
    refine PE.toB ?_
    refine vc_int
    refine vab_nil
    refine vg 2 nd
    refine vs_one ?_
    refine vs_setLc2 (is := [3]) (is1 := [4]) [("row", 3), ("sign", 4)] [3, 4] 1 false [4] rfl nd ?_ ?_ ?_ ?_ ?_ ?_ ?_ ?_
    refine vi_seq ?_
    refine ve 1
    refine blkOk_by (by kernel_rfl)
    intro _ _ _ _ _
    refine vg 3 nd
    intro _ _ _ _ _
    refine vts_nil
    intro _ _ _ _ _
    refine vi_seq ?_
    refine vtup ?_
    refine va_cons ?_ ?_
    refine vun o_neg ?_
    refine PE.toB ?_
    refine vc_int
    refine va_cons ?_ ?_
    refine vc_int
    refine va_nil
    intro _ _ _ _ _
    refine vg 4 nd
    intro _ _ _ _ _
    refine vts_nil
    intro _ _ _ _ _
    refine vop o_add ?_ ?_
    refine PE.toB (ve 3)
    refine PE.toB ?_
    refine vtup ?_
    refine va_cons ?_ ?_
    refine ve 4
    refine va_nil
    refine vs_cons ?_ ?_
    refine vs_for (ks := [3]) [3] PassesOwn.never rfl ?_ ?_ ?_
    refine vi_seq ?_
    refine ve 1
    refine vg 3 nd
    refine vs_one ?_
    refine vs_if ?_ ?_ ?_
    refine vtru ?_
    refine PE.toB ?_
    refine vcl (ok_is_quiet Df T Ks) hr ?_
    refine va_cons ?_ ?_
    refine ve 3
    refine va_nil
    refine vs_one ?_
    refine vs_ret ?_
    refine ve 3
    refine vs_nil
    refine vs_one ?_
    refine vs_ret ?_
    refine vc_non
-- shift_signs: freeze row at line 23
def den_shift_signs : Ev → Option Out :=
  sSeq (sSet 1 (xO (n2 catLD (eLst (n2 repLD (eLst (nLst (aCons (eC (.int 0)) aNil))) (e2 subD (eVar 0) (eC (.int 1))))) (eLst (nLst (aCons (eC (.int 1)) aNil)))))) <|
  sSeq (sWhile 1000000 [] (t1 isB (e2 ltD (eA lenD (aCons (bVar 1) aNil)) (e2 subD (e2 shlD (eC (.int 1)) (eVar 0)) (eC (.int 1))))) (
  sApp 1 (e2 modD (e2 addD (e2 ixD (bVar 1) (e1 negD (eVar 0))) (e2 ixD (bVar 1) (e1 negD (e1 (kD k_SHIFTS) (eVar 0))))) (eC (.int 2))))) <|
  sPre (fun env => frz env 1) (sRet (eA tupOfD (aCons (eLst (nLc [2] (iSeq (eVar 1)) (gN 2) tTrue (e2 subD (eC (.int 1)) (e2 mulD (eC (.int 2)) (eVar 2))))) aNil)))
def F_shift_signs : List D → Option D := runD 3 1 den_shift_signs
theorem ok_shift_signs {P : Program} {w : World} {K : PySem.W.Frag} {mg : Str → Option Value} {base : Heap} (Df : Defs K mg) (T : Std mg) (Ks : Consts K mg) : FnG P w K mg base 1 "shift_signs" ["n"] F_shift_signs :=
  fng (k := 0) Df.f_shift_signs sc_shift_signs (fun f fd F => F.bindsN fun _ _ _ _ _ _ us hl => match us, hl with | [_], _ => rfl) rfl fun f cdv A outer s0 H E hr => by
    have nd := sc_shift_signs.nd
    refine vs_cons ?_ ?_
    refine vs_set 1 nd ?_
    refine PE.xo ?_
    refine vopN on_cat ?_ ?_
    refine PE.nB ?_
    refine vopN on_rep ?_ ?_
    refine PE.nB ?_
    refine vlst ?_
    refine va_cons ?_ ?_
    refine vc_int
    refine va_nil
    refine PE.toB ?_
    refine vop o_sub ?_ ?_
    refine PE.toB (ve 0)
    refine PE.toB ?_
    refine vc_int
    refine PE.nB ?_
    refine vlst ?_
    refine va_cons ?_ ?_
    refine vc_int
    refine va_nil
    refine vs_cons ?_ ?_
    refine vs_while 1000000 [] PassesOwn.never ?_ ?_
    refine vcmpT (o_lt) ?_ ?_
    refine PE.toB ?_
    refine vcall (c_len) T.len bb_len ?_
    refine vab_cons ?_ ?_
    refine vb 1
    refine vab_nil
    refine PE.toB ?_
    refine vop o_sub ?_ ?_
    refine PE.toB ?_
    refine vop o_shl ?_ ?_
    refine PE.toB ?_
    refine vc_int
    refine PE.toB (ve 0)
    refine PE.toB ?_
    refine vc_int
    refine vs_one ?_
    refine vs_app 1 ?_
    refine vop o_mod ?_ ?_
    refine PE.toB ?_
    refine vop o_add ?_ ?_
    refine PE.toB ?_
    refine vix i_ix ?_ ?_
    refine vb 1
    refine PE.toB ?_
    refine vun o_neg ?_
    refine PE.toB (ve 0)
    refine PE.toB ?_
    refine vix i_ix ?_ ?_
    refine vb 1
    refine PE.toB ?_
    refine vun o_neg ?_
    refine PE.toB ?_
    refine vk Ks.c_SHIFTS ?_
    refine PE.toB (ve 0)
    refine PE.toB ?_
    refine vc_int
    refine vs_one ?_
    refine vs_frz 1 ?_
    refine vs_ret ?_
    refine vty c_tup T.tuple bb_tuple ?_
    refine vab_cons ?_ ?_
    refine PE.nB ?_
    refine vlc (is := [2]) [("digit", 2)] [2] rfl nd ?_ ?_ ?_ ?_ ?_
    refine vi_seq ?_
    refine ve 1
    refine blkOk_by (by kernel_rfl)
    intro _ _ _ _ _
    refine vg 2 nd
    intro _ _ _ _ _
    refine vts_nil
    intro _ _ _ _ _
    refine vop o_sub ?_ ?_
    refine PE.toB ?_
    refine vc_int
    refine PE.toB ?_
    refine vop o_mul ?_ ?_
    refine PE.toB ?_
    refine vc_int
    refine PE.toB (ve 2)
    refine vab_nil
theorem ok__law_mixed {P : Program} {w : World} {K : PySem.W.Frag} {mg : Str → Option Value} {base : Heap} (Df : Defs K mg) (T : Std mg) (Ks : Consts K mg) : FnG P w K mg base 1 "_law_mixed" ["script", "k"] F__law_mixed :=
  fng (k := 0) Df.f__law_mixed sc__law_mixed (fun f fd F => F.bindsN fun _ _ _ _ _ _ us hl => match us, hl with | [_, _], _ => rfl) rfl fun f cdv A outer s0 H E hr => by
    have nd := sc__law_mixed.nd
    refine vs_cons ?_ ?_
    refine vs_set 2 nd ?_
    refine PE.xv ?_
    refine vc_int
    refine vs_cons ?_ ?_
    refine vs_if ?_ ?_ ?_
    refine vcmpT (o_gt) ?_ ?_
    refine PE.toB ?_
    refine vcall (c_len) T.len bb_len ?_
    refine vab_cons ?_ ?_
    refine PE.toB (ve 0)
    refine vab_nil
    refine PE.toB ?_
    refine vc_int
    refine vs_one ?_
    refine vs_set 2 nd ?_
    refine PE.xv ?_
    refine vix i_ix ?_ ?_
    refine PE.toB (ve 0)
    refine PE.toB ?_
    refine vop o_mod ?_ ?_
    refine PE.toB (ve 1)
    refine PE.toB ?_
    refine vcall (c_len) T.len bb_len ?_
    refine vab_cons ?_ ?_
    refine PE.toB (ve 0)
    refine vab_nil
    refine vs_nil
    refine vs_cons ?_ ?_
    refine vs_set 3 nd ?_
    refine PE.xv ?_
    refine vop o_mod ?_ ?_
    refine PE.toB ?_
    refine vty c_int T.int bb_int ?_
    refine vab_cons ?_ ?_
    refine PE.toB ?_
    refine vop o_add ?_ ?_
    refine PE.toB ?_
    refine vop o_add ?_ ?_
    refine PE.toB ?_
    refine vop o_mul ?_ ?_
    refine PE.toB (ve 2)
    refine PE.toB ?_
    refine vc_int
    refine PE.toB ?_
    refine vop o_mul ?_ ?_
    refine PE.toB (ve 1)
    refine PE.toB ?_
    refine vc_int
    refine PE.toB ?_
    refine vc_int
    refine vab_nil
    refine PE.toB ?_
    refine vc_int
    refine vs_cons ?_ ?_
    refine vs_set 4 nd ?_
    refine PE.xv ?_
    refine vop o_mod ?_ ?_
    refine PE.toB ?_
    refine vty c_int T.int bb_int ?_
    refine vab_cons ?_ ?_
    refine PE.toB ?_
    refine vop o_add ?_ ?_
    refine PE.toB ?_
    refine vop o_add ?_ ?_
    refine PE.toB ?_
    refine vop o_mul ?_ ?_
    refine PE.toB (ve 3)
    refine PE.toB (ve 3)
    refine PE.toB ?_
    refine vop o_fdiv ?_ ?_
    refine PE.toB (ve 3)
    refine PE.toB ?_
    refine vc_int
    refine PE.toB ?_
    refine vop o_mul ?_ ?_
    refine PE.toB (ve 1)
    refine PE.toB ?_
    refine vc_int
    refine vab_nil
    refine PE.toB ?_
    refine vc_int
    refine vs_cons ?_ ?_
    refine vs_set 5 nd ?_
    refine PE.xv ?_
    refine vop o_mod ?_ ?_
    refine PE.toB ?_
    refine vty c_int T.int bb_int ?_
    refine vab_cons ?_ ?_
    refine PE.toB ?_
    refine vop o_add ?_ ?_
    refine PE.toB ?_
    refine vop o_add ?_ ?_
    refine PE.toB ?_
    refine vop o_mul ?_ ?_
    refine PE.toB (ve 4)
    refine PE.toB (ve 4)
    refine PE.toB ?_
    refine vop o_fdiv ?_ ?_
    refine PE.toB (ve 4)
    refine PE.toB ?_
    refine vc_int
    refine PE.toB ?_
    refine vc_int
    refine vab_nil
    refine PE.toB ?_
    refine vc_int
    refine vs_one ?_
    refine vs_ret ?_
    refine vop o_mod ?_ ?_
    refine PE.toB ?_
    refine vop o_fdiv ?_ ?_
    refine PE.toB (ve 5)
    refine PE.toB ?_
    refine vc_int
    refine PE.toB ?_
    refine vc_int
-- _law_row: freeze row at line 44
theorem ok__law_row {P : Program} {w : World} {K : PySem.W.Frag} {mg : Str → Option Value} {base : Heap} (Df : Defs K mg) (T : Std mg) (Ks : Consts K mg) : FnG P w K mg base 2 "_law_row" ["script", "many"] F__law_row :=
  fng (k := 1) Df.f__law_row sc__law_row (fun f fd F => F.bindsN fun _ _ _ _ _ _ us hl => match us, hl with | [_, _], _ => rfl) rfl fun f cdv A outer s0 H E hr => by
    have nd := sc__law_row.nd
    refine vs_cons ?_ ?_
    refine vs_set 2 nd ?_
    refine PE.xv ?_
    refine vc_int
    refine vs_cons ?_ ?_
    refine vs_if ?_ ?_ ?_
    refine PW.pt ?_
    refine vw_and ?_ ?_
    refine vcmpT (o_gt) ?_ ?_
    refine PE.toB ?_
    refine vcall (c_len) T.len bb_len ?_
    refine vab_cons ?_ ?_
    refine PE.toB (ve 0)
    refine vab_nil
    refine PE.toB ?_
    refine vc_int
    refine vw_and1 ?_
    refine vcmpT (o_ge) ?_ ?_
    refine PE.toB ?_
    refine vix i_ix ?_ ?_
    refine PE.toB (ve 0)
    refine PE.toB ?_
    refine vc_int
    refine PE.toB ?_
    refine vop o_pow ?_ ?_
    refine PE.toB ?_
    refine vc_int
    refine PE.toB ?_
    refine vc_int
    refine vs_one ?_
    refine vs_set 2 nd ?_
    refine PE.xv ?_
    refine vix i_ix ?_ ?_
    refine PE.toB (ve 0)
    refine PE.toB ?_
    refine vc_int
    refine vs_nil
    refine vs_cons ?_ ?_
    refine vs_set 3 nd ?_
    refine PE.xo ?_
    refine vlst ?_
    refine va_nil
    refine vs_cons ?_ ?_
    refine vs_for (ks := [4]) [4] PassesOwn.never rfl ?_ ?_ ?_
    refine vi_rg1 ?_ T.range
    refine vab_cons ?_ ?_
    refine PE.toB (ve 1)
    refine vab_nil
    refine vg 4 nd
    refine vs_one ?_
    refine vs_if ?_ ?_ ?_
    refine vcmpT (o_gt) ?_ ?_
    refine PE.toB (ve 2)
    refine PE.toB ?_
    refine vc_int
    refine vs_cons ?_ ?_
    refine vs_app 3 ?_
    refine vop o_mod ?_ ?_
    refine PE.toB ?_
    refine vty c_int T.int bb_int ?_
    refine vab_cons ?_ ?_
    refine PE.toB (ve 2)
    refine vab_nil
    refine PE.toB ?_
    refine vc_int
    refine vs_one ?_
    refine vs_set 2 nd ?_
    refine PE.xv ?_
    refine vop o_fdiv ?_ ?_
    refine PE.toB (ve 2)
    refine PE.toB ?_
    refine vc_int
    refine vs_one ?_
    refine vs_app 3 ?_
    refine vcl (ok__law_mixed Df T Ks) hr ?_
    refine va_cons ?_ ?_
    refine ve 0
    refine va_cons ?_ ?_
    refine ve 4
    refine va_nil
    refine vs_one ?_
    refine vs_frz 3 ?_
    refine vs_ret ?_
    refine ve 3
theorem ok__law_is_int {P : Program} {w : World} {K : PySem.W.Frag} {mg : Str → Option Value} {base : Heap} (Df : Defs K mg) (T : Std mg) (Ks : Consts K mg) : FnG P w K mg base 1 "_law_is_int" ["value"] F__law_is_int :=
  fng (k := 0) Df.f__law_is_int sc__law_is_int (fun f fd F => F.bindsN fun _ _ _ _ _ _ us hl => match us, hl with | [_], _ => rfl) rfl fun f cdv A outer s0 H E hr => by
    have nd := sc__law_is_int.nd
    refine vs_one ?_
    refine vs_ret ?_
    refine ve_and ?_ ?_
    refine vis ?_ T.isinstance T.«int» bb_int
    refine PE.toB (ve 0)
    refine ve_one ?_
    refine ve_not ?_
    refine PE.toB ?_
    refine vis ?_ T.isinstance T.«bool» bb_bool
    refine PE.toB (ve 0)
theorem ok__law_like {P : Program} {w : World} {K : PySem.W.Frag} {mg : Str → Option Value} {base : Heap} (Df : Defs K mg) (T : Std mg) (Ks : Consts K mg) : ∀ n, FnG P w K mg base (1 + 1 + n) "_law_like" ["value", "due"] (F__law_like n)
  | 0 => fng_none Df.f__law_like (fun f fd F => F.bindsN fun _ _ _ _ _ _ us hl => match us, hl with | [_, _], _ => rfl) _
  | n + 1 => fng (k := 1 + 1 + n) Df.f__law_like sc__law_like (fun f fd F => F.bindsN fun _ _ _ _ _ _ us hl => match us, hl with | [_, _], _ => rfl) rfl fun f cdv A outer s0 H E hr => by
    have Gs : FnG P w K mg base (1 + 1 + n) "_law_like" ["value", "due"] (F__law_like n) := ok__law_like Df T Ks n
    have nd := sc__law_like.nd
    refine vs_cons ?_ ?_
    refine vs_if ?_ ?_ ?_
    refine vcmpT (o_is) ?_ ?_
    refine PE.toB (ve 1)
    refine PE.toB ?_
    refine vc_non
    refine vs_one ?_
    refine vs_ret ?_
    refine vcmp (o_is) ?_ ?_
    refine PE.toB (ve 0)
    refine PE.toB ?_
    refine vc_non
    refine vs_nil
    refine vs_cons ?_ ?_
    refine vs_if ?_ ?_ ?_
    refine vtru ?_
    refine PE.toB ?_
    refine vis ?_ T.isinstance T.«bool» bb_bool
    refine PE.toB (ve 1)
    refine vs_one ?_
    refine vs_ret ?_
    refine ve_and ?_ ?_
    refine vis ?_ T.isinstance T.«bool» bb_bool
    refine PE.toB (ve 0)
    refine ve_one ?_
    refine vcmp (o_eq hr) ?_ ?_
    refine PE.toB (ve 0)
    refine PE.toB (ve 1)
    refine vs_nil
    refine vs_cons ?_ ?_
    refine vs_if ?_ ?_ ?_
    refine vtru ?_
    refine PE.toB ?_
    refine vis ?_ T.isinstance T.«tuple» bb_tuple
    refine PE.toB (ve 1)
    refine vs_cons ?_ ?_
    refine vs_if ?_ ?_ ?_
    refine PW.pt ?_
    refine vw_or ?_ ?_
    refine vt_not ?_
    refine vtru ?_
    refine PE.toB ?_
    refine vis ?_ T.isinstance T.«tuple» bb_tuple
    refine PE.toB (ve 0)
    refine vw_or1 ?_
    refine vcmpT (o_ne hr) ?_ ?_
    refine PE.toB ?_
    refine vcall (c_len) T.len bb_len ?_
    refine vab_cons ?_ ?_
    refine PE.toB (ve 0)
    refine vab_nil
    refine PE.toB ?_
    refine vcall (c_len) T.len bb_len ?_
    refine vab_cons ?_ ?_
    refine PE.toB (ve 1)
    refine vab_nil
    refine vs_one ?_
    refine vs_ret ?_
    refine vc_bl
    refine vs_nil
    refine vs_one ?_
    refine vs_ret ?_
    refine vcall (c_all rfl) T.all bb_all ?_
    refine vab_cons ?_ ?_
    refine PE.nB ?_
    refine vlc (is := [2]) [("k", 2)] [2] rfl nd ?_ ?_ ?_ ?_ ?_
    refine vi_rg1 ?_ T.range
    refine vab_cons ?_ ?_
    refine PE.toB ?_
    refine vcall (c_len) T.len bb_len ?_
    refine vab_cons ?_ ?_
    refine PE.toB (ve 1)
    refine vab_nil
    refine vab_nil
    refine blkOk_by (by kernel_rfl)
    intro _ _ _ _ _
    refine vg 2 nd
    intro _ _ _ _ _
    refine vts_nil
    intro _ _ _ _ _
    refine vcl Gs hr ?_ (hkj := by omega)
    refine va_cons ?_ ?_
    refine vix i_ix ?_ ?_
    refine PE.toB (ve 0)
    refine PE.toB (ve 2)
    refine va_cons ?_ ?_
    refine vix i_ix ?_ ?_
    refine PE.toB (ve 1)
    refine PE.toB (ve 2)
    refine va_nil
    refine vab_nil
    refine vs_nil
    refine vs_cons ?_ ?_
    refine vs_if ?_ ?_ ?_
    refine vtru ?_
    refine PE.toB ?_
    refine vis ?_ T.isinstance T.«str» bb_str
    refine PE.toB (ve 1)
    refine vs_one ?_
    refine vs_ret ?_
    refine ve_and ?_ ?_
    refine vis ?_ T.isinstance T.«str» bb_str
    refine PE.toB (ve 0)
    refine ve_one ?_
    refine vcmp (o_eq hr) ?_ ?_
    refine PE.toB (ve 0)
    refine PE.toB (ve 1)
    refine vs_nil
    refine vs_one ?_
    refine vs_ret ?_
    refine ve_and ?_ ?_
    refine vcl (ok__law_is_int Df T Ks) hr ?_ (hkj := by omega)
    refine va_cons ?_ ?_
    refine ve 0
    refine va_nil
    refine ve_one ?_
    refine vcmp (o_eq hr) ?_ ?_
    refine PE.toB (ve 0)
    refine PE.toB (ve 1)
def den__law_turns : Ev → Option Out :=
  sRet (eLst (nLc [1] (nA rg1 (aCons (eA lenD (aCons (eVar 0) aNil)) aNil)) (gN 1) tTrue (e2 addD (eSl slD (eVar 0) (pI (eVar 1)) pN) (eSl slD (eVar 0) pN (pI (eVar 1))))))
def F__law_turns : List D → Option D := runD 2 1 den__law_turns
theorem ok__law_turns {P : Program} {w : World} {K : PySem.W.Frag} {mg : Str → Option Value} {base : Heap} (Df : Defs K mg) (T : Std mg) (Ks : Consts K mg) : FnG P w K mg base 1 "_law_turns" ["signs"] F__law_turns :=
  fng (k := 0) Df.f__law_turns sc__law_turns (fun f fd F => F.bindsN fun _ _ _ _ _ _ us hl => match us, hl with | [_], _ => rfl) rfl fun f cdv A outer s0 H E hr => by
    have nd := sc__law_turns.nd
    refine vs_one ?_
    refine vs_ret ?_
    refine PE.ofN ?_
    refine vlc (is := [1]) [("k", 1)] [1] rfl nd ?_ ?_ ?_ ?_ ?_
    refine vi_rg1 ?_ T.range
    refine vab_cons ?_ ?_
    refine PE.toB ?_
    refine vcall (c_len) T.len bb_len ?_
    refine vab_cons ?_ ?_
    refine PE.toB (ve 0)
    refine vab_nil
    refine vab_nil
    refine blkOk_by (by kernel_rfl)
    intro _ _ _ _ _
    refine vg 1 nd
    intro _ _ _ _ _
    refine vts_nil
    intro _ _ _ _ _
    refine vop o_add ?_ ?_
    refine PE.toB ?_
    refine vslice s_sl ?_ ?_ ?_
    refine PE.toB (ve 0)
    refine vp_some ?_
    refine ve 1
    refine vp_none
    refine PE.toB ?_
    refine vslice s_sl ?_ ?_ ?_
    refine PE.toB (ve 0)
    refine vp_none
    refine vp_some ?_
    refine ve 1
def den__law_echo_right : Ev → Option Out :=
  sSeq (sAsg (gLen 2 (gT (gsCons (gN 2) (gsCons (gN 3) gsNil)))) (eTup (aCons (eA F_echo_of (aCons (eVar 0) aNil)) (aCons (eA lenD (aCons (eVar 0) aNil)) aNil)))) <|
  sSeq (sIf (tOr' (tNo (t1 truD (e1 (isiD' "tuple") (eVar 2)))) (tOr' (t1 isB (e2 neD (eA lenD (aCons (eVar 2) aNil)) (eVar 3))) (tNo (t1 truD (eA allD (aCons (eLst (nLc [10] (iSeq (eVar 2)) (gN 10) tTrue (eA F__law_is_int (aCons (eVar 10) aNil)))) aNil)))))) (sRet (eC (.bool false))) sNil) <|
  sSeq (sIf (tOr' (t1 isB (e2 neD (e2 ixD (eVar 2) (eC (.int 0))) (eVar 3))) (t1 truD (eA anyD (aCons (eLst (nLc [9] (nA rg1 (aCons (eVar 3) aNil)) (gN 9) tTrue (e2 eqD (e2 modD (eA intD (aCons (e2 subD (e2 addD (e2 ixD (eVar 2) (eVar 9)) (eVar 3)) (eVar 9)) aNil)) (eC (.int 2))) (eC (.int 1))))) aNil)))) (sRet (eC (.bool false))) sNil) <|
  sSeq (sSet 4 (xV (eA tupOfD (aCons (eLst (nLc [11] (iSeq (eVar 0)) (gN 11) tTrue (e2 subD (eC (.int 0)) (eVar 11)))) aNil)))) <|
  sSeq (sIf (tNo (t1 truD (eA (F__law_like 12) (aCons (eTup (aCons (eA F_echo_of (aCons (eVar 4) aNil)) (aCons (eA F_echo_of (aCons (eSl (stepD (-1)) (eVar 0) pN pN) aNil)) aNil))) (aCons (eTup (aCons (eVar 2) (aCons (eVar 2) aNil))) aNil))))) (sRet (eC (.bool false))) sNil) <|
  sSeq (sSet 5 (xV (eA tupOfD (aCons (eLst (nLc [9] (nA rg1 (aCons (eVar 3) aNil)) (gN 9) tTrue (e2 mulD (e2 ixD (eTup (aCons (eC (.int 1)) (aCons (e1 negD (eC (.int 1))) aNil))) (e2 modD (eA intD (aCons (eVar 9) aNil)) (eC (.int 2)))) (e2 ixD (eVar 0) (eVar 9))))) aNil)))) <|
  sSeq (sIf (tNo (t1 truD (eA (F__law_like 12) (aCons (eA F_echo_of (aCons (eVar 5) aNil)) (aCons (eA tupOfD (aCons (eLst (nLc [9] (nA rg1 (aCons (eVar 3) aNil)) (gN 9) tTrue (e2 mulD (e2 ixD (eTup (aCons (eC (.int 1)) (aCons (e1 negD (eC (.int 1))) aNil))) (e2 modD (eA intD (aCons (eVar 9) aNil)) (eC (.int 2)))) (e2 ixD (eVar 2) (eVar 9))))) aNil)) aNil))))) (sRet (eC (.bool false))) sNil) <|
  sSeq (sSet 6 (xV (e2 addD (eTup (aCons (eVar 3) aNil)) (eA tupOfD (aCons (eLst (nLc [9] (nA rg2 (aCons (eC (.int 1)) (aCons (eVar 3) aNil))) (gN 9) tTrue (e2 addD (e2 ixD (eVar 2) (eVar 9)) (e2 ixD (eVar 2) (e2 subD (eVar 3) (eVar 9)))))) aNil))))) <|
  sSeq (sSet 7 (xV (e2 ixD (eA F__law_turns (aCons (eVar 0) aNil)) (eVar 1)))) <|
  sSeq (sIf (tOr' (tNo (t1 truD (eA (F__law_like 12) (aCons (eTup (aCons (eA F_round_echo (aCons (eVar 0) aNil)) (aCons (eA F_round_echo (aCons (eVar 7) aNil)) aNil))) (aCons (eTup (aCons (eVar 6) (aCons (eVar 6) aNil))) aNil))))) (t1 isB (e2 neD (eA sumD (aCons (eVar 6) aNil)) (e2 mulD (eA sumD (aCons (eVar 0) aNil)) (eA sumD (aCons (eVar 0) aNil)))))) (sRet (eC (.bool false))) sNil) <|
  sSeq (sSet 8 (xV (eA allD (aCons (eLst (nLc [10] (iSeq (eSl slD (eVar 2) (pI (eC (.int 1))) pN)) (gN 10) tTrue (e2 ltD (eA absD (aCons (eVar 10) aNil)) (eC (.int 2))))) aNil)))) <|
  sSeq (sSet 2 (xV (eTup (aCons (eA F_is_quiet (aCons (eVar 0) aNil)) (aCons (eA F_is_quiet (aCons (eVar 4) aNil)) (aCons (eA F_is_quiet (aCons (eSl (stepD (-1)) (eVar 0) pN pN) aNil)) (aCons (eA F_is_quiet (aCons (eVar 5) aNil)) aNil))))))) <|
  sRet (eA (F__law_like 12) (aCons (eVar 2) (aCons (eTup (aCons (eVar 8) (aCons (eVar 8) (aCons (eVar 8) (aCons (eVar 8) aNil))))) aNil)))
def F__law_echo_right : List D → Option D := runD 12 2 den__law_echo_right
theorem ok__law_echo_right {P : Program} {w : World} {K : PySem.W.Frag} {mg : Str → Option Value} {base : Heap} (Df : Defs K mg) (T : Std mg) (Ks : Consts K mg) : FnG P w K mg base 15 "_law_echo_right" ["signs", "by"] F__law_echo_right :=
  fng (k := 14) Df.f__law_echo_right sc__law_echo_right (fun f fd F => F.bindsN fun _ _ _ _ _ _ us hl => match us, hl with | [_, _], _ => rfl) rfl fun f cdv A outer s0 H E hr => by
    have nd := sc__law_echo_right.nd
    refine vs_cons ?_ ?_
    refine vs_asg (is := [2, 3]) ?_ ?_
    refine vtup ?_
    refine va_cons ?_ ?_
    refine vcl (ok_echo_of Df T Ks) hr ?_
    refine va_cons ?_ ?_
    refine ve 0
    refine va_nil
    refine va_cons ?_ ?_
    refine vcall (c_len) T.len bb_len ?_
    refine vab_cons ?_ ?_
    refine PE.toB (ve 0)
    refine vab_nil
    refine va_nil
    refine vgt (is := [2, 3]) rfl ?_
    refine vgs_cons (is := [2]) (js := [3]) ?_ ?_
    refine vg 2 nd
    refine vgs_cons (is := [3]) (js := []) ?_ ?_
    refine vg 3 nd
    refine vgs_nil
    refine vs_cons ?_ ?_
    refine vs_if ?_ ?_ ?_
    refine PW.pt ?_
    refine vw_or ?_ ?_
    refine vt_not ?_
    refine vtru ?_
    refine PE.toB ?_
    refine vis ?_ T.isinstance T.«tuple» bb_tuple
    refine PE.toB (ve 2)
    refine vw_or ?_ ?_
    refine vcmpT (o_ne hr) ?_ ?_
    refine PE.toB ?_
    refine vcall (c_len) T.len bb_len ?_
    refine vab_cons ?_ ?_
    refine PE.toB (ve 2)
    refine vab_nil
    refine PE.toB (ve 3)
    refine vw_or1 ?_
    refine vt_not ?_
    refine vtru ?_
    refine PE.toB ?_
    refine vcall (c_all rfl) T.all bb_all ?_
    refine vab_cons ?_ ?_
    refine PE.nB ?_
    refine vlc (is := [10]) [("one", 10)] [10] rfl nd ?_ ?_ ?_ ?_ ?_
    refine vi_seq ?_
    refine ve 2
    refine blkOk_by (by kernel_rfl)
    intro _ _ _ _ _
    refine vg 10 nd
    intro _ _ _ _ _
    refine vts_nil
    intro _ _ _ _ _
    refine vcl (ok__law_is_int Df T Ks) hr ?_
    refine va_cons ?_ ?_
    refine ve 10
    refine va_nil
    refine vab_nil
    refine vs_one ?_
    refine vs_ret ?_
    refine vc_bl
    refine vs_nil
    refine vs_cons ?_ ?_
    refine vs_if ?_ ?_ ?_
    refine PW.pt ?_
    refine vw_or ?_ ?_
    refine vcmpT (o_ne hr) ?_ ?_
    refine PE.toB ?_
    refine vix i_ix ?_ ?_
    refine PE.toB (ve 2)
    refine PE.toB ?_
    refine vc_int
    refine PE.toB (ve 3)
    refine vw_or1 ?_
    refine vtru ?_
    refine PE.toB ?_
    refine vcall (c_any rfl) T.any bb_any ?_
    refine vab_cons ?_ ?_
    refine PE.nB ?_
    refine vlc (is := [9]) [("k", 9)] [9] rfl nd ?_ ?_ ?_ ?_ ?_
    refine vi_rg1 ?_ T.range
    refine vab_cons ?_ ?_
    refine PE.toB (ve 3)
    refine vab_nil
    refine blkOk_by (by kernel_rfl)
    intro _ _ _ _ _
    refine vg 9 nd
    intro _ _ _ _ _
    refine vts_nil
    intro _ _ _ _ _
    refine vcmp (o_eq hr) ?_ ?_
    refine PE.toB ?_
    refine vop o_mod ?_ ?_
    refine PE.toB ?_
    refine vty c_int T.int bb_int ?_
    refine vab_cons ?_ ?_
    refine PE.toB ?_
    refine vop o_sub ?_ ?_
    refine PE.toB ?_
    refine vop o_add ?_ ?_
    refine PE.toB ?_
    refine vix i_ix ?_ ?_
    refine PE.toB (ve 2)
    refine PE.toB (ve 9)
    refine PE.toB (ve 3)
    refine PE.toB (ve 9)
    refine vab_nil
    refine PE.toB ?_
    refine vc_int
    refine PE.toB ?_
    refine vc_int
    refine vab_nil
    refine vs_one ?_
    refine vs_ret ?_
    refine vc_bl
    refine vs_nil
    refine vs_cons ?_ ?_
    refine vs_set 4 nd ?_
    refine PE.xv ?_
    refine vty c_tup T.tuple bb_tuple ?_
    refine vab_cons ?_ ?_
    refine PE.nB ?_
    refine vlc (is := [11]) [("sign", 11)] [11] rfl nd ?_ ?_ ?_ ?_ ?_
    refine vi_seq ?_
    refine ve 0
    refine blkOk_by (by kernel_rfl)
    intro _ _ _ _ _
    refine vg 11 nd
    intro _ _ _ _ _
    refine vts_nil
    intro _ _ _ _ _
    refine vop o_sub ?_ ?_
    refine PE.toB ?_
    refine vc_int
    refine PE.toB (ve 11)
    refine vab_nil
    refine vs_cons ?_ ?_
    refine vs_if ?_ ?_ ?_
    refine vt_not ?_
    refine vtru ?_
    refine PE.toB ?_
    refine vcl (ok__law_like Df T Ks 12) hr ?_
    refine va_cons ?_ ?_
    refine vtup ?_
    refine va_cons ?_ ?_
    refine vcl (ok_echo_of Df T Ks) hr ?_
    refine va_cons ?_ ?_
    refine ve 4
    refine va_nil
    refine va_cons ?_ ?_
    refine vcl (ok_echo_of Df T Ks) hr ?_
    refine va_cons ?_ ?_
    refine vstepM ?_ ?_ ?_
    refine PE.toB (ve 0)
    refine vp_none
    refine vp_none
    refine va_nil
    refine va_nil
    refine va_cons ?_ ?_
    refine vtup ?_
    refine va_cons ?_ ?_
    refine ve 2
    refine va_cons ?_ ?_
    refine ve 2
    refine va_nil
    refine va_nil
    refine vs_one ?_
    refine vs_ret ?_
    refine vc_bl
    refine vs_nil
    refine vs_cons ?_ ?_
    refine vs_set 5 nd ?_
    refine PE.xv ?_
    refine vty c_tup T.tuple bb_tuple ?_
    refine vab_cons ?_ ?_
    refine PE.nB ?_
    refine vlc (is := [9]) [("k", 9)] [9] rfl nd ?_ ?_ ?_ ?_ ?_
    refine vi_rg1 ?_ T.range
    refine vab_cons ?_ ?_
    refine PE.toB (ve 3)
    refine vab_nil
    refine blkOk_by (by kernel_rfl)
    intro _ _ _ _ _
    refine vg 9 nd
    intro _ _ _ _ _
    refine vts_nil
    intro _ _ _ _ _
    refine vop o_mul ?_ ?_
    refine PE.toB ?_
    refine vix i_ix ?_ ?_
    refine PE.toB ?_
    refine vtup ?_
    refine va_cons ?_ ?_
    refine vc_int
    refine va_cons ?_ ?_
    refine vun o_neg ?_
    refine PE.toB ?_
    refine vc_int
    refine va_nil
    refine PE.toB ?_
    refine vop o_mod ?_ ?_
    refine PE.toB ?_
    refine vty c_int T.int bb_int ?_
    refine vab_cons ?_ ?_
    refine PE.toB (ve 9)
    refine vab_nil
    refine PE.toB ?_
    refine vc_int
    refine PE.toB ?_
    refine vix i_ix ?_ ?_
    refine PE.toB (ve 0)
    refine PE.toB (ve 9)
    refine vab_nil
    refine vs_cons ?_ ?_
    refine vs_if ?_ ?_ ?_
    refine vt_not ?_
    refine vtru ?_
    refine PE.toB ?_
    refine vcl (ok__law_like Df T Ks 12) hr ?_
    refine va_cons ?_ ?_
    refine vcl (ok_echo_of Df T Ks) hr ?_
    refine va_cons ?_ ?_
    refine ve 5
    refine va_nil
    refine va_cons ?_ ?_
    refine vty c_tup T.tuple bb_tuple ?_
    refine vab_cons ?_ ?_
    refine PE.nB ?_
    refine vlc (is := [9]) [("k", 9)] [9] rfl nd ?_ ?_ ?_ ?_ ?_
    refine vi_rg1 ?_ T.range
    refine vab_cons ?_ ?_
    refine PE.toB (ve 3)
    refine vab_nil
    refine blkOk_by (by kernel_rfl)
    intro _ _ _ _ _
    refine vg 9 nd
    intro _ _ _ _ _
    refine vts_nil
    intro _ _ _ _ _
    refine vop o_mul ?_ ?_
    refine PE.toB ?_
    refine vix i_ix ?_ ?_
    refine PE.toB ?_
    refine vtup ?_
    refine va_cons ?_ ?_
    refine vc_int
    refine va_cons ?_ ?_
    refine vun o_neg ?_
    refine PE.toB ?_
    refine vc_int
    refine va_nil
    refine PE.toB ?_
    refine vop o_mod ?_ ?_
    refine PE.toB ?_
    refine vty c_int T.int bb_int ?_
    refine vab_cons ?_ ?_
    refine PE.toB (ve 9)
    refine vab_nil
    refine PE.toB ?_
    refine vc_int
    refine PE.toB ?_
    refine vix i_ix ?_ ?_
    refine PE.toB (ve 2)
    refine PE.toB (ve 9)
    refine vab_nil
    refine va_nil
    refine vs_one ?_
    refine vs_ret ?_
    refine vc_bl
    refine vs_nil
    refine vs_cons ?_ ?_
    refine vs_set 6 nd ?_
    refine PE.xv ?_
    refine vop o_add ?_ ?_
    refine PE.toB ?_
    refine vtup ?_
    refine va_cons ?_ ?_
    refine ve 3
    refine va_nil
    refine PE.toB ?_
    refine vty c_tup T.tuple bb_tuple ?_
    refine vab_cons ?_ ?_
    refine PE.nB ?_
    refine vlc (is := [9]) [("k", 9)] [9] rfl nd ?_ ?_ ?_ ?_ ?_
    refine vi_rg2 ?_ T.range
    refine vab_cons ?_ ?_
    refine PE.toB ?_
    refine vc_int
    refine vab_cons ?_ ?_
    refine PE.toB (ve 3)
    refine vab_nil
    refine blkOk_by (by kernel_rfl)
    intro _ _ _ _ _
    refine vg 9 nd
    intro _ _ _ _ _
    refine vts_nil
    intro _ _ _ _ _
    refine vop o_add ?_ ?_
    refine PE.toB ?_
    refine vix i_ix ?_ ?_
    refine PE.toB (ve 2)
    refine PE.toB (ve 9)
    refine PE.toB ?_
    refine vix i_ix ?_ ?_
    refine PE.toB (ve 2)
    refine PE.toB ?_
    refine vop o_sub ?_ ?_
    refine PE.toB (ve 3)
    refine PE.toB (ve 9)
    refine vab_nil
    refine vs_cons ?_ ?_
    refine vs_set 7 nd ?_
    refine PE.xv ?_
    refine vix i_ix ?_ ?_
    refine PE.toB ?_
    refine vcl (ok__law_turns Df T Ks) hr ?_
    refine va_cons ?_ ?_
    refine ve 0
    refine va_nil
    refine PE.toB (ve 1)
    refine vs_cons ?_ ?_
    refine vs_if ?_ ?_ ?_
    refine PW.pt ?_
    refine vw_or ?_ ?_
    refine vt_not ?_
    refine vtru ?_
    refine PE.toB ?_
    refine vcl (ok__law_like Df T Ks 12) hr ?_
    refine va_cons ?_ ?_
    refine vtup ?_
    refine va_cons ?_ ?_
    refine vcl (ok_round_echo Df T Ks) hr ?_
    refine va_cons ?_ ?_
    refine ve 0
    refine va_nil
    refine va_cons ?_ ?_
    refine vcl (ok_round_echo Df T Ks) hr ?_
    refine va_cons ?_ ?_
    refine ve 7
    refine va_nil
    refine va_nil
    refine va_cons ?_ ?_
    refine vtup ?_
    refine va_cons ?_ ?_
    refine ve 6
    refine va_cons ?_ ?_
    refine ve 6
    refine va_nil
    refine va_nil
    refine vw_or1 ?_
    refine vcmpT (o_ne hr) ?_ ?_
    refine PE.toB ?_
    refine vcall (c_sum rfl) T.sum bb_sum ?_
    refine vab_cons ?_ ?_
    refine PE.toB (ve 6)
    refine vab_nil
    refine PE.toB ?_
    refine vop o_mul ?_ ?_
    refine PE.toB ?_
    refine vcall (c_sum rfl) T.sum bb_sum ?_
    refine vab_cons ?_ ?_
    refine PE.toB (ve 0)
    refine vab_nil
    refine PE.toB ?_
    refine vcall (c_sum rfl) T.sum bb_sum ?_
    refine vab_cons ?_ ?_
    refine PE.toB (ve 0)
    refine vab_nil
    refine vs_one ?_
    refine vs_ret ?_
    refine vc_bl
    refine vs_nil
    refine vs_cons ?_ ?_
    refine vs_set 8 nd ?_
    refine PE.xv ?_
    refine vcall (c_all rfl) T.all bb_all ?_
    refine vab_cons ?_ ?_
    refine PE.nB ?_
    refine vlc (is := [10]) [("one", 10)] [10] rfl nd ?_ ?_ ?_ ?_ ?_
    refine vi_seq ?_
    refine vslice s_sl ?_ ?_ ?_
    refine PE.toB (ve 2)
    refine vp_some ?_
    refine vc_int
    refine vp_none
    refine blkOk_by (by kernel_rfl)
    intro _ _ _ _ _
    refine vg 10 nd
    intro _ _ _ _ _
    refine vts_nil
    intro _ _ _ _ _
    refine vcmp (o_lt) ?_ ?_
    refine PE.toB ?_
    refine vcall (c_abs) T.abs bb_abs ?_
    refine vab_cons ?_ ?_
    refine PE.toB (ve 10)
    refine vab_nil
    refine PE.toB ?_
    refine vc_int
    refine vab_nil
    refine vs_cons ?_ ?_
    refine vs_set 2 nd ?_
    refine PE.xv ?_
    refine vtup ?_
    refine va_cons ?_ ?_
    refine vcl (ok_is_quiet Df T Ks) hr ?_
    refine va_cons ?_ ?_
    refine ve 0
    refine va_nil
    refine va_cons ?_ ?_
    refine vcl (ok_is_quiet Df T Ks) hr ?_
    refine va_cons ?_ ?_
    refine ve 4
    refine va_nil
    refine va_cons ?_ ?_
    refine vcl (ok_is_quiet Df T Ks) hr ?_
    refine va_cons ?_ ?_
    refine vstepM ?_ ?_ ?_
    refine PE.toB (ve 0)
    refine vp_none
    refine vp_none
    refine va_nil
    refine va_cons ?_ ?_
    refine vcl (ok_is_quiet Df T Ks) hr ?_
    refine va_cons ?_ ?_
    refine ve 5
    refine va_nil
    refine va_nil
    refine vs_one ?_
    refine vs_ret ?_
    refine vcl (ok__law_like Df T Ks 12) hr ?_
    refine va_cons ?_ ?_
    refine ve 2
    refine va_cons ?_ ?_
    refine vtup ?_
    refine va_cons ?_ ?_
    refine ve 8
    refine va_cons ?_ ?_
    refine ve 8
    refine va_cons ?_ ?_
    refine ve 8
    refine va_cons ?_ ?_
    refine ve 8
    refine va_nil
    refine va_nil
def den_law : Ev → Option Out :=
  sSeq (sSet 1 (xV (eA F__law_row (aCons (eVar 0) (aCons (eC (.int 36)) aNil))))) <|
  sSeq (sSet 2 (xV (e2 addD (eC (.int 1)) (e2 modD (eA intD (aCons (e2 ixD (eVar 1) (eC (.int 0))) aNil)) (eC (.int 31)))))) <|
  sSeq (sSet 3 (xV (eA tupOfD (aCons (eLst (nLc [4] (nA rg1 (aCons (eVar 2) aNil)) (gN 4) tTrue (e2 subD (eC (.int 1)) (e2 mulD (eC (.int 2)) (e2 modD (eA intD (aCons (e2 ixD (eVar 1) (e2 addD (eC (.int 4)) (eVar 4))) aNil)) (eC (.int 2))))))) aNil)))) <|
  sSeq (sIf (tNo (t1 truD (eA F__law_echo_right (aCons (eVar 3) (aCons (e2 modD (eA intD (aCons (e2 ixD (eVar 1) (eC (.int 1))) aNil)) (eVar 2)) aNil))))) (sRet (eC (.bool false))) sNil) <|
  sSeq (sSet 5 (xV (e2 addD (eC (.int 1)) (e2 modD (eA intD (aCons (e2 ixD (eVar 1) (eC (.int 2))) aNil)) (eC (.int 9)))))) <|
  sSeq (sSet 6 (xV (eA F_quiet_signs (aCons (eVar 5) aNil)))) <|
  sSeq (sIf (t1 isB (e2 neD (e2 isD (eVar 6) (eC .none)) (e2 inD (eVar 5) (eTup (aCons (eC (.int 6)) (aCons (eC (.int 8)) (aCons (eC (.int 9)) aNil))))))) (sRet (eC (.bool false))) sNil) <|
  sSeq (sIf (tAn (t1 isB (e2 isntD (eVar 6) (eC .none))) (tOr' (t1 isB (e2 neD (eA lenD (aCons (eVar 6) aNil)) (eVar 5))) (tOr' (t1 isB (e2 neD (e2 ixD (eVar 6) (eC (.int 0))) (eC (.int 1)))) (t1 isB (e2 isntD (eA F_is_quiet (aCons (eVar 6) aNil)) (eC (.bool true))))))) (sRet (eC (.bool false))) sNil) <|
  sSeq (sSet 4 (xV (e2 addD (eC (.int 2)) (e2 modD (eA intD (aCons (e2 ixD (eVar 1) (eC (.int 3))) aNil)) (eC (.int 4)))))) <|
  sSeq (sSet 7 (xV (eA F_shift_signs (aCons (eVar 4) aNil)))) <|
  sSeq (sSet 8 (xV (e2 ixD (eTup (aCons (eC (.int 3)) (aCons (eC (.int 7)) (aCons (eC (.int 15)) (aCons (eC (.int 31)) aNil))))) (e2 subD (eVar 4) (eC (.int 2)))))) <|
  sSeq (sIf (tOr' (t1 isB (e2 neD (eA lenD (aCons (eVar 7) aNil)) (eVar 8))) (tNo (t1 truD (eA (F__law_like 12) (aCons (eA F_round_echo (aCons (eVar 7) aNil)) (aCons (e2 addD (eTup (aCons (eVar 8) aNil)) (e2 mulD (eTup (aCons (e1 negD (eC (.int 1))) aNil)) (e2 subD (eVar 8) (eC (.int 1))))) aNil)))))) (sRet (eC (.bool false))) sNil) <|
  sSeq (sAsg (gLen 2 (gT (gsCons (gN 9) (gsCons (gN 10) gsNil)))) (eTup (aCons (eA F__law_turns (aCons (eVar 7) aNil)) (aCons (e2 addD (eC (.int 1)) (e2 modD (eA intD (aCons (e2 ixD (eVar 1) (eC (.int 1))) aNil)) (e2 subD (eVar 8) (eC (.int 1))))) aNil)))) <|
  sSeq (sIf (t1 isB (e2 ninD (eA tupOfD (aCons (eLst (nLc [11] (nA rg1 (aCons (eVar 8) aNil)) (gN 11) tTrue (e2 ixD (eVar 7) (e2 modD (eA intD (aCons (e2 mulD (eC (.int 2)) (eVar 11)) aNil)) (eVar 8))))) aNil)) (eVar 9))) (sRet (eC (.bool false))) sNil) <|
  sRet (e2 inD (eA tupOfD (aCons (eLst (nLc [11] (nA rg1 (aCons (eVar 8) aNil)) (gN 11) tTrue (e2 mulD (e2 ixD (eVar 7) (eVar 11)) (e2 ixD (e2 ixD (eVar 9) (eVar 10)) (eVar 11))))) aNil)) (eVar 9))
def F_law : List D → Option D := runD 12 1 den_law
theorem body_law {P : Program} {w : World} {K : PySem.W.Frag} {mg : Str → Option Value} {base : Heap} (Df : Defs K mg) (T : Std mg) (Ks : Consts K mg) (f : Addr) (cdv : Value) (A : Around) (outer : List Env) (s0 : Shared) (H : Hp) (E : XK) (hr : Room 15 (A.deeper (envOfC ("law" : Str) (defScope s_law) s0.heap.objs.size f cdv))) :
    PVSs (cxOf CX0 P w K mg base N_law ("law" : Str) (defScope s_law) f cdv A outer s0 H E).nox (defBody s_law) den_law := by
  have nd := sc_law.nd
  refine vs_cons ?_ ?_
  refine vs_set 1 nd ?_
  refine PE.xv ?_
  refine vcl (ok__law_row Df T Ks) hr ?_
  refine va_cons ?_ ?_
  refine ve 0
  refine va_cons ?_ ?_
  refine vc_int
  refine va_nil
  refine vs_cons ?_ ?_
  refine vs_set 2 nd ?_
  refine PE.xv ?_
  refine vop o_add ?_ ?_
  refine PE.toB ?_
  refine vc_int
  refine PE.toB ?_
  refine vop o_mod ?_ ?_
  refine PE.toB ?_
  refine vty c_int T.int bb_int ?_
  refine vab_cons ?_ ?_
  refine PE.toB ?_
  refine vix i_ix ?_ ?_
  refine PE.toB (ve 1)
  refine PE.toB ?_
  refine vc_int
  refine vab_nil
  refine PE.toB ?_
  refine vc_int
  refine vs_cons ?_ ?_
  refine vs_set 3 nd ?_
  refine PE.xv ?_
  refine vty c_tup T.tuple bb_tuple ?_
  refine vab_cons ?_ ?_
  refine PE.nB ?_
  refine vlc (is := [4]) [("k", 4)] [4] rfl nd ?_ ?_ ?_ ?_ ?_
  refine vi_rg1 ?_ T.range
  refine vab_cons ?_ ?_
  refine PE.toB (ve 2)
  refine vab_nil
  refine blkOk_by (by kernel_rfl)
  intro _ _ _ _ _
  refine vg 4 nd
  intro _ _ _ _ _
  refine vts_nil
  intro _ _ _ _ _
  refine vop o_sub ?_ ?_
  refine PE.toB ?_
  refine vc_int
  refine PE.toB ?_
  refine vop o_mul ?_ ?_
  refine PE.toB ?_
  refine vc_int
  refine PE.toB ?_
  refine vop o_mod ?_ ?_
  refine PE.toB ?_
  refine vty c_int T.int bb_int ?_
  refine vab_cons ?_ ?_
  refine PE.toB ?_
  refine vix i_ix ?_ ?_
  refine PE.toB (ve 1)
  refine PE.toB ?_
  refine vop o_add ?_ ?_
  refine PE.toB ?_
  refine vc_int
  refine PE.toB (ve 4)
  refine vab_nil
  refine PE.toB ?_
  refine vc_int
  refine vab_nil
  refine vs_cons ?_ ?_
  refine vs_if ?_ ?_ ?_
  refine vt_not ?_
  refine vtru ?_
  refine PE.toB ?_
  refine vcl (ok__law_echo_right Df T Ks) hr ?_
  refine va_cons ?_ ?_
  refine ve 3
  refine va_cons ?_ ?_
  refine vop o_mod ?_ ?_
  refine PE.toB ?_
  refine vty c_int T.int bb_int ?_
  refine vab_cons ?_ ?_
  refine PE.toB ?_
  refine vix i_ix ?_ ?_
  refine PE.toB (ve 1)
  refine PE.toB ?_
  refine vc_int
  refine vab_nil
  refine PE.toB (ve 2)
  refine va_nil
  refine vs_one ?_
  refine vs_ret ?_
  refine vc_bl
  refine vs_nil
  refine vs_cons ?_ ?_
  refine vs_set 5 nd ?_
  refine PE.xv ?_
  refine vop o_add ?_ ?_
  refine PE.toB ?_
  refine vc_int
  refine PE.toB ?_
  refine vop o_mod ?_ ?_
  refine PE.toB ?_
  refine vty c_int T.int bb_int ?_
  refine vab_cons ?_ ?_
  refine PE.toB ?_
  refine vix i_ix ?_ ?_
  refine PE.toB (ve 1)
  refine PE.toB ?_
  refine vc_int
  refine vab_nil
  refine PE.toB ?_
  refine vc_int
  refine vs_cons ?_ ?_
  refine vs_set 6 nd ?_
  refine PE.xv ?_
  refine vcl (ok_quiet_signs Df T Ks) hr ?_
  refine va_cons ?_ ?_
  refine ve 5
  refine va_nil
  refine vs_cons ?_ ?_
  refine vs_if ?_ ?_ ?_
  refine vcmpT (o_ne hr) ?_ ?_
  refine PE.toB ?_
  refine vcmp (o_is) ?_ ?_
  refine PE.toB (ve 6)
  refine PE.toB ?_
  refine vc_non
  refine PE.toB ?_
  refine vcmp (o_in hr) ?_ ?_
  refine PE.toB (ve 5)
  refine PE.toB ?_
  refine vtup ?_
  refine va_cons ?_ ?_
  refine vc_int
  refine va_cons ?_ ?_
  refine vc_int
  refine va_cons ?_ ?_
  refine vc_int
  refine va_nil
  refine vs_one ?_
  refine vs_ret ?_
  refine vc_bl
  refine vs_nil
  refine vs_cons ?_ ?_
  refine vs_if ?_ ?_ ?_
  refine PW.pt ?_
  refine vw_and ?_ ?_
  refine vcmpT (o_isnt) ?_ ?_
  refine PE.toB (ve 6)
  refine PE.toB ?_
  refine vc_non
  refine vw_and1 ?_
  refine PW.pt ?_
  refine vw_or ?_ ?_
  refine vcmpT (o_ne hr) ?_ ?_
  refine PE.toB ?_
  refine vcall (c_len) T.len bb_len ?_
  refine vab_cons ?_ ?_
  refine PE.toB (ve 6)
  refine vab_nil
  refine PE.toB (ve 5)
  refine vw_or ?_ ?_
  refine vcmpT (o_ne hr) ?_ ?_
  refine PE.toB ?_
  refine vix i_ix ?_ ?_
  refine PE.toB (ve 6)
  refine PE.toB ?_
  refine vc_int
  refine PE.toB ?_
  refine vc_int
  refine vw_or1 ?_
  refine vcmpT (o_isnt) ?_ ?_
  refine PE.toB ?_
  refine vcl (ok_is_quiet Df T Ks) hr ?_
  refine va_cons ?_ ?_
  refine ve 6
  refine va_nil
  refine PE.toB ?_
  refine vc_bl
  refine vs_one ?_
  refine vs_ret ?_
  refine vc_bl
  refine vs_nil
  refine vs_cons ?_ ?_
  refine vs_set 4 nd ?_
  refine PE.xv ?_
  refine vop o_add ?_ ?_
  refine PE.toB ?_
  refine vc_int
  refine PE.toB ?_
  refine vop o_mod ?_ ?_
  refine PE.toB ?_
  refine vty c_int T.int bb_int ?_
  refine vab_cons ?_ ?_
  refine PE.toB ?_
  refine vix i_ix ?_ ?_
  refine PE.toB (ve 1)
  refine PE.toB ?_
  refine vc_int
  refine vab_nil
  refine PE.toB ?_
  refine vc_int
  refine vs_cons ?_ ?_
  refine vs_set 7 nd ?_
  refine PE.xv ?_
  refine vcl (ok_shift_signs Df T Ks) hr ?_
  refine va_cons ?_ ?_
  refine ve 4
  refine va_nil
  refine vs_cons ?_ ?_
  refine vs_set 8 nd ?_
  refine PE.xv ?_
  refine vix i_ix ?_ ?_
  refine PE.toB ?_
  refine vtup ?_
  refine va_cons ?_ ?_
  refine vc_int
  refine va_cons ?_ ?_
  refine vc_int
  refine va_cons ?_ ?_
  refine vc_int
  refine va_cons ?_ ?_
  refine vc_int
  refine va_nil
  refine PE.toB ?_
  refine vop o_sub ?_ ?_
  refine PE.toB (ve 4)
  refine PE.toB ?_
  refine vc_int
  refine vs_cons ?_ ?_
  refine vs_if ?_ ?_ ?_
  refine PW.pt ?_
  refine vw_or ?_ ?_
  refine vcmpT (o_ne hr) ?_ ?_
  refine PE.toB ?_
  refine vcall (c_len) T.len bb_len ?_
  refine vab_cons ?_ ?_
  refine PE.toB (ve 7)
  refine vab_nil
  refine PE.toB (ve 8)
  refine vw_or1 ?_
  refine vt_not ?_
  refine vtru ?_
  refine PE.toB ?_
  refine vcl (ok__law_like Df T Ks 12) hr ?_
  refine va_cons ?_ ?_
  refine vcl (ok_round_echo Df T Ks) hr ?_
  refine va_cons ?_ ?_
  refine ve 7
  refine va_nil
  refine va_cons ?_ ?_
  refine vop o_add ?_ ?_
  refine PE.toB ?_
  refine vtup ?_
  refine va_cons ?_ ?_
  refine ve 8
  refine va_nil
  refine PE.toB ?_
  refine vop o_mul ?_ ?_
  refine PE.toB ?_
  refine vtup ?_
  refine va_cons ?_ ?_
  refine vun o_neg ?_
  refine PE.toB ?_
  refine vc_int
  refine va_nil
  refine PE.toB ?_
  refine vop o_sub ?_ ?_
  refine PE.toB (ve 8)
  refine PE.toB ?_
  refine vc_int
  refine va_nil
  refine vs_one ?_
  refine vs_ret ?_
  refine vc_bl
  refine vs_nil
  refine vs_cons ?_ ?_
  refine vs_asg (is := [9, 10]) ?_ ?_
  refine vtup ?_
  refine va_cons ?_ ?_
  refine vcl (ok__law_turns Df T Ks) hr ?_
  refine va_cons ?_ ?_
  refine ve 7
  refine va_nil
  refine va_cons ?_ ?_
  refine vop o_add ?_ ?_
  refine PE.toB ?_
  refine vc_int
  refine PE.toB ?_
  refine vop o_mod ?_ ?_
  refine PE.toB ?_
  refine vty c_int T.int bb_int ?_
  refine vab_cons ?_ ?_
  refine PE.toB ?_
  refine vix i_ix ?_ ?_
  refine PE.toB (ve 1)
  refine PE.toB ?_
  refine vc_int
  refine vab_nil
  refine PE.toB ?_
  refine vop o_sub ?_ ?_
  refine PE.toB (ve 8)
  refine PE.toB ?_
  refine vc_int
  refine va_nil
  refine vgt (is := [9, 10]) rfl ?_
  refine vgs_cons (is := [9]) (js := [10]) ?_ ?_
  refine vg 9 nd
  refine vgs_cons (is := [10]) (js := []) ?_ ?_
  refine vg 10 nd
  refine vgs_nil
  refine vs_cons ?_ ?_
  refine vs_if ?_ ?_ ?_
  refine vcmpT (o_notin hr) ?_ ?_
  refine PE.toB ?_
  refine vty c_tup T.tuple bb_tuple ?_
  refine vab_cons ?_ ?_
  refine PE.nB ?_
  refine vlc (is := [11]) [("j", 11)] [11] rfl nd ?_ ?_ ?_ ?_ ?_
  refine vi_rg1 ?_ T.range
  refine vab_cons ?_ ?_
  refine PE.toB (ve 8)
  refine vab_nil
  refine blkOk_by (by kernel_rfl)
  intro _ _ _ _ _
  refine vg 11 nd
  intro _ _ _ _ _
  refine vts_nil
  intro _ _ _ _ _
  refine vix i_ix ?_ ?_
  refine PE.toB (ve 7)
  refine PE.toB ?_
  refine vop o_mod ?_ ?_
  refine PE.toB ?_
  refine vty c_int T.int bb_int ?_
  refine vab_cons ?_ ?_
  refine PE.toB ?_
  refine vop o_mul ?_ ?_
  refine PE.toB ?_
  refine vc_int
  refine PE.toB (ve 11)
  refine vab_nil
  refine PE.toB (ve 8)
  refine vab_nil
  refine PE.toB (ve 9)
  refine vs_one ?_
  refine vs_ret ?_
  refine vc_bl
  refine vs_nil
  refine vs_one ?_
  refine vs_ret ?_
  refine vcmp (o_in hr) ?_ ?_
  refine PE.toB ?_
  refine vty c_tup T.tuple bb_tuple ?_
  refine vab_cons ?_ ?_
  refine PE.nB ?_
  refine vlc (is := [11]) [("j", 11)] [11] rfl nd ?_ ?_ ?_ ?_ ?_
  refine vi_rg1 ?_ T.range
  refine vab_cons ?_ ?_
  refine PE.toB (ve 8)
  refine vab_nil
  refine blkOk_by (by kernel_rfl)
  intro _ _ _ _ _
  refine vg 11 nd
  intro _ _ _ _ _
  refine vts_nil
  intro _ _ _ _ _
  refine vop o_mul ?_ ?_
  refine PE.toB ?_
  refine vix i_ix ?_ ?_
  refine PE.toB (ve 7)
  refine PE.toB (ve 11)
  refine PE.toB ?_
  refine vix i_ix ?_ ?_
  refine PE.toB ?_
  refine vix i_ix ?_ ?_
  refine PE.toB (ve 9)
  refine PE.toB (ve 10)
  refine PE.toB (ve 11)
  refine vab_nil
  refine PE.toB (ve 9)
end K55
end

section
namespace PVL
open PySem L2 PV
def sm : Nat → (Nat → Int) → Int
  | 0, _ => 0
  | n + 1, f => sm n f + f n
section
variable {n m : Nat} {f g : Nat → Int} {q : Int}
theorem sm_congr : ∀ {n : Nat}, (∀ j, j < n → f j = g j) → sm n f = sm n g
  | 0, _ => rfl
  | n + 1, h => by
    show sm n f + f n = sm n g + g n
    rw [sm_congr fun j hj => h j (by omega), h n (by omega)]
theorem sm_add : ∀ (n : Nat) (f g : Nat → Int), sm n (fun j => f j + g j) = sm n f + sm n g
  | 0, _, _ => rfl
  | n + 1, f, g => by simp only [sm]; rw [sm_add n f g]; omega
theorem sm_mul (c : Int) : ∀ (n : Nat) (f : Nat → Int), sm n (fun j => c * f j) = c * sm n f
  | 0, _ => by simp [sm]
  | n + 1, f => by simp only [sm]; rw [sm_mul c n f, Int.mul_add]
theorem sm_mulr (c : Int) (n : Nat) (f : Nat → Int) : sm n (fun j => f j * c) = sm n f * c := by
  rw [Int.mul_comm _ c, ← sm_mul]; exact sm_congr fun j _ => Int.mul_comm _ _
theorem sm_zero : ∀ n, sm n (fun _ => 0) = 0
  | 0 => rfl
  | n + 1 => by simp only [sm]; rw [sm_zero n]; rfl
theorem sm_comm (m : Nat) (f : Nat → Nat → Int) : ∀ n, sm n (fun i => sm m (fun j => f i j)) = sm m (fun j => sm n (fun i => f i j))
  | 0 => (sm_zero m).symm
  | n + 1 => by simp only [sm]; rw [sm_comm m f n, sm_add]
theorem sm_none : ∀ {n : Nat}, (∀ j, j < n → f j = 0) → sm n f = 0 := fun h => (sm_congr h).trans (sm_zero _)
theorem sm_single : ∀ {n k : Nat}, k < n → (∀ j, j < n → j ≠ k → f j = 0) → sm n f = f k
  | 0, _, h, _ => by omega
  | n + 1, k, hk, h => by
    show sm n f + f n = f k
    by_cases e : k = n
    · subst e
      rw [sm_none fun j hj => h j (by omega) (by omega)]; omega
    · rw [sm_single (k := k) (by omega) fun j hj hne => h j (by omega) hne, h n (by omega) (by omega)]; omega
theorem sm_first : ∀ (n : Nat) (f : Nat → Int), sm (n + 1) f = f 0 + sm n (fun j => f (j + 1))
  | 0, f => by simp [sm]
  | n + 1, f => by
    show sm (n + 1) f + f (n + 1) = _
    rw [sm_first n f]; simp only [sm]; omega
theorem sm_rot1 (n : Nat) (f : Nat → Int) : sm n (fun j => f ((j + 1) % n)) = sm n f := by
  cases n with
  | zero => rfl
  | succ m =>
    rw [sm_first m f]
    show sm m _ + f ((m + 1) % (m + 1)) = _
    rw [Nat.mod_self, sm_congr (g := fun j => f (j + 1)) fun j hj => by rw [Nat.mod_eq_of_lt (by omega)]]; omega
theorem sm_rot (n : Nat) (f : Nat → Int) : ∀ c, sm n (fun j => f ((j + c) % n)) = sm n f
  | 0 => sm_congr fun j hj => by rw [Nat.add_zero, Nat.mod_eq_of_lt hj]
  | c + 1 => by
    rw [← sm_rot n f c, ← sm_rot1 n fun j => f ((j + c) % n)]
    refine sm_congr fun j hj => ?_
    rw [Nat.mod_add_mod]; congr 2; omega
theorem sm_back : ∀ (n : Nat) (f : Nat → Int), sm n (fun j => f (n - 1 - j)) = sm n f
  | 0, _ => rfl
  | n + 1, f => by
    rw [sm_first]
    show f n + _ = sm n f + f n
    rw [← sm_back n f]
    have : sm n (fun j => f (n + 1 - 1 - (j + 1))) = sm n (fun j => f (n - 1 - j)) := sm_congr fun j hj => by congr 1; omega
    rw [this]; omega
theorem sum_map : ∀ (n : Nat) (f : Nat → Int), ((List.range n).map f).sum = sm n f
  | 0, _ => rfl
  | n + 1, f => by
    rw [List.range_succ, List.map_append, List.sum_append, sum_map n f]
    simp [sm]
/-- the same remainder -/
def cg (q a b : Int) : Prop := a % q = b % q
variable {a b c d : Int}
theorem cg.rfl : cg q a a := Eq.refl _
theorem cg.symm (h : cg q a b) : cg q b a := Eq.symm h
theorem cg.trans (h : cg q a b) (h2 : cg q b c) : cg q a c := Eq.trans h h2
theorem cg.of (h : a = b) : cg q a b := by rw [h]; exact cg.rfl
theorem cg.mod : cg q (a % q) a := Int.emod_emod_of_dvd _ (Int.dvd_refl q)
theorem cg.add (h : cg q a b) (h2 : cg q c d) : cg q (a + c) (b + d) := by
  unfold cg at *; rw [Int.add_emod, h, h2, ← Int.add_emod]
theorem cg.mul (h : cg q a b) (h2 : cg q c d) : cg q (a * c) (b * d) := by
  unfold cg at *; rw [Int.mul_emod, h, h2, ← Int.mul_emod]
theorem cg.pow (h : cg q a b) : ∀ k : Nat, cg q (a ^ k) (b ^ k)
  | 0 => by rw [Int.pow_zero, Int.pow_zero]; exact cg.rfl
  | k + 1 => by rw [Int.pow_succ, Int.pow_succ]; exact (cg.pow h k).mul h
theorem sm_cg : ∀ {n : Nat}, (∀ j, j < n → cg q (f j) (g j)) → cg q (sm n f) (sm n g)
  | 0, _ => cg.rfl
  | n + 1, h => (sm_cg fun j hj => h j (by omega)).add (h n (by omega))
theorem pow_cg {x : Int} (h : cg q (x ^ n) 1) (e : Nat) : cg q (x ^ e) (x ^ (e % n)) := by
  have e1 : x ^ e = (x ^ n) ^ (e / n) * x ^ (e % n) := by
    rw [← Int.pow_mul, ← Int.pow_add, Nat.div_add_mod]
  rw [e1]
  refine ((h.pow (e / n)).mul cg.rfl).trans ?_
  rw [Int.one_pow, Int.one_mul]; exact cg.rfl
theorem pow_cg2 {x : Int} (h : cg q (x ^ n) 1) {e e' : Nat} (he : e % n = e' % n) : cg q (x ^ e) (x ^ e') := by
  have h1 := pow_cg h e
  rw [he] at h1
  exact h1.trans (pow_cg h e').symm
theorem cg_eq (h : cg q a b) (h0 : 0 ≤ b) (h1 : b < q) : a % q = b := by
  unfold cg at h; rw [h]; exact Int.emod_eq_of_lt h0 h1
end
/-- the tuple of the numbers f 0, .., f (n - 1) -/
def tu (n : Nat) (f : Nat → Int) : D := .tuple ((List.range n).map fun i => .int (f i))
theorem tu_congr {n : Nat} {f g : Nat → Int} (h : ∀ j, j < n → f j = g j) : tu n f = tu n g := by
  unfold tu; congr 1
  exact List.map_congr_left fun j hj => by rw [h j (List.mem_range.mp hj)]
theorem tu_len {n : Nat} {f : Nat → Int} : lenD [tu n f] = some (.int n) := by simp [tu, lenD]
theorem tu_ix {n : Nat} {f : Nat → Int} {k : Nat} (h : k < n) : ixD (tu n f) (.int (k : Int)) = some (.int (f k)) := by
  show atI _ _ = _
  exact atI_nat (by rw [List.getElem?_map, List.getElem?_range h]; rfl)
theorem tu_ixI {n : Nat} {f : Nat → Int} {k : Int} (h0 : 0 ≤ k) (h : k < n) : ixD (tu n f) (.int k) = some (.int (f k.toNat)) := by
  have := tu_ix (f := f) (n := n) (k := k.toNat) (by omega)
  rwa [Int.toNat_of_nonneg h0] at this
theorem tu_tl {n : Nat} {f : Nat → Int} (m : Nat) (h : n ≤ 100000) : tl (m + 1) (tu n f) = true := tl_t (by simpa using h) fun x hx => by
  obtain ⟨a, _, rfl⟩ := List.mem_map.mp hx; simp
end PVL
end

section
set_option maxRecDepth 100000
set_option maxHeartbeats 4000000
namespace PVL
open PySem L2 PV
theorem rg1_at {n : Nat} {env : Ev} {i : Nat} (h : eVar i env = some (.int n)) (hn : n ≤ 1000000) : nA rg1 (aCons (eVar i) aNil) env = some (rngD 0 n) := by
  simp only [nA_ap, aCons_ap, aNil_ap, h, Option.bind_some]
  exact rg1_n (by omega)
theorem nA_of {f : List D → Option (List D)} {dr : Ev → Option (List D)} {env : Ev} {ds es : List D} (h : dr env = some ds) (h2 : f ds = some es) : nA f dr env = some es := by
  rw [nA_ap, h]; exact h2
theorem rg1_of {n : Nat} {env : Ev} {da : Ev → Option D} (h : da env = some (.int n)) (hn : n ≤ 1000000) : nA rg1 (aCons da aNil) env = some (rngD 0 n) := by
  simp only [nA_ap, aCons_ap, aNil_ap, h, Option.bind_some]
  exact rg1_n (by omega)
theorem le_line {n : Nat} (h : n ≤ 1000000) : n ≤ line := Nat.le_trans h (by decide)
theorem lt_line {n : Nat} (h : n ≤ 1000000) : n < line := Nat.lt_of_le_of_lt h (by decide)
theorem gate {da : Ev → Option D} {s : Ev → Option Out} {env : Ev} (h : da env = some (.bool true)) : sIf (tNo (t1 truD da)) s sNil env = some (.nx env) := by
  rw [sIf_f, sNil_ap]
  rw [tNo_ap, t1_ap, h]; rfl
theorem tNo_of {da : Ev → Option D} {env : Ev} (h : da env = some (.bool true)) : tNo (t1 truD da) env = some false := by
  rw [tNo_ap, t1_ap, h]; rfl
theorem tOr_ff {ta tb : Ev → Option Bool} {env : Ev} (h1 : ta env = some false) (h2 : tb env = some false) : tOr' ta tb env = some false := by
  rw [tOr_ap, h1]; exact h2
theorem tAn_f {ta tb : Ev → Option Bool} {env : Ev} (h1 : ta env = some false) : tAn ta tb env = some false := by
  rw [tAn_ap, h1]; rfl
theorem tAn_tf {ta tb : Ev → Option Bool} {env : Ev} {b : Bool} (h1 : ta env = some true) (h2 : tb env = some b) : tAn ta tb env = some b := by
  rw [tAn_ap, h1]; exact h2
theorem pass {ta : Ev → Option Bool} {s : Ev → Option Out} {env : Ev} (h : ta env = some false) : sIf ta s sNil env = some (.nx env) := by
  rw [sIf_f h, sNil_ap]
theorem like_ap {A B : Ev → Option D} {env : Ev} {d : D} (hA : A env = some d) (hB : B env = some d) (ht : tl 10 d = true) : eA (F__law_like 12) (aCons A (aCons B aNil)) env = some (.bool true) := by
  rw [eA_ap, aCons_ap, aCons_ap, hA, hB]
  exact like_refl 10 12 d (by decide) ht
theorem call1 {F : List D → Option D} {a : Ev → Option D} {env : Ev} {u z : D} (h1 : a env = some u) (h : F [u] = some z) : eA F (aCons a aNil) env = some z := by
  simp only [eA_ap, aCons_ap, aNil_ap, h1, Option.bind_some, h]
theorem call2 {F : List D → Option D} {a b : Ev → Option D} {env : Ev} {u v z : D} (h1 : a env = some u) (h2 : b env = some v) (h : F [u, v] = some z) : eA F (aCons a (aCons b aNil)) env = some z := by
  simp only [eA_ap, aCons_ap, aNil_ap, h1, h2, Option.bind_some, h]
theorem call3 {F : List D → Option D} {a b c : Ev → Option D} {env : Ev} {u v w z : D} (h1 : a env = some u) (h2 : b env = some v) (h3 : c env = some w) (h : F [u, v, w] = some z) : eA F (aCons a (aCons b (aCons c aNil))) env = some z := by
  simp only [eA_ap, aCons_ap, aNil_ap, h1, h2, h3, Option.bind_some, h]
theorem pair_ap {a b : Ev → Option D} {env : Ev} {u v : D} (h1 : a env = some u) (h2 : b env = some v) : eTup (aCons a (aCons b aNil)) env = some (.tuple [u, v]) := by
  simp only [eTup_ap, aCons_ap, aNil_ap, h1, h2, Option.bind_some]; rfl
theorem set_ap {i : Nat} {da : Ev → Option D} {env : Ev} {d : D} (h : da env = some d) : sSet i (xV da) env = some (.nx (st env i (some (.v d)))) := by
  rw [sSet_ap, xV_ap, h]; rfl
theorem ret_ap {da : Ev → Option D} {env : Ev} {d : D} (h : da env = some d) : sRet da env = some (.rt d) := by rw [sRet_ap, h]; rfl
/-- a comprehension over a range -/
theorem comp_r {elt : Ev → Option D} {da : Ev → Option D} {env : Ev} {v n : Nat} {f : Nat → D} (h1 : da env = some (.int n)) (hn : n ≤ 1000) (H : ∀ i : Nat, i < n → elt (st (st env v none) v (some (.v (.int (0 + i))))) = some (f i)) :
    nLc [v] (nA rg1 (aCons da aNil)) (gN v) tTrue elt env = some ((List.range n).map f) :=
  nLc_rng (lo := 0) (rg1_of h1 (by omega)) (le_line (by omega)) fun i hi => ⟨_, rfl, rfl, H i hi⟩
theorem ixN_last {n : Nat} (h : 0 < n) : ixN n (-1) = some (n - 1) := by
  unfold ixN
  rw [if_neg (by decide), if_pos (by omega)]
  congr 1; omega
theorem at_last {α : Type} {xs : List α} {a : α} : atI (xs ++ [a]) (-1) = some a := by
  unfold atI
  rw [ixN_last (by simp)]
  simp
theorem ixN_nat {n k : Nat} (h : k < n) : ixN n (k : Int) = some k := by
  unfold ixN
  rw [if_pos (by omega), if_pos (by omega)]; simp
theorem at_none {α : Type} {xs : List α} {k : Nat} {a : α} (h : xs[k]? = some a) : atI xs (k : Int) = some a := atI_nat h
/-- two fors in a comprehension -/
theorem lc2L_map {α β : Type} {tgt tgt1 : Tgt} {cond cond1 : Ev → Option Bool} {src1 : Ev → Option (List D)} {vs1 : List Nat} {elt : Ev → Option D} {f : α → D} {g : α → β → D} {zs : α → List β} {h : α → β → D} {env : Ev} :
    ∀ {xs : List α}, (∀ x ∈ xs, ∃ e1, tgt (f x) env = some e1 ∧ cond e1 = some true ∧ src1 e1 = some ((zs x).map (g x)) ∧ ∀ z ∈ zs x, ∃ e2, tgt1 (g x z) (fgs e1 vs1) = some e2 ∧ cond1 e2 = some true ∧ elt e2 = some (h x z)) →
      lc2L tgt cond src1 vs1 tgt1 cond1 elt (xs.map f) env = some (xs.flatMap fun x => (zs x).map (h x))
  | [], _ => rfl
  | x :: r, H => by
    obtain ⟨e1, h1, h2, h3, h4⟩ := H x (by simp)
    have ih := lc2L_map (tgt := tgt) (tgt1 := tgt1) (cond := cond) (cond1 := cond1) (src1 := src1) (vs1 := vs1) (elt := elt) (f := f) (g := g) (zs := zs) (h := h) (env := env) (xs := r) fun y hy => H y (by simp [hy])
    show (tgt (f x) env).bind _ = _
    rw [h1]
    show (cond e1).bind _ = _
    rw [h2]
    show (src1 e1).bind _ = _
    rw [h3]
    show (lcL tgt1 cond1 elt ((zs x).map (g x)) (fgs e1 vs1)).bind _ = _
    rw [lcL_map h4]
    show (lc2L tgt cond src1 vs1 tgt1 cond1 elt (r.map f) env).map _ = _
    rw [ih]; rfl
theorem nLc2_map {α β : Type} {vs : List Nat} {src : Ev → Option (List D)} {tgt tgt1 : Tgt} {cond cond1 : Ev → Option Bool} {src1 : Ev → Option (List D)} {vs1 : List Nat} {elt : Ev → Option D} {f : α → D} {g : α → β → D} {zs : α → List β} {h : α → β → D} {env : Ev} {xs : List α}
    (hs : src env = some (xs.map f)) (hl : (xs.flatMap fun x => (zs x).map (h x)).length ≤ line)
    (H : ∀ x ∈ xs, ∃ e1, tgt (f x) (fgs env vs) = some e1 ∧ cond e1 = some true ∧ src1 e1 = some ((zs x).map (g x)) ∧ ∀ z ∈ zs x, ∃ e2, tgt1 (g x z) (fgs e1 vs1) = some e2 ∧ cond1 e2 = some true ∧ elt e2 = some (h x z)) :
      nLc2 vs src tgt cond src1 vs1 tgt1 cond1 elt env = some (xs.flatMap fun x => (zs x).map (h x)) := by
  unfold nLc2
  rw [hs]
  show (lc2L tgt cond src1 vs1 tgt1 cond1 elt (xs.map f) (fgs env vs)).bind _ = _
  rw [lc2L_map H]
  exact if_pos hl
/-- a step of a loop over a list -/
theorem mem_get {α : Type} {xs : List α} {i : Nat} {x : α} (h : xs[i]? = some x) : x ∈ xs := List.mem_of_getElem? h
theorem take_snoc {α : Type} {xs : List α} {i : Nat} {x : α} (h : xs[i]? = some x) : xs.take (i + 1) = xs.take i ++ [x] := by
  rw [List.take_add_one, h]; rfl
/-! ### slices -/
theorem cut_to {α : Type} {xs : List α} {k : Nat} : cutL xs none (some (k : Int)) = xs.take k := by
  unfold cutL
  rw [HT.sIx_none, HT.sIx_nat, List.drop_zero, Nat.sub_zero]
  by_cases h : k ≤ xs.length
  · rw [Nat.min_eq_left h]
  · rw [Nat.min_eq_right (by omega), List.take_length, List.take_of_length_le (by omega)]
theorem cut_toI {α : Type} {xs : List α} {k : Int} (h : 0 ≤ k) : cutL xs none (some k) = xs.take k.toNat := by
  rw [← cut_to, Int.toNat_of_nonneg h]
theorem cut_from {α : Type} {xs : List α} {k : Nat} : cutL xs (some (k : Int)) none = xs.drop k := by
  unfold cutL
  rw [HT.sIx_none, HT.sIx_nat]
  by_cases h : k ≤ xs.length
  · rw [Nat.min_eq_left h, List.take_of_length_le (by rw [List.length_drop]; omega)]
  · rw [Nat.min_eq_right (by omega), Nat.sub_self, List.take_zero, List.drop_of_length_le (by omega)]
theorem cut_m1 {α : Type} {xs : List α} : cutL xs none (some (-1)) = xs.take (xs.length - 1) := by
  unfold cutL
  rw [HT.sIx_none]
  have : HT.sIx xs.length xs.length (some (-1)) = xs.length - 1 := by
    unfold HT.sIx
    simp only
    rw [if_pos (by decide)]; omega
  rw [this, List.drop_zero, Nat.sub_zero]
theorem cut_map {α β : Type} {f : α → β} {xs : List α} {lo hi : Option Int} : cutL (xs.map f) lo hi = (cutL xs lo hi).map f := by
  unfold cutL; simp [List.map_take, List.map_drop]
theorem pick_map {α β : Type} {f : α → β} {xs : List α} {lo hi : Option Int} {st : Int} : pickL (xs.map f) lo hi st = (pickL xs lo hi st).map f := by
  unfold pickL
  rw [List.length_map, List.map_filterMap]
  congr 1; funext k; rw [List.getElem?_map]
theorem fm_range {α : Type} : ∀ {m : Nat} {f : Nat → Option α} {ys : List α}, ys.length = m → (∀ k, k < m → f k = ys[k]?) → (List.range m).filterMap f = ys
  | 0, f, ys, hl, _ => by
    have : ys = [] := List.length_eq_zero_iff.mp hl
    subst this; rfl
  | m + 1, f, ys, hl, h => by
    rcases List.eq_nil_or_concat ys with e | ⟨g, a, e⟩
    · subst e; simp at hl
    · have e : ys = g ++ [a] := by simpa using e
      subst e
      have hg : g.length = m := by simpa using hl
      rw [List.range_succ, List.filterMap_append, fm_range (ys := g) hg fun k hk => by rw [h k (by omega), List.getElem?_append_left (by omega)]]
      have : f m = some a := by rw [h m (by omega), ← hg]; simp
      simp [this]
theorem pick_two {α : Type} {xs ys : List α} {lo : Option Int} {a : Nat} (ha : a ≤ 1) (hlo : lo = some (a : Int) ∨ lo = none ∧ a = 0) (hx : a ≤ xs.length) (hl : ys.length = (xs.length - a + 1) / 2) (h : ∀ k, k < ys.length → xs[a + 2 * k]? = ys[k]?) : pickL xs lo none 2 = ys := by
  have h1 : (Builtin.Slice.sliceAdjust lo none 2 (xs.length : Int)) = ((a : Int), (xs.length : Int)) := by
    unfold Builtin.Slice.sliceAdjust
    have hn : ¬ ((2 : Int) < 0) := by decide
    simp only [hn, if_false]
    refine Prod.ext ?_ rfl
    rcases hlo with rfl | ⟨rfl, rfl⟩
    · simp only
      rw [if_neg (by omega)]; omega
    · rfl
  unfold pickL
  rw [h1]
  have h2 : Builtin.Slice.slicePlaces (a : Int) (xs.length : Int) 2 = ys.length := by
    unfold Builtin.Slice.slicePlaces
    rw [if_pos (by decide)]
    split <;> omega
  show (List.range (Builtin.Slice.slicePlaces (a : Int) (xs.length : Int) 2)).filterMap _ = _
  rw [h2]
  refine fm_range rfl fun k hk => ?_
  rw [← h k hk]
  congr 1
  show ((a : Int) + (k : Int) * 2).toNat = _
  omega
/-! ### in, == of ints -/
theorem memD_ints {a : Int} {ns : List Int} : memD (.int a) (ns.map .int) = decide (a ∈ ns) := by
  unfold memD
  induction ns with
  | nil => simp
  | cons x r ih =>
    rw [List.map_cons, List.any_cons, ih]
    show ((x == a) || _) = _
    by_cases h : x = a
    · subst h; simp
    · have : ¬ a = x := fun e => h e.symm
      simp [h, this]
theorem inD_t {a : Int} {ns : List Int} : inD (.int a) (.tuple (ns.map .int)) = some (.bool (decide (a ∈ ns))) := by
  show (if _ then _ else _) = _
  rw [gd_okD (gd_i (n := 0) (a := a)), gd_okD (gd_lI (n := 0) (ns := ns)), memD_ints]; rfl
theorem inD_l {a : Int} {ns : List Int} : inD (.int a) (.list (ns.map .int)) = some (.bool (decide (a ∈ ns))) := by
  show (if _ then _ else _) = _
  rw [gd_okD (gd_i (n := 0) (a := a)), gd_okD (gd_lI (n := 0) (ns := ns)), memD_ints]; rfl
theorem eqD_tt {xs ys : List Int} : eqD (.tuple (xs.map .int)) (.tuple (ys.map .int)) = some (.bool (decide (xs = ys))) := by
  rw [eqD_of (gd_tI (n := 0)) (gd_tI (n := 0))]
  simp only [PyData.eqv, eqvAll_ints]
theorem neD_tt {xs ys : List Int} : neD (.tuple (xs.map .int)) (.tuple (ys.map .int)) = some (.bool (!decide (xs = ys))) := by
  rw [neD_of (gd_tI (n := 0)) (gd_tI (n := 0))]
  simp only [PyData.eqv, eqvAll_ints]
end PVL
end

section
set_option maxRecDepth 100000
set_option maxHeartbeats 4000000
namespace K55
open PySem L2 PV PVL
theorem sumD_r {n : Nat} {v : Nat → Int} : sumD [.list ((List.range n).map fun j => .int (v j))] = some (.int (sm n v)) := by
  have e : (List.range n).map (fun j => PyData.int (v j)) = ((List.range n).map v).map PyData.int := by rw [List.map_map]; rfl
  rw [e, sumD_l, sum_map]
theorem sumD_tu {n : Nat} {v : Nat → Int} : sumD [tu n v] = some (.int (sm n v)) := by
  have e : tu n v = .tuple (((List.range n).map v).map PyData.int) := by unfold tu; rw [List.map_map]; rfl
  rw [e, sumD_t, sum_map]
/-- a comprehension over range(da) as a tuple -/
theorem comp_tu {elt da : Ev → Option D} {env : Ev} {v n : Nat} {f : Nat → Int} (h1 : da env = some (.int n)) (hn : n ≤ 1000) (H : ∀ i : Nat, i < n → elt (st (st env v none) v (some (.v (.int (0 + i))))) = some (.int (f i))) :
    eA tupOfD (aCons (eLst (nLc [v] (nA rg1 (aCons da aNil)) (gN v) tTrue elt)) aNil) env = some (tu n f) :=
  call1 (u := .list ((List.range n).map fun i => .int (f i))) (by rw [eLst_ap, comp_r h1 hn H]; rfl) rfl
theorem sum_r {elt da : Ev → Option D} {env : Ev} {v n : Nat} {f : Nat → Int} (h1 : da env = some (.int n)) (hn : n ≤ 1000) (H : ∀ i : Nat, i < n → elt (st (st env v none) v (some (.v (.int (0 + i))))) = some (.int (f i))) :
    eA sumD (aCons (eLst (nLc [v] (nA rg1 (aCons da aNil)) (gN v) tTrue elt)) aNil) env = some (.int (sm n f)) :=
  call1 (u := .list ((List.range n).map fun i => .int (f i))) (by rw [eLst_ap, comp_r h1 hn H]; rfl) sumD_r
def sg (n : Nat) (x : Nat → Int) : Prop := ∀ j, j < n → x j = 1 ∨ x j = -1
def E (n : Nat) (x : Nat → Int) (k : Nat) : Int := sm (n - k) fun p => x p * x (p + k)
def RE (n : Nat) (x : Nat → Int) (k : Nat) : Int := sm n fun p => x p * x ((p + k) % n)
theorem sg_bd {n : Nat} {x : Nat → Int} (h : sg n x) {j : Nat} (hj : j < n) : -18446744073709551616 < x j ∧ x j < 18446744073709551616 := by
  rcases h j hj with e | e <;> rw [e] <;> decide
theorem echo_ok (n : Nat) (x : Nat → Int) (hn : n ≤ 1000) (hx : sg n x) : F_echo_of [tu n x] = some (tu n (E n x)) := by
  refine runD_rt rfl (show den_echo_of [some (.v (tu n x)), none, none, none] = _ from ?_)
  unfold den_echo_of
  refine (sSeq_nx (e := [some (.v (tu n x)), some (.v (.int n)), none, none]) (set_ap (by simp [tu_len]))).trans ?_
  refine ret_ap (comp_tu (by simp) hn fun i hi => ?_)
  refine sum_r (n := n - i) (f := fun p => x p * x (p + i)) ?_ (by omega) fun p hp => ?_
  · simp only [e2_ap, eVar_s, eVar_z, st_s, st_z, Option.bind_some, subD_i]
    congr 2; omega
  · have h1 : ixD (tu n x) (.int (0 + (p : Int))) = some (.int (x p)) := by rw [Int.zero_add]; exact tu_ix (by omega)
    have h2 : ixD (tu n x) (.int (0 + (p : Int) + (0 + (i : Int)))) = some (.int (x (p + i))) := by
      rw [show 0 + (p : Int) + (0 + (i : Int)) = ((p + i : Nat) : Int) by omega]; exact tu_ix (by omega)
    have hb := sg_bd hx (show p < n by omega)
    simp only [e2_ap, eVar_s, eVar_z, st_s, st_z, Option.bind_some, addD_i, h1, h2, mulD_l hb.1 hb.2]
theorem recho_ok (n : Nat) (x : Nat → Int) (hn : n ≤ 1000) (hx : sg n x) : F_round_echo [tu n x] = some (tu n (RE n x)) := by
  refine runD_rt rfl (show den_round_echo [some (.v (tu n x)), none, none, none] = _ from ?_)
  unfold den_round_echo
  refine (sSeq_nx (e := [some (.v (tu n x)), some (.v (.int n)), none, none]) (set_ap (by simp [tu_len]))).trans ?_
  refine ret_ap (comp_tu (by simp) hn fun i hi => ?_)
  refine sum_r (n := n) (f := fun p => x p * x ((p + i) % n)) (by simp) (by omega) fun p hp => ?_
  have h1 : ixD (tu n x) (.int (0 + (p : Int))) = some (.int (x p)) := by rw [Int.zero_add]; exact tu_ix (by omega)
  have hl : (p + i) % n < n := Nat.mod_lt _ (by omega)
  have e2 : (0 + (p : Int) + (0 + (i : Int))) % (n : Int) = (((p + i) % n : Nat) : Int) := by
    rw [show 0 + (p : Int) + (0 + (i : Int)) = ((p + i : Nat) : Int) by omega]; rfl
  have hb := sg_bd hx (show p < n by omega)
  simp only [e2_ap, eVar_s, eVar_z, st_s, st_z, Option.bind_some, addD_i, h1, modD_i (show (0 : Int) < n by omega), e2, tu_ix hl, mulD_l hb.1 hb.2]
/-! ### the identities -/
variable {n k : Nat} {x : Nat → Int}
theorem E_zero (hx : sg n x) : E n x 0 = n := by
  unfold E
  have : ∀ m, m ≤ n → sm m (fun p => x p * x (p + 0)) = (m : Int) := by
    intro m
    induction m with
    | zero => intro _; rfl
    | succ m ih =>
      intro h
      show sm m _ + x m * x (m + 0) = _
      rw [ih (by omega), Nat.add_zero]
      rcases hx m (by omega) with e | e <;> rw [e] <;> omega
  exact this n (Nat.le_refl _)
theorem E_par (hx : sg n x) (hk : k < n) : (E n x k + n - k) % 2 = 0 := by
  unfold E
  have : ∀ m, m + k ≤ n → (sm m (fun p => x p * x (p + k)) + (m : Int)) % 2 = 0 := by
    intro m
    induction m with
    | zero => intro _; rfl
    | succ m ih =>
      intro h
      have := ih (by omega)
      show (sm m _ + x m * x (m + k) + ((m + 1 : Nat) : Int)) % 2 = 0
      rcases hx m (by omega) with e | e <;> rcases hx (m + k) (by omega) with e2 | e2 <;> rw [e, e2] <;> omega
  have := this (n - k) (by omega)
  omega
theorem E_neg : E n (fun j => 0 - x j) k = E n x k := sm_congr fun p _ => by
  show (0 - x p) * (0 - x (p + k)) = _
  rw [Int.zero_sub, Int.zero_sub, Int.neg_mul_neg]
theorem E_back (hk : k < n) : E n (fun j => x (n - 1 - j)) k = E n x k := by
  unfold E
  rw [← sm_back (n - k) fun p => x p * x (p + k)]
  refine sm_congr fun p hp => ?_
  show x (n - 1 - p) * x (n - 1 - (p + k)) = x (n - k - 1 - p) * x (n - k - 1 - p + k)
  rw [Int.mul_comm]
  congr 2 <;> omega
def cs1 (k : Nat) : Int := if k % 2 = 0 then 1 else -1
theorem cs1_add (p k : Nat) : cs1 p * cs1 (p + k) = cs1 k := by
  unfold cs1
  rcases Nat.mod_two_eq_zero_or_one p with h | h <;> rcases Nat.mod_two_eq_zero_or_one k with h2 | h2 <;> rw [Nat.add_mod, h, h2] <;> rfl
theorem E_alt : E n (fun j => cs1 j * x j) k = cs1 k * E n x k := by
  unfold E
  rw [← sm_mul]
  refine sm_congr fun p _ => ?_
  rw [← cs1_add p k, Int.mul_assoc, Int.mul_assoc, Int.mul_left_comm (x p)]
theorem sm_split (f : Nat → Int) (a : Nat) : ∀ b, sm (a + b) f = sm a f + sm b fun q => f (a + q)
  | 0 => by simp [sm]
  | b + 1 => by
    show sm (a + b) f + f (a + b) = _
    rw [sm_split f a b]; simp only [sm]; omega
theorem RE_zero (hx : sg n x) : RE n x 0 = n := by
  rw [← E_zero hx]
  unfold RE E
  rw [Nat.sub_zero]
  exact sm_congr fun p hp => by rw [Nat.add_zero, Nat.mod_eq_of_lt hp]
theorem RE_two (h0 : 0 < k) (hk : k < n) : RE n x k = E n x k + E n x (n - k) := by
  unfold RE E
  rw [show sm n (fun p => x p * x ((p + k) % n)) = sm ((n - k) + k) (fun p => x p * x ((p + k) % n)) by congr 1; omega, sm_split]
  congr 1
  · exact sm_congr fun p hp => by rw [Nat.mod_eq_of_lt (by omega)]
  · rw [show n - (n - k) = k by omega]
    refine sm_congr fun q hq => ?_
    rw [show n - k + q + k = q + n by omega, Nat.add_mod_right, Nat.mod_eq_of_lt (by omega), Int.mul_comm]
    congr 2; omega
theorem RE_turn (b : Nat) : RE n (fun j => x ((j + b) % n)) k = RE n x k := by
  unfold RE
  rw [← sm_rot n (fun p => x p * x ((p + k) % n)) b]
  refine sm_congr fun p hp => ?_
  show x _ * x _ = x _ * x _
  congr 2
  rw [Nat.mod_add_mod, Nat.mod_add_mod]; congr 1; omega
theorem RE_sum : sm n (RE n x) = sm n x * sm n x := by
  unfold RE
  rw [sm_comm, ← sm_mulr]
  refine sm_congr fun p hp => ?_
  rw [sm_mul]
  congr 1
  rw [← sm_rot n x p]
  exact sm_congr fun j _ => by rw [Nat.add_comm]
end K55
end

section
set_option maxRecDepth 100000
set_option maxHeartbeats 4000000
namespace K55
open PySem L2 PV PVL
variable {n k : Nat} {x : Nat → Int}
def ab (a : Int) : Int := if a < 0 then -a else a
def qt (n : Nat) (e : Nat → Int) : Bool := ((List.range n).drop 1).all fun k => decide (ab (e k) < 2)
theorem qt_congr {e e' : Nat → Int} (h : ∀ k, k < n → ab (e k) = ab (e' k)) : qt n e = qt n e' := by
  unfold qt
  rw [Bool.eq_iff_iff, List.all_eq_true, List.all_eq_true]
  constructor
  · intro H k hk
    rw [← h k (List.mem_range.mp (List.mem_of_mem_drop hk))]; exact H k hk
  · intro H k hk
    rw [h k (List.mem_range.mp (List.mem_of_mem_drop hk))]; exact H k hk
theorem allD_map {α : Type} {xs : List α} {p : α → Bool} : allD [.list (xs.map fun x => .bool (p x))] = some (.bool (xs.all p)) := by
  have e : xs.map (fun x => PyData.bool (p x)) = (xs.map p).map .bool := by rw [List.map_map]; rfl
  rw [e, allD_l, List.all_map]; rfl
theorem anyD_map {α : Type} {xs : List α} {p : α → Bool} : anyD [.list (xs.map fun x => .bool (p x))] = some (.bool (xs.any p)) := by
  have e : xs.map (fun x => PyData.bool (p x)) = (xs.map p).map .bool := by rw [List.map_map]; rfl
  rw [e, anyD_l, List.any_map]; rfl
/-- all(abs(part) < 2 for part in t[1:]) -/
theorem quiet_ap {da : Ev → Option D} {env : Ev} {v : Nat} {e : Nat → Int} (h : da env = some (tu n e)) (hn : n ≤ 1000) (H : ∀ d, eVar v (st (st env v none) v (some (.v d))) = some d) :
    eA allD (aCons (eLst (nLc [v] (iSeq (eSl slD da (pI (eC (.int 1))) pN)) (gN v) tTrue (e2 ltD (eA absD (aCons (eVar v) aNil)) (eC (.int 2))))) aNil) env = some (.bool (qt n e)) := by
  refine call1 (u := .list (((List.range n).drop 1).map fun k => .bool (decide (ab (e k) < 2)))) ?_ allD_map
  rw [eLst_ap, nLc_map (xs := (List.range n).drop 1) (f := fun k => .int (e k)) (h := fun k => .bool (decide (ab (e k) < 2)))]
  · rfl
  · simp only [iSeq_ap, eSl_ap, pI_ap, pN_ap, eC_ap, h, Option.bind_some, isI_int, Option.map_some, tu, slD_t, seqD_t]
    rw [show (1 : Int) = ((1 : Nat) : Int) from rfl, cut_from, ← List.map_drop]
  · exact le_line (by simp; omega)
  · intro k hk
    refine ⟨_, rfl, rfl, ?_⟩
    have hv : eVar v (st (fgs env [v]) v (some (.v (.int (e k))))) = some (.int (e k)) := H _
    simp only [e2_ap, eA_ap, aCons_ap, aNil_ap, eC_ap, hv, Option.bind_some, absD_i, ltD_i]
    rfl
theorem quiet_ok (n : Nat) (x : Nat → Int) (hn : n ≤ 1000) (hx : sg n x) : F_is_quiet [tu n x] = some (.bool (qt n (E n x))) := by
  refine runD_rt rfl (show den_is_quiet [some (.v (tu n x)), none] = _ from ?_)
  unfold den_is_quiet
  exact ret_ap (quiet_ap (call1 (by simp) (echo_ok n x hn hx)) hn fun d => rfl)
theorem rev_ap {n : Nat} {x : Nat → Int} (hn : n ≤ 1000) : stepD (-1) (tu n x) none none = some (tu n fun j => x (n - 1 - j)) := by
  have h1 : pickL ((List.range n).map fun i => PyData.int (x i)) none none (-1) = (List.range n).map fun j => PyData.int (x (n - 1 - j)) := by
    unfold pickL
    have hl : ((List.range n).map fun i => PyData.int (x i)).length = n := by simp
    rw [hl]
    have ha : Builtin.Slice.sliceAdjust none none (-1) (n : Int) = ((n : Int) - 1, -1) := by
      unfold Builtin.Slice.sliceAdjust
      have hn : ((-1 : Int) < 0) := by decide
      simp only [hn, if_true]
    rw [ha]
    have hp : Builtin.Slice.slicePlaces ((n : Int) - 1) (-1) (-1) = n := by
      unfold Builtin.Slice.slicePlaces
      rw [if_neg (by decide), show -(-1 : Int) = 1 from rfl, Int.ediv_one]
      split <;> omega
    show (List.range (Builtin.Slice.slicePlaces ((n : Int) - 1) (-1) (-1))).filterMap _ = _
    rw [hp]
    refine fm_range (by simp) fun k hk => ?_
    show ((List.range n).map fun i => PyData.int (x i))[((n : Int) - 1 + (k : Int) * -1).toNat]? = _
    rw [show ((n : Int) - 1 + (k : Int) * -1).toNat = n - 1 - k by omega, List.getElem?_map, List.getElem?_range (by omega), List.getElem?_map, List.getElem?_range hk]
    rfl
  show (if _ then _ else _) = _
  rw [h1, if_pos (by simp; exact le_line (by omega))]
  rfl
end K55
end

section
set_option maxRecDepth 100000
set_option maxHeartbeats 4000000
namespace K55
open PySem L2 PV PVL
theorem ab_cs (k : Nat) (a : Int) : ab (cs1 k * a) = ab a := by
  unfold cs1 ab
  split
  · rw [Int.one_mul]
  · rw [Int.neg_mul, Int.one_mul]
    split <;> split <;> omega
theorem sign_ap {da : Ev → Option D} {env : Ev} {k : Nat} (h : da env = some (.int (k : Int))) : e2 ixD (eTup (aCons (eC (.int 1)) (aCons (e1 negD (eC (.int 1))) aNil))) (e2 modD (eA intD (aCons da aNil)) (eC (.int 2))) env = some (.int (cs1 k)) := by
  have ht : eTup (aCons (eC (.int 1)) (aCons (e1 negD (eC (.int 1))) aNil)) env = some (.tuple [.int 1, .int (-1)]) := rfl
  rw [e2_ap, ht]
  simp (disch := omega) only [e2_ap, eA_ap, aCons_ap, aNil_ap, eC_ap, h, Option.bind_some, intD_i, modD_i]
  unfold cs1
  rcases Nat.mod_two_eq_zero_or_one k with h2 | h2
  · rw [show (k : Int) % 2 = 0 by omega, if_pos h2]; rfl
  · rw [show (k : Int) % 2 = 1 by omega, if_neg (by omega)]; rfl
theorem turn_cut {n b : Nat} {x : Nat → Int} (hb : b < n) : ((List.range n).map fun i => PyData.int (x i)).drop b ++ ((List.range n).map fun i => PyData.int (x i)).take b = (List.range n).map fun j => PyData.int (x ((j + b) % n)) := by
  apply List.ext_getElem?
  intro j
  rw [List.getElem?_append]
  by_cases hj : j < n
  · rw [List.getElem?_map (l := List.range n) (i := j), List.getElem?_range hj]
    by_cases h : j < n - b
    · rw [if_pos (by simp; omega), List.getElem?_drop, List.getElem?_map, List.getElem?_range (by omega)]
      simp only [Option.map_some]
      rw [Nat.mod_eq_of_lt (by omega), Nat.add_comm]
    · rw [if_neg (by simp; omega), List.length_drop, List.length_map, List.length_range, List.getElem?_take_of_lt (by omega), List.getElem?_map, List.getElem?_range (by omega)]
      simp only [Option.map_some]
      rw [show j + b = (j - (n - b)) + n by omega, Nat.add_mod_right, Nat.mod_eq_of_lt (by omega)]
  · rw [List.getElem?_eq_none (l := List.map (fun j => PyData.int (x ((j + b) % n))) (List.range n)) (by simp; omega)]
    split
    · rename_i h; simp at h; omega
    · rw [List.getElem?_eq_none (by simp; omega)]
theorem turns_ok {n : Nat} (x : Nat → Int) (hn : n ≤ 1000) : F__law_turns [tu n x] = some (.list ((List.range n).map fun b => tu n fun j => x ((j + b) % n))) := by
  refine runD_rt rfl (show den__law_turns [some (.v (tu n x)), none] = _ from ?_)
  unfold den__law_turns
  refine ret_ap ?_
  rw [eLst_ap, comp_r (n := n) (f := fun b => tu n fun j => x ((j + b) % n)) (by simp [tu_len]) hn ?_]
  · rfl
  · intro b hb
    simp only [e2_ap, eSl_ap, pI_ap, pN_ap, eVar_s, eVar_z, st_s, st_z, Option.bind_some, isI_int, Option.map_some, Int.zero_add, tu, slD_t]
    rw [cut_to, cut_from]
    simp only [addD_t]
    rw [turn_cut hb, if_pos]
    have h := congrArg List.length (turn_cut (x := x) hb)
    rw [List.length_append] at h
    rw [h]; exact le_line (by simp; omega)
theorem echo_right {n : Nat} (x : Nat → Int) (h0 : 0 < n) (hn : n ≤ 1000) (hx : sg n x) (b : Nat) (hb : b < n) : F__law_echo_right [tu n x, .int (b : Int)] = some (.bool true) := by
  have hov : sg n fun j => 0 - x j := fun j hj => by rcases hx j hj with e | e <;> simp [e]
  have hbk : sg n fun j => x (n - 1 - j) := fun j hj => hx _ (by omega)
  have hal : sg n fun j => cs1 j * x j := fun j hj => by
    show cs1 j * x j = 1 ∨ cs1 j * x j = -1
    unfold cs1
    rcases hx j hj with e | e <;> rw [e] <;> split <;> simp
  have htn : sg n fun j => x ((j + b) % n) := fun j hj => hx _ (Nat.mod_lt _ h0)
  have eov : E n (fun j => 0 - x j) = E n x := funext fun k => E_neg
  have eal : E n (fun j => cs1 j * x j) = fun k => cs1 k * E n x k := funext fun k => E_alt
  have ebk : tu n (E n fun j => x (n - 1 - j)) = tu n (E n x) := tu_congr fun k hk => E_back hk
  have hE0 := E_zero hx
  have hc : ∀ k : Nat, -18446744073709551616 < cs1 k ∧ cs1 k < 18446744073709551616 := fun k => by unfold cs1; split <;> decide
  refine runD_rt rfl (show den__law_echo_right [some (.v (tu n x)), some (.v (.int b)), none, none, none, none, none, none, none, none, none, none] = _ from ?_)
  unfold den__law_echo_right
  refine (sSeq_nx (e := [some (.v (tu n x)), some (.v (.int b)), some (.v (tu n (E n x))), some (.v (.int n)), none, none, none, none, none, none, none, none]) ?_).trans ?_
  · rw [sAsg_ap, pair_ap (call1 (u := tu n x) (by simp) (echo_ok n x hn hx)) (call1 (u := tu n x) (by simp) tu_len)]
    rfl
  refine (sSeq_nx (pass (tOr_ff (by simp [tu]) (tOr_ff ?_ (tNo_of ?_))))).trans ?_
  · simp only [t1_ap, e2_ap, eA_ap, aCons_ap, aNil_ap, eVar_s, eVar_z, Option.bind_some, tu_len, neD_i, isB_bl]
    simp
  · refine call1 (u := .list ((List.range n).map fun _ => .bool true)) ?_ ?_
    · rw [eLst_ap, nLc_map (xs := List.range n) (f := fun k => .int (E n x k)) (h := fun _ => .bool true)]
      · rfl
      · simp [tu]
      · exact le_line (by simp; omega)
      · intro k hk
        refine ⟨_, rfl, rfl, call1 (u := .int (E n x k)) rfl (is_int_i _)⟩
    · rw [allD_map]; simp
  refine (sSeq_nx (pass (tOr_ff ?_ ?_))).trans ?_
  · have : ixD (tu n (E n x)) (.int 0) = some (.int (E n x 0)) := tu_ix (k := 0) h0
    simp only [t1_ap, e2_ap, eC_ap, eVar_s, eVar_z, Option.bind_some, this, hE0, neD_i, isB_bl]
    simp
  · rw [t1_ap, call1 (u := .list ((List.range n).map fun k => .bool false)) (z := .bool false) ?_ (by rw [anyD_map]; simp)]
    · rfl
    · rw [eLst_ap, comp_r (n := n) (f := fun _ => .bool false) (by simp) hn ?_]
      · rfl
      · intro k hk
        have hp := E_par hx hk
        simp (disch := omega) only [e2_ap, eA_ap, aCons_ap, aNil_ap, eC_ap, eVar_s, eVar_z, st_s, st_z, Option.bind_some, Int.zero_add, tu_ix hk, addD_i, subD_i, intD_i, modD_i, eqD_i]
        rw [hp]; rfl
  refine (sSeq_nx (e := [some (.v (tu n x)), some (.v (.int b)), some (.v (tu n (E n x))), some (.v (.int n)), some (.v (tu n fun j => 0 - x j)), none, none, none, none, none, none, none]) (set_ap ?_)).trans ?_
  · refine call1 (u := .list ((List.range n).map fun j => .int (0 - x j))) ?_ rfl
    rw [eLst_ap, nLc_map (xs := List.range n) (f := fun k => .int (x k)) (h := fun j => .int (0 - x j))]
    · rfl
    · simp [tu]
    · exact le_line (by simp; omega)
    · intro k hk
      exact ⟨_, rfl, rfl, rfl⟩
  have hrev : ∀ e : Ev, eVar 0 e = some (tu n x) → eSl (stepD (-1)) (eVar 0) pN pN e = some (tu n fun j => x (n - 1 - j)) := fun e he => by
    simp only [eSl_ap, pN_ap, he, Option.bind_some]
    exact rev_ap hn
  have tlE : ∀ f : Nat → Int, tl 9 (tu n f) = true := fun f => tu_tl 8 (by omega)
  have tl2 : ∀ f g : Nat → Int, tl 10 (.tuple [tu n f, tu n g]) = true := fun f g => tl_t (by simp) fun z hz => by
    rcases List.mem_cons.mp hz with rfl | hz
    · exact tlE _
    · simp at hz; subst hz; exact tlE _
  refine (sSeq_nx (pass (tNo_of (like_ap (d := .tuple [tu n (E n x), tu n (E n x)]) (pair_ap ?_ ?_) (pair_ap (by simp) (by simp)) (tl2 _ _))))).trans ?_
  · rw [← eov]; exact call1 (by simp) (echo_ok n _ hn hov)
  · rw [← ebk]; exact call1 (hrev _ (by simp)) (echo_ok n _ hn hbk)
  refine (sSeq_nx (e := [some (.v (tu n x)), some (.v (.int b)), some (.v (tu n (E n x))), some (.v (.int n)), some (.v (tu n fun j => 0 - x j)), some (.v (tu n fun j => cs1 j * x j)), none, none, none, none, none, none]) (set_ap (comp_tu (by simp) hn fun k hk => ?_))).trans ?_
  · rw [e2_ap, sign_ap (k := k) (by simp)]
    simp only [e2_ap, eVar_s, eVar_z, st_s, st_z, Option.bind_some, Int.zero_add, tu_ix hk, mulD_l (hc k).1 (hc k).2]
  refine (sSeq_nx (pass (tNo_of (like_ap (d := tu n fun k => cs1 k * E n x k) ?_ ?_ (tu_tl 9 (by omega)))))).trans ?_
  · rw [← eal]; exact call1 (by simp) (echo_ok n _ hn hal)
  · refine comp_tu (by simp) hn fun k hk => ?_
    rw [e2_ap, sign_ap (k := k) (by simp)]
    simp only [e2_ap, eVar_s, eVar_z, st_s, st_z, Option.bind_some, Int.zero_add, tu_ix hk, mulD_l (hc k).1 (hc k).2]
  have hwhole : e2 addD (eTup (aCons (eVar 3) aNil)) (eA tupOfD (aCons (eLst (nLc [9] (nA rg2 (aCons (eC (.int 1)) (aCons (eVar 3) aNil))) (gN 9) tTrue (e2 addD (e2 ixD (eVar 2) (eVar 9)) (e2 ixD (eVar 2) (e2 subD (eVar 3) (eVar 9)))))) aNil)) [some (.v (tu n x)), some (.v (.int b)), some (.v (tu n (E n x))), some (.v (.int n)), some (.v (tu n fun j => 0 - x j)), some (.v (tu n fun j => cs1 j * x j)), none, none, none, none, none, none] = some (tu n (RE n x)) := by
    have h1 : eTup (aCons (eVar 3) aNil) [some (.v (tu n x)), some (.v (.int b)), some (.v (tu n (E n x))), some (.v (.int n)), some (.v (tu n fun j => 0 - x j)), some (.v (tu n fun j => cs1 j * x j)), none, none, none, none, none, none] = some (.tuple [.int (n : Int)]) := rfl
    have h2 : nLc [9] (nA rg2 (aCons (eC (.int 1)) (aCons (eVar 3) aNil))) (gN 9) tTrue (e2 addD (e2 ixD (eVar 2) (eVar 9)) (e2 ixD (eVar 2) (e2 subD (eVar 3) (eVar 9)))) [some (.v (tu n x)), some (.v (.int b)), some (.v (tu n (E n x))), some (.v (.int n)), some (.v (tu n fun j => 0 - x j)), some (.v (tu n fun j => cs1 j * x j)), none, none, none, none, none, none] = some ((List.range (n - 1)).map fun i => .int (RE n x (i + 1))) := by
      refine nLc_rng (lo := 1) (n := n - 1) ?_ (le_line (by omega)) fun i hi => ⟨_, rfl, rfl, ?_⟩
      · refine nA_of (ds := [.int 1, .int (n : Int)]) (by simp) ?_
        rw [rg2_i (by decide) (by decide) (by omega) (by omega)]
        congr 2; omega
      · have i1 : ixD (tu n (E n x)) (.int (1 + (i : Int))) = some (.int (E n x (i + 1))) := by
          rw [show 1 + (i : Int) = ((i + 1 : Nat) : Int) by omega]; exact tu_ix (by omega)
        have i2 : ixD (tu n (E n x)) (.int ((n : Int) - (1 + (i : Int)))) = some (.int (E n x (n - (i + 1)))) := by
          rw [show (n : Int) - (1 + (i : Int)) = ((n - (i + 1) : Nat) : Int) by omega]; exact tu_ix (by omega)
        simp only [e2_ap, eVar_s, eVar_z, st_s, st_z, fgs_c, fgs_n, Option.bind_some, subD_i, i1, i2, addD_i]
        rw [RE_two (by omega) (by omega)]
    have h3 : eA tupOfD (aCons (eLst (nLc [9] (nA rg2 (aCons (eC (.int 1)) (aCons (eVar 3) aNil))) (gN 9) tTrue (e2 addD (e2 ixD (eVar 2) (eVar 9)) (e2 ixD (eVar 2) (e2 subD (eVar 3) (eVar 9)))))) aNil) [some (.v (tu n x)), some (.v (.int b)), some (.v (tu n (E n x))), some (.v (.int n)), some (.v (tu n fun j => 0 - x j)), some (.v (tu n fun j => cs1 j * x j)), none, none, none, none, none, none] = some (.tuple ((List.range (n - 1)).map fun i => .int (RE n x (i + 1)))) := call1 (u := .list ((List.range (n - 1)).map fun i => .int (RE n x (i + 1)))) (by rw [eLst_ap, h2]; rfl) rfl
    rw [e2_ap, h1, h3]
    simp only [Option.bind_some, addD_t]
    rw [if_pos (by simp; exact le_line (by omega))]
    unfold tu
    obtain ⟨m, rfl⟩ : ∃ m, n = m + 1 := ⟨n - 1, by omega⟩
    rw [List.range_succ_eq_map, List.map_cons, List.map_map, RE_zero hx]
    rfl
  refine (sSeq_nx (e := [some (.v (tu n x)), some (.v (.int b)), some (.v (tu n (E n x))), some (.v (.int n)), some (.v (tu n fun j => 0 - x j)), some (.v (tu n fun j => cs1 j * x j)), some (.v (tu n (RE n x))), none, none, none, none, none]) (set_ap hwhole)).trans ?_
  refine (sSeq_nx (e := [some (.v (tu n x)), some (.v (.int b)), some (.v (tu n (E n x))), some (.v (.int n)), some (.v (tu n fun j => 0 - x j)), some (.v (tu n fun j => cs1 j * x j)), some (.v (tu n (RE n x))), some (.v (tu n fun j => x ((j + b) % n))), none, none, none, none]) (set_ap ?_)).trans ?_
  · have hT : eA F__law_turns (aCons (eVar 0) aNil) [some (.v (tu n x)), some (.v (.int b)), some (.v (tu n (E n x))), some (.v (.int n)), some (.v (tu n fun j => 0 - x j)), some (.v (tu n fun j => cs1 j * x j)), some (.v (tu n (RE n x))), none, none, none, none, none] = some (.list ((List.range n).map fun b => tu n fun j => x ((j + b) % n))) := call1 (by simp) (turns_ok x hn)
    rw [e2_ap, hT]
    simp only [eVar_s, eVar_z, Option.bind_some, ixD_l]
    exact atI_nat (by rw [List.getElem?_map, List.getElem?_range hb]; rfl)
  have hsm : ∀ m, m ≤ n → -(m : Int) ≤ sm m x ∧ sm m x ≤ m := by
    intro m
    induction m with
    | zero => intro _; simp [sm]
    | succ m ih =>
      intro h
      have := ih (by omega)
      show -((m + 1 : Nat) : Int) ≤ sm m x + x m ∧ sm m x + x m ≤ ((m + 1 : Nat) : Int)
      rcases hx m (by omega) with e | e <;> rw [e] <;> omega
  have hsn := hsm n (Nat.le_refl _)
  have eRT : tu n (RE n fun j => x ((j + b) % n)) = tu n (RE n x) := tu_congr fun k _ => RE_turn b
  refine (sSeq_nx (pass (tOr_ff (tNo_of (like_ap (d := .tuple [tu n (RE n x), tu n (RE n x)]) (pair_ap (call1 (by simp) (recho_ok n x hn hx)) ?_) (pair_ap (by simp) (by simp)) (tl2 _ _))) ?_))).trans ?_
  · rw [← eRT]; exact call1 (by simp) (recho_ok n _ hn htn)
  · have s1 : eA sumD (aCons (eVar 6) aNil) [some (.v (tu n x)), some (.v (.int b)), some (.v (tu n (E n x))), some (.v (.int n)), some (.v (tu n fun j => 0 - x j)), some (.v (tu n fun j => cs1 j * x j)), some (.v (tu n (RE n x))), some (.v (tu n fun j => x ((j + b) % n))), none, none, none, none] = some (.int (sm n x * sm n x)) := call1 (u := tu n (RE n x)) (by simp) (by rw [sumD_tu, RE_sum])
    have s2 : eA sumD (aCons (eVar 0) aNil) [some (.v (tu n x)), some (.v (.int b)), some (.v (tu n (E n x))), some (.v (.int n)), some (.v (tu n fun j => 0 - x j)), some (.v (tu n fun j => cs1 j * x j)), some (.v (tu n (RE n x))), some (.v (tu n fun j => x ((j + b) % n))), none, none, none, none] = some (.int (sm n x)) := call1 (u := tu n x) (by simp) sumD_tu
    rw [t1_ap, e2_ap, e2_ap, s1, s2]
    simp (disch := omega) only [Option.bind_some, mulD_l, neD_i, isB_bl]
    simp
  refine (sSeq_nx (e := [some (.v (tu n x)), some (.v (.int b)), some (.v (tu n (E n x))), some (.v (.int n)), some (.v (tu n fun j => 0 - x j)), some (.v (tu n fun j => cs1 j * x j)), some (.v (tu n (RE n x))), some (.v (tu n fun j => x ((j + b) % n))), some (.v (.bool (qt n (E n x)))), none, none, none]) (set_ap (quiet_ap (by simp) hn fun d => rfl))).trans ?_
  have q1 : eA F_is_quiet (aCons (eVar 0) aNil) [some (.v (tu n x)), some (.v (.int b)), some (.v (tu n (E n x))), some (.v (.int n)), some (.v (tu n fun j => 0 - x j)), some (.v (tu n fun j => cs1 j * x j)), some (.v (tu n (RE n x))), some (.v (tu n fun j => x ((j + b) % n))), some (.v (.bool (qt n (E n x)))), none, none, none] = some (.bool (qt n (E n x))) := call1 (by simp) (quiet_ok n x hn hx)
  have q2 : eA F_is_quiet (aCons (eVar 4) aNil) [some (.v (tu n x)), some (.v (.int b)), some (.v (tu n (E n x))), some (.v (.int n)), some (.v (tu n fun j => 0 - x j)), some (.v (tu n fun j => cs1 j * x j)), some (.v (tu n (RE n x))), some (.v (tu n fun j => x ((j + b) % n))), some (.v (.bool (qt n (E n x)))), none, none, none] = some (.bool (qt n (E n x))) := call1 (u := tu n fun j => 0 - x j) (by simp) (by rw [quiet_ok n _ hn hov, eov])
  have q3 : eA F_is_quiet (aCons (eSl (stepD (-1)) (eVar 0) pN pN) aNil) [some (.v (tu n x)), some (.v (.int b)), some (.v (tu n (E n x))), some (.v (.int n)), some (.v (tu n fun j => 0 - x j)), some (.v (tu n fun j => cs1 j * x j)), some (.v (tu n (RE n x))), some (.v (tu n fun j => x ((j + b) % n))), some (.v (.bool (qt n (E n x)))), none, none, none] = some (.bool (qt n (E n x))) := call1 (hrev _ (by simp)) (by rw [quiet_ok n _ hn hbk, qt_congr fun k hk => by rw [E_back hk]])
  have q4 : eA F_is_quiet (aCons (eVar 5) aNil) [some (.v (tu n x)), some (.v (.int b)), some (.v (tu n (E n x))), some (.v (.int n)), some (.v (tu n fun j => 0 - x j)), some (.v (tu n fun j => cs1 j * x j)), some (.v (tu n (RE n x))), some (.v (tu n fun j => x ((j + b) % n))), some (.v (.bool (qt n (E n x)))), none, none, none] = some (.bool (qt n (E n x))) := call1 (u := tu n fun j => cs1 j * x j) (by simp) (by rw [quiet_ok n _ hn hal, eal, qt_congr fun k hk => ab_cs k _])
  generalize qt n (E n x) = q at q1 q2 q3 q4 ⊢
  refine (sSeq_nx (set_ap (d := .tuple [.bool q, .bool q, .bool q, .bool q]) ?_)).trans ?_
  · simp only [eTup_ap, aCons_ap, aNil_ap, q1, q2, q3, q4, Option.bind_some]; rfl
  refine ret_ap (like_ap (d := .tuple [.bool q, .bool q, .bool q, .bool q]) (by simp) (by simp; rfl) (tl_t (by simp) fun z hz => ?_))
  simp at hz; subst hz; simp
end K55
end

section
set_option maxRecDepth 100000
set_option maxHeartbeats 4000000
namespace K55
open PySem L2 PV PVL
def qv : List D := [.tuple (([1] : List Int).map .int), .tuple (([1, -1] : List Int).map .int), .tuple (([1, -1, -1] : List Int).map .int), .tuple (([1, -1, -1, -1] : List Int).map .int), .tuple (([1, -1, 1, 1, 1] : List Int).map .int), .none, .tuple (([1, -1, 1, 1, -1, -1, -1] : List Int).map .int), .none, .none]
def sh : List D := [.tuple (([1, -1, -1] : List Int).map .int), .tuple (([1, 1, -1, 1, -1, -1, -1] : List Int).map .int), .tuple (([1, 1, 1, -1, 1, 1, -1, -1, 1, -1, 1, -1, -1, -1, -1] : List Int).map .int), .tuple (([1, 1, 1, 1, -1, 1, 1, -1, 1, -1, -1, 1, 1, -1, -1, -1, -1, -1, 1, 1, 1, -1, -1, 1, -1, -1, -1, 1, -1, 1, -1] : List Int).map .int)]
def szs : List Nat := [3, 7, 15, 31]
theorem q_tab : (List.range 9).map (fun i => F_quiet_signs [.int ((i + 1 : Nat) : Int)]) = (List.range 9).map fun i => some (qv.getD i .none) := by kernel_rfl
theorem s_tab : (List.range 4).map (fun i => F_shift_signs [.int ((i + 2 : Nat) : Int)]) = (List.range 4).map fun i => some (sh.getD i .none) := by kernel_rfl
def tv (i : Nat) : D := (F__law_turns [sh.getD i .none]).getD .none
theorem t_tab : (List.range 4).map (fun i => F__law_turns [sh.getD i .none]) = (List.range 4).map fun i => some (tv i) := by kernel_rfl
def cA : Ev → Option Bool := t1 isB (e2 neD (e2 isD (eVar 6) (eC .none)) (e2 inD (eVar 5) (eTup (aCons (eC (.int 6)) (aCons (eC (.int 8)) (aCons (eC (.int 9)) aNil))))))
def cB : Ev → Option Bool := tAn (t1 isB (e2 isntD (eVar 6) (eC .none))) (tOr' (t1 isB (e2 neD (eA lenD (aCons (eVar 6) aNil)) (eVar 5))) (tOr' (t1 isB (e2 neD (e2 ixD (eVar 6) (eC (.int 0))) (eC (.int 1)))) (t1 isB (e2 isntD (eA F_is_quiet (aCons (eVar 6) aNil)) (eC (.bool true))))))
def cC : Ev → Option Bool := tOr' (t1 isB (e2 neD (eA lenD (aCons (eVar 7) aNil)) (eVar 8))) (tNo (t1 truD (eA (F__law_like 12) (aCons (eA F_round_echo (aCons (eVar 7) aNil)) (aCons (e2 addD (eTup (aCons (eVar 8) aNil)) (e2 mulD (eTup (aCons (e1 negD (eC (.int 1))) aNil)) (e2 subD (eVar 8) (eC (.int 1))))) aNil)))))
def cD : Ev → Option Bool := t1 isB (e2 ninD (eA tupOfD (aCons (eLst (nLc [11] (nA rg1 (aCons (eVar 8) aNil)) (gN 11) tTrue (e2 ixD (eVar 7) (e2 modD (eA intD (aCons (e2 mulD (eC (.int 2)) (eVar 11)) aNil)) (eVar 8))))) aNil)) (eVar 9))
def cE : Ev → Option D := e2 inD (eA tupOfD (aCons (eLst (nLc [11] (nA rg1 (aCons (eVar 8) aNil)) (gN 11) tTrue (e2 mulD (e2 ixD (eVar 7) (eVar 11)) (e2 ixD (e2 ixD (eVar 9) (eVar 10)) (eVar 11))))) aNil)) (eVar 9)
theorem a_tab (s0 s1 s2 s3 : Option SV) : (List.range 9).map (fun i => (cA [s0, s1, s2, s3, none, some (.v (.int ((i + 1 : Nat) : Int))), some (.v (qv.getD i .none)), none, none, none, none, none], cB [s0, s1, s2, s3, none, some (.v (.int ((i + 1 : Nat) : Int))), some (.v (qv.getD i .none)), none, none, none, none, none])) = (List.range 9).map fun _ => (some false, some false) := by kernel_rfl
theorem c_tab (s0 s1 s2 s3 s5 s6 : Option SV) : (List.range 4).map (fun i => cC [s0, s1, s2, s3, some (.v (.int ((i + 2 : Nat) : Int))), s5, s6, some (.v (sh.getD i .none)), some (.v (.int (szs.getD i 0 : Nat))), none, none, none]) = (List.range 4).map fun _ => some false := by kernel_rfl
theorem d_tab (s0 s1 s2 s3 s5 s6 s10 : Option SV) : (List.range 4).map (fun i => cD [s0, s1, s2, s3, some (.v (.int ((i + 2 : Nat) : Int))), s5, s6, some (.v (sh.getD i .none)), some (.v (.int (szs.getD i 0 : Nat))), some (.v (tv i)), s10, none]) = (List.range 4).map fun _ => some false := by kernel_rfl
theorem e_tab (s0 s1 s2 s3 s5 s6 : Option SV) : (List.range 4).map (fun i => (List.range (szs.getD i 0 - 1)).map fun j => cE [s0, s1, s2, s3, some (.v (.int ((i + 2 : Nat) : Int))), s5, s6, some (.v (sh.getD i .none)), some (.v (.int (szs.getD i 0 : Nat))), some (.v (tv i)), some (.v (.int ((j + 1 : Nat) : Int))), none]) = (List.range 4).map fun i => (List.range (szs.getD i 0 - 1)).map fun _ => some (.bool true) := by kernel_rfl
end K55
end

section
set_option maxRecDepth 100000
set_option maxHeartbeats 4000000
namespace K55
open PySem L2 PV PVL
theorem law_true (ns : List Int) (hns : ns.length ≤ 63) : F_law [scrD ns] = some (.bool true) := by
  obtain ⟨row, hl, hb, hr⟩ := row_ok ns 36 (by decide)
  have hix : ∀ k : Nat, k < 36 → ixD (.list (row.map .int)) (.int (k : Int)) = some (.int (row.getD k 0)) := fun k hk => by
    rw [ixD_l]; exact at_intN (by rw [hl]; exact hk)
  have hr' : F__law_row [scrD ns, .int 36] = some (.list (row.map .int)) := hr
  have i0 : ixD (.list (row.map .int)) (.int 0) = some (.int (row.getD 0 0)) := hix 0 (by decide)
  have i1 : ixD (.list (row.map .int)) (.int 1) = some (.int (row.getD 1 0)) := hix 1 (by decide)
  have i2 : ixD (.list (row.map .int)) (.int 2) = some (.int (row.getD 2 0)) := hix 2 (by decide)
  have i3 : ixD (.list (row.map .int)) (.int 3) = some (.int (row.getD 3 0)) := hix 3 (by decide)
  obtain ⟨n0, hn0⟩ : ∃ i : Nat, (i : Int) = row.getD 0 0 % 31 := ⟨_, Int.toNat_of_nonneg (Int.emod_nonneg _ (by decide))⟩
  obtain ⟨m, hm⟩ : ∃ i : Nat, (i : Int) = row.getD 2 0 % 9 := ⟨_, Int.toNat_of_nonneg (Int.emod_nonneg _ (by decide))⟩
  obtain ⟨k, hk⟩ : ∃ i : Nat, (i : Int) = row.getD 3 0 % 4 := ⟨_, Int.toNat_of_nonneg (Int.emod_nonneg _ (by decide))⟩
  have hn31 : n0 < 31 := by have := Int.emod_lt_of_pos (row.getD 0 0) (show (0 : Int) < 31 by decide); omega
  have hm9 : m < 9 := by have := Int.emod_lt_of_pos (row.getD 2 0) (show (0 : Int) < 9 by decide); omega
  have hk4 : k < 4 := by have := Int.emod_lt_of_pos (row.getD 3 0) (show (0 : Int) < 4 by decide); omega
  obtain ⟨b, hbb⟩ : ∃ i : Nat, (i : Int) = row.getD 1 0 % ((n0 + 1 : Nat) : Int) := ⟨_, Int.toNat_of_nonneg (Int.emod_nonneg _ (by omega))⟩
  have hb2 : b < n0 + 1 := by have := Int.emod_lt_of_pos (row.getD 1 0) (show (0 : Int) < ((n0 + 1 : Nat) : Int) by omega); omega
  have hsz : ∀ i, i < 4 → 2 ≤ szs.getD i 0 - 1 ∧ szs.getD i 0 ≤ 31 := by decide
  obtain ⟨j, hj⟩ : ∃ i : Nat, (i : Int) = row.getD 1 0 % ((szs.getD k 0 - 1 : Nat) : Int) := ⟨_, Int.toNat_of_nonneg (Int.emod_nonneg _ (by have := hsz k hk4; omega))⟩
  have hj2 : j < szs.getD k 0 - 1 := by have := Int.emod_lt_of_pos (row.getD 1 0) (show (0 : Int) < ((szs.getD k 0 - 1 : Nat) : Int) by have := hsz k hk4; omega); omega
  let x : Nat → Int := fun p => 1 - 2 * (row.getD (4 + p) 0 % 2)
  have hx : sg (n0 + 1) x := fun p _ => by
    show 1 - 2 * (row.getD (4 + p) 0 % 2) = 1 ∨ 1 - 2 * (row.getD (4 + p) 0 % 2) = -1
    omega
  refine runD_rt rfl (show den_law [some (.v (scrD ns)), none, none, none, none, none, none, none, none, none, none, none] = _ from ?_)
  unfold den_law
  refine (sSeq_nx (e := [some (.v (scrD ns)), some (.v (.list (row.map .int))), none, none, none, none, none, none, none, none, none, none]) (set_ap (call2 (by simp) (by simp) hr'))).trans ?_
  refine (sSeq_nx (e := [some (.v (scrD ns)), some (.v (.list (row.map .int))), some (.v (.int ((n0 + 1 : Nat) : Int))), none, none, none, none, none, none, none, none, none]) (set_ap ?_)).trans ?_
  · simp (disch := omega) only [e2_ap, eA_ap, aCons_ap, aNil_ap, eC_ap, eVar_s, eVar_z, Option.bind_some, i0, intD_i, modD_i, addD_i, ← hn0]
    congr 2; omega
  refine (sSeq_nx (e := [some (.v (scrD ns)), some (.v (.list (row.map .int))), some (.v (.int ((n0 + 1 : Nat) : Int))), some (.v (tu (n0 + 1) x)), none, none, none, none, none, none, none, none]) (set_ap (comp_tu (by simp) (by omega) fun p hp => ?_))).trans ?_
  · have h3 := hix (4 + p) (by omega)
    have e3 : (4 : Int) + (0 + (p : Int)) = ((4 + p : Nat) : Int) := by omega
    simp (disch := omega) only [e2_ap, eA_ap, aCons_ap, aNil_ap, eC_ap, eVar_s, eVar_z, st_s, st_z, Option.bind_some, addD_i, e3, h3, intD_i, modD_i, mulD_l, subD_i]
    rfl
  refine (sSeq_nx (pass (tNo_of (call2 (u := tu (n0 + 1) x) (v := .int (b : Int)) (by simp) ?_ (echo_right x (by omega) (by omega) hx b hb2))))).trans ?_
  · simp (disch := omega) only [e2_ap, eA_ap, aCons_ap, aNil_ap, eC_ap, eVar_s, eVar_z, Option.bind_some, i1, intD_i, modD_i, ← hbb]
  refine (sSeq_nx (e := [some (.v (scrD ns)), some (.v (.list (row.map .int))), some (.v (.int ((n0 + 1 : Nat) : Int))), some (.v (tu (n0 + 1) x)), none, some (.v (.int ((m + 1 : Nat) : Int))), none, none, none, none, none, none]) (set_ap ?_)).trans ?_
  · simp (disch := omega) only [e2_ap, eA_ap, aCons_ap, aNil_ap, eC_ap, eVar_s, eVar_z, Option.bind_some, i2, intD_i, modD_i, addD_i, ← hm]
    congr 2; omega
  have hq := List.map_inj_left.mp q_tab m (List.mem_range.mpr hm9)
  refine (sSeq_nx (e := [some (.v (scrD ns)), some (.v (.list (row.map .int))), some (.v (.int ((n0 + 1 : Nat) : Int))), some (.v (tu (n0 + 1) x)), none, some (.v (.int ((m + 1 : Nat) : Int))), some (.v (qv.getD m .none)), none, none, none, none, none]) (set_ap (call1 (by simp) hq))).trans ?_
  have ha := List.map_inj_left.mp (a_tab (some (.v (scrD ns))) (some (.v (.list (row.map .int)))) (some (.v (.int ((n0 + 1 : Nat) : Int)))) (some (.v (tu (n0 + 1) x)))) m (List.mem_range.mpr hm9)
  refine (sSeq_nx (pass (show cA _ = _ from congrArg Prod.fst ha))).trans ?_
  refine (sSeq_nx (pass (show cB _ = _ from congrArg Prod.snd ha))).trans ?_
  generalize qv.getD m .none = q
  refine (sSeq_nx (e := [some (.v (scrD ns)), some (.v (.list (row.map .int))), some (.v (.int ((n0 + 1 : Nat) : Int))), some (.v (tu (n0 + 1) x)), some (.v (.int ((k + 2 : Nat) : Int))), some (.v (.int ((m + 1 : Nat) : Int))), some (.v q), none, none, none, none, none]) (set_ap ?_)).trans ?_
  · simp (disch := omega) only [e2_ap, eA_ap, aCons_ap, aNil_ap, eC_ap, eVar_s, eVar_z, Option.bind_some, i3, intD_i, modD_i, addD_i, ← hk]
    congr 2; omega
  have hs := List.map_inj_left.mp s_tab k (List.mem_range.mpr hk4)
  refine (sSeq_nx (e := [some (.v (scrD ns)), some (.v (.list (row.map .int))), some (.v (.int ((n0 + 1 : Nat) : Int))), some (.v (tu (n0 + 1) x)), some (.v (.int ((k + 2 : Nat) : Int))), some (.v (.int ((m + 1 : Nat) : Int))), some (.v q), some (.v (sh.getD k .none)), none, none, none, none]) (set_ap (call1 (by simp) hs))).trans ?_
  refine (sSeq_nx (e := [some (.v (scrD ns)), some (.v (.list (row.map .int))), some (.v (.int ((n0 + 1 : Nat) : Int))), some (.v (tu (n0 + 1) x)), some (.v (.int ((k + 2 : Nat) : Int))), some (.v (.int ((m + 1 : Nat) : Int))), some (.v q), some (.v (sh.getD k .none)), some (.v (.int (szs.getD k 0 : Nat))), none, none, none]) (set_ap ?_)).trans ?_
  · have : k = 0 ∨ k = 1 ∨ k = 2 ∨ k = 3 := by omega
    rcases this with rfl | rfl | rfl | rfl <;> rfl
  refine (sSeq_nx (pass (show cC _ = _ from List.map_inj_left.mp (c_tab _ _ _ _ _ _) k (List.mem_range.mpr hk4)))).trans ?_
  have ht := List.map_inj_left.mp t_tab k (List.mem_range.mpr hk4)
  have hs1 : ((szs.getD k 0 : Nat) : Int) - 1 = ((szs.getD k 0 - 1 : Nat) : Int) := by have := hsz k hk4; omega
  refine (sSeq_nx (e := [some (.v (scrD ns)), some (.v (.list (row.map .int))), some (.v (.int ((n0 + 1 : Nat) : Int))), some (.v (tu (n0 + 1) x)), some (.v (.int ((k + 2 : Nat) : Int))), some (.v (.int ((m + 1 : Nat) : Int))), some (.v q), some (.v (sh.getD k .none)), some (.v (.int (szs.getD k 0 : Nat))), some (.v (tv k)), some (.v (.int ((j + 1 : Nat) : Int))), none]) ?_).trans ?_
  · rw [sAsg_ap, pair_ap (u := tv k) (v := .int ((j + 1 : Nat) : Int)) (call1 (u := sh.getD k .none) (by simp only [eVar_s, eVar_z]) ht) ?_]
    · rfl
    · have hs0 := hsz k hk4
      simp (disch := omega) only [e2_ap, eA_ap, aCons_ap, aNil_ap, eC_ap, eVar_s, eVar_z, Option.bind_some, i1, intD_i, subD_i, hs1, modD_i, addD_i, ← hj]
      congr 2; omega
  refine (sSeq_nx (pass (show cD _ = _ from List.map_inj_left.mp (d_tab _ _ _ _ _ _ _) k (List.mem_range.mpr hk4)))).trans ?_
  exact ret_ap (show cE _ = _ from List.map_inj_left.mp (List.map_inj_left.mp (e_tab _ _ _ _ _ _) k (List.mem_range.mpr hk4)) j (List.mem_range.mpr hj2))
end K55
end

section
set_option maxRecDepth 100000
set_option maxHeartbeats 0
namespace K55
open PySem PySem.Spec PyProof.Rows L2 PV PVL

def dd_echo_of : He.DefD := ⟨("echo_of", none), "echo_of", "echo_of", defArgs s_echo_of, defBody s_echo_of, defScope s_echo_of, [], []⟩
def dd_round_echo : He.DefD := ⟨("round_echo", none), "round_echo", "round_echo", defArgs s_round_echo, defBody s_round_echo, defScope s_round_echo, [], []⟩
def dd_is_quiet : He.DefD := ⟨("is_quiet", none), "is_quiet", "is_quiet", defArgs s_is_quiet, defBody s_is_quiet, defScope s_is_quiet, [], []⟩
def dd_quiet_signs : He.DefD := ⟨("quiet_signs", none), "quiet_signs", "quiet_signs", defArgs s_quiet_signs, defBody s_quiet_signs, defScope s_quiet_signs, [], []⟩
def dd_shift_signs : He.DefD := ⟨("shift_signs", none), "shift_signs", "shift_signs", defArgs s_shift_signs, defBody s_shift_signs, defScope s_shift_signs, [], []⟩
def dd__law_mixed : He.DefD := ⟨("_law_mixed", none), "_law_mixed", "_law_mixed", defArgs s__law_mixed, defBody s__law_mixed, defScope s__law_mixed, [], []⟩
def dd__law_row : He.DefD := ⟨("_law_row", none), "_law_row", "_law_row", defArgs s__law_row, defBody s__law_row, defScope s__law_row, [], []⟩
def dd__law_is_int : He.DefD := ⟨("_law_is_int", none), "_law_is_int", "_law_is_int", defArgs s__law_is_int, defBody s__law_is_int, defScope s__law_is_int, [], []⟩
def dd__law_like : He.DefD := ⟨("_law_like", none), "_law_like", "_law_like", defArgs s__law_like, defBody s__law_like, defScope s__law_like, [], []⟩
def dd__law_turns : He.DefD := ⟨("_law_turns", none), "_law_turns", "_law_turns", defArgs s__law_turns, defBody s__law_turns, defScope s__law_turns, [], []⟩
def dd__law_echo_right : He.DefD := ⟨("_law_echo_right", none), "_law_echo_right", "_law_echo_right", defArgs s__law_echo_right, defBody s__law_echo_right, defScope s__law_echo_right, [], []⟩
def dd_law : He.DefD := ⟨("law", none), "law", "law", defArgs s_law, defBody s_law, defScope s_law, [], []⟩
def fn : List He.DefD := [dd_echo_of, dd_round_echo, dd_is_quiet, dd_quiet_signs, dd_shift_signs, dd__law_mixed, dd__law_row, dd__law_is_int, dd__law_like, dd__law_turns, dd__law_echo_right, dd_law]
def fa : List He.Fa := [.glo "echo_of", .glo "round_echo", .glo "is_quiet", .glo "quiet_signs", .glo "shift_signs", .glo "_law_mixed", .glo "_law_row", .glo "_law_is_int", .glo "_law_like", .glo "_law_turns", .glo "_law_echo_right", .glo "law", .free "len", .free "range", .free "tuple", .free "list", .free "sum", .free "int", .free "isinstance", .free "all", .free "any", .free "abs", .free "min", .free "max", .free "sorted", .free "set", .free "enumerate", .free "zip", .free "dict", .free "reversed", .free "str", .free "bool"]
def cs : List (Str × List (Int × Int)) := [("SHIFTS", k_SHIFTS)]
section
variable {K : PySem.W.Frag} {h : Heap} {mg : Str → Option Value}
theorem defs_of (X : K.In h) (G : h.Ns mainGlobals mg) (c : He.SaysD fa fn K) : Defs K mg where
  f_echo_of := by
    obtain ⟨fd, F⟩ := c.def_ 0 (d := dd_echo_of) rfl
    exact ⟨_, fd, He.glo_ok X G (c.fact 0 (f := .glo "echo_of") rfl), F⟩
  f_round_echo := by
    obtain ⟨fd, F⟩ := c.def_ 1 (d := dd_round_echo) rfl
    exact ⟨_, fd, He.glo_ok X G (c.fact 1 (f := .glo "round_echo") rfl), F⟩
  f_is_quiet := by
    obtain ⟨fd, F⟩ := c.def_ 2 (d := dd_is_quiet) rfl
    exact ⟨_, fd, He.glo_ok X G (c.fact 2 (f := .glo "is_quiet") rfl), F⟩
  f_quiet_signs := by
    obtain ⟨fd, F⟩ := c.def_ 3 (d := dd_quiet_signs) rfl
    exact ⟨_, fd, He.glo_ok X G (c.fact 3 (f := .glo "quiet_signs") rfl), F⟩
  f_shift_signs := by
    obtain ⟨fd, F⟩ := c.def_ 4 (d := dd_shift_signs) rfl
    exact ⟨_, fd, He.glo_ok X G (c.fact 4 (f := .glo "shift_signs") rfl), F⟩
  f__law_mixed := by
    obtain ⟨fd, F⟩ := c.def_ 5 (d := dd__law_mixed) rfl
    exact ⟨_, fd, He.glo_ok X G (c.fact 5 (f := .glo "_law_mixed") rfl), F⟩
  f__law_row := by
    obtain ⟨fd, F⟩ := c.def_ 6 (d := dd__law_row) rfl
    exact ⟨_, fd, He.glo_ok X G (c.fact 6 (f := .glo "_law_row") rfl), F⟩
  f__law_is_int := by
    obtain ⟨fd, F⟩ := c.def_ 7 (d := dd__law_is_int) rfl
    exact ⟨_, fd, He.glo_ok X G (c.fact 7 (f := .glo "_law_is_int") rfl), F⟩
  f__law_like := by
    obtain ⟨fd, F⟩ := c.def_ 8 (d := dd__law_like) rfl
    exact ⟨_, fd, He.glo_ok X G (c.fact 8 (f := .glo "_law_like") rfl), F⟩
  f__law_turns := by
    obtain ⟨fd, F⟩ := c.def_ 9 (d := dd__law_turns) rfl
    exact ⟨_, fd, He.glo_ok X G (c.fact 9 (f := .glo "_law_turns") rfl), F⟩
  f__law_echo_right := by
    obtain ⟨fd, F⟩ := c.def_ 10 (d := dd__law_echo_right) rfl
    exact ⟨_, fd, He.glo_ok X G (c.fact 10 (f := .glo "_law_echo_right") rfl), F⟩
  f_law := by
    obtain ⟨fd, F⟩ := c.def_ 11 (d := dd_law) rfl
    exact ⟨_, fd, He.glo_ok X G (c.fact 11 (f := .glo "law") rfl), F⟩
theorem std_of (X : K.In h) (G : h.Ns mainGlobals mg) (c : He.SaysD fa fn K) : Std mg where
  «len» := He.free_ok X G (c.fact 12 (f := .free "len") rfl)
  «range» := He.free_ok X G (c.fact 13 (f := .free "range") rfl)
  «tuple» := He.free_ok X G (c.fact 14 (f := .free "tuple") rfl)
  «list» := He.free_ok X G (c.fact 15 (f := .free "list") rfl)
  «sum» := He.free_ok X G (c.fact 16 (f := .free "sum") rfl)
  «int» := He.free_ok X G (c.fact 17 (f := .free "int") rfl)
  «isinstance» := He.free_ok X G (c.fact 18 (f := .free "isinstance") rfl)
  «all» := He.free_ok X G (c.fact 19 (f := .free "all") rfl)
  «any» := He.free_ok X G (c.fact 20 (f := .free "any") rfl)
  «abs» := He.free_ok X G (c.fact 21 (f := .free "abs") rfl)
  «min» := He.free_ok X G (c.fact 22 (f := .free "min") rfl)
  «max» := He.free_ok X G (c.fact 23 (f := .free "max") rfl)
  «sorted» := He.free_ok X G (c.fact 24 (f := .free "sorted") rfl)
  «set» := He.free_ok X G (c.fact 25 (f := .free "set") rfl)
  «enumerate» := He.free_ok X G (c.fact 26 (f := .free "enumerate") rfl)
  «zip» := He.free_ok X G (c.fact 27 (f := .free "zip") rfl)
  «dict» := He.free_ok X G (c.fact 28 (f := .free "dict") rfl)
  «reversed» := He.free_ok X G (c.fact 29 (f := .free "reversed") rfl)
  «str» := He.free_ok X G (c.fact 30 (f := .free "str") rfl)
  «bool» := He.free_ok X G (c.fact 31 (f := .free "bool") rfl)
theorem consts_of (X : K.In h) (G : h.Ns mainGlobals mg) (c : csOk cs K = true) : Consts K mg where
  c_SHIFTS := cOk_spec X G (List.all_eq_true.mp c ("SHIFTS", k_SHIFTS) (List.mem_of_getElem? (i := 0) rfl))
end
end K55
open PySem PySem.W PySem.Calls PyProof.Rows
theorem PySem.Challenge.cw_soundsjoined_k55_whole_echoes_turned_holds : PySem.Challenge.rw_soundsjoined_k55_whole_echoes_turned.Holds :=
  by
  w_on; o_law; k_head; (case hw => w_witness2)
  refine L2.walk_ofE (l := PySem.Challenge.rw_soundsjoined_k55_whole_echoes_turned) (n := 63) (k := 15 + 1) (x := "script") (CX := L2.CX0) rfl (by decide) rfl ⟨rfl, by decide, by decide⟩ ?F (fun _ _ _ _ z => z)
  intro w mg fa h Y G hmg0
  obtain ⟨K, hK, KX⟩ : ∃ K, K = _ ∧ PySem.W.Frag.In K h := ⟨_, rfl, PySem.W.kIn_of Y⟩
  have c : He.obsD K55.fa K55.fn K = He.valD K55.fn := by rw [hK]; kernel_rfl
  have c2 : PV.csOk K55.cs K = true := by rw [hK]; kernel_rfl
  have hmg : mg ("law" : PySem.Str) = some (.ref fa) := hmg0
  have Df := K55.defs_of KX G c
  have T := K55.std_of KX G c
  have Ks := K55.consts_of KX G c2
  exact PV.law_end KX hmg Df.f_law K55.sc_law (fun base _ _ f cdv A outer s0 H E hr => K55.body_law Df T Ks f cdv A outer s0 H E hr)
    (fun f fd F s0 u => (F.bindsA (ps := ["script"]) (fun _ _ _ _ _ _ us hl => match us, hl with | [_], _ => rfl)) s0 [u] rfl) K55.law_true
end
